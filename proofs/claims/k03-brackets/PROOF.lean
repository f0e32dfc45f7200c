import PyProof.Rows.All
import Wide.All
import OpenK.AllK
import Wide.FinOn
import HandS.ForMost
import HandS.Exc
import HandS.TryOnly
import HandS.ExcOwn
import HandS.WordsExc
import HandS.IsInst
import HandS.Wide
import HandS.TupAny
import HandS.Codes
import HandS.RaiseMore
import HandS.EndTab
import PySem.Challenge.RW_passpapers_k03_brackets
set_option Elab.async false
set_option linter.all false
set_option maxRecDepth 100000
set_option maxHeartbeats 4000000
/-! Mi0: a small language with a store, its run: what the program's text is led back to. -/
namespace Mi
open PySem PySem.Spec PyProof.Rows L2

/-- values: tuples stand in themselves, what can change stands in the store -/
inductive W where
  | non | bl (b : Bool) | int (i : Int) | str (x : Str) | tup (xs : List W) | ref (n : Nat)

inductive AO where
  | lst (xs : List W) | frz (ns : List Int) | dic (kvs : List (Key × W)) | ins (c : Nat) (fs : List (Str × W))

abbrev Sto := List AO
abbrev Sl := List (Option W)

structure Xn where
  c : Nat
  fs : List (Str × W)

inductive R (α : Type) where
  | ok (a : α) (τ : Sto) | exn (x : Xn) (ρ : Sl) (τ : Sto) | no

def R.bind {α β : Type} : R α → (α → Sto → R β) → R β
  | .ok a τ, f => f a τ
  | .exn x ρ τ, _ => .exn x ρ τ
  | .no, _ => .no
@[simp] theorem R.bind_ok {α β : Type} (a : α) (τ : Sto) (f : α → Sto → R β) : (R.ok a τ).bind f = f a τ := rfl
@[simp] theorem R.bind_exn {α β : Type} (x : Xn) (ρ : Sl) (τ : Sto) (f : α → Sto → R β) : (R.exn x ρ τ : R α).bind f = .exn x ρ τ := rfl
@[simp] theorem R.bind_no {α β : Type} (f : α → Sto → R β) : (R.no : R α).bind f = .no := rfl

/-- an option lifted -/
def lift {α : Type} (τ : Sto) : Option α → R α
  | some a => .ok a τ
  | none => .no
@[simp] theorem lift_some {α : Type} (τ : Sto) (a : α) : lift τ (some a) = .ok a τ := rfl
@[simp] theorem lift_none {α : Type} (τ : Sto) : (lift τ (none : Option α)) = .no := rfl

inductive G where
  | name (i : Nat) | tup (is : List Nat)

inductive BI where
  | len | int | str | abs | max2 | min2 | list | tuple
inductive Ty where
  | none | bool | int | str | tuple | list | dict
  deriving DecidableEq
inductive BM where
  | append | pop | popAt | startswith | split | join

inductive E where
  | var (i : Nat) | con (w : W) | nil | cons (a r : E)
  | op (o : Operator) (a b : E) | neg (a : E)
  | cmp (o : CmpOp) (a b : E) | chain (o o' : CmpOp) (a b c : E)
  | conj (as : E) | disj (as : E) | not (a : E) | ite (t a b : E)
  | tup (as : E) | lst (as : E) | dic (ks vs : E)
  | ix (a b : E) | slice (a lo hi : E)
  | fld (a : E) (f : Str)
  | call (f : Nat) (as : E) | meth (m : Str) (o as : E) | make (c : Nat) (as : E)
  | bi (b : BI) (as : E) | isi (a : E) (t : Ty)
  | bm (m : BM) (o as : E)
  | lc (g : G) (it ts elt : E) (vs : List Nat)
  | seq (a : E) | rng (as : E) | zip (as : E) | enum (a : E) | rev (a : E)

inductive S where
  | nil | cons (s r : S)
  | ex (e : E)
  | set (i : Nat) (e : E) | setT (is : List Nat) (e : E) | setP (i j : Nat) (as : E)
  | setF (o : E) (f : Str) (e : E) | setI (o i e : E)
  | aug (i : Nat) (o : Operator) (e : E) | augF (o : E) (f : Str) (p : Operator) (e : E)
  | ife (t : E) (a b : S) | loop (g : G) (it : E) (b : S) | whl (t : E) (b : S)
  | ret (e : E) | retN | brk | cont | pass
  | raise (c : Nat) (as : E) | try (b : S) (c : Nat) (i : Option Nat) (h : S)

inductive Fl where
  | nx (ρ : Sl) | rt (w : W) | bk (ρ : Sl) | ct (ρ : Sl)

/-! ### operations on values -/
def cut (xs : List W) (lo hi : Option Int) : List W := (xs.drop (HT.sIx xs.length 0 lo)).take (HT.sIx xs.length xs.length hi - HT.sIx xs.length 0 lo)

/-- a list that can be read -/
def seqOf (τ : Sto) (n : Nat) : Option (List W) :=
  match τ[n]? with
  | some (.lst xs) => some xs
  | some (.frz ns) => some (ns.map .int)
  | _ => none

def mapO {α β : Type} (f : α → Option β) : List α → Option (List β)
  | [] => some []
  | x :: r => match f x, mapO f r with
    | some a, some b => some (a :: b)
    | _, _ => none
/-- a value as data, its lists as they stand; depth d -/
def toD (τ : Sto) : Nat → W → Option PyData
  | 0, w => match w with
    | .non => some .none
    | .bl b => some (.bool b)
    | .int i => some (.int i)
    | .str x => some (.str x)
    | _ => none
  | d + 1, w => match w with
    | .non => some .none
    | .bl b => some (.bool b)
    | .int i => some (.int i)
    | .str x => some (.str x)
    | .tup xs => (mapO (toD τ d) xs).map .tuple
    | .ref n => match seqOf τ n with
      | some xs => (mapO (toD τ d) xs).map .list
      | none => none

def binI (o : Operator) (i j : Int) : Option Int :=
  match o with
  | .Add => some (i + j)
  | .Sub => some (i - j)
  | .Mult => if (-(2 ^ 64) < i ∧ i < 2 ^ 64) ∨ (-(2 ^ 64) < j ∧ j < 2 ^ 64) then some (i * j) else none
  | .FloorDiv => if 0 < j ∧ j < 1073741824 then some (i / j) else if j ≠ 0 ∧ j.natAbs < 1073741824 then some (i.fdiv j) else none
  | .Mod => if 0 < j then some (i % j) else if j ≠ 0 then some (i.fmod j) else none
  | .Pow => if 0 ≤ j ∧ j ≤ 1000000 ∧ i.natAbs < 2 ^ 64 then some (i ^ j.toNat) else none
  | _ => none

def binop (o : Operator) (a b : W) (τ : Sto) : R W :=
  match a, b with
  | .int i, .int j => lift τ ((binI o i j).map .int)
  | .str x, .str y => match o with
    | .Add => if x.length + y.length ≤ sizeLine then .ok (.str (x ++ y)) τ else .no
    | _ => .no
  | .tup xs, .tup ys => match o with
    | .Add => if xs.length + ys.length ≤ sizeLine then .ok (.tup (xs ++ ys)) τ else .no
    | _ => .no
  | .ref n, .ref m => match o, τ[n]?, τ[m]? with
    | .Add, some (.lst xs), some (.lst ys) => if xs.length + ys.length ≤ sizeLine then .ok (.ref τ.length) (τ ++ [.lst (xs ++ ys)]) else .no
    | _, _, _ => .no
  | .ref n, .int k => match o, τ[n]? with
    | .Mult, some (.lst xs) => if -(2 ^ 63) ≤ k ∧ k < 2 ^ 63 ∧ xs.length * k.toNat ≤ sizeLine then .ok (.ref τ.length) (τ ++ [.lst (List.replicate k.toNat xs).flatten]) else .no
    | _, _ => .no
  | _, _ => .no

/-- flat values, == of such -/
def flat : W → Bool
  | .non => true | .bl _ => true | .int _ => true | .str _ => true | _ => false
def eqF : W → W → Bool
  | .non, .non => true
  | .bl a, .bl b => a == b
  | .bl a, .int b => (if a then 1 else 0) == b
  | .int a, .bl b => a == (if b then 1 else 0)
  | .int a, .int b => a == b
  | .str a, .str b => a == b
  | _, _ => false
def inF (x : W) (xs : List W) : Bool := xs.any fun y => eqF y x

def keyOf : W → Option Key
  | .int i => some (.inl i)
  | .str x => some (.inr x)
  | _ => none
def kvGet (kvs : List (Key × W)) (k : Key) : Option W := (kvs.find? fun kv => decide (kv.1 = k)).map (·.2)
def kvPut (kvs : List (Key × W)) (k : Key) (v : W) : List (Key × W) :=
  if (kvs.any fun kv => decide (kv.1 = k)) = true then kvs.map (fun kv => if kv.1 = k then (kv.1, v) else kv) else kvs ++ [(k, v)]

def eqW (τ : Sto) (a b : W) : Option Bool :=
  match toD τ 64 a, toD τ 64 b with
  | some d, some e => if SeqAt.shaped d = true ∧ SeqAt.shaped e = true then some (PyData.eqv d e) else none
  | _, _ => none

def isIn (x y : Str) : Bool := !(Builtin.Str.occurrences y x 0 y.length 1).isEmpty
def inW (τ : Sto) (a b : W) : Option Bool :=
  match b with
  | .str y => match a with
    | .str x => some (isIn x y)
    | _ => none
  | .tup ys => if flat a = true ∧ ys.all flat = true then some (inF a ys) else none
  | .ref n => match τ[n]? with
    | some (.lst ys) => if flat a = true ∧ ys.all flat = true then some (inF a ys) else none
    | some (.frz ns) => if flat a = true then some (inF a (ns.map .int)) else none
    | some (.dic kvs) => (keyOf a).map fun k => (kvGet kvs k).isSome
    | _ => none
  | _ => none

def cmpop (o : CmpOp) (a b : W) (τ : Sto) : Option Bool :=
  match o with
  | .Lt => match a, b with
    | .int i, .int j => some (decide (i < j))
    | _, _ => none
  | .LtE => match a, b with
    | .int i, .int j => some (decide (i ≤ j))
    | _, _ => none
  | .Gt => match a, b with
    | .int i, .int j => some (decide (j < i))
    | _, _ => none
  | .GtE => match a, b with
    | .int i, .int j => some (decide (j ≤ i))
    | _, _ => none
  | .Eq => eqW τ a b
  | .NotEq => (eqW τ a b).map (!·)
  | .In => inW τ a b
  | .NotIn => (inW τ a b).map (!·)
  | .Is => match b with
    | .non => some (match a with | .non => true | _ => false)
    | _ => none
  | .IsNot => match b with
    | .non => some (match a with | .non => false | _ => true)
    | _ => none

def truth (τ : Sto) : W → Option Bool
  | .non => some false
  | .bl b => some b
  | .int i => some (i != 0)
  | .str x => if x.length ≤ sizeLine then some ((x.length : Int) != 0) else none
  | .tup xs => some (!xs.isEmpty)
  | .ref n => match τ[n]? with
    | some (.lst xs) => some (!xs.isEmpty)
    | some (.frz xs) => some (!xs.isEmpty)
    | some (.dic kvs) => some (!kvs.isEmpty)
    | _ => none

def itemAt (τ : Sto) (a b : W) : Option W :=
  match a, b with
  | .tup xs, .int i => atI xs i
  | .str z, .int i => if z.length ≤ sizeLine then (atI z.cps.toList i).map fun c => .str ⟨#[c]⟩ else none
  | .ref n, b => match τ[n]? with
    | some (.lst xs) => match b with
      | .int i => atI xs i
      | _ => none
    | some (.frz ns) => match b with
      | .int i => atI (ns.map W.int) i
      | _ => none
    | some (.dic kvs) => (keyOf b).bind (kvGet kvs)
    | _ => none
  | _, _ => none

def optI : W → Option (Option Int)
  | .non => some none
  | .int i => some (some i)
  | _ => none

def sliceW (a : W) (lo hi : Option Int) (τ : Sto) : R W :=
  match a with
  | .tup xs => .ok (.tup (cut xs lo hi)) τ
  | .str z => if z.length ≤ sizeLine then .ok (.str (cutS z lo hi)) τ else .no
  | .ref n => match seqOf τ n with
    | some xs => .ok (.ref τ.length) (τ ++ [.lst (cut xs lo hi)])
    | none => .no
  | _ => .no

/-- a new list -/
def newL (τ : Sto) (xs : List W) : R W := .ok (.ref τ.length) (τ ++ [.lst xs])

def tyOf (τ : Sto) : W → Option Ty
  | .non => some .none
  | .bl _ => some .bool
  | .int _ => some .int
  | .str _ => some .str
  | .tup _ => some .tuple
  | .ref n => match τ[n]? with
    | some (.lst _) => some .list
    | some (.frz _) => some .list
    | some (.dic _) => some .dict
    | _ => none
def inst (a t : Ty) : Bool := decide (a = t) || (decide (a = .bool) && decide (t = .int))

def bLen (ws : List W) (τ : Sto) : R W := match ws with
  | [.str x] => if x.length ≤ sizeLine then .ok (.int x.length) τ else .no
  | [.tup xs] => .ok (.int xs.length) τ
  | [.ref n] => match τ[n]? with
    | some (.lst xs) => .ok (.int xs.length) τ
    | some (.frz xs) => .ok (.int xs.length) τ
    | some (.dic kvs) => .ok (.int kvs.length) τ
    | _ => .no
  | _ => .no
def bInt (ws : List W) (τ : Sto) : R W := match ws with
  | [.int i] => .ok (.int i) τ
  | [.bl k] => .ok (.int (if k then 1 else 0)) τ
  | [.str x] => match PySem.intText? x with
    | some n => if x.length ≤ 640 then .ok (.int n) τ else .no
    | none => .no
  | _ => .no
def bStr (ws : List W) (τ : Sto) : R W := match ws with
  | [.int i] => if i.natAbs.log2 < 1920 then .ok (.str (toString i)) τ else .no
  | [.str x] => .ok (.str x) τ
  | _ => .no
def bAbs (ws : List W) (τ : Sto) : R W := match ws with
  | [.int i] => .ok (.int (if i < 0 then -i else i)) τ
  | _ => .no
def bMax2 (ws : List W) (τ : Sto) : R W := match ws with
  | [.int i, .int j] => .ok (.int (if j > i then j else i)) τ
  | _ => .no
def bMin2 (ws : List W) (τ : Sto) : R W := match ws with
  | [.int i, .int j] => .ok (.int (if j < i then j else i)) τ
  | _ => .no
def bList (ws : List W) (τ : Sto) : R W := match ws with
  | [.tup xs] => newL τ xs
  | [.ref n] => match seqOf τ n with
    | some xs => newL τ xs
    | none => .no
  | _ => .no
def bTuple (ws : List W) (τ : Sto) : R W := match ws with
  | [.tup xs] => .ok (.tup xs) τ
  | [.ref n] => match seqOf τ n with
    | some xs => .ok (.tup xs) τ
    | none => .no
  | _ => .no
/-- a built-in's call -/
def builtin (b : BI) (ws : List W) (τ : Sto) : R W :=
  match b with
  | .len => bLen ws τ
  | .int => bInt ws τ
  | .str => bStr ws τ
  | .abs => bAbs ws τ
  | .max2 => bMax2 ws τ
  | .min2 => bMin2 ws τ
  | .list => bList ws τ
  | .tuple => bTuple ws τ

def mAppend (o : W) (ws : List W) (τ : Sto) : R W := match o with
  | .ref n => match ws with
    | [w] => match τ[n]? with
      | some (.lst xs) => if xs.length < sizeLine then .ok .non (τ.set n (.lst (xs ++ [w]))) else .no
      | _ => .no
    | _ => .no
  | _ => .no
def mPop (o : W) (ws : List W) (τ : Sto) : R W := match o with
  | .ref n => match ws with
    | [] => match τ[n]? with
      | some (.lst xs) => match xs[xs.length - 1]? with
        | some y => .ok y (τ.set n (.lst xs.dropLast))
        | none => .no
      | _ => .no
    | _ => .no
  | _ => .no
def strOf : W → Option Str
  | .str x => some x
  | _ => none
def strsOf : List W → Option (List Str) := mapO strOf
def mJoin (o : W) (ws : List W) (τ : Sto) : R W := match o with
  | .str a => match ws with
    | [.ref n] => match (seqOf τ n).bind strsOf with
      | some ys => if (ys.map (·.length)).sum + ys.length * a.length ≤ 16777216 then .ok (.str (Txt.join a ys)) τ else .no
      | none => .no
    | _ => .no
  | _ => .no
def mStarts (o : W) (ws : List W) (τ : Sto) : R W := match o with
  | .str a => match ws with
    | [.str b] => .ok (.bl (Txt.startswith a b)) τ
    | _ => .no
  | _ => .no
def mSplit (o : W) (ws : List W) (τ : Sto) : R W := match o with
  | .str a => match ws with
    | [.str b] => if (b.length == 0) = false ∧ a.length + 2 ≤ sizeLine then newL τ ((Txt.split a b).map .str) else .no
    | _ => .no
  | _ => .no
def isLst (τ : Sto) (o : W) : Bool := match o with
  | .ref n => match τ[n]? with
    | some (.lst _) => true
    | _ => false
  | _ => false
def isStr (o : W) : Bool := match o with
  | .str _ => true
  | _ => false
/-- a method of such a thing there is -/
def bmPre (m : BM) (o : W) (τ : Sto) : Bool :=
  match m with
  | .append => isLst τ o
  | .pop => isLst τ o
  | .popAt => isLst τ o
  | _ => isStr o
/-- a method of a built-in type -/
def bmeth (m : BM) (o : W) (ws : List W) (τ : Sto) : R W :=
  match m with
  | .append => mAppend o ws τ
  | .pop => mPop o ws τ
  | .popAt => .no
  | .startswith => mStarts o ws τ
  | .split => mSplit o ws τ
  | .join => mJoin o ws τ

def putW (f : Str) (v : W) : List (Str × W) → List (Str × W)
  | [] => [(f, v)]
  | (g, x) :: r => if g = f then (g, v) :: r else (g, x) :: putW f v r

/-! ### slots -/
def putG (g : G) (w : W) (ρ : Sl) : Option Sl :=
  match g with
  | .name i => some (ρ.set i (some w))
  | .tup is => match w with
    | .tup xs => if xs.length = is.length then some ((is.zip xs).foldl (fun r p => r.set p.1 (some p.2)) ρ) else none
    | _ => none
def wipeS (ρ : Sl) : List Nat → Sl
  | [] => ρ
  | v :: vs => (wipeS ρ vs).set v none

/-! ### what is walked -/
/-- the items, and the lists that have to stay as they are -/
structure It where
  gs : List (Nat × List W)
  xs : List W
def It.ok (gs : List (Nat × List W)) (τ : Sto) : Prop := ∀ p ∈ gs, seqOf τ p.1 = some p.2

open Classical in
/-- the turns of a for -/
noncomputable def forL (g : G) (gs : List (Nat × List W)) (body : Sl → Sto → R Fl) : List W → Sl → Sto → R Fl
  | [], ρ, τ => if It.ok gs τ then .ok (.nx ρ) τ else .no
  | x :: r, ρ, τ => if It.ok gs τ then
      match putG g x ρ with
      | none => .no
      | some ρ1 => match body ρ1 τ with
        | .ok (.nx ρ2) τ2 => forL g gs body r ρ2 τ2
        | .ok (.ct ρ2) τ2 => forL g gs body r ρ2 τ2
        | .ok (.bk ρ2) τ2 => .ok (.nx ρ2) τ2
        | .ok (.rt w) τ2 => .ok (.rt w) τ2
        | .exn x ρ τ => .exn x ρ τ
        | .no => .no
    else .no

/-- so many turns at most -/
def bigL : Nat := 2 ^ 40
def whlL (test : Sl → Sto → R Bool) (body : Sl → Sto → R Fl) : Nat → Sl → Sto → R Fl
  | 0, _, _ => .no
  | n + 1, ρ, τ => (test ρ τ).bind fun b τ1 => if b = true then
      match body ρ τ1 with
      | .ok (.nx ρ2) τ2 => whlL test body n ρ2 τ2
      | .ok (.ct ρ2) τ2 => whlL test body n ρ2 τ2
      | .ok (.bk ρ2) τ2 => .ok (.nx ρ2) τ2
      | .ok (.rt w) τ2 => .ok (.rt w) τ2
      | .exn x ρ τ => .exn x ρ τ
      | .no => .no
    else .ok (.nx ρ) τ1

open Classical in
/-- the turns of a comprehension: D the new list's place -/
noncomputable def lcL (g : G) (gs : List (Nat × List W)) (ρ : Sl) (test : Sl → Sto → R Bool) (elt : Sl → Sto → R W) (D : Nat) : List W → Sto → R W
  | [], τ => if It.ok gs τ then .ok (.ref D) τ else .no
  | x :: r, τ => if It.ok gs τ then
      match putG g x ρ with
      | none => .no
      | some ρ1 => match test ρ1 τ with
        | .ok true τ1 => match elt ρ1 τ1 with
          | .ok y τ2 => match τ2[D]? with
            | some (.lst acc) => if acc.length < sizeLine then lcL g gs ρ test elt D r (τ2.set D (.lst (acc ++ [y]))) else .no
            | _ => .no
          | _ => .no
        | .ok false τ1 => lcL g gs ρ test elt D r τ1
        | _ => .no
    else .no

/-- what a call of a def does: the def's number, the values -/
abbrev Calls := Nat → List W → Sto → R W

/-- the class of an instance and its methods: the def that a name means -/
structure Tb where
  meth : Nat → Str → Option Nat
  attr : Nat → Str → Bool

def fieldOf (T : Tb) (τ : Sto) (w : W) (f : Str) : Option W :=
  match w with
  | .ref n => match τ[n]? with
    | some (.ins c fs) => if T.attr c f = true then fs.lookup f else none
    | _ => none
  | _ => none
def setField (T : Tb) (τ : Sto) (x : W) (f : Str) (w : W) : Option Sto :=
  match x with
  | .ref n => match τ[n]? with
    | some (.ins c fs) => if T.attr c f = true ∧ fs.length < 1000 then some (τ.set n (.ins c (putW f w fs))) else none
    | _ => none
  | _ => none
def clsOf (τ : Sto) (x : W) : Option Nat :=
  match x with
  | .ref n => match τ[n]? with
    | some (.ins c _) => some c
    | _ => none
  | _ => none
/-- a field stored anew, the class being what it was -/
def setFieldC (T : Tb) (c : Option Nat) (τ : Sto) (x : W) (f : Str) (w : W) : Option Sto := if clsOf τ x = c then setField T τ x f w else none
/-- a store to a place of a list or a dict -/
def setItem (τ : Sto) (x y w : W) : Option Sto :=
  match x with
  | .ref n => match τ[n]? with
    | some (.lst xs) => match y with
      | .int k => (ixN xs.length k).map fun j => τ.set n (.lst (xs.set j w))
      | _ => none
    | some (.dic kvs) => match keyOf y with
      | some k => if kvs.length < sizeLine then some (τ.set n (.dic (kvPut kvs k w))) else none
      | none => none
    | _ => none
  | _ => none
def augW (o : Operator) (x y : W) : Option W :=
  match x, y with
  | .int a, .int b => match o with
    | .Add => some (.int (a + b))
    | .Sub => some (.int (a - b))
    | _ => none
  | _, _ => none

/-- what an expression does, by the place where it stands: a value, a list of values, and | or as values, as tests, a test, a slice's part, what is walked -/
structure Sm where
  e : Sl → Sto → R W
  a : Sl → Sto → R (List W) := fun _ _ => .no
  v : Bool → Sl → Sto → R W := fun _ _ _ => .no
  b : Bool → Sl → Sto → R Bool := fun _ _ _ => .no
  t : Sl → Sto → R Bool := fun ρ τ => (e ρ τ).bind fun x τ1 => lift τ1 (truth τ1 x)
  p : Sl → Sto → R (Option Int) := fun ρ τ => (e ρ τ).bind fun x τ1 => match x with
    | .int i => .ok (some i) τ1
    | _ => .no
  i : Sl → Sto → R It := fun _ _ => .no

def tail {α : Type} (ρ : Sl) : R α → R α
  | .exn x _ τ => .exn x ρ τ
  | r => r
@[simp] theorem tail_ok {α : Type} (ρ : Sl) (a : α) (τ : Sto) : tail ρ (.ok a τ) = .ok a τ := rfl
@[simp] theorem tail_exn {α : Type} (ρ ρ' : Sl) (x : Xn) (τ : Sto) : tail ρ (.exn x ρ' τ : R α) = .exn x ρ τ := rfl
@[simp] theorem tail_no {α : Type} (ρ : Sl) : tail ρ (.no : R α) = .no := rfl

def seqI (x : W) (τ : Sto) : R It := match x with
  | .tup xs => .ok ⟨[], xs⟩ τ
  | .str z => .ok ⟨[], z.cps.toList.map fun c => .str ⟨#[c]⟩⟩ τ
  | .ref n => match seqOf τ n with
    | some xs => .ok ⟨[(n, xs)], xs⟩ τ
    | none => .no
  | _ => .no
def rngI (ws : List W) (τ : Sto) : R It := match ws with
  | [.int j] => if -(2 ^ 62) ≤ j ∧ j < 2 ^ 62 then .ok ⟨[], (List.range j.toNat).map fun (i : Nat) => .int (0 + (i : Int))⟩ τ else .no
  | [.int i, .int j] => if -(2 ^ 62) ≤ i ∧ i < 2 ^ 62 ∧ -(2 ^ 62) ≤ j ∧ j < 2 ^ 62 then .ok ⟨[], (List.range (j - i).toNat).map fun (k : Nat) => .int (i + (k : Int))⟩ τ else .no
  | _ => .no
def zipI (ws : List W) (τ : Sto) : R It := match ws with
  | [.ref n, .ref m] => match seqOf τ n, seqOf τ m with
    | some xs, some ys => .ok ⟨[(n, xs), (m, ys)], (xs.zip ys).map fun p => .tup [p.1, p.2]⟩ τ
    | _, _ => .no
  | _ => .no
def enumI (x : W) (τ : Sto) : R It := match x with
  | .ref n => match seqOf τ n with
    | some xs => .ok ⟨[(n, xs)], (xs.zipIdx).map fun p => .tup [.int (p.2 : Int), p.1]⟩ τ
    | none => .no
  | _ => .no

/-- a display's keys: literals -/
def keyLits : E → Option (List Key)
  | .nil => some []
  | .cons a r => match a with
    | .con w => match keyOf w, keyLits r with
      | some k, some ks => some (k :: ks)
      | _, _ => none
    | _ => none
  | _ => none
def mergeW (kvs more : List (Key × W)) : List (Key × W) := more.foldl (fun acc kv => kvPut acc kv.1 kv.2) kvs
/-- a display's end: the new dict, empty till now, is filled -/
def dispR (D : Nat) (keys : List Key) (ws : List W) (τ : Sto) : R W := match τ[D]? with
  | some (.dic []) => if ws.length = keys.length then .ok (.ref D) (τ.set D (.dic (mergeW [] (keys.zip ws)))) else .no
  | _ => .no

noncomputable def ev (T : Tb) (C : Calls) : E → Sm
  | .var i => { e := fun ρ τ => match ρ[i]? with
      | some (some w) => .ok w τ
      | _ => .no }
  | .con w => { e := fun _ τ => .ok w τ }
  | .nil => { e := fun _ _ => .no, a := fun _ τ => .ok [] τ, t := fun _ τ => .ok true τ, p := fun _ τ => .ok none τ }
  | .cons a r => { e := fun _ _ => .no, t := fun _ _ => .no, p := fun _ _ => .no,
                   a := fun ρ τ => ((ev T C a).e ρ τ).bind fun x τ1 => ((ev T C r).a ρ τ1).bind fun xs τ2 => .ok (x :: xs) τ2,
                   v := fun u ρ τ => match r with
                     | .nil => (ev T C a).e ρ τ
                     | _ => ((ev T C a).e ρ τ).bind fun x τ1 => match x with
                       | .bl b => if b = u then (ev T C r).v u ρ τ1 else .ok (.bl b) τ1
                       | _ => .no,
                   b := fun u ρ τ => match r with
                     | .nil => (ev T C a).t ρ τ
                     | _ => ((ev T C a).t ρ τ).bind fun b τ1 => if b = u then (ev T C r).b u ρ τ1 else .ok b τ1 }
  | .op o a b => { e := fun ρ τ => ((ev T C a).e ρ τ).bind fun x τ1 => ((ev T C b).e ρ τ1).bind fun y τ2 => binop o x y τ2 }
  | .neg a => { e := fun ρ τ => ((ev T C a).e ρ τ).bind fun x τ1 => match x with
      | .int i => .ok (.int (-i)) τ1
      | _ => .no }
  | .cmp o a b => { e := fun ρ τ => ((ev T C a).e ρ τ).bind fun x τ1 => ((ev T C b).e ρ τ1).bind fun y τ2 => lift τ2 ((cmpop o x y τ2).map .bl) }
  | .chain o o' a b c => { e := fun ρ τ => ((ev T C a).e ρ τ).bind fun x τ1 => ((ev T C b).e ρ τ1).bind fun y τ2 => match cmpop o x y τ2 with
      | some true => ((ev T C c).e ρ τ2).bind fun z τ3 => lift τ3 ((cmpop o' y z τ3).map .bl)
      | some false => .ok (.bl false) τ2
      | none => .no }
  | .conj as => { e := fun ρ τ => (ev T C as).v true ρ τ, t := fun ρ τ => (ev T C as).b true ρ τ }
  | .disj as => { e := fun ρ τ => (ev T C as).v false ρ τ, t := fun ρ τ => (ev T C as).b false ρ τ }
  | .not a => { e := fun ρ τ => ((ev T C a).e ρ τ).bind fun x τ1 => match x with
                  | .bl b => .ok (.bl (!b)) τ1
                  | _ => .no,
                t := fun ρ τ => ((ev T C a).t ρ τ).bind fun b τ1 => .ok (!b) τ1 }
  | .ite t a b => { e := fun ρ τ => ((ev T C t).t ρ τ).bind fun k τ1 => if k = true then (ev T C a).e ρ τ1 else (ev T C b).e ρ τ1 }
  | .tup as => { e := fun ρ τ => ((ev T C as).a ρ τ).bind fun ws τ1 => if ws.length ≤ sizeLine then .ok (.tup ws) τ1 else .no }
  | .lst as => { e := fun ρ τ => ((ev T C as).a ρ τ).bind fun ws τ1 => if ws.length ≤ sizeLine then newL τ1 ws else .no }
  | .dic ks vs => { e := fun ρ τ => match keyLits ks with
      | some [] => .ok (.ref τ.length) (τ ++ [.dic []])
      | some (k :: r) => if r.length < 15 then ((ev T C vs).a ρ (τ ++ [.dic []])).bind (dispR τ.length (k :: r)) else .no
      | none => .no }
  | .ix a b => { e := fun ρ τ => ((ev T C a).e ρ τ).bind fun x τ1 => ((ev T C b).e ρ τ1).bind fun y τ2 => lift τ2 (itemAt τ2 x y) }
  | .slice a lo hi => { e := fun ρ τ => ((ev T C a).e ρ τ).bind fun x τ1 => ((ev T C lo).p ρ τ1).bind fun l τ2 => ((ev T C hi).p ρ τ2).bind fun h τ3 => sliceW x l h τ3 }
  | .fld a f => { e := fun ρ τ => ((ev T C a).e ρ τ).bind fun x τ1 => lift τ1 (fieldOf T τ1 x f) }
  | .call f as => { e := fun ρ τ => ((ev T C as).a ρ τ).bind fun ws τ1 => tail ρ (C f ws τ1) }
  | .meth m o as => { e := fun ρ τ => ((ev T C o).e ρ τ).bind fun x τ1 => match x with
      | .ref n => match τ1[n]? with
        | some (.ins c fs) => match fs.lookup m, T.meth c m with
          | none, some f => ((ev T C as).a ρ τ1).bind fun ws τ2 => tail ρ (C f (.ref n :: ws) τ2)
          | _, _ => .no
        | _ => .no
      | _ => .no }
  | .make c as => { e := fun ρ τ => ((ev T C as).a ρ τ).bind fun ws τ1 => match T.meth c "__init__" with
      | some f => (tail ρ (C f (.ref τ1.length :: ws) (τ1 ++ [.ins c []]))).bind fun w τ2 => match w with
        | .non => .ok (.ref τ1.length) τ2
        | _ => .no
      | none => .no }
  | .bi b as => { e := fun ρ τ => ((ev T C as).a ρ τ).bind fun ws τ1 => builtin b ws τ1 }
  | .isi a t => { e := fun ρ τ => ((ev T C a).e ρ τ).bind fun x τ1 => lift τ1 ((tyOf τ1 x).map fun n => .bl (inst n t)) }
  | .bm m o as => { e := fun ρ τ => ((ev T C o).e ρ τ).bind fun x τ1 => if bmPre m x τ1 = true then ((ev T C as).a ρ τ1).bind fun ws τ2 => bmeth m x ws τ2 else .no }
  | .lc g it ts elt vs => { e := fun ρ τ => ((ev T C it).i ρ τ).bind fun J τ1 => lcL g J.gs (wipeS ρ vs) (ev T C ts).t (ev T C elt).e τ1.length J.xs (τ1 ++ [.lst []]) }
  | .seq a => { e := fun _ _ => .no, i := fun ρ τ => ((ev T C a).e ρ τ).bind seqI }
  | .rng as => { e := fun _ _ => .no, i := fun ρ τ => ((ev T C as).a ρ τ).bind rngI }
  | .zip as => { e := fun _ _ => .no, i := fun ρ τ => ((ev T C as).a ρ τ).bind zipI }
  | .enum a => { e := fun _ _ => .no, i := fun ρ τ => ((ev T C a).e ρ τ).bind enumI }
  | .rev a => { e := fun _ _ => .no }

/-- a statement -/
noncomputable def evS (T : Tb) (C : Calls) : S → Sl → Sto → R Fl
  | .nil, ρ, τ => .ok (.nx ρ) τ
  | .cons s r, ρ, τ => match evS T C s ρ τ with
    | .ok (.nx ρ1) τ1 => evS T C r ρ1 τ1
    | x => x
  | .ex e, ρ, τ => ((ev T C e).e ρ τ).bind fun _ τ1 => .ok (.nx ρ) τ1
  | .set i e, ρ, τ => ((ev T C e).e ρ τ).bind fun w τ1 => .ok (.nx (ρ.set i (some w))) τ1
  | .setT is e, ρ, τ => ((ev T C e).e ρ τ).bind fun w τ1 => match putG (.tup is) w ρ with
    | some ρ1 => .ok (.nx ρ1) τ1
    | none => .no
  | .setP i j as, ρ, τ => ((ev T C as).a ρ τ).bind fun ws τ1 => match ws with
    | [v, w] => .ok (.nx ((ρ.set i (some v)).set j (some w))) τ1
    | _ => .no
  | .setF o f e, ρ, τ => ((ev T C e).e ρ τ).bind fun w τ1 => ((ev T C o).e ρ τ1).bind fun x τ2 => match setField T τ2 x f w with
    | some τ3 => .ok (.nx ρ) τ3
    | none => .no
  | .setI o i e, ρ, τ => ((ev T C e).e ρ τ).bind fun w τ1 => ((ev T C o).e ρ τ1).bind fun x τ2 => ((ev T C i).e ρ τ2).bind fun y τ3 => match setItem τ3 x y w with
    | some τ4 => .ok (.nx ρ) τ4
    | none => .no
  | .aug i o e, ρ, τ => match ρ[i]? with
    | some (some x) => ((ev T C e).e ρ τ).bind fun y τ1 => match augW o x y with
      | some z => .ok (.nx (ρ.set i (some z))) τ1
      | none => .no
    | _ => .no
  | .augF o f p e, ρ, τ => ((ev T C o).e ρ τ).bind fun x τ1 => match fieldOf T τ1 x f with
    | some a => ((ev T C e).e ρ τ1).bind fun y τ2 => match (augW p a y).bind (setFieldC T (clsOf τ1 x) τ2 x f) with
      | some τ3 => .ok (.nx ρ) τ3
      | none => .no
    | none => .no
  | .ife t a b, ρ, τ => ((ev T C t).t ρ τ).bind fun k τ1 => if k = true then evS T C a ρ τ1 else evS T C b ρ τ1
  | .loop g it b, ρ, τ => ((ev T C it).i ρ τ).bind fun J τ1 => forL g J.gs (fun ρ1 τ2 => evS T C b ρ1 τ2) J.xs ρ τ1
  | .whl t b, ρ, τ => whlL (fun ρ1 τ1 => (ev T C t).t ρ1 τ1) (fun ρ1 τ1 => evS T C b ρ1 τ1) bigL ρ τ
  | .ret e, ρ, τ => ((ev T C e).e ρ τ).bind fun w τ1 => .ok (.rt w) τ1
  | .retN, _, τ => .ok (.rt .non) τ
  | .brk, ρ, τ => .ok (.bk ρ) τ
  | .cont, ρ, τ => .ok (.ct ρ) τ
  | .pass, ρ, τ => .ok (.nx ρ) τ
  | .raise c as, ρ, τ => .exn ⟨c, []⟩ ρ τ
  | .try b c i h, ρ, τ => .no

/-- a def -/
structure Df where
  many : Nat
  slots : Nat
  body : S

def start (d : Df) (ws : List W) : Sl := ws.map some ++ List.replicate (d.slots - ws.length) none

def finish : R Fl → R W
  | .ok (.rt w) τ => .ok w τ
  | .ok (.nx _) τ => .ok .non τ
  | .ok _ _ => .no
  | .exn x ρ τ => .exn x ρ τ
  | .no => .no

/-- the run of a call, so many calls within one another -/
noncomputable def evF (T : Tb) (F : Nat → Option Df) : Nat → Calls
  | 0, _, _, _ => .no
  | k + 1, f, ws, τ => match F f with
    | some d => if ws.length = d.many then finish (evS T (evF T F k) d.body (Mi.start d ws) τ) else .no
    | none => .no
end Mi
/-! Mi1: how the small language's state lies in the abstract heap of the hand layer. -/
namespace Mi
open PySem PySem.Spec PyProof.Rows L2

mutual
inductive RV (K : PySem.W.Frag) (μ : List Addr) (H : Hp) : W → V → Prop
  | non : RV K μ H .non .non
  | bl (b : Bool) : RV K μ H (.bl b) (.bl b)
  | int (i : Int) : RV K μ H (.int i) (.int i)
  | str (x : Str) : RV K μ H (.str x) (.str x)
  | tup {a : Addr} {vs : List V} {ws : List W} : SqT K H a vs → RVs K μ H ws vs → RV K μ H (.tup ws) (.ref a)
  | ref {n : Nat} {a : Addr} : μ[n]? = some a → RV K μ H (.ref n) (.ref a)
inductive RVs (K : PySem.W.Frag) (μ : List Addr) (H : Hp) : List W → List V → Prop
  | nil : RVs K μ H [] []
  | cons {w : W} {v : V} {ws : List W} {vs : List V} : RV K μ H w v → RVs K μ H ws vs → RVs K μ H (w :: ws) (v :: vs)
end

/-- pairs with like first parts -/
def RP {α : Type} (K : PySem.W.Frag) (μ : List Addr) (H : Hp) : List (α × W) → List (α × V) → Prop := Paired fun p q => p.1 = q.1 ∧ RV K μ H p.2 q.2

def RO (K : PySem.W.Frag) (Cl : Nat → Addr) (μ : List Addr) (H : Hp) (a : Addr) : AO → Prop
  | .lst xs => ∃ vs, H a = some (.lst vs) ∧ RVs K μ H xs vs
  | .frz ns => SqL K H a (ns.map V.int)
  | .dic kvs => ∃ ps, H a = some (.dK ps) ∧ RP K μ H kvs ps
  | .ins c fs => ∃ dx ps, H a = some (.ins (Cl c) dx ps) ∧ RP K μ H fs ps

structure Le (K : PySem.W.Frag) (μ : List Addr) (H : Hp) (μ' : List Addr) (H' : Hp) : Prop where
  pre : ∃ more, μ' = μ ++ more
  tup : ∀ a vs, SqT K H a vs → SqT K H' a vs
theorem Le.refl {K : PySem.W.Frag} {μ : List Addr} {H : Hp} : Le K μ H μ H := ⟨⟨[], by simp⟩, fun _ _ h => h⟩
theorem Le.trans {K : PySem.W.Frag} {μ μ1 μ2 : List Addr} {H H1 H2 : Hp} (a : Le K μ H μ1 H1) (b : Le K μ1 H1 μ2 H2) : Le K μ H μ2 H2 := by
  obtain ⟨m1, rfl⟩ := a.pre
  obtain ⟨m2, rfl⟩ := b.pre
  exact ⟨⟨m1 ++ m2, by simp⟩, fun x vs h => b.tup x vs (a.tup x vs h)⟩
theorem Le.get {K : PySem.W.Frag} {μ μ' : List Addr} {H H' : Hp} (l : Le K μ H μ' H') {n : Nat} {a : Addr} (h : μ[n]? = some a) : μ'[n]? = some a := by
  obtain ⟨m, rfl⟩ := l.pre
  rw [List.getElem?_append_left (List.getElem?_eq_some_iff.mp h).1]
  exact h

section
variable {K : PySem.W.Frag} {Cl : Nat → Addr} {μ μ' : List Addr} {H H' : Hp}
mutual
theorem RV.le (l : Le K μ H μ' H') : ∀ {w : W} {v : V}, RV K μ H w v → RV K μ' H' w v
  | _, _, .non => .non
  | _, _, .bl b => .bl b
  | _, _, .int i => .int i
  | _, _, .str x => .str x
  | _, _, .tup s r => .tup (l.tup _ _ s) (RVs.le l r)
  | _, _, .ref h => .ref (l.get h)
theorem RVs.le (l : Le K μ H μ' H') : ∀ {ws : List W} {vs : List V}, RVs K μ H ws vs → RVs K μ' H' ws vs
  | _, _, .nil => .nil
  | _, _, .cons a r => .cons (RV.le l a) (RVs.le l r)
end
theorem RP.le {α : Type} (l : Le K μ H μ' H') {ps : List (α × W)} {qs : List (α × V)} (h : RP K μ H ps qs) : RP K μ' H' ps qs := Paired.mapP h fun _ _ e => ⟨e.1, e.2.le l⟩
theorem RVs.length : ∀ {ws : List W} {vs : List V}, RVs K μ H ws vs → ws.length = vs.length
  | _, _, .nil => rfl
  | _, _, .cons _ r => congrArg (· + 1) (RVs.length r)
theorem RVs.get : ∀ {ws : List W} {vs : List V} {i : Nat} {w : W}, RVs K μ H ws vs → ws[i]? = some w → ∃ v, vs[i]? = some v ∧ RV K μ H w v
  | _, _, _, _, .nil, e => by simp at e
  | _, _, 0, _, .cons a _, e => by simp at e; subst e; exact ⟨_, rfl, a⟩
  | _, _, i + 1, _, .cons _ r, e => by
    obtain ⟨v, h1, h2⟩ := RVs.get (i := i) r (by simpa using e)
    exact ⟨v, by simpa using h1, h2⟩
theorem RVs.get' : ∀ {ws : List W} {vs : List V} {i : Nat} {v : V}, RVs K μ H ws vs → vs[i]? = some v → ∃ w, ws[i]? = some w ∧ RV K μ H w v
  | _, _, _, _, .nil, e => by simp at e
  | _, _, 0, _, .cons a _, e => by simp at e; subst e; exact ⟨_, rfl, a⟩
  | _, _, i + 1, _, .cons _ r, e => by
    obtain ⟨v, h1, h2⟩ := RVs.get' (i := i) r (by simpa using e)
    exact ⟨v, by simpa using h1, h2⟩
theorem RVs.append : ∀ {ws us : List W} {vs ts : List V}, RVs K μ H ws vs → RVs K μ H us ts → RVs K μ H (ws ++ us) (vs ++ ts)
  | _, _, _, _, .nil, s => s
  | _, _, _, _, .cons a r, s => .cons a (RVs.append r s)
theorem RVs.take : ∀ {ws : List W} {vs : List V} (n : Nat), RVs K μ H ws vs → RVs K μ H (ws.take n) (vs.take n)
  | _, _, 0, _ => .nil
  | _, _, _ + 1, .nil => .nil
  | _, _, n + 1, .cons a r => .cons a (RVs.take n r)
theorem RVs.drop : ∀ {ws : List W} {vs : List V} (n : Nat), RVs K μ H ws vs → RVs K μ H (ws.drop n) (vs.drop n)
  | _, _, 0, r => r
  | _, _, _ + 1, .nil => .nil
  | _, _, n + 1, .cons _ r => RVs.drop n r
theorem RVs.set {w : W} {v : V} (a : RV K μ H w v) : ∀ {ws : List W} {vs : List V} (i : Nat), RVs K μ H ws vs → RVs K μ H (ws.set i w) (vs.set i v)
  | _, _, _, .nil => .nil
  | _, _, 0, .cons _ t => .cons a t
  | _, _, i + 1, .cons q t => .cons q (RVs.set a i t)
theorem RVs.dropLast {ws : List W} {vs : List V} (h : RVs K μ H ws vs) : RVs K μ H ws.dropLast vs.dropLast := by
  rw [List.dropLast_eq_take, List.dropLast_eq_take, h.length]
  exact h.take _
theorem RVs.rep {ws : List W} {vs : List V} (h : RVs K μ H ws vs) : ∀ k : Nat, RVs K μ H (List.replicate k ws).flatten (List.replicate k vs).flatten
  | 0 => .nil
  | k + 1 => by
    rw [List.replicate_succ, List.replicate_succ, List.flatten_cons, List.flatten_cons]
    exact h.append (RVs.rep h k)
theorem RVs.ints : ∀ (ns : List Int), RVs K μ H (ns.map W.int) (ns.map V.int)
  | [] => .nil
  | n :: r => .cons (.int n) (RVs.ints r)
theorem RVs.strs : ∀ (ns : List Str), RVs K μ H (ns.map W.str) (ns.map V.str)
  | [] => .nil
  | n :: r => .cons (.str n) (RVs.strs r)
theorem RVs.isEmpty {ws : List W} {vs : List V} (h : RVs K μ H ws vs) : ws.isEmpty = vs.isEmpty := by
  cases h <;> rfl
theorem RP.lookup {ps : List (Str × W)} {qs : List (Str × V)} {f : Str} {w : W} (h : RP K μ H ps qs) (e : ps.lookup f = some w) : ∃ v, qs.lookup f = some v ∧ RV K μ H w v := by
  induction h with
  | nil => cases e
  | @cons p q ps qs a r ih =>
    obtain ⟨p1, p2⟩ := p
    obtain ⟨q1, q2⟩ := q
    obtain ⟨a1, a2⟩ := a
    have a1' : p1 = q1 := a1
    subst a1'
    rw [List.lookup_cons] at e ⊢
    cases hb : f == p1 with
    | true =>
      rw [hb] at e
      cases e
      exact ⟨q2, rfl, a2⟩
    | false =>
      rw [hb] at e
      exact ih e
theorem RP.lookup_none {ps : List (Str × W)} {qs : List (Str × V)} {f : Str} (h : RP K μ H ps qs) (e : ps.lookup f = none) : qs.lookup f = none := by
  induction h with
  | nil => rfl
  | @cons p q ps qs a r ih =>
    obtain ⟨p1, p2⟩ := p
    obtain ⟨q1, q2⟩ := q
    obtain ⟨a1, a2⟩ := a
    have a1' : p1 = q1 := a1
    subst a1'
    rw [List.lookup_cons] at e ⊢
    cases hb : f == p1 with
    | true =>
      rw [hb] at e
      cases e
    | false =>
      rw [hb] at e
      exact ih e
theorem RP.put {w : W} {v : V} {f : Str} (a : RV K μ H w v) {ps : List (Str × W)} {qs : List (Str × V)} (h : RP K μ H ps qs) : RP K μ H (putW f w ps) (putF f v qs) := by
  induction h with
  | nil => exact .cons ⟨rfl, a⟩ .nil
  | @cons p q ps qs b r ih =>
    obtain ⟨p1, p2⟩ := p
    obtain ⟨q1, q2⟩ := q
    obtain ⟨b1, b2⟩ := b
    have b1' : p1 = q1 := b1
    subst b1'
    show RP K μ H (if p1 = f then (p1, w) :: ps else (p1, p2) :: putW f w ps) (if p1 = f then (p1, v) :: qs else (p1, q2) :: putF f v qs)
    by_cases hf : p1 = f
    · rw [if_pos hf, if_pos hf]
      exact .cons ⟨rfl, a⟩ r
    · rw [if_neg hf, if_neg hf]
      exact .cons ⟨rfl, b2⟩ ih
theorem RP.length {α : Type} {ps : List (α × W)} {qs : List (α × V)} (h : RP K μ H ps qs) : ps.length = qs.length := Paired.length h
end

/-- the store lies in the heap -/
structure RH (K : PySem.W.Frag) (Cl : Nat → Addr) (μ : List Addr) (τ : Sto) (H : Hp) : Prop where
  len : μ.length = τ.length
  nd : ∀ (n m : Nat) (a : Addr), n ≠ m → μ[n]? = some a → μ[m]? = some a → (∃ xs : List Int, (τ[n]? = some (AO.frz xs) ∨ τ[m]? = some (AO.frz xs)) ∧
    ∃ (o : Obj) (its : Array Value) (k : Nat), K.lookup a = some o ∧ o.cls = .type "list" ∧ o.dict = none ∧ o.data = .seq its k ∧ its.size ≤ sizeLine ∧ Vals (xs.map V.int) its.toList)
  ob : ∀ (n : Nat) (a : Addr) (o : AO), μ[n]? = some a → τ[n]? = some o → RO K Cl μ H a o
structure RS (K : PySem.W.Frag) (μ : List Addr) (H : Hp) (ρ : Sl) (σ : L2.St) : Prop where
  len : ρ.length = σ.length
  at_ : ∀ (i : Nat) w, ρ[i]? = some (some w) → ∃ v, σ[i]? = some (some v) ∧ RV K μ H w v

section
variable {K : PySem.W.Frag} {Cl : Nat → Addr} {μ μ' : List Addr} {H H' : Hp} {τ : Sto} {ρ : Sl} {σ : L2.St}
theorem RS.le (l : Le K μ H μ' H') (s : RS K μ H ρ σ) : RS K μ' H' ρ σ := ⟨s.len, fun i w e => let ⟨v, h1, h2⟩ := s.at_ i w e; ⟨v, h1, h2.le l⟩⟩
theorem RS.set {i : Nat} {w : W} {v : V} (s : RS K μ H ρ σ) (a : RV K μ H w v) : RS K μ H (ρ.set i (some w)) (σ.set i (some v)) := by
  refine ⟨by rw [List.length_set, List.length_set]; exact s.len, fun j x e => ?_⟩
  by_cases hj : i = j
  · subst hj
    by_cases hl : i < ρ.length
    · rw [List.getElem?_set_self hl] at e
      cases e
      exact ⟨v, by rw [List.getElem?_set_self (by rw [← s.len]; exact hl)], a⟩
    · rw [List.getElem?_set_self' , List.getElem?_eq_none (by omega)] at e
      cases e
  · rw [List.getElem?_set_ne hj] at e
    obtain ⟨u, h1, h2⟩ := s.at_ j x e
    exact ⟨u, by rw [List.getElem?_set_ne hj]; exact h1, h2⟩
theorem RS.del {i : Nat} (s : RS K μ H ρ σ) : RS K μ H (ρ.set i none) (σ.set i none) := by
  refine ⟨by rw [List.length_set, List.length_set]; exact s.len, fun j x e => ?_⟩
  by_cases hj : i = j
  · subst hj
    by_cases hl : i < ρ.length
    · rw [List.getElem?_set_self hl] at e
      cases e
    · rw [List.getElem?_set_self' , List.getElem?_eq_none (by omega)] at e
      cases e
  · rw [List.getElem?_set_ne hj] at e
    obtain ⟨u, h1, h2⟩ := s.at_ j x e
    exact ⟨u, by rw [List.getElem?_set_ne hj]; exact h1, h2⟩
theorem RS.wipe (s : RS K μ H ρ σ) : ∀ vs : List Nat, RS K μ H (wipeS ρ vs) (wipe σ vs)
  | [] => s
  | v :: vs => (RS.wipe s vs).del

theorem RO.le (l : Le K μ H μ' H') {a : Addr} {o : AO} (e : H' a = H a) (h : RO K Cl μ H a o) : RO K Cl μ' H' a o := by
  cases o with
  | lst xs => obtain ⟨vs, h1, h2⟩ := h; exact ⟨vs, e.trans h1, h2.le l⟩
  | frz ns =>
    have h' : SqL K H a (ns.map V.int) := h
    show SqL K H' a (ns.map V.int)
    rcases h' with (h' | ⟨o, h'⟩) | h'
    · exact .inl (.inl (e.trans h'))
    · exact .inl (.inr ⟨o, e.trans h'⟩)
    · exact .inr h'
  | dic kvs => obtain ⟨vs, h1, h2⟩ := h; exact ⟨vs, e.trans h1, h2.le l⟩
  | ins c fs => obtain ⟨dx, vs, h1, h2⟩ := h; exact ⟨dx, vs, e.trans h1, h2.le l⟩

/-- what is at a place that is no tuple is changed, or a new thing laid there -/
theorem tup_upd {a : Addr} {o : HO} (h : ∀ vs, ¬ Rd H a (.tup vs)) : ∀ b vs, SqT K H b vs → SqT K (upd H a o) b vs := fun b vs s => by
  rcases s with s | s
  · refine .inl ?_
    have hb : b ≠ a := fun e => h vs (e ▸ s)
    rcases s with s | ⟨ob, s⟩
    · exact .inl (by rw [upd_ne hb]; exact s)
    · exact .inr ⟨ob, by rw [upd_ne hb]; exact s⟩
  · exact .inr s
theorem noTup_none {a : Addr} (h : H a = none) : ∀ vs, ¬ Rd H a (.tup vs) := fun vs r => by
  rcases r with r | ⟨o, r⟩ <;> (rw [h] at r; cases r)
theorem noTup_lst {a : Addr} {xs : List V} (h : H a = some (.lst xs)) : ∀ vs, ¬ Rd H a (.tup vs) := fun vs r => by
  rcases r with r | ⟨o, r⟩ <;> (rw [h] at r; cases r)
theorem noTup_dK {a : Addr} {xs : List (Key × V)} (h : H a = some (.dK xs)) : ∀ vs, ¬ Rd H a (.tup vs) := fun vs r => by
  rcases r with r | ⟨o, r⟩ <;> (rw [h] at r; cases r)
theorem noTup_ins {a C dx : Addr} {xs : List (Str × V)} (h : H a = some (.ins C dx xs)) : ∀ vs, ¬ Rd H a (.tup vs) := fun vs r => by
  rcases r with r | ⟨o, r⟩ <;> (rw [h] at r; cases r)

/-- a place that holds a thing of the store is a tracked one, or that of a list of the written part -/
theorem RO.live {a : Addr} {o : AO} (h : RO K Cl μ H a o) : H a ≠ none ∨ (∃ xs : List Int, o = AO.frz xs ∧ ∃ (o : Obj) (its : Array Value) (k : Nat), K.lookup a = some o ∧ o.cls = .type "list" ∧ o.dict = none ∧ o.data = .seq its k ∧ its.size ≤ sizeLine ∧ Vals (xs.map V.int) its.toList) := by
  cases o with
  | lst xs => obtain ⟨vs, h1, h2⟩ := h; exact .inl (by rw [h1]; simp)
  | frz ns =>
    have h' : SqL K H a (ns.map V.int) := h
    rcases h' with (h' | ⟨o, h'⟩) | h'
    · exact .inl (by rw [h']; simp)
    · exact .inl (by rw [h']; simp)
    · exact .inr ⟨ns, rfl, h'⟩
  | dic kvs => obtain ⟨vs, h1, h2⟩ := h; exact .inl (by rw [h1]; simp)
  | ins c fs => obtain ⟨dx, vs, h1, h2⟩ := h; exact .inl (by rw [h1]; simp)

/-- a new thing -/
theorem RH.push {a : Addr} {ho : HO} {o : AO} (r : RH K Cl μ τ H) (hn : H a = none) (ho' : RO K Cl (μ ++ [a]) (upd H a ho) a o) :
    RH K Cl (μ ++ [a]) (τ ++ [o]) (upd H a ho) ∧ Le K μ H (μ ++ [a]) (upd H a ho) := by
  have l : Le K μ H (μ ++ [a]) (upd H a ho) := ⟨⟨[a], rfl⟩, tup_upd (noTup_none hn)⟩
  -- who stands at a already is a list of the written part
  have old : ∀ (n : Nat) (b : Addr), (μ ++ [a])[n]? = some b → n < μ.length → μ[n]? = some b := fun n b e h => by
    rw [List.getElem?_append_left h] at e
    exact e
  have oldτ : ∀ (n : Nat), n < μ.length → (τ ++ [o])[n]? = τ[n]? := fun n h => List.getElem?_append_left (by rw [← r.len]; exact h)
  have last : ∀ (n : Nat) (b : Addr), (μ ++ [a])[n]? = some b → ¬ n < μ.length → n = μ.length ∧ b = a := fun n b e h => by
    have hl := (List.getElem?_eq_some_iff.mp e).1
    rw [List.length_append] at hl
    have hl' : n = μ.length := by
      have : n < μ.length + 1 := hl
      omega
    subst hl'
    rw [List.getElem?_append_right (Nat.le_refl _)] at e
    simp at e
    exact ⟨rfl, e.symm⟩
  refine ⟨⟨by rw [List.length_append, List.length_append, r.len]; rfl, fun n m b hne hb hm => ?_, fun n b u hb hu => ?_⟩, l⟩
  · by_cases h1 : n < μ.length
    · by_cases h2 : m < μ.length
      · rw [oldτ n h1, oldτ m h2]
        exact r.nd n m b hne (old n b hb h1) (old m b hm h2)
      · obtain ⟨_, rfl⟩ := last m b hm h2
        have hb' := old n b hb h1
        obtain ⟨u, hu⟩ : ∃ u, τ[n]? = some u := ⟨_, List.getElem?_eq_getElem (by rw [← r.len]; exact h1)⟩
        rcases (r.ob n b u hb' hu).live with z | ⟨xs, rfl, z⟩
        · exact absurd hn z
        · exact ⟨xs, .inl (by rw [oldτ n h1]; exact hu), z⟩
    · by_cases h2 : m < μ.length
      · obtain ⟨_, rfl⟩ := last n b hb h1
        have hb' := old m b hm h2
        obtain ⟨u, hu⟩ : ∃ u, τ[m]? = some u := ⟨_, List.getElem?_eq_getElem (by rw [← r.len]; exact h2)⟩
        rcases (r.ob m b u hb' hu).live with z | ⟨xs, rfl, z⟩
        · exact absurd hn z
        · exact ⟨xs, .inr (by rw [oldτ m h2]; exact hu), z⟩
      · exact absurd ((last n b hb h1).1.trans (last m b hm h2).1.symm) hne
  · by_cases h1 : n < μ.length
    · have hb' := old n b hb h1
      rw [oldτ n h1] at hu
      have ho1 := r.ob n b u hb' hu
      by_cases hba : b = a
      · subst hba
        rcases ho1.live with z | ⟨xs, rfl, z⟩
        · exact absurd hn z
        · exact (show SqL K (upd H b ho) b (xs.map V.int) from .inr z)
      · exact ho1.le l (upd_ne hba)
    · obtain ⟨rfl, rfl⟩ := last n b hb h1
      rw [r.len, List.getElem?_append_right (Nat.le_refl _)] at hu
      simp at hu
      subst hu
      exact ho'

/-- a thing changed -/
theorem RH.put {a : Addr} {n : Nat} {ho : HO} {o o₀ : AO} (r : RH K Cl μ τ H) (hn : μ[n]? = some a) (ho₀ : τ[n]? = some o₀) (nf : ∀ xs, o₀ ≠ AO.frz xs) (nt : ∀ vs, ¬ Rd H a (.tup vs)) (ho' : RO K Cl μ (upd H a ho) a o) :
    RH K Cl μ (τ.set n o) (upd H a ho) ∧ Le K μ H μ (upd H a ho) := by
  have l : Le K μ H μ (upd H a ho) := ⟨⟨[], by simp⟩, tup_upd nt⟩
  have hlt := (List.getElem?_eq_some_iff.mp ho₀).1
  have frzOf : ∀ (m : Nat) (xs : List Int), τ[m]? = some (.frz xs) → (τ.set n o)[m]? = some (.frz xs) := fun m xs e => by
    have hm : n ≠ m := fun z => by
      subst z
      rw [ho₀] at e
      exact nf xs (Option.some.inj e)
    rw [List.getElem?_set_ne hm]
    exact e
  refine ⟨⟨by rw [List.length_set]; exact r.len, fun m k b hne hb hk => ?_, fun m b u hb hu => ?_⟩, l⟩
  · obtain ⟨xs, e, z⟩ := r.nd m k b hne hb hk
    rcases e with e | e
    · exact ⟨xs, .inl (frzOf m xs e), z⟩
    · exact ⟨xs, .inr (frzOf k xs e), z⟩
  · by_cases hm : n = m
    · subst hm
      rw [List.getElem?_set_self hlt] at hu
      cases hu
      rw [hn] at hb
      cases hb
      exact ho'
    · rw [List.getElem?_set_ne hm] at hu
      have ho1 := r.ob m b u hb hu
      by_cases hba : b = a
      · subst hba
        obtain ⟨xs, e, z⟩ := r.nd n m b hm hn hb
        rcases e with e | e
        · rw [ho₀] at e
          exact absurd (Option.some.inj e) (nf xs)
        · rw [hu] at e
          cases e
          exact (show SqL K (upd H b ho) b (xs.map V.int) from .inr z)
      · exact ho1.le l (upd_ne hba)
/-- a new tuple (or another thing that the store does not know) -/
theorem RH.more {a : Addr} {ho : HO} (r : RH K Cl μ τ H) (hn : H a = none) : RH K Cl μ τ (upd H a ho) ∧ Le K μ H μ (upd H a ho) := by
  have l : Le K μ H μ (upd H a ho) := ⟨⟨[], by simp⟩, tup_upd (noTup_none hn)⟩
  refine ⟨⟨r.len, r.nd, fun n b u hb hu => ?_⟩, l⟩
  have ho1 := r.ob n b u hb hu
  by_cases hba : b = a
  · subst hba
    rcases ho1.live with z | ⟨xs, rfl, z⟩
    · exact absurd hn z
    · exact (show SqL K (upd H b ho) b (xs.map V.int) from .inr z)
  · exact ho1.le l (upd_ne hba)
theorem RH.at_ (r : RH K Cl μ τ H) {n : Nat} {o : AO} (h : τ[n]? = some o) : ∃ a, μ[n]? = some a ∧ RO K Cl μ H a o := by
  have hl := (List.getElem?_eq_some_iff.mp h).1
  have hm : n < μ.length := by rw [r.len]; exact hl
  exact ⟨_, List.getElem?_eq_getElem hm, r.ob n _ o (List.getElem?_eq_getElem hm) h⟩
/-- a list that can be read -/
theorem RH.seq (r : RH K Cl μ τ H) {n : Nat} {xs : List W} (h : seqOf τ n = some xs) : ∃ a vs, μ[n]? = some a ∧ SqL K H a vs ∧ RVs K μ H xs vs := by
  unfold seqOf at h
  split at h
  · rename_i ys e
    cases h
    obtain ⟨a, ha, vs, h1, h2⟩ := r.at_ e
    exact ⟨a, vs, ha, SqL.of h1, h2⟩
  · rename_i ys e
    cases h
    obtain ⟨a, ha, h1⟩ := r.at_ e
    exact ⟨a, _, ha, h1, RVs.ints _⟩
  · cases h
end
end Mi
/-! Mi2: what is wanted of a run, in the heap; operations. -/
namespace Mi
open PySem PySem.Spec PyProof.Rows L2

/-- where the classes stand -/
structure Bs where
  K : PySem.W.Frag
  Cl : Nat → Addr
  Xc : Nat → Addr

abbrev Rel (α β : Type) := List Addr → Hp → α → β → Prop

def RXn (x : Xn) (d : Option Addr) : Prop := x.fs = [] ∧ d = none

def Got {α β : Type} (B : Bs) (rel : Rel α β) (Wx : WX) (μ : List Addr) (H : Hp) (A : R α) (Q : β → Hp → Prop) : Prop :=
  match A with
  | .ok a τ' => ∀ μ' H' b, Le B.K μ H μ' H' → RH B.K B.Cl μ' τ' H' → rel μ' H' a b → Q b H'
  | .exn x ρ' τ' => ∀ μ' H' σ' d, Le B.K μ H μ' H' → RH B.K B.Cl μ' τ' H' → RS B.K μ' H' ρ' σ' → RXn x d → Wx (.ref (B.Xc x.c)) d σ' H'
  | .no => False

section
variable {B : Bs} {α β γ δ : Type} {rel : Rel α β} {relc : Rel γ δ} {Wx : WX} {μ μ1 : List Addr} {H H1 : Hp}
theorem Got.le {A : R α} {Q : β → Hp → Prop} (l : Le B.K μ H μ1 H1) (h : Got B rel Wx μ H A Q) : Got B rel Wx μ1 H1 A Q := by
  cases A with
  | ok a τ' => exact fun μ' H' b l' => h μ' H' b (l.trans l')
  | exn x ρ' τ' => exact fun μ' H' σ' d l' => h μ' H' σ' d (l.trans l')
  | no => exact h
theorem Got.imp {A : R α} {Q Q' : β → Hp → Prop} (h : Got B rel Wx μ H A Q) (k : ∀ b H', Q b H' → Q' b H') : Got B rel Wx μ H A Q' := by
  cases A with
  | ok a τ' => exact fun μ' H' b l' r e => k _ _ (h μ' H' b l' r e)
  | exn x ρ' τ' => exact h
  | no => exact h
/-- one after another -/
theorem Got.bnd {A : R α} {f : α → Sto → R γ} {Q : δ → Hp → Prop} (h : Got B relc Wx μ H (A.bind f) Q) :
    Got B rel Wx μ H A fun b H1 => ∃ a τ1 μ1, Le B.K μ H μ1 H1 ∧ RH B.K B.Cl μ1 τ1 H1 ∧ rel μ1 H1 a b ∧ Got B relc Wx μ1 H1 (f a τ1) Q := by
  cases A with
  | ok a τ' => exact fun μ' H' b l' r e => ⟨a, τ', μ', l', r, e, Got.le l' h⟩
  | exn x ρ' τ' => exact h
  | no => exact h
/-- the same, the first one's end told -/
theorem Got.bndE {A : R α} {f : α → Sto → R γ} {Q : δ → Hp → Prop} (h : Got B relc Wx μ H (A.bind f) Q) :
    Got B rel Wx μ H A fun b H1 => ∃ a τ1 μ1, Le B.K μ H μ1 H1 ∧ RH B.K B.Cl μ1 τ1 H1 ∧ rel μ1 H1 a b ∧ Got B relc Wx μ1 H1 (f a τ1) Q ∧ A = .ok a τ1 := by
  cases A with
  | ok a τ' => exact fun μ' H' b l' r e => ⟨a, τ', μ', l', r, e, Got.le l' h, rfl⟩
  | exn x ρ' τ' => exact h
  | no => exact h
end

/-- relations of ends -/
def RVr (B : Bs) : Rel W V := fun μ H w v => RV B.K μ H w v
def RVsr (B : Bs) : Rel (List W) (List V) := fun μ H w v => RVs B.K μ H w v
def REq {α : Type} : Rel α α := fun _ _ a b => a = b

section
variable {X : L2.Cx}
theorem PE.imp {e : Expr} {t t' : TE} (h : PE X e t) (k : ∀ σ H Q, t' σ H Q → t σ H Q) : PE X e t' := ⟨fun pins s σ H Q I q => h.run pins s σ H Q I (k σ H Q q)⟩
theorem PT.imp {e : Expr} {t t' : TT} (h : PT X e t) (k : ∀ σ H Q, t' σ H Q → t σ H Q) : PT X e t' := ⟨fun pins s σ H Q I q => h.run pins s σ H Q I (k σ H Q q)⟩
theorem PW.imp {e : Expr} {t t' : TT} (h : PW X e t) (k : ∀ σ H Q, t' σ H Q → t σ H Q) : PW X e t' := ⟨fun whole pins s σ H Q I q => h.run whole pins s σ H Q I (k σ H Q q)⟩
theorem PA.imp {e : List Expr} {t t' : TA} (h : PA X e t) (k : ∀ σ H Q, t' σ H Q → t σ H Q) : PA X e t' := ⟨fun pos pins s σ H Q I q => h.run pos pins s σ H Q I (k σ H Q q)⟩
theorem PO.imp {e : Option Expr} {t t' : TO} (h : PO X e t) (k : ∀ σ H Q, t' σ H Q → t σ H Q) : PO X e t' := ⟨fun pins s σ H Q I q => h.run pins s σ H Q I (k σ H Q q)⟩
theorem PI.imp {tg e : Expr} {t t' : TI} (h : PI X tg e t) (k : ∀ σ H Q, t' σ H Q → t σ H Q) : PI X tg e t' := ⟨fun pins s σ H Q I q => h.run pins s σ H Q I (k σ H Q q)⟩
theorem PS.imp {e : Stmt} {t t' : TS} (h : PS X e t) (k : ∀ D σ H, t' D σ H → t D σ H) : PS X e t' := ⟨fun pins s σ H Q I q => h.run pins s σ H Q I (k Q σ H q)⟩
theorem PSs.imp {e : List Stmt} {t t' : TS} (h : PSs X e t) (k : ∀ D σ H, t' D σ H → t D σ H) : PSs X e t' := ⟨fun pins s σ H Q I q => h.run pins s σ H Q I (k Q σ H q)⟩
theorem PTs.imp {e : List Expr} {t t' : TT} (h : PTs X e t) (k : ∀ σ H Q, t' σ H Q → t σ H Q) : PTs X e t' := ⟨fun pins s σ H Q I q => h.run pins s σ H Q I (k σ H Q q)⟩
theorem OpR.imp {f : Value → Value → Sem Value} {r r' : R2} (h : OpR X f r) (k : ∀ x y H Q, r' x y H Q → r x y H Q) : OpR X f r' := fun pins s σ H x y v u Q I r1 r2 q => h pins s σ H x y v u Q I r1 r2 (k x y H Q q)
/-- the rule is chosen by the values -/
theorem OpR.dyn {f : Value → Value → Sem Value} {r' : R2} (k : ∀ x y H Q, r' x y H Q → ∃ r, OpR X f r ∧ r x y H Q) : OpR X f r' := fun pins s σ H x y v u Q I r1 r2 q => by
  obtain ⟨r, h, q'⟩ := k x y H Q q
  exact h pins s σ H x y v u Q I r1 r2 q'
theorem IxR.dyn {r' : R2} (k : ∀ x y H Q, r' x y H Q → ∃ r, IxR X r ∧ r x y H Q) : IxR X r' := fun va sl pins s σ H x y v u Q I r1 r2 q hs => by
  obtain ⟨r, h, q'⟩ := k x y H Q q
  exact h va sl pins s σ H x y v u Q I r1 r2 q' hs
theorem CallR.dyn {f : Value} {r' : List V → Hp → VK → Prop} (k : ∀ x H Q, r' x H Q → ∃ r, CallR X f r ∧ r x H Q) : CallR X f r' := fun pins s σ H x v Q I r1 q => by
  obtain ⟨r, h, q'⟩ := k x H Q q
  exact h pins s σ H x v Q I r1 q'
end

/-! ### binary operators -/
def rBin (B : Bs) (Wx : WX) (o : Operator) : R2 := fun v u H Q => ∃ μ τ x y, RH B.K B.Cl μ τ H ∧ RV B.K μ H x v ∧ RV B.K μ H y u ∧ Got B (RVr B) Wx μ H (binop o x y τ) Q

section
variable {X : L2.Cx} {B : Bs} {Wx : WX}
theorem got_val {μ : List Addr} {H : Hp} {τ : Sto} {w : W} {v : V} {Q : VK} (g : Got B (RVr B) Wx μ H (.ok w τ) Q) (r : RH B.K B.Cl μ τ H) (h : RV B.K μ H w v) : Q v H := g μ H v Le.refl r h
/-- an operator of ints -/
theorem op_int (o : Operator) : OpR X (binaryOp o) (fun v u H Q => ∃ i j z, v = .int i ∧ u = .int j ∧ binI o i j = some z ∧ Q (.int z) H) := by
  refine OpR.dyn fun v u H Q ⟨i, j, z, hv, hu, hz, q⟩ => ?_
  cases o with
  | Add => cases hz; exact ⟨_, op_add, i, j, hv, hu, q⟩
  | Sub => cases hz; exact ⟨_, op_sub, i, j, hv, hu, q⟩
  | Mult =>
    unfold binI at hz
    dsimp only at hz
    split at hz
    · rename_i hc
      cases hz
      exact ⟨_, op_mul, i, j, hv, hu, hc, q⟩
    · cases hz
  | FloorDiv =>
    unfold binI at hz
    dsimp only at hz
    split at hz
    · rename_i hc
      cases hz
      exact ⟨_, op_fdiv, i, j, hv, hu, hc, q⟩
    · split at hz
      · rename_i hc
        cases hz
        exact ⟨_, op_fdivN, i, j, hv, hu, hc, q⟩
      · cases hz
  | Mod =>
    unfold binI at hz
    dsimp only at hz
    split at hz
    · rename_i hc
      cases hz
      exact ⟨_, op_mod, i, j, hv, hu, hc, q⟩
    · split at hz
      · rename_i hc
        cases hz
        exact ⟨_, op_modN, i, j, hv, hu, hc, q⟩
      · cases hz
  | Pow =>
    unfold binI at hz
    dsimp only at hz
    split at hz
    · rename_i hc
      cases hz
      exact ⟨_, op_pow, i, j, hv, hu, hc, q⟩
    · cases hz
  | _ => cases hz

theorem op_bin (hK : X.K = B.K) (o : Operator) : OpR X (binaryOp o) (rBin B Wx o) := by
  refine OpR.dyn fun v u H Q ⟨μ, τ, x, y, rh, rx, ry, g⟩ => ?_
  cases rx with
  | int i =>
    cases ry with
    | int j =>
      cases hz : binI o i j with
      | none =>
        have e : binop o (.int i) (.int j) τ = .no := by show lift τ ((binI o i j).map W.int) = _; rw [hz] <;> rfl
        rw [e] at g
        exact g.elim
      | some z =>
        have e : binop o (.int i) (.int j) τ = .ok (.int z) τ := by show lift τ ((binI o i j).map W.int) = _; rw [hz] <;> rfl
        rw [e] at g
        exact ⟨_, op_int o, i, j, z, rfl, rfl, hz, got_val g rh (.int z)⟩
    | _ => exact False.elim g
  | str x =>
    cases ry with
    | str y =>
      cases o with
      | Add =>
        by_cases hl : x.length + y.length ≤ sizeLine
        · have e : binop .Add (.str x) (.str y) τ = .ok (.str (x ++ y)) τ := if_pos hl
          rw [e] at g
          exact ⟨_, op_add_str, x, y, rfl, rfl, hl, got_val g rh (.str _)⟩
        · have e : binop .Add (.str x) (.str y) τ = .no := if_neg hl
          rw [e] at g
          exact g.elim
      | _ => exact False.elim g
    | _ => exact False.elim g
  | @tup a vs ws sa ra =>
    cases ry with
    | @tup b us ts sb rb =>
      cases o with
      | Add =>
        by_cases hl : ws.length + ts.length ≤ sizeLine
        · have e : binop .Add (.tup ws) (.tup ts) τ = .ok (.tup (ws ++ ts)) τ := if_pos hl
          rw [e] at g
          refine ⟨_, op_catA, a, b, vs, us, rfl, rfl, by rw [hK]; exact sa, by rw [hK]; exact sb, by rw [← ra.length, ← rb.length]; exact hl, fun e1 => ?_, fun e1 e2 => ?_, fun e1 e2 p hp => ?_⟩
          · subst e1
            cases ra
            exact got_val g rh (.tup sb rb)
          · subst e2
            cases rb
            exact got_val g rh (by rw [List.append_nil]; exact .tup sa ra)
          · obtain ⟨rh', l⟩ := rh.more (ho := .tup (vs ++ us)) hp
            exact g μ _ _ l rh' (.tup (.inl (.inl upd_same)) ((ra.le l).append (rb.le l)))
        · have e : binop .Add (.tup ws) (.tup ts) τ = .no := if_neg hl
          rw [e] at g
          exact g.elim
      | _ => exact False.elim g
    | _ => exact False.elim g
  | @ref n a ha =>
    cases ry with
    | @ref m b hb =>
      cases o with
      | Add =>
        cases e1 : τ[n]? with
        | none =>
          have e : binop .Add (.ref n) (.ref m) τ = .no := by unfold binop; simp only [e1]
          rw [e] at g
          exact g.elim
        | some o1 =>
          cases o1 with
          | lst xs =>
            cases e2 : τ[m]? with
            | none =>
              have e : binop .Add (.ref n) (.ref m) τ = .no := by unfold binop; simp only [e1, e2]
              rw [e] at g
              exact g.elim
            | some o2 =>
              cases o2 with
              | lst ys =>
                by_cases hl : xs.length + ys.length ≤ sizeLine
                · have e : binop .Add (.ref n) (.ref m) τ = .ok (.ref τ.length) (τ ++ [.lst (xs ++ ys)]) := by unfold binop; simp only [e1, e2]; exact if_pos hl
                  rw [e] at g
                  obtain ⟨a', ha', vs, h1, r1⟩ := rh.at_ e1
                  obtain ⟨b', hb', us, h2, r2⟩ := rh.at_ e2
                  obtain rfl : a' = a := Option.some.inj (ha'.symm.trans ha)
                  obtain rfl : b' = b := Option.some.inj (hb'.symm.trans hb)
                  refine ⟨_, op_cat, a', b', vs, us, rfl, rfl, h1, h2, by rw [← r1.length, ← r2.length]; exact hl, fun p hp => ?_⟩
                  have l : Le B.K μ H (μ ++ [p]) (upd H p (.lst (vs ++ us))) := ⟨⟨[p], rfl⟩, tup_upd (noTup_none hp)⟩
                  obtain ⟨rh', l'⟩ := rh.push (o := .lst (xs ++ ys)) (ho := .lst (vs ++ us)) hp ⟨vs ++ us, upd_same, (r1.le l).append (r2.le l)⟩
                  exact g _ _ _ l' rh' (.ref (by rw [← rh.len]; simp))
                · have e : binop .Add (.ref n) (.ref m) τ = .no := by unfold binop; simp only [e1, e2]; exact if_neg hl
                  rw [e] at g
                  exact g.elim
              | _ =>
                have e : binop .Add (.ref n) (.ref m) τ = .no := by unfold binop; simp only [e1, e2]
                rw [e] at g
                exact g.elim
          | _ =>
            have e : binop .Add (.ref n) (.ref m) τ = .no := by unfold binop; simp only [e1]
            rw [e] at g
            exact g.elim
      | _ => exact False.elim g
    | int k =>
      cases o with
      | Mult =>
        cases e1 : τ[n]? with
        | none =>
          have e : binop .Mult (.ref n) (.int k) τ = .no := by unfold binop; simp only [e1]
          rw [e] at g
          exact g.elim
        | some o1 =>
          cases o1 with
          | lst xs =>
            by_cases hl : -(2 ^ 63) ≤ k ∧ k < 2 ^ 63 ∧ xs.length * k.toNat ≤ sizeLine
            · have e : binop .Mult (.ref n) (.int k) τ = .ok (.ref τ.length) (τ ++ [.lst (List.replicate k.toNat xs).flatten]) := by unfold binop; simp only [e1]; exact if_pos hl
              rw [e] at g
              obtain ⟨a', ha', vs, h1, r1⟩ := rh.at_ e1
              obtain rfl : a' = a := Option.some.inj (ha'.symm.trans ha)
              refine ⟨_, op_rep, a', k, vs, rfl, rfl, h1, hl.1, hl.2.1, by rw [← r1.length]; exact hl.2.2, fun p hp => ?_⟩
              have l : Le B.K μ H (μ ++ [p]) (upd H p (.lst (List.replicate k.toNat vs).flatten)) := ⟨⟨[p], rfl⟩, tup_upd (noTup_none hp)⟩
              obtain ⟨rh', l'⟩ := rh.push (o := .lst (List.replicate k.toNat xs).flatten) (ho := .lst (List.replicate k.toNat vs).flatten) hp ⟨_, upd_same, (r1.le l).rep _⟩
              exact g _ _ _ l' rh' (.ref (by rw [← rh.len]; simp))
            · have e : binop .Mult (.ref n) (.int k) τ = .no := by unfold binop; simp only [e1]; exact if_neg hl
              rw [e] at g
              exact g.elim
          | _ =>
            have e : binop .Mult (.ref n) (.int k) τ = .no := by unfold binop; simp only [e1]
            rw [e] at g
            exact g.elim
      | _ => exact False.elim g
    | _ => exact False.elim g
  | _ => exact False.elim g
end

/-! ### data, == and in -/
section
variable {B : Bs} {μ : List Addr} {H : Hp} {τ : Sto}
theorem mapO_dp {f : W → Option PyData} (k : ∀ w v e, RV B.K μ H w v → f w = some e → Dp B.K H v e) : ∀ (ws : List W) (vs : List V) (es : List PyData), RVs B.K μ H ws vs → mapO f ws = some es → DpAll B.K H vs es
  | [], _, _, .nil, h => by cases h; exact .nil
  | x :: r, _, es, .cons a b, h => by
    unfold mapO at h
    cases q1 : f x with
    | none => simp [q1] at h
    | some e1 =>
      cases q2 : mapO f r with
      | none => simp [q1, q2] at h
      | some e2 =>
        simp [q1, q2] at h
        subst h
        exact .cons (k x _ e1 a q1) (mapO_dp k r _ e2 b q2)
theorem toD_dp (rh : RH B.K B.Cl μ τ H) : ∀ (d : Nat) (w : W) (v : V) (e : PyData), RV B.K μ H w v → toD τ d w = some e → Dp B.K H v e
  | 0, w, v, e, r, h => by
    cases r with
    | non => cases h; exact .non
    | bl b => cases h; exact .bl b
    | int b => cases h; exact .int b
    | str b => cases h; exact .str b
    | tup _ _ => cases h
    | ref _ => cases h
  | d + 1, w, v, e, r, h => by
    cases r with
    | non => cases h; exact .non
    | bl b => cases h; exact .bl b
    | int b => cases h; exact .int b
    | str b => cases h; exact .str b
    | @tup a vs xs s r =>
      have h' : (mapO (toD τ d) xs).map PyData.tuple = some e := h
      cases q : mapO (toD τ d) xs with
      | none => rw [q] at h'; cases h'
      | some es =>
        rw [q] at h'
        cases h'
        exact .tup s (mapO_dp (toD_dp rh d) xs _ es r q)
    | @ref n a ha =>
      have h' : (match seqOf τ n with
        | some xs => (mapO (toD τ d) xs).map PyData.list
        | none => none) = some e := h
      cases q0 : seqOf τ n with
      | none => rw [q0] at h'; cases h'
      | some xs =>
        rw [q0] at h'
        have h'' : (mapO (toD τ d) xs).map PyData.list = some e := h'
        cases q : mapO (toD τ d) xs with
        | none => rw [q] at h''; cases h''
        | some es =>
          rw [q] at h''
          cases h''
          obtain ⟨a', vs, ha', s, r⟩ := rh.seq q0
          obtain rfl := Option.some.inj (ha'.symm.trans ha)
          exact .lst s (mapO_dp (toD_dp rh d) xs _ es r q)
/-- flat values -/
theorem flat_rv {w : W} {v : V} (r : RV B.K μ H w v) (h : flat w = true) : flatV v = true := by
  cases r <;> first | rfl | cases h
theorem eqF_rv {w u : W} {v x : V} (r : RV B.K μ H w v) (r' : RV B.K μ H u x) (h : flat w = true) (h' : flat u = true) : eqV v x = eqF w u := by
  cases r <;> cases r' <;> first | rfl | cases h | cases h'
theorem inF_rv {w : W} {v : V} (r : RV B.K μ H w v) (hf : flat w = true) : ∀ {ws : List W} {vs : List V}, RVs B.K μ H ws vs → ws.all flat = true → vs.all flatV = true ∧ inV v vs = inF w ws
  | _, _, .nil, _ => ⟨rfl, rfl⟩
  | w' :: ws, v' :: vs, .cons a b, h => by
    rw [List.all_cons, Bool.and_eq_true] at h
    obtain ⟨h1, h2⟩ := inF_rv r hf b h.2
    refine ⟨by rw [List.all_cons, flat_rv a h.1, h1] <;> rfl, ?_⟩
    show (eqV v' v || inV v vs) = (eqF w' w || inF w ws)
    rw [h2, eqF_rv a r h.1 hf]
theorem ints_flat : ∀ ns : List Int, (ns.map W.int).all flat = true
  | [] => rfl
  | _ :: r => ints_flat r
theorem key_rv {w : W} {v : V} {k : Key} (r : RV B.K μ H w v) (h : keyOf w = some k) : v = kV k := by
  cases r with
  | int i => cases h; rfl
  | str x => cases h; rfl
  | _ => cases h
end
end Mi
/-! Mi3: comparisons, truth, items, calls of built-ins. -/
namespace Mi
open PySem PySem.Spec PyProof.Rows L2

section
variable {K : PySem.W.Frag} {μ : List Addr} {H : Hp}
theorem RP.get {ps : List (Key × W)} {qs : List (Key × V)} (h : RP K μ H ps qs) (k : Key) : (kvGet ps k = none ∧ valV qs k = none) ∨ ∃ w v, kvGet ps k = some w ∧ valV qs k = some v ∧ RV K μ H w v := by
  induction h with
  | nil => exact .inl ⟨rfl, rfl⟩
  | @cons p q ps qs a r ih =>
    obtain ⟨p1, p2⟩ := p
    obtain ⟨q1, q2⟩ := q
    obtain ⟨a1, a2⟩ := a
    have a1' : p1 = q1 := a1
    subst a1'
    by_cases e : p1 = k
    · refine .inr ⟨p2, q2, ?_, valV_pos e, a2⟩
      unfold kvGet
      rw [List.find?_cons, decide_eq_true (show (p1, p2).1 = k from e)] <;> rfl
    · have e1 : kvGet ((p1, p2) :: ps) k = kvGet ps k := by
        unfold kvGet
        rw [List.find?_cons, decide_eq_false (show ¬ (p1, p2).1 = k from e)]
      rw [e1, valV_neg (show ¬ (p1, q2).1 = k from e)]
      exact ih
theorem RP.any {ps : List (Key × W)} {qs : List (Key × V)} (h : RP K μ H ps qs) (k : Key) : (ps.any fun kv => decide (kv.1 = k)) = qs.any fun kv => decide (kv.1 = k) := by
  induction h with
  | nil => rfl
  | @cons p q ps qs a r ih =>
    rw [List.any_cons, List.any_cons, ih, a.1]
theorem RP.mapp {ps : List (Key × W)} {qs : List (Key × V)} {k : Key} {w : W} {v : V} (b : RV K μ H w v) (h : RP K μ H ps qs) :
    RP K μ H (ps.map fun kv => if kv.1 = k then (kv.1, w) else kv) (qs.map fun kv => if kv.1 = k then (kv.1, v) else kv) := by
  induction h with
  | nil => exact .nil
  | @cons p q ps qs a r ih =>
    rw [List.map_cons, List.map_cons]
    refine .cons ?_ ih
    rw [a.1]
    by_cases e : q.1 = k
    · rw [if_pos e, if_pos e]
      exact ⟨rfl, b⟩
    · rw [if_neg e, if_neg e]
      exact a
theorem RP.app {α : Type} {ps ps' : List (α × W)} {qs qs' : List (α × V)} (h : RP K μ H ps qs) (h' : RP K μ H ps' qs') : RP K μ H (ps ++ ps') (qs ++ qs') := by
  induction h with
  | nil => exact h'
  | cons a r ih => exact .cons a ih
theorem RP.putK {ps : List (Key × W)} {qs : List (Key × V)} {k : Key} {w : W} {v : V} (b : RV K μ H w v) (h : RP K μ H ps qs) : RP K μ H (kvPut ps k w) (putK qs k v) := by
  unfold kvPut L2.putK
  rw [h.any k]
  by_cases e : (qs.any fun kv => decide (kv.1 = k)) = true
  · rw [if_pos e, if_pos e]
    exact h.mapp b
  · rw [if_neg e, if_neg e]
    exact h.app (.cons ⟨rfl, b⟩ .nil)
end

def rCmp (B : Bs) (o : CmpOp) : R2 := fun v u H Q => ∃ μ τ x y k, RH B.K B.Cl μ τ H ∧ RV B.K μ H x v ∧ RV B.K μ H y u ∧ cmpop o x y τ = some k ∧ Q (.bl k) H

section
variable {X : L2.Cx} {B : Bs}
theorem op_inD (hu : X.A.units + 1 < cLine) : OpR X (compareOp .In) (fun y x H Q => ∃ a o, x = .ref a ∧ DGet H a y o ∧ Q (.bl o.isSome) H) := by
  intro pins s σ H x y v u Q I rx ry ⟨a, o, e, g, q⟩
  subst e
  obtain rfl : u = .ref a := ry
  exact d_in hu I g rx fun s' I' => ⟨.bl _, H, I', rfl, q⟩
theorem op_notInD (hu : X.A.units + 1 < cLine) : OpR X (compareOp .NotIn) (fun y x H Q => ∃ a o, x = .ref a ∧ DGet H a y o ∧ Q (.bl (!o.isSome)) H) := by
  intro pins s σ H x y v u Q I rx ry ⟨a, o, e, g, q⟩
  subst e
  obtain rfl : u = .ref a := ry
  exact d_notIn hu I g rx fun s' I' => ⟨.bl _, H, I', rfl, q⟩

theorem in_some {τ : Sto} {x y : W} {k : Bool} {μ : List Addr} {H : Hp} {v u : V} (rh : RH B.K B.Cl μ τ H) (rx : RV B.K μ H x v) (ry : RV B.K μ H y u) (h : inW τ x y = some k) :
    (∃ i j, v = .str i ∧ u = .str j ∧ k = isIn i j) ∨ (∃ p xs, u = .ref p ∧ (SqL B.K H p xs ∨ SqT B.K H p xs) ∧ flatV v = true ∧ xs.all flatV = true ∧ k = inV v xs) ∨ (∃ a o, u = .ref a ∧ DGet H a v o ∧ k = o.isSome) := by
  cases ry with
  | str y =>
    cases rx with
    | str x => cases h; exact .inl ⟨x, y, rfl, rfl, rfl⟩
    | _ => cases h
  | @tup a vs ws s r =>
    have h' : (if flat x = true ∧ ws.all flat = true then some (inF x ws) else none) = some k := h
    split at h'
    · rename_i hc
      cases h'
      obtain ⟨h1, h2⟩ := inF_rv rx hc.1 r hc.2
      exact .inr (.inl ⟨a, vs, rfl, .inr s, flat_rv rx hc.1, h1, h2.symm⟩)
    · cases h'
  | @ref n a ha =>
    unfold inW at h
    dsimp only at h
    cases e : τ[n]? with
    | none => rw [e] at h; cases h
    | some o =>
      rw [e] at h
      obtain ⟨a', ha', ho⟩ := rh.at_ e
      obtain rfl := Option.some.inj (ha'.symm.trans ha)
      cases o with
      | lst ys =>
        dsimp only at h
        split at h
        · rename_i hc
          cases h
          obtain ⟨vs, h0, r⟩ := ho
          obtain ⟨h1, h2⟩ := inF_rv rx hc.1 r hc.2
          exact .inr (.inl ⟨a', vs, rfl, .inl (SqL.of h0), flat_rv rx hc.1, h1, h2.symm⟩)
        · cases h
      | frz ns =>
        dsimp only at h
        split at h
        · rename_i hc
          cases h
          obtain ⟨h1, h2⟩ := inF_rv rx hc (RVs.ints ns) (ints_flat ns)
          exact .inr (.inl ⟨a', _, rfl, .inl ho, flat_rv rx hc, h1, h2.symm⟩)
        · cases h
      | dic kvs =>
        dsimp only at h
        cases hk : keyOf x with
        | none => rw [hk] at h; cases h
        | some key =>
          rw [hk] at h
          cases h
          obtain ⟨qs, h0, r⟩ := ho
          refine .inr (.inr ⟨a', _, rfl, .inl ⟨qs, key, .inl h0, key_rv rx hk, rfl⟩, ?_⟩)
          show (kvGet kvs key).isSome = (valV qs key).isSome
          rcases r.get key with ⟨h1, h2⟩ | ⟨w, v', h1, h2, _⟩
          · rw [h1, h2] <;> rfl
          · rw [h1, h2] <;> rfl
      | ins c fs => cases h
  | _ => cases h

theorem op_cmp (hK : X.K = B.K) (hu : X.A.units + 64 < cLine) (o : CmpOp) : OpR X (compareOp o) (rCmp B o) := by
  refine OpR.dyn fun v u H Q ⟨μ, τ, x, y, k, rh, rx, ry, h, q⟩ => ?_
  have hu1 : X.A.units + 1 < cLine := by omega
  cases o with
  | Lt =>
    cases rx <;> cases ry <;> first | (cases h; done) | skip
    cases h
    exact ⟨_, op_lt, _, _, rfl, rfl, q⟩
  | LtE =>
    cases rx <;> cases ry <;> first | (cases h; done) | skip
    cases h
    exact ⟨_, op_le, _, _, rfl, rfl, q⟩
  | Gt =>
    cases rx <;> cases ry <;> first | (cases h; done) | skip
    cases h
    exact ⟨_, op_gt, _, _, rfl, rfl, q⟩
  | GtE =>
    cases rx <;> cases ry <;> first | (cases h; done) | skip
    cases h
    exact ⟨_, op_ge, _, _, rfl, rfl, q⟩
  | Eq =>
    have h' : eqW τ x y = some k := h
    unfold eqW at h'
    cases h1 : toD τ 64 x with
    | none => rw [h1] at h'; cases h'
    | some d =>
      cases h2 : toD τ 64 y with
      | none => rw [h1, h2] at h'; cases h'
      | some e =>
        rw [h1, h2] at h'
        dsimp only at h'
        split at h'
        · rename_i hc
          cases h'
          exact ⟨_, op_eqD hu, d, e, by rw [hK]; exact toD_dp rh 64 x v d rx h1, by rw [hK]; exact toD_dp rh 64 y u e ry h2, hc.1, hc.2, q⟩
        · cases h'
  | NotEq =>
    have h' : (eqW τ x y).map (!·) = some k := h
    unfold eqW at h'
    cases h1 : toD τ 64 x with
    | none => rw [h1] at h'; cases h'
    | some d =>
      cases h2 : toD τ 64 y with
      | none => rw [h1, h2] at h'; cases h'
      | some e =>
        rw [h1, h2] at h'
        dsimp only at h'
        split at h'
        · rename_i hc
          cases h'
          exact ⟨_, op_neD hu, d, e, by rw [hK]; exact toD_dp rh 64 x v d rx h1, by rw [hK]; exact toD_dp rh 64 y u e ry h2, hc.1, hc.2, q⟩
        · cases h'
  | In =>
    have h' : inW τ x y = some k := h
    rcases in_some rh rx ry h' with ⟨i, j, rfl, rfl, rfl⟩ | ⟨p, xs, rfl, hs, f1, f2, rfl⟩ | ⟨a, o, rfl, g, rfl⟩
    · exact ⟨_, op_in_str, i, j, rfl, rfl, q⟩
    · exact ⟨_, op_in_seq, p, xs, rfl, by rw [hK]; exact hs, f1, f2, q⟩
    · exact ⟨_, op_inD hu1, a, o, rfl, g, q⟩
  | NotIn =>
    have h' : (inW τ x y).map (!·) = some k := h
    cases hi : inW τ x y with
    | none => rw [hi] at h'; cases h'
    | some k' =>
      rw [hi] at h'
      cases h'
      rcases in_some rh rx ry hi with ⟨i, j, rfl, rfl, rfl⟩ | ⟨p, xs, rfl, hs, f1, f2, rfl⟩ | ⟨a, o, rfl, g, rfl⟩
      · exact ⟨_, op_notIn_str, i, j, rfl, rfl, q⟩
      · exact ⟨_, op_notIn_seq, p, xs, rfl, by rw [hK]; exact hs, f1, f2, q⟩
      · exact ⟨_, op_notInD hu1, a, o, rfl, g, q⟩
  | Is =>
    cases ry with
    | non =>
      refine ⟨_, op_isN, rfl, ?_⟩
      have e : decide (v = V.non) = k := by
        cases rx <;> cases h <;> rfl
      rw [e]
      exact q
    | _ => cases h
  | IsNot =>
    cases ry with
    | non =>
      refine ⟨_, op_notN, rfl, ?_⟩
      have e : (!decide (v = V.non)) = k := by
        cases rx <;> cases h <;> rfl
      rw [e]
      exact q
    | _ => cases h

/-! ### truth -/
theorem truth_rv {μ : List Addr} {H : Hp} {τ : Sto} {w : W} {v : V} {k : Bool} (rh : RH B.K B.Cl μ τ H) (r : RV B.K μ H w v) (h : truth τ w = some k) : TruV B.K v H k := by
  cases r with
  | non => cases h; rfl
  | bl b => cases h; rfl
  | int i => cases h; rfl
  | str x =>
    have h' : (if x.length ≤ sizeLine then some ((x.length : Int) != 0) else none) = some k := h
    split at h'
    · rename_i hc
      cases h'
      exact ⟨hc, rfl⟩
    · cases h'
  | @tup a vs ws s r =>
    cases h
    exact .inr (.inl ⟨vs, s, by rw [r.isEmpty]⟩)
  | @ref n a ha =>
    unfold truth at h
    dsimp only at h
    cases e : τ[n]? with
    | none => rw [e] at h; cases h
    | some o =>
      rw [e] at h
      obtain ⟨a', ha', ho⟩ := rh.at_ e
      obtain rfl := Option.some.inj (ha'.symm.trans ha)
      cases o with
      | lst ys =>
        cases h
        obtain ⟨vs, h0, r⟩ := ho
        exact .inl ⟨vs, SqL.of h0, by rw [r.isEmpty]⟩
      | frz ns =>
        cases h
        exact .inl ⟨_, ho, by cases ns <;> rfl⟩
      | dic kvs =>
        cases h
        obtain ⟨qs, h0, r⟩ := ho
        refine .inr (.inr ⟨qs, h0, ?_⟩)
        cases r <;> rfl
      | ins c fs => cases h

/-! ### items -/
theorem atI_rv {μ : List Addr} {H : Hp} {xs : List W} {vs : List V} {i : Int} {w : W} (r : RVs B.K μ H xs vs) (h : atI xs i = some w) : ∃ v, atI vs i = some v ∧ RV B.K μ H w v := by
  unfold atI at h ⊢
  rw [← r.length]
  cases e : ixN xs.length i with
  | none => rw [e] at h; cases h
  | some j =>
    rw [e] at h
    exact r.get h
def rItem (B : Bs) (Wx : WX) : R2 := fun v u H Q => ∃ μ τ x y w, RH B.K B.Cl μ τ H ∧ RV B.K μ H x v ∧ RV B.K μ H y u ∧ itemAt τ x y = some w ∧ (∀ n kvs, x = .ref n → τ[n]? ≠ some (.dic kvs)) ∧ Got B (RVr B) Wx μ H (.ok w τ) Q
theorem ix_item (hK : X.K = B.K) {Wx : WX} : IxR X (rItem B Wx) := by
  refine IxR.dyn fun v u H Q ⟨μ, τ, x, y, w, rh, rx, ry, h, hd, g⟩ => ?_
  cases rx with
  | @tup a vs ws s r =>
    cases ry with
    | int i =>
      obtain ⟨z, hz, rz⟩ := atI_rv r (show atI ws i = some w from h)
      exact ⟨_, ix_tup, a, vs, i, z, rfl, rfl, by rw [hK]; exact s, hz, got_val g rh rz⟩
    | _ => cases h
  | str z =>
    cases ry with
    | int i =>
      have h' : (if z.length ≤ sizeLine then (atI z.cps.toList i).map fun c => W.str ⟨#[c]⟩ else none) = some w := h
      split at h'
      · rename_i hc
        cases e : atI z.cps.toList i with
        | none => rw [e] at h'; cases h'
        | some c =>
          rw [e] at h'
          cases h'
          exact ⟨_, ix_str, z, i, c, rfl, rfl, hc, e, got_val g rh (.str _)⟩
      · cases h'
    | _ => cases h
  | @ref n a ha =>
    unfold itemAt at h
    dsimp only at h
    cases e : τ[n]? with
    | none => rw [e] at h; cases h
    | some o =>
      rw [e] at h
      obtain ⟨a', ha', ho⟩ := rh.at_ e
      obtain rfl := Option.some.inj (ha'.symm.trans ha)
      cases o with
      | lst ys =>
        cases ry with
        | int i =>
          obtain ⟨vs, h0, r⟩ := ho
          obtain ⟨z, hz, rz⟩ := atI_rv r (show atI ys i = some w from h)
          exact ⟨_, ix_list, a', vs, i, z, rfl, rfl, by rw [hK]; exact SqL.of h0, hz, got_val g rh rz⟩
        | _ => cases h
      | frz ns =>
        cases ry with
        | int i =>
          obtain ⟨z, hz, rz⟩ := atI_rv (B := B) (RVs.ints ns) (show atI (ns.map W.int) i = some w from h)
          exact ⟨_, ix_list, a', _, i, z, rfl, rfl, by rw [hK]; exact ho, hz, got_val g rh rz⟩
        | _ => cases h
      | dic kvs => exact absurd e (hd n kvs rfl)
      | ins c fs => cases h
  | _ => cases h
end

/-! ### slices -/
theorem cut_rv {K : PySem.W.Frag} {μ : List Addr} {H : Hp} {xs : List W} {vs : List V} {lo hi : Option Int} (r : RVs K μ H xs vs) : RVs K μ H (cut xs lo hi) (cutV vs lo hi) := by
  unfold cut cutV
  rw [r.length]
  exact (r.drop _).take _
theorem cut_whole {xs : List W} {lo hi : Option Int} (h1 : HT.sIx xs.length 0 lo = 0) (h2 : HT.sIx xs.length xs.length hi = xs.length) : cut xs lo hi = xs := by
  unfold cut
  rw [h1, h2, List.drop_zero, Nat.sub_zero, List.take_length]
section
variable {X : L2.Cx} {B : Bs}
def rSl (B : Bs) (Wx : WX) : V → Option Int → Option Int → Hp → VK → Prop := fun v lo hi H Q => ∃ μ τ x, RH B.K B.Cl μ τ H ∧ RV B.K μ H x v ∧ Got B (RVr B) Wx μ H (sliceW x lo hi τ) Q
theorem SlR.dyn {r' : V → Option Int → Option Int → Hp → VK → Prop} (k : ∀ x lo hi H Q, r' x lo hi H Q → ∃ r, SlR X r ∧ r x lo hi H Q) : SlR X r' := fun pins s σ H x v vl vu lo hi sl Q I r1 h1 h2 h3 q => by
  obtain ⟨r, h, q'⟩ := k x lo hi H Q q
  exact h pins s σ H x v vl vu lo hi sl Q I r1 h1 h2 h3 q'
theorem sl_any (hK : X.K = B.K) {Wx : WX} : SlR X (rSl B Wx) := by
  refine SlR.dyn fun v lo hi H Q ⟨μ, τ, x, rh, rx, g⟩ => ?_
  cases rx with
  | @tup a vs ws s r =>
    have g' : Got B (RVr B) Wx μ H (.ok (.tup (cut ws lo hi)) τ) Q := g
    refine ⟨_, sl_tupA, a, vs, rfl, by rw [hK]; exact s, fun h => ?_, fun h p hp => ?_⟩
    · rw [← r.length] at h
      rw [cut_whole h.1 h.2] at g'
      exact got_val g' rh (.tup s r)
    · obtain ⟨rh', l⟩ := rh.more (ho := .tup (cutV vs lo hi)) hp
      exact g' μ _ _ l rh' (.tup (.inl (.inl upd_same)) (cut_rv (r.le l)))
  | str z =>
    have g' : Got B (RVr B) Wx μ H (if z.length ≤ sizeLine then .ok (.str (cutS z lo hi)) τ else .no) Q := g
    split at g'
    · rename_i hc
      exact ⟨_, sl_str, z, rfl, hc, got_val g' rh (.str _)⟩
    · exact g'.elim
  | @ref n a ha =>
    have g' : Got B (RVr B) Wx μ H (match seqOf τ n with
      | some xs => .ok (.ref τ.length) (τ ++ [.lst (cut xs lo hi)])
      | none => .no) Q := g
    cases e : seqOf τ n with
    | none => rw [e] at g'; exact g'.elim
    | some xs =>
      rw [e] at g'
      dsimp only at g'
      obtain ⟨a', vs, ha', s, r⟩ := rh.seq e
      obtain rfl := Option.some.inj (ha'.symm.trans ha)
      refine ⟨_, sl_list, a', vs, rfl, by rw [hK]; exact s, fun p hp => ?_⟩
      have l : Le B.K μ H (μ ++ [p]) (upd H p (.lst (cutV vs lo hi))) := ⟨⟨[p], rfl⟩, tup_upd (noTup_none hp)⟩
      obtain ⟨rh', l'⟩ := rh.push (o := .lst (cut xs lo hi)) (ho := .lst (cutV vs lo hi)) hp ⟨_, upd_same, cut_rv (r.le l)⟩
      exact g' _ _ _ l' rh' (.ref (by rw [← rh.len]; simp))
  | _ => exact False.elim g
end
end Mi
/-! Mi4: built-ins by their rules; the look that compares a text with the small language. -/
namespace Mi
open PySem PySem.Spec PyProof.Rows L2

def rBi (B : Bs) (Wx : WX) (b : BI) : List V → Hp → VK → Prop := fun vs H Q => ∃ μ τ ws, RH B.K B.Cl μ τ H ∧ RVs B.K μ H ws vs ∧ Got B (RVr B) Wx μ H (builtin b ws τ) Q
section
variable {X : L2.Cx} {B : Bs} {Wx : WX}
theorem call_lenD : CallR X (.builtin "len") (fun xs H Q => ∃ a kvs, xs = [.ref a] ∧ H a = some (.dK kvs) ∧ Q (.int kvs.length) H) := by
  intro pins s σ H xs us Q I r ⟨a, kvs, e, h, q⟩
  subst e
  obtain ⟨u, rfl, ru⟩ := vals1 r
  obtain rfl : u = .ref a := ru
  exact d_len I (.inl h) fun t s' I' => ⟨.int _, H, I', ⟨_, rfl⟩, q⟩
theorem got_new {μ : List Addr} {H : Hp} {τ : Sto} {xs : List W} {vs : List V} {Q : VK} (g : Got B (RVr B) Wx μ H (newL τ xs) Q) (rh : RH B.K B.Cl μ τ H) (r : RVs B.K μ H xs vs) (p : Addr) (hp : H p = none) : Q (.ref p) (upd H p (.lst vs)) := by
  have l : Le B.K μ H (μ ++ [p]) (upd H p (.lst vs)) := ⟨⟨[p], rfl⟩, tup_upd (noTup_none hp)⟩
  obtain ⟨rh', l'⟩ := rh.push (o := .lst xs) (ho := .lst vs) hp ⟨_, upd_same, r.le l⟩
  exact g _ _ _ l' rh' (.ref (by rw [← rh.len]; simp))
theorem bi_len (hK : X.K = B.K) : CallR X (.builtin "len") (rBi B Wx .len) := by
  refine CallR.dyn fun vs H Q ⟨μ, τ, ws, rh, rs, g⟩ => ?_
  have g' : Got B (RVr B) Wx μ H (bLen ws τ) Q := g
  cases rs with
  | nil => exact g'.elim
  | cons a r =>
    cases r with
    | cons _ _ => cases a <;> exact g'.elim
    | nil =>
      cases a with
      | str x =>
        have g2 : Got B (RVr B) Wx μ H (if x.length ≤ sizeLine then .ok (.int x.length) τ else .no) Q := g'
        split at g2
        · rename_i hc
          exact ⟨_, call_len_str, x, rfl, hc, got_val g2 rh (.int _)⟩
        · exact g2.elim
      | @tup a vs ws s r =>
        exact ⟨_, call_len_seq, a, vs, rfl, .inr (by rw [hK]; exact s), by rw [← r.length]; exact got_val g' rh (.int _)⟩
      | @ref n a ha =>
        have g2 : Got B (RVr B) Wx μ H (match τ[n]? with
          | some (.lst xs) => .ok (.int xs.length) τ
          | some (.frz xs) => .ok (.int xs.length) τ
          | some (.dic kvs) => .ok (.int kvs.length) τ
          | _ => .no) Q := g'
        cases e : τ[n]? with
        | none => rw [e] at g2; exact g2.elim
        | some o =>
          rw [e] at g2
          obtain ⟨a', ha', ho⟩ := rh.at_ e
          obtain rfl := Option.some.inj (ha'.symm.trans ha)
          cases o with
          | lst ys =>
            obtain ⟨vs, h0, r⟩ := ho
            exact ⟨_, call_len_seq, a', vs, rfl, .inl (by rw [hK]; exact SqL.of h0), by rw [← r.length]; exact got_val g2 rh (.int _)⟩
          | frz ns =>
            exact ⟨_, call_len_seq, a', _, rfl, .inl (by rw [hK]; exact ho), by rw [List.length_map]; exact got_val g2 rh (.int _)⟩
          | dic kvs =>
            obtain ⟨qs, h0, r⟩ := ho
            exact ⟨_, call_lenD, a', qs, rfl, h0, by rw [← r.length]; exact got_val g2 rh (.int _)⟩
          | ins c fs => exact g2.elim
      | _ => exact g'.elim
theorem bi_int : CallR X (.type "int") (rBi B Wx .int) := by
  refine CallR.dyn fun vs H Q ⟨μ, τ, ws, rh, rs, g⟩ => ?_
  have g' : Got B (RVr B) Wx μ H (bInt ws τ) Q := g
  cases rs with
  | nil => exact g'.elim
  | cons a r =>
    cases r with
    | cons _ _ => cases a <;> exact g'.elim
    | nil =>
      cases a with
      | int i => exact ⟨_, call_int1, .inl ⟨i, rfl, got_val g' rh (.int _)⟩⟩
      | bl k => exact ⟨_, call_int1, .inr ⟨k, rfl, got_val g' rh (.int _)⟩⟩
      | str x =>
        have g2 : Got B (RVr B) Wx μ H (match PySem.intText? x with
          | some n => if x.length ≤ 640 then .ok (.int n) τ else .no
          | none => .no) Q := g'
        cases e : PySem.intText? x with
        | none => rw [e] at g2; exact g2.elim
        | some n =>
          rw [e] at g2
          dsimp only at g2
          split at g2
          · rename_i hc
            exact ⟨_, call_int_str, x, n, rfl, e, hc, got_val g2 rh (.int _)⟩
          · exact g2.elim
      | _ => exact g'.elim
theorem bi_str : CallR X (.type "str") (rBi B Wx .str) := by
  refine CallR.dyn fun vs H Q ⟨μ, τ, ws, rh, rs, g⟩ => ?_
  have g' : Got B (RVr B) Wx μ H (bStr ws τ) Q := g
  cases rs with
  | nil => exact g'.elim
  | cons a r =>
    cases r with
    | cons _ _ => cases a <;> exact g'.elim
    | nil =>
      cases a with
      | int i =>
        have g2 : Got B (RVr B) Wx μ H (if i.natAbs.log2 < 1920 then .ok (.str (toString i)) τ else .no) Q := g'
        split at g2
        · rename_i hc
          exact ⟨_, call_str_int, i, rfl, hc, got_val g2 rh (.str _)⟩
        · exact g2.elim
      | str x => exact ⟨_, SkE.call_str_str, x, rfl, got_val g' rh (.str _)⟩
      | _ => exact g'.elim
theorem bi_abs : CallR X (.builtin "abs") (rBi B Wx .abs) := by
  refine CallR.dyn fun vs H Q ⟨μ, τ, ws, rh, rs, g⟩ => ?_
  have g' : Got B (RVr B) Wx μ H (bAbs ws τ) Q := g
  cases rs with
  | nil => exact g'.elim
  | cons a r =>
    cases r with
    | cons _ _ => cases a <;> exact g'.elim
    | nil =>
      cases a with
      | int i => exact ⟨_, call_abs, i, rfl, got_val g' rh (.int _)⟩
      | _ => exact g'.elim
theorem bi_max2 (hc : X.calm = true) : CallR X (.builtin "max") (rBi B Wx .max2) := by
  refine CallR.dyn fun vs H Q ⟨μ, τ, ws, rh, rs, g⟩ => ?_
  have g' : Got B (RVr B) Wx μ H (bMax2 ws τ) Q := g
  cases rs with
  | nil => exact g'.elim
  | cons a r =>
    cases r with
    | nil => cases a <;> exact g'.elim
    | cons b r =>
      cases r with
      | cons _ _ => cases a <;> cases b <;> exact g'.elim
      | nil =>
        cases a with
        | int i =>
          cases b with
          | int j => exact ⟨_, call_max2 hc, i, j, rfl, got_val g' rh (.int _)⟩
          | _ => exact g'.elim
        | _ => cases b <;> exact g'.elim
theorem bi_min2 (hc : X.calm = true) : CallR X (.builtin "min") (rBi B Wx .min2) := by
  refine CallR.dyn fun vs H Q ⟨μ, τ, ws, rh, rs, g⟩ => ?_
  have g' : Got B (RVr B) Wx μ H (bMin2 ws τ) Q := g
  cases rs with
  | nil => exact g'.elim
  | cons a r =>
    cases r with
    | nil => cases a <;> exact g'.elim
    | cons b r =>
      cases r with
      | cons _ _ => cases a <;> cases b <;> exact g'.elim
      | nil =>
        cases a with
        | int i =>
          cases b with
          | int j => exact ⟨_, call_min2 hc, i, j, rfl, got_val g' rh (.int _)⟩
          | _ => exact g'.elim
        | _ => cases b <;> exact g'.elim
theorem bi_list (hK : X.K = B.K) : CallR X (.type "list") (rBi B Wx .list) := by
  refine CallR.dyn fun vs H Q ⟨μ, τ, ws, rh, rs, g⟩ => ?_
  have g' : Got B (RVr B) Wx μ H (bList ws τ) Q := g
  cases rs with
  | nil => exact g'.elim
  | cons a r =>
    cases r with
    | cons _ _ => cases a <;> exact g'.elim
    | nil =>
      cases a with
      | @tup a vs ws s r => exact ⟨_, call_list_of, a, vs, rfl, .inr (by rw [hK]; exact s), got_new g' rh r⟩
      | @ref n a ha =>
        have g2 : Got B (RVr B) Wx μ H (match seqOf τ n with
          | some xs => newL τ xs
          | none => .no) Q := g'
        cases e : seqOf τ n with
        | none => rw [e] at g2; exact g2.elim
        | some xs =>
          rw [e] at g2
          obtain ⟨a', vs, ha', s, r⟩ := rh.seq e
          obtain rfl := Option.some.inj (ha'.symm.trans ha)
          exact ⟨_, call_list_of, a', vs, rfl, .inl (by rw [hK]; exact s), got_new g2 rh r⟩
      | _ => exact g'.elim
theorem bi_tuple (hK : X.K = B.K) : CallR X (.type "tuple") (rBi B Wx .tuple) := by
  refine CallR.dyn fun vs H Q ⟨μ, τ, ws, rh, rs, g⟩ => ?_
  have g' : Got B (RVr B) Wx μ H (bTuple ws τ) Q := g
  cases rs with
  | nil => exact g'.elim
  | cons a r =>
    cases r with
    | cons _ _ => cases a <;> exact g'.elim
    | nil =>
      cases a with
      | @tup a vs ws s r => exact ⟨_, call_tuple_of, a, vs, rfl, .inr ⟨by rw [hK]; exact s, got_val g' rh (.tup s r)⟩⟩
      | @ref n a ha =>
        have g2 : Got B (RVr B) Wx μ H (match seqOf τ n with
          | some xs => .ok (.tup xs) τ
          | none => .no) Q := g'
        cases e : seqOf τ n with
        | none => rw [e] at g2; exact g2.elim
        | some xs =>
          rw [e] at g2
          obtain ⟨a', vs, ha', s, r⟩ := rh.seq e
          obtain rfl := Option.some.inj (ha'.symm.trans ha)
          refine ⟨_, call_tuple_of, a', vs, rfl, .inl ⟨by rw [hK]; exact s, fun p hp => ?_⟩⟩
          obtain ⟨rh', l⟩ := rh.more (ho := .tup vs) hp
          exact g2 μ _ _ l rh' (.tup (.inl (.inl upd_same)) (r.le l))
      | _ => exact g'.elim

/-- the name of a built-in, what it stands for -/
def biName : BI → Str
  | .len => "len" | .int => "int" | .str => "str" | .abs => "abs" | .max2 => "max" | .min2 => "min" | .list => "list" | .tuple => "tuple"
def biVal : BI → Value
  | .len => .builtin "len" | .int => .type "int" | .str => .type "str" | .abs => .builtin "abs" | .max2 => .builtin "max" | .min2 => .builtin "min" | .list => .type "list" | .tuple => .type "tuple"
theorem bi_any (hK : X.K = B.K) (hc : X.calm = true) : ∀ b : BI, CallR X (biVal b) (rBi B Wx b)
  | .len => bi_len hK
  | .int => bi_int
  | .str => bi_str
  | .abs => bi_abs
  | .max2 => bi_max2 hc
  | .min2 => bi_min2 hc
  | .list => bi_list hK
  | .tuple => bi_tuple hK
theorem bi_boot : ∀ b : BI, bootBuiltins (biName b) = some (biVal b) := by
  intro b
  cases b <;> decide +kernel
theorem bi_name : ∀ b : BI, biName b ≠ "__name__" ∧ (biName b == ("__debug__" : Str)) = false := by
  intro b
  cases b <;> decide +kernel

/-! ### methods of built-in types -/
def rBm (B : Bs) (Wx : WX) (m : BM) : V → List V → Hp → VK → Prop := fun x vs H Q => ∃ μ τ w ws, RH B.K B.Cl μ τ H ∧ RV B.K μ H w x ∧ RVs B.K μ H ws vs ∧ Got B (RVr B) Wx μ H (bmeth m w ws τ) Q
theorem MtR.dyn {id : String} {r' : V → List V → Hp → VK → Prop} (k : ∀ x xs H Q, r' x xs H Q → ∃ r, MtR X id r ∧ r x xs H Q) : MtR X id r' := fun pins s σ H x xs v us Q I r1 r2 q => by
  obtain ⟨r, h, q'⟩ := k x xs H Q q
  exact h pins s σ H x xs v us Q I r1 r2 q'
theorem bm_append : MtR X "list.append" (rBm B Wx .append) := by
  refine MtR.dyn fun x vs H Q ⟨μ, τ, w, ws, rh, rx, rs, g⟩ => ?_
  have g' : Got B (RVr B) Wx μ H (mAppend w ws τ) Q := g
  cases rx with
  | @ref n a ha =>
    cases rs with
    | nil => exact g'.elim
    | @cons y v _ _ b r =>
      cases r with
      | cons _ _ => exact g'.elim
      | nil =>
        have g2 : Got B (RVr B) Wx μ H (match τ[n]? with
          | some (.lst xs) => if xs.length < sizeLine then .ok .non (τ.set n (.lst (xs ++ [y]))) else .no
          | _ => .no) Q := g'
        cases e : τ[n]? with
        | none => rw [e] at g2; exact g2.elim
        | some o =>
          rw [e] at g2
          obtain ⟨a', ha', ho⟩ := rh.at_ e
          obtain rfl := Option.some.inj (ha'.symm.trans ha)
          cases o with
          | lst ys =>
            dsimp only at g2
            split at g2
            · rename_i hc
              obtain ⟨vs, h0, r⟩ := ho
              refine ⟨_, mt_append, a', vs, v, rfl, rfl, h0, by rw [← r.length]; exact hc, ?_⟩
              have l : Le B.K μ H μ (upd H a' (.lst (vs ++ [v]))) := ⟨⟨[], by simp⟩, tup_upd (noTup_lst h0)⟩
              obtain ⟨rh', l'⟩ := rh.put (o := .lst (ys ++ [y])) (ho := .lst (vs ++ [v])) ha e (fun xs z => by cases z) (noTup_lst h0) ⟨_, upd_same, (r.append (.cons b .nil)).le l⟩
              exact g2 _ _ _ l' rh' .non
            · exact g2.elim
          | _ => exact g2.elim
  | _ => exact g'.elim
theorem bm_pop : MtR X "list.pop" (rBm B Wx .pop) := by
  refine MtR.dyn fun x vs H Q ⟨μ, τ, w, ws, rh, rx, rs, g⟩ => ?_
  have g' : Got B (RVr B) Wx μ H (mPop w ws τ) Q := g
  cases rx with
  | @ref n a ha =>
    cases rs with
    | cons _ _ => exact g'.elim
    | nil =>
      have g2 : Got B (RVr B) Wx μ H (match τ[n]? with
        | some (.lst xs) => match xs[xs.length - 1]? with
          | some y => .ok y (τ.set n (.lst xs.dropLast))
          | none => .no
        | _ => .no) Q := g'
      cases e : τ[n]? with
      | none => rw [e] at g2; exact g2.elim
      | some o =>
        rw [e] at g2
        obtain ⟨a', ha', ho⟩ := rh.at_ e
        obtain rfl := Option.some.inj (ha'.symm.trans ha)
        cases o with
        | lst ys =>
          dsimp only at g2
          cases e2 : ys[ys.length - 1]? with
          | none => rw [e2] at g2; exact g2.elim
          | some y =>
            rw [e2] at g2
            obtain ⟨vs, h0, r⟩ := ho
            obtain ⟨v, hv, rv⟩ := r.get e2
            refine ⟨_, mt_pop, a', vs, v, rfl, rfl, h0, by rw [← r.length]; exact hv, ?_⟩
            have l : Le B.K μ H μ (upd H a' (.lst vs.dropLast)) := ⟨⟨[], by simp⟩, tup_upd (noTup_lst h0)⟩
            obtain ⟨rh', l'⟩ := rh.put (o := .lst ys.dropLast) (ho := .lst vs.dropLast) ha e (fun xs z => by cases z) (noTup_lst h0) ⟨_, upd_same, r.dropLast.le l⟩
            exact g2 _ _ _ l' rh' (rv.le l)
        | _ => exact g2.elim
  | _ => exact g'.elim
theorem bm_starts : MtR X "str.startswith" (rBm B Wx .startswith) := by
  refine MtR.dyn fun x vs H Q ⟨μ, τ, w, ws, rh, rx, rs, g⟩ => ?_
  have g' : Got B (RVr B) Wx μ H (mStarts w ws τ) Q := g
  cases rx with
  | str a =>
    cases rs with
    | nil => exact g'.elim
    | cons b r =>
      cases r with
      | cons _ _ => cases b <;> exact g'.elim
      | nil =>
        cases b with
        | str b => exact ⟨_, mt_startswith, a, b, rfl, rfl, got_val g' rh (.bl _)⟩
        | _ => exact g'.elim
  | _ => exact g'.elim
theorem bm_split : MtR X "str.split" (rBm B Wx .split) := by
  refine MtR.dyn fun x vs H Q ⟨μ, τ, w, ws, rh, rx, rs, g⟩ => ?_
  have g' : Got B (RVr B) Wx μ H (mSplit w ws τ) Q := g
  cases rx with
  | str a =>
    cases rs with
    | nil => exact g'.elim
    | cons b r =>
      cases r with
      | cons _ _ => cases b <;> exact g'.elim
      | nil =>
        cases b with
        | str b =>
          have g2 : Got B (RVr B) Wx μ H (if (b.length == 0) = false ∧ a.length + 2 ≤ sizeLine then newL τ ((Txt.split a b).map .str) else .no) Q := g'
          split at g2
          · rename_i hc
            exact ⟨_, mt_split, a, b, rfl, rfl, hc.1, hc.2, got_new g2 rh (RVs.strs _)⟩
          · exact g2.elim
        | _ => exact g'.elim
  | _ => exact g'.elim
theorem strsOf_rv {μ : List Addr} {H : Hp} : ∀ {xs : List W} {vs : List V} {ys : List Str}, RVs B.K μ H xs vs → strsOf xs = some ys → vs = ys.map V.str
  | _, _, _, .nil, h => by cases h; rfl
  | x :: r, _, ys, .cons a b, h => by
    unfold strsOf mapO at h
    cases a with
    | str z =>
      cases q2 : mapO strOf r with
      | none => simp [strOf, q2] at h
      | some e2 =>
        simp [strOf, q2] at h
        subst h
        rw [strsOf_rv b (ys := e2) q2] <;> rfl
    | _ => simp [strOf] at h
theorem bm_join (hK : X.K = B.K) : MtR X "str.join" (rBm B Wx .join) := by
  refine MtR.dyn fun x vs H Q ⟨μ, τ, w, ws, rh, rx, rs, g⟩ => ?_
  have g' : Got B (RVr B) Wx μ H (mJoin w ws τ) Q := g
  cases rx with
  | str a =>
    cases rs with
    | nil => exact g'.elim
    | cons b r =>
      cases r with
      | cons _ _ => cases b <;> exact g'.elim
      | nil =>
        cases b with
        | @ref n p hp =>
          have g2 : Got B (RVr B) Wx μ H (match (seqOf τ n).bind strsOf with
            | some ys => if (ys.map (·.length)).sum + ys.length * a.length ≤ 16777216 then .ok (.str (Txt.join a ys)) τ else .no
            | none => .no) Q := g'
          cases e : seqOf τ n with
          | none => rw [e] at g2; exact g2.elim
          | some xs =>
            rw [e] at g2
            dsimp only [Option.bind_some] at g2
            cases e2 : strsOf xs with
            | none => rw [e2] at g2; exact g2.elim
            | some ys =>
              rw [e2] at g2
              dsimp only at g2
              split at g2
              · rename_i hc
                obtain ⟨a', vs, ha', s, r⟩ := rh.seq e
                obtain rfl := Option.some.inj (ha'.symm.trans hp)
                have ev := strsOf_rv r e2
                subst ev
                exact ⟨_, mt_join, a, a', ys, rfl, rfl, .inl (by rw [hK]; exact s), hc, got_val g2 rh (.str _)⟩
              · exact g2.elim
        | _ => exact g'.elim
  | _ => exact g'.elim
end
end Mi
/-! Mi5: the look at expressions; an expression that passes it runs as the small language says. -/
namespace Mi
open PySem PySem.Spec PyProof.Rows L2

theorem ff {P : Prop} (h : false = true) : P := Bool.noConfusion h
/-- where a text stands: the names by slots, the scope, the names that may be stored -/
structure Sx where
  N : List Str
  sc : Scope
  own : List (Str × NameKind)
/-- what the module's names mean -/
structure Gt where
  fn : Str → Option Nat
  cl : Str → Option Nat
  con : Str → Option W
  bi : Str → Bool
  xc : Str → Option Nat

def visB (sc : Scope) (x : Str) : Bool := match sc.names.lookup x with
  | some .local => true | some .cell => true | some .free => true | _ => false
def glB (sc : Scope) (x : Str) : Bool := match sc.names.lookup x with
  | some .globalImplicit => true | _ => false
def ownB (Z : Sx) (x : Str) : Bool := match Z.own.lookup x with
  | some .local => true | some .cell => true | _ => false
def plainName (x : Str) : Bool := !(x == ("__debug__" : Str)) && !(x == ("__classdict__" : Str))
def noStar : Expr → Bool
  | .Starred _ _ => false | _ => true
def notSet : Expr → Bool
  | .Set _ _ _ => false | _ => true
def plainBase : Expr → Bool
  | .Call (.Name _ _) [] [] _ => false | _ => true
def plainT : Expr → Bool
  | .UnaryOp .Not _ _ => false | .BoolOp _ _ _ => false | .IfExp _ _ _ _ => false | .Compare _ _ _ _ => false | _ => true
def notSlice : Expr → Bool
  | .Slice _ _ _ _ => false | _ => true
def conB : Const → W → Bool
  | .none, .non => true
  | .bool b, .bl c => b == c
  | .int i, .int j => i == j
  | .str x, .str y => x == y
  | _, _ => false
mutual
def eqbW : W → W → Bool
  | .non, .non => true
  | .bl a, .bl b => a == b
  | .int a, .int b => a == b
  | .str a, .str b => a == b
  | .tup xs, .tup ys => eqbWs xs ys
  | .ref n, .ref m => n == m
  | _, _ => false
def eqbWs : List W → List W → Bool
  | [], [] => true
  | x :: r, y :: s => eqbW x y && eqbWs r s
  | _, _ => false
end
mutual
theorem eqbW_eq : ∀ {a b : W}, eqbW a b = true → a = b
  | .non, b, h => by cases b <;> simp [eqbW] at h; rfl
  | .bl x, b, h => by cases b <;> simp [eqbW] at h; rw [h]
  | .int x, b, h => by cases b <;> simp [eqbW] at h; rw [h]
  | .str x, b, h => by cases b <;> simp [eqbW] at h; rw [h]
  | .ref x, b, h => by cases b <;> simp [eqbW] at h; rw [h]
  | .tup xs, b, h => by
    cases b with
    | tup ys =>
      have h' : eqbWs xs ys = true := by simpa [eqbW] using h
      rw [eqbWs_eq h']
    | _ => simp [eqbW] at h
theorem eqbWs_eq : ∀ {a b : List W}, eqbWs a b = true → a = b
  | [], b, h => by cases b <;> simp [eqbWs] at h; rfl
  | x :: r, b, h => by
    cases b with
    | nil => simp [eqbWs] at h
    | cons y s =>
      have h' : eqbW x y = true ∧ eqbWs r s = true := by simpa [eqbWs] using h
      rw [eqbW_eq h'.1, eqbWs_eq h'.2]
end
def isRef : W → Bool
  | .ref _ => true | _ => false

def chkG (Z : Sx) : G → Expr → Bool
  | .name i, .Name x _ => decide (Z.N[i]? = some x) && ownB Z x
  | .tup is, .Tuple es _ _ => decide (es.length = is.length) && (is.zip es).all fun p => match p.2 with
    | .Name x _ => decide (Z.N[p.1]? = some x) && ownB Z x
    | _ => false
  | _, _ => false
def ownOf (N : List Str) (vs : List Nat) : List (Str × Nat) := vs.filterMap fun i => (N[i]?).map fun x => (x, i)
def gIn (g : G) (vs : List Nat) : Bool := match g with
  | .name i => decide (i ∈ vs)
  | .tup is => is.all fun i => decide (i ∈ vs)
def isTupT : Expr → Bool
  | .Tuple _ _ _ => true | _ => false

structure Ck where
  e : Expr → Bool
  t : Expr → Bool := fun x => plainT x && e x
  a : List Expr → Bool := fun _ => false
  p : Option Expr → Bool := fun o => match o with
    | some x => e x
    | none => false
  i : Expr → Expr → Bool := fun _ _ => false
  ts : List Expr → Bool := fun l => match l with
    | [x] => t x
    | _ => false
  bs : List Expr → Bool := fun _ => false

def bmName : BM → Str
  | .append => "append" | .pop => "pop" | .popAt => "pop" | .startswith => "startswith" | .split => "split" | .join => "join"
def bmMany : BM → Nat
  | .append => 1 | .pop => 0 | .popAt => 1 | .startswith => 1 | .split => 1 | .join => 1
def tyName : Ty → String
  | .none => "NoneType" | .bool => "bool" | .int => "int" | .str => "str" | .tuple => "tuple" | .list => "list" | .dict => "dict"

def isiArgs : Expr → Option (Str × Expr × Str)
  | .Call (.Name n _) [u, .Name ty _] [] _ => some (n, u, ty)
  | _ => none
theorem isiArgs_of {x u : Expr} {n ty : Str} (h : isiArgs x = some (n, u, ty)) : ∃ p p2 pos, x = .Call (.Name n p) [u, .Name ty p2] [] pos := by
  unfold isiArgs at h
  split at h
  · cases h; exact ⟨_, _, _, rfl⟩
  · cases h

def lcArgs : Expr → Option (Expr × Expr × Expr × List Expr × Scope)
  | .ListComp el [⟨tg, iter, ifs, 0⟩] scope _ => some (el, tg, iter, ifs, scope)
  | _ => none
theorem lcArgs_of {x el tg iter : Expr} {ifs : List Expr} {scope : Scope} (h : lcArgs x = some (el, tg, iter, ifs, scope)) : ∃ pos, x = .ListComp el [⟨tg, iter, ifs, 0⟩] scope pos := by
  unfold lcArgs at h
  split at h
  · cases h; exact ⟨_, rfl⟩
  · cases h
def callArgs : Expr → Option (Str × List Expr)
  | .Call (.Name n _) es [] _ => some (n, es)
  | _ => none
theorem callArgs_of {x : Expr} {n : Str} {es : List Expr} (h : callArgs x = some (n, es)) : ∃ p pos, x = .Call (.Name n p) es [] pos := by
  unfold callArgs at h
  split at h
  · cases h; exact ⟨_, _, rfl⟩
  · cases h
def mArgs : Expr → Option (Expr × Str × Pos × List Expr × Pos)
  | .Call (.Attribute u n ap) es [] cp => some (u, n, ap, es, cp)
  | _ => none
theorem mArgs_of {x u : Expr} {n : Str} {ap cp : Pos} {es : List Expr} (h : mArgs x = some (u, n, ap, es, cp)) : x = .Call (.Attribute u n ap) es [] cp := by
  unfold mArgs at h
  split at h
  · cases h; rfl
  · cases h

/-- a display's keys in the text -/
def keysB : E → List (Option Expr) → Bool
  | .nil, [] => true
  | .cons (.con w) r, some (.Constant c _ _) :: l => conB c w && keysB r l
  | _, _ => false

def chk (G : Gt) : E → Sx → Ck
  | .var i, Z => { e := fun x => match x with
      | .Name n _ => decide (Z.N[i]? = some n) && visB Z.sc n && plainName n
      | _ => false }
  | .con w, Z => { e := fun x => match x with
      | .Constant c _ _ => conB c w
      | .Name n _ => glB Z.sc n && plainName n && !(isRef w) && (match G.con n with
        | some u => eqbW u w
        | none => false)
      | _ => false }
  | .nil, _ => { e := fun _ => false, a := fun l => l.isEmpty, p := fun o => o.isNone, ts := fun l => l.isEmpty, bs := fun l => l.isEmpty }
  | .cons a r, Z => { e := fun _ => false, a := fun l => match l with
      | x :: y => noStar x && (chk G a Z).e x && (chk G r Z).a y
      | [] => false,
                      p := fun _ => false, ts := fun _ => false, bs := fun l => match l with
      | x :: y => (chk G a Z).t x && (chk G r Z).bs y
      | [] => false }
  | .op o a b, Z => { e := fun x => match x with
      | .BinOp l o' r _ => decide (o' = o) && (chk G a Z).e l && (chk G b Z).e r
      | _ => false }
  | .neg a, Z => { e := fun x => match x with
      | .UnaryOp .USub y _ => (chk G a Z).e y
      | _ => false }
  | .cmp o a b, Z => { e := fun x => match x with
      | .Compare l [o'] [r] _ => decide (o' = o) && notSet r && (chk G a Z).e l && (chk G b Z).e r
      | _ => false,
                       t := fun x => match x with
      | .Compare l [o'] [r] _ => decide (o' = o) && notSet r && (chk G a Z).e l && (chk G b Z).e r
      | _ => false }
  | .chain o o2 a b c, Z => {
                       e := fun x => match x with
      | .Compare l [o', o2'] [r, s] _ => decide (o' = o) && decide (o2' = o2) && notSet s && (chk G a Z).e l && (chk G b Z).e r && (chk G c Z).e s
      | _ => false,
                       t := fun x => match x with
      | .Compare l [o', o2'] [r, s] _ => decide (o' = o) && decide (o2' = o2) && notSet s && (chk G a Z).e l && (chk G b Z).e r && (chk G c Z).e s
      | _ => false }
  | .conj as, Z => { e := fun x => match x with
      | .BoolOp .And vs _ => (chk G as Z).a vs && !vs.isEmpty
      | _ => false,
                     t := fun x => match x with
      | .BoolOp .And vs _ => (chk G as Z).bs vs && !vs.isEmpty
      | _ => false }
  | .disj as, Z => { e := fun x => match x with
      | .BoolOp .Or vs _ => (chk G as Z).a vs && !vs.isEmpty
      | _ => false,
                     t := fun x => match x with
      | .BoolOp .Or vs _ => (chk G as Z).bs vs && !vs.isEmpty
      | _ => false }
  | .not a, Z => { e := fun x => match x with
      | .UnaryOp .Not y _ => (chk G a Z).e y
      | _ => false,
                   t := fun x => match x with
      | .UnaryOp .Not y _ => (chk G a Z).t y
      | _ => false }
  | .ite t a b, Z => { e := fun x => match x with
      | .IfExp u v w _ => (chk G t Z).t u && (chk G a Z).e v && (chk G b Z).e w
      | _ => false,
                       t := fun _ => false }
  | .tup as, Z => { e := fun x => match x with
      | .Tuple es _ _ => (chk G as Z).a es
      | _ => false }
  | .lst as, Z => { e := fun x => match x with
      | .List es _ => (chk G as Z).a es
      | _ => false }
  | .dic ks vs, Z => { e := fun x => match x with
      | .Dict es fs _ => keysB ks es && decide (es.length = fs.length) && (es.isEmpty || (chk G vs Z).a fs)
      | _ => false }
  | .ix a b, Z => { e := fun x => match x with
      | .Subscript u v _ => notSlice v && (chk G a Z).e u && (chk G b Z).e v
      | _ => false }
  | .slice a lo hi, Z => { e := fun x => match x with
      | .Subscript u (.Slice l h none _) _ => (chk G a Z).e u && (chk G lo Z).p l && (chk G hi Z).p h
      | _ => false }
  | .fld a f, Z => { e := fun x => match x with
      | .Attribute u n _ => decide (n = f) && plainBase u && (chk G a Z).e u
      | _ => false }
  | .call f as, Z => { e := fun x => match x with
      | .Call (.Name n _) es [] _ => glB Z.sc n && plainName n && decide (G.fn n = some f) && (chk G as Z).a es
      | _ => false }
  | .meth m o as, Z => { e := fun x => match mArgs x with
      | some (u, n, ap, es, cp) => decide (n = m) && plainBase u && (ap.endLine == cp.line) && decide (es.length < 29) && (chk G o Z).e u && (chk G as Z).a es
      | none => false }
  | .make c as, Z => { e := fun x => match callArgs x with
      | some (n, es) => glB Z.sc n && plainName n && decide (G.cl n = some c) && (chk G as Z).a es
      | none => false }
  | .bi b as, Z => { e := fun x => match x with
      | .Call (.Name n _) es [] _ => glB Z.sc n && decide (n = biName b) && G.bi n && !es.isEmpty && (chk G as Z).a es
      | _ => false }
  | .isi a t, Z => { e := fun x => match isiArgs x with
      | some (n, u, ty) => glB Z.sc n && decide (n = "isinstance") && G.bi n && glB Z.sc ty && decide (ty = Str.ofString (tyName t)) && decide (t ≠ .none) && G.bi ty && noStar u && (chk G a Z).e u
      | none => false }
  | .bm m o as, Z => { e := fun x => match mArgs x with
      | some (u, n, ap, es, cp) => decide (n = bmName m) && plainBase u && (ap.endLine == cp.line) && decide (es.length = bmMany m) && (chk G o Z).e u && (chk G as Z).a es
      | none => false }
  | .lc g it ts elt vs, Z => { e := fun x => match lcArgs x with
      | some (el, tg, iter, ifs, scope) => notSet iter && (chk G it Z).i tg iter && blkC Z.N Z.sc scope (ownOf Z.N vs) && decide ((ownOf Z.N vs).map (·.2) = vs) && gIn g vs &&
          chkG ⟨Z.N, relS scope Z.sc, scope.names⟩ g tg && (chk G ts ⟨Z.N, relS scope Z.sc, scope.names⟩).ts ifs && (chk G elt ⟨Z.N, relS scope Z.sc, scope.names⟩).e el
      | none => false }
  | .seq a, Z => { e := fun _ => false, i := fun _ x => notSet x && (chk G a Z).e x }
  | .rng as, Z => { e := fun _ => false, i := fun _ x => match callArgs x with
      | some (n, es) => glB Z.sc n && decide (n = "range") && G.bi n && (decide (es.length = 1) || decide (es.length = 2)) && (chk G as Z).a es
      | none => false }
  | .zip as, Z => { e := fun _ => false, i := fun tg x => match callArgs x with
      | some (n, es) => isTupT tg && glB Z.sc n && decide (n = "zip") && G.bi n && decide (es.length = 2) && (chk G as Z).a es
      | none => false }
  | .enum a, Z => { e := fun _ => false, i := fun tg x => match callArgs x with
      | some (n, es) => isTupT tg && glB Z.sc n && decide (n = "enumerate") && G.bi n && (match es with
        | [u] => noStar u && (chk G a Z).e u
        | _ => false)
      | none => false }
  | .rev a, Z => { e := fun _ => false }

/-! ### lemmas of the text -/
theorem star_cons {e : Expr} {es : List Expr} {env : Env} (h : noStar e = true) : starEach (e :: es) env = (false, eval e env) :: starEach es env := by
  cases e <;> first | rfl | exact ff h
def noStars (es : List Expr) : Bool := es.all noStar
theorem star_plain {env : Env} {pos : Pos} : ∀ {es : List Expr}, noStars es = true → (backTo pos (starEach es env)).any (·.1) = false
  | [], _ => rfl
  | e :: es, h => by
    have h' : noStar e = true ∧ noStars es = true := by
      have := h
      unfold noStars at this ⊢
      rw [List.all_cons, Bool.and_eq_true] at this
      exact this
    rw [star_cons h'.1]
    show (false || (backTo pos (starEach es env)).any (·.1)) = false
    rw [Bool.false_or]
    exact star_plain h'.2
theorem star_all {env : Env} {pos : Pos} : ∀ {es : List Expr}, noStars es = true → (backTo pos (starEach es env)).all (fun x => !x.1) = true
  | [], _ => rfl
  | e :: es, h => by
    have h' : noStar e = true ∧ noStars es = true := by
      have := h
      unfold noStars at this ⊢
      rw [List.all_cons, Bool.and_eq_true] at this
      exact this
    rw [star_cons h'.1]
    show (true && (backTo pos (starEach es env)).all (fun x => !x.1)) = true
    rw [Bool.true_and]
    exact star_all h'.2
theorem fold_set {e : Expr} {env : Env} (h : notSet e = true) : ∀ x, foldedSetIterable e env x = pure x := by
  intro x
  cases e <;> first | rfl | exact ff h
theorem behind_set {e : Expr} {op : CmpOp} (h : notSet e = true) : behindInMarks op e = false := by
  cases e <;> first | rfl | exact ff h
theorem base_plain {o : Expr} {m : Str} {env : Env} (h : plainBase o = true) : attributeBase o m env (eval o env) = eval o env := by
  cases o with
  | Call f as kws pos =>
    cases f with
    | Name n p =>
      cases as with
      | nil =>
        cases kws with
        | nil => exact ff h
        | cons _ _ => rfl
      | cons _ _ => rfl
    | _ => rfl
  | _ => rfl
theorem test_plain {e : Expr} {env : Env} (h : plainT e = true) : ∀ whole, isTrue e env whole = (do let v ← whole; standAt e.pos; holding [v] (truthy v)) := by
  intro whole
  cases e with
  | UnaryOp op x p => cases op <;> first | rfl | exact ff h
  | BoolOp _ _ _ => exact ff h
  | IfExp _ _ _ _ => exact ff h
  | Compare _ _ _ _ => exact ff h
  | _ => rfl
theorem sl_plain {e : Expr} (h : notSlice e = true) : ∀ o i, subscripted e false o i = operate [o, i] (getItem o i) := by
  intro o i
  cases e <;> first | rfl | exact ff h
theorem chk_stars (G : Gt) (Z : Sx) : ∀ (ir : E) {es : List Expr}, (chk G ir Z).a es = true → noStars es = true := by
  intro ir
  induction ir with
  | nil =>
    intro es h
    cases es with
    | nil => rfl
    | cons _ _ => exact ff h
  | cons a r iha ihr =>
    intro es h
    cases es with
    | nil => rfl
    | cons e es =>
      have h' : (noStar e && (chk G a Z).e e && (chk G r Z).a es) = true := h
      rw [Bool.and_eq_true, Bool.and_eq_true] at h'
      unfold noStars
      rw [List.all_cons, h'.1.1, Bool.true_and]
      exact ihr h'.2
  | _ => intro es h; exact ff h

theorem meth_form {o : Expr} {m : Str} {es : List Expr} {ap cp : Pos} {env : Env} (hb : plainBase o = true) (hl : (ap.endLine == cp.line) = true) (hn : noStars es = true) (hm : es.length < 29) :
    eval (.Call (.Attribute o m ap) es [] cp) env = (do
      let ov ← eval o env
      standAt ap.atName
      let (f, first) ← holding [ov] (getMethod ov m (do return (← importBound o env).getD true))
      callWith cp f first (backTo cp (starEach es env)) (backToKw cp (keywordEach [] env))) := by
  have e1 : methodCallForm (es.length + 0) (backTo cp (starEach es env)) (backToKw cp (keywordEach [] env)) = true := by
    unfold methodCallForm
    rw [star_all hn]
    show (true && true && decide (es.length + 0 + 0 < 30)) = true
    rw [decide_eq_true (by omega)] <;> rfl
  show (do
    let ov ← attributeBase o m env (eval o env)
    standAt ap.atName
    methodCall o m ap cp env ov (es.length + ([] : List Keyword).length) (backTo cp (starEach es env)) (backToKw cp (keywordEach [] env))) = _
  rw [base_plain hb]
  have e2 : ∀ ov, methodCall o m ap cp env ov (es.length + ([] : List Keyword).length) (backTo cp (starEach es env)) (backToKw cp (keywordEach [] env)) = (do
      let (f, first) ← holding [ov] (getMethod ov m (do return (← importBound o env).getD true))
      callWith cp f first (backTo cp (starEach es env)) (backToKw cp (keywordEach [] env))) := by
    intro ov
    unfold methodCall
    have e1' : methodCallForm (es.length + ([] : List Keyword).length) (backTo cp (starEach es env)) (backToKw cp (keywordEach [] env)) = true := e1
    rw [e1']
    unfold calleeOf methodCallPos
    rw [if_pos rfl, if_pos (show (!true || ap.endLine == cp.line) = true by rw [hl] <;> rfl)]
    rfl
  simp only [e2]
end Mi
/-! Mi6: an expression that passes the look runs as the small language says. -/
namespace Mi
open PySem PySem.Spec PyProof.Rows L2

section
variable (T : Tb) (C : Calls) (B : Bs) (Wx : WX)
def tE (ir : E) : TE := fun σ H Q => ∃ μ ρ τ, RH B.K B.Cl μ τ H ∧ RS B.K μ H ρ σ ∧ Got B (RVr B) Wx μ H ((ev T C ir).e ρ τ) Q
def tT (ir : E) : TT := fun σ H Q => ∃ μ ρ τ, RH B.K B.Cl μ τ H ∧ RS B.K μ H ρ σ ∧ Got B REq Wx μ H ((ev T C ir).t ρ τ) Q
def tA (ir : E) : TA := fun σ H Q => ∃ μ ρ τ, RH B.K B.Cl μ τ H ∧ RS B.K μ H ρ σ ∧ Got B (RVsr B) Wx μ H ((ev T C ir).a ρ τ) Q
def tP (ir : E) : TO := fun σ H Q => ∃ μ ρ τ, RH B.K B.Cl μ τ H ∧ RS B.K μ H ρ σ ∧ Got B REq Wx μ H ((ev T C ir).p ρ τ) Q
def tV (u : Bool) (ir : E) : TE := fun σ H Q => ∃ μ ρ τ, RH B.K B.Cl μ τ H ∧ RS B.K μ H ρ σ ∧ Got B (RVr B) Wx μ H ((ev T C ir).v u ρ τ) Q
def tBo (u : Bool) (ir : E) : TT := fun σ H Q => ∃ μ ρ τ, RH B.K B.Cl μ τ H ∧ RS B.K μ H ρ σ ∧ Got B REq Wx μ H ((ev T C ir).b u ρ τ) Q
end
/-- what is walked, as the layer's iterator does it -/
def RJ (B : Bs) : Rel Mi.It L2.It := fun μ1 H1 J J' => ∀ (i : Nat) (μ : List Addr) (τ : Sto) (H : Hp), Le B.K μ1 H1 μ H → RH B.K B.Cl μ τ H → It.ok J.gs τ →
  (∀ w, J.xs[i]? = some w → J'.go i H ∧ ∀ v H', J'.yld i H v H' → Le B.K μ H μ H' ∧ RH B.K B.Cl μ τ H' ∧ RV B.K μ H' w v) ∧ (J.xs.length ≤ i → J'.stop i H)
def tI (T : Tb) (C : Calls) (B : Bs) (Wx : WX) (ir : E) : TI := fun σ H R => ∃ μ ρ τ, RH B.K B.Cl μ τ H ∧ RS B.K μ H ρ σ ∧ Got B (RJ B) Wx μ H ((ev T C ir).i ρ τ) R

/-- the promise of the def with the number f -/
def spF (C : Calls) (B : Bs) (f n : Nat) : Sp := fun vs H Q E => vs.length = n ∧ ∃ μ τ ws, RH B.K B.Cl μ τ H ∧ RVs B.K μ H ws vs ∧ Got B (RVr B) (fun cls d _ H => E cls d H) μ H (C f ws τ) Q
structure Cal (P : Program) (w : World) (K : PySem.W.Frag) (mg : Str → Option Value) (base : Heap) (C : Calls) (B : Bs) (k f : Nat) (a : Addr) : Prop where
  ex : ∃ (fd : FuncData) (ps : List Str), Binds K fd ps [] ∧ FnOk P w K mg base (L2.CX P w) k a fd ps (spF C B f ps.length) ∧ ∀ ws τ, C f ws τ = .no ∨ ws.length = ps.length
  kp : PySem.W.keepIn K (.ref a) = true
structure Fit (G : Gt) (T : Tb) (C : Calls) (B : Bs) (k : Nat) (X : L2.Cx) (Z : Sx) (Wx : WX) : Prop where
  N : X.N = Z.N
  nd : X.N.Nodup
  sc : X.env.scope = Z.sc
  own : ∀ x, ownB Z x = true → Loc X.env.scope x ∧ (X.fn x = true ∨ X.env.scope.names.lookup x = some .local)
  calm : X.calm = true
  K : X.K = B.K
  room : Room (k + 1) X.A
  con : ∀ x w, G.con x = some w → isRef w = false → ∃ v u, X.mg x = some u ∧ RelV v u ∧ ∀ μ H, RV B.K μ H w v
  bi : ∀ x, G.bi x = true → X.mg x = none
  fn : ∀ x f, G.fn x = some f → ∃ a, X.mg x = some (.ref a) ∧ Cal X.prog X.w X.K X.mg X.base C B k f a
  cl : ∀ x c, G.cl x = some c → X.mg x = some (.ref (B.Cl c)) ∧ PySem.W.keepIn X.K (.ref (B.Cl c)) = true
  meth : ∀ c m f, T.meth c m = some f → ∃ a, Cls X.K (B.Cl c) ∧ Meth X.K (B.Cl c) m a ∧ PySem.W.makesIn X.K (B.Cl c) = true ∧ PySem.W.keepIn X.K (.ref (B.Cl c)) = true ∧ Cal X.prog X.w X.K X.mg X.base C B k f a
  attr : ∀ c f, T.attr c f = true → Cls X.K (B.Cl c) ∧ NoAttr X.K (B.Cl c) f
  tk : Takes X Wx

section
variable {G : Gt} {T : Tb} {C : Calls} {B : Bs} {k : Nat} {X : L2.Cx} {Z : Sx} {Wx : WX}
theorem glB_gl (F : Fit G T C B k X Z Wx) {x : Str} (h : glB Z.sc x = true) : Gl X x := by
  show X.env.scope.names.lookup x = some .globalImplicit
  rw [F.sc]
  unfold glB at h
  split at h
  · assumption
  · exact ff h
theorem visB_vis (F : Fit G T C B k X Z Wx) {x : Str} (h : visB Z.sc x = true) : Vis X.env.scope x := by
  show X.env.scope.names.lookup x = some .local ∨ X.env.scope.names.lookup x = some .cell ∨ X.env.scope.names.lookup x = some .free
  rw [F.sc]
  unfold visB at h
  split at h
  · exact .inl (by assumption)
  · exact .inr (.inl (by assumption))
  · exact .inr (.inr (by assumption))
  · exact ff h
theorem plainName_of {x : Str} (h : plainName x = true) : (x == ("__debug__" : Str)) = false ∧ (x == ("__classdict__" : Str)) = false := by
  unfold plainName at h
  rw [Bool.and_eq_true, Bool.not_eq_true', Bool.not_eq_true'] at h
  exact h
theorem PE.dyn {e : Expr} {t' : TE} (h : ∀ σ H Q, t' σ H Q → ∃ t, PE X e t ∧ t σ H Q) : PE X e t' := ⟨fun pins s σ H Q I q => by
  obtain ⟨t, ht, q'⟩ := h σ H Q q
  exact ht.run pins s σ H Q I q'⟩
theorem PI.dyn {tg e : Expr} {t' : TI} (h : ∀ σ H Q, t' σ H Q → ∃ t, PI X tg e t ∧ t σ H Q) : PI X tg e t' := ⟨fun pins s σ H Q I q => by
  obtain ⟨t, ht, q'⟩ := h σ H Q q
  exact ht.run pins s σ H Q I q'⟩

/-- what is shown of an expression -/
structure Snd (G : Gt) (T : Tb) (C : Calls) (B : Bs) (X : L2.Cx) (Z : Sx) (Wx : WX) (ir : E) : Prop where
  e : ∀ x, (chk G ir Z).e x = true → PE X x (tE T C B Wx ir)
  t : ∀ x, (chk G ir Z).t x = true → PT X x (tT T C B Wx ir)
  a : ∀ es, (chk G ir Z).a es = true → PA X es (tA T C B Wx ir)
  v : ∀ es pos, (chk G ir Z).a es = true → es ≠ [] → PE X (.BoolOp .And es pos) (tV T C B Wx true ir) ∧ PE X (.BoolOp .Or es pos) (tV T C B Wx false ir)
  b : ∀ es pos, (chk G ir Z).bs es = true → es ≠ [] → PW X (.BoolOp .And es pos) (tBo T C B Wx true ir) ∧ PW X (.BoolOp .Or es pos) (tBo T C B Wx false ir)
  p : ∀ o, (chk G ir Z).p o = true → PO X o (tP T C B Wx ir)
  i : ∀ tg x, (chk G ir Z).i tg x = true → PI X tg x (tI T C B Wx ir)
  ts : ∀ l, (chk G ir Z).ts l = true → PTs X l (tT T C B Wx ir)

theorem truth_imp {ir : E} (ht : ∀ ρ τ, (ev T C ir).t ρ τ = ((ev T C ir).e ρ τ).bind fun x τ1 => lift τ1 (truth τ1 x)) (hK : X.K = B.K) {σ : L2.St} {H : Hp} {Q : Bool → Hp → Prop} (h : tT T C B Wx ir σ H Q) :
    tE T C B Wx ir σ H fun x H' => ∃ k, TruV X.K x H' k ∧ Q k H' := by
  obtain ⟨μ, ρ, τ, rh, rs, g⟩ := h
  rw [ht] at g
  refine ⟨μ, ρ, τ, rh, rs, (Got.bnd (rel := RVr B) g).imp fun v H1 ⟨x, τ1, μ1, l, rh1, rv, g1⟩ => ?_⟩
  cases e : truth τ1 x with
  | none => rw [e] at g1; exact g1.elim
  | some b =>
    rw [e] at g1
    exact ⟨b, by rw [hK]; exact truth_rv rh1 rv e, g1 μ1 H1 b Le.refl rh1 rfl⟩
/-- the usual case: an expression, its test by truth -/
theorem Snd.ofE {ir : E} (hK : X.K = B.K) (he : ∀ x, (chk G ir Z).e x = true → PE X x (tE T C B Wx ir))
    (ct : (chk G ir Z).t = fun x => plainT x && (chk G ir Z).e x) (ca : (chk G ir Z).a = fun _ => false) (cp : (chk G ir Z).p = fun o => match o with
      | some x => (chk G ir Z).e x
      | none => false) (ci : (chk G ir Z).i = fun _ _ => false) (cs : (chk G ir Z).ts = fun l => match l with
      | [x] => (chk G ir Z).t x
      | _ => false)
    (ht : ∀ ρ τ, (ev T C ir).t ρ τ = ((ev T C ir).e ρ τ).bind fun x τ1 => lift τ1 (truth τ1 x))
    (hp : ∀ ρ τ, (ev T C ir).p ρ τ = ((ev T C ir).e ρ τ).bind fun x τ1 => match x with
      | .int i => .ok (some i) τ1
      | _ => .no) (hb : (chk G ir Z).bs = fun _ => false) : Snd G T C B X Z Wx ir := by
  have hT : ∀ x, (chk G ir Z).t x = true → PT X x (tT T C B Wx ir) := fun x h => by
    rw [ct] at h
    have h' : plainT x = true ∧ (chk G ir Z).e x = true := by rw [← Bool.and_eq_true]; exact h
    exact PT.imp (pt_truth (he x h'.2) (test_plain h'.1)) fun σ H Q q => truth_imp ht hK q
  refine ⟨he, hT, fun es h => ?_, fun es pos h => ?_, fun es pos h hn => ?_, fun o h => ?_, fun tg x h => ?_, fun l h => ?_⟩
  · rw [ca] at h; exact ff h
  · rw [ca] at h; exact ff h
  · rw [hb] at h; exact ff h
  · rw [cp] at h
    cases o with
    | none => exact ff h
    | some x =>
      refine PO.imp (po_some (he x h)) fun σ H Q ⟨μ, ρ, τ, rh, rs, g⟩ => ?_
      rw [hp] at g
      refine ⟨μ, ρ, τ, rh, rs, (Got.bnd (rel := RVr B) g).imp fun v H1 ⟨y, τ1, μ1, l, rh1, rv, g1⟩ => ?_⟩
      cases rv with
      | int i => exact ⟨i, rfl, g1 μ1 H1 _ Le.refl rh1 rfl⟩
      | _ => exact g1.elim
  · rw [ci] at h; exact ff h
  · rw [cs] at h
    cases l with
    | nil => exact ff h
    | cons x r =>
      cases r with
      | nil => exact pts_one (hT x h)
      | cons _ _ => exact ff h

/-- two expressions one behind the other -/
theorem two {a b : E} {f : W → W → Sto → R W} {rd : R2} {σ : L2.St} {H : Hp} {Q : VK}
    (hr : ∀ v u H Q, (∃ μ τ x y, RH B.K B.Cl μ τ H ∧ RV B.K μ H x v ∧ RV B.K μ H y u ∧ Got B (RVr B) Wx μ H (f x y τ) Q) → rd v u H Q)
    (h : ∃ μ ρ τ, RH B.K B.Cl μ τ H ∧ RS B.K μ H ρ σ ∧ Got B (RVr B) Wx μ H (((ev T C a).e ρ τ).bind fun x τ1 => ((ev T C b).e ρ τ1).bind fun y τ2 => f x y τ2) Q) :
    tOp rd (tE T C B Wx a) (tE T C B Wx b) σ H Q := by
  obtain ⟨μ, ρ, τ, rh, rs, g⟩ := h
  refine ⟨μ, ρ, τ, rh, rs, (Got.bnd (rel := RVr B) g).imp fun v H1 ⟨x, τ1, μ1, l, rh1, rv, g1⟩ => ?_⟩
  refine ⟨μ1, ρ, τ1, rh1, rs.le l, (Got.bnd (rel := RVr B) g1).imp fun u H2 ⟨y, τ2, μ2, l2, rh2, ru, g2⟩ => ?_⟩
  exact hr v u H2 Q ⟨μ2, τ2, x, y, rh2, RV.le l2 rv, ru, g2⟩

theorem snd_op {o : Operator} {a b : E} (F : Fit G T C B k X Z Wx) (iha : Snd G T C B X Z Wx a) (ihb : Snd G T C B X Z Wx b) : Snd G T C B X Z Wx (.op o a b) := by
  refine Snd.ofE F.K (fun x h => ?_) rfl rfl rfl rfl rfl (fun _ _ => rfl) (fun _ _ => rfl) rfl
  cases x with
  | BinOp l o' r pos =>
    have h' : (decide (o' = o) && (chk G a Z).e l && (chk G b Z).e r) = true := h
    rw [Bool.and_eq_true, Bool.and_eq_true, decide_eq_true_iff] at h'
    obtain ⟨⟨rfl, h1⟩, h2⟩ := h'
    exact PE.imp (pe_op (op_bin (B := B) (Wx := Wx) F.K o') (iha.e l h1) (ihb.e r h2)) fun σ H Q q => two (fun v u H Q e => e) q
  | _ => exact ff h
theorem snd_ix {a b : E} (F : Fit G T C B k X Z Wx) (iha : Snd G T C B X Z Wx a) (ihb : Snd G T C B X Z Wx b) : Snd G T C B X Z Wx (.ix a b) := by
  refine Snd.ofE F.K (fun x h => ?_) rfl rfl rfl rfl rfl (fun _ _ => rfl) (fun _ _ => rfl) rfl
  cases x with
  | Subscript l r pos =>
    have h' : (notSlice r && (chk G a Z).e l && (chk G b Z).e r) = true := h
    rw [Bool.and_eq_true, Bool.and_eq_true] at h'
    obtain ⟨⟨h0, h1⟩, h2⟩ := h'
    have hu : X.A.units + 1 < cLine := by have := F.room.units; omega
    refine PE.dyn fun σ H Q ⟨μ, ρ, τ, rh, rs, g⟩ => ?_
    have g' : Got B (RVr B) Wx μ H (((ev T C a).e ρ τ).bind fun x τ1 => ((ev T C b).e ρ τ1).bind fun y τ2 => lift τ2 (itemAt τ2 x y)) Q := g
    -- is it a dict?
    by_cases hd : ∃ n τ1 y τ2 kvs, (ev T C a).e ρ τ = .ok (.ref n) τ1 ∧ (ev T C b).e ρ τ1 = .ok y τ2 ∧ τ2[n]? = some (.dic kvs)
    · obtain ⟨n, τ1, y, τ2, kvs, e1, e2, e3⟩ := hd
      refine ⟨_, pe_dget hu (iha.e l h1) (ihb.e r h2) (sl_plain h0), ?_⟩
      refine ⟨μ, ρ, τ, rh, rs, (Got.bndE (rel := RVr B) g').imp fun v H1 ⟨x, τ1', μ1, l1, rh1, rv, g1, q1⟩ => ?_⟩
      rw [e1] at q1
      cases q1
      refine ⟨μ1, ρ, τ1, rh1, rs.le l1, (Got.bndE (rel := RVr B) g1).imp fun u H2 ⟨y', τ2', μ2, l2, rh2, ru, g2, q2⟩ => ?_⟩
      rw [e2] at q2
      cases q2
      cases RV.le l2 rv with
      | ref ha =>
        rename_i aa
        have g3 : Got B (RVr B) Wx μ2 H2 (lift τ2 ((keyOf y).bind (kvGet kvs))) Q := by
          have e : itemAt τ2 (.ref n) y = (keyOf y).bind (kvGet kvs) := by
            unfold itemAt
            simp only [e3]
          rw [← e]
          exact g2
        obtain ⟨a', ha', qs, hq, rq⟩ := rh2.at_ e3
        obtain rfl := Option.some.inj (ha'.symm.trans ha)
        cases hk : keyOf y with
        | none => rw [hk] at g3; exact g3.elim
        | some key =>
          rw [hk] at g3
          have g4 : Got B (RVr B) Wx μ2 H2 (lift τ2 (kvGet kvs key)) Q := g3
          rcases rq.get key with ⟨z1, _⟩ | ⟨w, v', z1, z2, z3⟩
          · rw [z1] at g4; exact g4.elim
          · rw [z1] at g4
            exact ⟨a', v', rfl, .inl ⟨qs, key, .inl hq, key_rv ru hk, z2.symm⟩, got_val g4 rh2 z3⟩
    · refine ⟨_, pe_ix (ix_item (B := B) (Wx := Wx) F.K) (iha.e l h1) (ihb.e r h2) (sl_plain h0), ?_⟩
      refine ⟨μ, ρ, τ, rh, rs, (Got.bndE (rel := RVr B) g').imp fun v H1 ⟨x, τ1, μ1, l1, rh1, rv, g1, q1⟩ => ?_⟩
      refine ⟨μ1, ρ, τ1, rh1, rs.le l1, (Got.bndE (rel := RVr B) g1).imp fun u H2 ⟨y, τ2, μ2, l2, rh2, ru, g2, q2⟩ => ?_⟩
      cases hw : itemAt τ2 x y with
      | none => rw [hw] at g2; exact g2.elim
      | some w =>
        rw [hw] at g2
        exact ⟨μ2, τ2, x, y, w, rh2, RV.le l2 rv, ru, hw, fun n kvs e1 e2 => hd ⟨n, τ1, y, τ2, kvs, by rw [q1, e1], q2, e2⟩, g2⟩
  | _ => exact ff h


theorem snd_var {i : Nat} (F : Fit G T C B k X Z Wx) : Snd G T C B X Z Wx (.var i) := by
  refine Snd.ofE F.K (fun x h => ?_) rfl rfl rfl rfl rfl (fun _ _ => rfl) (fun _ _ => rfl) rfl
  cases x with
  | Name n pos =>
    have h' : (decide (Z.N[i]? = some n) && visB Z.sc n && plainName n) = true := h
    rw [Bool.and_eq_true, Bool.and_eq_true, decide_eq_true_iff] at h'
    obtain ⟨⟨h1, h2⟩, h3⟩ := h'
    refine PE.imp (pe_var (i := i) (by rw [F.N]; exact h1) (visB_vis F h2) (plainName_of h3).1 (plainName_of h3).2) fun σ H Q ⟨μ, ρ, τ, rh, rs, g⟩ => ?_
    have g' : Got B (RVr B) Wx μ H (match ρ[i]? with
      | some (some w) => .ok w τ
      | _ => .no) Q := g
    cases e : ρ[i]? with
    | none => rw [e] at g'; exact g'.elim
    | some o =>
      cases o with
      | none => rw [e] at g'; exact g'.elim
      | some w =>
        rw [e] at g'
        obtain ⟨v, h4, h5⟩ := rs.at_ i w e
        exact ⟨v, h4, got_val g' rh h5⟩
  | _ => exact ff h
theorem tC_imp {w : W} {v : V} (hv : ∀ μ H, RV B.K μ H w v) {σ : L2.St} {H : Hp} {Q : VK} (h : tE T C B Wx (.con w) σ H Q) : tC v σ H Q := by
  obtain ⟨μ, ρ, τ, rh, rs, g⟩ := h
  exact got_val g rh (hv μ H)
theorem snd_con {w : W} (F : Fit G T C B k X Z Wx) : Snd G T C B X Z Wx (.con w) := by
  refine Snd.ofE F.K (fun x h => ?_) rfl rfl rfl rfl rfl (fun _ _ => rfl) (fun _ _ => rfl) rfl
  cases x with
  | Constant c j pos =>
    have h' : conB c w = true := h
    cases c with
    | none =>
      cases w with
      | non => exact PE.imp pe_non fun σ H Q q => tC_imp (fun _ _ => .non) q
      | _ => exact ff h'
    | bool b =>
      cases w with
      | bl d =>
        have e : b = d := by simpa [conB] using h'
        subst e
        exact PE.imp pe_bl fun σ H Q q => tC_imp (fun _ _ => .bl _) q
      | _ => exact ff h'
    | int b =>
      cases w with
      | int d =>
        have e : b = d := by simpa [conB] using h'
        subst e
        exact PE.imp pe_int fun σ H Q q => tC_imp (fun _ _ => .int _) q
      | _ => exact ff h'
    | str b =>
      cases w with
      | str d =>
        have e : b = d := by simpa [conB] using h'
        subst e
        exact PE.imp pe_str fun σ H Q q => tC_imp (fun _ _ => .str _) q
      | _ => exact ff h'
    | _ => cases w <;> exact ff h'
  | Name n pos =>
    have h' : (glB Z.sc n && plainName n && !(isRef w) && (match G.con n with
        | some u => eqbW u w
        | none => false)) = true := h
    rw [Bool.and_eq_true, Bool.and_eq_true, Bool.and_eq_true, Bool.not_eq_true'] at h'
    obtain ⟨⟨⟨h1, h2⟩, h3⟩, h4⟩ := h'
    cases e : G.con n with
    | none => rw [e] at h4; exact ff h4
    | some u =>
      rw [e] at h4
      have e2 : u = w := eqbW_eq h4
      subst e2
      obtain ⟨v, u', hm, r, hv⟩ := F.con n u e h3
      exact PE.imp (pe_glob (glB_gl F h1) hm r (plainName_of h2).1) fun σ H Q q => tC_imp hv q
  | _ => exact ff h
theorem snd_neg {a : E} (F : Fit G T C B k X Z Wx) (iha : Snd G T C B X Z Wx a) : Snd G T C B X Z Wx (.neg a) := by
  refine Snd.ofE F.K (fun x h => ?_) rfl rfl rfl rfl rfl (fun _ _ => rfl) (fun _ _ => rfl) rfl
  cases x with
  | UnaryOp op y pos =>
    cases op with
    | USub =>
      refine PE.imp (pe_un un_neg (iha.e y h)) fun σ H Q ⟨μ, ρ, τ, rh, rs, g⟩ => ?_
      have g' : Got B (RVr B) Wx μ H (((ev T C a).e ρ τ).bind fun x τ1 => match x with
        | .int i => .ok (.int (-i)) τ1
        | _ => .no) Q := g
      refine ⟨μ, ρ, τ, rh, rs, (Got.bnd (rel := RVr B) g').imp fun v H1 ⟨x, τ1, μ1, l1, rh1, rv, g1⟩ => ?_⟩
      cases rv with
      | int i => exact ⟨i, rfl, got_val g1 rh1 (.int _)⟩
      | _ => exact g1.elim
    | _ => exact ff h
  | _ => exact ff h
theorem cmp_two {o : CmpOp} {a b : E} {σ : L2.St} {H : Hp} {Q : VK} (h : tE T C B Wx (.cmp o a b) σ H Q) : tOp (rCmp B o) (tE T C B Wx a) (tE T C B Wx b) σ H Q := by
  refine two (f := fun x y τ2 => lift τ2 ((cmpop o x y τ2).map .bl)) (fun v u H Q ⟨μ, τ, x, y, rh, rv, ru, g⟩ => ?_) h
  cases e : cmpop o x y τ with
  | none => rw [e] at g; exact g.elim
  | some b =>
    rw [e] at g
    exact ⟨μ, τ, x, y, b, rh, rv, ru, e, got_val g rh (.bl _)⟩
/-- a test from the value of a comparison -/
theorem tst_imp {ir : E} {t : TE} (ht : ∀ ρ τ, (ev T C ir).t ρ τ = ((ev T C ir).e ρ τ).bind fun x τ1 => lift τ1 (truth τ1 x)) (hb : ∀ ρ τ w τ', (ev T C ir).e ρ τ = .ok w τ' → ∃ b, w = .bl b)
    (k : ∀ σ H Q, tE T C B Wx ir σ H Q → t σ H Q) {σ : L2.St} {H : Hp} {Q : Bool → Hp → Prop} (h : tT T C B Wx ir σ H Q) : tTest t σ H Q := by
  obtain ⟨μ, ρ, τ, rh, rs, g⟩ := h
  rw [ht] at g
  refine k σ H _ ⟨μ, ρ, τ, rh, rs, (Got.bndE (rel := RVr B) g).imp fun v H1 ⟨x, τ1, μ1, l1, rh1, rv, g1, e⟩ => ?_⟩
  obtain ⟨b, rfl⟩ := hb ρ τ x τ1 e
  cases rv
  exact ⟨b, rfl, g1 μ1 H1 b Le.refl rh1 rfl⟩
theorem lift_bl {τ : Sto} {o : Option Bool} {w : W} {τ' : Sto} (h : lift τ (o.map W.bl) = .ok w τ') : ∃ b, w = .bl b := by
  cases o with
  | none => cases h
  | some b => cases h; exact ⟨b, rfl⟩
theorem bind_ok_of {α β : Type} {A : R α} {f : α → Sto → R β} {w : β} {τ' : Sto} (h : A.bind f = .ok w τ') : ∃ a τ1, A = .ok a τ1 ∧ f a τ1 = .ok w τ' := by
  cases A with
  | ok a τ1 => exact ⟨a, τ1, rfl, h⟩
  | exn x ρ τ => cases h
  | no => cases h
theorem hu_room (F : Fit G T C B k X Z Wx) : X.A.units + 64 < cLine := F.room.units
theorem snd_cmp {o : CmpOp} {a b : E} (F : Fit G T C B k X Z Wx) (iha : Snd G T C B X Z Wx a) (ihb : Snd G T C B X Z Wx b) : Snd G T C B X Z Wx (.cmp o a b) := by
  have key : ∀ x, (chk G (.cmp o a b) Z).e x = true → PE X x (tE T C B Wx (.cmp o a b)) ∧ PT X x (tT T C B Wx (.cmp o a b)) := by
    intro x h
    cases x with
    | Compare l ops rs pos =>
      cases ops with
      | nil => exact ff h
      | cons o' ops =>
        cases ops with
        | cons _ _ => cases rs with
          | nil => exact ff h
          | cons _ rs => cases rs <;> exact ff h
        | nil =>
          cases rs with
          | nil => exact ff h
          | cons r rs =>
            cases rs with
            | cons _ _ => exact ff h
            | nil =>
              have h' : (decide (o' = o) && notSet r && (chk G a Z).e l && (chk G b Z).e r) = true := h
              rw [Bool.and_eq_true, Bool.and_eq_true, Bool.and_eq_true, decide_eq_true_iff] at h'
              obtain ⟨⟨⟨rfl, h0⟩, h1⟩, h2⟩ := h'
              refine ⟨PE.imp (pe_cmpR (op_cmp F.K (hu_room F) o') (iha.e l h1) (ihb.e r h2) (behind_set h0)) fun σ H Q q => cmp_two q,
                PT.imp (pt_cmpR (op_cmp F.K (hu_room F) o') (iha.e l h1) (ihb.e r h2) (behind_set h0)) fun σ H Q q => tst_imp (fun _ _ => rfl) (fun ρ τ w τ' e => ?_) (fun σ H Q q => cmp_two q) q⟩
              obtain ⟨x1, τ1, _, e⟩ := bind_ok_of e
              obtain ⟨x2, τ2, _, e⟩ := bind_ok_of e
              exact lift_bl e
    | _ => exact ff h
  refine ⟨fun x h => (key x h).1, fun x h => (key x h).2, fun es h => ff h, fun es pos h => ff h, fun es pos h hn => ff h, fun o' h => ?_, fun tg x h => ff h, fun l h => ?_⟩
  · cases o' with
    | none => exact ff h
    | some x =>
      refine PO.imp (po_some (key x h).1) fun σ H Q ⟨μ, ρ, τ, rh, rs, g⟩ => ?_
      refine ⟨μ, ρ, τ, rh, rs, (Got.bnd (rel := RVr B) g).imp fun v H1 ⟨y, τ1, μ1, l, rh1, rv, g1⟩ => ?_⟩
      cases rv with
      | int i => exact ⟨i, rfl, g1 μ1 H1 _ Le.refl rh1 rfl⟩
      | _ => exact g1.elim
  · cases l with
    | nil => exact ff h
    | cons x r =>
      cases r with
      | nil => exact pts_one (key x h).2
      | cons _ _ => exact ff h
theorem chain_imp {o o2 : CmpOp} {a b c : E} {σ : L2.St} {H : Hp} {Q : VK} (h : tE T C B Wx (.chain o o2 a b c) σ H Q) :
    tChain (rCmp B o) (rCmp B o2) (tE T C B Wx a) (tE T C B Wx b) (tE T C B Wx c) σ H Q := by
  obtain ⟨μ, ρ, τ, rh, rs, g⟩ := h
  have g' : Got B (RVr B) Wx μ H (((ev T C a).e ρ τ).bind fun x τ1 => ((ev T C b).e ρ τ1).bind fun y τ2 => match cmpop o x y τ2 with
      | some true => ((ev T C c).e ρ τ2).bind fun z τ3 => lift τ3 ((cmpop o2 y z τ3).map .bl)
      | some false => .ok (.bl false) τ2
      | none => .no) Q := g
  refine ⟨μ, ρ, τ, rh, rs, (Got.bnd (rel := RVr B) g').imp fun v H1 ⟨x, τ1, μ1, l1, rh1, rv, g1⟩ => ?_⟩
  refine ⟨μ1, ρ, τ1, rh1, rs.le l1, (Got.bnd (rel := RVr B) g1).imp fun u H2 ⟨y, τ2, μ2, l2, rh2, ru, g2⟩ => ?_⟩
  cases e : cmpop o x y τ2 with
  | none => rw [e] at g2; exact g2.elim
  | some d =>
    rw [e] at g2
    refine ⟨μ2, τ2, x, y, d, rh2, RV.le l2 rv, ru, e, d, rfl, ?_⟩
    cases d with
    | false => exact iteF (got_val g2 rh2 (.bl _))
    | true =>
      refine iteT ⟨μ2, ρ, τ2, rh2, (rs.le l1).le l2, (Got.bnd (rel := RVr B) g2).imp fun u2 H3 ⟨z, τ3, μ3, l3, rh3, ru3, g3⟩ => ?_⟩
      cases e3 : cmpop o2 y z τ3 with
      | none => rw [e3] at g3; exact g3.elim
      | some d =>
        rw [e3] at g3
        exact ⟨μ3, τ3, y, z, d, rh3, RV.le l3 ru, ru3, e3, got_val g3 rh3 (.bl _)⟩
theorem snd_chain {o o2 : CmpOp} {a b c : E} (F : Fit G T C B k X Z Wx) (iha : Snd G T C B X Z Wx a) (ihb : Snd G T C B X Z Wx b) (ihc : Snd G T C B X Z Wx c) : Snd G T C B X Z Wx (.chain o o2 a b c) := by
  have key : ∀ x, (chk G (.chain o o2 a b c) Z).e x = true → PE X x (tE T C B Wx (.chain o o2 a b c)) ∧ PT X x (tT T C B Wx (.chain o o2 a b c)) := by
    intro x h
    cases x with
    | Compare l ops rs pos =>
      match ops, rs, h with
      | [o', o2'], [r, s], h =>
        have h' : (decide (o' = o) && decide (o2' = o2) && notSet s && (chk G a Z).e l && (chk G b Z).e r && (chk G c Z).e s) = true := h
        rw [Bool.and_eq_true, Bool.and_eq_true, Bool.and_eq_true, Bool.and_eq_true, Bool.and_eq_true, decide_eq_true_iff, decide_eq_true_iff] at h'
        obtain ⟨⟨⟨⟨⟨rfl, rfl⟩, h0⟩, h1⟩, h2⟩, h3⟩ := h'
        have hm : lastMarks [o', o2'] [r, s] = false := behind_set h0
        refine ⟨PE.imp (pe_chain (op_cmp F.K (hu_room F) o') (op_cmp F.K (hu_room F) o2') (iha.e l h1) (ihb.e r h2) (ihc.e s h3) hm) fun σ H Q q => chain_imp q,
          PT.imp (pt_chain (op_cmp F.K (hu_room F) o') (op_cmp F.K (hu_room F) o2') (iha.e l h1) (ihb.e r h2) (ihc.e s h3) hm) fun σ H Q q => tst_imp (fun _ _ => rfl) (fun ρ τ w τ' e => ?_) (fun σ H Q q => chain_imp q) q⟩
        obtain ⟨x1, τ1, _, e⟩ := bind_ok_of e
        obtain ⟨x2, τ2, _, e⟩ := bind_ok_of e
        split at e
        · obtain ⟨x3, τ3, _, e⟩ := bind_ok_of e
          exact lift_bl e
        · cases e; exact ⟨false, rfl⟩
        · cases e
      | [], _, h => exact ff h
      | [_], [], h => exact ff h
      | [_], _ :: _, h => exact ff h
      | [_, _], [], h => exact ff h
      | _ :: _ :: _ :: _, [], h => exact ff h
      | [_, _], [_], h => exact ff h
      | _ :: _ :: _ :: _, [_], h => exact ff h
      | _ :: _ :: _ :: _, _ :: _ :: _, h => exact ff h
      | [_, _], _ :: _ :: _ :: _, h => exact ff h
    | _ => exact ff h
  refine ⟨fun x h => (key x h).1, fun x h => (key x h).2, fun es h => ff h, fun es pos h => ff h, fun es pos h hn => ff h, fun o' h => ?_, fun tg x h => ff h, fun l h => ?_⟩
  · cases o' with
    | none => exact ff h
    | some x =>
      refine PO.imp (po_some (key x h).1) fun σ H Q ⟨μ, ρ, τ, rh, rs, g⟩ => ?_
      refine ⟨μ, ρ, τ, rh, rs, (Got.bnd (rel := RVr B) g).imp fun v H1 ⟨y, τ1, μ1, l, rh1, rv, g1⟩ => ?_⟩
      cases rv with
      | int i => exact ⟨i, rfl, g1 μ1 H1 _ Le.refl rh1 rfl⟩
      | _ => exact g1.elim
  · cases l with
    | nil => exact ff h
    | cons x r =>
      cases r with
      | nil => exact pts_one (key x h).2
      | cons _ _ => exact ff h
/-- an expression with a test of its own -/
theorem Snd.ofET {ir : E} (he : ∀ x, (chk G ir Z).e x = true → PE X x (tE T C B Wx ir)) (hT : ∀ x, (chk G ir Z).t x = true → PT X x (tT T C B Wx ir))
    (ca : (chk G ir Z).a = fun _ => false) (cp : (chk G ir Z).p = fun o => match o with
      | some x => (chk G ir Z).e x
      | none => false) (ci : (chk G ir Z).i = fun _ _ => false) (cs : (chk G ir Z).ts = fun l => match l with
      | [x] => (chk G ir Z).t x
      | _ => false)
    (hp : ∀ ρ τ, (ev T C ir).p ρ τ = ((ev T C ir).e ρ τ).bind fun x τ1 => match x with
      | .int i => .ok (some i) τ1
      | _ => .no) (hb : (chk G ir Z).bs = fun _ => false) : Snd G T C B X Z Wx ir := by
  refine ⟨he, hT, fun es h => ?_, fun es pos h => ?_, fun es pos h hn => ?_, fun o h => ?_, fun tg x h => ?_, fun l h => ?_⟩
  · rw [ca] at h; exact ff h
  · rw [ca] at h; exact ff h
  · rw [hb] at h; exact ff h
  · rw [cp] at h
    cases o with
    | none => exact ff h
    | some x =>
      refine PO.imp (po_some (he x h)) fun σ H Q ⟨μ, ρ, τ, rh, rs, g⟩ => ?_
      rw [hp] at g
      refine ⟨μ, ρ, τ, rh, rs, (Got.bnd (rel := RVr B) g).imp fun v H1 ⟨y, τ1, μ1, l, rh1, rv, g1⟩ => ?_⟩
      cases rv with
      | int i => exact ⟨i, rfl, g1 μ1 H1 _ Le.refl rh1 rfl⟩
      | _ => exact g1.elim
  · rw [ci] at h; exact ff h
  · rw [cs] at h
    cases l with
    | nil => exact ff h
    | cons x r =>
      cases r with
      | nil => exact pts_one (hT x h)
      | cons _ _ => exact ff h
end
end Mi
/-! Mi7: further expressions: lists of them, and | or, displays, calls, comprehensions, what is walked. -/
namespace Mi
open PySem PySem.Spec PyProof.Rows L2
section
variable {G : Gt} {T : Tb} {C : Calls} {B : Bs} {k : Nat} {X : L2.Cx} {Z : Sx} {Wx : WX}

theorem snd_nil (F : Fit G T C B k X Z Wx) : Snd G T C B X Z Wx .nil := by
  refine ⟨fun x h => ff h, fun x h => ?_, fun es h => ?_, fun es pos h hn => ?_, fun es pos h hn => ?_, fun o h => ?_, fun tg x h => ff h, fun l h => ?_⟩
  · have h' : (plainT x && false) = true := h
    rw [Bool.and_false] at h'
    exact ff h'
  · cases es with
    | nil =>
      refine PA.imp pa_nil fun σ H Q ⟨μ, ρ, τ, rh, rs, g⟩ => ?_
      exact g μ H [] Le.refl rh .nil
    | cons _ _ => exact ff h
  · cases es with
    | nil => exact absurd rfl hn
    | cons _ _ => exact ff h
  · cases es with
    | nil => exact absurd rfl hn
    | cons _ _ => exact ff h
  · cases o with
    | none =>
      refine PO.imp po_none fun σ H Q ⟨μ, ρ, τ, rh, rs, g⟩ => ?_
      exact g μ H none Le.refl rh rfl
    | some _ => exact ff h
  · cases l with
    | nil =>
      refine PTs.imp pts_nil fun σ H Q ⟨μ, ρ, τ, rh, rs, g⟩ => ?_
      exact g μ H true Le.refl rh rfl
    | cons _ _ => exact ff h

theorem chk_nil : ∀ (ir : E), (chk G ir Z).a [] = true → ir = .nil := by
  intro ir h
  cases ir <;> first | rfl | exact ff h
theorem chk_ts_nil : ∀ (ir : E), (chk G ir Z).bs [] = true → ir = .nil := by
  intro ir h
  cases ir <;> first | rfl | exact ff h

theorem snd_cons {a r : E} (F : Fit G T C B k X Z Wx) (iha : Snd G T C B X Z Wx a) (ihr : Snd G T C B X Z Wx r) : Snd G T C B X Z Wx (.cons a r) := by
  have hA : ∀ es, (chk G (.cons a r) Z).a es = true → PA X es (tA T C B Wx (.cons a r)) := by
    intro es h
    cases es with
    | nil => exact ff h
    | cons x es =>
      have h' : (noStar x && (chk G a Z).e x && (chk G r Z).a es) = true := h
      rw [Bool.and_eq_true, Bool.and_eq_true] at h'
      obtain ⟨⟨h0, h1⟩, h2⟩ := h'
      refine PA.imp (pa_cons (iha.e x h1) (ihr.a es h2) (star_cons h0)) fun σ H Q ⟨μ, ρ, τ, rh, rs, g⟩ => ?_
      have g' : Got B (RVsr B) Wx μ H (((ev T C a).e ρ τ).bind fun x τ1 => ((ev T C r).a ρ τ1).bind fun xs τ2 => .ok (x :: xs) τ2) Q := g
      refine ⟨μ, ρ, τ, rh, rs, (Got.bnd (rel := RVr B) g').imp fun v H1 ⟨x, τ1, μ1, l1, rh1, rv, g1⟩ => ?_⟩
      refine ⟨μ1, ρ, τ1, rh1, rs.le l1, (Got.bnd (rel := RVsr B) g1).imp fun u H2 ⟨y, τ2, μ2, l2, rh2, ru, g2⟩ => ?_⟩
      exact g2 μ2 H2 (v :: u) Le.refl rh2 (.cons (RV.le l2 rv) ru)
  refine ⟨fun x h => ff h, fun x h => ?_, hA, fun es pos h hn => ?_, fun es pos h hn => ?_, fun o h => ff h, fun tg x h => ff h, fun l h => ff h⟩
  · have h' : (plainT x && false) = true := h
    rw [Bool.and_false] at h'
    exact ff h'
  · -- and, or as values
    cases es with
    | nil => exact absurd rfl hn
    | cons x es =>
      have h' : (noStar x && (chk G a Z).e x && (chk G r Z).a es) = true := h
      rw [Bool.and_eq_true, Bool.and_eq_true] at h'
      obtain ⟨⟨h0, h1⟩, h2⟩ := h'
      cases es with
      | nil =>
        have er := chk_nil r h2
        subst er
        exact ⟨PE.imp (pe_one (iha.e x h1)) fun σ H Q q => q, PE.imp (pe_one (iha.e x h1)) fun σ H Q q => q⟩
      | cons y es =>
        have hr : ∃ b s, r = .cons b s := by
          cases r with
          | cons b s => exact ⟨b, s, rfl⟩
          | _ => exact ff h2
        obtain ⟨b, s, rfl⟩ := hr
        obtain ⟨i1, i2⟩ := ihr.v (y :: es) pos h2 (by simp)
        refine ⟨PE.imp (pe_and (iha.e x h1) i1) fun σ H Q ⟨μ, ρ, τ, rh, rs, g⟩ => ?_, PE.imp (pe_or (iha.e x h1) i2) fun σ H Q ⟨μ, ρ, τ, rh, rs, g⟩ => ?_⟩
        · have g' : Got B (RVr B) Wx μ H (((ev T C a).e ρ τ).bind fun x τ1 => match x with
            | .bl d => if d = true then (ev T C (.cons b s)).v true ρ τ1 else .ok (.bl d) τ1
            | _ => .no) Q := g
          refine ⟨μ, ρ, τ, rh, rs, (Got.bnd (rel := RVr B) g').imp fun v H1 ⟨x, τ1, μ1, l1, rh1, rv, g1⟩ => ?_⟩
          cases rv with
          | bl d =>
            refine ⟨d, rfl, ?_⟩
            cases d with
            | true => exact iteT ⟨μ1, ρ, τ1, rh1, rs.le l1, g1⟩
            | false => exact iteF (got_val g1 rh1 (.bl _))
          | _ => exact g1.elim
        · have g' : Got B (RVr B) Wx μ H (((ev T C a).e ρ τ).bind fun x τ1 => match x with
            | .bl d => if d = false then (ev T C (.cons b s)).v false ρ τ1 else .ok (.bl d) τ1
            | _ => .no) Q := g
          refine ⟨μ, ρ, τ, rh, rs, (Got.bnd (rel := RVr B) g').imp fun v H1 ⟨x, τ1, μ1, l1, rh1, rv, g1⟩ => ?_⟩
          cases rv with
          | bl d =>
            refine ⟨d, rfl, ?_⟩
            cases d with
            | true => exact iteT (got_val g1 rh1 (.bl _))
            | false => exact iteF ⟨μ1, ρ, τ1, rh1, rs.le l1, g1⟩
          | _ => exact g1.elim
  · -- as tests
    cases es with
    | nil => exact absurd rfl hn
    | cons x es =>
      have h' : ((chk G a Z).t x && (chk G r Z).bs es) = true := h
      rw [Bool.and_eq_true] at h'
      obtain ⟨h1, h2⟩ := h'
      cases es with
      | nil =>
        have er := chk_ts_nil r h2
        subst er
        exact ⟨PW.imp (pw_and1 (iha.t x h1)) fun σ H Q q => q, PW.imp (pw_or1 (iha.t x h1)) fun σ H Q q => q⟩
      | cons y es =>
        have hr : ∃ b s, r = .cons b s := by
          cases r with
          | cons b s => exact ⟨b, s, rfl⟩
          | _ => exact ff h2
        obtain ⟨b, s, rfl⟩ := hr
        obtain ⟨i1, i2⟩ := ihr.b (y :: es) pos h2 (by simp)
        refine ⟨PW.imp (pw_and (iha.t x h1) i1) fun σ H Q ⟨μ, ρ, τ, rh, rs, g⟩ => ?_, PW.imp (pw_or (iha.t x h1) i2) fun σ H Q ⟨μ, ρ, τ, rh, rs, g⟩ => ?_⟩
        · have g' : Got B REq Wx μ H (((ev T C a).t ρ τ).bind fun d τ1 => if d = true then (ev T C (.cons b s)).b true ρ τ1 else .ok d τ1) Q := g
          refine ⟨μ, ρ, τ, rh, rs, (Got.bnd (rel := REq) g').imp fun v H1 ⟨d, τ1, μ1, l1, rh1, rv, g1⟩ => ?_⟩
          obtain rfl : d = v := rv
          cases d with
          | true => exact iteT ⟨μ1, ρ, τ1, rh1, rs.le l1, g1⟩
          | false => exact iteF (g1 μ1 H1 false Le.refl rh1 rfl)
        · have g' : Got B REq Wx μ H (((ev T C a).t ρ τ).bind fun d τ1 => if d = false then (ev T C (.cons b s)).b false ρ τ1 else .ok d τ1) Q := g
          refine ⟨μ, ρ, τ, rh, rs, (Got.bnd (rel := REq) g').imp fun v H1 ⟨d, τ1, μ1, l1, rh1, rv, g1⟩ => ?_⟩
          obtain rfl : d = v := rv
          cases d with
          | true => exact iteT (g1 μ1 H1 true Le.refl rh1 rfl)
          | false => exact iteF ⟨μ1, ρ, τ1, rh1, rs.le l1, g1⟩
theorem snd_conj {as : E} (F : Fit G T C B k X Z Wx) (ih : Snd G T C B X Z Wx as) : Snd G T C B X Z Wx (.conj as) := by
  refine Snd.ofET (fun x h => ?_) (fun x h => ?_) rfl rfl rfl rfl (fun _ _ => rfl) rfl
  · cases x with
    | BoolOp op vs pos =>
      cases op with
      | And =>
        have h' : ((chk G as Z).a vs && !vs.isEmpty) = true := h
        rw [Bool.and_eq_true] at h'
        have hn : vs ≠ [] := fun e => by rw [e] at h'; exact ff h'.2
        exact PE.imp (ih.v vs pos h'.1 hn).1 fun σ H Q q => q
      | _ => exact ff h
    | _ => exact ff h
  · cases x with
    | BoolOp op vs pos =>
      cases op with
      | And =>
        have h' : ((chk G as Z).bs vs && !vs.isEmpty) = true := h
        rw [Bool.and_eq_true] at h'
        have hn : vs ≠ [] := fun e => by rw [e] at h'; exact ff h'.2
        exact PT.imp (ih.b vs pos h'.1 hn).1.pt fun σ H Q q => q
      | _ => exact ff h
    | _ => exact ff h
theorem snd_disj {as : E} (F : Fit G T C B k X Z Wx) (ih : Snd G T C B X Z Wx as) : Snd G T C B X Z Wx (.disj as) := by
  refine Snd.ofET (fun x h => ?_) (fun x h => ?_) rfl rfl rfl rfl (fun _ _ => rfl) rfl
  · cases x with
    | BoolOp op vs pos =>
      cases op with
      | Or =>
        have h' : ((chk G as Z).a vs && !vs.isEmpty) = true := h
        rw [Bool.and_eq_true] at h'
        have hn : vs ≠ [] := fun e => by rw [e] at h'; exact ff h'.2
        exact PE.imp (ih.v vs pos h'.1 hn).2 fun σ H Q q => q
      | _ => exact ff h
    | _ => exact ff h
  · cases x with
    | BoolOp op vs pos =>
      cases op with
      | Or =>
        have h' : ((chk G as Z).bs vs && !vs.isEmpty) = true := h
        rw [Bool.and_eq_true] at h'
        have hn : vs ≠ [] := fun e => by rw [e] at h'; exact ff h'.2
        exact PT.imp (ih.b vs pos h'.1 hn).2.pt fun σ H Q q => q
      | _ => exact ff h
    | _ => exact ff h
theorem snd_not {a : E} (F : Fit G T C B k X Z Wx) (iha : Snd G T C B X Z Wx a) : Snd G T C B X Z Wx (.not a) := by
  refine Snd.ofET (fun x h => ?_) (fun x h => ?_) rfl rfl rfl rfl (fun _ _ => rfl) rfl
  · cases x with
    | UnaryOp op y pos =>
      cases op with
      | Not =>
        refine PE.imp (pe_not (iha.e y h)) fun σ H Q ⟨μ, ρ, τ, rh, rs, g⟩ => ?_
        have g' : Got B (RVr B) Wx μ H (((ev T C a).e ρ τ).bind fun x τ1 => match x with
          | .bl b => .ok (.bl (!b)) τ1
          | _ => .no) Q := g
        refine ⟨μ, ρ, τ, rh, rs, (Got.bnd (rel := RVr B) g').imp fun v H1 ⟨x, τ1, μ1, l1, rh1, rv, g1⟩ => ?_⟩
        cases rv with
        | bl b => exact ⟨b, rfl, got_val g1 rh1 (.bl _)⟩
        | _ => exact g1.elim
      | _ => exact ff h
    | _ => exact ff h
  · cases x with
    | UnaryOp op y pos =>
      cases op with
      | Not =>
        refine PT.imp (pt_not (iha.t y h)) fun σ H Q ⟨μ, ρ, τ, rh, rs, g⟩ => ?_
        have g' : Got B REq Wx μ H (((ev T C a).t ρ τ).bind fun b τ1 => .ok (!b) τ1) Q := g
        refine ⟨μ, ρ, τ, rh, rs, (Got.bnd (rel := REq) g').imp fun v H1 ⟨x, τ1, μ1, l1, rh1, rv, g1⟩ => ?_⟩
        obtain rfl : x = v := rv
        exact g1 μ1 H1 _ Le.refl rh1 rfl
      | _ => exact ff h
    | _ => exact ff h
theorem snd_ite {t a b : E} (F : Fit G T C B k X Z Wx) (iht : Snd G T C B X Z Wx t) (iha : Snd G T C B X Z Wx a) (ihb : Snd G T C B X Z Wx b) : Snd G T C B X Z Wx (.ite t a b) := by
  refine Snd.ofET (fun x h => ?_) (fun x h => ff h) rfl rfl rfl rfl (fun _ _ => rfl) rfl
  cases x with
  | IfExp u v w pos =>
    have h' : ((chk G t Z).t u && (chk G a Z).e v && (chk G b Z).e w) = true := h
    rw [Bool.and_eq_true, Bool.and_eq_true] at h'
    refine PE.imp (pe_ifExp (iht.t u h'.1.1) (iha.e v h'.1.2) (ihb.e w h'.2)) fun σ H Q ⟨μ, ρ, τ, rh, rs, g⟩ => ?_
    have g' : Got B (RVr B) Wx μ H (((ev T C t).t ρ τ).bind fun k τ1 => if k = true then (ev T C a).e ρ τ1 else (ev T C b).e ρ τ1) Q := g
    refine ⟨μ, ρ, τ, rh, rs, (Got.bnd (rel := REq) g').imp fun v H1 ⟨d, τ1, μ1, l1, rh1, rv, g1⟩ => ?_⟩
    obtain rfl : d = v := rv
    cases d with
    | true => exact iteT ⟨μ1, ρ, τ1, rh1, rs.le l1, g1⟩
    | false => exact iteF ⟨μ1, ρ, τ1, rh1, rs.le l1, g1⟩
  | _ => exact ff h
theorem snd_tup {as : E} (F : Fit G T C B k X Z Wx) (ih : Snd G T C B X Z Wx as) : Snd G T C B X Z Wx (.tup as) := by
  refine Snd.ofE F.K (fun x h => ?_) rfl rfl rfl rfl rfl (fun _ _ => rfl) (fun _ _ => rfl) rfl
  cases x with
  | Tuple es j pos =>
    refine PE.imp (pe_tup (ih.a es h)) fun σ H Q ⟨μ, ρ, τ, rh, rs, g⟩ => ?_
    have g' : Got B (RVr B) Wx μ H (((ev T C as).a ρ τ).bind fun ws τ1 => if ws.length ≤ sizeLine then .ok (.tup ws) τ1 else .no) Q := g
    refine ⟨μ, ρ, τ, rh, rs, (Got.bnd (rel := RVsr B) g').imp fun vs H1 ⟨ws, τ1, μ1, l1, rh1, rv, g1⟩ => ?_⟩
    have rv' : RVs B.K μ1 H1 ws vs := rv
    split at g1
    · rename_i hc
      refine ⟨by rw [← rv'.length]; exact hc, fun p hp => ?_⟩
      obtain ⟨rh', l⟩ := rh1.more (ho := .tup vs) hp
      exact g1 μ1 _ _ l rh' (.tup (.inl (.inl upd_same)) (rv'.le l))
    · exact g1.elim
  | _ => exact ff h
theorem snd_lst {as : E} (F : Fit G T C B k X Z Wx) (ih : Snd G T C B X Z Wx as) : Snd G T C B X Z Wx (.lst as) := by
  refine Snd.ofE F.K (fun x h => ?_) rfl rfl rfl rfl rfl (fun _ _ => rfl) (fun _ _ => rfl) rfl
  cases x with
  | List es pos =>
    refine PE.imp (pe_lst (ih.a es h)) fun σ H Q ⟨μ, ρ, τ, rh, rs, g⟩ => ?_
    have g' : Got B (RVr B) Wx μ H (((ev T C as).a ρ τ).bind fun ws τ1 => if ws.length ≤ sizeLine then newL τ1 ws else .no) Q := g
    refine ⟨μ, ρ, τ, rh, rs, (Got.bnd (rel := RVsr B) g').imp fun vs H1 ⟨ws, τ1, μ1, l1, rh1, rv, g1⟩ => ?_⟩
    have rv' : RVs B.K μ1 H1 ws vs := rv
    split at g1
    · rename_i hc
      exact ⟨by rw [← rv'.length]; exact hc, got_new g1 rh1 rv'⟩
    · exact g1.elim
  | _ => exact ff h
/-- what holds of a list's members -/
def Els (P : E → Prop) : E → Prop
  | .cons a r => P a ∧ Els P r
  | _ => True
theorem RP.merge {K : PySem.W.Frag} {μ : List Addr} {H : Hp} : ∀ {more : List (Key × W)} {rs : List (Key × V)} {kvs : List (Key × W)} {vs : List (Key × V)}, RP K μ H more rs → RP K μ H kvs vs → RP K μ H (mergeW kvs more) (L2.mergeK vs rs) := by
  intro more rs kvs vs r
  unfold RP at r
  induction r generalizing kvs vs with
  | nil => intro q; exact q
  | @cons p q ps qs h t ih =>
    intro r0
    obtain ⟨p1, p2⟩ := p
    obtain ⟨q1, q2⟩ := q
    obtain ⟨h1, h2⟩ := h
    have h1' : p1 = q1 := h1
    subst h1'
    exact ih (RP.putK h2 r0)
theorem RP.zip {K : PySem.W.Frag} {μ : List Addr} {H : Hp} : ∀ (ks : List Key) {ws : List W} {vs : List V}, RVs K μ H ws vs → RP K μ H (ks.zip ws) (ks.zip vs)
  | [], _, _, _ => by rw [List.zip_nil_left, List.zip_nil_left]; exact .nil
  | k :: ks, _, _, .nil => by rw [List.zip_nil_right, List.zip_nil_right]; exact .nil
  | k :: ks, _, _, .cons a r => .cons ⟨rfl, a⟩ (RP.zip ks r)
theorem keysB_some : ∀ {ks : E} {es : List (Option Expr)}, keysB ks es = true → es.all (·.isSome) = true
  | .nil, [], _ => rfl
  | .nil, _ :: _, h => ff h
  | .cons a r, [], h => by cases a <;> exact ff h
  | .cons a r, none :: l, h => by cases a <;> exact ff h
  | .cons a r, some x :: l, h => by
    cases a with
    | con w =>
      cases x with
      | Constant c j p =>
        have h' : (conB c w && keysB r l) = true := h
        rw [Bool.and_eq_true] at h'
        rw [List.all_cons]
        exact (Bool.and_eq_true _ _).mpr ⟨rfl, keysB_some h'.2⟩
      | _ => exact ff h
    | _ => exact ff h
theorem pairs_ok (F : Fit G T C B k X Z Wx) {pos : Pos} : ∀ (ks vs : E) (es : List (Option Expr)) (fs : List Expr) (kl : List Key), keyLits ks = some kl → keysB ks es = true → es.length = fs.length → (chk G vs Z).a fs = true → Els (Snd G T C B X Z Wx) vs →
    ∃ trs, PPs X pos es fs trs ∧ es.length = kl.length ∧ ∀ σ H Q, (∃ μ ρ τ, RH B.K B.Cl μ τ H ∧ RS B.K μ H ρ σ ∧ Got B (RVsr B) Wx μ H ((ev T C vs).a ρ τ) (fun us H' => Q ((kl.zip us).map fun kv => (kV kv.1, kv.2)) H')) → tPairs trs σ H Q := by
  intro ks
  induction ks with
  | nil =>
    intro vs es fs kl hk hb hl hc he
    cases es with
    | cons _ _ => exact ff hb
    | nil =>
      cases fs with
      | cons _ _ => cases hl
      | nil =>
        cases hk
        have ev0 := chk_nil vs hc
        subst ev0
        refine ⟨[], pps_nil, rfl, fun σ H Q ⟨μ, ρ, τ, rh, rs, g⟩ => ?_⟩
        have g' : Got B (RVsr B) Wx μ H (.ok [] τ) (fun us H' => Q ((([] : List Key).zip us).map fun kv => (kV kv.1, kv.2)) H') := g
        exact g' μ H [] Le.refl rh .nil
  | cons a r iha ihr =>
    intro vs es fs kl hk hb hl hc he
    cases es with
    | nil => cases a <;> exact ff hb
    | cons e es =>
      cases fs with
      | nil => cases hl
      | cons f fs =>
        cases a with
        | con w =>
          cases e with
          | none => exact ff hb
          | some x =>
            cases x with
            | Constant c j p =>
              have hb' : (conB c w && keysB r es) = true := hb
              rw [Bool.and_eq_true] at hb'
              have hv : ∃ b s, vs = .cons b s := by
                cases vs with
                | cons b s => exact ⟨b, s, rfl⟩
                | _ => exact ff hc
              obtain ⟨b, s, rfl⟩ := hv
              have hc' : (noStar f && (chk G b Z).e f && (chk G s Z).a fs) = true := hc
              rw [Bool.and_eq_true, Bool.and_eq_true] at hc'
              have hk' : (match keyOf w, keyLits r with
                | some k, some ks => some (k :: ks)
                | _, _ => none) = some kl := hk
              cases e1 : keyOf w with
              | none => rw [e1] at hk'; cases hk'
              | some key =>
                cases e2 : keyLits r with
                | none => rw [e1, e2] at hk'; cases hk'
                | some kr =>
                  rw [e1, e2] at hk'
                  cases hk'
                  obtain ⟨trs, h1, h2, h3⟩ := ihr s es fs kr e2 hb'.2 (Nat.succ.inj hl) hc'.2 he.2
                  have hcon : (chk G (.con w) Z).e (.Constant c j p) = true := hb'.1
                  refine ⟨_, pps_cons ((snd_con F).e _ hcon) (he.1.e f hc'.1.2) h1, congrArg (· + 1) h2, fun σ H Q ⟨μ, ρ, τ, rh, rs, g⟩ => ?_⟩
                  have g' : Got B (RVsr B) Wx μ H (((ev T C b).e ρ τ).bind fun x τ1 => ((ev T C s).a ρ τ1).bind fun xs τ2 => .ok (x :: xs) τ2) (fun us H' => Q (((key :: kr).zip us).map fun kv => (kV kv.1, kv.2)) H') := g
                  refine ⟨μ, ρ, τ, rh, rs, fun μ0 H0 v l0 rh0 rv0 => ?_⟩
                  have rv0' : RV B.K μ0 H0 w v := rv0
                  have ekey : v = kV key := by
                    cases rv0' with
                    | int i => cases e1; rfl
                    | str i => cases e1; rfl
                    | _ => cases e1
                  subst ekey
                  refine ⟨μ0, ρ, τ, rh0, rs.le l0, (Got.bnd (rel := RVr B) (Got.le l0 g')).imp fun v1 H1 ⟨x1, τ1, μ1, l1, rh1, rv1, g1⟩ => ?_⟩
                  refine h3 σ H1 _ ⟨μ1, ρ, τ1, rh1, (rs.le l0).le l1, (Got.bnd (rel := RVsr B) g1).imp fun us H2 ⟨ws, τ2, μ2, l2, rh2, rv2, g2⟩ => ?_⟩
                  exact g2 μ2 H2 (v1 :: us) Le.refl rh2 (.cons (RV.le l2 rv1) rv2)
            | _ => exact ff hb
        | _ => exact ff hb
  | _ => intro vs es fs kl hk; cases hk
theorem snd_dic {ks vs : E} (F : Fit G T C B k X Z Wx) (ih : Els (Snd G T C B X Z Wx) vs) : Snd G T C B X Z Wx (.dic ks vs) := by
  refine Snd.ofE F.K (fun x h => ?_) rfl rfl rfl rfl rfl (fun _ _ => rfl) (fun _ _ => rfl) rfl
  cases x with
  | Dict es fs pos =>
    have h' : (keysB ks es && decide (es.length = fs.length) && (es.isEmpty || (chk G vs Z).a fs)) = true := h
    rw [Bool.and_eq_true, Bool.and_eq_true] at h'
    obtain ⟨⟨h1, h2⟩, h3⟩ := h'
    have h2' := of_decide_eq_true h2
    cases hk : keyLits ks with
    | none =>
      refine PE.dyn fun σ H Q ⟨μ, ρ, τ, rh, rs, g⟩ => ?_
      have g' : Got B (RVr B) Wx μ H (match keyLits ks with
        | some [] => .ok (.ref τ.length) (τ ++ [.dic []])
        | some (k :: r) => if r.length < 15 then ((ev T C vs).a ρ (τ ++ [.dic []])).bind (dispR τ.length (k :: r)) else .no
        | none => .no) Q := g
      rw [hk] at g'
      exact g'.elim
    | some kl =>
      cases es with
      | nil =>
        cases fs with
        | cons _ _ => cases h2'
        | nil =>
          have hks : ks = .nil := by
            cases ks with
            | nil => rfl
            | cons a r => cases a <;> exact ff h1
            | _ => exact ff h1
          subst hks
          refine PE.imp pe_dnewK fun σ H Q ⟨μ, ρ, τ, rh, rs, g⟩ p hp => ?_
          have g' : Got B (RVr B) Wx μ H (.ok (.ref τ.length) (τ ++ [.dic []])) Q := g
          obtain ⟨rh', l'⟩ := rh.push (o := .dic []) (ho := .dK []) hp ⟨[], upd_same, .nil⟩
          exact g' _ _ _ l' rh' (.ref (by rw [← rh.len]; simp))
      | cons e es =>
        have h3' : (chk G vs Z).a fs = true := h3
        obtain ⟨trs, t1, t2, t3⟩ := pairs_ok (pos := pos) F ks vs (e :: es) fs kl hk h1 h2' h3' ih
        cases kl with
        | nil => cases t2
        | cons key kr =>
          refine PE.dyn fun σ H Q ⟨μ, ρ, τ, rh, rs, g⟩ => ?_
          have g' : Got B (RVr B) Wx μ H (match keyLits ks with
            | some [] => .ok (.ref τ.length) (τ ++ [.dic []])
            | some (k :: r) => if r.length < 15 then ((ev T C vs).a ρ (τ ++ [.dic []])).bind (dispR τ.length (k :: r)) else .no
            | none => .no) Q := g
          rw [hk] at g'
          have g2 : Got B (RVr B) Wx μ H (if kr.length < 15 then ((ev T C vs).a ρ (τ ++ [.dic []])).bind (dispR τ.length (key :: kr)) else .no) Q := g'
          split at g2
          · rename_i hc
            refine ⟨_, pe_disp t1 (keysB_some h1) h2' (by simp) (by rw [t2, List.length_cons]; omega), fun p hp => ?_⟩
            obtain ⟨rh', l'⟩ := rh.push (o := .dic []) (ho := .dK []) hp ⟨[], upd_same, .nil⟩
            refine t3 σ _ _ ⟨μ ++ [p], ρ, τ ++ [.dic []], rh', rs.le l', (Got.bnd (rel := RVsr B) (Got.le l' g2)).imp fun us H1 ⟨ws, τ1, μ1, l1, rh1, rv1, g3⟩ => ?_⟩
            have rv1' : RVs B.K μ1 H1 ws us := rv1
            have hp1 : μ1[τ.length]? = some p := l1.get (by rw [← rh.len]; simp)
            unfold dispR at g3
            split at g3
            · rename_i hd
              split at g3
              · rename_i hw
                obtain ⟨p', hp', ro⟩ := rh1.at_ hd
                rw [hp1] at hp'
                cases hp'
                obtain ⟨ps, e4, rp⟩ := ro
                cases rp
                refine ⟨e4, (key :: kr).zip us, rfl, by rw [List.length_zip, List.length_cons]; omega, ?_⟩
                have l4 : Le B.K μ1 H1 μ1 (upd H1 p (.dK (L2.mergeK [] ((key :: kr).zip us)))) := ⟨⟨[], by simp⟩, tup_upd (noTup_dK e4)⟩
                obtain ⟨rh4, l5⟩ := rh1.put (o := .dic (mergeW [] ((key :: kr).zip ws))) (ho := .dK (L2.mergeK [] ((key :: kr).zip us))) hp1 hd (fun xs z => by cases z) (noTup_dK e4) ⟨_, upd_same, (RP.merge (RP.zip (key :: kr) rv1') .nil).le l4⟩
                exact g3 μ1 _ _ l5 rh4 (.ref hp1)
              · exact g3.elim
            · exact g3.elim
          · exact g2.elim
  | _ => exact ff h
theorem snd_slice {a lo hi : E} (F : Fit G T C B k X Z Wx) (iha : Snd G T C B X Z Wx a) (ihl : Snd G T C B X Z Wx lo) (ihh : Snd G T C B X Z Wx hi) : Snd G T C B X Z Wx (.slice a lo hi) := by
  refine Snd.ofE F.K (fun x h => ?_) rfl rfl rfl rfl rfl (fun _ _ => rfl) (fun _ _ => rfl) rfl
  cases x with
  | Subscript u v pos =>
    cases v with
    | Slice l h2 st p2 =>
      cases st with
      | some _ => exact ff h
      | none =>
        have h' : ((chk G a Z).e u && (chk G lo Z).p l && (chk G hi Z).p h2) = true := h
        rw [Bool.and_eq_true, Bool.and_eq_true] at h'
        refine PE.imp (pe_slice (sl_any (B := B) (Wx := Wx) F.K) (iha.e u h'.1.1) (ihl.p l h'.1.2) (ihh.p h2 h'.2)) fun σ H Q ⟨μ, ρ, τ, rh, rs, g⟩ => ?_
        have g' : Got B (RVr B) Wx μ H (((ev T C a).e ρ τ).bind fun x τ1 => ((ev T C lo).p ρ τ1).bind fun l τ2 => ((ev T C hi).p ρ τ2).bind fun h τ3 => sliceW x l h τ3) Q := g
        refine ⟨μ, ρ, τ, rh, rs, (Got.bnd (rel := RVr B) g').imp fun v H1 ⟨x, τ1, μ1, l1, rh1, rv, g1⟩ => ?_⟩
        refine ⟨μ1, ρ, τ1, rh1, rs.le l1, (Got.bnd (rel := REq) g1).imp fun p H2 ⟨q, τ2, μ2, l2, rh2, rq, g2⟩ => ?_⟩
        refine ⟨μ2, ρ, τ2, rh2, (rs.le l1).le l2, (Got.bnd (rel := REq) g2).imp fun p3 H3 ⟨q3, τ3, μ3, l3, rh3, rq3, g3⟩ => ?_⟩
        obtain rfl : q = p := rq
        obtain rfl : q3 = p3 := rq3
        exact ⟨μ3, τ3, x, rh3, RV.le l3 (RV.le l2 rv), g3⟩
    | _ => exact ff h
  | _ => exact ff h

/-! ### fields and calls -/
theorem snd_bi {b : BI} {as : E} (F : Fit G T C B k X Z Wx) (ih : Snd G T C B X Z Wx as) : Snd G T C B X Z Wx (.bi b as) := by
  refine Snd.ofE F.K (fun x h => ?_) rfl rfl rfl rfl rfl (fun _ _ => rfl) (fun _ _ => rfl) rfl
  cases x with
  | Call f es kws pos =>
    cases f with
    | Name n p =>
      cases kws with
      | cons _ _ => exact ff h
      | nil =>
        have h' : (glB Z.sc n && decide (n = biName b) && G.bi n && !es.isEmpty && (chk G as Z).a es) = true := h
        rw [Bool.and_eq_true, Bool.and_eq_true, Bool.and_eq_true, Bool.and_eq_true, decide_eq_true_iff] at h'
        obtain ⟨⟨⟨⟨h1, rfl⟩, h3⟩, h4⟩, h5⟩ := h'
        cases es with
        | nil => exact ff h4
        | cons e es =>
          have hs := chk_stars G Z as h5
          have hs' : noStar e = true ∧ noStars es = true := by
            have := hs
            unfold noStars at this ⊢
            rw [List.all_cons, Bool.and_eq_true] at this
            exact this
          have fin : ∀ {σ : L2.St} {H : Hp} {Q : VK}, tE T C B Wx (.bi b as) σ H Q → tCB (rBi B Wx b) (tA T C B Wx as) σ H Q := fun {σ H Q} ⟨μ, ρ, τ, rh, rs, g⟩ => by
            have g' : Got B (RVr B) Wx μ H (((ev T C as).a ρ τ).bind fun ws τ1 => builtin b ws τ1) Q := g
            refine ⟨μ, ρ, τ, rh, rs, (Got.bnd (rel := RVsr B) g').imp fun vs H1 ⟨ws, τ1, μ1, l1, rh1, rv, g1⟩ => ?_⟩
            exact ⟨μ1, τ1, ws, rh1, rv, g1⟩
          have hb := bi_any (Wx := Wx) F.K F.calm b
          have hboot := bi_boot b
          obtain ⟨hn1, hn2⟩ := bi_name b
          cases hv : biVal b with
          | builtin id =>
            rw [hv] at hb hboot
            exact PE.imp (pe_callB hb (glB_gl F h1) (F.bi _ h3) hboot (ih.a _ h5) hn1 hn2 (star_cons hs'.1) (star_plain hs'.2)) fun σ H Q q => fin q
          | type ty =>
            rw [hv] at hb hboot
            exact PE.imp (pe_callTy hb (glB_gl F h1) (F.bi _ h3) hboot (ih.a _ h5) hn1 hn2 (star_cons hs'.1) (star_plain hs'.2)) fun σ H Q q => fin q
          | _ => cases b <;> cases hv
    | _ => exact ff h
  | _ => exact ff h
/-- the callee's promise met -/
theorem tail_got {σ : L2.St} {ρ : Sl} {μ : List Addr} {H : Hp} {A : R W} {Q : VK} (rs : RS B.K μ H ρ σ) (g : Got B (RVr B) Wx μ H (tail ρ A) Q) : Got B (RVr B) (fun cls d _ H => WE Wx σ cls d H) μ H A Q := by
  cases A with
  | ok a τ' => exact g
  | exn x ρ' τ' => exact fun μ' H' σ' d l r _ rx => g μ' H' σ d l r (rs.le l) rx
  | no => exact g
theorem snd_call {f : Nat} {as : E} (F : Fit G T C B k X Z Wx) (ih : Snd G T C B X Z Wx as) : Snd G T C B X Z Wx (.call f as) := by
  refine Snd.ofE F.K (fun x h => ?_) rfl rfl rfl rfl rfl (fun _ _ => rfl) (fun _ _ => rfl) rfl
  cases x with
  | Call fn es kws pos =>
    cases fn with
    | Name n p =>
      cases kws with
      | cons _ _ => exact ff h
      | nil =>
        have h' : (glB Z.sc n && plainName n && decide (G.fn n = some f) && (chk G as Z).a es) = true := h
        rw [Bool.and_eq_true, Bool.and_eq_true, Bool.and_eq_true, decide_eq_true_iff] at h'
        obtain ⟨⟨⟨h1, h2⟩, h3⟩, h5⟩ := h'
        obtain ⟨a, hm, cal⟩ := F.fn n f h3
        obtain ⟨fd, ps, hb, FO, ar⟩ := cal.ex
        have hroom : Room k X.A := F.room.mono (Nat.le_succ k)
        have hs := chk_stars G Z as h5
        refine ⟨fun pins s σ H Q I ⟨μ, ρ, τ, rh, rs, g⟩ => ?_⟩
        have g' : Got B (RVr B) Wx μ H (((ev T C as).a ρ τ).bind fun ws τ1 => tail ρ (C f ws τ1)) Q := g
        have sp : ∀ vs H1, (∃ ws τ1 μ1, Le B.K μ H μ1 H1 ∧ RH B.K B.Cl μ1 τ1 H1 ∧ RVsr B μ1 H1 ws vs ∧ Got B (RVr B) Wx μ1 H1 (tail ρ (C f ws τ1)) Q) → spF C B f ps.length vs H1 Q (WE Wx σ) := by
          rintro vs H1 ⟨ws, τ1, μ1, l1, rh1, rv, g1⟩
          have rv' : RVs B.K μ1 H1 ws vs := rv
          refine ⟨?_, μ1, τ1, ws, rh1, rv, tail_got (rs.le l1) g1⟩
          rcases ar ws τ1 with e | e
          · rw [e] at g1
            exact g1.elim
          · rw [← rv'.length]; exact e
        refine wpAny_Call_Name_kw (ld_glob I (glB_gl F h1) hm ?_ (plainName_of h2).1)
        cases es with
        | nil =>
          have e := chk_nil as h5
          subst e
          exact PySem.W.callWith_K0 I.kIn cal.kp (run_fnS (us := []) FO hroom hb (passAt F.tk σ) I .nil (sp [] H ⟨[], τ, μ, Le.refl, rh, .nil, g'⟩))
        | cons e es =>
          have hs' : noStar e = true ∧ noStars es = true := by
            have := hs
            unfold noStars at this ⊢
            rw [List.all_cons, Bool.and_eq_true] at this
            exact this
          refine PySem.W.callWith_K (h₀ := X.base) I.ok.mod.kin cal.kp (thn ((ih.a _ h5).run pos pins s σ H _ I ⟨μ, ρ, τ, rh, rs, (Got.bnd (rel := RVsr B) g').imp sp⟩) fun us s1 ⟨vs, H1, I1, r, q⟩ => ⟨I1.kIn, ?_⟩) (star_cons hs'.1) (star_plain hs'.2)
          exact run_fnS FO hroom hb (passAt F.tk σ) I1 r q
    | _ => exact ff h
  | _ => exact ff h
theorem ty_rv {μ : List Addr} {H : Hp} {τ : Sto} {w : W} {v : V} {n : Ty} (rh : RH B.K B.Cl μ τ H) (r : RV B.K μ H w v) (h : tyOf τ w = some n) : TyX B.K H v (.type (tyName n)) := by
  cases r with
  | non => cases h; exact .base .non
  | bl b => cases h; exact .base (.bl b)
  | int b => cases h; exact .base (.int b)
  | str b => cases h; exact .base (.str b)
  | @tup a vs ws s r =>
    cases h
    rcases s with (s | ⟨o, s⟩) | ⟨o, its, n, h1, h2, _⟩
    · exact .base (.tup s)
    · exact .fTuple s
    · exact .kTuple h1 h2
  | @ref n a ha =>
    unfold tyOf at h
    dsimp only at h
    cases e : τ[n]? with
    | none => rw [e] at h; cases h
    | some o =>
      rw [e] at h
      obtain ⟨a', ha', ho⟩ := rh.at_ e
      obtain rfl := Option.some.inj (ha'.symm.trans ha)
      cases o with
      | lst ys =>
        cases h
        obtain ⟨vs, h0, r⟩ := ho
        exact .base (.lst h0)
      | frz ns =>
        cases h
        have ho' : SqL B.K H a' (ns.map V.int) := ho
        rcases ho' with (s | ⟨o, s⟩) | ⟨o, its, n, h1, h2, _⟩
        · exact .base (.lst s)
        · exact .base (.frz s)
        · exact .kList h1 h2
      | dic kvs =>
        cases h
        obtain ⟨qs, h0, r⟩ := ho
        exact .base (.dK h0)
      | ins c fs => cases h
theorem kit_inst : ∀ a t : Ty, kitB (tyName a) (tyName t) = some (inst a t) := by
  intro a t
  cases a <;> cases t <;> decide +kernel
theorem ty_boot : ∀ t : Ty, t ≠ .none → bootBuiltins (Str.ofString (tyName t)) = some (.type (tyName t)) ∧ Str.ofString (tyName t) ≠ "__name__" ∧ (Str.ofString (tyName t) == ("__debug__" : Str)) = false := by
  intro t h
  cases t <;> first | exact absurd rfl h | decide +kernel
theorem snd_isi {a : E} {t : Ty} (F : Fit G T C B k X Z Wx) (ih : Snd G T C B X Z Wx a) : Snd G T C B X Z Wx (.isi a t) := by
  refine Snd.ofE F.K (fun x h => ?_) rfl rfl rfl rfl rfl (fun _ _ => rfl) (fun _ _ => rfl) rfl
  have h0 : (match isiArgs x with
    | some (n, u, ty) => glB Z.sc n && decide (n = "isinstance") && G.bi n && glB Z.sc ty && decide (ty = Str.ofString (tyName t)) && decide (t ≠ .none) && G.bi ty && noStar u && (chk G a Z).e u
    | none => false) = true := h
  cases hx : isiArgs x with
  | none => rw [hx] at h0; exact ff h0
  | some q =>
    obtain ⟨n, u, ty⟩ := q
    rw [hx] at h0
    obtain ⟨p, p2, pos, rfl⟩ := isiArgs_of hx
    simp only [Bool.and_eq_true, decide_eq_true_iff] at h0
    obtain ⟨⟨⟨⟨⟨⟨⟨⟨h1, rfl⟩, h3⟩, h4⟩, rfl⟩, h6⟩, h7⟩, h8⟩, h9⟩ := h0
    obtain ⟨b1, b2, b3⟩ := ty_boot t h6
    refine PE.imp (pe_callB (id := "isinstance") call_isi (glB_gl F h1) (F.bi _ h3) (by decide +kernel) (pa_cons (ih.e u h9) (pa_cons (pe_bltn (v := .ty (tyName t)) (glB_gl F h4) (F.bi _ h7) b1 rfl b2 b3) pa_nil) (star_cons h8)) (by decide) (by decide) (star_cons h8) rfl) fun σ H Q ⟨μ, ρ, τ, rh, rs, g⟩ => ?_
    have g' : Got B (RVr B) Wx μ H (((ev T C a).e ρ τ).bind fun x τ1 => lift τ1 ((tyOf τ1 x).map fun n => .bl (inst n t))) Q := g
    refine ⟨μ, ρ, τ, rh, rs, (Got.bnd (rel := RVr B) g').imp fun v H1 ⟨x, τ1, μ1, l1, rh1, rv, g1⟩ => ?_⟩
    cases e : tyOf τ1 x with
    | none => rw [e] at g1; exact g1.elim
    | some n =>
      rw [e] at g1
      exact ⟨v, .ty (tyName t), _, _, _, rfl, .ty _, by rw [F.K]; exact ty_rv rh1 rv e, kit_ty (kit_inst n t), got_val g1 rh1 (.bl _)⟩
theorem snd_fld {a : E} {f : Str} (F : Fit G T C B k X Z Wx) (iha : Snd G T C B X Z Wx a) : Snd G T C B X Z Wx (.fld a f) := by
  refine Snd.ofE F.K (fun x h => ?_) rfl rfl rfl rfl rfl (fun _ _ => rfl) (fun _ _ => rfl) rfl
  cases x with
  | Attribute u n pos =>
    have h' : (decide (n = f) && plainBase u && (chk G a Z).e u) = true := h
    rw [Bool.and_eq_true, Bool.and_eq_true, decide_eq_true_iff] at h'
    obtain ⟨⟨rfl, h1⟩, h2⟩ := h'
    refine PE.imp (pe_fld (iha.e u h2) (base_plain h1)) fun σ H Q ⟨μ, ρ, τ, rh, rs, g⟩ => ?_
    have g' : Got B (RVr B) Wx μ H (((ev T C a).e ρ τ).bind fun x τ1 => lift τ1 (fieldOf T τ1 x n)) Q := g
    refine ⟨μ, ρ, τ, rh, rs, (Got.bnd (rel := RVr B) g').imp fun v H1 ⟨x, τ1, μ1, l1, rh1, rv, g1⟩ => ?_⟩
    cases rv with
    | @ref m ad ha =>
      have g2 : Got B (RVr B) Wx μ1 H1 (lift τ1 (match τ1[m]? with
        | some (.ins c fs) => if T.attr c n = true then fs.lookup n else none
        | _ => none)) Q := g1
      cases e : τ1[m]? with
      | none => rw [e] at g2; exact g2.elim
      | some o =>
        rw [e] at g2
        obtain ⟨a', ha', ho⟩ := rh1.at_ e
        obtain rfl := Option.some.inj (ha'.symm.trans ha)
        cases o with
        | ins c fs =>
          dsimp only at g2
          split at g2
          · rename_i hc
            obtain ⟨dx, ps, h0, r⟩ := ho
            obtain ⟨c1, c2⟩ := F.attr c n hc
            cases e2 : fs.lookup n with
            | none => rw [e2] at g2; exact g2.elim
            | some w =>
              rw [e2] at g2
              obtain ⟨v, hv, rv⟩ := r.lookup e2
              exact ⟨a', _, dx, ps, v, rfl, h0, c1, c2, hv, got_val g2 rh1 rv⟩
          · exact g2.elim
        | _ => exact g2.elim
    | _ => exact g1.elim
  | _ => exact ff h
end
end Mi
/-! Mi8: methods, instances made, what is walked, comprehensions; all expressions. -/
namespace Mi
open PySem PySem.Spec PyProof.Rows L2
section
variable {G : Gt} {T : Tb} {C : Calls} {B : Bs} {k : Nat} {X : L2.Cx} {Z : Sx} {Wx : WX}

theorem stars2 {e : Expr} {es : List Expr} (h : noStars (e :: es) = true) : noStar e = true ∧ noStars es = true := by
  unfold noStars at h ⊢
  rw [List.all_cons, Bool.and_eq_true] at h
  exact h
/-- the arguments of a call, then the callee -/
theorem args_run {as : E} {es : List Expr} {pos : Pos} {f : Value} {first : List Value} {pins : List (Addr × Obj)} {s : Shared} {σ : L2.St} {H : Hp} {Qf : Value → Shared → Prop} {R : List V → Hp → Prop} (F : Fit G T C B k X Z Wx) (ih : Snd G T C B X Z Wx as)
    (hc : (chk G as Z).a es = true) (hk : PySem.W.keepIn X.K f = true) (I : Inv X pins σ H s) (h : tA T C B Wx as σ H R)
    (fin : ∀ us vs s1 H1, Inv X pins σ H1 s1 → Vals vs us → R vs H1 → wpAny (model X.prog X.w) X.A (call f (first ++ us)) Qf X.xe s1) :
    wpAny (model X.prog X.w) X.A (callWith pos f first (backTo pos (starEach es X.env)) []) Qf X.xe s := by
  cases es with
  | nil =>
    have e := chk_nil as hc
    subst e
    obtain ⟨μ, ρ, τ, rh, rs, g⟩ := h
    exact PySem.W.callWith_K0 I.kIn hk (fin [] [] s H I .nil (g μ H [] Le.refl rh .nil))
  | cons e es =>
    obtain ⟨h1, h2⟩ := stars2 (chk_stars G Z as hc)
    refine PySem.W.callWith_K (h₀ := X.base) I.ok.mod.kin hk (thn ((ih.a _ hc).run pos pins s σ H R I h) fun us s1 hs => ?_) (star_cons h1) (star_plain h2)
    obtain ⟨vs, H1, I1, r, q⟩ := hs
    exact ⟨I1.kIn, fin us vs s1 H1 I1 r q⟩
theorem snd_meth {m : Str} {o as : E} (F : Fit G T C B k X Z Wx) (iho : Snd G T C B X Z Wx o) (ih : Snd G T C B X Z Wx as) : Snd G T C B X Z Wx (.meth m o as) := by
  refine Snd.ofE F.K (fun x h => ?_) rfl rfl rfl rfl rfl (fun _ _ => rfl) (fun _ _ => rfl) rfl
  have h0 : (match mArgs x with
      | some (u, n, ap, es, cp) => decide (n = m) && plainBase u && (ap.endLine == cp.line) && decide (es.length < 29) && (chk G o Z).e u && (chk G as Z).a es
      | none => false) = true := h
  cases hx : mArgs x with
  | none => rw [hx] at h0; exact ff h0
  | some q =>
    obtain ⟨u, n, ap, es, cp⟩ := q
    rw [hx] at h0
    have ex := mArgs_of hx
    subst ex
    simp only [Bool.and_eq_true, decide_eq_true_iff] at h0
    obtain ⟨⟨⟨⟨⟨rfl, h1⟩, h2⟩, h3⟩, h4⟩, h5⟩ := h0
    have hs := chk_stars G Z as h5
    refine ⟨fun pins s σ H Q I ⟨μ, ρ, τ, rh, rs, g⟩ => ?_⟩
    have g' : Got B (RVr B) Wx μ H (((ev T C o).e ρ τ).bind fun x τ1 => match x with
      | .ref m => match τ1[m]? with
        | some (.ins c fs) => match fs.lookup n, T.meth c n with
          | none, some f => ((ev T C as).a ρ τ1).bind fun ws τ2 => tail ρ (C f (.ref m :: ws) τ2)
          | _, _ => .no
        | _ => .no
      | _ => .no) Q := g
    refine PySem.W.methodCall_KW (pl := (do return (← importBound u X.env).getD true)) (thn ((iho.e u h4).run pins s σ H _ I ⟨μ, ρ, τ, rh, rs, Got.bnd (rel := RVr B) g'⟩) fun uv s1 hq => ?_) (meth_form h1 h2 hs (by omega))
    obtain ⟨xv, H1, I1, rx, w, τ1, μ1, l1, rh1, rv, g1⟩ := hq
    have rv' : RV B.K μ1 H1 w xv := rv
    cases rv' with
    | @ref m a ha =>
      obtain rfl : uv = Value.ref a := rx
      have g2 : Got B (RVr B) Wx μ1 H1 (match τ1[m]? with
        | some (.ins c fs) => match fs.lookup n, T.meth c n with
          | none, some f => ((ev T C as).a ρ τ1).bind fun ws τ2 => tail ρ (C f (.ref m :: ws) τ2)
          | _, _ => .no
        | _ => .no) Q := g1
      cases e : τ1[m]? with
      | none => rw [e] at g2; exact g2.elim
      | some ob =>
        rw [e] at g2
        obtain ⟨a', ha', ho⟩ := rh1.at_ e
        obtain rfl := Option.some.inj (ha'.symm.trans ha)
        cases ob with
        | ins c fs =>
          obtain ⟨dx, ps, hi, rp⟩ := ho
          cases e1 : fs.lookup n with
          | some _ => simp only [e1] at g2; exact g2.elim
          | none =>
            cases e2 : T.meth c n with
            | none => simp only [e1, e2] at g2; exact g2.elim
            | some f =>
              simp only [e1, e2] at g2
              obtain ⟨a2, cls, meth, _, _, cal⟩ := F.meth c n f e2
              obtain ⟨fd, pl, hb, FO, ar⟩ := cal.ex
              refine getmeth_ok I1 hi cls meth (rp.lookup_none e1) ?_
              refine args_run (first := [.ref a']) F ih h5 meth.kp I1 ⟨μ1, ρ, τ1, rh1, rs.le l1, Got.bnd (rel := RVsr B) g2⟩ fun us vs s2 H2 I2 r hw => ?_
              obtain ⟨ws, τ2, μ2, l2, rh2, rvs, g3⟩ := hw
              have rvs' : RVs B.K μ2 H2 ws vs := rvs
              refine run_fnS (us := .ref a' :: us) (vs := .ref a' :: vs) FO (F.room.mono (Nat.le_succ k)) hb (passAt F.tk σ) I2 (.cons rfl r) ⟨?_, μ2, τ2, .ref m :: ws, rh2, .cons (.ref (l2.get ha)) rvs', tail_got ((rs.le l1).le l2) g3⟩
              rcases ar (.ref m :: ws) τ2 with e3 | e3
              · rw [e3] at g3; exact g3.elim
              · rw [← e3, List.length_cons, List.length_cons, rvs'.length]
        | _ => exact g2.elim
    | _ => exact g1.elim

/-- what a comprehension's block is to be -/
theorem fit_blk (F : Fit G T C B k X Z Wx) (s : Shared) (H : Hp) (scope : Scope) (Ca : Addr) (cl : List (Str × Addr)) (fp : List Addr) :
    Fit G T C B k (X.blk s H scope (compEnvC scope cl Ca X.env) fp) ⟨Z.N, relS scope Z.sc, scope.names⟩ (fun _ _ _ _ => False) where
  N := F.N
  nd := F.nd
  sc := by
    show relS scope X.env.scope = relS scope Z.sc
    rw [F.sc]
  own := fun x hx => by
    have h' : (match scope.names.lookup x with
      | some .local => true | some .cell => true | _ => false) = true := hx
    show (List.lookup x (relS scope X.env.scope).names = some .local ∨ List.lookup x (relS scope X.env.scope).names = some .cell) ∧ ((scope.names.lookup x == some .cell) = true ∨ List.lookup x (relS scope X.env.scope).names = some .local)
    cases e : scope.names.lookup x with
    | none => rw [e] at h'; exact ff h'
    | some kd =>
      rw [e] at h'
      cases kd with
      | «local» =>
        have e2 := lookup_relS_keep (sc := X.env.scope) (k := .local) (by decide) e
        exact ⟨.inl e2, .inr e2⟩
      | cell =>
        have e2 := lookup_relS_keep (sc := X.env.scope) (k := .cell) (by decide) e
        exact ⟨.inr e2, .inl (by decide)⟩
      | _ => exact ff h'
  calm := F.calm
  K := F.K
  room := F.room
  con := F.con
  bi := F.bi
  fn := F.fn
  cl := F.cl
  meth := F.meth
  attr := F.attr
  tk := takes0

/-! ### targets -/
def tgs : List Nat → TGs
  | [] => gNil
  | i :: r => gCons (gName i) (tgs r)
def tgG (K : PySem.W.Frag) : Mi.G → TG
  | .name i => gName i
  | .tup is => gTup K is.length (tgs is)
theorem pg_one (F : Fit G T C B k X Z Wx) {i : Nat} {x : Str} {pos : Pos} (h1 : Z.N[i]? = some x) (h2 : ownB Z x = true) : PG X (.Name x pos) (gName i) := by
  obtain ⟨o1, o2⟩ := F.own x h2
  exact pg_name F.nd (by rw [F.N]; exact h1) o1 o2
theorem pgs_all (F : Fit G T C B k X Z Wx) : ∀ {is : List Nat} {es : List Expr}, es.length = is.length → ((is.zip es).all fun p => match p.2 with
    | .Name x _ => decide (Z.N[p.1]? = some x) && ownB Z x
    | _ => false) = true → PGs X es (tgs is) ∧ (assignEach es X.env).length = is.length ∧ (assignEach es X.env).findIdx? (·.1) = none
  | [], [], _, _ => ⟨pgs_nil, rfl, rfl⟩
  | i :: is, [], h, _ => by cases h
  | [], e :: es, h, _ => by cases h
  | i :: is, e :: es, h, hc => by
    rw [List.zip_cons_cons, List.all_cons, Bool.and_eq_true] at hc
    obtain ⟨h1, h2⟩ := hc
    obtain ⟨i1, i2, i3⟩ := pgs_all F (is := is) (es := es) (by simpa using h) h2
    cases e with
    | Name x pos =>
      have h1' : (decide (Z.N[i]? = some x) && ownB Z x) = true := h1
      rw [Bool.and_eq_true, decide_eq_true_iff] at h1'
      refine ⟨pgs_cons (pg_one F h1'.1 h1'.2) i1 rfl, ?_, ?_⟩
      · show (assignEach es X.env).length + 1 = is.length + 1
        rw [i2]
      · show List.findIdx? (·.1) ((false, assign (.Name x pos) X.env) :: assignEach es X.env) = none
        rw [List.findIdx?_cons, i3] <;> rfl
    | _ => exact ff h1
theorem pg_any (F : Fit G T C B k X Z Wx) {g : Mi.G} {e : Expr} (h : chkG Z g e = true) : PG X e (tgG X.K g) := by
  cases g with
  | name i =>
    cases e with
    | Name x pos =>
      have h' : (decide (Z.N[i]? = some x) && ownB Z x) = true := h
      rw [Bool.and_eq_true, decide_eq_true_iff] at h'
      exact pg_one F h'.1 h'.2
    | _ => exact ff h
  | tup is =>
    cases e with
    | Tuple es j pos =>
      have h' : (decide (es.length = is.length) && (is.zip es).all fun p => match p.2 with
        | .Name x _ => decide (Z.N[p.1]? = some x) && ownB Z x
        | _ => false) = true := h
      rw [Bool.and_eq_true, decide_eq_true_iff] at h'
      obtain ⟨i1, i2, i3⟩ := pgs_all F h'.1 h'.2
      exact pg_tup F.calm i1 i2 i3
    | _ => exact ff h
theorem tgs_imp {μ : List Addr} {H : Hp} {Q : L2.St → Hp → Prop} : ∀ {is : List Nat} {xs : List W} {vs : List V} {ρ : Sl} {σ : L2.St}, xs.length = is.length → RVs B.K μ H xs vs → RS B.K μ H ρ σ →
    (∀ σ', RS B.K μ H ((is.zip xs).foldl (fun r p => r.set p.1 (some p.2)) ρ) σ' → σ'.length = σ.length → (∀ ws, (∀ i ∈ is, i ∈ ws) → wipe σ' ws = wipe σ ws) → Q σ' H) → tgs is vs σ H Q
  | [], [], _, ρ, σ, _, .nil, rs, q => ⟨rfl, q σ rs rfl fun _ _ => rfl⟩
  | i :: is, x :: xs, _, ρ, σ, hl, .cons (v := v) (vs := vs) a r, rs, q => by
    refine ⟨v, vs, rfl, ?_⟩
    refine tgs_imp (is := is) (xs := xs) (by simpa using hl) r (rs.set (i := i) a) fun σ' rs' hl' hw => ?_
    refine q σ' rs' (by rw [hl', List.length_set]) fun ws hm => ?_
    rw [hw ws fun j hj => hm j (List.mem_cons_of_mem _ hj)]
    exact wipe_set (hm i List.mem_cons_self)
  | [], _ :: _, _, _, _, h, _, _, _ => by cases h
  | _ :: _, [], _, _, _, h, _, _, _ => by cases h
where
  wipe_set {σ : L2.St} {i : Nat} {v : Option V} : ∀ {ws : List Nat}, i ∈ ws → wipe (σ.set i v) ws = wipe σ ws
    | [], h => absurd h (by simp)
    | w :: ws, h => by
      show (wipe (σ.set i v) ws).set w none = (wipe σ ws).set w none
      by_cases hi : i ∈ ws
      · rw [wipe_set hi]
      · have e : i = w := by
          rcases List.mem_cons.mp h with e | e
          · exact e
          · exact absurd e hi
        subst e
        have : ∀ (ws : List Nat) (σ : L2.St), (wipe (σ.set i v) ws).set i none = (wipe σ ws).set i none := by
          intro ws
          induction ws with
          | nil => intro σ; show (σ.set i v).set i none = σ.set i none; rw [List.set_set]
          | cons u us ihu =>
            intro σ
            show ((wipe (σ.set i v) us).set u none).set i none = ((wipe σ us).set u none).set i none
            by_cases hu : u = i
            · subst hu
              rw [List.set_set, List.set_set]
              exact ihu σ
            · rw [List.set_comm _ _ hu, List.set_comm _ _ hu, ihu σ]
        exact this ws σ
theorem wipe_set {σ : L2.St} {i : Nat} {v : Option V} {ws : List Nat} (h : i ∈ ws) : wipe (σ.set i v) ws = wipe σ ws := tgs_imp.wipe_set h
theorem wipe_wipe (σ : L2.St) (ws : List Nat) : wipe (wipe σ ws) ws = wipe σ ws := by
  have key : ∀ (us : List Nat), (∀ i ∈ us, i ∈ ws) → ∀ τ : L2.St, wipe (wipe τ us) ws = wipe τ ws := by
    intro us
    induction us with
    | nil => intro _ τ; rfl
    | cons u us ihu =>
      intro hm τ
      show wipe ((wipe τ us).set u none) ws = wipe τ ws
      rw [wipe_set (hm u List.mem_cons_self)]
      exact ihu (fun i hi => hm i (List.mem_cons_of_mem _ hi)) τ
  exact key ws (fun _ h => h) σ
/-- a target takes its value -/
theorem tg_imp {g : Mi.G} {w : W} {v : V} {ρ ρ' : Sl} {σ : L2.St} {μ : List Addr} {H : Hp} {Q : L2.St → Hp → Prop} (hK : X.K = B.K) (hp : putG g w ρ = some ρ') (rv : RV B.K μ H w v) (rs : RS B.K μ H ρ σ)
    (q : ∀ σ', RS B.K μ H ρ' σ' → (∀ ws, gIn g ws = true → wipe σ' ws = wipe σ ws) → Q σ' H) : tgG X.K g v σ H Q := by
  cases g with
  | name i =>
    cases hp
    exact q _ (rs.set rv) fun ws hw => wipe_set (of_decide_eq_true hw)
  | tup is =>
    cases rv with
    | @tup a vs xs s r =>
      have hp' : (if xs.length = is.length then some ((is.zip xs).foldl (fun r p => r.set p.1 (some p.2)) ρ) else none) = some ρ' := hp
      split at hp'
      · rename_i hl
        cases hp'
        refine ⟨a, vs, rfl, by rw [hK]; exact s, by rw [← r.length]; exact hl, ?_⟩
        exact tgs_imp hl r rs fun σ' rs' _ hw => q σ' rs' fun ws hg => hw ws fun i hi => by
          have := List.all_eq_true.mp (show (is.all fun i => decide (i ∈ ws)) = true from hg) i hi
          exact of_decide_eq_true this
      · cases hp'
    | _ => cases hp
end
end Mi
/-! Mi9: methods of built-in types, what is walked, comprehensions; every expression. -/
namespace Mi
open PySem PySem.Spec PyProof.Rows L2
section
variable {G : Gt} {T : Tb} {C : Calls} {B : Bs} {k : Nat} {X : L2.Cx} {Z : Sx} {Wx : WX}

theorem few_one {e : Expr} {env : Env} {cp : Pos} (h : noStar e = true) : ((backTo cp (starEach (e :: []) env)).all (fun x => !x.1) && (backToKw cp (keywordEach [] env)).all (fun x => x.1.isSome)
      && decide ((e :: []).length + ([] : List Keyword).length + (if ([] : List Keyword).isEmpty then 0 else 1) < 30)) = true := by
  rw [star_all (by show (noStar e && true) = true; rw [h] <;> rfl)]
  rfl
def bmTy : BM → String
  | .append => "list" | .pop => "list" | .popAt => "list" | _ => "str"
theorem pre_ty {m : BM} {μ : List Addr} {H : Hp} {τ : Sto} {w : W} {v : V} (rh : RH B.K B.Cl μ τ H) (rv : RV B.K μ H w v) (h : bmPre m w τ = true) : tyV B.K (bmTy m) v H := by
  have hl : isLst τ w = true → tyV B.K "list" v H := fun h2 => by
    unfold isLst at h2
    cases rv with
    | @ref n a ha =>
      cases e : τ[n]? with
      | none => simp only [e] at h2; exact ff h2
      | some o =>
        simp only [e] at h2
        obtain ⟨a', ha', ho⟩ := rh.at_ e
        obtain rfl := Option.some.inj (ha'.symm.trans ha)
        cases o with
        | lst ys =>
          obtain ⟨vs, h0, r⟩ := ho
          exact .inl ⟨rfl, vs, SqL.of h0⟩
        | _ => exact ff h2
    | _ => exact ff h2
  have hs : isStr w = true → tyV B.K "str" v H := fun h2 => by
    cases rv with
    | str x => exact (rfl : "str" = "str")
    | _ => exact ff h2
  cases m with
  | append => exact hl h
  | pop => exact hl h
  | popAt => exact hl h
  | _ => exact hs h
theorem snd_bm {m : BM} {o as : E} (F : Fit G T C B k X Z Wx) (iho : Snd G T C B X Z Wx o) (ih : Snd G T C B X Z Wx as) : Snd G T C B X Z Wx (.bm m o as) := by
  refine Snd.ofE F.K (fun x h => ?_) rfl rfl rfl rfl rfl (fun _ _ => rfl) (fun _ _ => rfl) rfl
  have h0 : (match mArgs x with
      | some (u, n, ap, es, cp) => decide (n = bmName m) && plainBase u && (ap.endLine == cp.line) && decide (es.length = bmMany m) && (chk G o Z).e u && (chk G as Z).a es
      | none => false) = true := h
  cases hx : mArgs x with
  | none => rw [hx] at h0; exact ff h0
  | some q =>
    obtain ⟨u, n, ap, es, cp⟩ := q
    rw [hx] at h0
    have ex := mArgs_of hx
    subst ex
    simp only [Bool.and_eq_true, decide_eq_true_iff] at h0
    obtain ⟨⟨⟨⟨⟨rfl, h1⟩, h2⟩, h3⟩, h4⟩, h5⟩ := h0
    have hs := chk_stars G Z as h5
    -- what the run says
    have run1 : ∀ {σ : L2.St} {H : Hp} {Q : VK}, tE T C B Wx (.bm m o as) σ H Q → tE T C B Wx o σ H fun v H1 => ∃ w τ1 μ1 ρ, RH B.K B.Cl μ1 τ1 H1 ∧ RS B.K μ1 H1 ρ σ ∧ RV B.K μ1 H1 w v ∧ bmPre m w τ1 = true ∧
        Got B (RVr B) Wx μ1 H1 (((ev T C as).a ρ τ1).bind fun ws τ2 => bmeth m w ws τ2) Q := by
      rintro σ H Q ⟨μ, ρ, τ, rh, rs, g⟩
      have g' : Got B (RVr B) Wx μ H (((ev T C o).e ρ τ).bind fun x τ1 => if bmPre m x τ1 = true then ((ev T C as).a ρ τ1).bind fun ws τ2 => bmeth m x ws τ2 else .no) Q := g
      refine ⟨μ, ρ, τ, rh, rs, (Got.bnd (rel := RVr B) g').imp fun v H1 ⟨w, τ1, μ1, l1, rh1, rv, g1⟩ => ?_⟩
      split at g1
      · rename_i hp
        exact ⟨w, τ1, μ1, ρ, rh1, rs.le l1, rv, hp, g1⟩
      · exact g1.elim
    have args : ∀ {w : W} {v : V} {τ1 : Sto} {μ1 : List Addr} {ρ : Sl} {σ : L2.St} {H1 : Hp} {Q : VK}, RH B.K B.Cl μ1 τ1 H1 → RS B.K μ1 H1 ρ σ → RV B.K μ1 H1 w v → Got B (RVr B) Wx μ1 H1 (((ev T C as).a ρ τ1).bind fun ws τ2 => bmeth m w ws τ2) Q →
        tA T C B Wx as σ H1 fun vs H2 => rBm B Wx m v vs H2 Q := by
      intro w v τ1 μ1 ρ σ H1 Q rh1 rs rv g1
      exact ⟨μ1, ρ, τ1, rh1, rs, (Got.bnd (rel := RVsr B) g1).imp fun vs H2 ⟨ws, τ2, μ2, l2, rh2, rvs, g2⟩ => ⟨μ2, τ2, w, ws, rh2, rv.le l2, rvs, g2⟩⟩
    have one : ∀ {id : String} {e : Expr}, es = [e] → PlainAttrs (bmTy m) → Slot (bmTy m) (bmName m) id → typeOf (.builtin id) = pure (.type "method_descriptor") → MtR X id (rBm B Wx m) → PE X (.Call (.Attribute u (bmName m) ap) es [] cp) (tE T C B Wx (.bm m o as)) := by
      intro id e ee pa slot ty rule
      subst ee
      obtain ⟨s1, s2⟩ := stars2 hs
      refine PE.imp (pe_bm pa slot ty rule (iho.e u h4) (ih.a [e] h5) (base_plain h1) (few_one s1) h2 (star_cons s1) rfl) fun σ H Q q => ?_
      obtain ⟨μ, ρ, τ, rh, rs, g⟩ := run1 q
      refine ⟨μ, ρ, τ, rh, rs, g.imp fun v H1 ⟨w, τ1, μ1, ρ1, rh1, rs1, rv, hp, g1⟩ => ⟨?_, args rh1 rs1 rv g1⟩⟩
      rw [F.K]
      exact pre_ty rh1 rv hp
    cases m with
    | append =>
      match es, h3 with
      | [e], _ => exact one rfl PySem.F.plainAttrs_list PySem.F.slot_list_append PySem.F.type_list_append bm_append
    | pop =>
      match es, h3 with
      | [], _ =>
        have e := chk_nil as h5
        subst e
        refine PE.imp (pe_bm0 PySem.F.plainAttrs_list PySem.F.slot_list_pop PySem.F.type_list_pop (bm_pop (B := B) (Wx := Wx)) (iho.e u h4) (base_plain h1) h2) fun σ H Q q => ?_
        obtain ⟨μ, ρ, τ, rh, rs, g⟩ := run1 q
        refine ⟨μ, ρ, τ, rh, rs, g.imp fun v H1 ⟨w, τ1, μ1, ρ1, rh1, rs1, rv, hp, g1⟩ => ⟨?_, μ1, τ1, w, [], rh1, rv, .nil, g1⟩⟩
        rw [F.K]
        exact pre_ty rh1 rv hp
    | popAt =>
      match es, h3 with
      | [e], _ =>
        exact one rfl PySem.F.plainAttrs_list PySem.F.slot_list_pop PySem.F.type_list_pop fun pins s σ H x xs v us Q I r1 r2 ⟨_, _, _, _, _, _, _, g⟩ => g.elim
    | startswith =>
      match es, h3 with
      | [e], _ => exact one rfl PySem.F.plainAttrs_str PySem.F.slot_str_startswith PySem.F.type_str_startswith bm_starts
    | split =>
      match es, h3 with
      | [e], _ => exact one rfl PySem.F.plainAttrs_str PySem.F.slot_str_split PySem.F.type_str_split bm_split
    | join =>
      match es, h3 with
      | [e], _ => exact one rfl PySem.F.plainAttrs_str PySem.F.slot_str_join PySem.F.type_str_join (bm_join F.K)

/-! ### what is walked -/
theorem itok1 {n : Nat} {xs : List W} {gs : List (Nat × List W)} {τ : Sto} (h : It.ok ((n, xs) :: gs) τ) : seqOf τ n = some xs := h (n, xs) List.mem_cons_self
/-- a list -/
theorem rj_list {n : Nat} {xs : List W} {μ1 : List Addr} {H1 : Hp} {a : Addr} (ha : μ1[n]? = some a) : RJ B μ1 H1 ⟨[(n, xs)], xs⟩ (Itl B.K a) := by
  intro i μ τ H l rh ok
  obtain ⟨a', vs, ha', s, r⟩ := rh.seq (itok1 ok)
  obtain rfl := Option.some.inj (ha'.symm.trans (l.get ha))
  refine ⟨fun w hw => ?_, fun hi => ⟨vs, s, by rw [← r.length]; exact hi⟩⟩
  obtain ⟨v, hv, rv⟩ := r.get (show xs[i]? = some w from hw)
  refine ⟨⟨vs, v, s, hv⟩, fun u H' hy => ?_⟩
  obtain ⟨rfl, hu⟩ := hy
  have e := (hu vs s).symm.trans hv
  cases e
  exact ⟨Le.refl, rh, rv⟩
theorem rj_tup {xs : List W} {vs : List V} {μ1 : List Addr} {H1 : Hp} {a : Addr} (s : SqT B.K H1 a vs) (r : RVs B.K μ1 H1 xs vs) : RJ B μ1 H1 ⟨[], xs⟩ (Itt B.K a) := by
  intro i μ τ H l rh ok
  have s' := l.tup a vs s
  have r' := r.le l
  refine ⟨fun w hw => ?_, fun hi => ⟨vs, s', by rw [← r'.length]; exact hi⟩⟩
  obtain ⟨v, hv, rv⟩ := r'.get (show xs[i]? = some w from hw)
  refine ⟨⟨vs, v, s', hv⟩, fun u H' hy => ?_⟩
  obtain ⟨rfl, hu⟩ := hy
  have e := (hu vs s').symm.trans hv
  cases e
  exact ⟨Le.refl, rh, rv⟩
theorem rj_str {z : Str} {μ1 : List Addr} {H1 : Hp} : RJ B μ1 H1 ⟨[], z.cps.toList.map fun c => .str ⟨#[c]⟩⟩ (Its z) := by
  intro i μ τ H l rh ok
  refine ⟨fun w hw => ?_, fun hi => ?_⟩
  · have hw' : (z.cps.toList.map fun c => W.str ⟨#[c]⟩)[i]? = some w := hw
    rw [List.getElem?_map] at hw'
    cases e : z.cps.toList[i]? with
    | none => rw [e] at hw'; cases hw'
    | some c =>
      rw [e] at hw'
      cases hw'
      have e' : z.cps[i]? = some c := by rw [← Array.getElem?_toList]; exact e
      refine ⟨(Array.getElem?_eq_some_iff.mp e').1, fun u H' hy => ?_⟩
      obtain ⟨rfl, d, hd, rfl⟩ := hy
      rw [e'] at hd
      cases hd
      exact ⟨Le.refl, rh, .str _⟩
  · have hi' : (z.cps.toList.map fun c => W.str ⟨#[c]⟩).length ≤ i := hi
    rw [List.length_map, Array.length_toList] at hi'
    exact hi'
theorem rj_rng {lo : Int} {n : Nat} {μ1 : List Addr} {H1 : Hp} : RJ B μ1 H1 ⟨[], (List.range n).map fun (k : Nat) => .int (lo + (k : Int))⟩ (Itr lo n) := by
  intro i μ τ H l rh ok
  refine ⟨fun w hw => ?_, fun hi => ?_⟩
  · have hw' : ((List.range n).map fun (k : Nat) => W.int (lo + (k : Int)))[i]? = some w := hw
    rw [List.getElem?_map] at hw'
    cases e : (List.range n)[i]? with
    | none => rw [e] at hw'; cases hw'
    | some c =>
      rw [e] at hw'
      cases hw'
      obtain ⟨h1, h2⟩ := List.getElem?_eq_some_iff.mp e
      rw [List.getElem_range] at h2
      subst h2
      rw [List.length_range] at h1
      refine ⟨h1, fun u H' hy => ?_⟩
      obtain ⟨rfl, rfl⟩ := hy
      exact ⟨Le.refl, rh, .int _⟩
  · have hi' : ((List.range n).map fun (k : Nat) => W.int (lo + (k : Int))).length ≤ i := hi
    rw [List.length_map, List.length_range] at hi'
    exact hi'
theorem rj_zip {n m : Nat} {xs ys : List W} {μ1 : List Addr} {H1 : Hp} {a b : Addr} (ha : μ1[n]? = some a) (hb : μ1[m]? = some b) : RJ B μ1 H1 ⟨[(n, xs), (m, ys)], (xs.zip ys).map fun p => .tup [p.1, p.2]⟩ (Itz B.K a b) := by
  intro i μ τ H l rh ok
  obtain ⟨a', vs, ha', s, r⟩ := rh.seq (itok1 ok)
  obtain rfl := Option.some.inj (ha'.symm.trans (l.get ha))
  obtain ⟨b', us, hb', s2, r2⟩ := rh.seq (ok (m, ys) (List.mem_cons_of_mem _ List.mem_cons_self))
  obtain rfl := Option.some.inj (hb'.symm.trans (l.get hb))
  refine ⟨fun w hw => ?_, fun hi => ⟨vs, us, s, s2, ?_⟩⟩
  · have hw' : ((xs.zip ys).map fun p => W.tup [p.1, p.2])[i]? = some w := hw
    rw [List.getElem?_map] at hw'
    cases e : (xs.zip ys)[i]? with
    | none => rw [e] at hw'; cases hw'
    | some p =>
      rw [e] at hw'
      cases hw'
      obtain ⟨x, y⟩ := p
      obtain ⟨e1, e2⟩ := List.getElem?_zip_eq_some.mp e
      obtain ⟨v, hv, rv⟩ := r.get e1
      obtain ⟨u, hu, ru⟩ := r2.get e2
      refine ⟨⟨vs, us, v, u, s, s2, hv, hu⟩, fun q H' hy => ?_⟩
      obtain ⟨t, x', y', rfl, ht, rfl, q1, q2⟩ := hy
      have z1 := (q1 vs s).symm.trans hv
      have z2 := (q2 us s2).symm.trans hu
      cases z1
      cases z2
      obtain ⟨rh', l'⟩ := rh.more (ho := .tup [v, u]) ht
      exact ⟨l', rh', .tup (.inl (.inl upd_same)) (.cons (rv.le l') (.cons (ru.le l') .nil))⟩
  · have hi' : ((xs.zip ys).map fun p => W.tup [p.1, p.2]).length ≤ i := hi
    rw [List.length_map, List.length_zip, r.length, r2.length] at hi'
    omega
theorem rj_enum {n : Nat} {xs : List W} {μ1 : List Addr} {H1 : Hp} {a : Addr} (ha : μ1[n]? = some a) : RJ B μ1 H1 ⟨[(n, xs)], (xs.zipIdx).map fun p => .tup [.int (p.2 : Int), p.1]⟩ (Ite B.K a) := by
  intro i μ τ H l rh ok
  obtain ⟨a', vs, ha', s, r⟩ := rh.seq (itok1 ok)
  obtain rfl := Option.some.inj (ha'.symm.trans (l.get ha))
  refine ⟨fun w hw => ?_, fun hi => ⟨vs, s, ?_⟩⟩
  · have hw' : ((xs.zipIdx).map fun p => W.tup [.int (p.2 : Int), p.1])[i]? = some w := hw
    rw [List.getElem?_map, List.getElem?_zipIdx] at hw'
    cases e : xs[i]? with
    | none => rw [e] at hw'; cases hw'
    | some x =>
      rw [e] at hw'
      cases hw'
      obtain ⟨v, hv, rv⟩ := r.get e
      refine ⟨⟨vs, v, s, hv⟩, fun q H' hy => ?_⟩
      obtain ⟨t, x', rfl, ht, rfl, q1⟩ := hy
      have z1 := (q1 vs s).symm.trans hv
      cases z1
      obtain ⟨rh', l'⟩ := rh.more (ho := .tup [.int (i : Nat), v]) ht
      refine ⟨l', rh', .tup (.inl (.inl upd_same)) (.cons ?_ (.cons (rv.le l') .nil))⟩
      rw [Nat.zero_add]
      exact .int _
  · have hi' : ((xs.zipIdx).map fun p => W.tup [.int (p.2 : Int), p.1]).length ≤ i := hi
    rw [List.length_map, List.length_zipIdx, r.length] at hi'
    exact hi'
end
end Mi
/-! Mi10: loops' sources, comprehensions, instances made; every expression. -/
namespace Mi
open PySem PySem.Spec PyProof.Rows L2
section
variable {G : Gt} {T : Tb} {C : Calls} {B : Bs} {k : Nat} {X : L2.Cx} {Z : Sx} {Wx : WX}

/-- only something to walk -/
theorem Snd.ofI {ir : E} (ce : (chk G ir Z).e = fun _ => false) (ct : ∀ x, (chk G ir Z).t x = false) (ca : (chk G ir Z).a = fun _ => false) (cp : ∀ o, (chk G ir Z).p o = false) (cs : ∀ l, (chk G ir Z).ts l = false) (cb : (chk G ir Z).bs = fun _ => false)
    (hi : ∀ tg x, (chk G ir Z).i tg x = true → PI X tg x (tI T C B Wx ir)) : Snd G T C B X Z Wx ir :=
  ⟨fun x h => by rw [ce] at h; exact ff h, fun x h => by rw [ct] at h; exact ff h, fun es h => by rw [ca] at h; exact ff h, fun es pos h => by rw [ca] at h; exact ff h,
    fun es pos h => by rw [cb] at h; exact ff h, fun o h => by rw [cp] at h; exact ff h, hi, fun l h => by rw [cs] at h; exact ff h⟩
theorem and_false' (b : Bool) : (b && false) = false := by cases b <;> rfl
theorem p_false (o : Option Expr) : (match o with
    | some x => (fun _ => false : Expr → Bool) x
    | none => false) = false := by cases o <;> rfl
theorem ts_false (l : List Expr) : (match l with
    | [x] => plainT x && false
    | _ => false) = false := by
  match l with
  | [] => rfl
  | [x] => exact and_false' _
  | _ :: _ :: _ => rfl
theorem snd_seq {a : E} (F : Fit G T C B k X Z Wx) (iha : Snd G T C B X Z Wx a) : Snd G T C B X Z Wx (.seq a) := by
  refine Snd.ofI rfl (fun x => and_false' _) rfl p_false ts_false rfl fun tg x h => ?_
  have h' : (notSet x && (chk G a Z).e x) = true := h
  rw [Bool.and_eq_true] at h'
  refine PI.dyn fun σ H Q ⟨μ, ρ, τ, rh, rs, g⟩ => ?_
  have g' : Got B (RJ B) Wx μ H (((ev T C a).e ρ τ).bind seqI) Q := g
  have hv := iha.e x h'.2
  cases e : (ev T C a).e ρ τ with
  | no => rw [e] at g'; exact g'.elim
  | exn y ρ' τ' =>
    refine ⟨_, pi_str hv, μ, ρ, τ, rh, rs, ?_⟩
    rw [e] at g' ⊢
    exact g'
  | ok w τ1 =>
    cases w with
    | str z =>
      refine ⟨_, pi_str hv, μ, ρ, τ, rh, rs, ?_⟩
      rw [e] at g' ⊢
      intro μ1 H1 v l1 rh1 rv
      have g2 : Got B (RJ B) Wx μ H (seqI (.str z) τ1) Q := g'
      have rv' : RV B.K μ1 H1 (.str z) v := rv
      cases rv' with
      | str _ => exact ⟨z, rfl, g2 μ1 H1 (Its z) l1 rh1 rj_str⟩
    | tup xs =>
      refine ⟨_, pi_tup hv, μ, ρ, τ, rh, rs, ?_⟩
      rw [e] at g' ⊢
      intro μ1 H1 v l1 rh1 rv
      have g2 : Got B (RJ B) Wx μ H (seqI (.tup xs) τ1) Q := g'
      have rv' : RV B.K μ1 H1 (.tup xs) v := rv
      cases rv' with
      | @tup a vs _ s r =>
        refine ⟨a, rfl, ⟨vs, by rw [F.K]; exact s⟩, ?_⟩
        rw [F.K]
        exact g2 μ1 H1 _ l1 rh1 (rj_tup s r)
    | ref n =>
      refine ⟨_, pi_list hv, μ, ρ, τ, rh, rs, ?_⟩
      rw [e] at g' ⊢
      intro μ1 H1 v l1 rh1 rv
      have g2 : Got B (RJ B) Wx μ H (seqI (.ref n) τ1) Q := g'
      have rv' : RV B.K μ1 H1 (.ref n) v := rv
      cases rv' with
      | @ref _ a ha =>
        cases e2 : seqOf τ1 n with
        | none =>
          have e3 : seqI (.ref n) τ1 = .no := by unfold seqI; simp only [e2]
          rw [e3] at g2
          exact g2.elim
        | some xs =>
          have e3 : seqI (.ref n) τ1 = .ok ⟨[(n, xs)], xs⟩ τ1 := by unfold seqI; simp only [e2]
          rw [e3] at g2
          obtain ⟨a', vs, ha', s, r⟩ := rh1.seq e2
          obtain rfl := Option.some.inj (ha'.symm.trans ha)
          refine ⟨a', rfl, ⟨vs, by rw [F.K]; exact s⟩, ?_⟩
          rw [F.K]
          exact g2 μ1 H1 _ l1 rh1 (rj_list ha)
    | _ => rw [e] at g'; exact False.elim g'
theorem chk_len : ∀ (ir : E) {es : List Expr} {ρ : Sl} {τ τ' : Sto} {ws : List W}, (chk G ir Z).a es = true → (ev T C ir).a ρ τ = .ok ws τ' → ws.length = es.length := by
  intro ir
  induction ir with
  | nil =>
    intro es ρ τ τ' ws h e
    cases es with
    | nil => cases e; rfl
    | cons _ _ => exact ff h
  | cons a r iha ihr =>
    intro es ρ τ τ' ws h e
    cases es with
    | nil => exact ff h
    | cons x es =>
      have h' : (noStar x && (chk G a Z).e x && (chk G r Z).a es) = true := h
      rw [Bool.and_eq_true] at h'
      obtain ⟨w, τ1, _, e⟩ := bind_ok_of e
      obtain ⟨ws2, τ2, e2, e⟩ := bind_ok_of e
      cases e
      rw [List.length_cons, List.length_cons, ihr h'.2 e2]
  | _ => intro es ρ τ τ' ws h; exact ff h
theorem snd_rng {as : E} (F : Fit G T C B k X Z Wx) (ih : Snd G T C B X Z Wx as) : Snd G T C B X Z Wx (.rng as) := by
  refine Snd.ofI rfl (fun x => and_false' _) rfl p_false ts_false rfl fun tg x h => ?_
  have h0 : (match callArgs x with
      | some (n, es) => glB Z.sc n && decide (n = "range") && G.bi n && (decide (es.length = 1) || decide (es.length = 2)) && (chk G as Z).a es
      | none => false) = true := h
  cases hx : callArgs x with
  | none => rw [hx] at h0; exact ff h0
  | some q =>
    obtain ⟨n, es⟩ := q
    rw [hx] at h0
    obtain ⟨p, pos, rfl⟩ := callArgs_of hx
    simp only [Bool.and_eq_true, Bool.or_eq_true, decide_eq_true_iff] at h0
    obtain ⟨⟨⟨⟨h1, rfl⟩, h3⟩, h4⟩, h5⟩ := h0
    have hs := chk_stars G Z as h5
    match es, h4 with
    | [e], _ =>
      obtain ⟨s1, _⟩ := stars2 hs
      refine PI.imp (pi_range1 (glB_gl F h1) (F.bi _ h3) (ih.a [e] h5) (star_cons s1)) fun σ H Q ⟨μ, ρ, τ, rh, rs, g⟩ => ?_
      have g' : Got B (RJ B) Wx μ H (((ev T C as).a ρ τ).bind rngI) Q := g
      refine ⟨μ, ρ, τ, rh, rs, (Got.bndE (rel := RVsr B) g').imp fun vs H1 ⟨ws, τ1, μ1, l1, rh1, rv, g1, eq⟩ => ?_⟩
      have hl := chk_len as h5 eq
      have rv' : RVs B.K μ1 H1 ws vs := rv
      cases rv' with
      | nil => cases hl
      | cons a r =>
        cases r with
        | cons _ _ => cases hl
        | nil =>
          cases a with
          | int j =>
            have g2 : Got B (RJ B) Wx μ1 H1 (if -(2 ^ 62) ≤ j ∧ j < 2 ^ 62 then .ok ⟨[], (List.range j.toNat).map fun (i : Nat) => .int (0 + (i : Int))⟩ τ1 else .no) Q := g1
            split at g2
            · rename_i hc
              exact ⟨j, rfl, hc.1, hc.2, g2 μ1 H1 _ Le.refl rh1 rj_rng⟩
            · exact g2.elim
          | _ => exact False.elim g1
    | [e, f], _ =>
      obtain ⟨s1, s2⟩ := stars2 hs
      obtain ⟨s3, _⟩ := stars2 s2
      refine PI.imp (pi_range2 (glB_gl F h1) (F.bi _ h3) (ih.a [e, f] h5) (by rw [star_cons s1, star_cons s3] <;> rfl) (star_cons s3)) fun σ H Q ⟨μ, ρ, τ, rh, rs, g⟩ => ?_
      have g' : Got B (RJ B) Wx μ H (((ev T C as).a ρ τ).bind rngI) Q := g
      refine ⟨μ, ρ, τ, rh, rs, (Got.bndE (rel := RVsr B) g').imp fun vs H1 ⟨ws, τ1, μ1, l1, rh1, rv, g1, eq⟩ => ?_⟩
      have hl := chk_len as h5 eq
      have rv' : RVs B.K μ1 H1 ws vs := rv
      cases rv' with
      | nil => cases hl
      | cons a r =>
        cases r with
        | nil => cases hl
        | cons b r =>
          cases r with
          | cons _ _ => cases hl
          | nil =>
            cases a with
            | int i =>
              cases b with
              | int j =>
                have g2 : Got B (RJ B) Wx μ1 H1 (if -(2 ^ 62) ≤ i ∧ i < 2 ^ 62 ∧ -(2 ^ 62) ≤ j ∧ j < 2 ^ 62 then .ok ⟨[], (List.range (j - i).toNat).map fun (k : Nat) => .int (i + (k : Int))⟩ τ1 else .no) Q := g1
                split at g2
                · rename_i hc
                  exact ⟨i, j, rfl, hc, g2 μ1 H1 _ Le.refl rh1 rj_rng⟩
                · exact g2.elim
              | _ => exact False.elim g1
            | _ => cases b <;> exact False.elim g1
theorem tup_of {tg : Expr} (h : isTupT tg = true) : ∃ es j pos, tg = .Tuple es j pos := by
  cases tg with
  | Tuple es j pos => exact ⟨es, j, pos, rfl⟩
  | _ => exact ff h
theorem snd_zip {as : E} (F : Fit G T C B k X Z Wx) (ih : Snd G T C B X Z Wx as) : Snd G T C B X Z Wx (.zip as) := by
  refine Snd.ofI rfl (fun x => and_false' _) rfl p_false ts_false rfl fun tg x h => ?_
  have h0 : (match callArgs x with
      | some (n, es) => isTupT tg && glB Z.sc n && decide (n = "zip") && G.bi n && decide (es.length = 2) && (chk G as Z).a es
      | none => false) = true := h
  cases hx : callArgs x with
  | none => rw [hx] at h0; exact ff h0
  | some q =>
    obtain ⟨n, es⟩ := q
    rw [hx] at h0
    obtain ⟨p, pos, rfl⟩ := callArgs_of hx
    simp only [Bool.and_eq_true, decide_eq_true_iff] at h0
    obtain ⟨⟨⟨⟨⟨ht, h1⟩, rfl⟩, h3⟩, h4⟩, h5⟩ := h0
    obtain ⟨elts, kk, tpos, rfl⟩ := tup_of ht
    have hs := chk_stars G Z as h5
    match es, h4 with
    | [e, f], _ =>
      obtain ⟨s1, s2⟩ := stars2 hs
      refine PI.imp (pi_zip (glB_gl F h1) (F.bi _ h3) (ih.a [e, f] h5) (star_cons s1) (star_plain s2)) fun σ H Q ⟨μ, ρ, τ, rh, rs, g⟩ => ?_
      have g' : Got B (RJ B) Wx μ H (((ev T C as).a ρ τ).bind zipI) Q := g
      refine ⟨μ, ρ, τ, rh, rs, (Got.bndE (rel := RVsr B) g').imp fun vs H1 ⟨ws, τ1, μ1, l1, rh1, rv, g1, eq⟩ => ?_⟩
      have hl := chk_len as h5 eq
      have rv' : RVs B.K μ1 H1 ws vs := rv
      cases rv' with
      | nil => cases hl
      | cons a r =>
        cases r with
        | nil => cases hl
        | cons b r =>
          cases r with
          | cons _ _ => cases hl
          | nil =>
            cases a with
            | @ref n1 a1 ha1 =>
              cases b with
              | @ref n2 a2 ha2 =>
                cases e1 : seqOf τ1 n1 with
                | none =>
                  have e3 : zipI [.ref n1, .ref n2] τ1 = .no := by unfold zipI; simp only [e1]
                  rw [e3] at g1; exact g1.elim
                | some xs =>
                  cases e2 : seqOf τ1 n2 with
                  | none =>
                    have e3 : zipI [.ref n1, .ref n2] τ1 = .no := by unfold zipI; simp only [e1, e2]
                    rw [e3] at g1; exact g1.elim
                  | some ys =>
                    have e3 : zipI [.ref n1, .ref n2] τ1 = .ok ⟨[(n1, xs), (n2, ys)], (xs.zip ys).map fun p => .tup [p.1, p.2]⟩ τ1 := by unfold zipI; simp only [e1, e2]
                    rw [e3] at g1
                    obtain ⟨b1, vs1, hb1, q1, r1⟩ := rh1.seq e1
                    obtain rfl := Option.some.inj (hb1.symm.trans ha1)
                    obtain ⟨b2, vs2, hb2, q2, r2⟩ := rh1.seq e2
                    obtain rfl := Option.some.inj (hb2.symm.trans ha2)
                    refine ⟨b1, b2, vs1, vs2, rfl, by rw [F.K]; exact q1, by rw [F.K]; exact q2, ?_⟩
                    rw [F.K]
                    exact g1 μ1 H1 _ Le.refl rh1 (rj_zip hb1 hb2)
              | _ => exact False.elim g1
            | _ => cases b <;> exact False.elim g1
theorem snd_enum {a : E} (F : Fit G T C B k X Z Wx) (iha : Snd G T C B X Z Wx a) : Snd G T C B X Z Wx (.enum a) := by
  refine Snd.ofI rfl (fun x => and_false' _) rfl p_false ts_false rfl fun tg x h => ?_
  have h0 : (match callArgs x with
      | some (n, es) => isTupT tg && glB Z.sc n && decide (n = "enumerate") && G.bi n && (match es with
        | [u] => noStar u && (chk G a Z).e u
        | _ => false)
      | none => false) = true := h
  cases hx : callArgs x with
  | none => rw [hx] at h0; exact ff h0
  | some q =>
    obtain ⟨n, es⟩ := q
    rw [hx] at h0
    obtain ⟨p, pos, rfl⟩ := callArgs_of hx
    simp only [Bool.and_eq_true, decide_eq_true_iff] at h0
    obtain ⟨⟨⟨⟨ht, h1⟩, rfl⟩, h3⟩, h4⟩ := h0
    obtain ⟨elts, kk, tpos, rfl⟩ := tup_of ht
    match es, h4 with
    | [u], h4 =>
      have h4' : (noStar u && (chk G a Z).e u) = true := h4
      rw [Bool.and_eq_true] at h4'
      refine PI.imp (pi_enum (glB_gl F h1) (F.bi _ h3) (pa_cons (iha.e u h4'.2) pa_nil (star_cons h4'.1)) (star_cons h4'.1)) fun σ H Q ⟨μ, ρ, τ, rh, rs, g⟩ => ?_
      have g' : Got B (RJ B) Wx μ H (((ev T C a).e ρ τ).bind enumI) Q := g
      refine ⟨μ, ρ, τ, rh, rs, (Got.bnd (rel := RVr B) g').imp fun v H1 ⟨w, τ1, μ1, l1, rh1, rv, g1⟩ => ?_⟩
      have rv' : RV B.K μ1 H1 w v := rv
      cases rv' with
      | @ref n1 a1 ha1 =>
        cases e1 : seqOf τ1 n1 with
        | none =>
          have e3 : enumI (.ref n1) τ1 = .no := by unfold enumI; simp only [e1]
          rw [e3] at g1; exact g1.elim
        | some xs =>
          have e3 : enumI (.ref n1) τ1 = .ok ⟨[(n1, xs)], (xs.zipIdx).map fun p => .tup [.int (p.2 : Int), p.1]⟩ τ1 := by unfold enumI; simp only [e1]
          rw [e3] at g1
          obtain ⟨b1, vs1, hb1, q1, r1⟩ := rh1.seq e1
          obtain rfl := Option.some.inj (hb1.symm.trans ha1)
          refine ⟨b1, vs1, rfl, by rw [F.K]; exact q1, ?_⟩
          rw [F.K]
          exact g1 μ1 H1 _ Le.refl rh1 (rj_enum hb1)
      | _ => exact False.elim g1

/-! ### comprehensions -/
/-- what a comprehension's text is to have -/
theorem lc_parts {g : Mi.G} {it ts elt : E} {vs : List Nat} (F : Fit G T C B k X Z Wx) (ihi : Snd G T C B X Z Wx it)
    (iht : ∀ X' Z' Wx', Fit G T C B k X' Z' Wx' → Snd G T C B X' Z' Wx' ts) (ihe : ∀ X' Z' Wx', Fit G T C B k X' Z' Wx' → Snd G T C B X' Z' Wx' elt) {x : Expr} (h : (chk G (.lc g it ts elt vs) Z).e x = true) :
    ∃ el tg iter ifs scope pos, x = .ListComp el [⟨tg, iter, ifs, 0⟩] scope pos ∧ PI X tg iter (tI T C B Wx it) ∧ BlkOk X.N X.env.scope scope (ownOf Z.N vs) ∧ (ownOf Z.N vs).map (·.2) = vs ∧ gIn g vs = true ∧
      (∀ (s : Shared) (H : Hp) (Ca : Addr) (cl : List (Str × Addr)) (fp : List Addr), PG (X.blk s H scope (compEnvC scope cl Ca X.env) fp) tg (tgG X.K g)) ∧
      (∀ (s : Shared) (H : Hp) (Ca : Addr) (cl : List (Str × Addr)) (fp : List Addr), PTs (X.blk s H scope (compEnvC scope cl Ca X.env) fp) ifs (tT T C B (fun _ _ _ _ => False) ts)) ∧
      (∀ (s : Shared) (H : Hp) (Ca : Addr) (cl : List (Str × Addr)) (fp : List Addr), PE (X.blk s H scope (compEnvC scope cl Ca X.env) fp) el (tE T C B (fun _ _ _ _ => False) elt)) ∧
      ∀ v, foldedSetIterable iter X.env v = pure v := by
  have h0 : (match lcArgs x with
      | some (el, tg, iter, ifs, scope) => notSet iter && (chk G it Z).i tg iter && blkC Z.N Z.sc scope (ownOf Z.N vs) && decide ((ownOf Z.N vs).map (·.2) = vs) && gIn g vs &&
          chkG ⟨Z.N, relS scope Z.sc, scope.names⟩ g tg && (chk G ts ⟨Z.N, relS scope Z.sc, scope.names⟩).ts ifs && (chk G elt ⟨Z.N, relS scope Z.sc, scope.names⟩).e el
      | none => false) = true := h
  cases hx : lcArgs x with
  | none => rw [hx] at h0; exact ff h0
  | some q =>
    obtain ⟨el, tg, iter, ifs, scope⟩ := q
    rw [hx] at h0
    obtain ⟨pos, rfl⟩ := lcArgs_of hx
    simp only [Bool.and_eq_true, decide_eq_true_iff] at h0
    obtain ⟨⟨⟨⟨⟨⟨⟨h1, h2⟩, h3⟩, h4⟩, h5⟩, h6⟩, h7⟩, h8⟩ := h0
    refine ⟨el, tg, iter, ifs, scope, pos, rfl, ihi.i tg iter h2, ?_, h4, h5, fun s H Ca cl fp => ?_, fun s H Ca cl fp => ?_, fun s H Ca cl fp => ?_, fold_set h1⟩
    · rw [F.N, F.sc]
      exact blkOk_by h3
    · exact pg_any (fit_blk F s H scope Ca cl fp) h6
    · exact (iht _ _ _ (fit_blk F s H scope Ca cl fp)).ts ifs h7
    · exact (ihe _ _ _ (fit_blk F s H scope Ca cl fp)).e el h8
theorem lc_run {g : Mi.G} {it ts elt : E} {vs : List Nat} (hK : X.K = B.K) (hg : gIn g vs = true) {σ : L2.St} {H : Hp} {Q : VK} (h : tE T C B Wx (.lc g it ts elt vs) σ H Q) :
    tLc (tI T C B Wx it) (tgG X.K g) (tT T C B (fun _ _ _ _ => False) ts) (tE T C B (fun _ _ _ _ => False) elt) vs σ H Q := by
  obtain ⟨μ, ρ, τ, rh, rs, gg⟩ := h
  have g' : Got B (RVr B) Wx μ H (((ev T C it).i ρ τ).bind fun J τ1 => lcL g J.gs (wipeS ρ vs) (ev T C ts).t (ev T C elt).e τ1.length J.xs (τ1 ++ [.lst []])) Q := gg
  refine ⟨μ, ρ, τ, rh, rs, (Got.bnd (rel := RJ B) g').imp fun J' H1 ⟨J, τ1, μ1, l1, rh1, rj, g1⟩ => ?_⟩
  intro D hD
  have rj' : RJ B μ1 H1 J J' := rj
  obtain ⟨rh2, l2⟩ := rh1.push (o := .lst []) (ho := .lst []) hD ⟨[], upd_same, .nil⟩
  refine ⟨fun i m H2 => i ≤ J.xs.length ∧ m = J.xs.length - i ∧ ∃ μ2 τ2, Le B.K μ1 H1 μ2 H2 ∧ RH B.K B.Cl μ2 τ2 H2 ∧ μ2[τ1.length]? = some D ∧
    Got B (RVr B) Wx μ2 H2 (lcL g J.gs (wipeS ρ vs) (ev T C ts).t (ev T C elt).e τ1.length (J.xs.drop i) τ2) Q, ⟨J.xs.length, Nat.zero_le _, rfl, _, _, l2, rh2, by rw [← rh1.len]; simp, ?_⟩, ?_⟩
  · rw [List.drop_zero]
    exact Got.le l2 g1
  · rintro i m H2 ⟨hi, rfl, μ2, τ2, l3, rh3, hDm, g3⟩
    have rjj := rj' i μ2 τ2 H2 l3 rh3
    by_cases hlt : i < J.xs.length
    · have ed : J.xs.drop i = J.xs[i] :: J.xs.drop (i + 1) := List.drop_eq_getElem_cons hlt
      rw [ed] at g3
      unfold lcL at g3
      by_cases ok : It.ok J.gs τ2
      · rw [if_pos ok] at g3
        obtain ⟨go, yl⟩ := (rjj ok).1 J.xs[i] (List.getElem?_eq_getElem hlt)
        refine .inr ⟨go, fun H' => i + 1 ≤ J.xs.length ∧ ∃ μ2 τ2, Le B.K μ1 H1 μ2 H' ∧ RH B.K B.Cl μ2 τ2 H' ∧ μ2[τ1.length]? = some D ∧
          Got B (RVr B) Wx μ2 H' (lcL g J.gs (wipeS ρ vs) (ev T C ts).t (ev T C elt).e τ1.length (J.xs.drop (i + 1)) τ2) Q, ?_, fun v H' hy => ?_⟩
        · rintro H' ⟨hi', μ4, τ4, r1, r2, r3, r4⟩
          exact ⟨J.xs.length - (i + 1), by omega, hi', rfl, μ4, τ4, r1, r2, r3, r4⟩
        · obtain ⟨l4, rh4, rv⟩ := yl v H' hy
          cases ep : putG g J.xs[i] (wipeS ρ vs) with
          | none => rw [ep] at g3; exact g3.elim
          | some ρ1 =>
            rw [ep] at g3
            have rsw : RS B.K μ2 H' (wipeS ρ vs) (wipe σ vs) := (((rs.le l1).le l3).le l4).wipe vs
            refine tg_imp hK ep rv rsw fun σ' rs' hw => ⟨by rw [hw vs hg, wipe_wipe], μ2, ρ1, τ2, rh4, rs', ?_⟩
            have g4 := Got.le l4 g3
            -- the test
            cases et : (ev T C ts).t ρ1 τ2 with
            | no => simp only [et] at g4; exact g4.elim
            | exn y ρ' τ' => simp only [et] at g4; exact g4.elim
            | ok b τ3 =>
              intro μ5 H5 b' l5 rh5 eb
              obtain rfl : b = b' := eb
              simp only [et] at g4
              have g5 := Got.le l5 g4
              have l15 : Le B.K μ1 H1 μ5 H5 := (l3.trans l4).trans l5
              cases b with
              | false => exact iteF ⟨hlt, μ5, τ3, l15, rh5, l5.get hDm, g5⟩
              | true =>
                refine iteT ⟨μ5, ρ1, τ3, rh5, rs'.le l5, ?_⟩
                dsimp only at g5
                cases ee : (ev T C elt).e ρ1 τ3 with
                | no => simp only [ee] at g5; exact g5.elim
                | exn y ρ' τ' => simp only [ee] at g5; exact g5.elim
                | ok y τ4 =>
                  intro μ6 H6 v6 l6 rh6 rv6
                  simp only [ee] at g5
                  have rv6' : RV B.K μ6 H6 y v6 := rv6
                  have hD6 := l6.get (l5.get hDm)
                  cases e4 : τ4[τ1.length]? with
                  | none => simp only [e4] at g5; exact g5.elim
                  | some o =>
                    simp only [e4] at g5
                    obtain ⟨a', ha', ho⟩ := rh6.at_ e4
                    obtain rfl := Option.some.inj (ha'.symm.trans hD6)
                    cases o with
                    | lst acc =>
                      obtain ⟨us, h0, ru⟩ := ho
                      dsimp only at g5
                      split at g5
                      · rename_i hc
                        refine ⟨us, h0, by rw [← ru.length]; exact hc, hlt, ?_⟩
                        have l7 : Le B.K μ6 H6 μ6 (upd H6 a' (.lst (us ++ [v6]))) := ⟨⟨[], by simp⟩, tup_upd (noTup_lst h0)⟩
                        obtain ⟨rh7, l7'⟩ := rh6.put (o := .lst (acc ++ [y])) (ho := .lst (us ++ [v6])) hD6 e4 (fun xs z => by cases z) (noTup_lst h0) ⟨_, upd_same, (ru.append (.cons rv6' .nil)).le l7⟩
                        exact ⟨μ6, _, (l15.trans l6).trans l7, rh7, hD6, Got.le (l6.trans l7) g5⟩
                      · exact g5.elim
                    | _ => exact g5.elim
      · rw [if_neg ok] at g3
        exact g3.elim
    · have hi' : i = J.xs.length := by omega
      rw [List.drop_eq_nil_of_le (by omega)] at g3
      unfold lcL at g3
      by_cases ok : It.ok J.gs τ2
      · rw [if_pos ok] at g3
        exact .inl ⟨(rjj ok).2 (by omega), got_val g3 rh3 (.ref hDm)⟩
      · rw [if_neg ok] at g3
        exact g3.elim
theorem snd_lc {g : Mi.G} {it ts elt : E} {vs : List Nat} (F : Fit G T C B k X Z Wx) (ihi : Snd G T C B X Z Wx it)
    (iht : ∀ X' Z' Wx', Fit G T C B k X' Z' Wx' → Snd G T C B X' Z' Wx' ts) (ihe : ∀ X' Z' Wx', Fit G T C B k X' Z' Wx' → Snd G T C B X' Z' Wx' elt) : Snd G T C B X Z Wx (.lc g it ts elt vs) := by
  refine Snd.ofE F.K (fun x h => ?_) rfl rfl rfl rfl rfl (fun _ _ => rfl) (fun _ _ => rfl) rfl
  obtain ⟨el, tg, iter, ifs, scope, pos, rfl, p1, p2, p3, p4, p5, p6, p7, p8⟩ := lc_parts F ihi iht ihe h
  refine PE.imp (pe_lc F.calm F.nd p1 p2 p5 (fun s H Ca cl fp => p6 s H Ca cl fp) (fun s H Ca cl fp => p7 s H Ca cl fp) p8) fun σ H Q q => ?_
  rw [p3]
  exact lc_run F.K p4 q
end
end Mi
/-! Mi11: an instance made; every expression. -/
namespace Mi
open PySem PySem.Spec PyProof.Rows L2
section
variable {G : Gt} {T : Tb} {C : Calls} {B : Bs} {k : Nat} {X : L2.Cx} {Z : Sx} {Wx : WX}

/-- a class is called: the instance and its dict are laid, its __init__ runs -/
theorem made_run {pins : List (Addr × Obj)} {σ : L2.St} {H : Hp} {s : Shared} {Q : VK} {us : List Value} {vs : List V} {cA fA : Addr} {fd : FuncData} {ps : List Str} {sp : Sp} (mk : Mk X.K cA fA) (FO : FnOk X.prog X.w X.K X.mg X.base (L2.CX X.prog X.w) k fA fd ps sp)
    (hr : Room (k + 1) X.A) (hb : Binds X.K fd ps []) (tk : Takes X Wx) (I : Inv X pins σ H s) (r : Vals vs us)
    (h : ∀ x dx, H x = none → H dx = none → dx ≠ x → sp (.ref x :: vs) (upd (upd H dx (.own x)) x (.ins cA dx [])) (fun v H2 => v = .non ∧ Q (.ref x) H2) (WE Wx σ)) :
    wpAny (model X.prog X.w) X.A (call (.ref cA) us) (EP X pins σ Q) X.xe s := by
  have promise := h (s.heap.objs.size + 1) s.heap.objs.size (I.hok.fresh (Nat.le_succ _)) (I.hok.fresh (Nat.le_refl _)) (Nat.ne_of_lt (Nat.lt_succ_self _))
  have I1 := Inv.made (C := cA) I
  have self : Vals (V.ref (s.heap.objs.size + 1) :: vs) (Value.ref (s.heap.objs.size + 1) :: us) := .cons rfl r
  have many : (Value.ref (s.heap.objs.size + 1) :: us).length = ps.length := by rw [← self.length]; exact FO.len _ _ _ _ promise
  have bound := hb _ (Value.ref (s.heap.objs.size + 1) :: us) I1.kIn (by rw [List.append_nil]; exact many)
  rw [List.append_nil] at bound
  have body := FO.run _ X.stack _ _ _ _ _ _ (WE Wx σ) (hr.make cA us []) (I1.env0.make cA us []) bound self promise
  refine wpAny_call (make_map (f := fA) I.kIn mk.makes mk.init (beq_iff_eq.mp mk.fn) (codeAny_mono body fun fl s1 e => ?_))
  match fl, e with
  | .error er, e => exact passAt tk σ pins _ _ er s1 I1 e
  | .ok (.ret u), e =>
    obtain ⟨v, H1, I2, rv, ev, q⟩ := I1.after e
    subst ev
    exact ⟨rv, .ref (s.heap.objs.size + 1), H1, I2, rfl, q⟩
  | .ok .next, e => exact e.elim
  | .ok .brk, e => exact e.elim
  | .ok .cont, e => exact e.elim
theorem snd_make {c : Nat} {as : E} (F : Fit G T C B k X Z Wx) (ih : Snd G T C B X Z Wx as) : Snd G T C B X Z Wx (.make c as) := by
  refine Snd.ofE F.K (fun x h => ?_) rfl rfl rfl rfl rfl (fun _ _ => rfl) (fun _ _ => rfl) rfl
  have h0 : (match callArgs x with
      | some (n, es) => glB Z.sc n && plainName n && decide (G.cl n = some c) && (chk G as Z).a es
      | none => false) = true := h
  cases hx : callArgs x with
  | none => rw [hx] at h0; exact ff h0
  | some q =>
    obtain ⟨n, es⟩ := q
    rw [hx] at h0
    obtain ⟨p, pos, rfl⟩ := callArgs_of hx
    simp only [Bool.and_eq_true, decide_eq_true_iff] at h0
    obtain ⟨⟨⟨h1, h2⟩, h3⟩, h5⟩ := h0
    obtain ⟨hm, hkp⟩ := F.cl n c h3
    refine ⟨fun pins s σ H Q I ⟨μ, ρ, τ, rh, rs, g⟩ => ?_⟩
    have g' : Got B (RVr B) Wx μ H (((ev T C as).a ρ τ).bind fun ws τ1 => match T.meth c "__init__" with
      | some f => (tail ρ (C f (.ref τ1.length :: ws) (τ1 ++ [.ins c []]))).bind fun w τ2 => match w with
        | .non => .ok (.ref τ1.length) τ2
        | _ => .no
      | none => .no) Q := g
    cases e2 : T.meth c "__init__" with
    | none =>
      rw [e2] at g'
      -- nothing is promised: the arguments never end well
      have hno : Got B (RVr B) Wx μ H (((ev T C as).a ρ τ).bind fun ws τ1 => (.no : R W)) Q := g'
      refine wpAny_Call_Name_kw (ld_glob I (glB_gl F h1) hm ?_ (plainName_of h2).1)
      exact args_run (first := []) (R := fun _ _ => False) F ih h5 hkp I ⟨μ, ρ, τ, rh, rs, (Got.bnd (rel := RVsr B) hno).imp fun _ _ ⟨_, _, _, _, _, _, g3⟩ => g3.elim⟩ fun _ _ _ _ _ _ e => e.elim
    | some f =>
      rw [e2] at g'
      obtain ⟨a2, cls, meth, mks, kpc, cal⟩ := F.meth c "__init__" f e2
      obtain ⟨fd, pl, hb, FO, ar⟩ := cal.ex
      refine wpAny_Call_Name_kw (ld_glob I (glB_gl F h1) hm ?_ (plainName_of h2).1)
      refine args_run (first := []) F ih h5 kpc I ⟨μ, ρ, τ, rh, rs, Got.bnd (rel := RVsr B) g'⟩ fun us vs s2 H2 I2 r hw => ?_
      obtain ⟨ws, τ2, μ2, l2, rh2, rvs, g3⟩ := hw
      dsimp only at g3
      have rvs' : RVs B.K μ2 H2 ws vs := rvs
      refine made_run ⟨mks, meth.at_, meth.fn, kpc⟩ FO F.room hb F.tk I2 r fun x dx hx hdx hne => ?_
      -- the new instance in the store
      have hx' : upd H2 dx (.own x) x = none := by rw [upd_ne hne.symm]; exact hx
      obtain ⟨rh3, l3⟩ := rh2.more (ho := .own x) hdx
      obtain ⟨rh4, l4⟩ := rh3.push (o := .ins c []) (ho := .ins (B.Cl c) dx []) hx' ⟨dx, [], upd_same, .nil⟩
      have l34 := l3.trans l4
      have g4 := Got.le l34 g3
      have hself : (μ2 ++ [x])[τ2.length]? = some x := by rw [← rh2.len]; simp
      refine ⟨?_, _, _, .ref τ2.length :: ws, rh4, .cons (.ref hself) (rvs'.le l34), ?_⟩
      · rcases ar (.ref τ2.length :: ws) (τ2 ++ [.ins c []]) with e3 | e3
        · rw [e3] at g3; exact g3.elim
        · rw [← e3, List.length_cons, List.length_cons, rvs'.length]
      · refine tail_got (Wx := Wx) (σ := σ) ((rs.le l2).le l34) ((Got.bnd (rel := RVr B) g4).imp fun v H5 ⟨w, τ5, μ5, l5, rh5, rv5, g5⟩ => ?_)
        have rv5' : RV B.K μ5 H5 w v := rv5
        cases rv5' with
        | non => exact ⟨rfl, got_val g5 rh5 (.ref (l5.get hself))⟩
        | _ => exact g5.elim

/-- EVERY EXPRESSION -/
theorem snd_both : ∀ (ir : E) (X : L2.Cx) (Z : Sx) (Wx : WX), Fit G T C B k X Z Wx → Snd G T C B X Z Wx ir ∧ Els (Snd G T C B X Z Wx) ir := by
  intro ir
  induction ir with
  | var i => exact fun X Z Wx F => ⟨snd_var F, trivial⟩
  | con w => exact fun X Z Wx F => ⟨snd_con F, trivial⟩
  | nil => exact fun X Z Wx F => ⟨snd_nil F, trivial⟩
  | cons a r iha ihr => exact fun X Z Wx F => ⟨snd_cons F (iha X Z Wx F).1 (ihr X Z Wx F).1, (iha X Z Wx F).1, (ihr X Z Wx F).2⟩
  | op o a b iha ihb => exact fun X Z Wx F => ⟨snd_op F (iha X Z Wx F).1 (ihb X Z Wx F).1, trivial⟩
  | neg a iha => exact fun X Z Wx F => ⟨snd_neg F (iha X Z Wx F).1, trivial⟩
  | cmp o a b iha ihb => exact fun X Z Wx F => ⟨snd_cmp F (iha X Z Wx F).1 (ihb X Z Wx F).1, trivial⟩
  | chain o o2 a b c iha ihb ihc => exact fun X Z Wx F => ⟨snd_chain F (iha X Z Wx F).1 (ihb X Z Wx F).1 (ihc X Z Wx F).1, trivial⟩
  | conj as ih => exact fun X Z Wx F => ⟨snd_conj F (ih X Z Wx F).1, trivial⟩
  | disj as ih => exact fun X Z Wx F => ⟨snd_disj F (ih X Z Wx F).1, trivial⟩
  | not a iha => exact fun X Z Wx F => ⟨snd_not F (iha X Z Wx F).1, trivial⟩
  | ite t a b iht iha ihb => exact fun X Z Wx F => ⟨snd_ite F (iht X Z Wx F).1 (iha X Z Wx F).1 (ihb X Z Wx F).1, trivial⟩
  | tup as ih => exact fun X Z Wx F => ⟨snd_tup F (ih X Z Wx F).1, trivial⟩
  | lst as ih => exact fun X Z Wx F => ⟨snd_lst F (ih X Z Wx F).1, trivial⟩
  | dic ks vs ih1 ih2 => exact fun X Z Wx F => ⟨snd_dic F (ih2 X Z Wx F).2, trivial⟩
  | ix a b iha ihb => exact fun X Z Wx F => ⟨snd_ix F (iha X Z Wx F).1 (ihb X Z Wx F).1, trivial⟩
  | slice a lo hi iha ihl ihh => exact fun X Z Wx F => ⟨snd_slice F (iha X Z Wx F).1 (ihl X Z Wx F).1 (ihh X Z Wx F).1, trivial⟩
  | fld a f iha => exact fun X Z Wx F => ⟨snd_fld F (iha X Z Wx F).1, trivial⟩
  | call f as ih => exact fun X Z Wx F => ⟨snd_call F (ih X Z Wx F).1, trivial⟩
  | meth m o as iho ih => exact fun X Z Wx F => ⟨snd_meth F (iho X Z Wx F).1 (ih X Z Wx F).1, trivial⟩
  | make c as ih => exact fun X Z Wx F => ⟨snd_make F (ih X Z Wx F).1, trivial⟩
  | bi b as ih => exact fun X Z Wx F => ⟨snd_bi F (ih X Z Wx F).1, trivial⟩
  | isi a t iha => exact fun X Z Wx F => ⟨snd_isi F (iha X Z Wx F).1, trivial⟩
  | bm m o as iho ih => exact fun X Z Wx F => ⟨snd_bm F (iho X Z Wx F).1 (ih X Z Wx F).1, trivial⟩
  | lc g it ts elt vs ihi iht ihe => exact fun X Z Wx F => ⟨snd_lc F (ihi X Z Wx F).1 (fun X Z Wx F => (iht X Z Wx F).1) (fun X Z Wx F => (ihe X Z Wx F).1), trivial⟩
  | seq a iha => exact fun X Z Wx F => ⟨snd_seq F (iha X Z Wx F).1, trivial⟩
  | rng as ih => exact fun X Z Wx F => ⟨snd_rng F (ih X Z Wx F).1, trivial⟩
  | zip as ih => exact fun X Z Wx F => ⟨snd_zip F (ih X Z Wx F).1, trivial⟩
  | enum a iha => exact fun X Z Wx F => ⟨snd_enum F (iha X Z Wx F).1, trivial⟩
  | rev a iha => exact fun X Z Wx F => ⟨Snd.ofI rfl (fun x => and_false' _) rfl p_false ts_false rfl fun tg x h => ff h, trivial⟩
theorem snd_all (ir : E) (X : L2.Cx) (Z : Sx) (Wx : WX) (F : Fit G T C B k X Z Wx) : Snd G T C B X Z Wx ir := (snd_both ir X Z Wx F).1
end
end Mi
/-! Mi12: the look at statements; a statement that passes it runs as the small language says. -/
namespace Mi
open PySem PySem.Spec PyProof.Rows L2

def notComp : Expr → Bool
  | .ListComp _ _ _ _ => false | .SetComp _ _ _ _ => false | .DictComp _ _ _ _ _ => false | _ => true
def notTup : Expr → Bool
  | .Tuple _ _ _ => false | _ => true
theorem swap_no {e : Expr} {t : Option Expr} {l : Nat} {env : Env} (h : notComp e = true) : swapsWith e t l env = pure false := by
  cases e <;> first | rfl | exact ff h
theorem stores_no {e tg : Expr} {env : Env} (h : notTup e = true) : swappedStores [tg] e env = pure none := by
  cases e with
  | Tuple _ _ _ => exact ff h
  | _ => cases tg <;> rfl
def lineOf : Expr → Nat
  | .Name _ p => p.line | _ => 0
/-- does a comprehension's value go to its name at once? -/
def swB (Z : Sx) (x : Str) (p : Pos) : Expr → Bool
  | .ListComp _ _ scope pos => decide (Z.sc.names.lookup x = some .local) && (p.line == pos.line) && !(scope.names.any fun (n, k) => n == x && (k == .local || k == .cell))
  | _ => false

def asgName : Stmt → Option (Str × Pos × Expr × Pos)
  | .Assign [.Name n p] v q => some (n, p, v, q)
  | _ => none
theorem asgName_of {x : Stmt} {n : Str} {p q : Pos} {v : Expr} (h : asgName x = some (n, p, v, q)) : x = .Assign [.Name n p] v q := by
  unfold asgName at h
  split at h
  · cases h; rfl
  · cases h
def asgTg : Stmt → Option (Expr × Expr × Pos)
  | .Assign [t] v q => some (t, v, q)
  | _ => none
theorem asgTg_of {x : Stmt} {t v : Expr} {q : Pos} (h : asgTg x = some (t, v, q)) : x = .Assign [t] v q := by
  unfold asgTg at h
  split at h
  · cases h; rfl
  · cases h
def asgAttr : Stmt → Option (Expr × Str × Pos × Expr × Pos)
  | .Assign [.Attribute u n p] v q => some (u, n, p, v, q)
  | _ => none
theorem asgAttr_of {x : Stmt} {n : Str} {p q : Pos} {u v : Expr} (h : asgAttr x = some (u, n, p, v, q)) : x = .Assign [.Attribute u n p] v q := by
  unfold asgAttr at h
  split at h
  · cases h; rfl
  · cases h
def asgSub : Stmt → Option (Expr × Expr × Pos × Expr × Pos)
  | .Assign [.Subscript u n p] v q => some (u, n, p, v, q)
  | _ => none
theorem asgSub_of {x : Stmt} {p q : Pos} {u n v : Expr} (h : asgSub x = some (u, n, p, v, q)) : x = .Assign [.Subscript u n p] v q := by
  unfold asgSub at h
  split at h
  · cases h; rfl
  · cases h
def augName : Stmt → Option (Str × Pos × Operator × Expr × Pos)
  | .AugAssign (.Name n p) o v q => some (n, p, o, v, q)
  | _ => none
theorem augName_of {x : Stmt} {n : Str} {o : Operator} {p q : Pos} {v : Expr} (h : augName x = some (n, p, o, v, q)) : x = .AugAssign (.Name n p) o v q := by
  unfold augName at h
  split at h
  · cases h; rfl
  · cases h
def augAttr : Stmt → Option (Expr × Str × Pos × Operator × Expr × Pos)
  | .AugAssign (.Attribute u n p) o v q => some (u, n, p, o, v, q)
  | _ => none
theorem augAttr_of {x : Stmt} {n : Str} {o : Operator} {p q : Pos} {u v : Expr} (h : augAttr x = some (u, n, p, o, v, q)) : x = .AugAssign (.Attribute u n p) o v q := by
  unfold augAttr at h
  split at h
  · cases h; rfl
  · cases h
def raiseText : Stmt → Option Str
  | .Raise (some (.Call (.Name n _) [.Constant (.str _) _ _] [] _)) none _ => some n
  | _ => none
theorem raiseText_of {x : Stmt} {n : Str} (h : raiseText x = some n) : ∃ p m j p2 p3 p4, x = .Raise (some (.Call (.Name n p) [.Constant (.str m) j p2] [] p3)) none p4 := by
  unfold raiseText at h
  split at h
  · cases h; exact ⟨_, _, _, _, _, _, rfl⟩
  · cases h

structure CkS where
  s : Stmt → Bool := fun _ => false
  b : List Stmt → Bool := fun _ => false

def chkS (G : Gt) (Z : Sx) : S → CkS
  | .nil => { b := fun l => l.isEmpty }
  | .cons s r => { b := fun l => match l with
      | st :: more => (chkS G Z s).s st && (chkS G Z r).b more
      | [] => false }
  | .ex e => { s := fun x => match x with
      | .Expr v _ => notComp v && (chk G e Z).e v
      | _ => false }
  | .set i e => { s := fun x => match asgName x with
      | some (n, p, v, _) => decide (Z.N[i]? = some n) && ownB Z n && (chk G e Z).e v && (notComp v || swB Z n p v)
      | none => false }
  | .setT is e => { s := fun x => match asgTg x with
      | some (tg, v, _) => isTupT tg && notComp v && notTup v && chkG Z (.tup is) tg && (chk G e Z).e v
      | none => false }
  | .setP i j as => { }
  | .setF o f e => { s := fun x => match asgAttr x with
      | some (u, n, _, v, _) => decide (n = f) && notComp v && (chk G o Z).e u && (chk G e Z).e v
      | none => false }
  | .setI o i e => { s := fun x => match asgSub x with
      | some (u, w, _, v, _) => notSlice w && notComp v && notTup v && (chk G o Z).e u && (chk G i Z).e w && (chk G e Z).e v
      | none => false }
  | .aug i o e => { s := fun x => match augName x with
      | some (n, _, op, v, _) => decide (Z.N[i]? = some n) && decide (op = o) && ownB Z n && (chk G e Z).e v && (decide (op = .Add) || decide (op = .Sub))
      | none => false }
  | .augF o f p e => { s := fun x => match augAttr x with
      | some (u, n, _, op, v, _) => decide (n = f) && decide (op = p) && (chk G o Z).e u && (chk G e Z).e v && (decide (op = .Add) || decide (op = .Sub))
      | none => false }
  | .ife t a b => { s := fun x => match x with
      | .If u l1 l2 _ => (chk G t Z).t u && (chkS G Z a).b l1 && (chkS G Z b).b l2
      | _ => false }
  | .loop g it b => { s := fun x => match x with
      | .For tg iter l1 [] _ => notSet iter && chkG Z g tg && (chk G it Z).i tg iter && (chkS G Z b).b l1
      | _ => false }
  | .whl t b => { s := fun x => match x with
      | .While u l1 [] _ => (chk G t Z).t u && (chkS G Z b).b l1
      | _ => false }
  | .ret e => { s := fun x => match x with
      | .Return (some v) _ => (chk G e Z).e v
      | _ => false }
  | .retN => { s := fun x => match x with
      | .Return none _ => true
      | _ => false }
  | .brk => { s := fun x => match x with
      | .Break _ => true
      | _ => false }
  | .cont => { s := fun x => match x with
      | .Continue _ => true
      | _ => false }
  | .pass => { s := fun x => match x with
      | .Pass _ => true
      | _ => false }
  | .raise c as => { s := fun x => match raiseText x with
      | some n => glB Z.sc n && plainName n && decide (G.xc n = some c)
      | none => false }
  | .try b c i h => { }

def GotS (B : Bs) (Wx : WX) (μ : List Addr) (H : Hp) (A : R Fl) (D : Ends) : Prop :=
  match A with
  | .ok (.nx ρ') τ' => ∀ μ' H' σ', Le B.K μ H μ' H' → RH B.K B.Cl μ' τ' H' → RS B.K μ' H' ρ' σ' → D.nx σ' H'
  | .ok (.rt w) τ' => ∀ μ' H' v, Le B.K μ H μ' H' → RH B.K B.Cl μ' τ' H' → RV B.K μ' H' w v → D.rt v H'
  | .ok (.bk ρ') τ' => ∀ μ' H' σ', Le B.K μ H μ' H' → RH B.K B.Cl μ' τ' H' → RS B.K μ' H' ρ' σ' → D.bk σ' H'
  | .ok (.ct ρ') τ' => ∀ μ' H' σ', Le B.K μ H μ' H' → RH B.K B.Cl μ' τ' H' → RS B.K μ' H' ρ' σ' → D.ct σ' H'
  | .exn x ρ' τ' => ∀ μ' H' σ' d, Le B.K μ H μ' H' → RH B.K B.Cl μ' τ' H' → RS B.K μ' H' ρ' σ' → RXn x d → Wx (.ref (B.Xc x.c)) d σ' H'
  | .no => False
section
variable {B : Bs} {α β : Type} {rel : Rel α β} {Wx : WX} {μ μ1 : List Addr} {H H1 : Hp} {D : Ends}
theorem GotS.le {A : R Fl} (l : Le B.K μ H μ1 H1) (h : GotS B Wx μ H A D) : GotS B Wx μ1 H1 A D := by
  cases A with
  | ok a τ' => cases a <;> exact fun μ' H' b l' => h μ' H' b (l.trans l')
  | exn x ρ' τ' => exact fun μ' H' σ' d l' => h μ' H' σ' d (l.trans l')
  | no => exact h
theorem GotS.bnd {A : R α} {f : α → Sto → R Fl} (h : GotS B Wx μ H (A.bind f) D) :
    Got B rel Wx μ H A fun b H1 => ∃ a τ1 μ1, Le B.K μ H μ1 H1 ∧ RH B.K B.Cl μ1 τ1 H1 ∧ rel μ1 H1 a b ∧ GotS B Wx μ1 H1 (f a τ1) D ∧ A = .ok a τ1 := by
  cases A with
  | ok a τ' => exact fun μ' H' b l' r e => ⟨a, τ', μ', l', r, e, GotS.le l' h, rfl⟩
  | exn x ρ' τ' => exact h
  | no => exact h
end
def tS (T : Tb) (C : Calls) (B : Bs) (Wx : WX) (ir : S) : TS := fun D σ H => ∃ μ ρ τ, RH B.K B.Cl μ τ H ∧ RS B.K μ H ρ σ ∧ GotS B Wx μ H (evS T C ir ρ τ) D

/-- what a class of exceptions is to be -/
structure XcOk (K : PySem.W.Frag) (mg : Str → Option Value) (n : Str) (a : Addr) : Prop where
  at_ : mg n = some (.ref a)
  kp : PySem.W.keepIn K (.ref a) = true
  ex : ∃ bmB newId initId base, ExcBaseFacts base newId initId bmB ∧ PySem.W.excIn K a bmB newId = true
  sb : PySem.W.subIn K (.ref a) (.type "BaseException") = some true
  ty : PySem.W.typeIn K (.ref a) = some (.type "type")
structure FitS (G : Gt) (T : Tb) (C : Calls) (B : Bs) (k : Nat) (X : L2.Cx) (Z : Sx) (Wx : WX) : Prop extends Fit G T C B k X Z Wx where
  po : PassesOwn (model X.prog X.w) X.A X.env X.xe
  kd : X.env.scope.kind = .function
  xc : ∀ n c, G.xc n = some c → XcOk X.K X.mg n (B.Xc c)
structure SndS (G : Gt) (T : Tb) (C : Calls) (B : Bs) (X : L2.Cx) (Z : Sx) (Wx : WX) (ir : S) : Prop where
  s : ∀ x, (chkS G Z ir).s x = true → PS X x (tS T C B Wx ir)
  b : ∀ l, (chkS G Z ir).b l = true → PSs X l (tS T C B Wx ir)

section
variable {G : Gt} {T : Tb} {C : Calls} {B : Bs} {k : Nat} {X : L2.Cx} {Z : Sx} {Wx : WX}
theorem SndS.one {ir : S} (cb : (chkS G Z ir).b = fun _ => false) (h : ∀ x, (chkS G Z ir).s x = true → PS X x (tS T C B Wx ir)) : SndS G T C B X Z Wx ir :=
  ⟨h, fun l hl => by rw [cb] at hl; exact ff hl⟩
theorem ss_nil (F : FitS G T C B k X Z Wx) : SndS G T C B X Z Wx .nil := by
  refine ⟨fun x h => ff h, fun l h => ?_⟩
  cases l with
  | nil =>
    refine PSs.imp pss_nil fun D σ H ⟨μ, ρ, τ, rh, rs, g⟩ => ?_
    exact g μ H σ Le.refl rh rs
  | cons _ _ => exact ff h
theorem ss_cons {s r : S} (F : FitS G T C B k X Z Wx) (ihs : SndS G T C B X Z Wx s) (ihr : SndS G T C B X Z Wx r) : SndS G T C B X Z Wx (.cons s r) := by
  refine ⟨fun x h => ff h, fun l h => ?_⟩
  cases l with
  | nil => exact ff h
  | cons st more =>
    have h' : ((chkS G Z s).s st && (chkS G Z r).b more) = true := h
    rw [Bool.and_eq_true] at h'
    refine PSs.imp (pss_cons (ihs.s st h'.1) (ihr.b more h'.2)) fun D σ H ⟨μ, ρ, τ, rh, rs, g⟩ => ?_
    have g' : GotS B Wx μ H (match evS T C s ρ τ with
      | .ok (.nx ρ1) τ1 => evS T C r ρ1 τ1
      | x => x) D := g
    refine ⟨μ, ρ, τ, rh, rs, ?_⟩
    cases e : evS T C s ρ τ with
    | no => rw [e] at g'; exact g'
    | exn x ρ' τ' => rw [e] at g'; exact g'
    | ok a τ' =>
      rw [e] at g'
      cases a with
      | nx ρ1 => exact fun μ' H' σ' l rh' rs' => ⟨μ', ρ1, τ', rh', rs', GotS.le l g'⟩
      | rt w => exact g'
      | bk ρ1 => exact g'
      | ct ρ1 => exact g'
theorem ss_ex {e : E} (F : FitS G T C B k X Z Wx) : SndS G T C B X Z Wx (.ex e) := by
  refine SndS.one rfl fun x h => ?_
  cases x with
  | Expr v pos =>
    have h' : (notComp v && (chk G e Z).e v) = true := h
    rw [Bool.and_eq_true] at h'
    refine PS.imp (ps_expr ((snd_all e X Z Wx F.toFit).e v h'.2) (swap_no h'.1)) fun D σ H ⟨μ, ρ, τ, rh, rs, g⟩ => ?_
    have g' : GotS B Wx μ H (((ev T C e).e ρ τ).bind fun _ τ1 => .ok (.nx ρ) τ1) D := g
    exact ⟨μ, ρ, τ, rh, rs, (GotS.bnd (rel := RVr B) g').imp fun v H1 ⟨w, τ1, μ1, l1, rh1, rv, g1, _⟩ => g1 μ1 H1 σ Le.refl rh1 (rs.le l1)⟩
  | _ => exact ff h
theorem set_imp {i : Nat} {e : E} {te : TE} (ht : ∀ σ H Q, tE T C B Wx e σ H Q → te σ H Q) {D : Ends} {σ : L2.St} {H : Hp} (h : tS T C B Wx (.set i e) D σ H) : tAsg te (gName i) D σ H := by
  obtain ⟨μ, ρ, τ, rh, rs, g⟩ := h
  have g' : GotS B Wx μ H (((ev T C e).e ρ τ).bind fun w τ1 => .ok (.nx (ρ.set i (some w))) τ1) D := g
  exact ht σ H _ ⟨μ, ρ, τ, rh, rs, (GotS.bnd (rel := RVr B) g').imp fun v H1 ⟨w, τ1, μ1, l1, rh1, rv, g1, _⟩ => g1 μ1 H1 _ Le.refl rh1 ((rs.le l1).set rv)⟩
theorem ss_set {i : Nat} {e : E} (F : FitS G T C B k X Z Wx) : SndS G T C B X Z Wx (.set i e) := by
  refine SndS.one rfl fun x h => ?_
  have h0 : (match asgName x with
      | some (n, p, v, _) => decide (Z.N[i]? = some n) && ownB Z n && (chk G e Z).e v && (notComp v || swB Z n p v)
      | none => false) = true := h
  cases hx : asgName x with
  | none => rw [hx] at h0; exact ff h0
  | some q =>
    obtain ⟨n, p, v, pos⟩ := q
    rw [hx] at h0
    have ex := asgName_of hx
    subst ex
    simp only [Bool.and_eq_true, decide_eq_true_iff] at h0
    obtain ⟨⟨⟨h1, h2⟩, h3⟩, h4⟩ := h0
    obtain ⟨o1, o2⟩ := F.own n h2
    have hi : X.N[i]? = some n := by rw [F.N]; exact h1
    by_cases hn : notComp v = true
    · exact PS.imp (ps_set F.nd hi o1 ((snd_all e X Z Wx F.toFit).e v h3) (swap_no hn) o2) fun D σ H q => set_imp (fun _ _ _ q => q) q
    · have h5 : swB Z n p v = true := by
        rw [Bool.or_eq_true] at h4
        exact h4.resolve_left hn
      cases v with
      | ListComp el gs scope cp =>
        have h6 : (decide (Z.sc.names.lookup n = some .local) && (p.line == cp.line) && !(scope.names.any fun (m, k) => m == n && (k == .local || k == .cell))) = true := h5
        rw [Bool.and_eq_true, Bool.and_eq_true, decide_eq_true_iff, Bool.not_eq_true'] at h6
        obtain ⟨⟨h7, h8⟩, h9⟩ := h6
        have hl : X.env.scope.names.lookup n = some .local := by rw [F.sc]; exact h7
        cases e with
        | lc g it tst elt vs =>
          obtain ⟨el', tg, iter, ifs, scope', pos', ex, p1, p2, p3, p4, p5, p6, p7, p8⟩ := lc_parts F.toFit (snd_all it X Z Wx F.toFit) (fun X' Z' Wx' F' => snd_all tst X' Z' Wx' F') (fun X' Z' Wx' F' => snd_all elt X' Z' Wx' F') h3
          cases ex
          refine PS.imp (ps_setLc F.calm F.nd hi hl (sw_true F.kd hl h8 h9) p1 p2 p5 (fun s H Ca cl fp => p6 s H Ca cl fp) (fun s H Ca cl fp => p7 s H Ca cl fp) p8) fun D σ H q => set_imp (fun σ H Q q => ?_) q
          rw [p3]
          exact lc_run F.K p4 q
        | _ => exact ff h3
      | _ => exact ff h5
theorem ss_setT {is : List Nat} {e : E} (F : FitS G T C B k X Z Wx) : SndS G T C B X Z Wx (.setT is e) := by
  refine SndS.one rfl fun x h => ?_
  have h0 : (match asgTg x with
      | some (tg, v, _) => isTupT tg && notComp v && notTup v && chkG Z (.tup is) tg && (chk G e Z).e v
      | none => false) = true := h
  cases hx : asgTg x with
  | none => rw [hx] at h0; exact ff h0
  | some q =>
    obtain ⟨tg, v, pos⟩ := q
    rw [hx] at h0
    have ex := asgTg_of hx
    subst ex
    simp only [Bool.and_eq_true] at h0
    obtain ⟨⟨⟨⟨h1, h2⟩, h3⟩, h4⟩, h5⟩ := h0
    obtain ⟨tes, tj, tpos, rfl⟩ := tup_of h1
    refine PS.imp (ps_asg ((snd_all e X Z Wx F.toFit).e v h5) (pg_any F.toFit h4) (swap_no (t := some (.Tuple tes tj tpos)) (l := pos.line) (env := X.env) h2) (stores_no h3) rfl) fun D σ H ⟨μ, ρ, τ, rh, rs, g⟩ => ?_
    have g' : GotS B Wx μ H (((ev T C e).e ρ τ).bind fun w τ1 => match putG (.tup is) w ρ with
      | some ρ1 => .ok (.nx ρ1) τ1
      | none => .no) D := g
    refine ⟨μ, ρ, τ, rh, rs, (GotS.bnd (rel := RVr B) g').imp fun v H1 ⟨w, τ1, μ1, l1, rh1, rv, g1, _⟩ => ?_⟩
    cases ep : putG (.tup is) w ρ with
    | none => rw [ep] at g1; exact g1.elim
    | some ρ1 =>
      rw [ep] at g1
      exact tg_imp F.K ep rv (rs.le l1) fun σ' rs' _ => g1 μ1 H1 σ' Le.refl rh1 rs'
theorem ss_setF {o : E} {f : Str} {e : E} (F : FitS G T C B k X Z Wx) : SndS G T C B X Z Wx (.setF o f e) := by
  refine SndS.one rfl fun x h => ?_
  have h0 : (match asgAttr x with
      | some (u, n, _, v, _) => decide (n = f) && notComp v && (chk G o Z).e u && (chk G e Z).e v
      | none => false) = true := h
  cases hx : asgAttr x with
  | none => rw [hx] at h0; exact ff h0
  | some q =>
    obtain ⟨u, n, p, v, pos⟩ := q
    rw [hx] at h0
    have ex := asgAttr_of hx
    subst ex
    simp only [Bool.and_eq_true, decide_eq_true_iff] at h0
    obtain ⟨⟨⟨rfl, h2⟩, h3⟩, h4⟩ := h0
    refine PS.imp (ps_fld ((snd_all o X Z Wx F.toFit).e u h3) ((snd_all e X Z Wx F.toFit).e v h4) (swap_no h2)) fun D σ H ⟨μ, ρ, τ, rh, rs, g⟩ => ?_
    have g' : GotS B Wx μ H (((ev T C e).e ρ τ).bind fun w τ1 => ((ev T C o).e ρ τ1).bind fun x τ2 => match setField T τ2 x n w with
      | some τ3 => .ok (.nx ρ) τ3
      | none => .no) D := g
    refine ⟨μ, ρ, τ, rh, rs, (GotS.bnd (rel := RVr B) g').imp fun v H1 ⟨w, τ1, μ1, l1, rh1, rv, g1, _⟩ => ?_⟩
    refine ⟨μ1, ρ, τ1, rh1, rs.le l1, (GotS.bnd (rel := RVr B) g1).imp fun xv H2 ⟨y, τ2, μ2, l2, rh2, ry, g2, _⟩ => ?_⟩
    have ry' : RV B.K μ2 H2 y xv := ry
    cases ry' with
    | @ref m a ha =>
      cases es : setField T τ2 (.ref m) n w with
      | none => rw [es] at g2; exact g2.elim
      | some τ3 =>
        rw [es] at g2
        have es' : (match τ2[m]? with
          | some (.ins c fs) => if T.attr c n = true ∧ fs.length < 1000 then some (τ2.set m (.ins c (putW n w fs))) else none
          | _ => none) = some τ3 := es
        cases e1 : τ2[m]? with
        | none => rw [e1] at es'; cases es'
        | some ob =>
          rw [e1] at es'
          obtain ⟨a', ha', ho⟩ := rh2.at_ e1
          obtain rfl := Option.some.inj (ha'.symm.trans ha)
          cases ob with
          | ins c fs =>
            dsimp only at es'
            split at es'
            · rename_i hc
              cases es'
              obtain ⟨dx, ps, h0, r⟩ := ho
              obtain ⟨c1, c2⟩ := F.attr c n hc.1
              refine ⟨a', _, dx, ps, rfl, h0, c1, c2, by rw [← r.length]; exact hc.2, ?_⟩
              have l3 : Le B.K μ2 H2 μ2 (upd H2 a' (.ins (B.Cl c) dx (L2.putF n v ps))) := ⟨⟨[], by simp⟩, tup_upd (noTup_ins h0)⟩
              obtain ⟨rh3, l3'⟩ := rh2.put (o := .ins c (putW n w fs)) (ho := .ins (B.Cl c) dx (L2.putF n v ps)) ha' e1 (fun xs z => by cases z) (noTup_ins h0) ⟨dx, _, upd_same, (r.put (RV.le l2 rv)).le l3⟩
              exact g2 μ2 _ σ l3 rh3 (((rs.le l1).le l2).le l3)
            · cases es'
          | _ => cases es'
    | _ => exact False.elim g2
theorem ss_ret {e : E} (F : FitS G T C B k X Z Wx) : SndS G T C B X Z Wx (.ret e) := by
  refine SndS.one rfl fun x h => ?_
  cases x with
  | Return o pos =>
    cases o with
    | none => exact ff h
    | some v =>
      refine PS.imp (ps_ret ((snd_all e X Z Wx F.toFit).e v h)) fun D σ H ⟨μ, ρ, τ, rh, rs, g⟩ => ?_
      have g' : GotS B Wx μ H (((ev T C e).e ρ τ).bind fun w τ1 => .ok (.rt w) τ1) D := g
      exact ⟨μ, ρ, τ, rh, rs, (GotS.bnd (rel := RVr B) g').imp fun v H1 ⟨w, τ1, μ1, l1, rh1, rv, g1, _⟩ => g1 μ1 H1 v Le.refl rh1 rv⟩
  | _ => exact ff h
theorem ss_retN (F : FitS G T C B k X Z Wx) : SndS G T C B X Z Wx .retN := by
  refine SndS.one rfl fun x h => ?_
  cases x with
  | Return o pos =>
    cases o with
    | none => exact PS.imp ps_retN fun D σ H ⟨μ, ρ, τ, rh, rs, g⟩ => g μ H .non Le.refl rh .non
    | some v => exact ff h
  | _ => exact ff h
theorem ss_brk (F : FitS G T C B k X Z Wx) : SndS G T C B X Z Wx .brk := by
  refine SndS.one rfl fun x h => ?_
  cases x with
  | Break pos => exact PS.imp ps_break fun D σ H ⟨μ, ρ, τ, rh, rs, g⟩ => g μ H σ Le.refl rh rs
  | _ => exact ff h
theorem ss_cont (F : FitS G T C B k X Z Wx) : SndS G T C B X Z Wx .cont := by
  refine SndS.one rfl fun x h => ?_
  cases x with
  | Continue pos => exact PS.imp ps_continue fun D σ H ⟨μ, ρ, τ, rh, rs, g⟩ => g μ H σ Le.refl rh rs
  | _ => exact ff h
theorem ss_pass (F : FitS G T C B k X Z Wx) : SndS G T C B X Z Wx .pass := by
  refine SndS.one rfl fun x h => ?_
  cases x with
  | Pass pos => exact PS.imp ps_pass fun D σ H ⟨μ, ρ, τ, rh, rs, g⟩ => g μ H σ Le.refl rh rs
  | _ => exact ff h
theorem ss_ife {t : E} {a b : S} (F : FitS G T C B k X Z Wx) (iha : SndS G T C B X Z Wx a) (ihb : SndS G T C B X Z Wx b) : SndS G T C B X Z Wx (.ife t a b) := by
  refine SndS.one rfl fun x h => ?_
  cases x with
  | If u l1 l2 pos =>
    have h' : ((chk G t Z).t u && (chkS G Z a).b l1 && (chkS G Z b).b l2) = true := h
    rw [Bool.and_eq_true, Bool.and_eq_true] at h'
    refine PS.imp (ps_if ((snd_all t X Z Wx F.toFit).t u h'.1.1) (iha.b l1 h'.1.2) (ihb.b l2 h'.2)) fun D σ H ⟨μ, ρ, τ, rh, rs, g⟩ => ?_
    have g' : GotS B Wx μ H (((ev T C t).t ρ τ).bind fun k τ1 => if k = true then evS T C a ρ τ1 else evS T C b ρ τ1) D := g
    refine ⟨μ, ρ, τ, rh, rs, (GotS.bnd (rel := REq) g').imp fun v H1 ⟨d, τ1, μ1, l1, rh1, rv, g1, _⟩ => ?_⟩
    obtain rfl : d = v := rv
    cases d with
    | true => exact iteT ⟨μ1, ρ, τ1, rh1, rs.le l1, g1⟩
    | false => exact iteF ⟨μ1, ρ, τ1, rh1, rs.le l1, g1⟩
  | _ => exact ff h
theorem ss_aug {i : Nat} {o : Operator} {e : E} (F : FitS G T C B k X Z Wx) : SndS G T C B X Z Wx (.aug i o e) := by
  refine SndS.one rfl fun x h => ?_
  have h0 : (match augName x with
      | some (n, _, op, v, _) => decide (Z.N[i]? = some n) && decide (op = o) && ownB Z n && (chk G e Z).e v && (decide (op = .Add) || decide (op = .Sub))
      | none => false) = true := h
  cases hx : augName x with
  | none => rw [hx] at h0; exact ff h0
  | some q =>
    obtain ⟨n, p, op, v, pos⟩ := q
    rw [hx] at h0
    have ex := augName_of hx
    subst ex
    simp only [Bool.and_eq_true, decide_eq_true_iff] at h0
    obtain ⟨⟨⟨⟨h1, rfl⟩, h3⟩, h4⟩, hop⟩ := h0
    obtain ⟨o1, o2⟩ := F.own n h3
    have hi : X.N[i]? = some n := by rw [F.N]; exact h1
    have fin : ∀ (f : Int → Int → Int), (∀ a b : Int, augW op (.int a) (.int b) = some (.int (f a b))) → PIp X op (ipI f) → PS X (.AugAssign (.Name n p) op v pos) (tS T C B Wx (.aug i op e)) := by
      intro f hf hp
      refine PS.imp (ps_aug F.nd hi o1 ((snd_all e X Z Wx F.toFit).e v h4) hp o2) fun D σ H ⟨μ, ρ, τ, rh, rs, g⟩ => ?_
      have g' : GotS B Wx μ H (match ρ[i]? with
        | some (some x) => ((ev T C e).e ρ τ).bind fun y τ1 => match augW op x y with
          | some z => .ok (.nx (ρ.set i (some z))) τ1
          | none => .no
        | _ => .no) D := g
      cases e1 : ρ[i]? with
      | none => rw [e1] at g'; exact g'.elim
      | some ov =>
        cases ov with
        | none => rw [e1] at g'; exact g'.elim
        | some w =>
          rw [e1] at g'
          obtain ⟨xv, hxv, rx⟩ := rs.at_ i w e1
          refine ⟨xv, hxv, μ, ρ, τ, rh, rs, (GotS.bnd (rel := RVr B) g').imp fun yv H1 ⟨y, τ1, μ1, l1, rh1, ry, g1, _⟩ => ?_⟩
          have ry' : RV B.K μ1 H1 y yv := ry
          cases rx with
          | int a =>
            cases ry' with
            | int b =>
              rw [hf a b] at g1
              exact ⟨a, b, rfl, rfl, g1 μ1 H1 _ Le.refl rh1 ((rs.le l1).set (.int _))⟩
            | _ => exact False.elim g1
          | _ => cases ry' <;> exact False.elim g1
    cases op with
    | Add => exact fin _ (fun _ _ => rfl) ip_add
    | Sub => exact fin _ (fun _ _ => rfl) ip_sub
    | _ => exact ff hop
theorem aug_end {m : Nat} {n : Str} {z : Int} {rd : (Hp) → VK → Prop} (F : FitS G T C B k X Z Wx) {μ μ1 μ2 : List Addr} {H H1 H2 : Hp} {τ2 τ3 : Sto} {ρ : Sl} {σ : L2.St} {a' : Addr} {c : Nat} {D : Ends} (ha : μ1[m]? = some a')
    (hrd : ∀ H Q, Q (.int z) H → rd H Q) (l1 : Le B.K μ H μ1 H1) (l2 : Le B.K μ1 H1 μ2 H2) (rh2 : RH B.K B.Cl μ2 τ2 H2) (rs : RS B.K μ H ρ σ) (hcl : clsOf τ2 (.ref m) = some c)
    (es' : (match τ2[m]? with
      | some (.ins c fs) => if T.attr c n = true ∧ fs.length < 1000 then some (τ2.set m (.ins c (putW n (.int z) fs))) else none
      | _ => none) = some τ3) (g : GotS B Wx μ2 H2 (.ok (.nx ρ) τ3) D) (hat : T.attr c n = true) :
    rd H2 fun z H3 => ∃ dx' fs', H3 a' = some (.ins (B.Cl c) dx' fs') ∧ fs'.length < 1000 ∧ D.nx σ (upd H3 a' (.ins (B.Cl c) dx' (L2.putF n z fs'))) := by
  refine hrd H2 _ ?_
  cases e2 : τ2[m]? with
  | none => rw [e2] at es'; cases es'
  | some ob2 =>
    rw [e2] at es'
    obtain ⟨a2, ha2, ho2⟩ := rh2.at_ e2
    obtain rfl := Option.some.inj (ha2.symm.trans (l2.get ha))
    cases ob2 with
    | ins c' fs' =>
      have ec : c' = c := by
        unfold clsOf at hcl
        simp only [e2] at hcl
        exact Option.some.inj hcl
      subst ec
      dsimp only at es'
      split at es'
      · rename_i hc2
        cases es'
        obtain ⟨dx2, ps2, h02, r2⟩ := ho2
        refine ⟨dx2, ps2, h02, by rw [← r2.length]; exact hc2.2, ?_⟩
        have l3 : Le B.K μ2 H2 μ2 (upd H2 a2 (.ins (B.Cl c') dx2 (L2.putF n (.int z) ps2))) := ⟨⟨[], by simp⟩, tup_upd (noTup_ins h02)⟩
        obtain ⟨rh3, _⟩ := rh2.put (o := .ins c' (putW n (.int z) fs')) (ho := .ins (B.Cl c') dx2 (L2.putF n (.int z) ps2)) ha2 e2 (fun xs z => by cases z) (noTup_ins h02) ⟨dx2, _, upd_same, (r2.put (.int z)).le l3⟩
        exact g μ2 _ σ l3 rh3 (((rs.le l1).le l2).le l3)
      · cases es'
    | _ => cases es'
theorem ss_augF {o : E} {f : Str} {p : Operator} {e : E} (F : FitS G T C B k X Z Wx) : SndS G T C B X Z Wx (.augF o f p e) := by
  refine SndS.one rfl fun x h => ?_
  have h0 : (match augAttr x with
      | some (u, n, _, op, v, _) => decide (n = f) && decide (op = p) && (chk G o Z).e u && (chk G e Z).e v && (decide (op = .Add) || decide (op = .Sub))
      | none => false) = true := h
  cases hx : augAttr x with
  | none => rw [hx] at h0; exact ff h0
  | some q =>
    obtain ⟨u, n, ap, op, v, pos⟩ := q
    rw [hx] at h0
    have ex := augAttr_of hx
    subst ex
    simp only [Bool.and_eq_true, decide_eq_true_iff] at h0
    obtain ⟨⟨⟨⟨rfl, rfl⟩, h3⟩, h4⟩, hop⟩ := h0
    have fin : ∀ (ff : Int → Int → Int) (rd : V → V → Hp → VK → Prop), (∀ a b : Int, augW op (.int a) (.int b) = some (.int (ff a b))) → (∀ a b H Q, Q (.int (ff a b)) H → rd (.int a) (.int b) H Q) → InOp X op rd →
        PS X (.AugAssign (.Attribute u n ap) op v pos) (tS T C B Wx (.augF o n op e)) := by
      intro ff rd hf hrd hp
      refine PS.imp (ps_fldaug ((snd_all o X Z Wx F.toFit).e u h3) ((snd_all e X Z Wx F.toFit).e v h4) hp) fun D σ H ⟨μ, ρ, τ, rh, rs, g⟩ => ?_
      have g' : GotS B Wx μ H (((ev T C o).e ρ τ).bind fun x τ1 => match fieldOf T τ1 x n with
        | some a => ((ev T C e).e ρ τ1).bind fun y τ2 => match (augW op a y).bind (setFieldC T (clsOf τ1 x) τ2 x n) with
          | some τ3 => .ok (.nx ρ) τ3
          | none => .no
        | none => .no) D := g
      refine ⟨μ, ρ, τ, rh, rs, (GotS.bnd (rel := RVr B) g').imp fun xv H1 ⟨x, τ1, μ1, l1, rh1, rx, g1, _⟩ => ?_⟩
      cases ef : fieldOf T τ1 x n with
      | none => rw [ef] at g1; exact g1.elim
      | some a =>
        rw [ef] at g1
        have rx' : RV B.K μ1 H1 x xv := rx
        cases rx' with
        | @ref m ad ha =>
          have ef' : (match τ1[m]? with
            | some (.ins c fs) => if T.attr c n = true then fs.lookup n else none
            | _ => none) = some a := ef
          cases e1 : τ1[m]? with
          | none => rw [e1] at ef'; cases ef'
          | some ob =>
            rw [e1] at ef'
            obtain ⟨a', ha', ho⟩ := rh1.at_ e1
            obtain rfl := Option.some.inj (ha'.symm.trans ha)
            cases ob with
            | ins c fs =>
              dsimp only at ef'
              split at ef'
              · rename_i hc
                obtain ⟨dx, ps, h0, r⟩ := ho
                obtain ⟨c1, c2⟩ := F.attr c n hc
                obtain ⟨av, hav, rav⟩ := r.lookup ef'
                refine ⟨a', _, dx, ps, av, rfl, h0, c1, c2, hav, ?_⟩
                refine ⟨μ1, ρ, τ1, rh1, rs.le l1, (GotS.bnd (rel := RVr B) g1).imp fun yv H2 ⟨y, τ2, μ2, l2, rh2, ry, g2, _⟩ => ?_⟩
                have ry' : RV B.K μ2 H2 y yv := ry
                cases rav with
                | int i =>
                  cases ry' with
                  | int j =>
                    rw [hf i j] at g2
                    have g3 : GotS B Wx μ2 H2 (match setFieldC T (clsOf τ1 (.ref m)) τ2 (.ref m) n (.int (ff i j)) with
                      | some τ3 => .ok (.nx ρ) τ3
                      | none => .no) D := g2
                    cases es0 : setFieldC T (clsOf τ1 (.ref m)) τ2 (.ref m) n (.int (ff i j)) with
                    | none => rw [es0] at g3; exact g3.elim
                    | some τ3 =>
                      rw [es0] at g3
                      unfold setFieldC at es0
                      split at es0
                      · rename_i hcl
                        have es' : (match τ2[m]? with
                          | some (.ins c fs) => if T.attr c n = true ∧ fs.length < 1000 then some (τ2.set m (.ins c (putW n (.int (ff i j)) fs))) else none
                          | _ => none) = some τ3 := es0
                        have e1c : clsOf τ1 (.ref m) = some c := by unfold clsOf; simp only [e1]
                        rw [e1c] at hcl
                        exact aug_end F ha' (fun H Q => hrd i j H Q) l1 l2 rh2 rs hcl es' g3 hc
                      · cases es0
                  | _ => exact False.elim g2
                | _ => cases ry' <;> exact False.elim g2
              · cases ef'
            | _ => cases ef'
        | _ => cases ef
    cases op with
    | Add => exact fin _ _ (fun _ _ => rfl) (fun a b H Q q => ⟨a, b, rfl, rfl, q⟩) in_add
    | Sub => exact fin _ _ (fun _ _ => rfl) (fun a b H Q q => ⟨a, b, rfl, rfl, q⟩) in_sub
    | _ => exact ff hop
theorem ss_loop {g : Mi.G} {it : E} {b : S} (F : FitS G T C B k X Z Wx) (ihb : SndS G T C B X Z Wx b) : SndS G T C B X Z Wx (.loop g it b) := by
  refine SndS.one rfl fun x h => ?_
  cases x with
  | For tg iter l1 l2 pos =>
    cases l2 with
    | cons _ _ => exact ff h
    | nil =>
      have h0 : (notSet iter && chkG Z g tg && (chk G it Z).i tg iter && (chkS G Z b).b l1) = true := h
      simp only [Bool.and_eq_true] at h0
      obtain ⟨⟨⟨h1, h2⟩, h3⟩, h4⟩ := h0
      refine PS.imp (ps_for F.po F.calm ((snd_all it X Z Wx F.toFit).i tg iter h3) (pg_any F.toFit h2) (ihb.b l1 h4) (fold_set h1)) fun D σ H ⟨μ, ρ, τ, rh, rs, gg⟩ => ?_
      have g' : GotS B Wx μ H (((ev T C it).i ρ τ).bind fun J τ1 => forL g J.gs (fun ρ1 τ2 => evS T C b ρ1 τ2) J.xs ρ τ1) D := gg
      refine ⟨μ, ρ, τ, rh, rs, (GotS.bnd (rel := RJ B) g').imp fun J' H1 ⟨J, τ1, μ1, l1, rh1, rj, g1, _⟩ => ?_⟩
      have rj' : RJ B μ1 H1 J J' := rj
      refine ⟨fun i m σ2 H2 => i ≤ J.xs.length ∧ m = J.xs.length - i ∧ ∃ μ2 ρ2 τ2, Le B.K μ1 H1 μ2 H2 ∧ RH B.K B.Cl μ2 τ2 H2 ∧ RS B.K μ2 H2 ρ2 σ2 ∧
        GotS B Wx μ2 H2 (forL g J.gs (fun ρ1 τ2 => evS T C b ρ1 τ2) (J.xs.drop i) ρ2 τ2) D, ⟨J.xs.length, Nat.zero_le _, rfl, μ1, ρ, τ1, Le.refl, rh1, rs.le l1, ?_⟩, ?_⟩
      · rw [List.drop_zero]
        exact g1
      · rintro i m σ2 H2 ⟨hi, rfl, μ2, ρ2, τ2, l3, rh3, rs3, g3⟩
        have rjj := rj' i μ2 τ2 H2 l3 rh3
        by_cases hlt : i < J.xs.length
        · have ed : J.xs.drop i = J.xs[i] :: J.xs.drop (i + 1) := List.drop_eq_getElem_cons hlt
          rw [ed] at g3
          unfold forL at g3
          by_cases ok : It.ok J.gs τ2
          · rw [if_pos ok] at g3
            obtain ⟨go, yl⟩ := (rjj ok).1 J.xs[i] (List.getElem?_eq_getElem hlt)
            refine .inr ⟨go, fun σ' H' => i + 1 ≤ J.xs.length ∧ ∃ μ2 ρ2 τ2, Le B.K μ1 H1 μ2 H' ∧ RH B.K B.Cl μ2 τ2 H' ∧ RS B.K μ2 H' ρ2 σ' ∧
              GotS B Wx μ2 H' (forL g J.gs (fun ρ1 τ2 => evS T C b ρ1 τ2) (J.xs.drop (i + 1)) ρ2 τ2) D, ?_, fun v H' hy => ?_⟩
            · rintro σ' H' ⟨hi', μ4, ρ4, τ4, r1, r2, r3, r4⟩
              exact ⟨J.xs.length - (i + 1), by omega, hi', rfl, μ4, ρ4, τ4, r1, r2, r3, r4⟩
            · obtain ⟨l4, rh4, rv⟩ := yl v H' hy
              cases ep : putG g J.xs[i] ρ2 with
              | none => rw [ep] at g3; exact g3.elim
              | some ρ3 =>
                rw [ep] at g3
                refine tg_imp F.K ep rv (rs3.le l4) fun σ' rs' _ => ⟨μ2, ρ3, τ2, rh4, rs', ?_⟩
                have g4 := GotS.le l4 g3
                dsimp only at g4
                cases et : evS T C b ρ3 τ2 with
                | no => simp only [et] at g4; exact g4.elim
                | exn y ρ' τ' => simp only [et] at g4; exact g4
                | ok fl τ3 =>
                  simp only [et] at g4
                  cases fl with
                  | nx ρ4 => exact fun μ5 H5 σ5 l5 rh5 rs5 => ⟨hlt, μ5, ρ4, τ3, (l3.trans l4).trans l5, rh5, rs5, GotS.le l5 g4⟩
                  | ct ρ4 => exact fun μ5 H5 σ5 l5 rh5 rs5 => ⟨hlt, μ5, ρ4, τ3, (l3.trans l4).trans l5, rh5, rs5, GotS.le l5 g4⟩
                  | bk ρ4 => exact g4
                  | rt w => exact g4
          · rw [if_neg ok] at g3
            exact g3.elim
        · rw [List.drop_eq_nil_of_le (by omega)] at g3
          unfold forL at g3
          by_cases ok : It.ok J.gs τ2
          · rw [if_pos ok] at g3
            exact .inl ⟨(rjj ok).2 (by omega), g3 μ2 H2 σ2 Le.refl rh3 rs3⟩
          · rw [if_neg ok] at g3
            exact g3.elim
  | _ => exact ff h
theorem ss_whl {t : E} {b : S} (F : FitS G T C B k X Z Wx) (ihb : SndS G T C B X Z Wx b) : SndS G T C B X Z Wx (.whl t b) := by
  refine SndS.one rfl fun x h => ?_
  cases x with
  | While u l1 l2 pos =>
    cases l2 with
    | cons _ _ => exact ff h
    | nil =>
      have h0 : ((chk G t Z).t u && (chkS G Z b).b l1) = true := h
      rw [Bool.and_eq_true] at h0
      refine PS.imp (ps_while F.po ((snd_all t X Z Wx F.toFit).t u h0.1) (ihb.b l1 h0.2)) fun D σ H ⟨μ, ρ, τ, rh, rs, gg⟩ => ?_
      have g' : GotS B Wx μ H (whlL (fun ρ1 τ1 => (ev T C t).t ρ1 τ1) (fun ρ1 τ1 => evS T C b ρ1 τ1) bigL ρ τ) D := gg
      refine ⟨fun m σ2 H2 => ∃ μ2 ρ2 τ2, RH B.K B.Cl μ2 τ2 H2 ∧ RS B.K μ2 H2 ρ2 σ2 ∧ GotS B Wx μ2 H2 (whlL (fun ρ1 τ1 => (ev T C t).t ρ1 τ1) (fun ρ1 τ1 => evS T C b ρ1 τ1) m ρ2 τ2) D, ⟨bigL, μ, ρ, τ, rh, rs, g'⟩, ?_⟩
      rintro m σ2 H2 ⟨μ2, ρ2, τ2, rh2, rs2, g2⟩
      cases m with
      | zero => exact False.elim g2
      | succ m =>
        have g3 : GotS B Wx μ2 H2 (((ev T C t).t ρ2 τ2).bind fun d τ1 => if d = true then
            match evS T C b ρ2 τ1 with
            | .ok (.nx ρ2) τ2 => whlL (fun ρ1 τ1 => (ev T C t).t ρ1 τ1) (fun ρ1 τ1 => evS T C b ρ1 τ1) m ρ2 τ2
            | .ok (.ct ρ2) τ2 => whlL (fun ρ1 τ1 => (ev T C t).t ρ1 τ1) (fun ρ1 τ1 => evS T C b ρ1 τ1) m ρ2 τ2
            | .ok (.bk ρ2) τ2 => .ok (.nx ρ2) τ2
            | .ok (.rt w) τ2 => .ok (.rt w) τ2
            | .exn x ρ τ => .exn x ρ τ
            | .no => .no
          else .ok (.nx ρ2) τ1) D := g2
        refine ⟨μ2, ρ2, τ2, rh2, rs2, (GotS.bnd (rel := REq) g3).imp fun v H3 ⟨d, τ3, μ3, l3, rh3, rv, g4, _⟩ => ?_⟩
        obtain rfl : d = v := rv
        cases d with
        | false => exact iteF (g4 μ3 H3 σ2 Le.refl rh3 (rs2.le l3))
        | true =>
          rw [if_pos rfl] at g4
          refine iteT ⟨fun σ' H' => ∃ μ2 ρ2 τ2, RH B.K B.Cl μ2 τ2 H' ∧ RS B.K μ2 H' ρ2 σ' ∧ GotS B Wx μ2 H' (whlL (fun ρ1 τ1 => (ev T C t).t ρ1 τ1) (fun ρ1 τ1 => evS T C b ρ1 τ1) m ρ2 τ2) D, fun σ' H' q => ⟨m, Nat.lt_succ_self m, q⟩, μ3, ρ2, τ3, rh3, rs2.le l3, ?_⟩
          cases et : evS T C b ρ2 τ3 with
          | no => rw [et] at g4; exact g4.elim
          | exn y ρ' τ' => rw [et] at g4; exact g4
          | ok fl τ4 =>
            rw [et] at g4
            cases fl with
            | nx ρ4 => exact fun μ5 H5 σ5 l5 rh5 rs5 => ⟨μ5, ρ4, τ4, rh5, rs5, GotS.le l5 g4⟩
            | ct ρ4 => exact fun μ5 H5 σ5 l5 rh5 rs5 => ⟨μ5, ρ4, τ4, rh5, rs5, GotS.le l5 g4⟩
            | bk ρ4 => exact g4
            | rt w => exact g4
  | _ => exact ff h
theorem ss_raise {c : Nat} {as : E} (F : FitS G T C B k X Z Wx) : SndS G T C B X Z Wx (.raise c as) := by
  refine SndS.one rfl fun x h => ?_
  have h0 : (match raiseText x with
      | some n => glB Z.sc n && plainName n && decide (G.xc n = some c)
      | none => false) = true := h
  cases hx : raiseText x with
  | none => rw [hx] at h0; exact ff h0
  | some n =>
    rw [hx] at h0
    obtain ⟨p, m, j, p2, p3, p4, rfl⟩ := raiseText_of hx
    simp only [Bool.and_eq_true, decide_eq_true_iff] at h0
    obtain ⟨⟨h1, h2⟩, h3⟩ := h0
    have xo := F.xc n c h3
    obtain ⟨bmB, newId, initId, base, f1, f2⟩ := xo.ex
    refine PS.imp (ps_raise F.calm F.tk (pmk_own f1 f2 xo.at_ xo.kp (raises_own xo.sb xo.ty) (glB_gl F.toFit h1) (plainName_of h2).1)) fun D σ H ⟨μ, ρ, τ, rh, rs, g⟩ => ?_
    exact g μ H σ none Le.refl rh rs ⟨rfl, rfl⟩
end
end Mi
/-! Mi13: every statement; defs; a law's end. -/
namespace Mi
open PySem PySem.Spec PyProof.Rows L2
section
variable {G : Gt} {T : Tb} {C : Calls} {B : Bs} {k : Nat} {X : L2.Cx} {Z : Sx} {Wx : WX}
theorem PS.dyn {e : Stmt} {t' : TS} (h : ∀ D σ H, t' D σ H → ∃ t, PS X e t ∧ t D σ H) : PS X e t' := ⟨fun pins s σ H D I q => by
  obtain ⟨t, ht, q'⟩ := h D σ H q
  exact ht.run pins s σ H D I q'⟩
theorem sub_plain {o i : Expr} {pos : Pos} {env : Env} (h : notSlice i = true) : ∀ v, assign (.Subscript o i pos) env v = (do
    let ov ← holding [v] (eval o env)
    let iv ← holding [v, ov] (eval i env)
    standAt pos
    holding [v, ov, iv] (PySem.setItem ov iv v)
    release [v, ov, iv] []) := by
  intro v
  cases i <;> first | rfl | exact ff h
theorem ss_setI {o i e : E} (F : FitS G T C B k X Z Wx) : SndS G T C B X Z Wx (.setI o i e) := by
  refine SndS.one rfl fun x h => ?_
  have h0 : (match asgSub x with
      | some (u, w, _, v, _) => notSlice w && notComp v && notTup v && (chk G o Z).e u && (chk G i Z).e w && (chk G e Z).e v
      | none => false) = true := h
  cases hx : asgSub x with
  | none => rw [hx] at h0; exact ff h0
  | some q =>
    obtain ⟨u, w, p, v, pos⟩ := q
    rw [hx] at h0
    have ex := asgSub_of hx
    subst ex
    simp only [Bool.and_eq_true] at h0
    obtain ⟨⟨⟨⟨⟨h1, h2⟩, h3⟩, h4⟩, h5⟩, h6⟩ := h0
    have po := (snd_all o X Z Wx F.toFit).e u h4
    have pi := (snd_all i X Z Wx F.toFit).e w h5
    have pv := (snd_all e X Z Wx F.toFit).e v h6
    have hu : X.A.units + 1 < cLine := by have := F.room.units; omega
    refine PS.dyn fun D σ H ⟨μ, ρ, τ, rh, rs, g⟩ => ?_
    have g' : GotS B Wx μ H (((ev T C e).e ρ τ).bind fun w τ1 => ((ev T C o).e ρ τ1).bind fun x τ2 => ((ev T C i).e ρ τ2).bind fun y τ3 => match setItem τ3 x y w with
      | some τ4 => .ok (.nx ρ) τ4
      | none => .no) D := g
    by_cases hd : ∃ wv τ1 n τ2 y τ3 kvs, (ev T C e).e ρ τ = .ok wv τ1 ∧ (ev T C o).e ρ τ1 = .ok (.ref n) τ2 ∧ (ev T C i).e ρ τ2 = .ok y τ3 ∧ τ3[n]? = some (.dic kvs)
    · obtain ⟨wv, τ1, n, τ2, y, τ3, kvs, e1, e2, e3, e4⟩ := hd
      refine ⟨_, ps_dput hu po pi pv (swap_no h2), ?_⟩
      refine ⟨μ, ρ, τ, rh, rs, (GotS.bnd (rel := RVr B) g').imp fun vv H1 ⟨w1, t1, μ1, l1, rh1, rw1, g1, q1⟩ => ?_⟩
      rw [e1] at q1; cases q1
      refine ⟨μ1, ρ, τ1, rh1, rs.le l1, (GotS.bnd (rel := RVr B) g1).imp fun xv H2 ⟨x2, t2, μ2, l2, rh2, rx, g2, q2⟩ => ?_⟩
      rw [e2] at q2; cases q2
      refine ⟨μ2, ρ, τ2, rh2, (rs.le l1).le l2, (GotS.bnd (rel := RVr B) g2).imp fun yv H3 ⟨y3, t3, μ3, l3, rh3, ry, g3, q3⟩ => ?_⟩
      rw [e3] at q3; cases q3
      have rx' : RV B.K μ2 H2 (.ref n) xv := rx
      have ry' : RV B.K μ3 H3 y yv := ry
      have rw' : RV B.K μ1 H1 wv vv := rw1
      cases rx' with
      | @ref _ a ha =>
        obtain ⟨a', ha', qs, hq, rq⟩ := rh3.at_ e4
        obtain rfl := Option.some.inj (ha'.symm.trans (l3.get ha))
        cases es : setItem τ3 (.ref n) y wv with
        | none => rw [es] at g3; exact g3.elim
        | some τ4 =>
          rw [es] at g3
          unfold setItem at es
          simp only [e4] at es
          cases hk : keyOf y with
          | none => rw [hk] at es; cases es
          | some key =>
            rw [hk] at es
            dsimp only at es
            split at es
            · rename_i hc
              cases es
              have ek := key_rv ry' hk
              subst ek
              refine ⟨a', _, rfl, DPut.k hq (by rw [← rq.length]; exact hc), ?_⟩
              have l4 : Le B.K μ3 H3 μ3 (upd H3 a' (.dK (L2.putK qs key vv))) := ⟨⟨[], by simp⟩, tup_upd (noTup_dK hq)⟩
              obtain ⟨rh4, _⟩ := rh3.put (o := .dic (kvPut kvs key wv)) (ho := .dK (L2.putK qs key vv)) ha' e4 (fun xs z => by cases z) (noTup_dK hq) ⟨_, upd_same, (rq.putK ((rw'.le l2).le l3)).le l4⟩
              exact g3 μ3 _ σ l4 rh4 ((((rs.le l1).le l2).le l3).le l4)
            · cases es
    · refine ⟨_, ps_asg pv (pg_sub po pi set_list (sub_plain h1)) (swap_no (t := some (.Subscript u w p)) (l := pos.line) (env := X.env) h2) (stores_no h3) rfl, ?_⟩
      refine ⟨μ, ρ, τ, rh, rs, (GotS.bnd (rel := RVr B) g').imp fun vv H1 ⟨w1, τ1, μ1, l1, rh1, rw1, g1, q1⟩ => ?_⟩
      refine ⟨μ1, ρ, τ1, rh1, rs.le l1, (GotS.bnd (rel := RVr B) g1).imp fun xv H2 ⟨x2, τ2, μ2, l2, rh2, rx, g2, q2⟩ => ?_⟩
      refine ⟨μ2, ρ, τ2, rh2, (rs.le l1).le l2, (GotS.bnd (rel := RVr B) g2).imp fun yv H3 ⟨y, τ3, μ3, l3, rh3, ry, g3, q3⟩ => ?_⟩
      have rx' : RV B.K μ2 H2 x2 xv := rx
      have ry' : RV B.K μ3 H3 y yv := ry
      have rw' : RV B.K μ1 H1 w1 vv := rw1
      cases rx' with
      | @ref n a ha =>
        cases es : setItem τ3 (.ref n) y w1 with
        | none => rw [es] at g3; exact g3.elim
        | some τ4 =>
          rw [es] at g3
          unfold setItem at es
          cases e4 : τ3[n]? with
          | none => simp only [e4] at es; cases es
          | some ob =>
            obtain ⟨a', ha', ho⟩ := rh3.at_ e4
            obtain rfl := Option.some.inj (ha'.symm.trans (l3.get ha))
            cases ob with
            | lst xs =>
              simp only [e4] at es
              cases ry' with
              | int kk =>
                cases ei : ixN xs.length kk with
                | none => simp only [ei] at es; cases es
                | some j =>
                  simp only [ei] at es
                  cases es
                  obtain ⟨vs, h0, r⟩ := ho
                  refine ⟨a', vs, kk, j, rfl, rfl, h0, by rw [← r.length]; exact ei, ?_⟩
                  have l4 : Le B.K μ3 H3 μ3 (upd H3 a' (.lst (vs.set j vv))) := ⟨⟨[], by simp⟩, tup_upd (noTup_lst h0)⟩
                  obtain ⟨rh4, _⟩ := rh3.put (o := .lst (xs.set j w1)) (ho := .lst (vs.set j vv)) ha' e4 (fun xs z => by cases z) (noTup_lst h0) ⟨_, upd_same, (RVs.set ((rw'.le l2).le l3) j r).le l4⟩
                  exact g3 μ3 _ σ l4 rh4 ((((rs.le l1).le l2).le l3).le l4)
              | _ => cases es
            | dic kvs => exact absurd ⟨w1, τ1, n, τ2, y, τ3, kvs, q1, q2, q3, e4⟩ hd
            | _ => simp only [e4] at es; cases es
      | _ => exact False.elim g3

/-- EVERY STATEMENT -/
theorem ss_all : ∀ (ir : S) (X : L2.Cx) (Z : Sx) (Wx : WX), FitS G T C B k X Z Wx → SndS G T C B X Z Wx ir := by
  intro ir
  induction ir with
  | nil => exact fun X Z Wx F => ss_nil F
  | cons s r ihs ihr => exact fun X Z Wx F => ss_cons F (ihs X Z Wx F) (ihr X Z Wx F)
  | ex e => exact fun X Z Wx F => ss_ex F
  | set i e => exact fun X Z Wx F => ss_set F
  | setT is e => exact fun X Z Wx F => ss_setT F
  | setP i j as => exact fun X Z Wx F => SndS.one rfl fun x h => ff h
  | setF o f e => exact fun X Z Wx F => ss_setF F
  | setI o i e => exact fun X Z Wx F => ss_setI F
  | aug i o e => exact fun X Z Wx F => ss_aug F
  | augF o f p e => exact fun X Z Wx F => ss_augF F
  | ife t a b iha ihb => exact fun X Z Wx F => ss_ife F (iha X Z Wx F) (ihb X Z Wx F)
  | loop g it b ihb => exact fun X Z Wx F => ss_loop F (ihb X Z Wx F)
  | whl t b ihb => exact fun X Z Wx F => ss_whl F (ihb X Z Wx F)
  | ret e => exact fun X Z Wx F => ss_ret F
  | retN => exact fun X Z Wx F => ss_retN F
  | brk => exact fun X Z Wx F => ss_brk F
  | cont => exact fun X Z Wx F => ss_cont F
  | pass => exact fun X Z Wx F => ss_pass F
  | raise c as => exact fun X Z Wx F => ss_raise F
  | «try» b c i h ih1 ih2 => exact fun X Z Wx F => SndS.one rfl fun x h => ff h
end

/-! ### defs -/
/-- a def of the text and its counterpart -/
structure Def1 (G : Gt) (K : PySem.W.Frag) (d : Df) (a : Addr) (x qual : Str) (st : Stmt) (fd : FuncData) (N ps : List Str) : Prop where
  fn : Fun K x qual st a fd
  bd : Binds K fd ps []
  sc : FnScope N ps (defScope st)
  many : d.many = ps.length
  slots : d.slots = N.length
  body : (chkS G ⟨N, defScope st, (defScope st).names⟩ d.body).b (defBody st) = true
def DefOk (G : Gt) (K : PySem.W.Frag) (d : Df) (a : Addr) : Prop := ∃ x qual st fd N ps, Def1 G K d a x qual st fd N ps
/-- what the module has, as the tables say -/
structure Lay (G : Gt) (T : Tb) (F : Nat → Option Df) (B : Bs) (mg : Str → Option Value) : Prop where
  fn : ∀ x f, G.fn x = some f → ∃ a d, mg x = some (.ref a) ∧ F f = some d ∧ DefOk G B.K d a
  con : ∀ x w, G.con x = some w → isRef w = false → ∃ v u, mg x = some u ∧ RelV v u ∧ ∀ μ H, RV B.K μ H w v
  bi : ∀ x, G.bi x = true → mg x = none
  cl : ∀ x c, G.cl x = some c → mg x = some (.ref (B.Cl c)) ∧ PySem.W.keepIn B.K (.ref (B.Cl c)) = true
  meth : ∀ c m f, T.meth c m = some f → ∃ a d, Cls B.K (B.Cl c) ∧ Meth B.K (B.Cl c) m a ∧ PySem.W.makesIn B.K (B.Cl c) = true ∧ PySem.W.keepIn B.K (.ref (B.Cl c)) = true ∧ F f = some d ∧ DefOk G B.K d a
  attr : ∀ c f, T.attr c f = true → Cls B.K (B.Cl c) ∧ NoAttr B.K (B.Cl c) f
  xc : ∀ n c, G.xc n = some c → XcOk B.K mg n (B.Xc c)

section
variable {G : Gt} {T : Tb} {F : Nat → Option Df} {B : Bs} {P : Program} {w : World} {mg : Str → Option Value} {base : Heap}
theorem rs_start {μ : List Addr} {H : Hp} {d : Df} {N : List Str} {ws : List W} {vs : List V} (h : d.slots = N.length) (r : RVs B.K μ H ws vs) : RS B.K μ H (Mi.start d ws) (L2.start N vs) := by
  refine ⟨?_, fun i w' e => ?_⟩
  · unfold Mi.start L2.start
    rw [List.length_append, List.length_append, List.length_map, List.length_map, List.length_replicate, List.length_replicate, r.length, h]
  · unfold Mi.start at e
    unfold L2.start
    by_cases hi : i < ws.length
    · rw [List.getElem?_append_left (by rw [List.length_map]; exact hi), List.getElem?_map] at e
      cases e2 : ws[i]? with
      | none => rw [e2] at e; cases e
      | some x =>
        rw [e2] at e
        cases e
        obtain ⟨v, hv, rv⟩ := r.get e2
        refine ⟨v, ?_, rv⟩
        rw [List.getElem?_append_left (by rw [List.length_map, ← r.length]; exact hi), List.getElem?_map, hv]
        rfl
    · rw [List.getElem?_append_right (by rw [List.length_map]; omega)] at e
      have := List.getElem?_eq_some_iff.mp e
      obtain ⟨h1, h2⟩ := this
      rw [List.getElem_replicate] at h2
      cases h2
theorem evF_ar {n f : Nat} {d : Df} (h : F f = some d) (ws : List W) (τ : Sto) : evF T F n f ws τ = .no ∨ ws.length = d.many := by
  cases n with
  | zero => exact .inl rfl
  | succ n =>
    by_cases hl : ws.length = d.many
    · exact .inr hl
    · refine .inl ?_
      unfold evF
      rw [h]
      exact if_neg hl
theorem defs_ok (L : Lay G T F B mg) : ∀ (n f : Nat) (d : Df) (a : Addr), F f = some d → ∀ x qual st fd N ps, Def1 G B.K d a x qual st fd N ps → FnOk P w B.K mg base (L2.CX P w) (2 * n) a fd ps (spF (evF T F n) B f ps.length) := by
  intro n
  induction n with
  | zero =>
    intro f d a hf x qual st fd N ps D
    refine ⟨fun vs H Q E h => h.1, fun A outer s H args us vs Q E hr e0 hb hv h => ?_⟩
    obtain ⟨_, _, _, _, _, _, g⟩ := h
    exact False.elim g
  | succ n ih =>
    intro f d a hf x qual st fd N ps D
    have cal : ∀ f' d' a', F f' = some d' → DefOk G B.K d' a' → Cal P w B.K mg base (evF T F n) B (2 * n) f' a' := by
      rintro f' d' a' hf' ⟨x', qual', st', fd', N', ps', D'⟩
      exact ⟨⟨fd', ps', D'.bd, ih f' d' a' hf' _ _ _ _ _ _ D', fun ws τ => by rw [← D'.many]; exact evF_ar hf' ws τ⟩, D'.fn.kp⟩
    show FnOk P w B.K mg base (L2.CX P w) (2 * n + 1 + 1) a fd ps (spF (evF T F (n + 1)) B f ps.length)
    refine D.fn.okX D.sc (fun vs H Q E h => h.1) fun cdv A outer s H vs Q E hr h => ?_
    obtain ⟨hl, μ, τ, ws, rh, rv, g⟩ := h
    have fit : FitS G T (evF T F n) B (2 * n) (cxOf (L2.CX P w) P w B.K mg base N qual (defScope st) a cdv A outer s H E) ⟨N, defScope st, (defScope st).names⟩ (fun cls d _ H => E cls d H) := by
      refine { N := rfl, nd := D.sc.nd, sc := rfl, own := fun y hy => ?_, calm := rfl, K := rfl, room := hr, con := L.con, bi := L.bi, fn := fun y f' e => ?_, cl := L.cl, meth := fun c m f' e => ?_, attr := L.attr, tk := takes_of rfl rfl rfl rfl, po := passes_of rfl, kd := D.sc.kind, xc := L.xc }
      · refine ⟨?_, .inl rfl⟩
        have h' : (match (defScope st).names.lookup y with
          | some .local => true | some .cell => true | _ => false) = true := hy
        show (defScope st).names.lookup y = some .local ∨ (defScope st).names.lookup y = some .cell
        cases e : (defScope st).names.lookup y with
        | none => rw [e] at h'; exact ff h'
        | some kd =>
          rw [e] at h'
          cases kd with
          | «local» => exact .inl rfl
          | cell => exact .inr rfl
          | _ => exact ff h'
      · obtain ⟨a', d', e1, e2, e3⟩ := L.fn y f' e
        exact ⟨a', e1, cal f' d' a' e2 e3⟩
      · obtain ⟨a', d', e1, e2, e3, e4, e5, e6⟩ := L.meth c m f' e
        exact ⟨a', e1, e2, e3, e4, cal f' d' a' e5 e6⟩
    refine ⟨_, (ss_all d.body _ _ _ fit).b (defBody st) D.body, μ, Mi.start d ws, τ, rh, rs_start D.slots rv, ?_⟩
    have g' : Got B (RVr B) (fun cls d _ H => E cls d H) μ H (evF T F (n + 1) f ws τ) Q := g
    have hlw : ws.length = d.many := by rw [D.many, ← hl]; exact rv.length
    have e : evF T F (n + 1) f ws τ = finish (evS T (evF T F n) d.body (Mi.start d ws) τ) := by
      conv => lhs; unfold evF
      rw [hf]
      exact if_pos hlw
    rw [e] at g'
    cases er : evS T (evF T F n) d.body (Mi.start d ws) τ with
    | no => rw [er] at g'; exact False.elim g'
    | exn x ρ' τ' => rw [er] at g'; exact g'
    | ok fl τ' =>
      rw [er] at g'
      cases fl with
      | nx ρ' => exact fun μ' H' σ' l r _ => g' μ' H' .non l r .non
      | rt w => exact g'
      | bk ρ' => exact False.elim g'
      | ct ρ' => exact False.elim g'

/-- a law's promise, from the run of its counterpart at every script -/
theorem law_sp {C : Calls} {f : Nat} {P : List Int → Prop} (h : ∀ ns : List Int, P ns → ∃ τ, C f [.ref 0] [.frz ns] = .ok (.bl true) τ) (H : Hp) (a : Addr) (ns : List Int) (hl : P ns) (s : SqL B.K H a (ns.map V.int)) :
    spF C B f 1 [.ref a] H (fun v _ => v = .bl true) fun _ _ _ => False := by
  refine ⟨rfl, [a], [.frz ns], [.ref 0], ⟨rfl, fun i j b hne hi hj => ?_, fun i b o hi ho => ?_⟩, .cons (.ref rfl) .nil, ?_⟩
  · have h1 := (List.getElem?_eq_some_iff.mp hi).1
    have h2 := (List.getElem?_eq_some_iff.mp hj).1
    have h1' : i < 1 := h1
    have h2' : j < 1 := h2
    exact absurd (by omega) hne
  · have h1 := (List.getElem?_eq_some_iff.mp hi).1
    have h1' : i < 1 := h1
    have e : i = 0 := by omega
    subst e
    cases hi
    cases ho
    exact s
  · obtain ⟨τ, e⟩ := h ns hl
    rw [e]
    intro μ' H' v _ _ rv
    have rv' : RV B.K μ' H' (.bl true) v := rv
    cases rv'
    rfl
theorem law_cx (P : Program) (w : World) (H : Hp) (s : Shared) (e : Value) (s' : Shared) (h : L2.CX P w [] H s (fun _ _ _ => False) e s') : False := by
  obtain ⟨_, _, _, _, _, _, _, _, _, _, _, _, q⟩ := h
  exact q
end
end Mi
/-! Mi14: from what the top has left to the tables. -/
namespace Mi
open PySem PySem.Spec PyProof.Rows L2
def look {α : Type} (l : List (Str × α)) (x : Str) : Option α := (l.find? fun p => decide (p.1 = x)).map (·.2)
theorem look_mem {α : Type} : ∀ {l : List (Str × α)} {x : Str} {v : α}, look l x = some v → (x, v) ∈ l
  | [], _, _, h => by cases h
  | (y, u) :: r, x, v, h => by
    unfold look at h
    rw [List.find?_cons] at h
    by_cases e : y = x
    · rw [decide_eq_true (show (y, u).1 = x from e)] at h
      cases h
      subst e
      exact List.mem_cons_self
    · rw [decide_eq_false (show ¬ (y, u).1 = x from e)] at h
      exact List.mem_cons_of_mem _ (look_mem (l := r) h)
/-- a def as the top has left it -/
structure FnAt (K : PySem.W.Frag) (x qual : Str) (st : Stmt) (f : Addr) : Prop where
  lk : ∃ (oc : Value) (od : Option Addr) (kV dc pm : Value) (an : Option Addr) (cd ct : Value) (sl : Array (Option Value)),
    K.lookup f = some ⟨oc, od, .func (PySem.W.fnOf x qual (defArgs st) (defBody st) (defScope st) .none kV dc pm an cd ct), sl⟩ ∧ PySem.W.codeIn K cd qual = true
  kp : PySem.W.keepIn K (.ref f) = true
theorem fnAt {K : PySem.W.Frag} {x qual : Str} {st : Stmt} {f : Addr} {oc kV dc pm cd ct : Value} {od an : Option Addr} {sl : Array (Option Value)}
    (l : K.lookup f = some ⟨oc, od, .func (PySem.W.fnOf x qual (defArgs st) (defBody st) (defScope st) .none kV dc pm an cd ct), sl⟩) (c : PySem.W.codeIn K cd qual = true) (k : PySem.W.keepIn K (.ref f) = true) : FnAt K x qual st f :=
  ⟨⟨_, _, _, _, _, _, _, _, _, l, c⟩, k⟩
section
variable {G : Gt} {K : PySem.W.Frag} {d : Df} {a : Addr} {x qual : Str} {st : Stmt} {N ps : List Str}
theorem def1_of (A : FnAt K x qual st a)
    (bd : ∀ (kV doc pm : Value) (an : Option Addr) (cdv ct : Value) (us : List Value), us.length = ps.length → bindArgs (PySem.W.fnOf x qual (defArgs st) (defBody st) (defScope st) .none kV doc pm an cdv ct) ⟨us, []⟩ = pure (ps.zip us))
    (sc : FnScope N ps (defScope st)) (many : d.many = ps.length) (slots : d.slots = N.length) (body : (chkS G ⟨N, defScope st, (defScope st).names⟩ d.body).b (defBody st) = true) :
    ∃ fd, Def1 G K d a x qual st fd N ps ∧ ∃ (kV doc pm : Value) (an : Option Addr) (cdv ct : Value), fd = PySem.W.fnOf x qual (defArgs st) (defBody st) (defScope st) .none kV doc pm an cdv ct := by
  obtain ⟨oc, od, kV, dc, pm, an, cd, ct, sl, l, c⟩ := A.lk
  have F := fun_mk l c A.kp
  exact ⟨_, ⟨F, F.binds bd, sc, many, slots, body⟩, kV, dc, pm, an, cd, ct, rfl⟩
theorem defOk_of (A : FnAt K x qual st a)
    (bd : ∀ (kV doc pm : Value) (an : Option Addr) (cdv ct : Value) (us : List Value), us.length = ps.length → bindArgs (PySem.W.fnOf x qual (defArgs st) (defBody st) (defScope st) .none kV doc pm an cdv ct) ⟨us, []⟩ = pure (ps.zip us))
    (sc : FnScope N ps (defScope st)) (many : d.many = ps.length) (slots : d.slots = N.length) (body : (chkS G ⟨N, defScope st, (defScope st).names⟩ d.body).b (defBody st) = true) : DefOk G K d a := by
  obtain ⟨fd, D, _⟩ := def1_of A bd sc many slots body
  exact ⟨_, _, _, _, _, _, D⟩
end
/-- the law's own def -/
theorem law_end {G : Gt} {T : Tb} {F : Nat → Option Df} {B : Bs} {P : Program} {w : World} {mg : Str → Option Value} {n f : Nat} {d : Df} {fa : Addr} {x y qual : Str} {st : Stmt} {N : List Str} (L : Lay G T F B mg) (hf : F f = some d)
    (A : FnAt B.K x qual st fa) (bd : ∀ (kV doc pm : Value) (an : Option Addr) (cdv ct : Value) (us : List Value), us.length = [y].length → bindArgs (PySem.W.fnOf x qual (defArgs st) (defBody st) (defScope st) .none kV doc pm an cdv ct) ⟨us, []⟩ = pure ([y].zip us))
    (sc : FnScope N [y] (defScope st)) (many : d.many = 1) (slots : d.slots = N.length) (body : (chkS G ⟨N, defScope st, (defScope st).names⟩ d.body).b (defBody st) = true) :
    ∃ fd : FuncData, (∀ (s : Shared) (u : Value), BindsTo s fd ⟨[u], []⟩ [(y, u)]) ∧ ∀ base : Heap, B.K.In base → base.Ns mainGlobals mg → FnOk P w B.K mg base (L2.CX P w) (2 * n) fa fd [y] (spF (evF T F n) B f 1) := by
  obtain ⟨fd, D, kV, doc, pm, an, cdv, ct, rfl⟩ := def1_of A bd sc many slots body
  exact ⟨_, fun s u => .of_eq (bd kV doc pm an cdv ct [u] rfl), fun base _ _ => defs_ok L n f d fa hf _ _ _ _ _ _ D⟩
end Mi
/-! Mi15: lemmas for runs in the small language. -/
namespace Mi
open PySem PySem.Spec PyProof.Rows L2
theorem pre_get {τ τ' : Sto} (p : τ <+: τ') {n : Nat} {o : AO} (h : τ[n]? = some o) : τ'[n]? = some o := by
  obtain ⟨r, rfl⟩ := p
  rw [List.getElem?_append_left (List.getElem?_eq_some_iff.mp h).1]
  exact h
theorem pre_seq {τ τ' : Sto} (p : τ <+: τ') {n : Nat} {xs : List W} (h : seqOf τ n = some xs) : seqOf τ' n = some xs := by
  unfold seqOf at h ⊢
  cases e : τ[n]? with
  | none => rw [e] at h; cases h
  | some o => rw [pre_get p e]; rw [e] at h; exact h
theorem pre_ok {gs : List (Nat × List W)} {τ τ' : Sto} (p : τ <+: τ') (h : It.ok gs τ) : It.ok gs τ' := fun q hq => pre_seq p (h q hq)
theorem pre_set {τ0 τ : Sto} {D : Nat} {o : AO} (p : τ0 <+: τ) (h : τ0.length ≤ D) : τ0 <+: τ.set D o := by
  obtain ⟨r, rfl⟩ := p
  rw [List.set_append_right _ _ h]
  exact List.prefix_append _ _
theorem pre_add {τ0 τ : Sto} (o : Sto) (p : τ0 <+: τ) : τ0 <+: τ ++ o := p.trans (List.prefix_append _ _)
@[simp] theorem at_end (τ : Sto) (o : AO) : (τ ++ [o])[τ.length]? = some o := List.getElem?_concat_length
theorem seq_end (τ : Sto) (xs : List W) : seqOf (τ ++ [.lst xs]) τ.length = some xs := by
  unfold seqOf
  rw [at_end]
@[simp] theorem eqW_int (τ : Sto) (a b : Int) : eqW τ (.int a) (.int b) = some (a == b) := rfl
/-- a comprehension whose turns only make new things -/
theorem lcL_map {g : G} {gs : List (Nat × List W)} {ρ : Sl} {test : Sl → Sto → R Bool} {elt : Sl → Sto → R W} {D : Nat} {τ0 : Sto} (hD : τ0.length ≤ D) (hgs : It.ok gs τ0) (f : W → W → Prop) :
    ∀ (xs : List W), (∀ x ∈ xs, ∃ ρ1, putG g x ρ = some ρ1 ∧ ∀ τ, τ0 <+: τ → test ρ1 τ = .ok true τ ∧ ∃ y τ', f x y ∧ elt ρ1 τ = .ok y τ' ∧ τ <+: τ') →
    ∀ (acc : List W) (τ : Sto), τ0 <+: τ → τ[D]? = some (.lst acc) → acc.length + xs.length ≤ sizeLine →
      ∃ ys τ', lcL g gs ρ test elt D xs τ = .ok (.ref D) τ' ∧ τ0 <+: τ' ∧ τ'[D]? = some (.lst (acc ++ ys)) ∧ Paired f xs ys
  | [], _, acc, τ, p, h, _ => by
    refine ⟨[], τ, ?_, p, by rw [List.append_nil]; exact h, .nil⟩
    unfold lcL
    exact if_pos (pre_ok p hgs)
  | x :: r, st, acc, τ, p, h, hl => by
    obtain ⟨ρ1, e1, e2⟩ := st x List.mem_cons_self
    obtain ⟨e3, y, τ2, fy, e4, p2⟩ := e2 τ p
    have hl' : acc.length + (r.length + 1) ≤ sizeLine := hl
    have h2 := pre_get p2 h
    have hs : (τ2.set D (.lst (acc ++ [y])))[D]? = some (.lst (acc ++ [y])) := by
      rw [List.getElem?_set_self (List.getElem?_eq_some_iff.mp h2).1]
    obtain ⟨ys, τ', a1, a2, a3, a4⟩ := lcL_map hD hgs f r (fun z hz => st z (List.mem_cons_of_mem _ hz)) (acc ++ [y]) (τ2.set D (.lst (acc ++ [y]))) (pre_set (p.trans p2) hD) hs (by rw [List.length_append]; show acc.length + 1 + r.length ≤ _; omega)
    refine ⟨y :: ys, τ', ?_, a2, by rw [a3, List.append_assoc]; rfl, .cons fy a4⟩
    unfold lcL
    rw [if_pos (pre_ok p hgs), e1]
    simp only [e3, e4, h2]
    rw [if_pos (by omega)]
    exact a1
/-- a for that only goes on -/
theorem forL_inv {g : G} {gs : List (Nat × List W)} {body : Sl → Sto → R Fl} {Inv : Sl → Sto → Prop} (hgs : ∀ ρ τ, Inv ρ τ → It.ok gs τ) :
    ∀ (xs : List W), (∀ x ∈ xs, ∀ ρ τ, Inv ρ τ → ∃ ρ1, putG g x ρ = some ρ1 ∧ ∃ ρ2 τ2, body ρ1 τ = .ok (.nx ρ2) τ2 ∧ Inv ρ2 τ2) →
    ∀ ρ τ, Inv ρ τ → ∃ ρ' τ', forL g gs body xs ρ τ = .ok (.nx ρ') τ' ∧ Inv ρ' τ'
  | [], _, ρ, τ, h => by
    refine ⟨ρ, τ, ?_, h⟩
    unfold forL
    exact if_pos (hgs _ _ h)
  | x :: r, st, ρ, τ, h => by
    obtain ⟨ρ1, e1, ρ2, τ2, e2, h2⟩ := st x List.mem_cons_self ρ τ h
    obtain ⟨ρ', τ', a1, a2⟩ := forL_inv hgs r (fun z hz => st z (List.mem_cons_of_mem _ hz)) ρ2 τ2 h2
    refine ⟨ρ', τ', ?_, a2⟩
    unfold forL
    rw [if_pos (hgs _ _ h), e1]
    simp only [e2]
    exact a1
/-! ### the evaluator, step by step -/
theorem R.bind_congr {α β : Type} {r r' : R α} {f : α → Sto → R β} (h : r = r') : r.bind f = r'.bind f := by rw [h]
def seqR (r : R Fl) (f : Sl → Sto → R Fl) : R Fl := match r with
  | .ok (.nx ρ1) τ1 => f ρ1 τ1
  | x => x
theorem seqR_congr {r r' : R Fl} {f : Sl → Sto → R Fl} (h : r = r') : seqR r f = seqR r' f := by rw [h]
@[simp] theorem seqR_nx (ρ : Sl) (τ : Sto) (f : Sl → Sto → R Fl) : seqR (.ok (.nx ρ) τ) f = f ρ τ := rfl
@[simp] theorem seqR_rt (w : W) (τ : Sto) (f : Sl → Sto → R Fl) : seqR (.ok (.rt w) τ) f = .ok (.rt w) τ := rfl
@[simp] theorem seqR_bk (ρ : Sl) (τ : Sto) (f : Sl → Sto → R Fl) : seqR (.ok (.bk ρ) τ) f = .ok (.bk ρ) τ := rfl
@[simp] theorem seqR_ct (ρ : Sl) (τ : Sto) (f : Sl → Sto → R Fl) : seqR (.ok (.ct ρ) τ) f = .ok (.ct ρ) τ := rfl
@[simp] theorem seqR_exn (x : Xn) (ρ : Sl) (τ : Sto) (f : Sl → Sto → R Fl) : seqR (.exn x ρ τ) f = .exn x ρ τ := rfl
def getV (o : Option (Option W)) (τ : Sto) : R W := match o with
  | some (some w) => .ok w τ
  | _ => .no
@[simp] theorem getV_some (w : W) (τ : Sto) : getV (some (some w)) τ = .ok w τ := rfl
def dT (r : R W) : R Bool := r.bind fun x τ1 => lift τ1 (truth τ1 x)
@[simp] theorem dT_ok (w : W) (τ : Sto) : dT (.ok w τ) = lift τ (truth τ w) := rfl
@[simp] theorem dT_exn (x : Xn) (ρ : Sl) (τ : Sto) : dT (.exn x ρ τ) = .exn x ρ τ := rfl
def toP (r : R W) : R (Option Int) := r.bind fun x τ1 => match x with
    | .int i => .ok (some i) τ1
    | _ => .no
@[simp] theorem toP_int (i : Int) (τ : Sto) : toP (.ok (.int i) τ) = .ok (some i) τ := rfl
def negR (x : W) (τ : Sto) : R W := match x with
  | .int i => .ok (.int (-i)) τ
  | _ => .no
@[simp] theorem negR_int (i : Int) (τ : Sto) : negR (.int i) τ = .ok (.int (-i)) τ := rfl
def notR (x : W) (τ : Sto) : R W := match x with
  | .bl b => .ok (.bl (!b)) τ
  | _ => .no
@[simp] theorem notR_bl (b : Bool) (τ : Sto) : notR (.bl b) τ = .ok (.bl (!b)) τ := rfl
def boolR (u : Bool) (f : Sto → R W) (x : W) (τ : Sto) : R W := match x with
  | .bl b => if b = u then f τ else .ok (.bl b) τ
  | _ => .no
@[simp] theorem boolR_bl (u b : Bool) (f : Sto → R W) (τ : Sto) : boolR u f (.bl b) τ = if b = u then f τ else .ok (.bl b) τ := rfl
def chainR (o : Option Bool) (f : Sto → R W) (τ : Sto) : R W := match o with
  | some true => f τ
  | some false => .ok (.bl false) τ
  | none => .no
@[simp] theorem chainR_some (b : Bool) (f : Sto → R W) (τ : Sto) : chainR (some b) f τ = if b = true then f τ else .ok (.bl false) τ := by cases b <;> rfl
@[simp] theorem finish_rt (w : W) (τ : Sto) : Mi.finish (.ok (.rt w) τ) = .ok w τ := rfl
@[simp] theorem finish_nx (ρ : Sl) (τ : Sto) : Mi.finish (.ok (.nx ρ) τ) = .ok .non τ := rfl
@[simp] theorem finish_exn (x : Xn) (ρ : Sl) (τ : Sto) : Mi.finish (.exn x ρ τ) = .exn x ρ τ := rfl
def loopR (r : R Fl) (f : Sl → Sto → R Fl) : R Fl := match r with
  | .ok (.nx ρ2) τ2 => f ρ2 τ2
  | .ok (.ct ρ2) τ2 => f ρ2 τ2
  | .ok (.bk ρ2) τ2 => .ok (.nx ρ2) τ2
  | .ok (.rt w) τ2 => .ok (.rt w) τ2
  | .exn x ρ τ => .exn x ρ τ
  | .no => .no
theorem loopR_congr {r r' : R Fl} {f : Sl → Sto → R Fl} (h : r = r') : loopR r f = loopR r' f := by rw [h]
@[simp] theorem loopR_nx (ρ : Sl) (τ : Sto) (f : Sl → Sto → R Fl) : loopR (.ok (.nx ρ) τ) f = f ρ τ := rfl
@[simp] theorem loopR_ct (ρ : Sl) (τ : Sto) (f : Sl → Sto → R Fl) : loopR (.ok (.ct ρ) τ) f = f ρ τ := rfl
@[simp] theorem loopR_bk (ρ : Sl) (τ : Sto) (f : Sl → Sto → R Fl) : loopR (.ok (.bk ρ) τ) f = .ok (.nx ρ) τ := rfl
@[simp] theorem loopR_rt (w : W) (τ : Sto) (f : Sl → Sto → R Fl) : loopR (.ok (.rt w) τ) f = .ok (.rt w) τ := rfl
@[simp] theorem loopR_exn (x : Xn) (ρ : Sl) (τ : Sto) (f : Sl → Sto → R Fl) : loopR (.exn x ρ τ) f = .exn x ρ τ := rfl
def optR {α β : Type} (o : Option α) (f : α → R β) : R β := match o with
  | some a => f a
  | none => .no
theorem optR_congr {α β : Type} {o o' : Option α} {f : α → R β} (h : o = o') : optR o f = optR o' f := by rw [h]
@[simp] theorem optR_some {α β : Type} (a : α) (f : α → R β) : optR (some a) f = f a := rfl
section
variable (T : Tb) (C : Calls) (ρ : Sl) (τ : Sto)
@[simp] theorem ev_var (i : Nat) : (ev T C (.var i)).e ρ τ = getV ρ[i]? τ := rfl
@[simp] theorem ev_con (w : W) : (ev T C (.con w)).e ρ τ = .ok w τ := rfl
@[simp] theorem ev_nil_a  : (ev T C (.nil)).a ρ τ = .ok [] τ := rfl
@[simp] theorem ev_nil_t  : (ev T C (.nil)).t ρ τ = .ok true τ := rfl
@[simp] theorem ev_nil_p  : (ev T C (.nil)).p ρ τ = .ok none τ := rfl
@[simp] theorem ev_cons_a (a r : E) : (ev T C (.cons a r)).a ρ τ = ((ev T C a).e ρ τ).bind fun x τ1 => ((ev T C r).a ρ τ1).bind fun xs τ2 => .ok (x :: xs) τ2 := rfl
@[simp] theorem ev_one_v (a : E) (u : Bool) : (ev T C (.cons a .nil)).v u ρ τ = (ev T C a).e ρ τ := rfl
@[simp] theorem ev_cons_v (a b r : E) (u : Bool) : (ev T C (.cons a (.cons b r))).v u ρ τ = ((ev T C a).e ρ τ).bind (boolR u ((ev T C (.cons b r)).v u ρ)) := rfl
@[simp] theorem ev_one_b (a : E) (u : Bool) : (ev T C (.cons a .nil)).b u ρ τ = (ev T C a).t ρ τ := rfl
@[simp] theorem ev_cons_b (a b r : E) (u : Bool) : (ev T C (.cons a (.cons b r))).b u ρ τ = ((ev T C a).t ρ τ).bind fun k τ1 => if k = u then (ev T C (.cons b r)).b u ρ τ1 else .ok k τ1 := rfl
@[simp] theorem ev_op (o : Operator) (a b : E) : (ev T C (.op o a b)).e ρ τ = ((ev T C a).e ρ τ).bind fun x τ1 => ((ev T C b).e ρ τ1).bind fun y τ2 => binop o x y τ2 := rfl
@[simp] theorem ev_neg (a : E) : (ev T C (.neg a)).e ρ τ = ((ev T C a).e ρ τ).bind negR := rfl
@[simp] theorem ev_cmp (o : CmpOp) (a b : E) : (ev T C (.cmp o a b)).e ρ τ = ((ev T C a).e ρ τ).bind fun x τ1 => ((ev T C b).e ρ τ1).bind fun y τ2 => lift τ2 ((cmpop o x y τ2).map .bl) := rfl
@[simp] theorem ev_chain (o p : CmpOp) (a b c : E) : (ev T C (.chain o p a b c)).e ρ τ = ((ev T C a).e ρ τ).bind fun x τ1 => ((ev T C b).e ρ τ1).bind fun y τ2 => chainR (cmpop o x y τ2) (fun τ2 => ((ev T C c).e ρ τ2).bind fun z τ3 => lift τ3 ((cmpop p y z τ3).map .bl)) τ2 := rfl
@[simp] theorem ev_conj (a : E) : (ev T C (.conj a)).e ρ τ = (ev T C a).v true ρ τ := rfl
@[simp] theorem ev_conj_t (a : E) : (ev T C (.conj a)).t ρ τ = (ev T C a).b true ρ τ := rfl
@[simp] theorem ev_disj (a : E) : (ev T C (.disj a)).e ρ τ = (ev T C a).v false ρ τ := rfl
@[simp] theorem ev_disj_t (a : E) : (ev T C (.disj a)).t ρ τ = (ev T C a).b false ρ τ := rfl
@[simp] theorem ev_not (a : E) : (ev T C (.not a)).e ρ τ = ((ev T C a).e ρ τ).bind notR := rfl
@[simp] theorem ev_not_t (a : E) : (ev T C (.not a)).t ρ τ = ((ev T C a).t ρ τ).bind fun b τ1 => .ok (!b) τ1 := rfl
@[simp] theorem ev_ite (t a b : E) : (ev T C (.ite t a b)).e ρ τ = ((ev T C t).t ρ τ).bind fun k τ1 => if k = true then (ev T C a).e ρ τ1 else (ev T C b).e ρ τ1 := rfl
@[simp] theorem ev_tup (a : E) : (ev T C (.tup a)).e ρ τ = ((ev T C a).a ρ τ).bind fun ws τ1 => if ws.length ≤ sizeLine then .ok (.tup ws) τ1 else .no := rfl
@[simp] theorem ev_lst (a : E) : (ev T C (.lst a)).e ρ τ = ((ev T C a).a ρ τ).bind fun ws τ1 => if ws.length ≤ sizeLine then newL τ1 ws else .no := rfl
@[simp] theorem ev_dic (a : E) : (ev T C (.dic .nil a)).e ρ τ = .ok (.ref τ.length) (τ ++ [.dic []]) := rfl
@[simp] theorem ev_dic1 (x : Str) (a : E) : (ev T C (.dic (.cons (.con (.str x)) .nil) a)).e ρ τ = ((ev T C a).a ρ (τ ++ [.dic []])).bind (dispR τ.length [.inr x]) := rfl
@[simp] theorem ev_ix (a b : E) : (ev T C (.ix a b)).e ρ τ = ((ev T C a).e ρ τ).bind fun x τ1 => ((ev T C b).e ρ τ1).bind fun y τ2 => lift τ2 (itemAt τ2 x y) := rfl
@[simp] theorem ev_slice (a lo hi : E) : (ev T C (.slice a lo hi)).e ρ τ = ((ev T C a).e ρ τ).bind fun x τ1 => ((ev T C lo).p ρ τ1).bind fun l τ2 => ((ev T C hi).p ρ τ2).bind fun h τ3 => sliceW x l h τ3 := rfl
@[simp] theorem ev_fld (a : E) (f : Str) : (ev T C (.fld a f)).e ρ τ = ((ev T C a).e ρ τ).bind fun x τ1 => lift τ1 (fieldOf T τ1 x f) := rfl
@[simp] theorem ev_call (f : Nat) (a : E) : (ev T C (.call f a)).e ρ τ = ((ev T C a).a ρ τ).bind fun ws τ1 => tail ρ (C f ws τ1) := rfl
@[simp] theorem ev_bi (b : BI) (a : E) : (ev T C (.bi b a)).e ρ τ = ((ev T C a).a ρ τ).bind fun ws τ1 => builtin b ws τ1 := rfl
@[simp] theorem ev_isi (a : E) (t : Ty) : (ev T C (.isi a t)).e ρ τ = ((ev T C a).e ρ τ).bind fun x τ1 => lift τ1 ((tyOf τ1 x).map fun n => .bl (inst n t)) := rfl
@[simp] theorem ev_bm (m : BM) (a as : E) : (ev T C (.bm m a as)).e ρ τ = ((ev T C a).e ρ τ).bind fun x τ1 => if bmPre m x τ1 = true then ((ev T C as).a ρ τ1).bind fun ws τ2 => bmeth m x ws τ2 else .no := rfl
@[simp] theorem ev_lc (g : G) (it ts elt : E) (vs : List Nat) : (ev T C (.lc g it ts elt vs)).e ρ τ = ((ev T C it).i ρ τ).bind fun J τ1 => lcL g J.gs (wipeS ρ vs) (ev T C ts).t (ev T C elt).e τ1.length J.xs (τ1 ++ [.lst []]) := rfl
@[simp] theorem ev_seq (a : E) : (ev T C (.seq a)).i ρ τ = ((ev T C a).e ρ τ).bind seqI := rfl
@[simp] theorem ev_rng (a : E) : (ev T C (.rng a)).i ρ τ = ((ev T C a).a ρ τ).bind rngI := rfl
@[simp] theorem ev_zip (a : E) : (ev T C (.zip a)).i ρ τ = ((ev T C a).a ρ τ).bind zipI := rfl
@[simp] theorem ev_enum (a : E) : (ev T C (.enum a)).i ρ τ = ((ev T C a).e ρ τ).bind enumI := rfl
@[simp] theorem ev_var_t (i : Nat) : (ev T C (.var i)).t ρ τ = dT ((ev T C (.var i)).e ρ τ) := rfl
@[simp] theorem ev_var_p (i : Nat) : (ev T C (.var i)).p ρ τ = toP ((ev T C (.var i)).e ρ τ) := rfl
@[simp] theorem ev_con_t (w : W) : (ev T C (.con w)).t ρ τ = dT ((ev T C (.con w)).e ρ τ) := rfl
@[simp] theorem ev_con_p (w : W) : (ev T C (.con w)).p ρ τ = toP ((ev T C (.con w)).e ρ τ) := rfl
@[simp] theorem ev_op_t (o : Operator) (a b : E) : (ev T C (.op o a b)).t ρ τ = dT ((ev T C (.op o a b)).e ρ τ) := rfl
@[simp] theorem ev_op_p (o : Operator) (a b : E) : (ev T C (.op o a b)).p ρ τ = toP ((ev T C (.op o a b)).e ρ τ) := rfl
@[simp] theorem ev_neg_t (a : E) : (ev T C (.neg a)).t ρ τ = dT ((ev T C (.neg a)).e ρ τ) := rfl
@[simp] theorem ev_neg_p (a : E) : (ev T C (.neg a)).p ρ τ = toP ((ev T C (.neg a)).e ρ τ) := rfl
@[simp] theorem ev_cmp_t (o : CmpOp) (a b : E) : (ev T C (.cmp o a b)).t ρ τ = dT ((ev T C (.cmp o a b)).e ρ τ) := rfl
@[simp] theorem ev_chain_t (o p : CmpOp) (a b c : E) : (ev T C (.chain o p a b c)).t ρ τ = dT ((ev T C (.chain o p a b c)).e ρ τ) := rfl
@[simp] theorem ev_ite_t (t a b : E) : (ev T C (.ite t a b)).t ρ τ = dT ((ev T C (.ite t a b)).e ρ τ) := rfl
@[simp] theorem ev_ite_p (t a b : E) : (ev T C (.ite t a b)).p ρ τ = toP ((ev T C (.ite t a b)).e ρ τ) := rfl
@[simp] theorem ev_tup_t (a : E) : (ev T C (.tup a)).t ρ τ = dT ((ev T C (.tup a)).e ρ τ) := rfl
@[simp] theorem ev_lst_t (a : E) : (ev T C (.lst a)).t ρ τ = dT ((ev T C (.lst a)).e ρ τ) := rfl
@[simp] theorem ev_ix_t (a b : E) : (ev T C (.ix a b)).t ρ τ = dT ((ev T C (.ix a b)).e ρ τ) := rfl
@[simp] theorem ev_ix_p (a b : E) : (ev T C (.ix a b)).p ρ τ = toP ((ev T C (.ix a b)).e ρ τ) := rfl
@[simp] theorem ev_slice_t (a b c : E) : (ev T C (.slice a b c)).t ρ τ = dT ((ev T C (.slice a b c)).e ρ τ) := rfl
@[simp] theorem ev_fld_t (a : E) (f : Str) : (ev T C (.fld a f)).t ρ τ = dT ((ev T C (.fld a f)).e ρ τ) := rfl
@[simp] theorem ev_fld_p (a : E) (f : Str) : (ev T C (.fld a f)).p ρ τ = toP ((ev T C (.fld a f)).e ρ τ) := rfl
@[simp] theorem ev_call_t (f : Nat) (a : E) : (ev T C (.call f a)).t ρ τ = dT ((ev T C (.call f a)).e ρ τ) := rfl
@[simp] theorem ev_call_p (f : Nat) (a : E) : (ev T C (.call f a)).p ρ τ = toP ((ev T C (.call f a)).e ρ τ) := rfl
@[simp] theorem ev_meth_t (m : Str) (a as : E) : (ev T C (.meth m a as)).t ρ τ = dT ((ev T C (.meth m a as)).e ρ τ) := rfl
@[simp] theorem ev_meth_p (m : Str) (a as : E) : (ev T C (.meth m a as)).p ρ τ = toP ((ev T C (.meth m a as)).e ρ τ) := rfl
@[simp] theorem ev_bi_t (b : BI) (a : E) : (ev T C (.bi b a)).t ρ τ = dT ((ev T C (.bi b a)).e ρ τ) := rfl
@[simp] theorem ev_bi_p (b : BI) (a : E) : (ev T C (.bi b a)).p ρ τ = toP ((ev T C (.bi b a)).e ρ τ) := rfl
@[simp] theorem ev_isi_t (a : E) (t : Ty) : (ev T C (.isi a t)).t ρ τ = dT ((ev T C (.isi a t)).e ρ τ) := rfl
@[simp] theorem ev_bm_t (m : BM) (a as : E) : (ev T C (.bm m a as)).t ρ τ = dT ((ev T C (.bm m a as)).e ρ τ) := rfl
@[simp] theorem ev_lc_t (g : G) (it ts elt : E) (vs : List Nat) : (ev T C (.lc g it ts elt vs)).t ρ τ = dT ((ev T C (.lc g it ts elt vs)).e ρ τ) := rfl
@[simp] theorem evS_nil  : evS T C (.nil) ρ τ = .ok (.nx ρ) τ := rfl
@[simp] theorem evS_cons (s r : S) : evS T C (.cons s r) ρ τ = seqR (evS T C s ρ τ) (evS T C r) := by rw [evS]; rfl
@[simp] theorem evS_ex (e : E) : evS T C (.ex e) ρ τ = ((ev T C e).e ρ τ).bind fun _ τ1 => .ok (.nx ρ) τ1 := rfl
@[simp] theorem evS_set (i : Nat) (e : E) : evS T C (.set i e) ρ τ = ((ev T C e).e ρ τ).bind fun w τ1 => .ok (.nx (ρ.set i (some w))) τ1 := rfl
@[simp] theorem evS_setT (is : List Nat) (e : E) : evS T C (.setT is e) ρ τ = ((ev T C e).e ρ τ).bind fun w τ1 => optR (putG (.tup is) w ρ) fun ρ1 => .ok (.nx ρ1) τ1 := by
  rw [evS]
  refine congrArg (R.bind _) (funext fun w => funext fun τ1 => ?_)
  cases putG (.tup is) w ρ <;> rfl
@[simp] theorem evS_setF (a : E) (f : Str) (e : E) : evS T C (.setF a f e) ρ τ = ((ev T C e).e ρ τ).bind fun w τ1 => ((ev T C a).e ρ τ1).bind fun x τ2 => optR (setField T τ2 x f w) fun τ3 => .ok (.nx ρ) τ3 := by
  rw [evS]
  refine congrArg (R.bind _) (funext fun w => funext fun τ1 => congrArg (R.bind _) (funext fun x => funext fun τ2 => ?_))
  cases setField T τ2 x f w <;> rfl
@[simp] theorem evS_setI (a i e : E) : evS T C (.setI a i e) ρ τ = ((ev T C e).e ρ τ).bind fun w τ1 => ((ev T C a).e ρ τ1).bind fun x τ2 => ((ev T C i).e ρ τ2).bind fun y τ3 => optR (setItem τ3 x y w) fun τ4 => .ok (.nx ρ) τ4 := by
  rw [evS]
  refine congrArg (R.bind _) (funext fun w => funext fun τ1 => congrArg (R.bind _) (funext fun x => funext fun τ2 => congrArg (R.bind _) (funext fun y => funext fun τ3 => ?_)))
  cases setItem τ3 x y w <;> rfl
@[simp] theorem evS_aug (i : Nat) (o : Operator) (e : E) : evS T C (.aug i o e) ρ τ = (getV ρ[i]? τ).bind fun x _ => ((ev T C e).e ρ τ).bind fun y τ1 => optR (augW o x y) fun z => .ok (.nx (ρ.set i (some z))) τ1 := by
  rw [evS]
  cases ρ[i]? with
  | none => rfl
  | some x =>
    cases x with
    | none => rfl
    | some x =>
      refine congrArg (R.bind _) (funext fun y => funext fun τ1 => ?_)
      cases augW o x y <;> rfl
@[simp] theorem evS_ife (t : E) (a b : S) : evS T C (.ife t a b) ρ τ = ((ev T C t).t ρ τ).bind fun k τ1 => if k = true then evS T C a ρ τ1 else evS T C b ρ τ1 := rfl
@[simp] theorem evS_loop (g : G) (it : E) (b : S) : evS T C (.loop g it b) ρ τ = ((ev T C it).i ρ τ).bind fun J τ1 => forL g J.gs (evS T C b) J.xs ρ τ1 := rfl
@[simp] theorem evS_whl (t : E) (b : S) : evS T C (.whl t b) ρ τ = whlL (ev T C t).t (evS T C b) bigL ρ τ := rfl
@[simp] theorem evS_ret (e : E) : evS T C (.ret e) ρ τ = ((ev T C e).e ρ τ).bind fun w τ1 => .ok (.rt w) τ1 := rfl
@[simp] theorem evS_retN  : evS T C (.retN) ρ τ = .ok (.rt .non) τ := rfl
@[simp] theorem evS_brk  : evS T C (.brk) ρ τ = .ok (.bk ρ) τ := rfl
@[simp] theorem evS_cont  : evS T C (.cont) ρ τ = .ok (.ct ρ) τ := rfl
@[simp] theorem evS_pass  : evS T C (.pass) ρ τ = .ok (.nx ρ) τ := rfl
@[simp] theorem evS_raise (c : Nat) (as : E) : evS T C (.raise c as) ρ τ = .exn ⟨c, []⟩ ρ τ := rfl
end
section
variable {τ : Sto}
@[simp] theorem binop_int (o : Operator) (i j : Int) (τ : Sto) : binop o (.int i) (.int j) τ = lift τ ((Mi.binI o i j).map .int) := rfl
@[simp] theorem binop_str (x y : Str) (τ : Sto) : binop .Add (.str x) (.str y) τ = if x.length + y.length ≤ sizeLine then .ok (.str (x ++ y)) τ else .no := rfl
@[simp] theorem binop_tup (x y : List W) (τ : Sto) : binop .Add (.tup x) (.tup y) τ = if x.length + y.length ≤ sizeLine then .ok (.tup (x ++ y)) τ else .no := rfl
theorem binop_lst {n m : Nat} {x y : List W} (h : τ[n]? = some (.lst x)) (h' : τ[m]? = some (.lst y)) (l : x.length + y.length ≤ sizeLine) : binop .Add (.ref n) (.ref m) τ = newL τ (x ++ y) := by
  unfold binop
  simp only [h, h']
  rw [if_pos l]
  rfl
@[simp] theorem binI_add (i j : Int) : Mi.binI .Add i j = some (i + j) := rfl
@[simp] theorem binI_sub (i j : Int) : Mi.binI .Sub i j = some (i - j) := rfl
@[simp] theorem binI_mul_l {a b : Int} (h1 : -18446744073709551616 < a) (h2 : a < 18446744073709551616) : Mi.binI .Mult a b = some (a * b) := if_pos (.inl ⟨h1, h2⟩)
@[simp] theorem binI_mul_r {a b : Int} (h1 : -18446744073709551616 < b) (h2 : b < 18446744073709551616) : Mi.binI .Mult a b = some (a * b) := if_pos (.inr ⟨h1, h2⟩)
@[simp] theorem binI_div {a b : Int} (h1 : 0 < b) (h2 : b < 1073741824) : Mi.binI .FloorDiv a b = some (a / b) := if_pos ⟨h1, h2⟩
@[simp] theorem binI_fdiv {a b : Int} (h1 : b < 0) (h2 : -1073741824 < b) : Mi.binI .FloorDiv a b = some (a.fdiv b) := by
  show (if 0 < b ∧ b < 1073741824 then some (a / b) else if b ≠ 0 ∧ b.natAbs < 1073741824 then some (a.fdiv b) else none) = _
  rw [if_neg (by omega), if_pos (by omega)]
@[simp] theorem binI_fmod {a b : Int} (h1 : b < 0) : Mi.binI .Mod a b = some (a.fmod b) := by
  show (if 0 < b then some (a % b) else if b ≠ 0 then some (a.fmod b) else none) = _
  rw [if_neg (by omega), if_pos (by omega)]
@[simp] theorem binI_mod {a b : Int} (h1 : 0 < b) : Mi.binI .Mod a b = some (a % b) := if_pos h1
@[simp] theorem binI_pow {a b : Int} (h1 : 0 ≤ b) (h2 : b ≤ 1000000) (h3 : a.natAbs < 18446744073709551616) : Mi.binI .Pow a b = some (a ^ b.toNat) := if_pos ⟨h1, h2, h3⟩
@[simp] theorem inst_self (t : Ty) : inst t t = true := by cases t <;> rfl
@[simp] theorem inst_bi : inst .bool .int = true := rfl
@[simp] theorem inst_ib : inst .int .bool = false := rfl
@[simp] theorem inst_is : inst .int .str = false := rfl
@[simp] theorem inst_it : inst .int .tuple = false := rfl
@[simp] theorem inst_ti : inst .tuple .int = false := rfl
@[simp] theorem inst_si : inst .str .int = false := rfl
@[simp] theorem inst_st : inst .str .tuple = false := rfl
@[simp] theorem inst_ts : inst .tuple .str = false := rfl
theorem seq_lst {n : Nat} {xs : List W} (h : τ[n]? = some (.lst xs)) : seqOf τ n = some xs := by
  unfold seqOf
  rw [h]
def strB (x y : Str) : Option Bool := if PyData.strOk x = true ∧ PyData.strOk y = true then some (x == y) else none
theorem eqW_str (τ : Sto) (x y : Str) : eqW τ (.str x) (.str y) = strB x y := by
  show (if SeqAt.shaped (.str x) = true ∧ SeqAt.shaped (.str y) = true then some (PyData.eqv (.str x) (.str y)) else none) = _
  have e : ∀ z : Str, SeqAt.shaped (.str z) = PyData.strOk z := fun z => by
    unfold SeqAt.shaped
    have h1 : PyData.canLay0 (.str z) = PyData.strOk z := by simp only [PyData.canLay0]
    have h2 : decide (PyData.depth (.str z) ≤ 64) = true := decide_eq_true (by simp [PyData.depth])
    rw [h1, h2, Bool.and_true]
  rw [e, e]
  unfold strB
  have h3 : PyData.eqv (.str x) (.str y) = (x == y) := by simp only [PyData.eqv]
  rw [h3]
theorem toD_ints (τ : Sto) (d : Nat) : ∀ xs : List Int, mapO (toD τ d) (xs.map W.int) = some (xs.map PyData.int)
  | [] => rfl
  | x :: r => by
    have h : toD τ d (.int x) = some (.int x) := by cases d <;> rfl
    rw [List.map_cons, mapO, h, toD_ints τ d r]
    rfl
theorem lay_ints : ∀ xs : List Int, PyData.canLayAll0 (xs.map PyData.int) = true
  | [] => by simp only [List.map_nil, PyData.canLayAll0]
  | x :: r => by simp only [List.map_cons, PyData.canLayAll0, PyData.canLay0, lay_ints r, Bool.and_self]
theorem depth_ints : ∀ xs : List Int, PyData.depthAll (xs.map PyData.int) ≤ 1
  | [] => by simp [PyData.depthAll]
  | x :: r => by
    have := depth_ints r
    simp only [List.map_cons, PyData.depthAll, PyData.depth]
    omega
theorem shaped_ints (xs : List Int) : SeqAt.shaped (.list (xs.map PyData.int)) = true := by
  unfold SeqAt.shaped
  have h1 : PyData.canLay0 (.list (xs.map PyData.int)) = true := by
    simp only [PyData.canLay0]
    exact lay_ints xs
  have h2 : PyData.depth (.list (xs.map PyData.int)) ≤ 64 := by
    have := depth_ints xs
    simp only [PyData.depth]
    omega
  rw [h1, decide_eq_true h2, Bool.and_self]
theorem eqv_ints : ∀ xs ys : List Int, PyData.eqvAll (xs.map PyData.int) (ys.map PyData.int) = (xs == ys)
  | [], [] => by simp [PyData.eqvAll]
  | [], y :: s => by simp [PyData.eqvAll]
  | x :: r, [] => by simp [PyData.eqvAll]
  | x :: r, y :: s => by
    have h := eqv_ints r s
    simp only [List.map_cons, PyData.eqvAll, PyData.eqv, h]
    rfl
theorem eqW_ints {τ : Sto} {n m : Nat} {xs ys : List Int} (h1 : τ[n]? = some (.lst (xs.map W.int))) (h2 : τ[m]? = some (.lst (ys.map W.int))) : eqW τ (.ref n) (.ref m) = some (xs == ys) := by
  have e : ∀ {n : Nat} {zs : List Int}, τ[n]? = some (.lst (zs.map W.int)) → toD τ 64 (.ref n) = some (.list (zs.map PyData.int)) := fun {n zs} h => by
    show (match seqOf τ n with
      | some xs => (mapO (toD τ 63) xs).map PyData.list
      | none => none) = _
    rw [seq_lst h]
    show (mapO (toD τ 63) (zs.map W.int)).map PyData.list = _
    rw [toD_ints]
    rfl
  unfold eqW
  rw [e h1, e h2]
  dsimp only
  rw [if_pos ⟨shaped_ints xs, shaped_ints ys⟩]
  simp only [PyData.eqv, eqv_ints]
@[simp] theorem truth_bl (b : Bool) : truth τ (.bl b) = some b := rfl
@[simp] theorem truth_non : truth τ .non = some false := rfl
@[simp] theorem truth_int (i : Int) : truth τ (.int i) = some (i != 0) := rfl
@[simp] theorem truth_tup (xs : List W) : truth τ (.tup xs) = some (!xs.isEmpty) := rfl
@[simp] theorem cmp_lt (i j : Int) : cmpop .Lt (.int i) (.int j) τ = some (decide (i < j)) := rfl
@[simp] theorem cmp_le (i j : Int) : cmpop .LtE (.int i) (.int j) τ = some (decide (i ≤ j)) := rfl
@[simp] theorem cmp_gt (i j : Int) : cmpop .Gt (.int i) (.int j) τ = some (decide (j < i)) := rfl
@[simp] theorem cmp_ge (i j : Int) : cmpop .GtE (.int i) (.int j) τ = some (decide (j ≤ i)) := rfl
@[simp] theorem cmp_eq (x y : W) : cmpop .Eq x y τ = eqW τ x y := rfl
@[simp] theorem cmp_ne (x y : W) : cmpop .NotEq x y τ = (eqW τ x y).map (!·) := rfl
@[simp] theorem cmp_in (x y : W) : cmpop .In x y τ = inW τ x y := rfl
@[simp] theorem cmp_nin (x y : W) : cmpop .NotIn x y τ = (inW τ x y).map (!·) := rfl
@[simp] theorem item_tup (xs : List W) (i : Int) : itemAt τ (.tup xs) (.int i) = L2.atI xs i := rfl
theorem item_lst {n : Nat} {xs : List W} (h : τ[n]? = some (.lst xs)) (i : Int) : itemAt τ (.ref n) (.int i) = L2.atI xs i := by
  unfold itemAt
  simp only [h]
theorem item_frz {n : Nat} {xs : List Int} (h : τ[n]? = some (.frz xs)) (i : Int) : itemAt τ (.ref n) (.int i) = L2.atI (xs.map W.int) i := by
  unfold itemAt
  simp only [h]
@[simp] theorem item_end (τ : Sto) (xs : List W) (i : Int) : itemAt (τ ++ [.lst xs]) (.ref τ.length) (.int i) = L2.atI xs i := item_lst (at_end τ _) i
@[simp] theorem len_str (x : Str) (τ : Sto) : builtin .len [.str x] τ = if x.length ≤ sizeLine then .ok (.int x.length) τ else .no := rfl
@[simp] theorem len_tup (x : List W) (τ : Sto) : builtin .len [.tup x] τ = .ok (.int x.length) τ := rfl
theorem len_lst {n : Nat} {xs : List W} (h : τ[n]? = some (.lst xs)) : builtin .len [.ref n] τ = .ok (.int xs.length) τ := by
  show bLen [.ref n] τ = _
  unfold bLen
  simp only [h]
theorem len_frz {n : Nat} {xs : List Int} (h : τ[n]? = some (.frz xs)) : builtin .len [.ref n] τ = .ok (.int xs.length) τ := by
  show bLen [.ref n] τ = _
  unfold bLen
  simp only [h]
theorem slice_seq {n : Nat} {xs : List W} (h : seqOf τ n = some xs) (lo hi : Option Int) : sliceW (.ref n) lo hi τ = newL τ (cut xs lo hi) := by
  unfold sliceW
  simp only [h]
  rfl
theorem seqI_ref {n : Nat} {xs : List W} (h : seqOf τ n = some xs) : seqI (.ref n) τ = .ok ⟨[(n, xs)], xs⟩ τ := by
  unfold seqI
  simp only [h]
@[simp] theorem seqI_str (z : Str) (τ : Sto) : seqI (.str z) τ = .ok ⟨[], z.cps.toList.map fun c => .str ⟨#[c]⟩⟩ τ := rfl
@[simp] theorem in_str (x y : Str) (τ : Sto) : inW τ (.str x) (.str y) = some (isIn x y) := rfl
theorem isIn_one (c : Nat) (a : List Nat) : isIn (SX.S [c]) (SX.S a) = decide (c ∈ a) := SX.in_one a c
@[simp] theorem seqI_tup (xs : List W) (τ : Sto) : seqI (.tup xs) τ = .ok ⟨[], xs⟩ τ := rfl
theorem zipI_ref {n m : Nat} {xs ys : List W} (h : seqOf τ n = some xs) (h' : seqOf τ m = some ys) : zipI [.ref n, .ref m] τ = .ok ⟨[(n, xs), (m, ys)], (xs.zip ys).map fun p => .tup [p.1, p.2]⟩ τ := by
  unfold zipI
  simp only [h, h']
@[simp] theorem tyOf_int (i : Int) : tyOf τ (.int i) = some .int := rfl
@[simp] theorem tyOf_bl (i : Bool) : tyOf τ (.bl i) = some .bool := rfl
@[simp] theorem tyOf_str (i : Str) : tyOf τ (.str i) = some .str := rfl
@[simp] theorem tyOf_tup (i : List W) : tyOf τ (.tup i) = some .tuple := rfl
@[simp] theorem tyOf_non : tyOf τ .non = some .none := rfl
theorem seq_frz {n : Nat} {xs : List Int} (h : τ[n]? = some (.frz xs)) : seqOf τ n = some (xs.map .int) := by
  unfold seqOf
  rw [h]
/-! the same by what stands at the place -/
def addL (a b : Option AO) (τ : Sto) : R W := match a, b with
  | some (.lst xs), some (.lst ys) => if xs.length + ys.length ≤ sizeLine then newL τ (xs ++ ys) else .no
  | _, _ => .no
@[simp] theorem addL_lst (x y : List W) (τ : Sto) : addL (some (.lst x)) (some (.lst y)) τ = if x.length + y.length ≤ sizeLine then newL τ (x ++ y) else .no := rfl
theorem add_ref (n m : Nat) (τ : Sto) : binop .Add (.ref n) (.ref m) τ = addL τ[n]? τ[m]? τ := by
  unfold binop addL
  rcases e : τ[n]? with _ | (x | x | x | ⟨c, x⟩) <;> rcases e' : τ[m]? with _ | (y | y | y | ⟨d, y⟩) <;> simp only [e, e'] <;> rfl
def seqL (a : Option AO) : Option (List W) := match a with
  | some (.lst xs) => some xs
  | some (.frz ns) => some (ns.map .int)
  | _ => none
@[simp] theorem seqL_lst (x : List W) : seqL (some (.lst x)) = some x := rfl
@[simp] theorem seqL_frz (x : List Int) : seqL (some (.frz x)) = some (x.map .int) := rfl
theorem seqOf_eq (τ : Sto) (n : Nat) : seqOf τ n = seqL τ[n]? := by
  unfold seqOf seqL
  rfl
theorem slice_ref (n : Nat) (lo hi : Option Int) (τ : Sto) : sliceW (.ref n) lo hi τ = optR (seqL τ[n]?) fun xs => newL τ (cut xs lo hi) := by
  unfold sliceW
  simp only [seqOf_eq]
  cases seqL τ[n]? <;> rfl
theorem seqI_eq (n : Nat) (τ : Sto) : seqI (.ref n) τ = optR (seqL τ[n]?) fun xs => .ok ⟨[(n, xs)], xs⟩ τ := by
  unfold seqI
  simp only [seqOf_eq]
  cases seqL τ[n]? <;> rfl
theorem zipI_eq (n m : Nat) (τ : Sto) : zipI [.ref n, .ref m] τ = optR (seqL τ[n]?) fun xs => optR (seqL τ[m]?) fun ys => .ok ⟨[(n, xs), (m, ys)], (xs.zip ys).map fun p => .tup [p.1, p.2]⟩ τ := by
  unfold zipI
  simp only [seqOf_eq]
  cases seqL τ[n]? with
  | none => rfl
  | some x => cases seqL τ[m]? <;> rfl
def itemL (a : Option AO) (y : W) : Option W := match a with
  | some (.lst xs) => match y with
    | .int i => L2.atI xs i
    | _ => none
  | some (.frz ns) => match y with
    | .int i => L2.atI (ns.map W.int) i
    | _ => none
  | some (.dic kvs) => (keyOf y).bind (kvGet kvs)
  | _ => none
@[simp] theorem itemL_lst (x : List W) (i : Int) : itemL (some (.lst x)) (.int i) = L2.atI x i := rfl
@[simp] theorem itemL_frz (x : List Int) (i : Int) : itemL (some (.frz x)) (.int i) = L2.atI (x.map W.int) i := rfl
@[simp] theorem itemL_dic (x : List (Key × W)) (y : W) : itemL (some (.dic x)) y = (keyOf y).bind (kvGet x) := rfl
theorem item_ref (τ : Sto) (n : Nat) (y : W) : itemAt τ (.ref n) y = itemL τ[n]? y := by
  unfold itemAt itemL
  rcases e : τ[n]? with _ | (x | x | x | ⟨c, x⟩) <;> cases y <;> simp only [e]
def lenL (a : Option AO) (τ : Sto) : R W := match a with
  | some (.lst xs) => .ok (.int xs.length) τ
  | some (.frz xs) => .ok (.int xs.length) τ
  | some (.dic kvs) => .ok (.int kvs.length) τ
  | _ => .no
@[simp] theorem lenL_lst (x : List W) (τ : Sto) : lenL (some (.lst x)) τ = .ok (.int x.length) τ := rfl
@[simp] theorem lenL_frz (x : List Int) (τ : Sto) : lenL (some (.frz x)) τ = .ok (.int x.length) τ := rfl
theorem len_ref (n : Nat) (τ : Sto) : builtin .len [.ref n] τ = lenL τ[n]? τ := by
  show bLen [.ref n] τ = _
  unfold bLen lenL
  rfl
@[simp] theorem at_off (τ l : Sto) (k : Nat) : (τ ++ l)[τ.length + k]? = l[k]? := by
  rw [List.getElem?_append_right (by omega)]
  congr 1
  omega
@[simp] theorem at_off0 (τ l : Sto) : (τ ++ l)[τ.length]? = l[0]? := at_off τ l 0
theorem at_old {l : Sto} {D : Nat} {o : AO} (h : τ[D]? = some o) : (τ ++ l)[D]? = some o := pre_get (List.prefix_append _ _) h
theorem cut_mem {xs : List W} {lo hi : Option Int} {x : W} (h : x ∈ cut xs lo hi) : x ∈ xs := List.mem_of_mem_drop (List.mem_of_mem_take h)
theorem cut_len (xs : List W) (lo hi : Option Int) : (cut xs lo hi).length ≤ xs.length := by
  unfold cut
  rw [List.length_take, List.length_drop]
  omega
@[simp] theorem le_size (n : Nat) (h : n ≤ 16777216) : n ≤ sizeLine := h
theorem evF_eq {T : Tb} {F : Nat → Option Df} {k f : Nat} {d : Df} {ws : List W} (h : F f = some d) (l : ws.length = d.many) (τ : Sto) : evF T F (k + 1) f ws τ = Mi.finish (evS T (evF T F k) d.body (Mi.start d ws) τ) := by
  rw [evF]
  simp only [h, if_pos l]
theorem forL_nil {g : G} {gs : List (Nat × List W)} {body : Sl → Sto → R Fl} {ρ : Sl} (h : It.ok gs τ) : forL g gs body [] ρ τ = .ok (.nx ρ) τ := by
  unfold forL
  exact if_pos h
theorem forL_cons {g : G} {gs : List (Nat × List W)} {body : Sl → Sto → R Fl} {ρ ρ1 : Sl} {x : W} {r : List W} (h : It.ok gs τ) (e : putG g x ρ = some ρ1) : forL g gs body (x :: r) ρ τ = loopR (body ρ1 τ) (forL g gs body r) := by
  rw [forL, if_pos h, e]
  rfl
theorem whlL_eq {test : Sl → Sto → R Bool} {body : Sl → Sto → R Fl} {n : Nat} {ρ : Sl} : whlL test body (n + 1) ρ τ = (test ρ τ).bind fun b τ1 => if b = true then loopR (body ρ τ1) (whlL test body n) else .ok (.nx ρ) τ1 := by
  rw [whlL]
  rfl
@[simp] theorem ok_nil : It.ok [] τ = True := eq_true (fun q hq => nomatch hq)
@[simp] theorem ok_cons (n : Nat) (xs : List W) (r : List (Nat × List W)) : It.ok ((n, xs) :: r) τ = (seqL τ[n]? = some xs ∧ It.ok r τ) := by
  refine propext ⟨fun h => ⟨?_, fun q hq => h q (List.mem_cons_of_mem _ hq)⟩, fun h q hq => ?_⟩
  · rw [← seqOf_eq]
    exact h (n, xs) List.mem_cons_self
  · rcases List.mem_cons.mp hq with e | e
    · rw [e, seqOf_eq]
      exact h.1
    · exact h.2 q e
theorem forL_step (g : G) (gs : List (Nat × List W)) (body : Sl → Sto → R Fl) (ρ : Sl) (x : W) (r : List W) (h : It.ok gs τ) : forL g gs body (x :: r) ρ τ = optR (putG g x ρ) fun ρ1 => loopR (body ρ1 τ) (forL g gs body r) := by
  rw [forL, if_pos h]
  cases putG g x ρ <;> rfl
@[simp] theorem putG_name (i : Nat) (w : W) (ρ : Sl) : putG (.name i) w ρ = some (ρ.set i (some w)) := rfl
@[simp] theorem putG_tup (is : List Nat) (xs : List W) (ρ : Sl) : putG (.tup is) (.tup xs) ρ = if xs.length = is.length then some ((is.zip xs).foldl (fun r p => r.set p.1 (some p.2)) ρ) else none := rfl
/-- a comprehension, by what stays -/
theorem lcL_inv {g : G} {gs : List (Nat × List W)} {ρ : Sl} {test : Sl → Sto → R Bool} {elt : Sl → Sto → R W} {D : Nat} {Inv : Sto → Prop} {P : W → Prop} (hgs : ∀ τ, Inv τ → It.ok gs τ) (hset : ∀ τ ys, Inv τ → Inv (τ.set D (.lst ys))) :
    ∀ (xs : List W), (∀ x ∈ xs, ∃ ρ1, putG g x ρ = some ρ1 ∧ ∀ τ ys, Inv τ → τ[D]? = some (.lst ys) → test ρ1 τ = .ok true τ ∧ ∃ y τ', P y ∧ elt ρ1 τ = .ok y τ' ∧ Inv τ' ∧ τ'[D]? = some (.lst ys)) →
    ∀ (acc : List W) (τ : Sto), Inv τ → τ[D]? = some (.lst acc) → acc.length + xs.length ≤ sizeLine →
      ∃ ys τ', lcL g gs ρ test elt D xs τ = .ok (.ref D) τ' ∧ Inv τ' ∧ τ'[D]? = some (.lst (acc ++ ys)) ∧ ys.length = xs.length ∧ ∀ y ∈ ys, P y
  | [], _, acc, τ, p, h, _ => by
    refine ⟨[], τ, ?_, p, by rw [List.append_nil]; exact h, rfl, fun y hy => nomatch hy⟩
    unfold lcL
    exact if_pos (hgs _ p)
  | x :: r, st, acc, τ, p, h, hl => by
    obtain ⟨ρ1, e1, e2⟩ := st x List.mem_cons_self
    obtain ⟨e3, y, τ2, fy, e4, p2, h2⟩ := e2 τ acc p h
    have hl' : acc.length + (r.length + 1) ≤ sizeLine := hl
    have hs : (τ2.set D (.lst (acc ++ [y])))[D]? = some (.lst (acc ++ [y])) := by
      rw [List.getElem?_set_self (List.getElem?_eq_some_iff.mp h2).1]
    obtain ⟨ys, τ', a1, a2, a3, a4, a5⟩ := lcL_inv hgs hset r (fun z hz => st z (List.mem_cons_of_mem _ hz)) (acc ++ [y]) (τ2.set D (.lst (acc ++ [y]))) (hset _ _ p2) hs (by rw [List.length_append]; show acc.length + 1 + r.length ≤ _; omega)
    refine ⟨y :: ys, τ', ?_, a2, by rw [a3, List.append_assoc]; rfl, congrArg (· + 1) a4, fun z hz => ?_⟩
    · unfold lcL
      rw [if_pos (hgs _ p), e1]
      simp only [e3, e4, h2]
      rw [if_pos (by omega)]
      exact a1
    · rcases List.mem_cons.mp hz with e | e
      · rw [e]; exact fy
      · exact a5 z e
/-- a for that only goes on, by what stays while n items are left -/
theorem forL_cnt {g : G} {gs : List (Nat × List W)} {body : Sl → Sto → R Fl} {Inv : Nat → Sl → Sto → Prop} (hgs : ∀ n ρ τ, Inv n ρ τ → It.ok gs τ) :
    ∀ (xs : List W), (∀ x ∈ xs, ∀ n ρ τ, Inv (n + 1) ρ τ → ∃ ρ1, putG g x ρ = some ρ1 ∧ ∃ ρ2 τ2, body ρ1 τ = .ok (.nx ρ2) τ2 ∧ Inv n ρ2 τ2) →
    ∀ ρ τ, Inv xs.length ρ τ → ∃ ρ' τ', forL g gs body xs ρ τ = .ok (.nx ρ') τ' ∧ Inv 0 ρ' τ'
  | [], _, ρ, τ, h => ⟨ρ, τ, forL_nil (hgs _ _ _ h), h⟩
  | x :: r, st, ρ, τ, h => by
    obtain ⟨ρ1, e1, ρ2, τ2, e2, h2⟩ := st x List.mem_cons_self r.length ρ τ h
    obtain ⟨ρ', τ', a1, a2⟩ := forL_cnt hgs r (fun z hz => st z (List.mem_cons_of_mem _ hz)) ρ2 τ2 h2
    exact ⟨ρ', τ', by rw [forL_cons (hgs _ _ _ h) e1, e2]; exact a1, a2⟩
/-- a comprehension that only picks -/
theorem lcL_fil {g : G} {ρ : Sl} {test : Sl → Sto → R Bool} {elt : Sl → Sto → R W} {D : Nat} (p : W → Bool) :
    ∀ (xs : List W), (∀ x ∈ xs, ∃ ρ1, putG g x ρ = some ρ1 ∧ ∀ τ, test ρ1 τ = .ok (p x) τ ∧ elt ρ1 τ = .ok x τ) →
    ∀ (acc : List W) (τ : Sto), τ[D]? = some (.lst acc) → acc.length + xs.length ≤ sizeLine →
      lcL g [] ρ test elt D xs τ = .ok (.ref D) (τ.set D (.lst (acc ++ xs.filter p)))
  | [], _, acc, τ, h, _ => by
    unfold lcL
    rw [if_pos (show It.ok [] τ from fun q hq => nomatch hq), List.filter_nil, List.append_nil]
    have e : τ.set D (.lst acc) = τ := by
      obtain ⟨h1, h2⟩ := List.getElem?_eq_some_iff.mp h
      rw [← h2]
      exact List.set_getElem_self h1
    rw [e]
  | x :: r, st, acc, τ, h, hl => by
    obtain ⟨ρ1, e1, e2⟩ := st x List.mem_cons_self
    obtain ⟨e3, e4⟩ := e2 τ
    have hl' : acc.length + (r.length + 1) ≤ sizeLine := hl
    have hlt := (List.getElem?_eq_some_iff.mp h).1
    unfold lcL
    rw [if_pos (show It.ok [] τ from fun q hq => nomatch hq), e1]
    dsimp only
    rw [e3]
    cases hp : p x with
    | true =>
      simp only [e4, h]
      rw [if_pos (by omega), lcL_fil p r (fun z hz => st z (List.mem_cons_of_mem _ hz)) (acc ++ [x]) _ (by rw [List.getElem?_set_self hlt]) (by rw [List.length_append]; show acc.length + 1 + r.length ≤ _; omega)]
      rw [List.set_set, List.filter_cons_of_pos hp, List.append_assoc]
      rfl
    | false =>
      simp only []
      rw [lcL_fil p r (fun z hz => st z (List.mem_cons_of_mem _ hz)) acc τ h (by omega), List.filter_cons_of_neg (by rw [hp]; exact Bool.false_ne_true)]
/-- a comprehension that picks none -/
theorem lcL_none {g : G} {ρ : Sl} {test : Sl → Sto → R Bool} {elt : Sl → Sto → R W} {D : Nat} {τ0 : Sto} :
    ∀ (xs : List W), (∀ x ∈ xs, ∃ ρ1, putG g x ρ = some ρ1 ∧ ∀ τ, τ0 <+: τ → ∃ τ', test ρ1 τ = .ok false τ' ∧ τ <+: τ') →
    ∀ (τ : Sto), τ0 <+: τ → ∃ τ', lcL g [] ρ test elt D xs τ = .ok (.ref D) τ' ∧ τ <+: τ'
  | [], _, τ, _ => by
    refine ⟨τ, ?_, List.prefix_refl τ⟩
    unfold lcL
    rw [if_pos (show It.ok [] τ from fun q hq => nomatch hq)]
  | x :: r, st, τ, p => by
    obtain ⟨ρ1, e1, e2⟩ := st x List.mem_cons_self
    obtain ⟨τ1, e3, p1⟩ := e2 τ p
    obtain ⟨τ2, e4, p2⟩ := lcL_none r (fun z hz => st z (List.mem_cons_of_mem _ hz)) τ1 (p.trans p1)
    refine ⟨τ2, ?_, p1.trans p2⟩
    unfold lcL
    rw [if_pos (show It.ok [] τ from fun q hq => nomatch hq), e1]
    dsimp only
    rw [e3]
    exact e4
@[simp] theorem eqW_bl (τ : Sto) (a b : Bool) : eqW τ (.bl a) (.bl b) = some (a == b) := rfl
theorem strs_S : ∀ ys : List (List Nat), strsOf (ys.map fun a => W.str (SX.S a)) = some (ys.map SX.S)
  | [] => rfl
  | a :: r => by
    have ih : mapO strOf (r.map fun a => W.str (SX.S a)) = some (r.map SX.S) := strs_S r
    show mapO strOf (W.str (SX.S a) :: r.map fun a => W.str (SX.S a)) = _
    rw [mapO, ih]
    rfl
theorem join_ok {τ : Sto} {n : Nat} {a : List Nat} {ys : List (List Nat)} (h : τ[n]? = some (.lst (ys.map fun a => W.str (SX.S a)))) (l : ((ys.map SX.S).map (·.length)).sum + (ys.map SX.S).length * (SX.S a).length ≤ 16777216) : bmeth .join (.str (SX.S a)) [.ref n] τ = .ok (.str (SX.S (TL.joinL a ys))) τ := by
  show mJoin (.str (SX.S a)) [.ref n] τ = _
  unfold mJoin
  simp only [seq_lst h, Option.bind_some, strs_S]
  rw [if_pos l, SX.join_S]
/-- == of a list of signs and none -/
theorem eq_none {τ : Sto} {n m : Nat} {cs : List Nat} (h1 : τ[n]? = some (.lst (cs.map fun c => W.str ⟨#[c]⟩))) (hc : ∀ c ∈ cs, c < 128) (h2 : τ[m]? = some (.lst [])) : eqW τ (.ref n) (.ref m) = some cs.isEmpty := by
  have hm : ∀ cs : List Nat, mapO (toD τ 63) (cs.map fun c => W.str ⟨#[c]⟩) = some (cs.map fun c => PyData.str ⟨#[c]⟩) := by
    intro cs
    induction cs with
    | nil => rfl
    | cons c r ih =>
      rw [List.map_cons, mapO, ih]
      rfl
  have hl : ∀ cs : List Nat, (∀ c ∈ cs, c < 128) → PyData.canLayAll0 (cs.map fun c => PyData.str ⟨#[c]⟩) = true := by
    intro cs
    induction cs with
    | nil => intro _; simp only [List.map_nil, PyData.canLayAll0]
    | cons c r ih =>
      intro h
      have hc : c < 128 := h c List.mem_cons_self
      have e : PyData.strOk (⟨#[c]⟩ : Str) = true := by
        show (#[c] : Array Nat).all (· < 0x110000) = true
        rw [← Array.all_toList, List.all_cons]
        show (decide (c < 1114112) && true) = true
        rw [decide_eq_true (by omega)]
        rfl
      simp only [List.map_cons, PyData.canLayAll0, PyData.canLay0, ih (fun d hd => h d (List.mem_cons_of_mem _ hd)), e, Bool.and_self]
  have hd : ∀ cs : List Nat, PyData.depthAll (cs.map fun c => PyData.str ⟨#[c]⟩) ≤ 1 := by
    intro cs
    induction cs with
    | nil => simp [PyData.depthAll]
    | cons c r ih =>
      simp only [List.map_cons, PyData.depthAll, PyData.depth]
      omega
  have sh : ∀ cs : List Nat, (∀ c ∈ cs, c < 128) → SeqAt.shaped (.list (cs.map fun c => PyData.str ⟨#[c]⟩)) = true := fun cs h => by
    unfold SeqAt.shaped
    have a1 : PyData.canLay0 (.list (cs.map fun c => PyData.str ⟨#[c]⟩)) = true := by
      simp only [PyData.canLay0]
      exact hl cs h
    have a2 : PyData.depth (.list (cs.map fun c => PyData.str ⟨#[c]⟩)) ≤ 64 := by
      have := hd cs
      simp only [PyData.depth]
      omega
    rw [a1, decide_eq_true a2, Bool.and_self]
  have e : ∀ {n : Nat} {zs : List Nat}, τ[n]? = some (.lst (zs.map fun c => W.str ⟨#[c]⟩)) → toD τ 64 (.ref n) = some (.list (zs.map fun c => PyData.str ⟨#[c]⟩)) := fun {n zs} h => by
    show (match seqOf τ n with
      | some xs => (mapO (toD τ 63) xs).map PyData.list
      | none => none) = _
    rw [seq_lst h]
    show (mapO (toD τ 63) (zs.map fun c => W.str ⟨#[c]⟩)).map PyData.list = _
    rw [hm]
    rfl
  unfold eqW
  rw [e h1, e (zs := []) h2]
  dsimp only
  rw [if_pos ⟨sh cs hc, sh [] (fun c h => nomatch h)⟩]
  cases cs with
  | nil => simp [PyData.eqv, PyData.eqvAll]
  | cons c r => simp [PyData.eqv, PyData.eqvAll]
theorem append_ok {n : Nat} {xs : List W} (w : W) (h : τ[n]? = some (.lst xs)) (l : xs.length < sizeLine) : bmPre .append (.ref n) τ = true ∧ bmeth .append (.ref n) [w] τ = .ok .non (τ.set n (.lst (xs ++ [w]))) := by
  constructor
  · show isLst τ (.ref n) = true
    unfold isLst
    simp only [h]
  · show mAppend (.ref n) [w] τ = _
    unfold mAppend
    simp only [h]
    rw [if_pos l]
theorem pop_ok {n : Nat} {xs : List W} {y : W} (h : τ[n]? = some (.lst (xs ++ [y]))) : bmPre .pop (.ref n) τ = true ∧ bmeth .pop (.ref n) [] τ = .ok y (τ.set n (.lst xs)) := by
  constructor
  · show isLst τ (.ref n) = true
    unfold isLst
    simp only [h]
  · show mPop (.ref n) [] τ = _
    unfold mPop
    simp only [h]
    rw [List.length_append, List.length_singleton, Nat.add_sub_cancel, List.getElem?_concat_length]
    simp
theorem atI_mem {α : Type} {xs : List α} {i : Int} (h0 : 0 ≤ i) (h1 : i < xs.length) : ∃ y, L2.atI xs i = some y ∧ y ∈ xs := by
  obtain ⟨n, rfl⟩ := Int.eq_ofNat_of_zero_le h0
  have hn : n < xs.length := by omega
  exact ⟨xs[n], L2.atI_nat (List.getElem?_eq_getElem hn), List.getElem_mem hn⟩
theorem rng1 {j : Int} (h1 : -4611686018427387904 ≤ j) (h2 : j < 4611686018427387904) : rngI [.int j] τ = .ok ⟨[], (List.range j.toNat).map fun (i : Nat) => .int (0 + (i : Int))⟩ τ := by
  show (if _ then _ else _) = _
  exact if_pos ⟨h1, h2⟩
theorem rngJ {j : Int} (h1 : 0 ≤ j) (h2 : j < 4096) : rngI [.int j] τ = .ok ⟨[], (List.range j.toNat).map fun (i : Nat) => .int (0 + (i : Int))⟩ τ := rng1 (by omega) (by omega)
theorem rngN {m : Nat} (h : m < 4096) : rngI [.int (m : Int)] τ = .ok ⟨[], (List.range m).map fun (i : Nat) => .int (i : Int)⟩ τ := by
  rw [rngJ (Int.natCast_nonneg m) (by omega), Int.toNat_natCast]
  simp only [Int.zero_add]
@[simp] theorem slice_str (z : Str) (lo hi : Option Int) : sliceW (.str z) lo hi τ = if z.length ≤ sizeLine then .ok (.str (L2.cutS z lo hi)) τ else .no := rfl
@[simp] theorem starts_str (a b : Str) : bmeth .startswith (.str a) [.str b] τ = .ok (.bl (Txt.startswith a b)) τ := rfl
@[simp] theorem pre_starts (a : Str) : bmPre .startswith (.str a) τ = true := rfl
@[simp] theorem pre_split (a : Str) : bmPre .split (.str a) τ = true := rfl
@[simp] theorem pre_join (a : Str) : bmPre .join (.str a) τ = true := rfl
theorem dispR_ok {D : Nat} {ks : List Key} {ws : List W} (h : τ[D]? = some (.dic [])) (l : ws.length = ks.length) : dispR D ks ws τ = .ok (.ref D) (τ.set D (.dic (mergeW [] (ks.zip ws)))) := by
  unfold dispR
  simp only [h]
  rw [if_pos l]
theorem at_some {α : Type} {xs : List α} {i : Int} {o : Option α} (h : L2.atI xs i = o) (h0 : 0 ≤ i) (h1 : i < xs.length) : ∃ y, o = some y ∧ y ∈ xs := by
  obtain ⟨y, e, m⟩ := atI_mem h0 h1
  exact ⟨y, h.symm.trans e, m⟩
@[simp] theorem item_str (z : Str) (i : Int) : itemAt τ (.str z) (.int i) = if z.length ≤ sizeLine then (L2.atI z.cps.toList i).map fun c => .str ⟨#[c]⟩ else none := rfl
def inL (x : W) (a : Option AO) : Option Bool := match a with
  | some (.lst ys) => if flat x = true ∧ ys.all flat = true then some (inF x ys) else none
  | some (.frz ns) => if flat x = true then some (inF x (ns.map .int)) else none
  | some (.dic kvs) => (keyOf x).map fun k => (kvGet kvs k).isSome
  | _ => none
@[simp] theorem inL_lst (x : W) (ys : List W) : inL x (some (.lst ys)) = if flat x = true ∧ ys.all flat = true then some (inF x ys) else none := rfl
theorem in_ref (x : W) (n : Nat) : inW τ x (.ref n) = inL x τ[n]? := by
  unfold inW inL
  rfl
theorem cutS_all (a : List Nat) : L2.cutS (SX.S a) (some 0) none = SX.S a := by
  have h : HT.sIx (SX.S a).length 0 (some 0) = 0 := by
    rw [show (some (0 : Int)) = some ((0 : Nat) : Int) from rfl, HT.sIx_nat]
    omega
  unfold L2.cutS
  rw [h]
  show (⟨((a.drop 0).take (HT.sIx (SX.S a).length (SX.S a).length none - 0)).toArray⟩ : Str) = _
  rw [HT.sIx_none, SX.S_len, List.drop_zero, Nat.sub_zero, List.take_length]
theorem cutS_tl (c : Nat) (r : List Nat) : L2.cutS (SX.S (c :: r)) (some 1) none = SX.S r := by
  have h : HT.sIx (SX.S (c :: r)).length 0 (some 1) = 1 := by
    rw [show (some (1 : Int)) = some ((1 : Nat) : Int) from rfl, HT.sIx_nat, SX.S_len, List.length_cons]
    omega
  unfold L2.cutS
  rw [h]
  show (⟨(((c :: r).drop 1).take (HT.sIx (SX.S (c :: r)).length (SX.S (c :: r)).length none - 1)).toArray⟩ : Str) = _
  rw [HT.sIx_none, SX.S_len, List.length_cons, Nat.add_sub_cancel]
  show (⟨(r.take r.length).toArray⟩ : Str) = _
  rw [List.take_length]
theorem cutS_12 (c : Nat) (r : List Nat) : L2.cutS (SX.S (c :: r)) (some 1) (some 2) = SX.S (r.take 1) := by
  have h : HT.sIx (SX.S (c :: r)).length 0 (some 1) = 1 := by
    rw [show (some (1 : Int)) = some ((1 : Nat) : Int) from rfl, HT.sIx_nat, SX.S_len, List.length_cons]
    omega
  have h2 : HT.sIx (SX.S (c :: r)).length (SX.S (c :: r)).length (some 2) = min 2 (r.length + 1) := by
    rw [show (some (2 : Int)) = some ((2 : Nat) : Int) from rfl, HT.sIx_nat, SX.S_len, List.length_cons]
  unfold L2.cutS
  rw [h, h2]
  show (⟨(r.take (min 2 (r.length + 1) - 1)).toArray⟩ : Str) = _
  cases r with
  | nil => rfl
  | cons d s =>
    rw [show min 2 ((d :: s).length + 1) - 1 = 1 from by rw [List.length_cons]; omega]
@[simp] theorem is_non : cmpop .Is .non .non τ = some true := rfl
@[simp] theorem is_int (i : Int) : cmpop .Is (.int i) .non τ = some false := rfl
@[simp] theorem is_str (i : Str) : cmpop .Is (.str i) .non τ = some false := rfl
@[simp] theorem is_tup (xs : List W) : cmpop .Is (.tup xs) .non τ = some false := rfl
@[simp] theorem is_bl (b : Bool) : cmpop .Is (.bl b) .non τ = some false := rfl
@[simp] theorem isn_tup (xs : List W) : cmpop .IsNot (.tup xs) .non τ = some true := rfl
@[simp] theorem isn_bl (b : Bool) : cmpop .IsNot (.bl b) .non τ = some true := rfl
@[simp] theorem isn_non : cmpop .IsNot .non .non τ = some false := rfl
@[simp] theorem isn_int (i : Int) : cmpop .IsNot (.int i) .non τ = some true := rfl
@[simp] theorem isn_str (i : Str) : cmpop .IsNot (.str i) .non τ = some true := rfl
@[simp] theorem int_bl (b : Bool) : builtin .int [.bl b] τ = .ok (.int (if b then 1 else 0)) τ := rfl
@[simp] theorem int_int (b : Int) : builtin .int [.int b] τ = .ok (.int b) τ := rfl
@[simp] theorem abs_int (i : Int) : builtin .abs [.int i] τ = .ok (.int (if i < 0 then -i else i)) τ := rfl
@[simp] theorem max_int (i j : Int) : builtin .max2 [.int i, .int j] τ = .ok (.int (if j > i then j else i)) τ := rfl
@[simp] theorem min_int (i j : Int) : builtin .min2 [.int i, .int j] τ = .ok (.int (if j < i then j else i)) τ := rfl
end
end Mi
namespace L_k03
open PySem Mi
/- are_figures(text, strange, sign) -/
def b0 : Mi.S := (.cons (.set 1 (.lc (.name 2) (.seq (.var 0)) (.cmp .NotIn (.var 2) (.con (.str ("0123456789" : Str)))) (.var 2) [2]))
  (.cons (.ret (.conj (.cons (.cmp .NotEq (.var 0) (.con (.str ("" : Str)))) (.cons (.cmp .Eq (.var 1) (.lst .nil)) (.cons (.disj (.cons (.cmp .Eq (.var 0) (.con (.str ("0" : Str)))) (.cons (.not (.bm .startswith (.var 0) (.cons (.con (.str ("0" : Str))) .nil))) .nil))) .nil)))))
  .nil))
/- piece_told(piece, bare) -/
def b1 : Mi.S := (.cons (.set 1 (.var 0))
  (.cons (.ife (.conj (.cons (.bm .startswith (.var 0) (.cons (.con (.str ("-" : Str))) .nil)) (.cons (.cmp .NotEq (.var 0) (.con (.str ("-0" : Str)))) .nil))) (.cons (.set 1 (.slice (.var 0) (.con (.int 1)) .nil))
  .nil) .nil)
  (.cons (.ife (.conj (.cons (.call 0 (.cons (.var 1) .nil)) (.cons (.cmp .Lt (.bi .len (.cons (.var 1) .nil)) (.con (.int 6))) (.cons (.chain .LtE .LtE (.con (.int (-32768))) (.bi .int (.cons (.var 0) .nil)) (.con (.int 32767))) .nil)))) (.cons (.ret (.bi .int (.cons (.var 0) .nil)))
  .nil) .nil)
  (.cons (.ret (.var 0))
  .nil))))
/- look_at_piece(piece) -/
def b2 : Mi.S := (.cons (.ife (.disj (.cons (.cmp .Eq (.var 0) (.con (.str ("" : Str)))) (.cons (.cmp .In (.con (.str ("(" : Str))) (.var 0)) (.cons (.cmp .In (.con (.str (")" : Str))) (.var 0)) .nil)))) (.cons (.raise 1 .nil)
  .nil) .nil)
  .nil)
/- brackets_read(text, open_lists, piece, closed) -/
def l3_1 : Mi.S := (.cons (.ife (.conj (.cons (.cmp .Eq (.bi .len (.cons (.var 1) .nil)) (.con (.int 1))) (.cons (.cmp .Eq (.bi .len (.cons (.ix (.var 1) (.con (.int 0))) .nil)) (.con (.int 1))) .nil))) (.cons (.raise 1 .nil)
  .nil) .nil)
  (.cons (.ife (.cmp .Eq (.var 2) (.con (.str ("(" : Str)))) (.cons (.ex (.bm .append (.var 1) (.cons (.lst .nil) .nil)))
  (.cons (.ife (.cmp .Gt (.bi .len (.cons (.var 1) .nil)) (.op .Add (.con (.int 40)) (.con (.int 1)))) (.cons (.raise 1 .nil)
  .nil) .nil)
  .nil)) (.cons (.ife (.cmp .Eq (.var 2) (.con (.str (")" : Str)))) (.cons (.ife (.cmp .Eq (.bi .len (.cons (.var 1) .nil)) (.con (.int 1))) (.cons (.raise 1 .nil)
  .nil) .nil)
  (.cons (.set 3 (.bi .tuple (.cons (.bm .pop (.var 1) .nil) .nil)))
  (.cons (.ex (.bm .append (.ix (.var 1) (.neg (.con (.int 1)))) (.cons (.var 3) .nil)))
  .nil))) (.cons (.ex (.call 2 (.cons (.var 2) .nil)))
  (.cons (.ex (.bm .append (.ix (.var 1) (.neg (.con (.int 1)))) (.cons (.call 1 (.cons (.var 2) .nil)) .nil)))
  .nil)))
  .nil))
  .nil))
def b3 : Mi.S := (.cons (.set 1 (.lst (.cons (.lst .nil) .nil)))
  (.cons (.loop (.name 2) (.seq (.bm .split (.var 0) (.cons (.con (.str (" " : Str))) .nil))) l3_1)
  (.cons (.ife (.cmp .NotEq (.bi .len (.cons (.var 1) .nil)) (.con (.int 1))) (.cons (.raise 1 .nil)
  .nil) .nil)
  (.cons (.ret (.ix (.ix (.var 1) (.con (.int 0))) (.con (.int 0))))
  .nil))))
/- brackets_shown(thing, one) -/
def b4 : Mi.S := (.cons (.ife (.not (.isi (.var 0) .tuple)) (.cons (.ret (.bi .str (.cons (.var 0) .nil)))
  .nil) .nil)
  (.cons (.ret (.bm .join (.con (.str (" " : Str))) (.cons (.op .Add (.op .Add (.lst (.cons (.con (.str ("(" : Str))) .nil)) (.lc (.name 1) (.seq (.var 0)) .nil (.call 4 (.cons (.var 1) .nil)) [1])) (.lst (.cons (.con (.str (")" : Str))) .nil))) .nil)))
  .nil))
/- _law_cell(_law_script, _law_k, _law_spare) -/
def b5 : Mi.S := (.cons (.ife (.cmp .Lt (.var 1) (.bi .len (.cons (.var 0) .nil))) (.cons (.ret (.ix (.var 0) (.var 1)))
  .nil) .nil)
  (.cons (.set 2 (.op .Add (.con (.int 90017)) (.op .Mult (.op .Mult (.con (.int 733)) (.var 1)) (.var 1))))
  (.cons (.ife (.cmp .Gt (.bi .len (.cons (.var 0) .nil)) (.con (.int 0))) (.cons (.set 2 (.op .Add (.var 2) (.op .Mult (.op .Mod (.ix (.var 0) (.con (.int 0))) (.con (.int 99991))) (.op .Add (.op .Mult (.con (.int 2)) (.var 1)) (.con (.int 3))))))
  .nil) .nil)
  (.cons (.ret (.var 2))
  .nil))))
/- _law_draws(_law_script, _law_at, _law_many, _law_digits, _law_left, _law_k, _law_mixed, _law_draw) -/
def l6_1 : Mi.S := (.cons (.ex (.bm .append (.var 3) (.cons (.op .Mod (.var 4) (.con (.int 10000))) .nil)))
  (.cons (.set 4 (.op .FloorDiv (.var 4) (.con (.int 10000))))
  .nil))
def l6_2 : Mi.S := (.cons (.set 7 (.op .Mod (.op .Add (.op .Add (.op .Mult (.var 7) (.con (.int 48271))) (.call 5 (.cons (.var 0) (.cons (.op .Add (.op .Add (.var 1) (.con (.int 1))) (.op .Mod (.var 5) (.con (.int 30)))) .nil)))) (.op .Mult (.var 5) (.var 5))) (.con (.int 2147483629))))
  (.cons (.ex (.bm .append (.var 6) (.cons (.op .FloorDiv (.op .Mod (.op .Add (.op .Mult (.var 7) (.con (.int 69621))) (.op .Mult (.con (.int 11)) (.var 5))) (.con (.int 2147483647))) (.con (.int 16))) .nil)))
  .nil))
def b6 : Mi.S := (.cons (.set 3 (.lst .nil))
  (.cons (.set 4 (.bi .max2 (.cons (.con (.int 0)) (.cons (.call 5 (.cons (.var 0) (.cons (.var 1) .nil))) .nil))))
  (.cons (.loop (.name 5) (.rng (.cons (.var 2) .nil)) l6_1)
  (.cons (.ife (.cmp .Gt (.var 4) (.con (.int 0))) (.cons (.ret (.var 3))
  .nil) .nil)
  (.cons (.set 6 (.lst .nil))
  (.cons (.set 7 (.op .Mod (.op .Mult (.op .Mod (.call 5 (.cons (.var 0) (.cons (.var 1) .nil))) (.con (.int 2147483647))) (.con (.int 48271))) (.con (.int 2147483647))))
  (.cons (.loop (.name 5) (.rng (.cons (.var 2) .nil)) l6_2)
  (.cons (.ret (.var 6))
  .nil))))))))
/- _law_next(_law_state) -/
def b7 : Mi.S := (.cons (.ife (.cmp .Gt (.bi .len (.cons (.ix (.var 0) (.con (.str ("draws" : Str)))) .nil)) (.con (.int 0))) (.cons (.ret (.bm .pop (.ix (.var 0) (.con (.str ("draws" : Str)))) .nil))
  .nil) .nil)
  (.cons (.ret (.con (.int 1)))
  .nil))
/- _law_alike(_law_found, _law_due, _law_k) -/
def b8 : Mi.S := (.cons (.ife (.disj (.cons (.cmp .NotEq (.isi (.var 0) .tuple) (.isi (.var 1) .tuple)) (.cons (.cmp .NotEq (.isi (.var 0) .bool) (.isi (.var 1) .bool)) .nil))) (.cons (.ret (.con (.bl false)))
  .nil) .nil)
  (.cons (.ife (.disj (.cons (.cmp .NotEq (.isi (.var 0) .str) (.isi (.var 1) .str)) (.cons (.cmp .NotEq (.cmp .Is (.var 0) (.con .non)) (.cmp .Is (.var 1) (.con .non))) .nil))) (.cons (.ret (.con (.bl false)))
  .nil) .nil)
  (.cons (.ife (.not (.isi (.var 1) .tuple)) (.cons (.ret (.cmp .Eq (.var 0) (.var 1)))
  .nil) .nil)
  (.cons (.ife (.cmp .NotEq (.bi .len (.cons (.var 0) .nil)) (.bi .len (.cons (.var 1) .nil))) (.cons (.ret (.con (.bl false)))
  .nil) .nil)
  (.cons (.ret (.cmp .Eq (.bi .len (.cons (.lc (.name 2) (.rng (.cons (.bi .len (.cons (.var 1) .nil)) .nil)) (.not (.call 8 (.cons (.ix (.var 0) (.var 2)) (.cons (.ix (.var 1) (.var 2)) .nil)))) (.var 2) [2]) .nil)) (.con (.int 0))))
  .nil)))))
/- _law_piece(_law_state, _law_draw, _law_rest, _law_signs, _law_piece_here, _law_turn, _law_some) -/
def l9_1 : Mi.S := (.cons (.set 4 (.op .Add (.var 4) (.ix (.var 3) (.op .Mod (.var 2) (.bi .len (.cons (.var 3) .nil))))))
  (.cons (.set 2 (.op .Add (.op .FloorDiv (.var 2) (.con (.int 53))) (.call 7 (.cons (.var 0) .nil))))
  .nil))
def b9 : Mi.S := (.cons (.set 1 (.call 7 (.cons (.var 0) .nil)))
  (.cons (.set 2 (.op .FloorDiv (.var 1) (.con (.int 8))))
  (.cons (.ife (.cmp .Lt (.op .Mod (.var 1) (.con (.int 8))) (.con (.int 3))) (.cons (.ret (.ix (.lst (.cons (.con (.int 0)) (.cons (.con (.int 1)) (.cons (.neg (.con (.int 1))) (.cons (.con (.int 32767)) (.cons (.neg (.con (.int 32768))) (.cons (.op .Sub (.op .Mod (.op .FloorDiv (.var 2) (.con (.int 8))) (.con (.int 65536))) (.con (.int 32768))) (.cons (.op .Mod (.op .FloorDiv (.var 2) (.con (.int 8))) (.con (.int 100))) (.cons (.op .Sub (.con (.int 0)) (.op .Mod (.var 2) (.con (.int 9)))) .nil))))))))) (.op .Mod (.var 2) (.con (.int 8)))))
  .nil) .nil)
  (.cons (.ife (.cmp .Eq (.op .Mod (.var 1) (.con (.int 8))) (.con (.int 3))) (.cons (.set 6 (.lst (.cons (.con (.str ("-0" : Str))) (.cons (.con (.str ("00" : Str))) (.cons (.con (.str ("007" : Str))) (.cons (.con (.str ("32768" : Str))) (.cons (.con (.str ("-32769" : Str))) (.cons (.con (.str ("-" : Str))) (.cons (.con (.str ("--1" : Str))) (.cons (.con (.str ("99999999999999999999" : Str))) (.cons (.con (.str ("1.5" : Str))) (.cons (.con (.str ("-01" : Str))) (.cons (.con (.str ("1a" : Str))) (.cons (.con (.str ("+1" : Str))) .nil))))))))))))))
  (.cons (.ret (.ix (.op .Add (.var 6) (.lst (.cons (.con (.str ("1_0" : Str))) (.cons (.con (.str ("0x1" : Str))) (.cons (.con (.str ("1e3" : Str))) (.cons (.con (.str ("-1_0" : Str))) (.cons (.con (.str ("1-" : Str))) .nil))))))) (.op .Mod (.var 2) (.con (.int 17)))))
  .nil)) .nil)
  (.cons (.set 3 (.con (.str ("abcxyzABCXYZ0189-+*/<=_.,:;!?#[]{}|\\^'$&@~>`" : Str))))
  (.cons (.set 4 (.con (.str ("x" : Str))))
  (.cons (.loop (.name 5) (.rng (.cons (.op .Sub (.op .Mod (.var 1) (.con (.int 8))) (.con (.int 3))) .nil)) l9_1)
  (.cons (.ret (.slice (.var 4) (.op .Mult (.op .Mod (.var 2) (.con (.int 2))) (.bi .int (.cons (.cmp .In (.slice (.var 4) (.con (.int 1)) (.con (.int 2))) (.lst (.cons (.con (.str ("a" : Str))) (.cons (.con (.str ("b" : Str))) (.cons (.con (.str ("c" : Str))) (.cons (.con (.str ("y" : Str))) (.cons (.con (.str ("z" : Str))) (.cons (.con (.str ("A" : Str))) (.cons (.con (.str ("_" : Str))) (.cons (.con (.str (":" : Str))) .nil)))))))))) .nil))) .nil))
  .nil))))))))
/- _law_thing(_law_state, _law_deep_here, _law_draw, _law_k) -/
def b10 : Mi.S := (.cons (.set 2 (.call 7 (.cons (.var 0) .nil)))
  (.cons (.ife (.disj (.cons (.cmp .Eq (.var 1) (.con (.int 0))) (.cons (.cmp .Eq (.op .Mod (.var 2) (.con (.int 3))) (.con (.int 0))) .nil))) (.cons (.ret (.call 9 (.cons (.var 0) .nil)))
  .nil) .nil)
  (.cons (.ret (.bi .tuple (.cons (.lc (.name 3) (.rng (.cons (.op .Mod (.op .FloorDiv (.var 2) (.con (.int 3))) (.con (.int 4))) .nil)) .nil (.call 10 (.cons (.var 0) (.cons (.op .Sub (.var 1) (.con (.int 1))) .nil))) [3]) .nil)))
  .nil)))
/- _law_deep(_law_thing_here, _law_many, _law_turn) -/
def l11_1 : Mi.S := (.cons (.set 0 (.tup (.cons (.var 0) .nil)))
  .nil)
def b11 : Mi.S := (.cons (.loop (.name 2) (.rng (.cons (.var 1) .nil)) l11_1)
  (.cons (.ret (.var 0))
  .nil))
/- _law_text(_law_thing_here, _law_text_here, _law_one) -/
def l12_1 : Mi.S := (.cons (.set 1 (.op .Add (.op .Add (.var 1) (.call 12 (.cons (.var 2) .nil))) (.con (.str (" " : Str)))))
  .nil)
def b12 : Mi.S := (.cons (.ife (.not (.isi (.var 0) .tuple)) (.cons (.ret (.bi .str (.cons (.var 0) .nil)))
  .nil) .nil)
  (.cons (.set 1 (.con (.str ("( " : Str))))
  (.cons (.loop (.name 2) (.seq (.var 0)) l12_1)
  (.cons (.ret (.op .Add (.var 1) (.con (.str (")" : Str)))))
  .nil))))
/- law(_law_script, _law_state, _law_thing_here, _law_other, _law_one, _law_text_here) -/
def l13_1 : Mi.S := (.cons (.set 5 (.call 12 (.cons (.var 4) .nil)))
  (.cons (.ife (.disj (.cons (.not (.call 8 (.cons (.call 3 (.cons (.var 5) .nil)) (.cons (.var 4) .nil)))) (.cons (.not (.call 8 (.cons (.call 4 (.cons (.var 4) .nil)) (.cons (.var 5) .nil)))) .nil))) (.cons (.ret (.con (.bl false)))
  .nil) .nil)
  .nil))
def b13 : Mi.S := (.cons (.set 1 (.dic (.cons (.con (.str ("draws" : Str))) .nil) (.cons (.call 6 (.cons (.var 0) (.cons (.con (.int 0)) (.cons (.con (.int 120)) .nil)))) .nil)))
  (.cons (.set 2 (.call 11 (.cons (.call 10 (.cons (.var 1) (.cons (.con (.int 4)) .nil))) (.cons (.ix (.lst (.cons (.con (.int 0)) (.cons (.con (.int 0)) (.cons (.con (.int 1)) (.cons (.con (.int 36)) (.cons (.con (.int 35)) (.cons (.op .Mod (.call 7 (.cons (.var 1) .nil)) (.con (.int 37))) .nil))))))) (.op .Mod (.call 7 (.cons (.var 1) .nil)) (.con (.int 6)))) .nil))))
  (.cons (.set 3 (.call 10 (.cons (.var 1) (.cons (.con (.int 3)) .nil))))
  (.cons (.loop (.name 4) (.seq (.lst (.cons (.var 2) (.cons (.var 3) (.cons (.var 2) .nil))))) l13_1)
  (.cons (.ret (.con (.bl true)))
  .nil)))))
def F : Nat → Option Df
  | 0 => some ⟨1, 3, b0⟩
  | 1 => some ⟨1, 2, b1⟩
  | 2 => some ⟨1, 1, b2⟩
  | 3 => some ⟨1, 4, b3⟩
  | 4 => some ⟨1, 2, b4⟩
  | 5 => some ⟨2, 3, b5⟩
  | 6 => some ⟨3, 8, b6⟩
  | 7 => some ⟨1, 1, b7⟩
  | 8 => some ⟨2, 3, b8⟩
  | 9 => some ⟨1, 7, b9⟩
  | 10 => some ⟨2, 4, b10⟩
  | 11 => some ⟨2, 3, b11⟩
  | 12 => some ⟨1, 3, b12⟩
  | 13 => some ⟨1, 6, b13⟩
  | _ => none
def T : Tb := ⟨fun _ _ => none, fun _ _ => false⟩
theorem u0 (k : Nat) (x0 : Mi.W) (τ : Sto) : evF T F (k + 1) 0 [x0] τ = Mi.finish (evS T (evF T F k) b0 [some x0, none, none] τ) := rfl
theorem u1 (k : Nat) (x0 : Mi.W) (τ : Sto) : evF T F (k + 1) 1 [x0] τ = Mi.finish (evS T (evF T F k) b1 [some x0, none] τ) := rfl
theorem u2 (k : Nat) (x0 : Mi.W) (τ : Sto) : evF T F (k + 1) 2 [x0] τ = Mi.finish (evS T (evF T F k) b2 [some x0] τ) := rfl
theorem u3 (k : Nat) (x0 : Mi.W) (τ : Sto) : evF T F (k + 1) 3 [x0] τ = Mi.finish (evS T (evF T F k) b3 [some x0, none, none, none] τ) := rfl
theorem u4 (k : Nat) (x0 : Mi.W) (τ : Sto) : evF T F (k + 1) 4 [x0] τ = Mi.finish (evS T (evF T F k) b4 [some x0, none] τ) := rfl
theorem u5 (k : Nat) (x0 x1 : Mi.W) (τ : Sto) : evF T F (k + 1) 5 [x0, x1] τ = Mi.finish (evS T (evF T F k) b5 [some x0, some x1, none] τ) := rfl
theorem u6 (k : Nat) (x0 x1 x2 : Mi.W) (τ : Sto) : evF T F (k + 1) 6 [x0, x1, x2] τ = Mi.finish (evS T (evF T F k) b6 [some x0, some x1, some x2, none, none, none, none, none] τ) := rfl
theorem u7 (k : Nat) (x0 : Mi.W) (τ : Sto) : evF T F (k + 1) 7 [x0] τ = Mi.finish (evS T (evF T F k) b7 [some x0] τ) := rfl
theorem u8 (k : Nat) (x0 x1 : Mi.W) (τ : Sto) : evF T F (k + 1) 8 [x0, x1] τ = Mi.finish (evS T (evF T F k) b8 [some x0, some x1, none] τ) := rfl
theorem u9 (k : Nat) (x0 : Mi.W) (τ : Sto) : evF T F (k + 1) 9 [x0] τ = Mi.finish (evS T (evF T F k) b9 [some x0, none, none, none, none, none, none] τ) := rfl
theorem u10 (k : Nat) (x0 x1 : Mi.W) (τ : Sto) : evF T F (k + 1) 10 [x0, x1] τ = Mi.finish (evS T (evF T F k) b10 [some x0, some x1, none, none] τ) := rfl
theorem u11 (k : Nat) (x0 x1 : Mi.W) (τ : Sto) : evF T F (k + 1) 11 [x0, x1] τ = Mi.finish (evS T (evF T F k) b11 [some x0, some x1, none] τ) := rfl
theorem u12 (k : Nat) (x0 : Mi.W) (τ : Sto) : evF T F (k + 1) 12 [x0] τ = Mi.finish (evS T (evF T F k) b12 [some x0, none, none] τ) := rfl
theorem u13 (k : Nat) (x0 : Mi.W) (τ : Sto) : evF T F (k + 1) 13 [x0] τ = Mi.finish (evS T (evF T F k) b13 [some x0, none, none, none, none, none] τ) := rfl
end L_k03

namespace L_k03
open PySem Mi
def depth : Nat := 60
theorem r5 (k : Nat) (n : Int) (ns : List Int) (τ : Sto) (h : τ[0]? = some (.frz ns)) (h0 : 0 ≤ n) (hb : n < 4096) : ∃ i, evF T F (k + 1) 5 [.ref 0, .int n] τ = .ok (.int i) τ := by
  rw [u5, b5, evS_cons, evS_ife]
  by_cases c : n < ns.length
  · obtain ⟨i, g⟩ : ∃ i, L2.atI (ns.map Mi.W.int) n = some (.int i) := by
      obtain ⟨m, rfl⟩ := Int.eq_ofNat_of_zero_le h0
      exact ⟨_, L2.atI_nat (by rw [List.getElem?_map, List.getElem?_eq_getElem (by omega)]; rfl)⟩
    refine ⟨i, ?_⟩
    simp only [ev_cmp_t, ev_cmp, ev_var, List.getElem?_cons_zero, List.getElem?_cons_succ, getV_some, R.bind_ok, ev_bi, ev_cons_a, ev_nil_a, len_frz h, cmp_lt, Option.map_some, lift_some, dT_ok, truth_bl, decide_eq_true c, if_true, evS_cons, evS_ret, ev_ix, item_frz h, g, seqR_rt, finish_rt]
  · have m1 : ∀ b : Int, Mi.binI .Mult 733 b = some (733 * b) := fun b => binI_mul_l (by decide) (by decide)
    have m2 : ∀ b : Int, Mi.binI .Mult b n = some (b * n) := fun b => binI_mul_r (by omega) (by omega)
    have m3 : ∀ b : Int, Mi.binI .Mult 2 b = some (2 * b) := fun b => binI_mul_l (by decide) (by decide)
    have m4 : ∀ a b : Int, Mi.binI .Mult (a % 99991) b = some (a % 99991 * b) := fun a b => binI_mul_l (by omega) (by omega)
    have m5 : ∀ a : Int, Mi.binI .Mod a 99991 = some (a % 99991) := fun a => binI_mod (by decide)
    by_cases z : (0 : Int) < ns.length
    · obtain ⟨i, g⟩ : ∃ i, L2.atI (ns.map Mi.W.int) (0 : Int) = some (.int i) := ⟨_, L2.atI_nat (j := 0) (by rw [List.getElem?_map, List.getElem?_eq_getElem (by omega)]; rfl)⟩
      simp only [ev_cmp_t, ev_cmp, ev_var, List.getElem?_cons_zero, List.getElem?_cons_succ, getV_some, R.bind_ok, ev_bi, ev_cons_a, ev_nil_a, len_frz h, cmp_lt, cmp_gt, Option.map_some, lift_some, dT_ok, truth_bl, decide_eq_false c, decide_eq_true z, if_true, Bool.false_eq_true, if_false, evS_cons, evS_nil, evS_set, evS_ife, evS_ret, ev_op, ev_con, ev_ix, item_frz h, g, seqR_rt, seqR_nx, finish_rt, binop_int, binI_add, m1, m2, m3, m4, m5, List.set_cons_zero, List.set_cons_succ]
      exact ⟨_, rfl⟩
    · simp only [ev_cmp_t, ev_cmp, ev_var, List.getElem?_cons_zero, List.getElem?_cons_succ, getV_some, R.bind_ok, ev_bi, ev_cons_a, ev_nil_a, len_frz h, cmp_lt, cmp_gt, Option.map_some, lift_some, dT_ok, truth_bl, decide_eq_false c, decide_eq_false z, if_true, Bool.false_eq_true, if_false, evS_cons, evS_nil, evS_set, evS_ife, evS_ret, ev_op, ev_con, ev_ix, seqR_rt, seqR_nx, finish_rt, binop_int, binI_add, m1, m2, m3, m4, m5, List.set_cons_zero, List.set_cons_succ]
      exact ⟨_, rfl⟩
/-- all but the list at l stays -/
def Keep (l : Nat) (τ τ' : Sto) : Prop := ∀ n o, n ≠ l → τ[n]? = some o → τ'[n]? = some o
theorem Keep.refl {l : Nat} {τ : Sto} : Keep l τ τ := fun _ _ _ h => h
theorem Keep.trans {l : Nat} {τ τ1 τ2 : Sto} (a : Keep l τ τ1) (b : Keep l τ1 τ2) : Keep l τ τ2 := fun n o hn h => b n o hn (a n o hn h)
theorem Keep.pre {l : Nat} {τ τ1 : Sto} (a : τ <+: τ1) : Keep l τ τ1 := fun n o _ h => pre_get a h
theorem Keep.set {l : Nat} {τ : Sto} {o : AO} : Keep l τ (τ.set l o) := fun n u hn h => by
  rw [List.getElem?_set_ne (Ne.symm hn)]
  exact h
/-- the draws that are left -/
structure Dr (s l : Nat) (τ : Sto) : Prop where
  d : τ[s]? = some (.dic [(.inr "draws", .ref l)])
  ne : s ≠ l
  ls : ∃ ds : List Int, τ[l]? = some (.lst (ds.map W.int)) ∧ ∀ d ∈ ds, 0 ≤ d
theorem Dr.pre {s l : Nat} {τ τ' : Sto} (h : Dr s l τ) (p : τ <+: τ') : Dr s l τ' := by
  obtain ⟨ds, h1, h2⟩ := h.ls
  exact ⟨pre_get p h.d, h.ne, ds, pre_get p h1, h2⟩
theorem kv1 (l : Nat) : kvGet [((.inr "draws" : L2.Key), W.ref l)] (.inr "draws") = some (.ref l) := by
  unfold kvGet
  simp
theorem r7 (k s l : Nat) (τ : Sto) (h : Dr s l τ) : ∃ d τ', evF T F (k + 1) 7 [.ref s] τ = .ok (.int d) τ' ∧ 0 ≤ d ∧ Dr s l τ' ∧ Keep l τ τ' := by
  obtain ⟨ds, h1, h2⟩ := h.ls
  rcases List.eq_nil_or_concat ds with e | ⟨r, z, e⟩
  · subst e
    refine ⟨1, τ, ?_, by decide, h, .refl⟩
    simp [u7, b7, item_ref, h.d, keyOf, kv1, len_ref, h1]
  · subst e
    rw [List.concat_eq_append, List.map_append] at h1
    have hz : 0 ≤ z := h2 z (by rw [List.concat_eq_append]; exact List.mem_append_right _ List.mem_cons_self)
    obtain ⟨p1, p2⟩ := pop_ok (xs := r.map W.int) (y := .int z) h1
    have hpos : (0 : Int) < ((r.map W.int ++ [z].map W.int).length : Int) := by simp
    have hlt := (List.getElem?_eq_some_iff.mp h1).1
    refine ⟨z, τ.set l (.lst (r.map W.int)), ?_, hz, ⟨by rw [List.getElem?_set_ne (Ne.symm h.ne)]; exact h.d, h.ne, r, by rw [List.getElem?_set_self hlt], fun d hd => h2 d (by rw [List.concat_eq_append]; exact List.mem_append_left _ hd)⟩, .set⟩
    have hp : (0 : Int) < (r.length : Int) + 1 := by omega
    simp [u7, b7, item_ref, h.d, keyOf, kv1, len_ref, h1, p1, p2, hp]
/-! the draws -/
def NN (w : Mi.W) : Prop := ∃ i : Int, w = .int i ∧ 0 ≤ i
theorem nn_ints : ∀ {xs : List Mi.W}, (∀ x ∈ xs, NN x) → ∃ ds : List Int, xs = ds.map W.int ∧ ∀ d ∈ ds, 0 ≤ d
  | [], _ => ⟨[], rfl, fun d h => nomatch h⟩
  | x :: r, h => by
    obtain ⟨i, rfl, hi⟩ := h x List.mem_cons_self
    obtain ⟨ds, rfl, h2⟩ := nn_ints (xs := r) fun y hy => h y (List.mem_cons_of_mem _ hy)
    exact ⟨i :: ds, rfl, fun d hd => by
      rcases List.mem_cons.mp hd with e | e
      · rw [e]; exact hi
      · exact h2 d e⟩
theorem mem_rng {x : Mi.W} {n : Nat} (h : x ∈ (List.range n).map fun (i : Nat) => W.int (i : Int)) : ∃ i : Int, x = .int i ∧ 0 ≤ i ∧ i < n := by
  obtain ⟨i, hi, rfl⟩ := List.mem_map.mp h
  have := List.mem_range.mp hi
  exact ⟨i, rfl, by omega, by omega⟩
theorem ap_nn {ds : List Int} {d : Int} (h : ∀ x ∈ ds, 0 ≤ x) (hd : 0 ≤ d) : ∀ x ∈ ds ++ [d], 0 ≤ x := fun x hx => by
  rcases List.mem_append.mp hx with e | e
  · exact h x e
  · rw [List.mem_singleton.mp e]; exact hd
theorem r6 (k : Nat) (ns : List Int) : ∃ D τ', evF T F (k + 2) 6 [.ref 0, .int 0, .int 120] [.frz ns, .dic []] = .ok (.ref D) τ' ∧ 1 < D ∧ τ'[1]? = some (.dic []) ∧ ∃ ds : List Int, τ'[D]? = some (.lst (ds.map W.int)) ∧ ∀ d ∈ ds, 0 ≤ d := by
  obtain ⟨c0, hc0⟩ := r5 k 0 ns [.frz ns, .dic [], .lst []] rfl (by decide) (by decide)
  have hmax : (if c0 > 0 then c0 else 0) ≥ 0 := by split <;> omega
  rw [u6, b6, evS_cons, evS_set]
  simp [newL, hc0, rng1]
  generalize (if 0 < c0 then c0 else 0) = m at *
  obtain ⟨ρ', τ', e, ds, m', x5, rfl, rfl, h1, h2, h3⟩ := forL_cnt (g := .name 5) (gs := []) (body := evS T (evF T F (k + 1)) l6_1) (Inv := fun n ρ τ => ∃ (ds : List Int) (m : Int) (x5 : Option Mi.W), ρ = [some (.ref 0), some (.int 0), some (.int 120), some (.ref 2), some (.int m), x5, none, none] ∧ τ = [.frz ns, .dic [], .lst (ds.map W.int)] ∧ 0 ≤ m ∧ ds.length + n ≤ 120 ∧ ∀ d ∈ ds, 0 ≤ d)
    (fun _ _ _ _ q hq => nomatch hq) ((List.range 120).map fun (i : Nat) => W.int (i : Int)) (fun x hx n ρ τ ⟨ds, m, x5, e1, e2, h1, h2, h3⟩ => by
      subst e1 e2
      refine ⟨_, rfl, _, _, ?_, ds ++ [m % 10000], m / 10000, some x, rfl, rfl, by omega, by rw [List.length_append]; show ds.length + 1 + n ≤ 120; omega, ap_nn h3 (by omega)⟩
      obtain ⟨a1, a2⟩ := append_ok (τ := [.frz ns, .dic [], .lst (ds.map W.int)]) (n := 2) (xs := ds.map W.int) (.int (m % 10000)) rfl (by rw [List.length_map]; exact Nat.lt_of_lt_of_le (by omega : ds.length < 121) (by decide))
      simp [l6_1, a1, a2]) [some (.ref 0), some (.int 0), some (.int 120), some (.ref 2), some (.int m), none, none, none] [.frz ns, .dic [], .lst []] ⟨[], m, none, rfl, rfl, hmax, by simp, fun d h => nomatch h⟩
  rw [e]
  by_cases hm : 0 < m'
  · refine ⟨2, [.frz ns, .dic [], .lst (ds.map W.int)], ?_, by decide, rfl, ds, rfl, h3⟩
    simp [hm]
  · obtain ⟨c1, hc1⟩ := r5 k 0 ns [.frz ns, .dic [], .lst (ds.map W.int), .lst []] rfl (by decide) (by decide)
    simp [hm, newL, hc1, rng1]
    generalize c1 % 2147483647 * 48271 % 2147483647 = dr
    obtain ⟨ρ', τ', e, ds2, m2, x5, rfl, rfl, h1, h2⟩ := forL_cnt (g := .name 5) (gs := []) (body := evS T (evF T F (k + 1)) l6_2) (Inv := fun n ρ τ => ∃ (ds2 : List Int) (m2 : Int) (x5 : Option Mi.W), ρ = [some (.ref 0), some (.int 0), some (.int 120), some (.ref 2), some (.int m'), x5, some (.ref 3), some (.int m2)] ∧ τ = [.frz ns, .dic [], .lst (ds.map W.int), .lst (ds2.map W.int)] ∧ ds2.length + n ≤ 120 ∧ ∀ d ∈ ds2, 0 ≤ d)
      (fun _ _ _ _ q hq => nomatch hq) ((List.range 120).map fun (i : Nat) => W.int (i : Int)) (fun x hx n ρ τ ⟨ds2, m2, x5, e1, e2, h1, h2⟩ => by
        subst e1 e2
        obtain ⟨j, rfl, hj0, hj1⟩ := mem_rng hx
        obtain ⟨c, hc⟩ := r5 k (0 + 1 + j % 30) ns [.frz ns, .dic [], .lst (ds.map W.int), .lst (ds2.map W.int)] rfl (by omega) (by omega)
        have hjj : Mi.binI .Mult j j = some (j * j) := binI_mul_l (by omega) (by omega)
        refine ⟨_, rfl, _, _, ?_, ds2 ++ [(((m2 * 48271 + c + j * j) % 2147483629) * 69621 + 11 * j) % 2147483647 / 16], (m2 * 48271 + c + j * j) % 2147483629, some (.int j), rfl, rfl, by rw [List.length_append]; show ds2.length + 1 + n ≤ 120; omega, ap_nn h2 (by omega)⟩
        obtain ⟨a1, a2⟩ := append_ok (τ := [.frz ns, .dic [], .lst (ds.map W.int), .lst (ds2.map W.int)]) (n := 3) (xs := ds2.map W.int) (.int ((((m2 * 48271 + c + j * j) % 2147483629) * 69621 + 11 * j) % 2147483647 / 16)) rfl (by rw [List.length_map]; exact Nat.lt_of_lt_of_le (by omega : ds2.length < 121) (by decide))
        have hc' : evF T F (k + 1) 5 [W.ref 0, W.int (1 + j % 30)] [.frz ns, .dic [], .lst (ds.map W.int), .lst (ds2.map W.int)] = .ok (.int c) [.frz ns, .dic [], .lst (ds.map W.int), .lst (ds2.map W.int)] := by rw [← hc]; simp
        simp [l6_2, hc', hjj, a1, a2]) [some (.ref 0), some (.int 0), some (.int 120), some (.ref 2), some (.int m'), x5, some (.ref 3), some (.int dr)] [.frz ns, .dic [], .lst (ds.map W.int), .lst []] ⟨[], dr, _, rfl, rfl, by simp, fun d h => nomatch h⟩
    rw [e]
    exact ⟨3, [.frz ns, .dic [], .lst (ds.map W.int), .lst (ds2.map W.int)], by simp, by decide, rfl, ds2, rfl, h2⟩
/-! things -/
def figs (a : List Nat) : Bool := !a.isEmpty && a.all (fun c => decide (48 ≤ c) && decide (c ≤ 57)) && (decide (a = [48]) || decide (a.head? ≠ some 48))
def bare (a : List Nat) : List Nat := if a.head? = some 45 ∧ a ≠ [45, 48] then a.tail else a
def val (a : List Nat) : Int := match a with
  | 45 :: r => -((NumText.digitsVal r : Nat) : Int)
  | _ => ((NumText.digitsVal a : Nat) : Int)
def told (a : List Nat) : Bool := figs (bare a) && decide ((bare a).length < 6) && decide (-32768 ≤ val a ∧ val a ≤ 32767)
def plain (c : Nat) : Bool := decide (c ≠ 32) && decide (c ≠ 40) && decide (c ≠ 41) && decide (c < 128)
def goodB (a : List Nat) : Bool := !a.isEmpty && a.all plain && decide (a.length ≤ 32) && !told a
def GoodS (s : Str) : Prop := goodB s.cps.toList = true
def Leaf (w : Mi.W) : Prop := (∃ i : Int, w = .int i ∧ -32768 ≤ i ∧ i ≤ 32767) ∨ ∃ s, w = .str s ∧ GoodS s
theorem leaf_int {i : Int} (h1 : -32768 ≤ i) (h2 : i ≤ 32767) : Leaf (.int i) := .inl ⟨i, rfl, h1, h2⟩
theorem told_head {c : Nat} {r : List Nat} (h1 : ¬ (48 ≤ c ∧ c ≤ 57)) (h2 : c ≠ 45) : told (c :: r) = false := by
  have hb : bare (c :: r) = c :: r := by
    unfold bare
    rw [if_neg]
    intro h
    exact h2 (Option.some.inj h.1)
  unfold told
  rw [hb]
  have hf : figs (c :: r) = false := by
    unfold figs
    have : (decide (48 ≤ c) && decide (c ≤ 57)) = false := by
      by_cases a : 48 ≤ c
      · rw [decide_eq_true a, decide_eq_false (fun b => h1 ⟨a, b⟩), Bool.and_false]
      · rw [decide_eq_false a, Bool.false_and]
    rw [List.all_cons, this]
    simp
  rw [hf]
  rfl
theorem good_plain {a : List Nat} (h : goodB a = true) : ∀ c ∈ a, plain c = true := by
  unfold goodB at h
  rw [Bool.and_eq_true, Bool.and_eq_true, Bool.and_eq_true] at h
  exact List.all_eq_true.mp h.1.1.2
theorem good_of {a : List Nat} (h1 : a ≠ []) (h2 : ∀ c ∈ a, plain c = true) (h3 : a.length ≤ 32) (h4 : told a = false) : goodB a = true := by
  unfold goodB
  rw [h4, List.all_eq_true.mpr h2, decide_eq_true h3]
  cases a with
  | nil => exact absurd rfl h1
  | cons _ _ => rfl
theorem leaf_str {a : List Nat} (h : goodB a = true) : Leaf (.str (SX.S a)) := .inr ⟨_, rfl, h⟩
abbrev sgS : Str := "abcxyzABCXYZ0189-+*/<=_.,:;!?#[]{}|\\^'$&@~>`"
theorem sg_len : sgS.length = 44 := by decide +kernel
theorem sg_all : sgS.cps.toList.all plain = true := by decide +kernel
def headL : List Mi.W := [.str "a", .str "b", .str "c", .str "y", .str "z", .str "A", .str "_", .str ":"]
theorem head_ok {a : List Nat} (h : inF (.str (SX.S (a.take 1))) headL = true) : ∃ c r, a = c :: r ∧ ¬ (48 ≤ c ∧ c ≤ 57) ∧ c ≠ 45 := by
  unfold inF headL at h
  rw [List.any_eq_true] at h
  obtain ⟨y, hy, e⟩ := h
  have key : ∀ (z : Str) (c : Nat), z = SX.S [c] → eqF (.str z) (.str (SX.S (a.take 1))) = true → ∃ r, a = c :: r := fun z c hz e => by
    have e1 : (z == SX.S (a.take 1)) = true := e
    have e2 : z = SX.S (a.take 1) := eq_of_beq e1
    rw [hz] at e2
    have e3 := SX.S_inj e2
    cases a with
    | nil => cases e3
    | cons d r =>
      have e4 : [c] = [d] := e3
      cases e4
      exact ⟨r, rfl⟩
  simp only [List.mem_cons, List.not_mem_nil, or_false] at hy
  rcases hy with rfl | rfl | rfl | rfl | rfl | rfl | rfl | rfl
  · obtain ⟨r, rfl⟩ := key _ 97 (by decide +kernel) e; exact ⟨_, r, rfl, by decide, by decide⟩
  · obtain ⟨r, rfl⟩ := key _ 98 (by decide +kernel) e; exact ⟨_, r, rfl, by decide, by decide⟩
  · obtain ⟨r, rfl⟩ := key _ 99 (by decide +kernel) e; exact ⟨_, r, rfl, by decide, by decide⟩
  · obtain ⟨r, rfl⟩ := key _ 121 (by decide +kernel) e; exact ⟨_, r, rfl, by decide, by decide⟩
  · obtain ⟨r, rfl⟩ := key _ 122 (by decide +kernel) e; exact ⟨_, r, rfl, by decide, by decide⟩
  · obtain ⟨r, rfl⟩ := key _ 65 (by decide +kernel) e; exact ⟨_, r, rfl, by decide, by decide⟩
  · obtain ⟨r, rfl⟩ := key _ 95 (by decide +kernel) e; exact ⟨_, r, rfl, by decide, by decide⟩
  · obtain ⟨r, rfl⟩ := key _ 58 (by decide +kernel) e; exact ⟨_, r, rfl, by decide, by decide⟩
/-- a turn of the piece's making -/
theorem t9 (k s l : Nat) (d rest : Int) (hr : 0 ≤ rest) (cs : List Nat) (hc : cs.length ≤ 4) (x5 : Option Mi.W) (τ : Sto) (h : Dr s l τ) (hcs : ∀ c ∈ cs, plain c = true) : ∃ c rest' τ', evS T (evF T F (k + 1)) l9_1 [some (.ref s), some (.int d), some (.int rest), some (.str sgS), some (.str (SX.S (120 :: cs))), x5, none] τ = .ok (.nx [some (.ref s), some (.int d), some (.int rest'), some (.str sgS), some (.str (SX.S (120 :: (cs ++ [c])))), x5, none]) τ' ∧ 0 ≤ rest' ∧ plain c = true ∧ Dr s l τ' ∧ Keep l τ τ' := by
  obtain ⟨e, τ', e1, he, D1, K1⟩ := r7 k s l τ h
  obtain ⟨c, hc1, hc2⟩ := atI_mem (xs := sgS.cps.toList) (i := rest % 44) (by omega) (by
    have := sg_len
    have e : sgS.cps.toList.length = 44 := this
    rw [e]
    omega)
  have hp : plain c = true := List.all_eq_true.mp sg_all c hc2
  refine ⟨c, rest / 53 + e, τ', ?_, by omega, hp, D1, K1⟩
  have hl : sgS.length ≤ sizeLine := by rw [sg_len]; decide
  have hl2 : (SX.S (120 :: cs)).length + (⟨#[c]⟩ : Str).length ≤ sizeLine := by
    rw [SX.S_len, List.length_cons]
    exact Nat.le_trans (show cs.length + 1 + 1 ≤ 6 by omega) (by decide)
  have hcat : SX.S (120 :: cs) ++ (⟨#[c]⟩ : Str) = SX.S (120 :: (cs ++ [c])) := SX.S_cat _ [c]
  generalize hsg : sgS = sg at *
  generalize hz : SX.S (120 :: cs) = z at *
  have hsl : (sg.length : Int) = 44 := by
    rw [← hsg, sg_len]
    rfl
  simp [l9_1, hl, hsl, hc1, hl2, hcat, e1]
theorem lst8 (d : Int) : ∀ y ∈ [W.int 0, W.int 1, W.int (-1), W.int 32767, W.int (-32768), W.int (d / 8 / 8 % 65536 - 32768), W.int (d / 8 / 8 % 100), W.int (0 - d / 8 % 9)], Leaf y := by
  intro y hy
  simp only [List.mem_cons, List.not_mem_nil, or_false] at hy
  rcases hy with rfl | rfl | rfl | rfl | rfl | rfl | rfl | rfl <;> exact leaf_int (by omega) (by omega)
theorem lst17 : ∀ y ∈ [W.str "-0", W.str "00", W.str "007", W.str "32768", W.str "-32769", W.str "-", W.str "--1", W.str "99999999999999999999", W.str "1.5", W.str "-01", W.str "1a", W.str "+1", W.str "1_0", W.str "0x1", W.str "1e3", W.str "-1_0", W.str "1-"], Leaf y := by
  intro y hy
  simp only [List.mem_cons, List.not_mem_nil, or_false] at hy
  rcases hy with rfl | rfl | rfl | rfl | rfl | rfl | rfl | rfl | rfl | rfl | rfl | rfl | rfl | rfl | rfl | rfl | rfl <;> exact .inr ⟨_, rfl, (by decide +kernel : goodB _ = true)⟩
theorem r9 (k s l : Nat) (τ : Sto) (h : Dr s l τ) : ∃ w τ', evF T F (k + 2) 9 [.ref s] τ = .ok w τ' ∧ Leaf w ∧ Dr s l τ' ∧ Keep l τ τ' := by
  obtain ⟨d, τ1, e, hd, D1, K1⟩ := r7 k s l τ h
  have h8 : d % 8 < 3 ∨ d % 8 = 3 ∨ 3 < d % 8 := by omega
  rcases h8 with c | c | c
  · have hm := lst8 d
    obtain ⟨y, hy, hm'⟩ := atI_mem (xs := [W.int 0, W.int 1, W.int (-1), W.int 32767, W.int (-32768), W.int (d / 8 / 8 % 65536 - 32768), W.int (d / 8 / 8 % 100), W.int (0 - d / 8 % 9)]) (i := d / 8 % 8) (by omega) (by show d / 8 % 8 < 8; omega)
    have hm2 := hm y hm'
    refine ⟨y, τ1 ++ [.lst [W.int 0, W.int 1, W.int (-1), W.int 32767, W.int (-32768), W.int (d / 8 / 8 % 65536 - 32768), W.int (d / 8 / 8 % 100), W.int (0 - d / 8 % 9)]], ?_, hm2, D1.pre (List.prefix_append _ _), K1.trans (.pre (List.prefix_append _ _))⟩
    simp at hy
    simp [u9, b9, e, newL, c, hy]
  · simp [u9, b9, e, newL, c, add_ref, item_ref]
    generalize hq : L2.atI _ (d / 8 % 17) = o
    obtain ⟨y, rfl, hm⟩ := at_some hq (by omega) (by show d / 8 % 17 < 17; omega)
    have hm2 := lst17 y hm
    exact ⟨y, _, by simp; rfl, hm2, D1.pre (List.prefix_append _ _), K1.trans (.pre (List.prefix_append _ _))⟩
  · have c1 : ¬ d % 8 < 3 := by omega
    have c2 : ¬ d % 8 = 3 := by omega
    simp [u9, b9, e, newL, c1, c2]
    rw [rng1 (by omega) (by omega)]
    simp
    obtain ⟨m, hm⟩ := Int.eq_ofNat_of_zero_le (show 0 ≤ d % 8 - 3 by omega)
    have hm4 : m ≤ 4 := by omega
    rw [hm, Int.toNat_natCast]
    obtain ⟨ρ', τ2, e2, rest, cs, x5, rfl, g1, g2, g3, D2, K2⟩ := forL_cnt (g := .name 5) (gs := []) (body := evS T (evF T F (k + 1)) l9_1) (Inv := fun n ρ τ => ∃ (rest : Int) (cs : List Nat) (x5 : Option Mi.W), ρ = [some (.ref s), some (.int d), some (.int rest), some (.str sgS), some (.str (SX.S (120 :: cs))), x5, none] ∧ 0 ≤ rest ∧ cs.length + n ≤ 4 ∧ (∀ c ∈ cs, plain c = true) ∧ Dr s l τ ∧ Keep l τ1 τ)
      (fun _ _ _ _ q hq => nomatch hq) ((List.range m).map fun (i : Nat) => W.int (i : Int)) (fun x hx n ρ τ ⟨rest, cs, x5, e1, h1, h2, h3, h4, h5⟩ => by
        subst e1
        obtain ⟨c, rest', τ', f1, f2, f3, f4, f5⟩ := t9 k s l d rest h1 cs (by omega) (some x) τ h4 h3
        refine ⟨_, rfl, _, τ', f1, rest', cs ++ [c], some x, rfl, f2, by rw [List.length_append]; show cs.length + 1 + n ≤ 4; omega, fun y hy => ?_, f4, h5.trans f5⟩
        rcases List.mem_append.mp hy with q | q
        · exact h3 y q
        · rw [List.mem_singleton.mp q]; exact f3) [some (.ref s), some (.int d), some (.int (d / 8)), some (.str sgS), some (.str "x"), none, none] τ1 ⟨d / 8, [], none, rfl, by omega, by rw [List.length_map, List.length_range]; show 0 + m ≤ 4; omega, fun c h => (nomatch h), D1, .refl⟩
    rw [e2]
    have hlen : (SX.S (120 :: cs)).length ≤ sizeLine := by
      rw [SX.S_len, List.length_cons]
      exact Nat.le_trans (show cs.length + 1 ≤ 5 by omega) (by decide)
    have hall : ∀ c ∈ 120 :: cs, plain c = true := fun c hc => by
      rcases List.mem_cons.mp hc with q | q
      · rw [q]; decide
      · exact g3 c q
    have good1 : goodB (120 :: cs) = true := good_of (by simp) hall (by rw [List.length_cons]; omega) (told_head (by decide) (by decide))
    have hr : rest % 2 = 0 ∨ rest % 2 = 1 := by omega
    have h12 := cutS_12 120 cs
    have hd : headL.all flat = true := by decide
    have hfl : flat (.str (SX.S (cs.take 1))) = true := rfl
    cases hb : inF (.str (SX.S (cs.take 1))) headL with
    | false =>
      refine ⟨.str (SX.S (120 :: cs)), τ2 ++ [.lst headL], ?_, leaf_str good1, D2.pre (List.prefix_append _ _), K1.trans (K2.trans (.pre (List.prefix_append _ _)))⟩
      have hz := cutS_all (120 :: cs)
      generalize SX.S (120 :: cs) = z at *
      generalize SX.S (cs.take 1) = z2 at *
      unfold headL at *
      simp [newL, hlen, h12, in_ref, hfl, hd, hb, hz]
    | true =>
      obtain ⟨c, r, rfl, n1, n2⟩ := head_ok hb
      have good2 : goodB (c :: r) = true := good_of (by simp) g3 (by omega) (told_head n1 n2)
      rcases hr with hr | hr
      · refine ⟨.str (SX.S (120 :: c :: r)), τ2 ++ [.lst headL], ?_, leaf_str good1, D2.pre (List.prefix_append _ _), K1.trans (K2.trans (.pre (List.prefix_append _ _)))⟩
        have hz := cutS_all (120 :: c :: r)
        generalize SX.S (120 :: c :: r) = z at *
        generalize SX.S ((c :: r).take 1) = z2 at *
        unfold headL at *
        simp [newL, hlen, h12, in_ref, hfl, hd, hb, hz, hr]
      · refine ⟨.str (SX.S (c :: r)), τ2 ++ [.lst headL], ?_, leaf_str good2, D2.pre (List.prefix_append _ _), K1.trans (K2.trans (.pre (List.prefix_append _ _)))⟩
        have hz := cutS_tl 120 (c :: r)
        generalize SX.S (120 :: c :: r) = z at *
        generalize SX.S ((c :: r).take 1) = z2 at *
        generalize SX.S (c :: r) = z3 at *
        unfold headL at *
        simp [newL, hlen, h12, in_ref, hfl, hd, hb, hz, hr]
def Th : Nat → Mi.W → Prop
  | 0, w => Leaf w
  | n + 1, w => Leaf w ∨ ∃ ws, w = .tup ws ∧ ws.length ≤ 3 ∧ ∀ x ∈ ws, Th n x
theorem Th.leaf {n : Nat} {w : Mi.W} (h : Leaf w) : Th n w := by
  cases n with
  | zero => exact h
  | succ n => exact .inl h
theorem tuple_lst {τ : Sto} {n : Nat} {xs : List Mi.W} (h : τ[n]? = some (.lst xs)) : builtin .tuple [.ref n] τ = .ok (.tup xs) τ := by
  show bTuple [.ref n] τ = _
  unfold bTuple
  simp only [seq_lst h]
theorem r10 (s l : Nat) : ∀ (n k : Nat) (τ : Sto), Dr s l τ → ∃ w τ', evF T F (k + 3 + n) 10 [.ref s, .int (n : Int)] τ = .ok w τ' ∧ Th n w ∧ Dr s l τ' ∧ Keep l τ τ' := by
  intro n
  induction n with
  | zero =>
    intro k τ h
    obtain ⟨d, τ1, e, hd, D1, K1⟩ := r7 (k + 1) s l τ h
    obtain ⟨w, τ2, e2, hw, D2, K2⟩ := r9 k s l τ1 D1
    refine ⟨w, τ2, ?_, hw, D2, K1.trans K2⟩
    show evF T F (k + 2 + 1) 10 [.ref s, .int 0] τ = _
    simp [u10, b10, e, e2]
  | succ n ih =>
    intro k τ h
    obtain ⟨d, τ1, e, hd, D1, K1⟩ := r7 (k + 2 + n) s l τ h
    have e' : evF T F (k + 3 + n) 7 [.ref s] τ = _ := (show k + 3 + n = k + 2 + n + 1 by omega) ▸ e
    show ∃ w τ', evF T F (k + 3 + n + 1) 10 [.ref s, .int ((n + 1 : Nat) : Int)] τ = .ok w τ' ∧ Th (n + 1) w ∧ Dr s l τ' ∧ Keep l τ τ'
    have hn : ¬ ((n : Int) + 1 = 0) := by omega
    by_cases c : d % 3 = 0
    · obtain ⟨w, τ2, e2, hw, D2, K2⟩ := r9 (k + 1 + n) s l τ1 D1
      have e2' : evF T F (k + 3 + n) 9 [.ref s] τ1 = _ := (show k + 3 + n = k + 1 + n + 2 by omega) ▸ e2
      refine ⟨w, τ2, ?_, .inl hw, D2, K1.trans K2⟩
      simp [u10, b10, e', e2', c, hn]
    · have hr : rngI [W.int (d / 3 % 4)] τ1 = _ := rngJ (by omega) (by omega)
      have hm3 : (d / 3 % 4).toNat ≤ 3 := by omega
      generalize hm : (d / 3 % 4).toNat = m at *
      have hl1 : l < τ1.length := by
        obtain ⟨ds, h1, _⟩ := D1.ls
        exact (List.getElem?_eq_some_iff.mp h1).1
      have hs1 : s < τ1.length := (List.getElem?_eq_some_iff.mp D1.d).1
      obtain ⟨ys, τ2, e2, ⟨D2, K2⟩, h2, h3, h4⟩ := lcL_inv (g := .name 3) (gs := []) (ρ := [some (.ref s), some (.int ((n : Int) + 1)), some (.int d), none]) (test := (ev T (evF T F (k + 3 + n)) .nil).t) (elt := (ev T (evF T F (k + 3 + n)) (.call 10 (.cons (.var 0) (.cons (.op .Sub (.var 1) (.con (.int 1))) .nil)))).e) (D := τ1.length) (Inv := fun τ => Dr s l τ ∧ Keep l τ1 τ) (P := Th n)
        (fun _ _ q hq => nomatch hq) (fun τ ys ⟨a, b⟩ => by
          obtain ⟨ds, g1, g2⟩ := a.ls
          refine ⟨⟨by rw [List.getElem?_set_ne (by omega)]; exact a.d, a.ne, ds, by rw [List.getElem?_set_ne (by omega)]; exact g1, g2⟩, fun i o hi ho => ?_⟩
          have := (List.getElem?_eq_some_iff.mp ho).1
          rw [List.getElem?_set_ne (by omega)]
          exact b i o hi ho) ((List.range m).map fun (i : Nat) => W.int (i : Int)) (fun x hx => by
          refine ⟨_, rfl, fun τ ys ⟨a, b⟩ hy => ⟨by simp, ?_⟩⟩
          obtain ⟨w, τ3, f1, f2, f3, f4⟩ := ih k τ a
          refine ⟨w, τ3, f2, ?_, ⟨f3, b.trans f4⟩, f4 _ _ (by omega) hy⟩
          have hsub : (n : Int) + 1 - 1 = n := by omega
          simp [hsub, f1]) [] (τ1 ++ [.lst []]) ⟨D1.pre (List.prefix_append _ _), .pre (List.prefix_append _ _)⟩ (at_end _ _) (by
            rw [List.length_map, List.length_range]
            exact Nat.le_trans (show 0 + m ≤ 3 by omega) (by decide))
      refine ⟨.tup ys, τ2, ?_, .inr ⟨ys, rfl, by rw [h3, List.length_map, List.length_range]; exact hm3, h4⟩, D2, K1.trans K2⟩
      have h2' : τ2[τ1.length]? = some (.lst ys) := h2
      have ht := tuple_lst h2'
      simp [u10, b10, e', c, hn, hr, wipeS]
      rw [e2]
      simp [ht]
/-- so many brackets round a thing -/
def wrap : Nat → Mi.W → Mi.W
  | 0, w => w
  | n + 1, w => wrap n (.tup [w])
theorem wrap_snoc : ∀ (n : Nat) (w : Mi.W), wrap n (.tup [w]) = .tup [wrap n w]
  | 0, _ => rfl
  | n + 1, w => wrap_snoc n (.tup [w])
theorem r11 (k : Nat) (w : Mi.W) (j : Int) (h0 : 0 ≤ j) (hm : j ≤ 37) (τ : Sto) : evF T F (k + 1) 11 [w, .int j] τ = .ok (wrap j.toNat w) τ := by
  have h : ∀ (xs : List Mi.W) (v x2 : Mi.W) (o : Option Mi.W), ∃ o', forL (.name 2) [] (evS T (evF T F k) l11_1) xs [some v, some x2, o] τ = .ok (.nx [some (wrap xs.length v), some x2, o']) τ := by
    intro xs
    induction xs with
    | nil => exact fun v x2 o => ⟨o, forL_nil (fun q hq => nomatch hq)⟩
    | cons x r ih =>
      intro v x2 o
      obtain ⟨o', e⟩ := ih (.tup [v]) x2 (some x)
      refine ⟨o', ?_⟩
      rw [forL_step _ _ _ _ _ _ (by simp)]
      simp [l11_1]
      exact e
  obtain ⟨o', e⟩ := h ((List.range j.toNat).map fun (i : Nat) => W.int (i : Int)) w (.int j) none
  rw [List.length_map, List.length_range] at e
  have hr : rngI [W.int j] τ = _ := rngJ h0 (by omega)
  simp [u11, b11, hr]
  rw [e]
  simp
/-! numbers' texts -/
def itx (i : Int) : List Nat := if i < 0 then 45 :: TL.numL (-i).toNat else TL.numL i.toNat
theorem itx_eq (i : Int) : Str.ofString (toString i) = SX.S (itx i) := by
  unfold itx
  by_cases h : i < 0
  · rw [if_pos h, PyProof.Rows.toString_neg h]
    have e0 : (0 : Int) - i = (((-i).toNat : Nat) : Int) := by omega
    have e := SX.num_S (-i).toNat
    rw [e0]
    generalize toString (((-i).toNat : Nat) : Int) = t at *
    rw [Str.ofString_eq_toList] at e ⊢
    have e2 := SX.S_inj e
    rw [String.toList_append, List.map_append, e2]
    rfl
  · rw [if_neg h]
    have e0 : i = ((i.toNat : Nat) : Int) := by omega
    have e := SX.num_S i.toNat
    rw [← e0] at e
    exact e
theorem numL_head (n : Nat) : 0 < n → (TL.numL n).head? ≠ some 48 := by
  induction n using Nat.strongRecOn with
  | ind n ih =>
    intro h
    by_cases c : n < 10
    · rw [TL.numL_lt c]
      intro e
      have := Option.some.inj e
      omega
    · rw [TL.numL_step (by omega)]
      have h1 := ih (n / 10) (by omega) (by omega)
      have h2 := TL.numL_ne (n / 10)
      cases e : TL.numL (n / 10) with
      | nil => exact absurd e h2
      | cons a r =>
        rw [e] at h1
        exact h1
theorem numL_figs (n : Nat) : figs (TL.numL n) = true := by
  have h1 := TL.numL_ne n
  have h2 := TL.numL_digits n
  unfold figs
  have e1 : (TL.numL n).isEmpty = false := by
    cases e : TL.numL n with
    | nil => exact absurd e h1
    | cons _ _ => rfl
  have e2 : (TL.numL n).all (fun c => decide (48 ≤ c) && decide (c ≤ 57)) = true := List.all_eq_true.mpr fun c hc => by
    have := h2 c hc
    rw [decide_eq_true this.1, decide_eq_true this.2]
    rfl
  rw [e1, e2]
  by_cases z : n = 0
  · subst z
    rw [show TL.numL 0 = [48] from TL.numL_lt (by omega)]
    rfl
  · rw [decide_eq_true (numL_head n (by omega)), Bool.or_true]
    rfl
theorem numL_no45 (n : Nat) : (TL.numL n).head? ≠ some 45 := by
  intro e
  have : 45 ∈ TL.numL n := List.mem_of_head? e
  have := TL.numL_digits n 45 this
  omega
theorem val_ne {a : List Nat} (h : a.head? ≠ some 45) : val a = ((NumText.digitsVal a : Nat) : Int) := by
  unfold val
  split
  · exact absurd rfl h
  · rfl
theorem itx_told {i : Int} (h1 : -32768 ≤ i) (h2 : i ≤ 32767) : told (itx i) = true ∧ val (itx i) = i := by
  by_cases h : i < 0
  · have e : itx i = 45 :: TL.numL (-i).toNat := if_pos h
    have hb : bare (itx i) = TL.numL (-i).toNat := by
      rw [e]
      unfold bare
      rw [if_pos]
      · rfl
      · refine ⟨rfl, fun z => ?_⟩
        have z' : TL.numL (-i).toNat = [48] := (List.cons.inj z).2
        exact numL_head (-i).toNat (by omega) (by rw [z']; rfl)
    have hv : val (itx i) = i := by
      rw [e]
      show -((NumText.digitsVal (TL.numL (-i).toNat) : Nat) : Int) = i
      rw [TL.numL_val]
      omega
    refine ⟨?_, hv⟩
    have hl := TL.numL_len (n := (-i).toNat) (k := 5) (by omega) (by omega)
    unfold told
    rw [hb, hv, numL_figs, decide_eq_true (show (TL.numL (-i).toNat).length < 6 by omega), decide_eq_true ⟨h1, h2⟩]
    rfl
  · have e : itx i = TL.numL i.toNat := if_neg h
    have hb : bare (itx i) = TL.numL i.toNat := by
      rw [e]
      unfold bare
      rw [if_neg]
      exact fun z => numL_no45 _ z.1
    have hv : val (itx i) = i := by
      rw [e, val_ne (numL_no45 _), TL.numL_val]
      omega
    refine ⟨?_, hv⟩
    have hl := TL.numL_len (n := i.toNat) (k := 5) (by omega) (by omega)
    unfold told
    rw [hb, hv, numL_figs, decide_eq_true (show (TL.numL i.toNat).length < 6 by omega), decide_eq_true ⟨h1, h2⟩]
    rfl
theorem plain_dig {c : Nat} (h : 48 ≤ c ∧ c ≤ 57) : plain c = true := by
  unfold plain
  rw [decide_eq_true (show c ≠ 32 by omega), decide_eq_true (show c ≠ 40 by omega), decide_eq_true (show c ≠ 41 by omega), decide_eq_true (show c < 128 by omega)]
  rfl
theorem itx_plain (i : Int) : ∀ c ∈ itx i, plain c = true := by
  intro c hc
  unfold itx at hc
  split at hc
  · rcases List.mem_cons.mp hc with e | e
    · rw [e]; decide
    · exact plain_dig (TL.numL_digits _ c e)
  · exact plain_dig (TL.numL_digits _ c hc)
theorem itx_ne (i : Int) : itx i ≠ [] := by
  unfold itx
  split
  · simp
  · exact TL.numL_ne _
theorem itx_len {i : Int} (h1 : -32768 ≤ i) (h2 : i ≤ 32767) : (itx i).length ≤ 6 := by
  unfold itx
  split
  · have hl := TL.numL_len (n := (-i).toNat) (k := 5) (by omega) (by omega)
    rw [List.length_cons]
    omega
  · have hl := TL.numL_len (n := i.toNat) (k := 5) (by omega) (by omega)
    omega
/-! the program's own: pieces -/
theorem plain_lt {c : Nat} (h : plain c = true) : c < 128 ∧ c ≠ 32 ∧ c ≠ 40 ∧ c ≠ 41 := by
  unfold plain at h
  rw [Bool.and_eq_true, Bool.and_eq_true, Bool.and_eq_true] at h
  exact ⟨of_decide_eq_true h.2, of_decide_eq_true h.1.1.1, of_decide_eq_true h.1.1.2, of_decide_eq_true h.1.2⟩
theorem ok_S {a : List Nat} (h : ∀ c ∈ a, plain c = true) : PyData.strOk (SX.S a) = true := by
  show a.toArray.all (· < 0x110000) = true
  rw [← Array.all_toList]
  refine List.all_eq_true.mpr fun c hc => ?_
  have := (plain_lt (h c hc)).1
  exact decide_eq_true (by omega)
theorem eq_S {τ : Sto} {a b : List Nat} (h1 : ∀ c ∈ a, plain c = true) (h2 : ∀ c ∈ b, plain c = true) : eqW τ (.str (SX.S a)) (.str (SX.S b)) = some (decide (a = b)) := by
  rw [eqW_str]
  unfold strB
  rw [if_pos ⟨ok_S h1, ok_S h2⟩, SX.S_beq_eq]
theorem starts_one (a : List Nat) (c : Nat) : Txt.startswith (SX.S a) (SX.S [c]) = decide (a.head? = some c) := by
  unfold Txt.startswith
  rw [StrLaws.subAt_eq, SX.S_len, SX.S_len]
  cases a with
  | nil => simp
  | cons d r =>
    have e : ((((SX.S (d :: r)).cps.toList.drop 0).take [c].length) == (SX.S [c]).cps.toList) = ([d] == [c]) := rfl
    rw [e]
    by_cases h : d = c
    · subst h
      simp
    · simp [h]
def isD (c : Nat) : Bool := decide (48 ≤ c) && decide (c ≤ 57)
theorem isD_mem (c : Nat) : decide (c ∈ [48, 49, 50, 51, 52, 53, 54, 55, 56, 57]) = isD c := by
  unfold isD
  by_cases h : 48 ≤ c ∧ c ≤ 57
  · rw [decide_eq_true h.1, decide_eq_true h.2]
    refine decide_eq_true ?_
    have : c = 48 ∨ c = 49 ∨ c = 50 ∨ c = 51 ∨ c = 52 ∨ c = 53 ∨ c = 54 ∨ c = 55 ∨ c = 56 ∨ c = 57 := by omega
    simpa using this
  · have e : (decide (48 ≤ c) && decide (c ≤ 57)) = false := by
      by_cases a : 48 ≤ c
      · rw [decide_eq_true a, decide_eq_false (fun b => h ⟨a, b⟩), Bool.and_false]
      · rw [decide_eq_false a, Bool.false_and]
    rw [e]
    refine decide_eq_false fun m => h ?_
    simp at m
    omega
theorem FIG : ("0123456789" : Str) = SX.S [48, 49, 50, 51, 52, 53, 54, 55, 56, 57] := by decide +kernel
theorem ZERO : ("0" : Str) = SX.S [48] := by decide +kernel
theorem NONE : ("" : Str) = SX.S [] := by decide +kernel
theorem MINUS : ("-" : Str) = SX.S [45] := by decide +kernel
theorem MZERO : ("-0" : Str) = SX.S [45, 48] := by decide +kernel
theorem r0 (k : Nat) (b : List Nat) (hb : ∀ c ∈ b, plain c = true) (hl : b.length ≤ 64) (τ : Sto) : ∃ τ', evF T F (k + 1) 0 [.str (SX.S b)] τ = .ok (.bl (figs b)) τ' ∧ τ <+: τ' := by
  have hfil : ∀ b : List Nat, (b.map fun c => W.str ⟨#[c]⟩).filter (fun w => match w with
      | .str x => !(isIn x (SX.S [48, 49, 50, 51, 52, 53, 54, 55, 56, 57]))
      | _ => false) = (b.filter fun c => !isD c).map fun c => W.str ⟨#[c]⟩ := by
    intro b
    induction b with
    | nil => rfl
    | cons c r ih =>
      have e : isIn (⟨#[c]⟩ : Str) (SX.S [48, 49, 50, 51, 52, 53, 54, 55, 56, 57]) = isD c := (isIn_one c _).trans (isD_mem c)
      rw [List.map_cons]
      cases hd : isD c with
      | true =>
        rw [List.filter_cons_of_neg (by show ¬ (!(isIn (⟨#[c]⟩ : Str) (SX.S [48, 49, 50, 51, 52, 53, 54, 55, 56, 57]))) = true; rw [e, hd]; simp), List.filter_cons_of_neg (by rw [hd]; simp)]
        exact ih
      | false =>
        rw [List.filter_cons_of_pos (by show (!(isIn (⟨#[c]⟩ : Str) (SX.S [48, 49, 50, 51, 52, 53, 54, 55, 56, 57]))) = true; rw [e, hd]; rfl), List.filter_cons_of_pos (by rw [hd]; simp), List.map_cons, ih]
  have hl1 : (b.map fun c => W.str ⟨#[c]⟩).length = b.length := List.length_map _
  have e1 := lcL_fil (g := .name 2) (ρ := [some (W.str (SX.S b)), none, none]) (test := (ev T (evF T F k) (.cmp .NotIn (.var 2) (.con (.str (SX.S [48, 49, 50, 51, 52, 53, 54, 55, 56, 57]))))).t) (elt := (ev T (evF T F k) (.var 2)).e) (D := τ.length) (fun w => match w with
      | .str x => !(isIn x (SX.S [48, 49, 50, 51, 52, 53, 54, 55, 56, 57]))
      | _ => false) (b.map fun c => W.str ⟨#[c]⟩) (fun x hx => by
        obtain ⟨c, _, rfl⟩ := List.mem_map.mp hx
        exact ⟨_, rfl, fun τ => ⟨by simp, by simp⟩⟩) [] (τ ++ [.lst []]) (at_end _ _) (by
          rw [hl1]
          exact Nat.le_trans (show 0 + b.length ≤ 64 by omega) (by decide))
  rw [hfil, List.nil_append] at e1
  have e2 : (τ ++ [AO.lst []]).set τ.length (.lst ((b.filter fun c => !isD c).map fun c => W.str ⟨#[c]⟩)) = τ ++ [.lst ((b.filter fun c => !isD c).map fun c => W.str ⟨#[c]⟩)] := by
    rw [List.set_append_right _ _ (Nat.le_refl _), Nat.sub_self]
    rfl
  rw [e2] at e1
  have e3 := eq_none (τ := τ ++ [AO.lst ((b.filter fun c => !isD c).map fun c => W.str ⟨#[c]⟩), .lst []]) (n := τ.length) (m := τ.length + 1) (cs := b.filter fun c => !isD c) (at_off0 _ _) (fun c hc => (plain_lt (hb c (List.mem_filter.mp hc).1)).1) (at_off _ _ 1)
  have e4 : (b.filter fun c => !isD c).isEmpty = b.all isD := by
    rw [Bool.eq_iff_iff, List.isEmpty_iff, List.filter_eq_nil_iff, List.all_eq_true]
    refine ⟨fun h c hc => ?_, fun h c hc => ?_⟩
    · have := h c hc
      simpa using this
    · rw [h c hc]
      simp
  rw [e4] at e3
  have e5 : ∀ t, eqW t (.str (SX.S b)) (.str (SX.S [])) = some (decide (b = [])) := fun t => eq_S hb (fun c h => nomatch h)
  have e6 : ∀ t, eqW t (.str (SX.S b)) (.str (SX.S [48])) = some (decide (b = [48])) := fun t => eq_S hb (fun c h => by rw [List.mem_singleton.mp h]; rfl)
  have e7 := starts_one b 48
  have hf : figs b = (!decide (b = []) && b.all isD && (decide (b = [48]) || !decide (b.head? = some 48))) := by
    unfold figs isD
    cases b with
    | nil => rfl
    | cons c r => simp
  generalize (b.filter fun c => !isD c).map (fun c => W.str ⟨#[c]⟩) = ys at *
  rw [hf]
  have hbl : SX.S b = SX.S b := rfl
  rw [u0, b0, FIG, NONE, ZERO]
  generalize decide (b = []) = p1 at *
  generalize b.all isD = p2 at *
  generalize decide (b = [48]) = p3 at *
  generalize decide (b.head? = some 48) = p4 at *
  cases p1 with
  | true =>
    refine ⟨τ ++ [.lst ys], ?_, List.prefix_append _ _⟩
    simp [wipeS, newL]
    rw [e1]
    simp [e5]
  | false =>
    refine ⟨τ ++ [.lst ys, .lst []], ?_, List.prefix_append _ _⟩
    simp [wipeS, newL]
    rw [e1]
    cases p2 with
    | false => simp [e5, newL, e3]
    | true =>
      cases p3 with
      | true => simp [e5, newL, e3, e6]
      | false => simp [e5, newL, e3, e6, e7]
/-- piece_told -/
theorem r1 (k : Nat) (a : List Nat) (ha : ∀ c ∈ a, plain c = true) (hl : a.length ≤ 32) (τ : Sto) : ∃ τ', evF T F (k + 2) 1 [.str (SX.S a)] τ = .ok (if told a = true then .int (val a) else .str (SX.S a)) τ' ∧ τ <+: τ' := by
  have hp : ∀ c ∈ bare a, plain c = true := fun c hc => by
    unfold bare at hc
    split at hc
    · exact ha c (List.mem_of_mem_tail hc)
    · exact ha c hc
  have hbl : (bare a).length ≤ a.length := by
    unfold bare
    split
    · rw [List.length_tail]; omega
    · exact Nat.le_refl _
  obtain ⟨τ', e0, p0⟩ := r0 k (bare a) hp (by omega) τ
  refine ⟨τ', ?_, p0⟩
  have e1 := starts_one a 45
  have e2 : ∀ t, eqW t (.str (SX.S a)) (.str (SX.S [45, 48])) = some (decide (a = [45, 48])) := fun t => eq_S ha (fun c h => by
    rcases List.mem_cons.mp h with q | q
    · rw [q]; rfl
    · rw [List.mem_singleton.mp q]; rfl)
  have hlen : (SX.S a).length ≤ sizeLine := by
    rw [SX.S_len]
    exact Nat.le_trans hl (by decide)
  have hlenb : (SX.S (bare a)).length ≤ sizeLine := by
    rw [SX.S_len]
    exact Nat.le_trans (Nat.le_trans hbl hl) (by decide)
  have hbare : (if a.head? = some 45 ∧ a ≠ [45, 48] then W.str (L2.cutS (SX.S a) (some 1) none) else W.str (SX.S a)) = W.str (SX.S (bare a)) := by
    unfold bare
    by_cases c : a.head? = some 45 ∧ a ≠ [45, 48]
    · rw [if_pos c, if_pos c]
      cases a with
      | nil => cases c.1
      | cons d r => rw [cutS_tl]; rfl
    · rw [if_neg c, if_neg c]
  -- int(piece), where it is asked
  have hint : figs (bare a) = true → ∀ t, builtin .int [.str (SX.S a)] t = .ok (.int (val a)) t := fun hf t => by
    have hdig : NumText.AllDigits (bare a) := fun c hc => by
      unfold figs at hf
      rw [Bool.and_eq_true, Bool.and_eq_true] at hf
      have := List.all_eq_true.mp hf.1.2 c hc
      rw [Bool.and_eq_true] at this
      exact ⟨of_decide_eq_true this.1, of_decide_eq_true this.2⟩
    have hne : bare a ≠ [] := fun z => by
      rw [z] at hf
      cases hf
    have hi : PySem.intText? (SX.S a) = some (val a) := by
      by_cases c : a.head? = some 45 ∧ a ≠ [45, 48]
      · have hb : bare a = a.tail := if_pos c
        cases a with
        | nil => cases c.1
        | cons d r =>
          have hd : d = 45 := Option.some.inj c.1
          subst hd
          have hb' : bare (45 :: r) = r := hb
          rw [hb'] at hdig hne
          exact intText_neg (x := SX.S (45 :: r)) (cs := r) rfl hdig hne (by rw [SX.S_len]; omega)
      · have hb : bare a = a := if_neg c
        rw [hb] at hdig hne
        have h45 : a.head? ≠ some 45 := fun z => by
          have := hdig 45 (List.mem_of_head? z)
          omega
        rw [val_ne h45]
        exact intText_digits (x := SX.S a) hdig hne (by rw [SX.S_len]; omega)
    show bInt [.str (SX.S a)] t = _
    unfold bInt
    simp only [hi]
    rw [if_pos (by rw [SX.S_len]; omega)]
  have hlb : ((SX.S (bare a)).length : Int) = ((bare a).length : Int) := by rw [SX.S_len]
  have h6 : decide (((bare a).length : Int) < 6) = decide ((bare a).length < 6) := by
    by_cases q : (bare a).length < 6
    · rw [decide_eq_true q]
      exact decide_eq_true (by omega)
    · rw [decide_eq_false q]
      exact decide_eq_false (by omega)
  rw [u1, b1, MINUS, MZERO]
  unfold told
  by_cases c1 : a.head? = some 45
  · rw [decide_eq_true c1] at e1
    by_cases c2 : a = [45, 48]
    · rw [if_neg (fun z => z.2 c2)] at hbare
      have hb0 : bare a = a := if_neg (fun z => z.2 c2)
      have e2' : ∀ t, eqW t (.str (SX.S a)) (.str (SX.S [45, 48])) = some true := fun t => by rw [e2, decide_eq_true c2]
      rw [hb0] at e0 ⊢
      have hff : figs a = false := by rw [c2]; rfl
      rw [hff] at e0 ⊢
      generalize SX.S a = z at *
      simp [e1, e2', e0]
    · have hb1 : bare a = a.tail := if_pos ⟨c1, c2⟩
      rw [if_pos ⟨c1, c2⟩] at hbare
      have e2' : ∀ t, eqW t (.str (SX.S a)) (.str (SX.S [45, 48])) = some false := fun t => by rw [e2, decide_eq_false c2]
      have hcut := W.str.inj hbare
      generalize figs (bare a) = f at *
      generalize (bare a).length = n at *
      generalize val a = v at *
      generalize SX.S a = z at *
      generalize SX.S (bare a) = zb at *
      cases f with
      | false => simp [e1, e2', hcut, hlen, e0]
      | true =>
        have hint' := hint rfl
        by_cases q : n < 6
        · by_cases q1 : -32768 ≤ v
          · by_cases q2 : v ≤ 32767
            · simp [e1, e2', hcut, hlen, e0, hlenb, hlb, h6, q, hint', q1, q2]
            · simp [e1, e2', hcut, hlen, e0, hlenb, hlb, h6, q, hint', q1, q2]
          · simp [e1, e2', hcut, hlen, e0, hlenb, hlb, h6, q, hint', q1]
        · simp [e1, e2', hcut, hlen, e0, hlenb, hlb, h6, q]
  · rw [decide_eq_false c1] at e1
    have hb1 : bare a = a := if_neg (fun z => c1 z.1)
    rw [hb1] at e0 hlb h6 hint hbl hlenb ⊢
    generalize figs a = f at *
    have hlb' : ((SX.S a).length : Int) = (a.length : Int) := hlb
    generalize a.length = n at *
    generalize val a = v at *
    generalize SX.S a = z at *
    cases f with
    | false => simp [e1, hlen, e0]
    | true =>
      have hint' := hint rfl
      by_cases q : n < 6
      · by_cases q1 : -32768 ≤ v
        · by_cases q2 : v ≤ 32767
          · simp [e1, hlen, e0, hlb', h6, q, hint', q1, q2]
          · simp [e1, hlen, e0, hlb', h6, q, hint', q1, q2]
        · simp [e1, hlen, e0, hlb', h6, q, hint', q1]
      · simp [e1, hlen, e0, hlb', h6, q]
theorem OPEN : ("(" : Str) = SX.S [40] := by decide +kernel
theorem SHUT : (")" : Str) = SX.S [41] := by decide +kernel
/-- look_at_piece -/
theorem r2 (k : Nat) (a : List Nat) (ha : ∀ c ∈ a, plain c = true) (hne : a ≠ []) (τ : Sto) : evF T F (k + 1) 2 [.str (SX.S a)] τ = .ok .non τ := by
  have e1 : ∀ t, eqW t (.str (SX.S a)) (.str (SX.S [])) = some false := fun t => by rw [eq_S (b := []) ha (fun c h => nomatch h), decide_eq_false hne]
  have e2 : isIn (SX.S [40]) (SX.S a) = false := by
    rw [isIn_one]
    exact decide_eq_false fun h => (plain_lt (ha 40 h)).2.2.1 rfl
  have e3 : isIn (SX.S [41]) (SX.S a) = false := by
    rw [isIn_one]
    exact decide_eq_false fun h => (plain_lt (ha 41 h)).2.2.2 rfl
  rw [u2, b2, NONE, OPEN, SHUT]
  generalize SX.S a = z at *
  simp [e1, e2, e3]
/-! reading -/
def Tn : Nat → Mi.W → Prop
  | 0, w => Leaf w
  | n + 1, w => Leaf w ∨ ∃ ws, w = .tup ws ∧ ws.length ≤ 3 ∧ ∀ x ∈ ws, Tn n x
def leafT : Mi.W → List Nat
  | .int i => itx i
  | .str s => s.cps.toList
  | _ => []
def wd : Nat → Mi.W → List (List Nat)
  | 0, w => [leafT w]
  | n + 1, w => match w with
    | .tup ws => [[40]] ++ ((ws.map (wd n)).flatten ++ [[41]])
    | w => [leafT w]
theorem wd_leaf {n : Nat} {w : Mi.W} (h : Leaf w) : wd n w = [leafT w] := by
  cases n with
  | zero => rfl
  | succ n =>
    rcases h with ⟨i, rfl, _⟩ | ⟨s, rfl, _⟩ <;> rfl
theorem leaf_plain {w : Mi.W} (h : Leaf w) : (∀ c ∈ leafT w, plain c = true) ∧ leafT w ≠ [] ∧ (leafT w).length ≤ 32 ∧ (if told (leafT w) = true then W.int (val (leafT w)) else W.str (SX.S (leafT w))) = w := by
  rcases h with ⟨i, rfl, h1, h2⟩ | ⟨s, rfl, h⟩
  · have t := itx_told h1 h2
    refine ⟨itx_plain i, itx_ne i, Nat.le_trans (itx_len h1 h2) (by decide), ?_⟩
    show (if told (itx i) = true then W.int (val (itx i)) else _) = W.int i
    rw [if_pos t.1, t.2]
  · have h' : goodB s.cps.toList = true := h
    refine ⟨good_plain h', ?_⟩
    unfold goodB at h'
    rw [Bool.and_eq_true, Bool.and_eq_true, Bool.and_eq_true, Bool.not_eq_true', Bool.not_eq_true'] at h'
    obtain ⟨⟨⟨a1, _⟩, a3⟩, a4⟩ := h'
    refine ⟨fun z => ?_, of_decide_eq_true a3, ?_⟩
    · have z' : s.cps.toList = [] := z
      rw [z'] at a1
      cases a1
    · show (if told s.cps.toList = true then _ else W.str (SX.S s.cps.toList)) = W.str s
      rw [if_neg (by rw [a4]; exact Bool.false_ne_true), SX.S_tl]
structure Sk (τ0 : Sto) (L Z : Nat) (ps : List Mi.W) (st : List (Nat × List Mi.W)) (τ : Sto) : Prop where
  z : τ[Z]? = some (.lst ps)
  l : τ[L]? = some (.lst (st.map fun p => W.ref p.1))
  o : ∀ p ∈ st, τ[p.1]? = some (.lst p.2)
  nd : (st.map (·.1)).Nodup
  nl : ∀ p ∈ st, p.1 ≠ L ∧ p.1 ≠ Z
  ne : L ≠ Z
  p : τ0 <+: τ
  bl : τ0.length ≤ L
  ba : ∀ p ∈ st, τ0.length ≤ p.1
section
variable {τ0 : Sto} {L Z : Nat} {ps : List Mi.W} {st : List (Nat × List Mi.W)} {τ τ' : Sto}
theorem Sk.pre (h : Sk τ0 L Z ps st τ) (p : τ <+: τ') : Sk τ0 L Z ps st τ' := ⟨pre_get p h.z, pre_get p h.l, fun q hq => pre_get p (h.o q hq), h.nd, h.nl, h.ne, h.p.trans p, h.bl, h.ba⟩
theorem Sk.gs (h : Sk τ0 L Z ps st τ) : It.ok [(Z, ps)] τ := fun q hq => by
  cases List.mem_singleton.mp hq
  exact seq_lst h.z
theorem Sk.app {a : Nat} {xs : List Mi.W} {w : Mi.W} (h : Sk τ0 L Z ps (st ++ [(a, xs)]) τ) : Sk τ0 L Z ps (st ++ [(a, xs ++ [w])]) (τ.set a (.lst (xs ++ [w]))) := by
  have ha := h.o (a, xs) (List.mem_append_right _ List.mem_cons_self)
  have hlt := (List.getElem?_eq_some_iff.mp ha).1
  have hn := h.nl (a, xs) (List.mem_append_right _ List.mem_cons_self)
  have hb := h.ba (a, xs) (List.mem_append_right _ List.mem_cons_self)
  refine ⟨by rw [List.getElem?_set_ne hn.2]; exact h.z, ?_, fun q hq => ?_, ?_, fun q hq => ?_, h.ne, pre_set h.p hb, h.bl, fun q hq => ?_⟩
  · rw [List.getElem?_set_ne hn.1, h.l]
    simp
  · rcases List.mem_append.mp hq with e | e
    · have hne : a ≠ q.1 := by
        have hnd := h.nd
        rw [List.map_append, List.nodup_append] at hnd
        intro z
        exact hnd.2.2 q.1 (List.mem_map.mpr ⟨q, e, rfl⟩) a (by simp) z.symm
      rw [List.getElem?_set_ne hne]
      exact h.o q (List.mem_append_left _ e)
    · rw [List.mem_singleton.mp e]
      exact List.getElem?_set_self hlt
  · have := h.nd
    simpa using this
  · rcases List.mem_append.mp hq with e | e
    · exact h.nl q (List.mem_append_left _ e)
    · rw [List.mem_singleton.mp e]
      exact hn
  · rcases List.mem_append.mp hq with e | e
    · exact h.ba q (List.mem_append_left _ e)
    · rw [List.mem_singleton.mp e]
      exact hb
theorem Sk.push (h : Sk τ0 L Z ps st τ) : Sk τ0 L Z ps (st ++ [(τ.length, [])]) ((τ ++ [AO.lst []]).set L (AO.lst (st.map (fun p : Nat × List Mi.W => W.ref p.1) ++ [W.ref τ.length]))) := by
  have hL := (List.getElem?_eq_some_iff.mp h.l).1
  have hZ := (List.getElem?_eq_some_iff.mp h.z).1
  have hlt : L < (τ ++ [AO.lst []]).length := by rw [List.length_append]; omega
  refine ⟨by rw [List.getElem?_set_ne h.ne]; exact at_old h.z, ?_, fun q hq => ?_, ?_, fun q hq => ?_, h.ne, pre_set (pre_add _ h.p) h.bl, h.bl, fun q hq => ?_⟩
  · rw [List.getElem?_set_self hlt]
    simp
  · rcases List.mem_append.mp hq with e | e
    · rw [List.getElem?_set_ne (Ne.symm (h.nl q e).1)]
      exact at_old (h.o q e)
    · rw [List.mem_singleton.mp e, List.getElem?_set_ne (by show L ≠ τ.length; omega)]
      exact at_end _ _
  · rw [List.map_append, List.nodup_append]
    refine ⟨h.nd, by simp, fun a ha b hb => ?_⟩
    obtain ⟨q, hq, rfl⟩ := List.mem_map.mp ha
    have h1 := (List.getElem?_eq_some_iff.mp (h.o q hq)).1
    have hb' : b = τ.length := by simpa using hb
    omega
  · rcases List.mem_append.mp hq with e | e
    · exact h.nl q e
    · rw [List.mem_singleton.mp e]
      exact ⟨by show τ.length ≠ L; omega, by show τ.length ≠ Z; omega⟩
  · rcases List.mem_append.mp hq with e | e
    · exact h.ba q e
    · rw [List.mem_singleton.mp e]
      exact h.p.length_le
theorem Sk.pop {b : Nat} {ys : List Mi.W} (h : Sk τ0 L Z ps (st ++ [(b, ys)]) τ) : Sk τ0 L Z ps st (τ.set L (AO.lst (st.map fun p : Nat × List Mi.W => W.ref p.1))) := by
  have hL := (List.getElem?_eq_some_iff.mp h.l).1
  refine ⟨by rw [List.getElem?_set_ne h.ne]; exact h.z, List.getElem?_set_self hL, fun q hq => ?_, ?_, fun q hq => h.nl q (List.mem_append_left _ hq), h.ne, pre_set h.p h.bl, h.bl, fun q hq => h.ba q (List.mem_append_left _ hq)⟩
  · rw [List.getElem?_set_ne (Ne.symm (h.nl q (List.mem_append_left _ hq)).1)]
    exact h.o q (List.mem_append_left _ hq)
  · have := h.nd
    rw [List.map_append, List.nodup_append] at this
    exact this.1
end
theorem at_last {α : Type} (xs : List α) (y : α) : L2.atI (xs ++ [y]) (-1) = some y := L2.atI_last _ _
theorem eq_words {τ : Sto} {a : List Nat} (ha : ∀ c ∈ a, plain c = true) : eqW τ (.str (SX.S a)) (.str (SX.S [40])) = some false ∧ eqW τ (.str (SX.S a)) (.str (SX.S [41])) = some false := by
  have key : ∀ d : Nat, d < 128 → plain d = false → eqW τ (.str (SX.S a)) (.str (SX.S [d])) = some false := fun d hd hp => by
    rw [eqW_str]
    unfold strB
    have h2 : PyData.strOk (SX.S [d]) = true := by
      show ([d].toArray).all (· < 0x110000) = true
      rw [← Array.all_toList]
      show (decide (d < 1114112) && true) = true
      rw [decide_eq_true (by omega)]
      rfl
    rw [if_pos ⟨ok_S ha, h2⟩, SX.S_beq_eq]
    refine congrArg some (decide_eq_false fun z => ?_)
    have := ha d (by rw [z]; exact List.mem_cons_self)
    rw [hp] at this
    cases this
  exact ⟨key 40 (by decide) (by decide), key 41 (by decide) (by decide)⟩
theorem eq_mark {τ : Sto} : eqW τ (.str (SX.S [40])) (.str (SX.S [40])) = some true ∧ eqW τ (.str (SX.S [41])) (.str (SX.S [40])) = some false ∧ eqW τ (.str (SX.S [41])) (.str (SX.S [41])) = some true := by
  refine ⟨(eqW_str _ _ _).trans (by decide +kernel), (eqW_str _ _ _).trans (by decide +kernel), (eqW_str _ _ _).trans (by decide +kernel)⟩
/-- a piece that is no bracket -/
theorem tl (τ0 : Sto) (k L Z : Nat) (ps : List Mi.W) (w : Mi.W) (hw : Leaf w) (st : List (Nat × List Mi.W)) (a : Nat) (xs : List Mi.W) (hx : st ≠ [] ∨ xs = []) (hl : xs.length ≤ 100) (x0 x3 : Option Mi.W) (τ : Sto) (h : Sk τ0 L Z ps (st ++ [(a, xs)]) τ) :
    ∃ τ', evS T (evF T F (k + 2)) l3_1 [x0, some (.ref L), some (.str (SX.S (leafT w))), x3] τ = .ok (.nx [x0, some (.ref L), some (.str (SX.S (leafT w))), x3]) τ' ∧ Sk τ0 L Z ps (st ++ [(a, xs ++ [w])]) τ' := by
  obtain ⟨p1, p2, p3, p4⟩ := leaf_plain hw
  obtain ⟨τ1, e1, pr⟩ := r1 k (leafT w) p1 p3 τ
  rw [p4] at e1
  have e2 := r2 (k + 1) (leafT w) p1 p2 τ
  have h1 := h.pre pr
  have ha := h.o (a, xs) (List.mem_append_right _ List.mem_cons_self)
  have ha1 := h1.o (a, xs) (List.mem_append_right _ List.mem_cons_self)
  have hL := h.l
  rw [List.map_append] at hL
  have hL' : τ[L]? = some (.lst (st.map (fun p => W.ref p.1) ++ [.ref a])) := hL
  have hlx : xs.length < sizeLine := Nat.lt_of_le_of_lt hl (by decide)
  obtain ⟨b1, _⟩ := append_ok (τ := τ) (n := a) (xs := xs) w ha hlx
  obtain ⟨_, b2⟩ := append_ok (τ := τ1) (n := a) (xs := xs) w ha1 hlx
  have w1 := fun t => (eq_words (τ := t) p1).1
  have w2 := fun t => (eq_words (τ := t) p1).2
  have hlast := at_last (st.map fun p => W.ref p.1) (W.ref a)
  refine ⟨τ1.set a (.lst (xs ++ [w])), ?_, h1.app⟩
  generalize SX.S (leafT w) = zz at *
  unfold l3_1
  rw [OPEN, SHUT]
  rcases List.eq_nil_or_concat st with q | ⟨st', q', q⟩
  · subst q
    have hx' : xs = [] := by
      rcases hx with z | z
      · exact absurd rfl z
      · exact z
    subst hx'
    have hL2 : τ[L]? = some (.lst [.ref a]) := hL'
    have i0 : L2.atI [W.ref a] 0 = some (.ref a) := by simp [L2.atI, L2.ixN]
    have i1 : L2.atI [W.ref a] (-1) = some (.ref a) := hlast
    have ha' : τ[a]? = some (.lst []) := ha
    simp [len_ref, hL2, item_ref, i0, i1, ha', w1, w2, e2, e1, b1, b2]
  · have hne : ¬ (((st.map (fun p => W.ref p.1) ++ [W.ref a]).length : Int) = 1) := by
      rw [q, List.concat_eq_append]
      simp
      omega
    generalize st.map (fun p => W.ref p.1) ++ [W.ref a] = refs at *
    simp [len_ref, hL', hne, item_ref, hlast, w1, w2, e2, e1, b1, b2]
/-- nothing stands behind the thing -/
theorem room {τ0 : Sto} {L Z : Nat} {ps : List Mi.W} {st : List (Nat × List Mi.W)} {a : Nat} {xs : List Mi.W} {τ : Sto} (h : Sk τ0 L Z ps (st ++ [(a, xs)]) τ) (hx : st ≠ [] ∨ xs = []) : ∃ R : List Mi.W, R = st.map (fun p : Nat × List Mi.W => W.ref p.1) ++ [W.ref a] ∧ τ[L]? = some (.lst R) ∧ R.length = st.length + 1 ∧ L2.atI R (-1) = some (.ref a) ∧ ((¬ (R.length : Int) = 1) ∨ ((R.length : Int) = 1 ∧ L2.atI R 0 = some (.ref a) ∧ τ[a]? = some (.lst []))) := by
  have hL := h.l
  rw [List.map_append] at hL
  have ha := h.o (a, xs) (List.mem_append_right _ List.mem_cons_self)
  refine ⟨_, rfl, hL, by simp, at_last _ _, ?_⟩
  rcases List.eq_nil_or_concat st with q | ⟨st', q', q⟩
  · subst q
    have hx' : xs = [] := by
      rcases hx with z | z
      · exact absurd rfl z
      · exact z
    subst hx'
    exact .inr ⟨rfl, by simp [L2.atI, L2.ixN], ha⟩
  · refine .inl ?_
    rw [q, List.concat_eq_append]
    simp
    omega
theorem to (τ0 : Sto) (k L Z : Nat) (ps : List Mi.W) (st : List (Nat × List Mi.W)) (a : Nat) (xs : List Mi.W) (hx : st ≠ [] ∨ xs = []) (hd : st.length + 2 ≤ 41) (x0 x3 : Option Mi.W) (τ : Sto) (h : Sk τ0 L Z ps (st ++ [(a, xs)]) τ) :
    ∃ b τ', evS T (evF T F k) l3_1 [x0, some (.ref L), some (.str (SX.S [40])), x3] τ = .ok (.nx [x0, some (.ref L), some (.str (SX.S [40])), x3]) τ' ∧ Sk τ0 L Z ps (st ++ [(a, xs)] ++ [(b, [])]) τ' := by
  have hP := h.push
  rw [List.map_append] at hP
  obtain ⟨R, hR, hL, hn, hlast, hc⟩ := room h hx
  have hP' : Sk τ0 L Z ps (st ++ [(a, xs)] ++ [(τ.length, [])]) ((τ ++ [AO.lst []]).set L (AO.lst (R ++ [W.ref τ.length]))) := by
    rw [hR]
    exact hP
  have hlx : R.length < sizeLine := Nat.lt_of_le_of_lt (show _ ≤ 41 by omega) (by decide)
  obtain ⟨b1, _⟩ := append_ok (τ := τ) (n := L) (.ref τ.length) hL hlx
  obtain ⟨_, b2⟩ := append_ok (τ := τ ++ [AO.lst []]) (n := L) (.ref τ.length) (at_old hL) hlx
  have hN := hP'.l
  have hN' : ((τ ++ [AO.lst []]).set L (AO.lst (R ++ [W.ref τ.length])))[L]? = some (.lst (R ++ [.ref τ.length])) := by
    rw [hN, hR]
    simp
  have w1 := fun t => (eq_mark (τ := t)).1
  refine ⟨τ.length, _, ?_, hP'⟩
  unfold l3_1
  rw [OPEN, SHUT]
  generalize SX.S [40] = zz at *
  have hgt : ¬ ((41 : Int) < ((R ++ [W.ref τ.length]).length : Int)) := by
    rw [List.length_append, hn]
    show ¬ ((41 : Int) < ((st.length + 1 + 1 : Nat) : Int))
    omega
  generalize hN2 : R ++ [W.ref τ.length] = R2 at *
  generalize ht : (τ ++ [AO.lst []]).set L (AO.lst R2) = t2 at *
  rcases hc with q | ⟨q1, q2, q3⟩
  · simp [len_ref, hL, q, w1, newL, b1, b2, hN', hgt]
  · simp [len_ref, hL, q1, item_ref, q2, q3, w1, newL, b1, b2, hN', hgt]
theorem ts (τ0 : Sto) (k L Z : Nat) (ps : List Mi.W) (st : List (Nat × List Mi.W)) (a b : Nat) (xs ys : List Mi.W) (hl : xs.length ≤ 100) (x0 x3 : Option Mi.W) (τ : Sto) (h : Sk τ0 L Z ps (st ++ [(a, xs)] ++ [(b, ys)]) τ) :
    ∃ y3 τ', evS T (evF T F k) l3_1 [x0, some (.ref L), some (.str (SX.S [41])), x3] τ = .ok (.nx [x0, some (.ref L), some (.str (SX.S [41])), y3]) τ' ∧ Sk τ0 L Z ps (st ++ [(a, xs ++ [.tup ys])]) τ' := by
  obtain ⟨R2, hR2, hL, hn, hlast, _⟩ := room h (.inl (by simp))
  have hP := h.pop
  have hb := h.o (b, ys) (List.mem_append_right _ List.mem_cons_self)
  have hbn := h.nl (b, ys) (List.mem_append_right _ List.mem_cons_self)
  have hA := hP.app (w := .tup ys)
  have ha := hP.o (a, xs) (List.mem_append_right _ List.mem_cons_self)
  have hlx : xs.length < sizeLine := Nat.lt_of_le_of_lt hl (by decide)
  have hl1 := hP.l
  generalize hR : (st ++ [(a, xs)]).map (fun p : Nat × List Mi.W => W.ref p.1) = R at *
  have hRl : L2.atI R (-1) = some (.ref a) := by
    rw [← hR, List.map_append]
    exact at_last _ _
  subst hR2
  obtain ⟨p1, p2⟩ := pop_ok hL
  obtain ⟨b1, b2⟩ := append_ok (n := a) (xs := xs) (.tup ys) ha hlx
  have htb : (τ.set L (.lst R))[b]? = some (.lst ys) := by
    rw [List.getElem?_set_ne (Ne.symm hbn.1)]
    exact hb
  have ht := tuple_lst htb
  have hne : ¬ (((R ++ [W.ref b]).length : Int) = 1) := by
    rw [hn, List.length_append]
    show ¬ (((st.length + 1 + 1 : Nat) : Int) = 1)
    omega
  have w1 := fun t => (eq_mark (τ := t)).2.1
  have w2 := fun t => (eq_mark (τ := t)).2.2
  refine ⟨some (.tup ys), _, ?_, hA⟩
  unfold l3_1
  rw [OPEN, SHUT]
  generalize SX.S [40] = zo at *
  generalize SX.S [41] = zz at *
  generalize hN2 : R ++ [W.ref b] = R2 at *
  generalize hτ1 : τ.set L (.lst R) = t1 at *
  simp [len_ref, hL, hne, w1, w2, p1, p2, ht, item_ref, hl1, hRl, b1, b2]
theorem seqs {τ0 : Sto} {k L Z : Nat} {ps : List Mi.W} {n : Nat} (one : ∀ (w : Mi.W), Tn n w → ∀ (st : List (Nat × List Mi.W)) (a : Nat) (xs : List Mi.W) (x0 x2 x3 : Option Mi.W) (τ : Sto) (rest : List Mi.W), (st ≠ [] ∨ xs = []) → st.length + 1 + n ≤ 41 → xs.length ≤ 50 → Sk τ0 L Z ps (st ++ [(a, xs)]) τ →
      ∃ y2 y3 τ', forL (.name 2) [(Z, ps)] (evS T (evF T F (k + 2)) l3_1) (((wd n w).map fun c => W.str (SX.S c)) ++ rest) [x0, some (.ref L), x2, x3] τ = forL (.name 2) [(Z, ps)] (evS T (evF T F (k + 2)) l3_1) rest [x0, some (.ref L), y2, y3] τ' ∧ Sk τ0 L Z ps (st ++ [(a, xs ++ [w])]) τ') :
    ∀ (ws : List Mi.W), (∀ w ∈ ws, Tn n w) → ∀ (st : List (Nat × List Mi.W)) (a : Nat) (xs : List Mi.W) (x0 x2 x3 : Option Mi.W) (τ : Sto) (rest : List Mi.W), st ≠ [] → st.length + 1 + n ≤ 41 → xs.length + ws.length ≤ 50 → Sk τ0 L Z ps (st ++ [(a, xs)]) τ →
      ∃ y2 y3 τ', forL (.name 2) [(Z, ps)] (evS T (evF T F (k + 2)) l3_1) (((ws.map (wd n)).flatten.map fun c => W.str (SX.S c)) ++ rest) [x0, some (.ref L), x2, x3] τ = forL (.name 2) [(Z, ps)] (evS T (evF T F (k + 2)) l3_1) rest [x0, some (.ref L), y2, y3] τ' ∧ Sk τ0 L Z ps (st ++ [(a, xs ++ ws)]) τ' := by
  intro ws
  induction ws with
  | nil =>
    intro _ st a xs x0 x2 x3 τ rest hs hd hl h
    exact ⟨x2, x3, τ, rfl, by rw [List.append_nil]; exact h⟩
  | cons w r ih =>
    intro hw st a xs x0 x2 x3 τ rest hs hd hl h
    have hl' : xs.length + (r.length + 1) ≤ 50 := hl
    rw [List.map_cons, List.flatten_cons, List.map_append, List.append_assoc]
    obtain ⟨y2, y3, τ1, e1, h1⟩ := one w (hw w List.mem_cons_self) st a xs x0 x2 x3 τ (((r.map (wd n)).flatten.map fun c => W.str (SX.S c)) ++ rest) (.inl hs) hd (by omega) h
    obtain ⟨z2, z3, τ2, e2, h2⟩ := ih (fun v hv => hw v (List.mem_cons_of_mem _ hv)) st a (xs ++ [w]) x0 y2 y3 τ1 rest hs hd (by rw [List.length_append]; show xs.length + 1 + r.length ≤ 50; omega) h1
    refine ⟨z2, z3, τ2, e1.trans e2, ?_⟩
    rw [List.append_assoc] at h2
    exact h2
theorem things (τ0 : Sto) (k L Z : Nat) (ps : List Mi.W) : ∀ (n : Nat) (w : Mi.W), Tn n w → ∀ (st : List (Nat × List Mi.W)) (a : Nat) (xs : List Mi.W) (x0 x2 x3 : Option Mi.W) (τ : Sto) (rest : List Mi.W), (st ≠ [] ∨ xs = []) → st.length + 1 + n ≤ 41 → xs.length ≤ 50 → Sk τ0 L Z ps (st ++ [(a, xs)]) τ →
      ∃ y2 y3 τ', forL (.name 2) [(Z, ps)] (evS T (evF T F (k + 2)) l3_1) (((wd n w).map fun c => W.str (SX.S c)) ++ rest) [x0, some (.ref L), x2, x3] τ = forL (.name 2) [(Z, ps)] (evS T (evF T F (k + 2)) l3_1) rest [x0, some (.ref L), y2, y3] τ' ∧ Sk τ0 L Z ps (st ++ [(a, xs ++ [w])]) τ' := by
  have leaf : ∀ (n : Nat) (w : Mi.W), Leaf w → ∀ (st : List (Nat × List Mi.W)) (a : Nat) (xs : List Mi.W) (x0 x2 x3 : Option Mi.W) (τ : Sto) (rest : List Mi.W), (st ≠ [] ∨ xs = []) → xs.length ≤ 50 → Sk τ0 L Z ps (st ++ [(a, xs)]) τ →
      ∃ y2 y3 τ', forL (.name 2) [(Z, ps)] (evS T (evF T F (k + 2)) l3_1) (((wd n w).map fun c => W.str (SX.S c)) ++ rest) [x0, some (.ref L), x2, x3] τ = forL (.name 2) [(Z, ps)] (evS T (evF T F (k + 2)) l3_1) rest [x0, some (.ref L), y2, y3] τ' ∧ Sk τ0 L Z ps (st ++ [(a, xs ++ [w])]) τ' := by
    intro n w hw st a xs x0 x2 x3 τ rest hx hl h
    obtain ⟨τ', e, h'⟩ := tl τ0 k L Z ps w hw st a xs hx (by omega) x0 x3 τ h
    refine ⟨some (.str (SX.S (leafT w))), x3, τ', ?_, h'⟩
    rw [wd_leaf hw]
    show forL (.name 2) [(Z, ps)] (evS T (evF T F (k + 2)) l3_1) (W.str (SX.S (leafT w)) :: rest) [x0, some (.ref L), x2, x3] τ = _
    rw [forL_cons h.gs rfl]
    show loopR (evS T (evF T F (k + 2)) l3_1 [x0, some (.ref L), some (.str (SX.S (leafT w))), x3] τ) _ = _
    rw [e]
    rfl
  intro n
  induction n with
  | zero => exact fun w hw st a xs x0 x2 x3 τ rest hx _ hl h => leaf 0 w hw st a xs x0 x2 x3 τ rest hx hl h
  | succ n ih =>
    intro w hw st a xs x0 x2 x3 τ rest hx hd hl h
    rcases hw with hw | ⟨ws, rfl, h3, hws⟩
    · exact leaf (n + 1) w hw st a xs x0 x2 x3 τ rest hx hl h
    · show ∃ y2 y3 τ', forL (.name 2) [(Z, ps)] (evS T (evF T F (k + 2)) l3_1) ((([[40]] ++ ((ws.map (wd n)).flatten ++ [[41]])).map fun c => W.str (SX.S c)) ++ rest) [x0, some (.ref L), x2, x3] τ = _ ∧ _
      rw [List.map_append, List.map_append, List.append_assoc, List.append_assoc]
      obtain ⟨b, τ1, e1, h1⟩ := to τ0 (k + 2) L Z ps st a xs hx (by omega) x0 x3 τ h
      obtain ⟨y2, y3, τ2, e2, h2⟩ := seqs (k := k) ih ws hws (st ++ [(a, xs)]) b [] x0 (some (.str (SX.S [40]))) x3 τ1 ([W.str (SX.S [41])] ++ rest) (by simp) (by rw [List.length_append]; show st.length + 1 + 1 + n ≤ 41; omega) (by show 0 + ws.length ≤ 50; omega) h1
      rw [List.nil_append] at h2
      obtain ⟨z3, τ3, e3, h3'⟩ := ts τ0 (k + 2) L Z ps st a b xs ws (by omega) x0 y3 τ2 h2
      refine ⟨some (.str (SX.S [41])), z3, τ3, ?_, h3'⟩
      show forL (.name 2) [(Z, ps)] (evS T (evF T F (k + 2)) l3_1) (W.str (SX.S [40]) :: _) [x0, some (.ref L), x2, x3] τ = _
      rw [forL_cons h.gs rfl]
      show loopR (evS T (evF T F (k + 2)) l3_1 [x0, some (.ref L), some (.str (SX.S [40])), x3] τ) _ = _
      rw [e1, loopR_nx]
      refine e2.trans ?_
      show forL (.name 2) [(Z, ps)] (evS T (evF T F (k + 2)) l3_1) (W.str (SX.S [41]) :: rest) [x0, some (.ref L), y2, y3] τ2 = _
      rw [forL_cons h2.gs rfl]
      show loopR (evS T (evF T F (k + 2)) l3_1 [x0, some (.ref L), some (.str (SX.S [41])), y3] τ2) _ = _
      rw [e3]
      rfl
theorem SPACE : (" " : Str) = SX.S [32] := by decide +kernel
theorem wd_ne (n : Nat) (w : Mi.W) : wd n w ≠ [] := by
  cases n with
  | zero => intro h; cases h
  | succ n => cases w <;> (intro h; cases h)
theorem wd_32 : ∀ (n : Nat) (w : Mi.W), Tn n w → ∀ p ∈ wd n w, 32 ∉ p
  | n, w, h, p, hp => by
    have leaf : ∀ (n : Nat) (w : Mi.W), Leaf w → ∀ p ∈ wd n w, 32 ∉ p := fun n w hw p hp z => by
      rw [wd_leaf hw] at hp
      rw [List.mem_singleton.mp hp] at z
      exact (plain_lt ((leaf_plain hw).1 32 z)).2.1 rfl
    cases n with
    | zero => exact leaf 0 w h p hp
    | succ n =>
      rcases h with h | ⟨ws, rfl, h3, hws⟩
      · exact leaf (n + 1) w h p hp
      · have hp' : p ∈ [[40]] ++ ((ws.map (wd n)).flatten ++ [[41]]) := hp
        rcases List.mem_append.mp hp' with q | q
        · rw [List.mem_singleton.mp q]; decide
        · rcases List.mem_append.mp q with q | q
          · obtain ⟨l, hl, hq⟩ := List.mem_flatten.mp q
            obtain ⟨v, hv, rfl⟩ := List.mem_map.mp hl
            exact wd_32 n v (hws v hv) p hq
          · rw [List.mem_singleton.mp q]; decide
def txt (n : Nat) (w : Mi.W) : List Nat := TL.joinL [32] (wd n w)
/-- brackets_read -/
theorem r3 (k n : Nat) (w : Mi.W) (hw : Tn n w) (hn : n ≤ 40) (hl : (txt n w).length ≤ 100000) (τ : Sto) : ∃ τ', evF T F (k + 3) 3 [.str (SX.S (txt n w))] τ = .ok w τ' ∧ τ <+: τ' := by
  have hsp : Txt.split (SX.S (txt n w)) (SX.S [32]) = (wd n w).map SX.S := by
    rw [SX.split_S (by simp) (by decide)]
    unfold txt
    rw [SX.spl_join (wd_ne n w) (wd_32 n w hw)]
  have hsplit : ∀ t : Sto, bmeth .split (.str (SX.S (txt n w))) [.str (SX.S [32])] t = newL t ((wd n w).map fun c => W.str (SX.S c)) := fun t => by
    show (if ((SX.S [32]).length == 0) = false ∧ (SX.S (txt n w)).length + 2 ≤ sizeLine then newL t ((Txt.split (SX.S (txt n w)) (SX.S [32])).map .str) else .no) = _
    rw [if_pos ⟨rfl, by rw [SX.S_len]; exact Nat.le_trans (show _ ≤ 100002 by omega) (by decide)⟩, hsp, List.map_map]
    rfl
  have sk : Sk τ (τ.length + 1) (τ.length + 2) ((wd n w).map fun c => W.str (SX.S c)) ([] ++ [(τ.length, [])]) (τ ++ [.lst [], .lst [.ref τ.length], .lst ((wd n w).map fun c => W.str (SX.S c))]) := by
    refine ⟨at_off _ _ 2, at_off _ _ 1, fun p hp => ?_, by simp, fun p hp => ?_, by omega, List.prefix_append _ _, by omega, fun p hp => ?_⟩
    · rw [List.mem_singleton.mp hp]
      exact at_off0 _ _
    · rw [List.mem_singleton.mp hp]
      exact ⟨by show τ.length ≠ τ.length + 1; omega, by show τ.length ≠ τ.length + 2; omega⟩
    · rw [List.mem_singleton.mp hp]
      exact Nat.le_refl _
  obtain ⟨y2, y3, τ', e, h'⟩ := things τ k (τ.length + 1) (τ.length + 2) _ n w hw [] τ.length [] (some (.str (SX.S (txt n w)))) none none _ [] (.inr rfl) (by show 0 + 1 + n ≤ 41; omega) (by decide) sk
  rw [List.append_nil, forL_nil h'.gs] at e
  have hL : τ'[τ.length + 1]? = some (.lst [.ref τ.length]) := h'.l
  have ha : τ'[τ.length]? = some (.lst [w]) := h'.o (τ.length, [w]) List.mem_cons_self
  have i0 : L2.atI [W.ref τ.length] 0 = some (.ref τ.length) := by simp [L2.atI, L2.ixN]
  have i1 : L2.atI [w] 0 = some w := by simp [L2.atI, L2.ixN]
  refine ⟨τ', ?_, h'.p⟩
  rw [u3, b3, SPACE]
  generalize SX.S (txt n w) = z at *
  generalize SX.S [32] = sp at *
  generalize (wd n w).map (fun c => W.str (SX.S c)) = ws at *
  simp [newL, hsplit, seqI_eq]
  rw [e]
  simp [len_ref, hL, item_ref, ha, i0, i1]
/-! texts -/
theorem J_cons (p : List Nat) {ys : List (List Nat)} (h : ys ≠ []) : TL.joinL [32] (p :: ys) = p ++ ([32] ++ TL.joinL [32] ys) := by
  cases ys with
  | nil => exact absurd rfl h
  | cons q r => rfl
theorem J_app : ∀ {xs ys : List (List Nat)}, xs ≠ [] → ys ≠ [] → TL.joinL [32] (xs ++ ys) = TL.joinL [32] xs ++ ([32] ++ TL.joinL [32] ys)
  | [], _, h, _ => absurd rfl h
  | [p], ys, _, h => by
    show TL.joinL [32] (p :: ys) = p ++ ([32] ++ TL.joinL [32] ys)
    exact J_cons p h
  | p :: q :: r, ys, _, h => by
    show TL.joinL [32] (p :: (q :: r ++ ys)) = _
    rw [J_cons p (by simp), J_app (xs := q :: r) (by simp) h, J_cons p (show q :: r ≠ [] by simp)]
    simp
def tail (n : Nat) (ws : List Mi.W) : List Nat := (ws.map fun w => txt n w ++ [32]).flatten
theorem J_tail (n : Nat) : ∀ ws : List Mi.W, TL.joinL [32] ((ws.map (wd n)).flatten ++ [[41]]) = tail n ws ++ [41]
  | [] => rfl
  | w :: r => by
    rw [List.map_cons, List.flatten_cons, List.append_assoc, J_app (wd_ne n w) (by simp), J_tail n r]
    unfold tail txt
    rw [List.map_cons, List.flatten_cons]
    simp
theorem txt_tup (n : Nat) (ws : List Mi.W) : txt (n + 1) (.tup ws) = [40, 32] ++ (tail n ws ++ [41]) := by
  show TL.joinL [32] ([40] :: ((ws.map (wd n)).flatten ++ [[41]])) = _
  rw [J_cons _ (by simp), J_tail]
  rfl
theorem J_shown (n : Nat) : ∀ ws : List Mi.W, TL.joinL [32] (ws.map (txt n) ++ [[41]]) = tail n ws ++ [41]
  | [] => rfl
  | w :: r => by
    rw [List.map_cons, List.cons_append, J_cons _ (by simp), J_shown n r]
    unfold tail
    rw [List.map_cons, List.flatten_cons]
    simp
theorem txt_leaf {n : Nat} {w : Mi.W} (h : Leaf w) : txt n w = leafT w := by
  unfold txt
  rw [wd_leaf h]
  rfl
theorem str_leaf {w : Mi.W} (h : Leaf w) (τ : Sto) : builtin .str [w] τ = .ok (.str (SX.S (leafT w))) τ := by
  rcases h with ⟨i, rfl, h1, h2⟩ | ⟨s, rfl, h⟩
  · show (if i.natAbs.log2 < 1920 then R.ok (W.str (toString i : String)) τ else .no) = _
    rw [if_pos]
    · show R.ok (W.str (Str.ofString (toString i))) τ = _
      rw [itx_eq]
      rfl
    · by_cases z : i.natAbs = 0
      · rw [z]; decide
      · exact (Nat.log2_lt z).mpr (Nat.lt_of_lt_of_le (show i.natAbs < 2 ^ 16 by omega) (Nat.pow_le_pow_right (by omega) (by omega)))
  · show R.ok (W.str s) τ = _
    show R.ok (W.str s) τ = R.ok (W.str (SX.S s.cps.toList)) τ
    rw [SX.S_tl]
theorem ty_leaf {w : Mi.W} (h : Leaf w) (τ : Sto) : ∃ t, tyOf τ w = some t ∧ inst t .tuple = false := by
  rcases h with ⟨i, rfl, h1, h2⟩ | ⟨s, rfl, h⟩
  · exact ⟨.int, rfl, rfl⟩
  · exact ⟨.str, rfl, rfl⟩
theorem TWO : ("( " : Str) = SX.S [40, 32] := by decide +kernel
theorem tail_cons (n : Nat) (w : Mi.W) (r : List Mi.W) : tail n (w :: r) = txt n w ++ [32] ++ tail n r := by
  unfold tail
  rw [List.map_cons, List.flatten_cons]
theorem tail_mem {n : Nat} {ws : List Mi.W} {x : Mi.W} (h : x ∈ ws) : (txt n x).length + 1 ≤ (tail n ws).length := by
  induction ws with
  | nil => cases h
  | cons w r ih =>
    rw [tail_cons, List.length_append, List.length_append]
    rcases List.mem_cons.mp h with e | e
    · rw [e]; show _ ≤ (txt n w).length + 1 + _; omega
    · have := ih e
      omega
theorem r12 : ∀ (n : Nat) (w : Mi.W), Tn n w → (txt n w).length ≤ 100000 → ∀ (k : Nat) (τ : Sto), evF T F (k + n + 1) 12 [w] τ = .ok (.str (SX.S (txt n w))) τ := by
  have leaf : ∀ (n : Nat) (w : Mi.W), Leaf w → ∀ (k : Nat) (τ : Sto), evF T F (k + 1) 12 [w] τ = .ok (.str (SX.S (txt n w))) τ := by
    intro n w h k τ
    obtain ⟨t, e1, e2⟩ := ty_leaf h τ
    rw [txt_leaf h]
    have e3 := str_leaf h τ
    generalize SX.S (leafT w) = z at *
    simp [u12, b12, e1, e2, e3]
  intro n
  induction n with
  | zero => exact fun w h _ k τ => leaf 0 w h k τ
  | succ n ih =>
    intro w h hl k τ
    rcases h with h | ⟨ws, rfl, h3, hws⟩
    · exact leaf (n + 1) w h (k + (n + 1)) τ
    · have loop : ∀ (ws : List Mi.W), (∀ w ∈ ws, Tn n w) → ∀ (pre : List Nat) (x0 x2 : Option Mi.W), pre.length + (tail n ws).length ≤ 100000 → ∃ o, forL (.name 2) [] (evS T (evF T F (k + n + 1)) l12_1) ws [x0, some (.str (SX.S pre)), x2] τ = .ok (.nx [x0, some (.str (SX.S (pre ++ tail n ws))), o]) τ := by
        intro ws
        induction ws with
        | nil =>
          intro _ pre x0 x2 _
          exact ⟨x2, by rw [forL_nil (by simp)]; show _ = R.ok (Fl.nx [x0, some (.str (SX.S (pre ++ []))), x2]) τ; rw [List.append_nil]⟩
        | cons w r ihr =>
          intro hws pre x0 x2 hl
          rw [tail_cons] at hl ⊢
          rw [List.length_append, List.length_append] at hl
          have hl' : pre.length + ((txt n w).length + 1 + (tail n r).length) ≤ 100000 := hl
          obtain ⟨o, e⟩ := ihr (fun v hv => hws v (List.mem_cons_of_mem _ hv)) (pre ++ txt n w ++ [32]) x0 (some w) (by rw [List.length_append, List.length_append]; show pre.length + (txt n w).length + 1 + _ ≤ _; omega)
          have e1 := ih w (hws w List.mem_cons_self) (by omega) k τ
          refine ⟨o, ?_⟩
          rw [forL_step _ _ _ _ _ _ (by simp)]
          have c1 : (SX.S pre).length + (SX.S (txt n w)).length ≤ sizeLine := by
            rw [SX.S_len, SX.S_len]
            exact Nat.le_trans (show _ ≤ 100000 by omega) (by decide)
          have c2 : (SX.S (pre ++ txt n w)).length + (SX.S [32]).length ≤ sizeLine := by
            rw [SX.S_len, SX.S_len, List.length_append]
            exact Nat.le_trans (show _ ≤ 100001 by show pre.length + (txt n w).length + 1 ≤ _; omega) (by decide)
          have c3 := SX.S_cat pre (txt n w)
          have c4 := SX.S_cat (pre ++ txt n w) [32]
          have e' : forL (.name 2) [] (evS T (evF T F (k + n + 1)) l12_1) r [x0, some (.str (SX.S (pre ++ txt n w ++ [32]))), some w] τ = .ok (.nx [x0, some (.str (SX.S (pre ++ (txt n w ++ [32] ++ tail n r)))), o]) τ := by
            rw [e]
            simp
          generalize SX.S (pre ++ (txt n w ++ [32] ++ tail n r)) = zf at *
          generalize SX.S (pre ++ txt n w ++ [32]) = z4 at *
          generalize SX.S (pre ++ txt n w) = z3 at *
          generalize SX.S (txt n w) = z2 at *
          generalize SX.S pre = z1 at *
          have hb : evS T (evF T F (k + n + 1)) l12_1 [x0, some (.str z1), some w] τ = .ok (.nx [x0, some (.str z4), some w]) τ := by
            unfold l12_1
            rw [SPACE]
            generalize SX.S [32] = sp at *
            simp [e1, c1, c2, c3, c4]
          show loopR (evS T (evF T F (k + n + 1)) l12_1 [x0, some (.str z1), some w] τ) _ = _
          rw [hb]
          exact e'
      rw [txt_tup] at hl ⊢
      rw [List.length_append, List.length_append] at hl
      have hl' : 2 + ((tail n ws).length + 1) ≤ 100000 := hl
      obtain ⟨o, e⟩ := loop ws hws [40, 32] (some (.tup ws)) none (by show 2 + _ ≤ _; omega)
      have c1 : (SX.S ([40, 32] ++ tail n ws)).length + (SX.S [41]).length ≤ sizeLine := by
        rw [SX.S_len, SX.S_len, List.length_append]
        exact Nat.le_trans (show _ ≤ 100000 by show 2 + (tail n ws).length + 1 ≤ _; omega) (by decide)
      have c2 := SX.S_cat ([40, 32] ++ tail n ws) [41]
      rw [List.append_assoc] at c2
      show evF T F (k + n + 1 + 1) 12 [.tup ws] τ = _
      rw [u12, b12, TWO, SHUT]
      generalize SX.S ([40, 32] ++ (tail n ws ++ [41])) = zf at *
      generalize SX.S ([40, 32] ++ tail n ws) = z1 at *
      generalize SX.S [40, 32] = z2 at *
      generalize SX.S [41] = z3 at *
      simp
      rw [e]
      simp [c1, c2]
theorem paired_map {f : Mi.W → Mi.W} : ∀ {xs ys : List Mi.W}, Paired (fun x y => y = f x) xs ys → ys = xs.map f
  | _, _, .nil => rfl
  | _, _, .cons a r => by rw [List.map_cons, a, paired_map r]
theorem sum_tail (n : Nat) : ∀ ws : List Mi.W, ((ws.map (txt n)).map List.length).sum + ws.length = (tail n ws).length
  | [] => rfl
  | w :: r => by
    rw [tail_cons, List.length_append, List.length_append, ← sum_tail n r]
    simp
    omega
/-- brackets_shown -/
theorem r4 : ∀ (n : Nat) (w : Mi.W), Tn n w → (txt n w).length ≤ 100000 → ∀ (k : Nat) (τ : Sto), ∃ τ', evF T F (k + n + 1) 4 [w] τ = .ok (.str (SX.S (txt n w))) τ' ∧ τ <+: τ' := by
  have leaf : ∀ (n : Nat) (w : Mi.W), Leaf w → ∀ (k : Nat) (τ : Sto), evF T F (k + 1) 4 [w] τ = .ok (.str (SX.S (txt n w))) τ := by
    intro n w h k τ
    obtain ⟨t, e1, e2⟩ := ty_leaf h τ
    rw [txt_leaf h]
    have e3 := str_leaf h τ
    generalize SX.S (leafT w) = z at *
    simp [u4, b4, e1, e2, e3]
  intro n
  induction n with
  | zero => exact fun w h _ k τ => ⟨τ, leaf 0 w h k τ, List.prefix_refl τ⟩
  | succ n ih =>
    intro w h hl k τ
    rcases h with h | ⟨ws, rfl, h3, hws⟩
    · exact ⟨τ, leaf (n + 1) w h (k + (n + 1)) τ, List.prefix_refl τ⟩
    · have ht := txt_tup n ws
      rw [ht] at hl
      rw [List.length_append, List.length_append] at hl
      have hl' : 2 + ((tail n ws).length + 1) ≤ 100000 := hl
      obtain ⟨ys, τ1, e, p, h2, pr⟩ := lcL_map (g := .name 1) (gs := []) (ρ := [some (.tup ws), none]) (test := (ev T (evF T F (k + n + 1)) .nil).t) (elt := (ev T (evF T F (k + n + 1)) (.call 4 (.cons (.var 1) .nil))).e) (D := τ.length + 1) (τ0 := τ ++ [.lst [.str (SX.S [40])]]) (by rw [List.length_append]; exact Nat.le_refl _) (fun q hq => nomatch hq) (fun x y => y = .str (SX.S (txt n x))) ws (fun x hx => by
        refine ⟨_, rfl, fun t _ => ⟨by simp, ?_⟩⟩
        obtain ⟨t', e, p⟩ := ih x (hws x hx) (by have := tail_mem (n := n) hx; omega) k t
        exact ⟨_, t', rfl, by simp [e], p⟩) [] (τ ++ [.lst [.str (SX.S [40])], .lst []]) ⟨[.lst []], by simp⟩ (at_off _ _ 1) (Nat.le_trans (show 0 + ws.length ≤ 3 by omega) (by decide))
      have hys := paired_map pr
      have hA : τ1[τ.length]? = some (.lst [.str (SX.S [40])]) := pre_get p (at_end _ _)
      have hD : τ1[τ.length + 1]? = some (.lst ys) := h2
      have hyl : ys.length = ws.length := by rw [hys, List.length_map]
      have hpt : τ <+: τ1 := List.IsPrefix.trans (List.prefix_append _ _) p
      have hJ : (([[40]] ++ ws.map (txt n) ++ [[41]]).map fun a => W.str (SX.S a)) = W.str (SX.S [40]) :: (ys ++ [W.str (SX.S [41])]) := by
        rw [hys]
        simp
      have hjl : ((([[40]] ++ ws.map (txt n) ++ [[41]]).map SX.S).map (fun x : Str => x.length)).sum + (([[40]] ++ ws.map (txt n) ++ [[41]]).map SX.S).length * (SX.S [32]).length ≤ 16777216 := by
        have := sum_tail n ws
        have e1 : (([[40]] ++ ws.map (txt n) ++ [[41]]).map (fun x : List Nat => x.length)).sum = 1 + ((ws.map (txt n)).map List.length).sum + 1 := by
          rw [List.map_append, List.map_append, List.sum_append, List.sum_append]
          rfl
        have e2 : (([[40]] ++ ws.map (txt n) ++ [[41]]).map SX.S).length = ws.length + 2 := by
          rw [List.length_map, List.length_append, List.length_append, List.length_map]
          show 1 + ws.length + 1 = _
          omega
        rw [SX.lens, e2, e1]
        show _ + (ws.length + 2) * 1 ≤ _
        omega
      have hj := join_ok (τ := τ1 ++ [.lst (.str (SX.S [40]) :: ys), .lst [.str (SX.S [41])], .lst (W.str (SX.S [40]) :: (ys ++ [W.str (SX.S [41])]))]) (n := τ1.length + 2) (a := [32]) (ys := [[40]] ++ ws.map (txt n) ++ [[41]]) (by rw [hJ]; exact at_off _ _ 2) hjl
      have hjt : TL.joinL [32] ([[40]] ++ ws.map (txt n) ++ [[41]]) = txt (n + 1) (.tup ws) := by
        rw [ht]
        show TL.joinL [32] ([40] :: (ws.map (txt n) ++ [[41]])) = _
        rw [J_cons _ (by simp), J_shown]
        rfl
      rw [hjt] at hj
      refine ⟨_, ?_, hpt.trans (List.prefix_append _ [.lst (.str (SX.S [40]) :: ys), .lst [.str (SX.S [41])], .lst (W.str (SX.S [40]) :: (ys ++ [W.str (SX.S [41])]))])⟩
      show evF T F (k + n + 1 + 1) 4 [.tup ws] τ = _
      have c1 : 1 + ys.length ≤ sizeLine := Nat.le_trans (show _ ≤ 5 by omega) (by decide)
      have c2 : ys.length + 1 + 1 ≤ sizeLine := Nat.le_trans (show _ ≤ 6 by omega) (by decide)
      rw [u4, b4, SPACE, OPEN, SHUT]
      generalize SX.S (txt (n + 1) (.tup ws)) = zf at *
      generalize SX.S [40] = z1 at *
      generalize SX.S [41] = z2 at *
      generalize SX.S [32] = z3 at *
      simp [newL, wipeS]
      rw [e]
      simp [add_ref, hA, hD, at_old hA, at_old hD, newL, c1, c2, hj]
theorem ok_128 {a : List Nat} (h : ∀ c ∈ a, c < 128) : PyData.strOk (SX.S a) = true := by
  show a.toArray.all (· < 0x110000) = true
  rw [← Array.all_toList]
  refine List.all_eq_true.mpr fun c hc => ?_
  have := h c hc
  exact decide_eq_true (by omega)
theorem eq_same {τ : Sto} {a : List Nat} (h : ∀ c ∈ a, c < 128) : eqW τ (.str (SX.S a)) (.str (SX.S a)) = some true := by
  rw [eqW_str]
  unfold strB
  rw [if_pos ⟨ok_128 h, ok_128 h⟩]
  simp
theorem alike_str (k : Nat) (a : List Nat) (h : ∀ c ∈ a, c < 128) (τ : Sto) : evF T F (k + 1) 8 [.str (SX.S a), .str (SX.S a)] τ = .ok (.bl true) τ := by
  have e := fun t => eq_same (τ := t) h
  generalize SX.S a = z at *
  simp [u8, b8, e]
theorem r8 : ∀ (n : Nat) (w : Mi.W), Tn n w → ∀ (k : Nat) (τ : Sto), ∃ τ', evF T F (k + n + 1) 8 [w, w] τ = .ok (.bl true) τ' ∧ τ <+: τ' := by
  have leaf : ∀ (w : Mi.W), Leaf w → ∀ (k : Nat) (τ : Sto), evF T F (k + 1) 8 [w, w] τ = .ok (.bl true) τ := by
    intro w h k τ
    rcases h with ⟨i, rfl, h1, h2⟩ | ⟨s, rfl, h⟩
    · simp [u8, b8]
    · have := alike_str k s.cps.toList (fun c hc => (plain_lt (good_plain h c hc)).1) τ
      rw [SX.S_tl] at this
      exact this
  intro n
  induction n with
  | zero => exact fun w h k τ => ⟨τ, leaf w h k τ, List.prefix_refl τ⟩
  | succ n ih =>
    intro w h k τ
    rcases h with h | ⟨ws, rfl, h3, hws⟩
    · exact ⟨τ, leaf w h (k + (n + 1)) τ, List.prefix_refl τ⟩
    · obtain ⟨τ', e, p⟩ := lcL_none (g := .name 2) (ρ := [some (.tup ws), some (.tup ws), none]) (test := (ev T (evF T F (k + n + 1)) (.not (.call 8 (.cons (.ix (.var 0) (.var 2)) (.cons (.ix (.var 1) (.var 2)) .nil))))).t) (elt := (ev T (evF T F (k + n + 1)) (.var 2)).e) (D := τ.length) (τ0 := τ) ((List.range ws.length).map fun (i : Nat) => W.int (i : Int)) (fun x hx => by
        obtain ⟨i, rfl, hi0, hi1⟩ := mem_rng hx
        refine ⟨_, rfl, fun t _ => ?_⟩
        obtain ⟨y, hy, hm⟩ := atI_mem (xs := ws) hi0 hi1
        obtain ⟨t', e, p⟩ := ih y (hws y hm) k t
        exact ⟨t', by simp [hy, e], p⟩) (τ ++ [.lst []]) (List.prefix_append _ _)
      have hpt : τ <+: τ' := List.IsPrefix.trans (List.prefix_append _ _) p
      have hD : τ'[τ.length]? = some (.lst []) := pre_get p (at_end _ _)
      refine ⟨τ', ?_, hpt⟩
      show evF T F (k + n + 1 + 1) 8 [.tup ws, .tup ws] τ = _
      obtain ⟨j, hj⟩ : ∃ j : Int, j = ws.length := ⟨_, rfl⟩
      have hj0 : 0 ≤ j := by omega
      have hj1 : j < 4096 := by omega
      have hjn : j.toNat = ws.length := by omega
      have hlen : ∀ t : Sto, builtin .len [.tup ws] t = .ok (.int j) t := fun t => by rw [hj]; rfl
      clear hj
      have hr2 : rngI [.int j] τ = _ := rngJ hj0 hj1
      rw [hjn] at hr2
      simp -implicitDefEqProofs [-len_tup, u8, b8, hlen, hr2, wipeS]
      rw [e]
      simp [len_ref, hD]
theorem tn_th : ∀ (n : Nat) (w : Mi.W), Th n w → Tn n w
  | 0, _, h => h
  | n + 1, w, h => by
    rcases h with h | ⟨ws, e, h3, hws⟩
    · exact .inl h
    · exact .inr ⟨ws, e, h3, fun x hx => tn_th n x (hws x hx)⟩
theorem tn_wrap : ∀ (m n : Nat) (w : Mi.W), Tn n w → Tn (n + m) (wrap m w)
  | 0, _, _, h => h
  | m + 1, n, w, h => by
    have := tn_wrap m (n + 1) (.tup [w]) (.inr ⟨[w], rfl, by simp, fun x hx => by rw [List.mem_singleton.mp hx]; exact h⟩)
    rw [show n + 1 + m = n + (m + 1) by omega] at this
    exact this
def bd : Nat → Nat
  | 0 => 32
  | n + 1 => 3 * (bd n + 1) + 35
theorem len_th : ∀ (n : Nat) (w : Mi.W), Th n w → (txt n w).length ≤ bd n
  | 0, w, h => by
    rw [txt_leaf (n := 0) h]
    exact (leaf_plain h).2.2.1
  | n + 1, w, h => by
    rcases h with h | ⟨ws, rfl, h3, hws⟩
    · rw [txt_leaf h]
      have := (leaf_plain h).2.2.1
      show _ ≤ 3 * (bd n + 1) + 35
      omega
    · rw [txt_tup, List.length_append, List.length_append]
      have key : ∀ ws : List Mi.W, (∀ x ∈ ws, Th n x) → (tail n ws).length ≤ ws.length * (bd n + 1) := by
        intro ws
        induction ws with
        | nil => exact fun _ => Nat.zero_le _
        | cons w r ih =>
          intro h
          have h1 := ih fun x hx => h x (List.mem_cons_of_mem _ hx)
          have h2 := len_th n w (h w List.mem_cons_self)
          rw [tail_cons, List.length_append, List.length_append, show (w :: r).length = r.length + 1 from rfl, Nat.add_mul, Nat.one_mul]
          show (txt n w).length + 1 + _ ≤ _
          omega
      have h1 := key ws hws
      have h2 := Nat.mul_le_mul_right (bd n + 1) h3
      show 2 + ((tail n ws).length + 1) ≤ 3 * (bd n + 1) + 35
      omega
theorem len_wrap : ∀ (m n : Nat) (w : Mi.W), (txt (n + m) (wrap m w)).length = (txt n w).length + 4 * m
  | 0, _, _ => rfl
  | m + 1, n, w => by
    have := len_wrap m (n + 1) (.tup [w])
    rw [show n + 1 + m = n + (m + 1) by omega] at this
    show (txt (n + (m + 1)) (wrap m (.tup [w]))).length = _
    rw [this, txt_tup, tail_cons, List.length_append, List.length_append, List.length_append, List.length_append]
    show 2 + ((txt n w).length + 1 + 0 + 1) + 4 * m = _
    omega
theorem txt_128 : ∀ (n : Nat) (w : Mi.W), Tn n w → ∀ c ∈ txt n w, c < 128
  | 0, w, h, c, hc => by
    rw [txt_leaf (n := 0) h] at hc
    exact (plain_lt ((leaf_plain h).1 c hc)).1
  | n + 1, w, h, c, hc => by
    rcases h with h | ⟨ws, rfl, h3, hws⟩
    · rw [txt_leaf h] at hc
      exact (plain_lt ((leaf_plain h).1 c hc)).1
    · rw [txt_tup] at hc
      rcases List.mem_append.mp hc with q | q
      · simp at q; omega
      · rcases List.mem_append.mp q with q | q
        · unfold tail at q
          obtain ⟨l, hl, hq⟩ := List.mem_flatten.mp q
          obtain ⟨v, hv, rfl⟩ := List.mem_map.mp hl
          rcases List.mem_append.mp hq with z | z
          · exact txt_128 n v (hws v hv) c z
          · simp at z; omega
        · simp at q; omega
/-- what is asked of one thing -/
theorem turn (n : Nat) (w : Mi.W) (hw : Tn n w) (hn : n ≤ 40) (hl : (txt n w).length ≤ 100000) (x0 x1 x2 x3 x5 : Option Mi.W) (τ : Sto) : ∃ y5 τ', evS T (evF T F 59) l13_1 [x0, x1, x2, x3, some w, x5] τ = .ok (.nx [x0, x1, x2, x3, some w, y5]) τ' ∧ τ <+: τ' := by
  have e12 : evF T F 59 12 [w] τ = .ok (.str (SX.S (txt n w))) τ := (show 58 - n + n + 1 = 59 by omega) ▸ r12 n w hw hl (58 - n) τ
  obtain ⟨τ1, e3, p1⟩ := r3 56 n w hw hn hl τ
  obtain ⟨τ2, e8, p2⟩ := r8 n w hw (58 - n) τ1
  have e8' : evF T F 59 8 [w, w] τ1 = .ok (.bl true) τ2 := (show 58 - n + n + 1 = 59 by omega) ▸ e8
  obtain ⟨τ3, e4, p3⟩ := r4 n w hw hl (58 - n) τ2
  have e4' : evF T F 59 4 [w] τ2 = .ok (.str (SX.S (txt n w))) τ3 := (show 58 - n + n + 1 = 59 by omega) ▸ e4
  have e8s := alike_str 58 (txt n w) (txt_128 n w hw) τ3
  refine ⟨some (.str (SX.S (txt n w))), τ3, ?_, p1.trans (p2.trans p3)⟩
  generalize SX.S (txt n w) = z at *
  simp [l13_1, e12, e3, e8', e4', e8s]
theorem lw (ns : List Int) : ∃ τ, evF T F depth 13 [.ref 0] [.frz ns] = .ok (.bl true) τ := by
  obtain ⟨D, τ1, e6, hD, h1, ds, hds, hnn⟩ := r6 57 ns
  have e6' : evF T F 59 6 [.ref 0, .int 0, .int 120] [.frz ns, .dic []] = .ok (.ref D) τ1 := e6
  have hd := dispR_ok (D := 1) (ks := [.inr "draws"]) (ws := [W.ref D]) (τ := τ1) h1 rfl
  have hlt1 := (List.getElem?_eq_some_iff.mp h1).1
  have dr : Dr 1 D (τ1.set 1 (.dic [(.inr "draws", .ref D)])) := ⟨List.getElem?_set_self hlt1, by omega, ds, by rw [List.getElem?_set_ne (by omega)]; exact hds, hnn⟩
  have hm : mergeW [] (([.inr "draws"] : List L2.Key).zip [W.ref D]) = [(.inr "draws", .ref D)] := by
    simp [mergeW, kvPut]
  rw [hm] at hd
  generalize hs : τ1.set 1 (.dic [(.inr "draws", .ref D)]) = s1 at *
  obtain ⟨w, s2, f1, hw, dr2, _⟩ := r10 1 D 4 52 s1 dr
  have f1' : evF T F 59 10 [.ref 1, .int 4] s1 = .ok w s2 := f1
  obtain ⟨d1, s3, f2, hd1, dr3, _⟩ := r7 58 1 D s2 dr2
  have f2' : evF T F 59 7 [.ref 1] s2 = .ok (.int d1) s3 := f2
  have dr3' : Dr 1 D (s3 ++ [.lst [.int 0, .int 0, .int 1, .int 36, .int 35, .int (d1 % 37)]]) := dr3.pre (List.prefix_append _ _)
  obtain ⟨d2, s4, f3, hd2, dr4, kp⟩ := r7 58 1 D _ dr3'
  have f3' : evF T F 59 7 [.ref 1] (s3 ++ [.lst [.int 0, .int 0, .int 1, .int 36, .int 35, .int (d1 % 37)]]) = .ok (.int d2) s4 := f3
  have hDl : D < s3.length := by
    obtain ⟨ds', g, _⟩ := dr3.ls
    exact (List.getElem?_eq_some_iff.mp g).1
  have hA : s4[s3.length]? = some (.lst [.int 0, .int 0, .int 1, .int 36, .int 35, .int (d1 % 37)]) := kp _ _ (by omega) (at_end _ _)
  obtain ⟨y, hy, hym⟩ := atI_mem (xs := [W.int 0, W.int 0, W.int 1, W.int 36, W.int 35, W.int (d1 % 37)]) (i := d2 % 6) (by omega) (by show d2 % 6 < 6; omega)
  have hyi : ∃ j : Int, y = .int j ∧ 0 ≤ j ∧ j ≤ 36 := by
    simp only [List.mem_cons, List.not_mem_nil, or_false] at hym
    rcases hym with rfl | rfl | rfl | rfl | rfl | rfl <;> exact ⟨_, rfl, by omega, by omega⟩
  obtain ⟨j, rfl, hj0, hj1⟩ := hyi
  have f4 := r11 58 w j hj0 (by omega) s4
  have f4' : evF T F 59 11 [w, .int j] s4 = .ok (wrap j.toNat w) s4 := f4
  obtain ⟨v, s5, f5, hv, _, _⟩ := r10 1 D 3 53 s4 dr4
  have f5' : evF T F 59 10 [.ref 1, .int 3] s4 = .ok v s5 := f5
  have tw := tn_wrap j.toNat 4 w (tn_th 4 w hw)
  have tv := tn_th 3 v hv
  have lw1 : (txt (4 + j.toNat) (wrap j.toNat w)).length ≤ 100000 := by
    rw [len_wrap]
    have := len_th 4 w hw
    have hb : bd 4 = 4112 := by decide
    omega
  have lv1 : (txt 3 v).length ≤ 100000 := by
    have := len_th 3 v hv
    have hb : bd 3 = 1358 := by decide
    omega
  generalize wrap j.toNat w = W1 at *
  rw [depth, u13, b13, evS_cons, evS_set]
  simp [e6', hd, f1', f2', newL, f3', item_ref, hA, hy, f4', f5', seqI_eq]
  have gs : ∀ t : Sto, s5 ++ [AO.lst [W1, v, W1]] <+: t → It.ok [(s5.length, [W1, v, W1])] t := fun t p => pre_ok p (fun q hq => by
    cases List.mem_singleton.mp hq
    exact seq_end _ _)
  obtain ⟨y1, t1, g1, q1⟩ := turn _ W1 tw (by omega) lw1 (some (.ref 0)) (some (.ref 1)) (some W1) (some v) none (s5 ++ [AO.lst [W1, v, W1]])
  obtain ⟨y2, t2, g2, q2⟩ := turn _ v tv (by omega) lv1 (some (.ref 0)) (some (.ref 1)) (some W1) (some v) y1 t1
  obtain ⟨y3, t3, g3, q3⟩ := turn _ W1 tw (by omega) lw1 (some (.ref 0)) (some (.ref 1)) (some W1) (some v) y2 t2
  rw [forL_cons (gs _ (List.prefix_refl _)) rfl]
  show ∃ τ, Mi.finish (seqR (loopR (evS T (evF T F 59) l13_1 [some (.ref 0), some (.ref 1), some W1, some v, some W1, none] _) _) _) = _
  rw [g1, loopR_nx, forL_cons (gs _ q1) rfl]
  show ∃ τ, Mi.finish (seqR (loopR (evS T (evF T F 59) l13_1 [some (.ref 0), some (.ref 1), some W1, some v, some v, y1] _) _) _) = _
  rw [g2, loopR_nx, forL_cons (gs _ (q1.trans q2)) rfl]
  show ∃ τ, Mi.finish (seqR (loopR (evS T (evF T F 59) l13_1 [some (.ref 0), some (.ref 1), some W1, some v, some W1, y2] _) _) _) = _
  rw [g3, loopR_nx, forL_nil (gs _ (q1.trans (q2.trans q3)))]
  simp
theorem run_law : ∀ ns : List Int, ns.length ≤ 63 → (∀ z ∈ ns, Builtin.Int.intBits z ≤ 1048576) → ∃ τ, evF T F depth 13 [.ref 0] [.frz ns] = .ok (.bl true) τ := fun ns _ _ => lw ns
end L_k03

namespace L_k03
open PySem PySem.Spec PyProof.Rows L2 Mi
def topS (i : Nat) : Stmt := PySem.Challenge.pw_passpapers_k03_brackets.main.body.getD i (.Pass ⟨0, 0, 0, 0⟩)
abbrev s0 : Stmt := topS 8 -- are_figures(text, strange, sign)
abbrev s1 : Stmt := topS 9 -- piece_told(piece, bare)
abbrev s2 : Stmt := topS 10 -- look_at_piece(piece)
abbrev s3 : Stmt := topS 11 -- brackets_read(text, open_lists, piece, closed)
abbrev s4 : Stmt := topS 12 -- brackets_shown(thing, one)
abbrev s5 : Stmt := topS 14 -- _law_cell(_law_script, _law_k, _law_spare)
abbrev s6 : Stmt := topS 15 -- _law_draws(_law_script, _law_at, _law_many, _law_digits, _law_left, _law_k, _law_mixed, _law_draw)
abbrev s7 : Stmt := topS 16 -- _law_next(_law_state)
abbrev s8 : Stmt := topS 17 -- _law_alike(_law_found, _law_due, _law_k)
abbrev s9 : Stmt := topS 18 -- _law_piece(_law_state, _law_draw, _law_rest, _law_signs, _law_piece_here, _law_turn, _law_some)
abbrev s10 : Stmt := topS 19 -- _law_thing(_law_state, _law_deep_here, _law_draw, _law_k)
abbrev s11 : Stmt := topS 20 -- _law_deep(_law_thing_here, _law_many, _law_turn)
abbrev s12 : Stmt := topS 21 -- _law_text(_law_thing_here, _law_text_here, _law_one)
abbrev s13 : Stmt := topS 22 -- law(_law_script, _law_state, _law_thing_here, _law_other, _law_one, _law_text_here)
abbrev n0 : List Str := ["text", "strange", "sign"]
theorem sc0 : FnScope n0 ["text"] (defScope s0) := ⟨rfl, rfl, rfl, by decide +kernel, rfl, by decide +kernel, by decide +kernel⟩
abbrev n1 : List Str := ["piece", "bare"]
theorem sc1 : FnScope n1 ["piece"] (defScope s1) := ⟨rfl, rfl, rfl, by decide +kernel, rfl, by decide +kernel, by decide +kernel⟩
abbrev n2 : List Str := ["piece"]
theorem sc2 : FnScope n2 ["piece"] (defScope s2) := ⟨rfl, rfl, rfl, by decide +kernel, rfl, by decide +kernel, by decide +kernel⟩
abbrev n3 : List Str := ["text", "open_lists", "piece", "closed"]
theorem sc3 : FnScope n3 ["text"] (defScope s3) := ⟨rfl, rfl, rfl, by decide +kernel, rfl, by decide +kernel, by decide +kernel⟩
abbrev n4 : List Str := ["thing", "one"]
theorem sc4 : FnScope n4 ["thing"] (defScope s4) := ⟨rfl, rfl, rfl, by decide +kernel, rfl, by decide +kernel, by decide +kernel⟩
abbrev n5 : List Str := ["_law_script", "_law_k", "_law_spare"]
theorem sc5 : FnScope n5 ["_law_script", "_law_k"] (defScope s5) := ⟨rfl, rfl, rfl, by decide +kernel, rfl, by decide +kernel, by decide +kernel⟩
abbrev n6 : List Str := ["_law_script", "_law_at", "_law_many", "_law_digits", "_law_left", "_law_k", "_law_mixed", "_law_draw"]
theorem sc6 : FnScope n6 ["_law_script", "_law_at", "_law_many"] (defScope s6) := ⟨rfl, rfl, rfl, by decide +kernel, rfl, by decide +kernel, by decide +kernel⟩
abbrev n7 : List Str := ["_law_state"]
theorem sc7 : FnScope n7 ["_law_state"] (defScope s7) := ⟨rfl, rfl, rfl, by decide +kernel, rfl, by decide +kernel, by decide +kernel⟩
abbrev n8 : List Str := ["_law_found", "_law_due", "_law_k"]
theorem sc8 : FnScope n8 ["_law_found", "_law_due"] (defScope s8) := ⟨rfl, rfl, rfl, by decide +kernel, rfl, by decide +kernel, by decide +kernel⟩
abbrev n9 : List Str := ["_law_state", "_law_draw", "_law_rest", "_law_signs", "_law_piece_here", "_law_turn", "_law_some"]
theorem sc9 : FnScope n9 ["_law_state"] (defScope s9) := ⟨rfl, rfl, rfl, by decide +kernel, rfl, by decide +kernel, by decide +kernel⟩
abbrev n10 : List Str := ["_law_state", "_law_deep_here", "_law_draw", "_law_k"]
theorem sc10 : FnScope n10 ["_law_state", "_law_deep_here"] (defScope s10) := ⟨rfl, rfl, rfl, by decide +kernel, rfl, by decide +kernel, by decide +kernel⟩
abbrev n11 : List Str := ["_law_thing_here", "_law_many", "_law_turn"]
theorem sc11 : FnScope n11 ["_law_thing_here", "_law_many"] (defScope s11) := ⟨rfl, rfl, rfl, by decide +kernel, rfl, by decide +kernel, by decide +kernel⟩
abbrev n12 : List Str := ["_law_thing_here", "_law_text_here", "_law_one"]
theorem sc12 : FnScope n12 ["_law_thing_here"] (defScope s12) := ⟨rfl, rfl, rfl, by decide +kernel, rfl, by decide +kernel, by decide +kernel⟩
abbrev n13 : List Str := ["_law_script", "_law_state", "_law_thing_here", "_law_other", "_law_one", "_law_text_here"]
theorem sc13 : FnScope n13 ["_law_script"] (defScope s13) := ⟨rfl, rfl, rfl, by decide +kernel, rfl, by decide +kernel, by decide +kernel⟩
abbrev fnT : List (Str × Nat) := [("are_figures", 0), ("piece_told", 1), ("look_at_piece", 2), ("brackets_read", 3), ("brackets_shown", 4), ("_law_cell", 5), ("_law_draws", 6), ("_law_next", 7), ("_law_alike", 8), ("_law_piece", 9), ("_law_thing", 10), ("_law_deep", 11), ("_law_text", 12), ("law", 13)]
abbrev conT : List (Str × W) := [("LEAST", (.int (-32768))), ("MOST", (.int 32767)), ("MOST_DEEP", (.int 40)), ("FIGURES", (.str ("0123456789" : Str)))]
abbrev biT : List Str := ["bool", "int", "isinstance", "len", "max", "range", "str", "tuple"]
abbrev xcT : List (Str × Nat) := [("NoText", 1)]
def G : Gt := ⟨look fnT, fun _ => none, look conT, fun x => decide (x ∈ biT), look xcT⟩
theorem ck0 : (chkS G ⟨n0, defScope s0, (defScope s0).names⟩ b0).b (defBody s0) = true := by decide +kernel
theorem ck1 : (chkS G ⟨n1, defScope s1, (defScope s1).names⟩ b1).b (defBody s1) = true := by decide +kernel
theorem ck2 : (chkS G ⟨n2, defScope s2, (defScope s2).names⟩ b2).b (defBody s2) = true := by decide +kernel
theorem ck3 : (chkS G ⟨n3, defScope s3, (defScope s3).names⟩ b3).b (defBody s3) = true := by decide +kernel
theorem ck4 : (chkS G ⟨n4, defScope s4, (defScope s4).names⟩ b4).b (defBody s4) = true := by decide +kernel
theorem ck5 : (chkS G ⟨n5, defScope s5, (defScope s5).names⟩ b5).b (defBody s5) = true := by decide +kernel
theorem ck6 : (chkS G ⟨n6, defScope s6, (defScope s6).names⟩ b6).b (defBody s6) = true := by decide +kernel
theorem ck7 : (chkS G ⟨n7, defScope s7, (defScope s7).names⟩ b7).b (defBody s7) = true := by decide +kernel
theorem ck8 : (chkS G ⟨n8, defScope s8, (defScope s8).names⟩ b8).b (defBody s8) = true := by decide +kernel
theorem ck9 : (chkS G ⟨n9, defScope s9, (defScope s9).names⟩ b9).b (defBody s9) = true := by decide +kernel
theorem ck10 : (chkS G ⟨n10, defScope s10, (defScope s10).names⟩ b10).b (defBody s10) = true := by decide +kernel
theorem ck11 : (chkS G ⟨n11, defScope s11, (defScope s11).names⟩ b11).b (defBody s11) = true := by decide +kernel
theorem ck12 : (chkS G ⟨n12, defScope s12, (defScope s12).names⟩ b12).b (defBody s12) = true := by decide +kernel
theorem ck13 : (chkS G ⟨n13, defScope s13, (defScope s13).names⟩ b13).b (defBody s13) = true := by decide +kernel
theorem all_mk {l : PySem.W.OpenLaw} {w : World} {K : PySem.W.Frag} {h : Heap} {mg : Str → Option Value} {fa : Addr} (n : Nat) (X : K.In h) (Gm : h.Ns mainGlobals mg) (hfa : mg "law" = some (.ref fa))
    {f0 : Addr} (m0 : PySem.W.nsIn K mainGlobals "are_figures" = some (some (.ref f0))) (a0 : FnAt K "are_figures" "are_figures" s0 f0)
    {f1 : Addr} (m1 : PySem.W.nsIn K mainGlobals "piece_told" = some (some (.ref f1))) (a1 : FnAt K "piece_told" "piece_told" s1 f1)
    {f2 : Addr} (m2 : PySem.W.nsIn K mainGlobals "look_at_piece" = some (some (.ref f2))) (a2 : FnAt K "look_at_piece" "look_at_piece" s2 f2)
    {f3 : Addr} (m3 : PySem.W.nsIn K mainGlobals "brackets_read" = some (some (.ref f3))) (a3 : FnAt K "brackets_read" "brackets_read" s3 f3)
    {f4 : Addr} (m4 : PySem.W.nsIn K mainGlobals "brackets_shown" = some (some (.ref f4))) (a4 : FnAt K "brackets_shown" "brackets_shown" s4 f4)
    {f5 : Addr} (m5 : PySem.W.nsIn K mainGlobals "_law_cell" = some (some (.ref f5))) (a5 : FnAt K "_law_cell" "_law_cell" s5 f5)
    {f6 : Addr} (m6 : PySem.W.nsIn K mainGlobals "_law_draws" = some (some (.ref f6))) (a6 : FnAt K "_law_draws" "_law_draws" s6 f6)
    {f7 : Addr} (m7 : PySem.W.nsIn K mainGlobals "_law_next" = some (some (.ref f7))) (a7 : FnAt K "_law_next" "_law_next" s7 f7)
    {f8 : Addr} (m8 : PySem.W.nsIn K mainGlobals "_law_alike" = some (some (.ref f8))) (a8 : FnAt K "_law_alike" "_law_alike" s8 f8)
    {f9 : Addr} (m9 : PySem.W.nsIn K mainGlobals "_law_piece" = some (some (.ref f9))) (a9 : FnAt K "_law_piece" "_law_piece" s9 f9)
    {f10 : Addr} (m10 : PySem.W.nsIn K mainGlobals "_law_thing" = some (some (.ref f10))) (a10 : FnAt K "_law_thing" "_law_thing" s10 f10)
    {f11 : Addr} (m11 : PySem.W.nsIn K mainGlobals "_law_deep" = some (some (.ref f11))) (a11 : FnAt K "_law_deep" "_law_deep" s11 f11)
    {f12 : Addr} (m12 : PySem.W.nsIn K mainGlobals "_law_text" = some (some (.ref f12))) (a12 : FnAt K "_law_text" "_law_text" s12 f12)
    {f13 : Addr} (m13 : PySem.W.nsIn K mainGlobals "law" = some (some (.ref f13))) (a13 : FnAt K "law" "law" s13 f13)
    {c0 : Value} (k0 : PySem.W.nsIn K mainGlobals "LEAST" = some (some c0)) (q0 : ∃ v, RelV v c0 ∧ ∀ μ H, RV K μ H (.int (-32768)) v)
    {c1 : Value} (k1 : PySem.W.nsIn K mainGlobals "MOST" = some (some c1)) (q1 : ∃ v, RelV v c1 ∧ ∀ μ H, RV K μ H (.int 32767) v)
    {c2 : Value} (k2 : PySem.W.nsIn K mainGlobals "MOST_DEEP" = some (some c2)) (q2 : ∃ v, RelV v c2 ∧ ∀ μ H, RV K μ H (.int 40) v)
    {c3 : Value} (k3 : PySem.W.nsIn K mainGlobals "FIGURES" = some (some c3)) (q3 : ∃ v, RelV v c3 ∧ ∀ μ H, RV K μ H (.str ("0123456789" : Str)) v)
    (z0 : PySem.W.nsIn K mainGlobals "bool" = some none)
    (z1 : PySem.W.nsIn K mainGlobals "int" = some none)
    (z2 : PySem.W.nsIn K mainGlobals "isinstance" = some none)
    (z3 : PySem.W.nsIn K mainGlobals "len" = some none)
    (z4 : PySem.W.nsIn K mainGlobals "max" = some none)
    (z5 : PySem.W.nsIn K mainGlobals "range" = some none)
    (z6 : PySem.W.nsIn K mainGlobals "str" = some none)
    (z7 : PySem.W.nsIn K mainGlobals "tuple" = some none)
    {x0 : Addr} (xm0 : PySem.W.nsIn K mainGlobals "NoText" = some (some (.ref x0))) (xk0 : PySem.W.keepIn K (.ref x0) = true) (xe0 : PySem.W.excIn K x0 [.type "ValueError", .type "Exception", .type "BaseException", .type "object"] "ValueError.__new__" = true) (xs0 : PySem.W.subIn K (.ref x0) (.type "BaseException") = some true) (xt0 : PySem.W.typeIn K (.ref x0) = some (.type "type"))
    (run : ∀ ns : List Int, ns.length ≤ 63 → (∀ z ∈ ns, Builtin.Int.intBits z ≤ 1048576) → ∃ τ, evF T F n 13 [.ref 0] [.frz ns] = .ok (.bl true) τ)
    : LamX.LawAtS l w K (L2.CX l.prog w) (2 * n) 63 "_law_script" mg fa h := by
  obtain rfl : f13 = fa := by
    have e := (PySem.W.mg_of X Gm m13).symm.trans hfa
    cases e; rfl
  have d0 : DefOk G K ⟨1, 3, b0⟩ f0 := defOk_of (N := n0) a0 (fun _ _ _ _ _ _ us hl => match us, hl with | [_], _ => rfl) sc0 rfl rfl ck0
  have d1 : DefOk G K ⟨1, 2, b1⟩ f1 := defOk_of (N := n1) a1 (fun _ _ _ _ _ _ us hl => match us, hl with | [_], _ => rfl) sc1 rfl rfl ck1
  have d2 : DefOk G K ⟨1, 1, b2⟩ f2 := defOk_of (N := n2) a2 (fun _ _ _ _ _ _ us hl => match us, hl with | [_], _ => rfl) sc2 rfl rfl ck2
  have d3 : DefOk G K ⟨1, 4, b3⟩ f3 := defOk_of (N := n3) a3 (fun _ _ _ _ _ _ us hl => match us, hl with | [_], _ => rfl) sc3 rfl rfl ck3
  have d4 : DefOk G K ⟨1, 2, b4⟩ f4 := defOk_of (N := n4) a4 (fun _ _ _ _ _ _ us hl => match us, hl with | [_], _ => rfl) sc4 rfl rfl ck4
  have d5 : DefOk G K ⟨2, 3, b5⟩ f5 := defOk_of (N := n5) a5 (fun _ _ _ _ _ _ us hl => match us, hl with | [_, _], _ => rfl) sc5 rfl rfl ck5
  have d6 : DefOk G K ⟨3, 8, b6⟩ f6 := defOk_of (N := n6) a6 (fun _ _ _ _ _ _ us hl => match us, hl with | [_, _, _], _ => rfl) sc6 rfl rfl ck6
  have d7 : DefOk G K ⟨1, 1, b7⟩ f7 := defOk_of (N := n7) a7 (fun _ _ _ _ _ _ us hl => match us, hl with | [_], _ => rfl) sc7 rfl rfl ck7
  have d8 : DefOk G K ⟨2, 3, b8⟩ f8 := defOk_of (N := n8) a8 (fun _ _ _ _ _ _ us hl => match us, hl with | [_, _], _ => rfl) sc8 rfl rfl ck8
  have d9 : DefOk G K ⟨1, 7, b9⟩ f9 := defOk_of (N := n9) a9 (fun _ _ _ _ _ _ us hl => match us, hl with | [_], _ => rfl) sc9 rfl rfl ck9
  have d10 : DefOk G K ⟨2, 4, b10⟩ f10 := defOk_of (N := n10) a10 (fun _ _ _ _ _ _ us hl => match us, hl with | [_, _], _ => rfl) sc10 rfl rfl ck10
  have d11 : DefOk G K ⟨2, 3, b11⟩ f11 := defOk_of (N := n11) a11 (fun _ _ _ _ _ _ us hl => match us, hl with | [_, _], _ => rfl) sc11 rfl rfl ck11
  have d12 : DefOk G K ⟨1, 3, b12⟩ f12 := defOk_of (N := n12) a12 (fun _ _ _ _ _ _ us hl => match us, hl with | [_], _ => rfl) sc12 rfl rfl ck12
  have d13 : DefOk G K ⟨1, 6, b13⟩ f13 := defOk_of (N := n13) a13 (fun _ _ _ _ _ _ us hl => match us, hl with | [_], _ => rfl) sc13 rfl rfl ck13
  let B : Bs := ⟨K, fun _ => 0, fun c => if c = 1 then x0 else 0⟩
  have L : Lay G T F B mg := by
    refine ⟨fun x f e => ?_, fun x u e _ => ?_, fun x e => ?_, fun x c e => (nomatch e), fun c m f e => (nomatch e), fun c f e => ff e, fun x c e => ?_⟩
    · have hm := look_mem (l := fnT) e
      simp only [List.mem_cons, List.not_mem_nil, or_false, Prod.mk.injEq] at hm
      rcases hm with ⟨rfl, rfl⟩ | ⟨rfl, rfl⟩ | ⟨rfl, rfl⟩ | ⟨rfl, rfl⟩ | ⟨rfl, rfl⟩ | ⟨rfl, rfl⟩ | ⟨rfl, rfl⟩ | ⟨rfl, rfl⟩ | ⟨rfl, rfl⟩ | ⟨rfl, rfl⟩ | ⟨rfl, rfl⟩ | ⟨rfl, rfl⟩ | ⟨rfl, rfl⟩ | ⟨rfl, rfl⟩
      · exact ⟨_, _, PySem.W.mg_of X Gm m0, rfl, d0⟩
      · exact ⟨_, _, PySem.W.mg_of X Gm m1, rfl, d1⟩
      · exact ⟨_, _, PySem.W.mg_of X Gm m2, rfl, d2⟩
      · exact ⟨_, _, PySem.W.mg_of X Gm m3, rfl, d3⟩
      · exact ⟨_, _, PySem.W.mg_of X Gm m4, rfl, d4⟩
      · exact ⟨_, _, PySem.W.mg_of X Gm m5, rfl, d5⟩
      · exact ⟨_, _, PySem.W.mg_of X Gm m6, rfl, d6⟩
      · exact ⟨_, _, PySem.W.mg_of X Gm m7, rfl, d7⟩
      · exact ⟨_, _, PySem.W.mg_of X Gm m8, rfl, d8⟩
      · exact ⟨_, _, PySem.W.mg_of X Gm m9, rfl, d9⟩
      · exact ⟨_, _, PySem.W.mg_of X Gm m10, rfl, d10⟩
      · exact ⟨_, _, PySem.W.mg_of X Gm m11, rfl, d11⟩
      · exact ⟨_, _, PySem.W.mg_of X Gm m12, rfl, d12⟩
      · exact ⟨_, _, PySem.W.mg_of X Gm m13, rfl, d13⟩
    · have hm := look_mem (l := conT) e
      simp only [List.mem_cons, List.not_mem_nil, or_false, Prod.mk.injEq] at hm
      rcases hm with ⟨rfl, rfl⟩ | ⟨rfl, rfl⟩ | ⟨rfl, rfl⟩ | ⟨rfl, rfl⟩
      · obtain ⟨v, h1, h2⟩ := q0; exact ⟨v, _, PySem.W.mg_of X Gm k0, h1, h2⟩
      · obtain ⟨v, h1, h2⟩ := q1; exact ⟨v, _, PySem.W.mg_of X Gm k1, h1, h2⟩
      · obtain ⟨v, h1, h2⟩ := q2; exact ⟨v, _, PySem.W.mg_of X Gm k2, h1, h2⟩
      · obtain ⟨v, h1, h2⟩ := q3; exact ⟨v, _, PySem.W.mg_of X Gm k3, h1, h2⟩
    · have hm : x ∈ biT := of_decide_eq_true e
      simp only [List.mem_cons, List.not_mem_nil, or_false] at hm
      rcases hm with rfl | rfl | rfl | rfl | rfl | rfl | rfl | rfl
      · exact PySem.W.mg_none_of X Gm z0
      · exact PySem.W.mg_none_of X Gm z1
      · exact PySem.W.mg_none_of X Gm z2
      · exact PySem.W.mg_none_of X Gm z3
      · exact PySem.W.mg_none_of X Gm z4
      · exact PySem.W.mg_none_of X Gm z5
      · exact PySem.W.mg_none_of X Gm z6
      · exact PySem.W.mg_none_of X Gm z7
    · have hm := look_mem (l := xcT) (x := x) e
      simp only [List.mem_cons, List.not_mem_nil, or_false, Prod.mk.injEq] at hm
      rcases hm with ⟨rfl, rfl⟩
      · exact ⟨PySem.W.mg_of X Gm xm0, xk0, ⟨_, _, _, _, PySem.F.excBase_ValueError, xe0⟩, xs0, xt0⟩
  obtain ⟨fd, hb, hF⟩ := (law_end (B := B) (d := ⟨1, 6, b13⟩) (n := n) (f := 13) L rfl a13 (fun _ _ _ _ _ _ us hl => match us, hl with | [_], _ => rfl) sc13 rfl rfl ck13 : ∃ fd : FuncData, (∀ (s : Shared) (u : Value), BindsTo s fd ⟨[u], []⟩ [("_law_script", u)]) ∧ ∀ base : Heap, B.K.In base → base.Ns mainGlobals mg → FnOk l.prog w B.K mg base (L2.CX l.prog w) (2 * n) _ fd ["_law_script"] (spF (evF T F n) B 13 1))
  exact ⟨fd, [], _, fun p hp => (nomatch hp), fun p hp => (nomatch hp), fun p hp => (nomatch hp), hb, fun H a ns hl hz _ s => law_sp (B := B) (f := 13) (P := fun ns => ns.length ≤ 63 ∧ ∀ z ∈ ns, Builtin.Int.intBits z ≤ 1048576) (fun ns hp => run ns hp.1 hp.2) H a ns ⟨hl, hz⟩ s, fun base h1 h2 _ => hF base h1 h2⟩
end L_k03
open PySem PySem.W PyProof.Rows
set_option maxHeartbeats 0 in
theorem PySem.Challenge.cw_passpapers_k03_brackets_holds : PySem.Challenge.rw_passpapers_k03_brackets.Holds := by
  w_on; o_law; k_head; (case hw => w_witness2)
  k_fill
  refine LamX.walk_ofTs (l := PySem.Challenge.rw_passpapers_k03_brackets) (n := 63) (k := 2 * L_k03.depth) (x := "_law_script") (CX := fun w => L2.CX PySem.Challenge.rw_passpapers_k03_brackets.prog w) rfl (by decide) rfl ⟨rfl, by decide, by decide⟩ (fun w h Y => PySem.W.kIn_of Y) ?F (fun w H s e s' h => Mi.law_cx _ w H s e s' h)
  case F =>
    intro w mg fa h _ KX G hmg
    refine' L_k03.all_mk L_k03.depth KX G hmg ?m0 (Mi.fnAt ?l0 ?c0 ?p0) ?m1 (Mi.fnAt ?l1 ?c1 ?p1) ?m2 (Mi.fnAt ?l2 ?c2 ?p2) ?m3 (Mi.fnAt ?l3 ?c3 ?p3) ?m4 (Mi.fnAt ?l4 ?c4 ?p4) ?m5 (Mi.fnAt ?l5 ?c5 ?p5) ?m6 (Mi.fnAt ?l6 ?c6 ?p6) ?m7 (Mi.fnAt ?l7 ?c7 ?p7) ?m8 (Mi.fnAt ?l8 ?c8 ?p8) ?m9 (Mi.fnAt ?l9 ?c9 ?p9) ?m10 (Mi.fnAt ?l10 ?c10 ?p10) ?m11 (Mi.fnAt ?l11 ?c11 ?p11) ?m12 (Mi.fnAt ?l12 ?c12 ?p12) ?m13 (Mi.fnAt ?l13 ?c13 ?p13) ?k0 ?q0 ?k1 ?q1 ?k2 ?q2 ?k3 ?q3 ?z0 ?z1 ?z2 ?z3 ?z4 ?z5 ?z6 ?z7 ?xm0 ?xk0 ?xe0 ?xs0 ?xt0 L_k03.run_law
    (case m0 => k_is); (case l0 => k_is); (case c0 => k_is); (case p0 => k_is); (case m1 => k_is); (case l1 => k_is); (case c1 => k_is); (case p1 => k_is); (case m2 => k_is); (case l2 => k_is); (case c2 => k_is); (case p2 => k_is); (case m3 => k_is); (case l3 => k_is); (case c3 => k_is); (case p3 => k_is); (case m4 => k_is); (case l4 => k_is); (case c4 => k_is); (case p4 => k_is); (case m5 => k_is); (case l5 => k_is); (case c5 => k_is); (case p5 => k_is); (case m6 => k_is); (case l6 => k_is); (case c6 => k_is); (case p6 => k_is); (case m7 => k_is); (case l7 => k_is); (case c7 => k_is); (case p7 => k_is); (case m8 => k_is); (case l8 => k_is); (case c8 => k_is); (case p8 => k_is); (case m9 => k_is); (case l9 => k_is); (case c9 => k_is); (case p9 => k_is); (case m10 => k_is); (case l10 => k_is); (case c10 => k_is); (case p10 => k_is); (case m11 => k_is); (case l11 => k_is); (case c11 => k_is); (case p11 => k_is); (case m12 => k_is); (case l12 => k_is); (case c12 => k_is); (case p12 => k_is); (case m13 => k_is); (case l13 => k_is); (case c13 => k_is); (case p13 => k_is); (case k0 => k_is); (case q0 => exact ⟨.int _, ⟨_, rfl⟩, fun _ _ => .int _⟩); (case k1 => k_is); (case q1 => exact ⟨.int _, ⟨_, rfl⟩, fun _ _ => .int _⟩); (case k2 => k_is); (case q2 => exact ⟨.int _, ⟨_, rfl⟩, fun _ _ => .int _⟩); (case k3 => k_is); (case q3 => exact ⟨.str _, ⟨_, rfl⟩, fun _ _ => .str _⟩); (case z0 => k_is); (case z1 => k_is); (case z2 => k_is); (case z3 => k_is); (case z4 => k_is); (case z5 => k_is); (case z6 => k_is); (case z7 => k_is); (case xm0 => k_is); (case xk0 => k_is); (case xe0 => k_exc); (case xs0 => k_is); (case xt0 => k_is)

