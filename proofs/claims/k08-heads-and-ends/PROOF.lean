import PyProof.Rows.All
import Wide.All
import OpenK.AllK
import Wide.FinOn
import HandS.ForMost
import HandS.Exc
import HandS.ExcCtx
import HandS.HotCalls
import HandS.ExcIs
import HandS.TryOnly
import HandS.ExcOwn
import HandS.WordsExc
import HandS.IsInst
import HandS.Wide
import HandS.TupAny
import HandS.Codes
import HandS.DictComp
import HandS.More
import HandS.Deep
import HandS.RaiseMore
import KE.GoesNew
import HandS.Rev
import KE.KDictZip
import HandS.EndTab
import PySem.Challenge.RW_passpapers_k08_heads_and_ends
set_option Elab.async false
set_option linter.all false
set_option maxRecDepth 100000
set_option maxHeartbeats 4000000
/-! Mi0: a small language with a store, its run: what the program's text is led back to. -/
namespace Mi
open PySem PySem.Spec PyProof.Rows L2

/-- values: tuples stand in themselves, what can change stands in the store -/
inductive W where
  | non | bl (b : Bool) | int (i : Int) | str (x : Str) | tup (xs : List W) | ref (n : Nat)

inductive AO where
  | lst (xs : List W) | frz (ns : List Int) | dic (kvs : List (Key × W)) | ins (c : Nat) (fs : List (Str × W))

abbrev Sto := List AO
abbrev Sl := List (Option W)

structure Xn where
  c : Nat
  fs : List (Str × W)

inductive R (α : Type) where
  | ok (a : α) (τ : Sto) | exn (x : Xn) (ρ : Sl) (τ : Sto) | no

def R.bind {α β : Type} : R α → (α → Sto → R β) → R β
  | .ok a τ, f => f a τ
  | .exn x ρ τ, _ => .exn x ρ τ
  | .no, _ => .no
@[simp] theorem R.bind_ok {α β : Type} (a : α) (τ : Sto) (f : α → Sto → R β) : (R.ok a τ).bind f = f a τ := rfl
@[simp] theorem R.bind_exn {α β : Type} (x : Xn) (ρ : Sl) (τ : Sto) (f : α → Sto → R β) : (R.exn x ρ τ : R α).bind f = .exn x ρ τ := rfl
@[simp] theorem R.bind_no {α β : Type} (f : α → Sto → R β) : (R.no : R α).bind f = .no := rfl

/-- an option lifted -/
def lift {α : Type} (τ : Sto) : Option α → R α
  | some a => .ok a τ
  | none => .no
@[simp] theorem lift_some {α : Type} (τ : Sto) (a : α) : lift τ (some a) = .ok a τ := rfl
@[simp] theorem lift_none {α : Type} (τ : Sto) : (lift τ (none : Option α)) = .no := rfl

inductive G where
  | name (i : Nat) | tup (is : List Nat)

inductive BI where
  | len | int | str | abs | max2 | min2 | list | tuple | dict
inductive Ty where
  | none | bool | int | str | tuple | list | dict
  deriving DecidableEq
inductive BM where
  | append | pop | popAt | startswith | split | join | index

inductive E where
  | var (i : Nat) | con (w : W) | nil | cons (a r : E)
  | op (o : Operator) (a b : E) | neg (a : E)
  | cmp (o : CmpOp) (a b : E) | chain (o o' : CmpOp) (a b c : E)
  | conj (as : E) | disj (as : E) | not (a : E) | ite (t a b : E)
  | tup (as : E) | lst (as : E) | dic (ks vs : E)
  | ix (a b : E) | every (lo : Nat) (a : E) | slice (a lo hi : E) | dget (d k : E) | dget2 (d k x : E)
  | fld (a : E) (f : Str)
  | call (f : Nat) (as : E) | meth (m : Str) (o as : E) | make (c : Nat) (as : E)
  | bi (b : BI) (as : E) | isi (a : E) (t : Ty)
  | bm (m : BM) (o as : E)
  | lc (g : G) (it ts elt : E) (vs : List Nat)
  | dzip (as : E)
  | seq (a : E) | rng (as : E) | zip (as : E) | enum (a : E) | rev (a : E)

inductive S where
  | nil | cons (s r : S)
  | ex (e : E)
  | set (i : Nat) (e : E) | setT (is : List Nat) (e : E) | setP (i j : Nat) (as : E)
  | setF (o : E) (f : Str) (e : E) | setI (o i e : E)
  | aug (i : Nat) (o : Operator) (e : E) | augF (o : E) (f : Str) (p : Operator) (e : E)
  | ife (t : E) (a b : S) | loop (g : G) (it : E) (b : S) | whl (t : E) (b : S)
  | ret (e : E) | retN | brk | cont | pass
  | never
  | raise (c : Nat) (as : E) | try (b : S) (c i v : Nat)

inductive Fl where
  | nx (ρ : Sl) | rt (w : W) | bk (ρ : Sl) | ct (ρ : Sl)

/-! ### operations on values -/
def cut (xs : List W) (lo hi : Option Int) : List W := (xs.drop (HT.sIx xs.length 0 lo)).take (HT.sIx xs.length xs.length hi - HT.sIx xs.length 0 lo)

/-- a list that can be read -/
def seqOf (τ : Sto) (n : Nat) : Option (List W) :=
  match τ[n]? with
  | some (.lst xs) => some xs
  | some (.frz ns) => some (ns.map .int)
  | _ => none

def mapO {α β : Type} (f : α → Option β) : List α → Option (List β)
  | [] => some []
  | x :: r => match f x, mapO f r with
    | some a, some b => some (a :: b)
    | _, _ => none
/-- a value as data, its lists as they stand; depth d -/
def toD (τ : Sto) : Nat → W → Option PyData
  | 0, w => match w with
    | .non => some .none
    | .bl b => some (.bool b)
    | .int i => some (.int i)
    | .str x => some (.str x)
    | _ => none
  | d + 1, w => match w with
    | .non => some .none
    | .bl b => some (.bool b)
    | .int i => some (.int i)
    | .str x => some (.str x)
    | .tup xs => (mapO (toD τ d) xs).map .tuple
    | .ref n => match seqOf τ n with
      | some xs => (mapO (toD τ d) xs).map .list
      | none => none

def binI (o : Operator) (i j : Int) : Option Int :=
  match o with
  | .Add => some (i + j)
  | .Sub => some (i - j)
  | .Mult => if (-(2 ^ 64) < i ∧ i < 2 ^ 64) ∨ (-(2 ^ 64) < j ∧ j < 2 ^ 64) then some (i * j) else none
  | .FloorDiv => if 0 < j ∧ j < 1073741824 then some (i / j) else if j ≠ 0 ∧ j.natAbs < 1073741824 then some (i.fdiv j) else none
  | .Mod => if 0 < j then some (i % j) else if j ≠ 0 then some (i.fmod j) else none
  | .Pow => if 0 ≤ j ∧ j ≤ 1000000 ∧ i.natAbs < 2 ^ 64 then some (i ^ j.toNat) else none
  | _ => none

def binop (o : Operator) (a b : W) (τ : Sto) : R W :=
  match a, b with
  | .int i, .int j => lift τ ((binI o i j).map .int)
  | .str x, .str y => match o with
    | .Add => if x.length + y.length ≤ sizeLine then .ok (.str (x ++ y)) τ else .no
    | _ => .no
  | .str x, .int k => match o with
    | .Mult => if 0 ≤ k ∧ k ≤ 65536 ∧ x.length ≤ 64 then .ok (.str (Txt.mul x k)) τ else .no
    | _ => .no
  | .tup xs, .tup ys => match o with
    | .Add => if xs.length + ys.length ≤ sizeLine then .ok (.tup (xs ++ ys)) τ else .no
    | _ => .no
  | .ref n, .ref m => match o, τ[n]?, τ[m]? with
    | .Add, some (.lst xs), some (.lst ys) => if xs.length + ys.length ≤ sizeLine then .ok (.ref τ.length) (τ ++ [.lst (xs ++ ys)]) else .no
    | _, _, _ => .no
  | .ref n, .int k => match o, τ[n]? with
    | .Mult, some (.lst xs) => if -(2 ^ 63) ≤ k ∧ k < 2 ^ 63 ∧ xs.length * k.toNat ≤ sizeLine then .ok (.ref τ.length) (τ ++ [.lst (List.replicate k.toNat xs).flatten]) else .no
    | _, _ => .no
  | _, _ => .no

/-- flat values, == of such -/
def flat : W → Bool
  | .non => true | .bl _ => true | .int _ => true | .str _ => true | _ => false
def eqF : W → W → Bool
  | .non, .non => true
  | .bl a, .bl b => a == b
  | .bl a, .int b => (if a then 1 else 0) == b
  | .int a, .bl b => a == (if b then 1 else 0)
  | .int a, .int b => a == b
  | .str a, .str b => a == b
  | _, _ => false
def inF (x : W) (xs : List W) : Bool := xs.any fun y => eqF y x

def keyOf : W → Option Key
  | .int i => some (.inl i)
  | .str x => some (.inr x)
  | _ => none
def kvGet (kvs : List (Key × W)) (k : Key) : Option W := (kvs.find? fun kv => decide (kv.1 = k)).map (·.2)
def kvPut (kvs : List (Key × W)) (k : Key) (v : W) : List (Key × W) :=
  if (kvs.any fun kv => decide (kv.1 = k)) = true then kvs.map (fun kv => if kv.1 = k then (kv.1, v) else kv) else kvs ++ [(k, v)]

def eqW (τ : Sto) (a b : W) : Option Bool :=
  match toD τ 64 a, toD τ 64 b with
  | some d, some e => if SeqAt.shaped d = true ∧ SeqAt.shaped e = true then some (PyData.eqv d e) else none
  | _, _ => none

def sameF : W → W → Bool
  | .non, .non => true
  | .bl a, .bl b => a == b
  | .int a, .int b => a == b
  | .str a, .str b => a == b
  | _, _ => false
/-- == of two dicts, told where they are alike -/
def dicEq (ks ls : List (Key × W)) : Option Bool := if ks.length = ls.length ∧ ks.all (fun p => flat p.2 && (match kvGet ls p.1 with
  | some w => sameF p.2 w
  | none => false)) = true then some true else none
def dicAt (τ : Sto) : W → Option (List (Key × W))
  | .ref n => match τ[n]? with
    | some (.dic kvs) => some kvs
    | _ => none
  | _ => none
def eqA (τ : Sto) (a b : W) : Option Bool := match dicAt τ a, dicAt τ b with
  | some ks, some ls => dicEq ks ls
  | _, _ => eqW τ a b

def isIn (x y : Str) : Bool := !(Builtin.Str.occurrences y x 0 y.length 1).isEmpty
/-- in, by data -/
def inD (τ : Sto) (a : W) (ys : List W) : Option Bool := match toD τ 62 a, mapO (toD τ 62) ys with
  | some d, some ds => if SeqAt.shaped d = true ∧ SeqAt.shaped (.list ds) = true then some (ds.any fun z => PyData.eqv z d) else none
  | _, _ => none
def inW (τ : Sto) (a b : W) : Option Bool :=
  match b with
  | .str y => match a with
    | .str x => some (isIn x y)
    | _ => none
  | .tup ys => if flat a = true ∧ ys.all flat = true then some (inF a ys) else inD τ a ys
  | .ref n => match τ[n]? with
    | some (.lst ys) => if flat a = true ∧ ys.all flat = true then some (inF a ys) else inD τ a ys
    | some (.frz ns) => if flat a = true then some (inF a (ns.map .int)) else none
    | some (.dic kvs) => (keyOf a).map fun k => (kvGet kvs k).isSome
    | _ => none
  | _ => none

def cmpop (o : CmpOp) (a b : W) (τ : Sto) : Option Bool :=
  match o with
  | .Lt => match a, b with
    | .int i, .int j => some (decide (i < j))
    | _, _ => none
  | .LtE => match a, b with
    | .int i, .int j => some (decide (i ≤ j))
    | _, _ => none
  | .Gt => match a, b with
    | .int i, .int j => some (decide (j < i))
    | _, _ => none
  | .GtE => match a, b with
    | .int i, .int j => some (decide (j ≤ i))
    | _, _ => none
  | .Eq => eqA τ a b
  | .NotEq => (eqA τ a b).map (!·)
  | .In => inW τ a b
  | .NotIn => (inW τ a b).map (!·)
  | .Is => match b with
    | .non => some (match a with | .non => true | _ => false)
    | _ => none
  | .IsNot => match b with
    | .non => some (match a with | .non => false | _ => true)
    | _ => none

def truth (τ : Sto) : W → Option Bool
  | .non => some false
  | .bl b => some b
  | .int i => some (i != 0)
  | .str x => if x.length ≤ sizeLine then some ((x.length : Int) != 0) else none
  | .tup xs => some (!xs.isEmpty)
  | .ref n => match τ[n]? with
    | some (.lst xs) => some (!xs.isEmpty)
    | some (.frz xs) => some (!xs.isEmpty)
    | some (.dic kvs) => some (!kvs.isEmpty)
    | _ => none

def itemAt (τ : Sto) (a b : W) : Option W :=
  match a, b with
  | .tup xs, .int i => atI xs i
  | .str z, .int i => if z.length ≤ sizeLine then (atI z.cps.toList i).map fun c => .str ⟨#[c]⟩ else none
  | .ref n, b => match τ[n]? with
    | some (.lst xs) => match b with
      | .int i => atI xs i
      | _ => none
    | some (.frz ns) => match b with
      | .int i => atI (ns.map W.int) i
      | _ => none
    | some (.dic kvs) => (keyOf b).bind (kvGet kvs)
    | _ => none
  | _, _ => none

def optI : W → Option (Option Int)
  | .non => some none
  | .int i => some (some i)
  | _ => none

def sliceW (a : W) (lo hi : Option Int) (τ : Sto) : R W :=
  match a with
  | .tup xs => .ok (.tup (cut xs lo hi)) τ
  | .str z => if z.length ≤ sizeLine then .ok (.str (cutS z lo hi)) τ else .no
  | .ref n => match seqOf τ n with
    | some xs => .ok (.ref τ.length) (τ ++ [.lst (cut xs lo hi)])
    | none => .no
  | _ => .no

/-- a dict read, x where the key isn't there -/
def isDic (τ : Sto) : W → Bool
  | .ref n => match τ[n]? with
    | some (.dic _) => true
    | _ => false
  | _ => false
def dgetW (τ : Sto) (w y z : W) : Option W := match w with
  | .ref n => match τ[n]?, keyOf y with
    | some (.dic kvs), some k => some ((kvGet kvs k).getD z)
    | _, _ => none
  | _ => none
def everyO {α : Type} : List α → List α
  | [] => []
  | [x] => [x]
  | x :: _ :: r => x :: everyO r
/-- t[lo::2] -/
def everyW (lo : Nat) (w : W) (τ : Sto) : R W := match w with
  | .tup xs => .ok (.tup (everyO (xs.drop lo))) τ
  | _ => .no
/-- a new list -/
def newL (τ : Sto) (xs : List W) : R W := .ok (.ref τ.length) (τ ++ [.lst xs])

def tyOf (τ : Sto) : W → Option Ty
  | .non => some .none
  | .bl _ => some .bool
  | .int _ => some .int
  | .str _ => some .str
  | .tup _ => some .tuple
  | .ref n => match τ[n]? with
    | some (.lst _) => some .list
    | some (.frz _) => some .list
    | some (.dic _) => some .dict
    | _ => none
def inst (a t : Ty) : Bool := decide (a = t) || (decide (a = .bool) && decide (t = .int))

def bLen (ws : List W) (τ : Sto) : R W := match ws with
  | [.str x] => if x.length ≤ sizeLine then .ok (.int x.length) τ else .no
  | [.tup xs] => .ok (.int xs.length) τ
  | [.ref n] => match τ[n]? with
    | some (.lst xs) => .ok (.int xs.length) τ
    | some (.frz xs) => .ok (.int xs.length) τ
    | some (.dic kvs) => .ok (.int kvs.length) τ
    | _ => .no
  | _ => .no
def bInt (ws : List W) (τ : Sto) : R W := match ws with
  | [.int i] => .ok (.int i) τ
  | [.bl k] => .ok (.int (if k then 1 else 0)) τ
  | [.str x] => match PySem.intText? x with
    | some n => if x.length ≤ 640 then .ok (.int n) τ else .no
    | none => .no
  | _ => .no
def bStr (ws : List W) (τ : Sto) : R W := match ws with
  | [.int i] => if i.natAbs.log2 < 1920 then .ok (.str (toString i)) τ else .no
  | [.str x] => .ok (.str x) τ
  | _ => .no
def bAbs (ws : List W) (τ : Sto) : R W := match ws with
  | [.int i] => .ok (.int (if i < 0 then -i else i)) τ
  | _ => .no
def intOf : W → Option Int
  | .int i => some i
  | _ => none
/-- the ints of a list -/
def intsAt (τ : Sto) (n : Nat) : Option (List Int) := (seqOf τ n).bind (mapO intOf)
def bigI (a b : Int) : Int := if b > a then b else a
def smlI (a b : Int) : Int := if b < a then b else a
def bMax2 (ws : List W) (τ : Sto) : R W := match ws with
  | [.int i, .int j] => .ok (.int (if j > i then j else i)) τ
  | [.ref n] => match intsAt τ n with
    | some (i :: r) => .ok (.int (r.foldl bigI i)) τ
    | _ => .no
  | _ => .no
def bMin2 (ws : List W) (τ : Sto) : R W := match ws with
  | [.int i, .int j] => .ok (.int (if j < i then j else i)) τ
  | [.ref n] => match intsAt τ n with
    | some (i :: r) => .ok (.int (r.foldl smlI i)) τ
    | _ => .no
  | _ => .no
def bDict (ws : List W) (τ : Sto) : R W := match ws with
  | [.ref n] => match τ[n]? with
    | some (.dic kvs) => .ok (.ref τ.length) (τ ++ [.dic kvs])
    | _ => .no
  | _ => .no
def bList (ws : List W) (τ : Sto) : R W := match ws with
  | [.tup xs] => newL τ xs
  | [.ref n] => match seqOf τ n with
    | some xs => newL τ xs
    | none => .no
  | _ => .no
def bTuple (ws : List W) (τ : Sto) : R W := match ws with
  | [.tup xs] => .ok (.tup xs) τ
  | [.ref n] => match seqOf τ n with
    | some xs => .ok (.tup xs) τ
    | none => .no
  | _ => .no
/-- a built-in's call -/
def builtin (b : BI) (ws : List W) (τ : Sto) : R W :=
  match b with
  | .len => bLen ws τ
  | .int => bInt ws τ
  | .str => bStr ws τ
  | .abs => bAbs ws τ
  | .max2 => bMax2 ws τ
  | .min2 => bMin2 ws τ
  | .list => bList ws τ
  | .tuple => bTuple ws τ
  | .dict => bDict ws τ

def mAppend (o : W) (ws : List W) (τ : Sto) : R W := match o with
  | .ref n => match ws with
    | [w] => match τ[n]? with
      | some (.lst xs) => if xs.length < sizeLine then .ok .non (τ.set n (.lst (xs ++ [w]))) else .no
      | _ => .no
    | _ => .no
  | _ => .no
def mPop (o : W) (ws : List W) (τ : Sto) : R W := match o with
  | .ref n => match ws with
    | [] => match τ[n]? with
      | some (.lst xs) => match xs[xs.length - 1]? with
        | some y => .ok y (τ.set n (.lst xs.dropLast))
        | none => .no
      | _ => .no
    | _ => .no
  | _ => .no
def strOf : W → Option Str
  | .str x => some x
  | _ => none
def strsOf : List W → Option (List Str) := mapO strOf
def mJoin (o : W) (ws : List W) (τ : Sto) : R W := match o with
  | .str a => match ws with
    | [.ref n] => match (seqOf τ n).bind strsOf with
      | some ys => if (ys.map (·.length)).sum + ys.length * a.length ≤ 16777216 then .ok (.str (Txt.join a ys)) τ else .no
      | none => .no
    | _ => .no
  | _ => .no
def mStarts (o : W) (ws : List W) (τ : Sto) : R W := match o with
  | .str a => match ws with
    | [.str b] => .ok (.bl (Txt.startswith a b)) τ
    | _ => .no
  | _ => .no
def mSplit (o : W) (ws : List W) (τ : Sto) : R W := match o with
  | .str a => match ws with
    | [.str b] => if (b.length == 0) = false ∧ a.length + 2 ≤ sizeLine then newL τ ((Txt.split a b).map .str) else .no
    | _ => .no
  | _ => .no
/-- the first place of an item -/
def idxF (x : W) : List W → Option Nat
  | [] => none
  | y :: r => if eqF y x = true then some 0 else (idxF x r).map (· + 1)
def mIndex (o : W) (ws : List W) (τ : Sto) : R W := match o with
  | .ref n => match ws with
    | [w] => match seqOf τ n with
      | some xs => if flat w = true ∧ xs.all flat = true then (match idxF w xs with
        | some j => .ok (.int (j : Int)) τ
        | none => .no) else .no
      | none => .no
    | _ => .no
  | _ => .no
def isLst (τ : Sto) (o : W) : Bool := match o with
  | .ref n => match τ[n]? with
    | some (.lst _) => true
    | _ => false
  | _ => false
def isStr (o : W) : Bool := match o with
  | .str _ => true
  | _ => false
/-- a method of such a thing there is -/
def bmPre (m : BM) (o : W) (τ : Sto) : Bool :=
  match m with
  | .append => isLst τ o
  | .pop => isLst τ o
  | .popAt => isLst τ o
  | .index => isLst τ o
  | _ => isStr o
/-- a method of a built-in type -/
def bmeth (m : BM) (o : W) (ws : List W) (τ : Sto) : R W :=
  match m with
  | .append => mAppend o ws τ
  | .pop => mPop o ws τ
  | .popAt => .no
  | .startswith => mStarts o ws τ
  | .split => mSplit o ws τ
  | .join => mJoin o ws τ
  | .index => mIndex o ws τ

def putW (f : Str) (v : W) : List (Str × W) → List (Str × W)
  | [] => [(f, v)]
  | (g, x) :: r => if g = f then (g, v) :: r else (g, x) :: putW f v r

/-! ### slots -/
def putG (g : G) (w : W) (ρ : Sl) : Option Sl :=
  match g with
  | .name i => some (ρ.set i (some w))
  | .tup is => match w with
    | .tup xs => if xs.length = is.length then some ((is.zip xs).foldl (fun r p => r.set p.1 (some p.2)) ρ) else none
    | _ => none
/-- names for the items of a tuple or a list -/
def putT (τ : Sto) (is : List Nat) (w : W) (ρ : Sl) : Option Sl := match w with
  | .ref n => match seqOf τ n with
    | some xs => putG (.tup is) (.tup xs) ρ
    | none => none
  | _ => putG (.tup is) w ρ
def wipeS (ρ : Sl) : List Nat → Sl
  | [] => ρ
  | v :: vs => (wipeS ρ vs).set v none

/-! ### what is walked -/
/-- the items, and the lists that have to stay as they are -/
structure It where
  gs : List (Nat × List W)
  xs : List W
def It.ok (gs : List (Nat × List W)) (τ : Sto) : Prop := ∀ p ∈ gs, seqOf τ p.1 = some p.2

open Classical in
/-- the turns of a for -/
noncomputable def forL (g : G) (gs : List (Nat × List W)) (body : Sl → Sto → R Fl) : List W → Sl → Sto → R Fl
  | [], ρ, τ => if It.ok gs τ then .ok (.nx ρ) τ else .no
  | x :: r, ρ, τ => if It.ok gs τ then
      match putG g x ρ with
      | none => .no
      | some ρ1 => match body ρ1 τ with
        | .ok (.nx ρ2) τ2 => forL g gs body r ρ2 τ2
        | .ok (.ct ρ2) τ2 => forL g gs body r ρ2 τ2
        | .ok (.bk ρ2) τ2 => .ok (.nx ρ2) τ2
        | .ok (.rt w) τ2 => .ok (.rt w) τ2
        | .exn x ρ τ => .exn x ρ τ
        | .no => .no
    else .no

/-- so many turns at most -/
def bigL : Nat := 2 ^ 40
def whlL (test : Sl → Sto → R Bool) (body : Sl → Sto → R Fl) : Nat → Sl → Sto → R Fl
  | 0, _, _ => .no
  | n + 1, ρ, τ => (test ρ τ).bind fun b τ1 => if b = true then
      match body ρ τ1 with
      | .ok (.nx ρ2) τ2 => whlL test body n ρ2 τ2
      | .ok (.ct ρ2) τ2 => whlL test body n ρ2 τ2
      | .ok (.bk ρ2) τ2 => .ok (.nx ρ2) τ2
      | .ok (.rt w) τ2 => .ok (.rt w) τ2
      | .exn x ρ τ => .exn x ρ τ
      | .no => .no
    else .ok (.nx ρ) τ1

open Classical in
/-- the turns of a comprehension: D the new list's place -/
noncomputable def lcL (g : G) (gs : List (Nat × List W)) (ρ : Sl) (test : Sl → Sto → R Bool) (elt : Sl → Sto → R W) (D : Nat) : List W → Sto → R W
  | [], τ => if It.ok gs τ then .ok (.ref D) τ else .no
  | x :: r, τ => if It.ok gs τ then
      match putG g x ρ with
      | none => .no
      | some ρ1 => match test ρ1 τ with
        | .ok true τ1 => match elt ρ1 τ1 with
          | .ok y τ2 => match τ2[D]? with
            | some (.lst acc) => if acc.length < sizeLine then lcL g gs ρ test elt D r (τ2.set D (.lst (acc ++ [y]))) else .no
            | _ => .no
          | _ => .no
        | .ok false τ1 => lcL g gs ρ test elt D r τ1
        | _ => .no
    else .no

/-- what a call of a def does: the def's number, the values -/
abbrev Calls := Nat → List W → Sto → R W

/-- the class of an instance and its methods: the def that a name means -/
structure Tb where
  meth : Nat → Str → Option Nat
  attr : Nat → Str → Bool
  sub : Nat → Nat → Bool
  rs : Nat → Bool
  kinds : Nat → List Str

def fieldOf (T : Tb) (τ : Sto) (w : W) (f : Str) : Option W :=
  match w with
  | .ref n => match τ[n]? with
    | some (.ins c fs) => if T.attr c f = true then fs.lookup f else none
    | _ => none
  | _ => none
def setField (T : Tb) (τ : Sto) (x : W) (f : Str) (w : W) : Option Sto :=
  match x with
  | .ref n => match τ[n]? with
    | some (.ins c fs) => if T.attr c f = true ∧ fs.length < 1000 then some (τ.set n (.ins c (putW f w fs))) else none
    | _ => none
  | _ => none
def clsOf (τ : Sto) (x : W) : Option Nat :=
  match x with
  | .ref n => match τ[n]? with
    | some (.ins c _) => some c
    | _ => none
  | _ => none
/-- a field stored anew, the class being what it was -/
def setFieldC (T : Tb) (c : Option Nat) (τ : Sto) (x : W) (f : Str) (w : W) : Option Sto := if clsOf τ x = c then setField T τ x f w else none
/-- a store to a place of a list or a dict -/
def setItem (τ : Sto) (x y w : W) : Option Sto :=
  match x with
  | .ref n => match τ[n]? with
    | some (.lst xs) => match y with
      | .int k => (ixN xs.length k).map fun j => τ.set n (.lst (xs.set j w))
      | _ => none
    | some (.dic kvs) => match keyOf y with
      | some k => if kvs.length < sizeLine then some (τ.set n (.dic (kvPut kvs k w))) else none
      | none => none
    | _ => none
  | _ => none
def augW (o : Operator) (x y : W) : Option W :=
  match x, y with
  | .int a, .int b => match o with
    | .Add => some (.int (a + b))
    | .Sub => some (.int (a - b))
    | _ => none
  | _, _ => none

/-- what an expression does, by the place where it stands: a value, a list of values, and | or as values, as tests, a test, a slice's part, what is walked -/
structure Sm where
  e : Sl → Sto → R W
  a : Sl → Sto → R (List W) := fun _ _ => .no
  v : Bool → Sl → Sto → R W := fun _ _ _ => .no
  b : Bool → Sl → Sto → R Bool := fun _ _ _ => .no
  t : Sl → Sto → R Bool := fun ρ τ => (e ρ τ).bind fun x τ1 => lift τ1 (truth τ1 x)
  p : Sl → Sto → R (Option Int) := fun ρ τ => (e ρ τ).bind fun x τ1 => match x with
    | .int i => .ok (some i) τ1
    | _ => .no
  i : Sl → Sto → R It := fun _ _ => .no

def tail {α : Type} (ρ : Sl) : R α → R α
  | .exn x _ τ => .exn x ρ τ
  | r => r
@[simp] theorem tail_ok {α : Type} (ρ : Sl) (a : α) (τ : Sto) : tail ρ (.ok a τ) = .ok a τ := rfl
@[simp] theorem tail_exn {α : Type} (ρ ρ' : Sl) (x : Xn) (τ : Sto) : tail ρ (.exn x ρ' τ : R α) = .exn x ρ τ := rfl
@[simp] theorem tail_no {α : Type} (ρ : Sl) : tail ρ (.no : R α) = .no := rfl

def seqI (x : W) (τ : Sto) : R It := match x with
  | .tup xs => .ok ⟨[], xs⟩ τ
  | .str z => .ok ⟨[], z.cps.toList.map fun c => .str ⟨#[c]⟩⟩ τ
  | .ref n => match seqOf τ n with
    | some xs => .ok ⟨[(n, xs)], xs⟩ τ
    | none => .no
  | _ => .no
def rngI (ws : List W) (τ : Sto) : R It := match ws with
  | [.int j] => if -(2 ^ 62) ≤ j ∧ j < 2 ^ 62 then .ok ⟨[], (List.range j.toNat).map fun (i : Nat) => .int (0 + (i : Int))⟩ τ else .no
  | [.int i, .int j] => if -(2 ^ 62) ≤ i ∧ i < 2 ^ 62 ∧ -(2 ^ 62) ≤ j ∧ j < 2 ^ 62 then .ok ⟨[], (List.range (j - i).toNat).map fun (k : Nat) => .int (i + (k : Int))⟩ τ else .no
  | [.int i, .int j, .int c] => if -(2 ^ 62) ≤ i ∧ i < 2 ^ 62 ∧ -(2 ^ 62) ≤ j ∧ j < 2 ^ 62 ∧ c = -1 then .ok ⟨[], (List.range (i - j).toNat).map fun (k : Nat) => .int (i - (k : Int))⟩ τ else .no
  | _ => .no
/-- the items of a list or a tuple, and what has to stay for that -/
def srcW (τ : Sto) : W → Option (List (Nat × List W) × List W)
  | .tup xs => some ([], xs)
  | .ref n => (seqOf τ n).map fun xs => ([(n, xs)], xs)
  | _ => none
def zipI (ws : List W) (τ : Sto) : R It := match ws with
  | [u, v] => match srcW τ u, srcW τ v with
    | some p, some q => .ok ⟨p.1 ++ q.1, (p.2.zip q.2).map fun p => .tup [p.1, p.2]⟩ τ
    | _, _ => .no
  | [u, v, t] => match srcW τ u, srcW τ v, srcW τ t with
    | some p, some q, some r => .ok ⟨p.1 ++ (q.1 ++ r.1), (p.2.zip (q.2.zip r.2)).map fun p => .tup [p.1, p.2.1, p.2.2]⟩ τ
    | _, _, _ => .no
  | _ => .no
def enumI (x : W) (τ : Sto) : R It := match srcW τ x with
  | some p => .ok ⟨p.1, (p.2.zipIdx).map fun p => .tup [.int (p.2 : Int), p.1]⟩ τ
  | none => .no
def revI (x : W) (τ : Sto) : R It := match srcW τ x with
  | some p => .ok ⟨p.1, p.2.reverse⟩ τ
  | none => .no

/-- dict(zip(a, b)) -/
def mergeW (kvs more : List (Key × W)) : List (Key × W) := more.foldl (fun acc kv => kvPut acc kv.1 kv.2) kvs
def dzipR (ws : List W) (τ : Sto) : R W := match ws with
  | [u, v] => match srcW τ u, srcW τ v with
    | some p, some q => match mapO keyOf p.2 with
      | some ks => .ok (.ref τ.length) (τ ++ [.dic (mergeW [] (ks.zip q.2))])
      | none => .no
    | _, _ => .no
  | _ => .no
/-- a display's keys: literals -/
def keyLits : E → Option (List Key)
  | .nil => some []
  | .cons a r => match a with
    | .con w => match keyOf w, keyLits r with
      | some k, some ks => some (k :: ks)
      | _, _ => none
    | _ => none
  | _ => none
/-- a display's end: the new dict, empty till now, is filled -/
def dispR (D : Nat) (keys : List Key) (ws : List W) (τ : Sto) : R W := match τ[D]? with
  | some (.dic []) => if ws.length = keys.length then .ok (.ref D) (τ.set D (.dic (mergeW [] (keys.zip ws)))) else .no
  | _ => .no

noncomputable def ev (T : Tb) (C : Calls) : E → Sm
  | .var i => { e := fun ρ τ => match ρ[i]? with
      | some (some w) => .ok w τ
      | _ => .no }
  | .con w => { e := fun _ τ => .ok w τ }
  | .nil => { e := fun _ _ => .no, a := fun _ τ => .ok [] τ, t := fun _ τ => .ok true τ, p := fun _ τ => .ok none τ }
  | .cons a r => { e := fun _ _ => .no, t := fun _ _ => .no, p := fun _ _ => .no,
                   a := fun ρ τ => ((ev T C a).e ρ τ).bind fun x τ1 => ((ev T C r).a ρ τ1).bind fun xs τ2 => .ok (x :: xs) τ2,
                   v := fun u ρ τ => match r with
                     | .nil => (ev T C a).e ρ τ
                     | _ => ((ev T C a).e ρ τ).bind fun x τ1 => match x with
                       | .bl b => if b = u then (ev T C r).v u ρ τ1 else .ok (.bl b) τ1
                       | _ => .no,
                   b := fun u ρ τ => match r with
                     | .nil => (ev T C a).t ρ τ
                     | _ => ((ev T C a).t ρ τ).bind fun b τ1 => if b = u then (ev T C r).b u ρ τ1 else .ok b τ1 }
  | .op o a b => { e := fun ρ τ => ((ev T C a).e ρ τ).bind fun x τ1 => ((ev T C b).e ρ τ1).bind fun y τ2 => binop o x y τ2 }
  | .neg a => { e := fun ρ τ => ((ev T C a).e ρ τ).bind fun x τ1 => match x with
      | .int i => .ok (.int (-i)) τ1
      | _ => .no }
  | .cmp o a b => { e := fun ρ τ => ((ev T C a).e ρ τ).bind fun x τ1 => ((ev T C b).e ρ τ1).bind fun y τ2 => lift τ2 ((cmpop o x y τ2).map .bl) }
  | .chain o o' a b c => { e := fun ρ τ => ((ev T C a).e ρ τ).bind fun x τ1 => ((ev T C b).e ρ τ1).bind fun y τ2 => match cmpop o x y τ2 with
      | some true => ((ev T C c).e ρ τ2).bind fun z τ3 => lift τ3 ((cmpop o' y z τ3).map .bl)
      | some false => .ok (.bl false) τ2
      | none => .no }
  | .conj as => { e := fun ρ τ => (ev T C as).v true ρ τ, t := fun ρ τ => (ev T C as).b true ρ τ }
  | .disj as => { e := fun ρ τ => (ev T C as).v false ρ τ, t := fun ρ τ => (ev T C as).b false ρ τ }
  | .not a => { e := fun ρ τ => ((ev T C a).e ρ τ).bind fun x τ1 => match x with
                  | .bl b => .ok (.bl (!b)) τ1
                  | _ => .no,
                t := fun ρ τ => ((ev T C a).t ρ τ).bind fun b τ1 => .ok (!b) τ1 }
  | .ite t a b => { e := fun ρ τ => ((ev T C t).t ρ τ).bind fun k τ1 => if k = true then (ev T C a).e ρ τ1 else (ev T C b).e ρ τ1 }
  | .tup as => { e := fun ρ τ => ((ev T C as).a ρ τ).bind fun ws τ1 => if ws.length ≤ sizeLine then .ok (.tup ws) τ1 else .no }
  | .lst as => { e := fun ρ τ => ((ev T C as).a ρ τ).bind fun ws τ1 => if ws.length ≤ sizeLine then newL τ1 ws else .no }
  | .dic ks vs => { e := fun ρ τ => match keyLits ks with
      | some [] => .ok (.ref τ.length) (τ ++ [.dic []])
      | some (k :: r) => if r.length < 15 then ((ev T C vs).a ρ (τ ++ [.dic []])).bind (dispR τ.length (k :: r)) else .no
      | none => .no }
  | .ix a b => { e := fun ρ τ => ((ev T C a).e ρ τ).bind fun x τ1 => ((ev T C b).e ρ τ1).bind fun y τ2 => lift τ2 (itemAt τ2 x y) }
  | .every lo a => { e := fun ρ τ => ((ev T C a).e ρ τ).bind (everyW lo) }
  | .slice a lo hi => { e := fun ρ τ => ((ev T C a).e ρ τ).bind fun x τ1 => ((ev T C lo).p ρ τ1).bind fun l τ2 => ((ev T C hi).p ρ τ2).bind fun h τ3 => sliceW x l h τ3 }
  | .dget d k => { e := fun ρ τ => ((ev T C d).e ρ τ).bind fun w τ1 => if isDic τ1 w = true then ((ev T C k).e ρ τ1).bind fun y τ2 => lift τ2 (dgetW τ2 w y .non) else .no }
  | .dget2 d k x => { e := fun ρ τ => ((ev T C d).e ρ τ).bind fun w τ1 => if isDic τ1 w = true then ((ev T C k).e ρ τ1).bind fun y τ2 => ((ev T C x).e ρ τ2).bind fun z τ3 => lift τ3 (dgetW τ3 w y z) else .no }
  | .fld a f => { e := fun ρ τ => ((ev T C a).e ρ τ).bind fun x τ1 => lift τ1 (fieldOf T τ1 x f) }
  | .call f as => { e := fun ρ τ => ((ev T C as).a ρ τ).bind fun ws τ1 => tail ρ (C f ws τ1) }
  | .meth m o as => { e := fun ρ τ => ((ev T C o).e ρ τ).bind fun x τ1 => match x with
      | .ref n => match τ1[n]? with
        | some (.ins c fs) => match fs.lookup m, T.meth c m with
          | none, some f => ((ev T C as).a ρ τ1).bind fun ws τ2 => tail ρ (C f (.ref n :: ws) τ2)
          | _, _ => .no
        | _ => .no
      | _ => .no }
  | .make c as => { e := fun ρ τ => ((ev T C as).a ρ τ).bind fun ws τ1 => match T.meth c "__init__" with
      | some f => (tail ρ (C f (.ref τ1.length :: ws) (τ1 ++ [.ins c []]))).bind fun w τ2 => match w with
        | .non => .ok (.ref τ1.length) τ2
        | _ => .no
      | none => .no }
  | .bi b as => { e := fun ρ τ => ((ev T C as).a ρ τ).bind fun ws τ1 => builtin b ws τ1 }
  | .isi a t => { e := fun ρ τ => ((ev T C a).e ρ τ).bind fun x τ1 => lift τ1 ((tyOf τ1 x).map fun n => .bl (inst n t)) }
  | .bm m o as => { e := fun ρ τ => ((ev T C o).e ρ τ).bind fun x τ1 => if bmPre m x τ1 = true then ((ev T C as).a ρ τ1).bind fun ws τ2 => bmeth m x ws τ2 else .no }
  | .lc g it ts elt vs => { e := fun ρ τ => ((ev T C it).i ρ τ).bind fun J τ1 => lcL g J.gs (wipeS ρ vs) (ev T C ts).t (ev T C elt).e τ1.length J.xs (τ1 ++ [.lst []]) }
  | .dzip as => { e := fun ρ τ => ((ev T C as).a ρ τ).bind dzipR }
  | .seq a => { e := fun _ _ => .no, i := fun ρ τ => ((ev T C a).e ρ τ).bind seqI }
  | .rng as => { e := fun _ _ => .no, i := fun ρ τ => ((ev T C as).a ρ τ).bind rngI }
  | .zip as => { e := fun _ _ => .no, i := fun ρ τ => ((ev T C as).a ρ τ).bind zipI }
  | .enum a => { e := fun _ _ => .no, i := fun ρ τ => ((ev T C a).e ρ τ).bind enumI }
  | .rev a => { e := fun _ _ => .no, i := fun ρ τ => ((ev T C a).e ρ τ).bind revI }

/-- a statement -/
noncomputable def evS (T : Tb) (C : Calls) : S → Sl → Sto → R Fl
  | .nil, ρ, τ => .ok (.nx ρ) τ
  | .cons s r, ρ, τ => match evS T C s ρ τ with
    | .ok (.nx ρ1) τ1 => evS T C r ρ1 τ1
    | x => x
  | .ex e, ρ, τ => ((ev T C e).e ρ τ).bind fun _ τ1 => .ok (.nx ρ) τ1
  | .set i e, ρ, τ => ((ev T C e).e ρ τ).bind fun w τ1 => .ok (.nx (ρ.set i (some w))) τ1
  | .setT is e, ρ, τ => ((ev T C e).e ρ τ).bind fun w τ1 => match putT τ1 is w ρ with
    | some ρ1 => .ok (.nx ρ1) τ1
    | none => .no
  | .setP i j as, ρ, τ => ((ev T C as).a ρ τ).bind fun ws τ1 => match ws with
    | [v, w] => .ok (.nx ((ρ.set i (some v)).set j (some w))) τ1
    | _ => .no
  | .setF o f e, ρ, τ => ((ev T C e).e ρ τ).bind fun w τ1 => ((ev T C o).e ρ τ1).bind fun x τ2 => match setField T τ2 x f w with
    | some τ3 => .ok (.nx ρ) τ3
    | none => .no
  | .setI o i e, ρ, τ => ((ev T C e).e ρ τ).bind fun w τ1 => ((ev T C o).e ρ τ1).bind fun x τ2 => ((ev T C i).e ρ τ2).bind fun y τ3 => match setItem τ3 x y w with
    | some τ4 => .ok (.nx ρ) τ4
    | none => .no
  | .aug i o e, ρ, τ => match ρ[i]? with
    | some (some x) => ((ev T C e).e ρ τ).bind fun y τ1 => match augW o x y with
      | some z => .ok (.nx (ρ.set i (some z))) τ1
      | none => .no
    | _ => .no
  | .augF o f p e, ρ, τ => ((ev T C o).e ρ τ).bind fun x τ1 => match fieldOf T τ1 x f with
    | some a => ((ev T C e).e ρ τ1).bind fun y τ2 => match (augW p a y).bind (setFieldC T (clsOf τ1 x) τ2 x f) with
      | some τ3 => .ok (.nx ρ) τ3
      | none => .no
    | none => .no
  | .ife t a b, ρ, τ => ((ev T C t).t ρ τ).bind fun k τ1 => if k = true then evS T C a ρ τ1 else evS T C b ρ τ1
  | .loop g it b, ρ, τ => ((ev T C it).i ρ τ).bind fun J τ1 => forL g J.gs (fun ρ1 τ2 => evS T C b ρ1 τ2) J.xs ρ τ1
  | .whl t b, ρ, τ => whlL (fun ρ1 τ1 => (ev T C t).t ρ1 τ1) (fun ρ1 τ1 => evS T C b ρ1 τ1) bigL ρ τ
  | .ret e, ρ, τ => ((ev T C e).e ρ τ).bind fun w τ1 => .ok (.rt w) τ1
  | .retN, _, τ => .ok (.rt .non) τ
  | .brk, ρ, τ => .ok (.bk ρ) τ
  | .cont, ρ, τ => .ok (.ct ρ) τ
  | .pass, ρ, τ => .ok (.nx ρ) τ
  | .never, _, _ => .no
  | .raise c as, ρ, τ => .exn ⟨c, []⟩ ρ τ
  | .try b c i v, ρ, τ => match evS T C b ρ τ with
    | .exn x ρ1 τ1 => if T.rs x.c = true ∧ i < ρ1.length then (if T.sub x.c c = true then .ok (.nx (((ρ1.set i none).set v (some (.ref τ1.length))).set i none)) (τ1 ++ [.lst ((T.kinds x.c).map W.str)]) else .exn x ρ1 τ1) else .no
    | r => r

/-- a def -/
structure Df where
  many : Nat
  slots : Nat
  body : S

def start (d : Df) (ws : List W) : Sl := ws.map some ++ List.replicate (d.slots - ws.length) none

def finish : R Fl → R W
  | .ok (.rt w) τ => .ok w τ
  | .ok (.nx _) τ => .ok .non τ
  | .ok _ _ => .no
  | .exn x ρ τ => .exn x ρ τ
  | .no => .no

/-- the run of a call, so many calls within one another -/
noncomputable def evF (T : Tb) (F : Nat → Option Df) : Nat → Calls
  | 0, _, _, _ => .no
  | k + 1, f, ws, τ => match F f with
    | some d => if ws.length = d.many then finish (evS T (evF T F k) d.body (Mi.start d ws) τ) else .no
    | none => .no
end Mi
/-! Mi1: how the small language's state lies in the abstract heap of the hand layer. -/
namespace Mi
open PySem PySem.Spec PyProof.Rows L2

mutual
inductive RV (K : PySem.W.Frag) (μ : List Addr) (H : Hp) : W → V → Prop
  | non : RV K μ H .non .non
  | bl (b : Bool) : RV K μ H (.bl b) (.bl b)
  | int (i : Int) : RV K μ H (.int i) (.int i)
  | str (x : Str) : RV K μ H (.str x) (.str x)
  | tup {a : Addr} {vs : List V} {ws : List W} : SqT K H a vs → RVs K μ H ws vs → RV K μ H (.tup ws) (.ref a)
  | ref {n : Nat} {a : Addr} : μ[n]? = some a → RV K μ H (.ref n) (.ref a)
inductive RVs (K : PySem.W.Frag) (μ : List Addr) (H : Hp) : List W → List V → Prop
  | nil : RVs K μ H [] []
  | cons {w : W} {v : V} {ws : List W} {vs : List V} : RV K μ H w v → RVs K μ H ws vs → RVs K μ H (w :: ws) (v :: vs)
end

/-- pairs with like first parts -/
def RP {α : Type} (K : PySem.W.Frag) (μ : List Addr) (H : Hp) : List (α × W) → List (α × V) → Prop := Paired fun p q => p.1 = q.1 ∧ RV K μ H p.2 q.2

def RO (K : PySem.W.Frag) (Cl : Nat → Addr) (μ : List Addr) (H : Hp) (a : Addr) : AO → Prop
  | .lst xs => ∃ vs, H a = some (.lst vs) ∧ RVs K μ H xs vs
  | .frz ns => SqL K H a (ns.map V.int)
  | .dic kvs => ∃ ps, H a = some (.dK ps) ∧ RP K μ H kvs ps
  | .ins c fs => ∃ dx ps, H a = some (.ins (Cl c) dx ps) ∧ RP K μ H fs ps

structure Le (K : PySem.W.Frag) (μ : List Addr) (H : Hp) (μ' : List Addr) (H' : Hp) : Prop where
  pre : ∃ more, μ' = μ ++ more
  tup : ∀ a vs, SqT K H a vs → SqT K H' a vs
theorem Le.refl {K : PySem.W.Frag} {μ : List Addr} {H : Hp} : Le K μ H μ H := ⟨⟨[], by simp⟩, fun _ _ h => h⟩
theorem Le.trans {K : PySem.W.Frag} {μ μ1 μ2 : List Addr} {H H1 H2 : Hp} (a : Le K μ H μ1 H1) (b : Le K μ1 H1 μ2 H2) : Le K μ H μ2 H2 := by
  obtain ⟨m1, rfl⟩ := a.pre
  obtain ⟨m2, rfl⟩ := b.pre
  exact ⟨⟨m1 ++ m2, by simp⟩, fun x vs h => b.tup x vs (a.tup x vs h)⟩
theorem Le.get {K : PySem.W.Frag} {μ μ' : List Addr} {H H' : Hp} (l : Le K μ H μ' H') {n : Nat} {a : Addr} (h : μ[n]? = some a) : μ'[n]? = some a := by
  obtain ⟨m, rfl⟩ := l.pre
  rw [List.getElem?_append_left (List.getElem?_eq_some_iff.mp h).1]
  exact h

section
variable {K : PySem.W.Frag} {Cl : Nat → Addr} {μ μ' : List Addr} {H H' : Hp}
mutual
theorem RV.le (l : Le K μ H μ' H') : ∀ {w : W} {v : V}, RV K μ H w v → RV K μ' H' w v
  | _, _, .non => .non
  | _, _, .bl b => .bl b
  | _, _, .int i => .int i
  | _, _, .str x => .str x
  | _, _, .tup s r => .tup (l.tup _ _ s) (RVs.le l r)
  | _, _, .ref h => .ref (l.get h)
theorem RVs.le (l : Le K μ H μ' H') : ∀ {ws : List W} {vs : List V}, RVs K μ H ws vs → RVs K μ' H' ws vs
  | _, _, .nil => .nil
  | _, _, .cons a r => .cons (RV.le l a) (RVs.le l r)
end
theorem RP.le {α : Type} (l : Le K μ H μ' H') {ps : List (α × W)} {qs : List (α × V)} (h : RP K μ H ps qs) : RP K μ' H' ps qs := Paired.mapP h fun _ _ e => ⟨e.1, e.2.le l⟩
theorem RVs.length : ∀ {ws : List W} {vs : List V}, RVs K μ H ws vs → ws.length = vs.length
  | _, _, .nil => rfl
  | _, _, .cons _ r => congrArg (· + 1) (RVs.length r)
theorem RVs.get : ∀ {ws : List W} {vs : List V} {i : Nat} {w : W}, RVs K μ H ws vs → ws[i]? = some w → ∃ v, vs[i]? = some v ∧ RV K μ H w v
  | _, _, _, _, .nil, e => by simp at e
  | _, _, 0, _, .cons a _, e => by simp at e; subst e; exact ⟨_, rfl, a⟩
  | _, _, i + 1, _, .cons _ r, e => by
    obtain ⟨v, h1, h2⟩ := RVs.get (i := i) r (by simpa using e)
    exact ⟨v, by simpa using h1, h2⟩
theorem RVs.get' : ∀ {ws : List W} {vs : List V} {i : Nat} {v : V}, RVs K μ H ws vs → vs[i]? = some v → ∃ w, ws[i]? = some w ∧ RV K μ H w v
  | _, _, _, _, .nil, e => by simp at e
  | _, _, 0, _, .cons a _, e => by simp at e; subst e; exact ⟨_, rfl, a⟩
  | _, _, i + 1, _, .cons _ r, e => by
    obtain ⟨v, h1, h2⟩ := RVs.get' (i := i) r (by simpa using e)
    exact ⟨v, by simpa using h1, h2⟩
theorem RVs.append : ∀ {ws us : List W} {vs ts : List V}, RVs K μ H ws vs → RVs K μ H us ts → RVs K μ H (ws ++ us) (vs ++ ts)
  | _, _, _, _, .nil, s => s
  | _, _, _, _, .cons a r, s => .cons a (RVs.append r s)
theorem RVs.take : ∀ {ws : List W} {vs : List V} (n : Nat), RVs K μ H ws vs → RVs K μ H (ws.take n) (vs.take n)
  | _, _, 0, _ => .nil
  | _, _, _ + 1, .nil => .nil
  | _, _, n + 1, .cons a r => .cons a (RVs.take n r)
theorem RVs.drop : ∀ {ws : List W} {vs : List V} (n : Nat), RVs K μ H ws vs → RVs K μ H (ws.drop n) (vs.drop n)
  | _, _, 0, r => r
  | _, _, _ + 1, .nil => .nil
  | _, _, n + 1, .cons _ r => RVs.drop n r
theorem RVs.set {w : W} {v : V} (a : RV K μ H w v) : ∀ {ws : List W} {vs : List V} (i : Nat), RVs K μ H ws vs → RVs K μ H (ws.set i w) (vs.set i v)
  | _, _, _, .nil => .nil
  | _, _, 0, .cons _ t => .cons a t
  | _, _, i + 1, .cons q t => .cons q (RVs.set a i t)
theorem RVs.dropLast {ws : List W} {vs : List V} (h : RVs K μ H ws vs) : RVs K μ H ws.dropLast vs.dropLast := by
  rw [List.dropLast_eq_take, List.dropLast_eq_take, h.length]
  exact h.take _
theorem RVs.rep {ws : List W} {vs : List V} (h : RVs K μ H ws vs) : ∀ k : Nat, RVs K μ H (List.replicate k ws).flatten (List.replicate k vs).flatten
  | 0 => .nil
  | k + 1 => by
    rw [List.replicate_succ, List.replicate_succ, List.flatten_cons, List.flatten_cons]
    exact h.append (RVs.rep h k)
theorem RVs.ints : ∀ (ns : List Int), RVs K μ H (ns.map W.int) (ns.map V.int)
  | [] => .nil
  | n :: r => .cons (.int n) (RVs.ints r)
theorem RVs.strs : ∀ (ns : List Str), RVs K μ H (ns.map W.str) (ns.map V.str)
  | [] => .nil
  | n :: r => .cons (.str n) (RVs.strs r)
theorem RVs.isEmpty {ws : List W} {vs : List V} (h : RVs K μ H ws vs) : ws.isEmpty = vs.isEmpty := by
  cases h <;> rfl
theorem RP.lookup {ps : List (Str × W)} {qs : List (Str × V)} {f : Str} {w : W} (h : RP K μ H ps qs) (e : ps.lookup f = some w) : ∃ v, qs.lookup f = some v ∧ RV K μ H w v := by
  induction h with
  | nil => cases e
  | @cons p q ps qs a r ih =>
    obtain ⟨p1, p2⟩ := p
    obtain ⟨q1, q2⟩ := q
    obtain ⟨a1, a2⟩ := a
    have a1' : p1 = q1 := a1
    subst a1'
    rw [List.lookup_cons] at e ⊢
    cases hb : f == p1 with
    | true =>
      rw [hb] at e
      cases e
      exact ⟨q2, rfl, a2⟩
    | false =>
      rw [hb] at e
      exact ih e
theorem RP.lookup_none {ps : List (Str × W)} {qs : List (Str × V)} {f : Str} (h : RP K μ H ps qs) (e : ps.lookup f = none) : qs.lookup f = none := by
  induction h with
  | nil => rfl
  | @cons p q ps qs a r ih =>
    obtain ⟨p1, p2⟩ := p
    obtain ⟨q1, q2⟩ := q
    obtain ⟨a1, a2⟩ := a
    have a1' : p1 = q1 := a1
    subst a1'
    rw [List.lookup_cons] at e ⊢
    cases hb : f == p1 with
    | true =>
      rw [hb] at e
      cases e
    | false =>
      rw [hb] at e
      exact ih e
theorem RP.put {w : W} {v : V} {f : Str} (a : RV K μ H w v) {ps : List (Str × W)} {qs : List (Str × V)} (h : RP K μ H ps qs) : RP K μ H (putW f w ps) (putF f v qs) := by
  induction h with
  | nil => exact .cons ⟨rfl, a⟩ .nil
  | @cons p q ps qs b r ih =>
    obtain ⟨p1, p2⟩ := p
    obtain ⟨q1, q2⟩ := q
    obtain ⟨b1, b2⟩ := b
    have b1' : p1 = q1 := b1
    subst b1'
    show RP K μ H (if p1 = f then (p1, w) :: ps else (p1, p2) :: putW f w ps) (if p1 = f then (p1, v) :: qs else (p1, q2) :: putF f v qs)
    by_cases hf : p1 = f
    · rw [if_pos hf, if_pos hf]
      exact .cons ⟨rfl, a⟩ r
    · rw [if_neg hf, if_neg hf]
      exact .cons ⟨rfl, b2⟩ ih
theorem RP.length {α : Type} {ps : List (α × W)} {qs : List (α × V)} (h : RP K μ H ps qs) : ps.length = qs.length := Paired.length h
end

/-- the store lies in the heap -/
structure RH (K : PySem.W.Frag) (Cl : Nat → Addr) (μ : List Addr) (τ : Sto) (H : Hp) : Prop where
  len : μ.length = τ.length
  nd : ∀ (n m : Nat) (a : Addr), n ≠ m → μ[n]? = some a → μ[m]? = some a → (∃ xs : List Int, (τ[n]? = some (AO.frz xs) ∨ τ[m]? = some (AO.frz xs)) ∧
    ∃ (o : Obj) (its : Array Value) (k : Nat), K.lookup a = some o ∧ o.cls = .type "list" ∧ o.dict = none ∧ o.data = .seq its k ∧ its.size ≤ sizeLine ∧ Vals (xs.map V.int) its.toList)
  ob : ∀ (n : Nat) (a : Addr) (o : AO), μ[n]? = some a → τ[n]? = some o → RO K Cl μ H a o
structure RS (K : PySem.W.Frag) (μ : List Addr) (H : Hp) (ρ : Sl) (σ : L2.St) : Prop where
  len : ρ.length = σ.length
  at_ : ∀ (i : Nat) w, ρ[i]? = some (some w) → ∃ v, σ[i]? = some (some v) ∧ RV K μ H w v

section
variable {K : PySem.W.Frag} {Cl : Nat → Addr} {μ μ' : List Addr} {H H' : Hp} {τ : Sto} {ρ : Sl} {σ : L2.St}
theorem RS.le (l : Le K μ H μ' H') (s : RS K μ H ρ σ) : RS K μ' H' ρ σ := ⟨s.len, fun i w e => let ⟨v, h1, h2⟩ := s.at_ i w e; ⟨v, h1, h2.le l⟩⟩
theorem RS.set {i : Nat} {w : W} {v : V} (s : RS K μ H ρ σ) (a : RV K μ H w v) : RS K μ H (ρ.set i (some w)) (σ.set i (some v)) := by
  refine ⟨by rw [List.length_set, List.length_set]; exact s.len, fun j x e => ?_⟩
  by_cases hj : i = j
  · subst hj
    by_cases hl : i < ρ.length
    · rw [List.getElem?_set_self hl] at e
      cases e
      exact ⟨v, by rw [List.getElem?_set_self (by rw [← s.len]; exact hl)], a⟩
    · rw [List.getElem?_set_self' , List.getElem?_eq_none (by omega)] at e
      cases e
  · rw [List.getElem?_set_ne hj] at e
    obtain ⟨u, h1, h2⟩ := s.at_ j x e
    exact ⟨u, by rw [List.getElem?_set_ne hj]; exact h1, h2⟩
theorem RS.del {i : Nat} (s : RS K μ H ρ σ) : RS K μ H (ρ.set i none) (σ.set i none) := by
  refine ⟨by rw [List.length_set, List.length_set]; exact s.len, fun j x e => ?_⟩
  by_cases hj : i = j
  · subst hj
    by_cases hl : i < ρ.length
    · rw [List.getElem?_set_self hl] at e
      cases e
    · rw [List.getElem?_set_self' , List.getElem?_eq_none (by omega)] at e
      cases e
  · rw [List.getElem?_set_ne hj] at e
    obtain ⟨u, h1, h2⟩ := s.at_ j x e
    exact ⟨u, by rw [List.getElem?_set_ne hj]; exact h1, h2⟩
theorem RS.wipe (s : RS K μ H ρ σ) : ∀ vs : List Nat, RS K μ H (wipeS ρ vs) (wipe σ vs)
  | [] => s
  | v :: vs => (RS.wipe s vs).del

theorem RO.le (l : Le K μ H μ' H') {a : Addr} {o : AO} (e : H' a = H a) (h : RO K Cl μ H a o) : RO K Cl μ' H' a o := by
  cases o with
  | lst xs => obtain ⟨vs, h1, h2⟩ := h; exact ⟨vs, e.trans h1, h2.le l⟩
  | frz ns =>
    have h' : SqL K H a (ns.map V.int) := h
    show SqL K H' a (ns.map V.int)
    rcases h' with (h' | ⟨o, h'⟩) | h'
    · exact .inl (.inl (e.trans h'))
    · exact .inl (.inr ⟨o, e.trans h'⟩)
    · exact .inr h'
  | dic kvs => obtain ⟨vs, h1, h2⟩ := h; exact ⟨vs, e.trans h1, h2.le l⟩
  | ins c fs => obtain ⟨dx, vs, h1, h2⟩ := h; exact ⟨dx, vs, e.trans h1, h2.le l⟩

/-- what is at a place that is no tuple is changed, or a new thing laid there -/
theorem tup_upd {a : Addr} {o : HO} (h : ∀ vs, ¬ Rd H a (.tup vs)) : ∀ b vs, SqT K H b vs → SqT K (upd H a o) b vs := fun b vs s => by
  rcases s with s | s
  · refine .inl ?_
    have hb : b ≠ a := fun e => h vs (e ▸ s)
    rcases s with s | ⟨ob, s⟩
    · exact .inl (by rw [upd_ne hb]; exact s)
    · exact .inr ⟨ob, by rw [upd_ne hb]; exact s⟩
  · exact .inr s
theorem noTup_none {a : Addr} (h : H a = none) : ∀ vs, ¬ Rd H a (.tup vs) := fun vs r => by
  rcases r with r | ⟨o, r⟩ <;> (rw [h] at r; cases r)
theorem noTup_lst {a : Addr} {xs : List V} (h : H a = some (.lst xs)) : ∀ vs, ¬ Rd H a (.tup vs) := fun vs r => by
  rcases r with r | ⟨o, r⟩ <;> (rw [h] at r; cases r)
theorem noTup_dK {a : Addr} {xs : List (Key × V)} (h : H a = some (.dK xs)) : ∀ vs, ¬ Rd H a (.tup vs) := fun vs r => by
  rcases r with r | ⟨o, r⟩ <;> (rw [h] at r; cases r)
theorem noTup_ins {a C dx : Addr} {xs : List (Str × V)} (h : H a = some (.ins C dx xs)) : ∀ vs, ¬ Rd H a (.tup vs) := fun vs r => by
  rcases r with r | ⟨o, r⟩ <;> (rw [h] at r; cases r)

/-- a place that holds a thing of the store is a tracked one, or that of a list of the written part -/
theorem RO.live {a : Addr} {o : AO} (h : RO K Cl μ H a o) : H a ≠ none ∨ (∃ xs : List Int, o = AO.frz xs ∧ ∃ (o : Obj) (its : Array Value) (k : Nat), K.lookup a = some o ∧ o.cls = .type "list" ∧ o.dict = none ∧ o.data = .seq its k ∧ its.size ≤ sizeLine ∧ Vals (xs.map V.int) its.toList) := by
  cases o with
  | lst xs => obtain ⟨vs, h1, h2⟩ := h; exact .inl (by rw [h1]; simp)
  | frz ns =>
    have h' : SqL K H a (ns.map V.int) := h
    rcases h' with (h' | ⟨o, h'⟩) | h'
    · exact .inl (by rw [h']; simp)
    · exact .inl (by rw [h']; simp)
    · exact .inr ⟨ns, rfl, h'⟩
  | dic kvs => obtain ⟨vs, h1, h2⟩ := h; exact .inl (by rw [h1]; simp)
  | ins c fs => obtain ⟨dx, vs, h1, h2⟩ := h; exact .inl (by rw [h1]; simp)

/-- a new thing -/
theorem RH.push {a : Addr} {ho : HO} {o : AO} (r : RH K Cl μ τ H) (hn : H a = none) (ho' : RO K Cl (μ ++ [a]) (upd H a ho) a o) :
    RH K Cl (μ ++ [a]) (τ ++ [o]) (upd H a ho) ∧ Le K μ H (μ ++ [a]) (upd H a ho) := by
  have l : Le K μ H (μ ++ [a]) (upd H a ho) := ⟨⟨[a], rfl⟩, tup_upd (noTup_none hn)⟩
  -- who stands at a already is a list of the written part
  have old : ∀ (n : Nat) (b : Addr), (μ ++ [a])[n]? = some b → n < μ.length → μ[n]? = some b := fun n b e h => by
    rw [List.getElem?_append_left h] at e
    exact e
  have oldτ : ∀ (n : Nat), n < μ.length → (τ ++ [o])[n]? = τ[n]? := fun n h => List.getElem?_append_left (by rw [← r.len]; exact h)
  have last : ∀ (n : Nat) (b : Addr), (μ ++ [a])[n]? = some b → ¬ n < μ.length → n = μ.length ∧ b = a := fun n b e h => by
    have hl := (List.getElem?_eq_some_iff.mp e).1
    rw [List.length_append] at hl
    have hl' : n = μ.length := by
      have : n < μ.length + 1 := hl
      omega
    subst hl'
    rw [List.getElem?_append_right (Nat.le_refl _)] at e
    simp at e
    exact ⟨rfl, e.symm⟩
  refine ⟨⟨by rw [List.length_append, List.length_append, r.len]; rfl, fun n m b hne hb hm => ?_, fun n b u hb hu => ?_⟩, l⟩
  · by_cases h1 : n < μ.length
    · by_cases h2 : m < μ.length
      · rw [oldτ n h1, oldτ m h2]
        exact r.nd n m b hne (old n b hb h1) (old m b hm h2)
      · obtain ⟨_, rfl⟩ := last m b hm h2
        have hb' := old n b hb h1
        obtain ⟨u, hu⟩ : ∃ u, τ[n]? = some u := ⟨_, List.getElem?_eq_getElem (by rw [← r.len]; exact h1)⟩
        rcases (r.ob n b u hb' hu).live with z | ⟨xs, rfl, z⟩
        · exact absurd hn z
        · exact ⟨xs, .inl (by rw [oldτ n h1]; exact hu), z⟩
    · by_cases h2 : m < μ.length
      · obtain ⟨_, rfl⟩ := last n b hb h1
        have hb' := old m b hm h2
        obtain ⟨u, hu⟩ : ∃ u, τ[m]? = some u := ⟨_, List.getElem?_eq_getElem (by rw [← r.len]; exact h2)⟩
        rcases (r.ob m b u hb' hu).live with z | ⟨xs, rfl, z⟩
        · exact absurd hn z
        · exact ⟨xs, .inr (by rw [oldτ m h2]; exact hu), z⟩
      · exact absurd ((last n b hb h1).1.trans (last m b hm h2).1.symm) hne
  · by_cases h1 : n < μ.length
    · have hb' := old n b hb h1
      rw [oldτ n h1] at hu
      have ho1 := r.ob n b u hb' hu
      by_cases hba : b = a
      · subst hba
        rcases ho1.live with z | ⟨xs, rfl, z⟩
        · exact absurd hn z
        · exact (show SqL K (upd H b ho) b (xs.map V.int) from .inr z)
      · exact ho1.le l (upd_ne hba)
    · obtain ⟨rfl, rfl⟩ := last n b hb h1
      rw [r.len, List.getElem?_append_right (Nat.le_refl _)] at hu
      simp at hu
      subst hu
      exact ho'

/-- a thing changed -/
theorem RH.put {a : Addr} {n : Nat} {ho : HO} {o o₀ : AO} (r : RH K Cl μ τ H) (hn : μ[n]? = some a) (ho₀ : τ[n]? = some o₀) (nf : ∀ xs, o₀ ≠ AO.frz xs) (nt : ∀ vs, ¬ Rd H a (.tup vs)) (ho' : RO K Cl μ (upd H a ho) a o) :
    RH K Cl μ (τ.set n o) (upd H a ho) ∧ Le K μ H μ (upd H a ho) := by
  have l : Le K μ H μ (upd H a ho) := ⟨⟨[], by simp⟩, tup_upd nt⟩
  have hlt := (List.getElem?_eq_some_iff.mp ho₀).1
  have frzOf : ∀ (m : Nat) (xs : List Int), τ[m]? = some (.frz xs) → (τ.set n o)[m]? = some (.frz xs) := fun m xs e => by
    have hm : n ≠ m := fun z => by
      subst z
      rw [ho₀] at e
      exact nf xs (Option.some.inj e)
    rw [List.getElem?_set_ne hm]
    exact e
  refine ⟨⟨by rw [List.length_set]; exact r.len, fun m k b hne hb hk => ?_, fun m b u hb hu => ?_⟩, l⟩
  · obtain ⟨xs, e, z⟩ := r.nd m k b hne hb hk
    rcases e with e | e
    · exact ⟨xs, .inl (frzOf m xs e), z⟩
    · exact ⟨xs, .inr (frzOf k xs e), z⟩
  · by_cases hm : n = m
    · subst hm
      rw [List.getElem?_set_self hlt] at hu
      cases hu
      rw [hn] at hb
      cases hb
      exact ho'
    · rw [List.getElem?_set_ne hm] at hu
      have ho1 := r.ob m b u hb hu
      by_cases hba : b = a
      · subst hba
        obtain ⟨xs, e, z⟩ := r.nd n m b hm hn hb
        rcases e with e | e
        · rw [ho₀] at e
          exact absurd (Option.some.inj e) (nf xs)
        · rw [hu] at e
          cases e
          exact (show SqL K (upd H b ho) b (xs.map V.int) from .inr z)
      · exact ho1.le l (upd_ne hba)
/-- a new tuple (or another thing that the store does not know) -/
theorem RH.more {a : Addr} {ho : HO} (r : RH K Cl μ τ H) (hn : H a = none) : RH K Cl μ τ (upd H a ho) ∧ Le K μ H μ (upd H a ho) := by
  have l : Le K μ H μ (upd H a ho) := ⟨⟨[], by simp⟩, tup_upd (noTup_none hn)⟩
  refine ⟨⟨r.len, r.nd, fun n b u hb hu => ?_⟩, l⟩
  have ho1 := r.ob n b u hb hu
  by_cases hba : b = a
  · subst hba
    rcases ho1.live with z | ⟨xs, rfl, z⟩
    · exact absurd hn z
    · exact (show SqL K (upd H b ho) b (xs.map V.int) from .inr z)
  · exact ho1.le l (upd_ne hba)
theorem RH.at_ (r : RH K Cl μ τ H) {n : Nat} {o : AO} (h : τ[n]? = some o) : ∃ a, μ[n]? = some a ∧ RO K Cl μ H a o := by
  have hl := (List.getElem?_eq_some_iff.mp h).1
  have hm : n < μ.length := by rw [r.len]; exact hl
  exact ⟨_, List.getElem?_eq_getElem hm, r.ob n _ o (List.getElem?_eq_getElem hm) h⟩
/-- a list that can be read -/
theorem RH.seq (r : RH K Cl μ τ H) {n : Nat} {xs : List W} (h : seqOf τ n = some xs) : ∃ a vs, μ[n]? = some a ∧ SqL K H a vs ∧ RVs K μ H xs vs := by
  unfold seqOf at h
  split at h
  · rename_i ys e
    cases h
    obtain ⟨a, ha, vs, h1, h2⟩ := r.at_ e
    exact ⟨a, vs, ha, SqL.of h1, h2⟩
  · rename_i ys e
    cases h
    obtain ⟨a, ha, h1⟩ := r.at_ e
    exact ⟨a, _, ha, h1, RVs.ints _⟩
  · cases h
end
end Mi
/-! Mi2: what is wanted of a run, in the heap; operations. -/
namespace Mi
open PySem PySem.Spec PyProof.Rows L2

/-- where the classes stand -/
structure Bs where
  K : PySem.W.Frag
  Cl : Nat → Addr
  Xc : Nat → Addr

abbrev Rel (α β : Type) := List Addr → Hp → α → β → Prop

def RXn (x : Xn) (d : Option Addr) : Prop := x.fs = [] ∧ d = none

def Got {α β : Type} (B : Bs) (rel : Rel α β) (Wx : WX) (μ : List Addr) (H : Hp) (A : R α) (Q : β → Hp → Prop) : Prop :=
  match A with
  | .ok a τ' => ∀ μ' H' b, Le B.K μ H μ' H' → RH B.K B.Cl μ' τ' H' → rel μ' H' a b → Q b H'
  | .exn x ρ' τ' => ∀ μ' H' σ' d, Le B.K μ H μ' H' → RH B.K B.Cl μ' τ' H' → RS B.K μ' H' ρ' σ' → RXn x d → Wx (.ref (B.Xc x.c)) d σ' H'
  | .no => False

section
variable {B : Bs} {α β γ δ : Type} {rel : Rel α β} {relc : Rel γ δ} {Wx : WX} {μ μ1 : List Addr} {H H1 : Hp}
theorem Got.le {A : R α} {Q : β → Hp → Prop} (l : Le B.K μ H μ1 H1) (h : Got B rel Wx μ H A Q) : Got B rel Wx μ1 H1 A Q := by
  cases A with
  | ok a τ' => exact fun μ' H' b l' => h μ' H' b (l.trans l')
  | exn x ρ' τ' => exact fun μ' H' σ' d l' => h μ' H' σ' d (l.trans l')
  | no => exact h
theorem Got.imp {A : R α} {Q Q' : β → Hp → Prop} (h : Got B rel Wx μ H A Q) (k : ∀ b H', Q b H' → Q' b H') : Got B rel Wx μ H A Q' := by
  cases A with
  | ok a τ' => exact fun μ' H' b l' r e => k _ _ (h μ' H' b l' r e)
  | exn x ρ' τ' => exact h
  | no => exact h
/-- one after another -/
theorem Got.bnd {A : R α} {f : α → Sto → R γ} {Q : δ → Hp → Prop} (h : Got B relc Wx μ H (A.bind f) Q) :
    Got B rel Wx μ H A fun b H1 => ∃ a τ1 μ1, Le B.K μ H μ1 H1 ∧ RH B.K B.Cl μ1 τ1 H1 ∧ rel μ1 H1 a b ∧ Got B relc Wx μ1 H1 (f a τ1) Q := by
  cases A with
  | ok a τ' => exact fun μ' H' b l' r e => ⟨a, τ', μ', l', r, e, Got.le l' h⟩
  | exn x ρ' τ' => exact h
  | no => exact h
/-- the same, the first one's end told -/
theorem Got.bndE {A : R α} {f : α → Sto → R γ} {Q : δ → Hp → Prop} (h : Got B relc Wx μ H (A.bind f) Q) :
    Got B rel Wx μ H A fun b H1 => ∃ a τ1 μ1, Le B.K μ H μ1 H1 ∧ RH B.K B.Cl μ1 τ1 H1 ∧ rel μ1 H1 a b ∧ Got B relc Wx μ1 H1 (f a τ1) Q ∧ A = .ok a τ1 := by
  cases A with
  | ok a τ' => exact fun μ' H' b l' r e => ⟨a, τ', μ', l', r, e, Got.le l' h, rfl⟩
  | exn x ρ' τ' => exact h
  | no => exact h
end

/-- relations of ends -/
def RVr (B : Bs) : Rel W V := fun μ H w v => RV B.K μ H w v
def RVsr (B : Bs) : Rel (List W) (List V) := fun μ H w v => RVs B.K μ H w v
def REq {α : Type} : Rel α α := fun _ _ a b => a = b

section
variable {X : L2.Cx}
theorem PE.imp {e : Expr} {t t' : TE} (h : PE X e t) (k : ∀ σ H Q, t' σ H Q → t σ H Q) : PE X e t' := ⟨fun pins s σ H Q I q => h.run pins s σ H Q I (k σ H Q q)⟩
theorem PT.imp {e : Expr} {t t' : TT} (h : PT X e t) (k : ∀ σ H Q, t' σ H Q → t σ H Q) : PT X e t' := ⟨fun pins s σ H Q I q => h.run pins s σ H Q I (k σ H Q q)⟩
theorem PW.imp {e : Expr} {t t' : TT} (h : PW X e t) (k : ∀ σ H Q, t' σ H Q → t σ H Q) : PW X e t' := ⟨fun whole pins s σ H Q I q => h.run whole pins s σ H Q I (k σ H Q q)⟩
theorem PA.imp {e : List Expr} {t t' : TA} (h : PA X e t) (k : ∀ σ H Q, t' σ H Q → t σ H Q) : PA X e t' := ⟨fun pos pins s σ H Q I q => h.run pos pins s σ H Q I (k σ H Q q)⟩
theorem PO.imp {e : Option Expr} {t t' : TO} (h : PO X e t) (k : ∀ σ H Q, t' σ H Q → t σ H Q) : PO X e t' := ⟨fun pins s σ H Q I q => h.run pins s σ H Q I (k σ H Q q)⟩
theorem PI.imp {tg e : Expr} {t t' : TI} (h : PI X tg e t) (k : ∀ σ H Q, t' σ H Q → t σ H Q) : PI X tg e t' := ⟨fun pins s σ H Q I q => h.run pins s σ H Q I (k σ H Q q)⟩
theorem PS.imp {e : Stmt} {t t' : TS} (h : PS X e t) (k : ∀ D σ H, t' D σ H → t D σ H) : PS X e t' := ⟨fun pins s σ H Q I q => h.run pins s σ H Q I (k Q σ H q)⟩
theorem PSs.imp {e : List Stmt} {t t' : TS} (h : PSs X e t) (k : ∀ D σ H, t' D σ H → t D σ H) : PSs X e t' := ⟨fun pins s σ H Q I q => h.run pins s σ H Q I (k Q σ H q)⟩
theorem PTs.imp {e : List Expr} {t t' : TT} (h : PTs X e t) (k : ∀ σ H Q, t' σ H Q → t σ H Q) : PTs X e t' := ⟨fun pins s σ H Q I q => h.run pins s σ H Q I (k σ H Q q)⟩
theorem OpR.imp {f : Value → Value → Sem Value} {r r' : R2} (h : OpR X f r) (k : ∀ x y H Q, r' x y H Q → r x y H Q) : OpR X f r' := fun pins s σ H x y v u Q I r1 r2 q => h pins s σ H x y v u Q I r1 r2 (k x y H Q q)
/-- the rule is chosen by the values -/
theorem OpR.dyn {f : Value → Value → Sem Value} {r' : R2} (k : ∀ x y H Q, r' x y H Q → ∃ r, OpR X f r ∧ r x y H Q) : OpR X f r' := fun pins s σ H x y v u Q I r1 r2 q => by
  obtain ⟨r, h, q'⟩ := k x y H Q q
  exact h pins s σ H x y v u Q I r1 r2 q'
theorem IxR.dyn {r' : R2} (k : ∀ x y H Q, r' x y H Q → ∃ r, IxR X r ∧ r x y H Q) : IxR X r' := fun va sl pins s σ H x y v u Q I r1 r2 q hs => by
  obtain ⟨r, h, q'⟩ := k x y H Q q
  exact h va sl pins s σ H x y v u Q I r1 r2 q' hs
theorem CallR.dyn {f : Value} {r' : List V → Hp → VK → Prop} (k : ∀ x H Q, r' x H Q → ∃ r, CallR X f r ∧ r x H Q) : CallR X f r' := fun pins s σ H x v Q I r1 q => by
  obtain ⟨r, h, q'⟩ := k x H Q q
  exact h pins s σ H x v Q I r1 q'
end

/-! ### binary operators -/
def rBin (B : Bs) (Wx : WX) (o : Operator) : R2 := fun v u H Q => ∃ μ τ x y, RH B.K B.Cl μ τ H ∧ RV B.K μ H x v ∧ RV B.K μ H y u ∧ Got B (RVr B) Wx μ H (binop o x y τ) Q

section
variable {X : L2.Cx} {B : Bs} {Wx : WX}
theorem got_val {μ : List Addr} {H : Hp} {τ : Sto} {w : W} {v : V} {Q : VK} (g : Got B (RVr B) Wx μ H (.ok w τ) Q) (r : RH B.K B.Cl μ τ H) (h : RV B.K μ H w v) : Q v H := g μ H v Le.refl r h
/-- an operator of ints -/
theorem op_int (o : Operator) : OpR X (binaryOp o) (fun v u H Q => ∃ i j z, v = .int i ∧ u = .int j ∧ binI o i j = some z ∧ Q (.int z) H) := by
  refine OpR.dyn fun v u H Q ⟨i, j, z, hv, hu, hz, q⟩ => ?_
  cases o with
  | Add => cases hz; exact ⟨_, op_add, i, j, hv, hu, q⟩
  | Sub => cases hz; exact ⟨_, op_sub, i, j, hv, hu, q⟩
  | Mult =>
    unfold binI at hz
    dsimp only at hz
    split at hz
    · rename_i hc
      cases hz
      exact ⟨_, op_mul, i, j, hv, hu, hc, q⟩
    · cases hz
  | FloorDiv =>
    unfold binI at hz
    dsimp only at hz
    split at hz
    · rename_i hc
      cases hz
      exact ⟨_, op_fdiv, i, j, hv, hu, hc, q⟩
    · split at hz
      · rename_i hc
        cases hz
        exact ⟨_, op_fdivN, i, j, hv, hu, hc, q⟩
      · cases hz
  | Mod =>
    unfold binI at hz
    dsimp only at hz
    split at hz
    · rename_i hc
      cases hz
      exact ⟨_, op_mod, i, j, hv, hu, hc, q⟩
    · split at hz
      · rename_i hc
        cases hz
        exact ⟨_, op_modN, i, j, hv, hu, hc, q⟩
      · cases hz
  | Pow =>
    unfold binI at hz
    dsimp only at hz
    split at hz
    · rename_i hc
      cases hz
      exact ⟨_, op_pow, i, j, hv, hu, hc, q⟩
    · cases hz
  | _ => cases hz

theorem op_rep_str : OpR X (binaryOp .Mult) (fun x y H Q => ∃ i k, x = .str i ∧ y = .int k ∧ MulOk i k ∧ Q (.str (Txt.mul i k)) H) := by
  intro pins s σ H x y v u Q I rx ry h
  obtain ⟨i, k, rfl, rfl, hz, q⟩ := h
  obtain ⟨t, rfl⟩ := rx
  obtain ⟨t', rfl⟩ := ry
  exact SB.mul hz fun t' tk => ⟨.str (Txt.mul i k), H, I.tok _, ⟨_, rfl⟩, q⟩
theorem op_bin (hK : X.K = B.K) (o : Operator) : OpR X (binaryOp o) (rBin B Wx o) := by
  refine OpR.dyn fun v u H Q ⟨μ, τ, x, y, rh, rx, ry, g⟩ => ?_
  cases rx with
  | int i =>
    cases ry with
    | int j =>
      cases hz : binI o i j with
      | none =>
        have e : binop o (.int i) (.int j) τ = .no := by show lift τ ((binI o i j).map W.int) = _; rw [hz] <;> rfl
        rw [e] at g
        exact g.elim
      | some z =>
        have e : binop o (.int i) (.int j) τ = .ok (.int z) τ := by show lift τ ((binI o i j).map W.int) = _; rw [hz] <;> rfl
        rw [e] at g
        exact ⟨_, op_int o, i, j, z, rfl, rfl, hz, got_val g rh (.int z)⟩
    | _ => exact False.elim g
  | str x =>
    cases ry with
    | str y =>
      cases o with
      | Add =>
        by_cases hl : x.length + y.length ≤ sizeLine
        · have e : binop .Add (.str x) (.str y) τ = .ok (.str (x ++ y)) τ := if_pos hl
          rw [e] at g
          exact ⟨_, op_add_str, x, y, rfl, rfl, hl, got_val g rh (.str _)⟩
        · have e : binop .Add (.str x) (.str y) τ = .no := if_neg hl
          rw [e] at g
          exact g.elim
      | _ => exact False.elim g
    | int k =>
      cases o with
      | Mult =>
        by_cases hl : 0 ≤ k ∧ k ≤ 65536 ∧ x.length ≤ 64
        · have e : binop .Mult (.str x) (.int k) τ = .ok (.str (Txt.mul x k)) τ := if_pos hl
          rw [e] at g
          exact ⟨_, op_rep_str, x, k, rfl, rfl, mulOk_of 64 65536 hl.2.2 (by have := hl.2.1; omega) (by have := hl.1; omega) (by decide) (by decide), got_val g rh (.str _)⟩
        · have e : binop .Mult (.str x) (.int k) τ = .no := if_neg hl
          rw [e] at g
          exact g.elim
      | _ => exact False.elim g
    | _ => exact False.elim g
  | @tup a vs ws sa ra =>
    cases ry with
    | @tup b us ts sb rb =>
      cases o with
      | Add =>
        by_cases hl : ws.length + ts.length ≤ sizeLine
        · have e : binop .Add (.tup ws) (.tup ts) τ = .ok (.tup (ws ++ ts)) τ := if_pos hl
          rw [e] at g
          refine ⟨_, op_catA, a, b, vs, us, rfl, rfl, by rw [hK]; exact sa, by rw [hK]; exact sb, by rw [← ra.length, ← rb.length]; exact hl, fun e1 => ?_, fun e1 e2 => ?_, fun e1 e2 p hp => ?_⟩
          · subst e1
            cases ra
            exact got_val g rh (.tup sb rb)
          · subst e2
            cases rb
            exact got_val g rh (by rw [List.append_nil]; exact .tup sa ra)
          · obtain ⟨rh', l⟩ := rh.more (ho := .tup (vs ++ us)) hp
            exact g μ _ _ l rh' (.tup (.inl (.inl upd_same)) ((ra.le l).append (rb.le l)))
        · have e : binop .Add (.tup ws) (.tup ts) τ = .no := if_neg hl
          rw [e] at g
          exact g.elim
      | _ => exact False.elim g
    | _ => exact False.elim g
  | @ref n a ha =>
    cases ry with
    | @ref m b hb =>
      cases o with
      | Add =>
        cases e1 : τ[n]? with
        | none =>
          have e : binop .Add (.ref n) (.ref m) τ = .no := by unfold binop; simp only [e1]
          rw [e] at g
          exact g.elim
        | some o1 =>
          cases o1 with
          | lst xs =>
            cases e2 : τ[m]? with
            | none =>
              have e : binop .Add (.ref n) (.ref m) τ = .no := by unfold binop; simp only [e1, e2]
              rw [e] at g
              exact g.elim
            | some o2 =>
              cases o2 with
              | lst ys =>
                by_cases hl : xs.length + ys.length ≤ sizeLine
                · have e : binop .Add (.ref n) (.ref m) τ = .ok (.ref τ.length) (τ ++ [.lst (xs ++ ys)]) := by unfold binop; simp only [e1, e2]; exact if_pos hl
                  rw [e] at g
                  obtain ⟨a', ha', vs, h1, r1⟩ := rh.at_ e1
                  obtain ⟨b', hb', us, h2, r2⟩ := rh.at_ e2
                  obtain rfl : a' = a := Option.some.inj (ha'.symm.trans ha)
                  obtain rfl : b' = b := Option.some.inj (hb'.symm.trans hb)
                  refine ⟨_, op_cat, a', b', vs, us, rfl, rfl, h1, h2, by rw [← r1.length, ← r2.length]; exact hl, fun p hp => ?_⟩
                  have l : Le B.K μ H (μ ++ [p]) (upd H p (.lst (vs ++ us))) := ⟨⟨[p], rfl⟩, tup_upd (noTup_none hp)⟩
                  obtain ⟨rh', l'⟩ := rh.push (o := .lst (xs ++ ys)) (ho := .lst (vs ++ us)) hp ⟨vs ++ us, upd_same, (r1.le l).append (r2.le l)⟩
                  exact g _ _ _ l' rh' (.ref (by rw [← rh.len]; simp))
                · have e : binop .Add (.ref n) (.ref m) τ = .no := by unfold binop; simp only [e1, e2]; exact if_neg hl
                  rw [e] at g
                  exact g.elim
              | _ =>
                have e : binop .Add (.ref n) (.ref m) τ = .no := by unfold binop; simp only [e1, e2]
                rw [e] at g
                exact g.elim
          | _ =>
            have e : binop .Add (.ref n) (.ref m) τ = .no := by unfold binop; simp only [e1]
            rw [e] at g
            exact g.elim
      | _ => exact False.elim g
    | int k =>
      cases o with
      | Mult =>
        cases e1 : τ[n]? with
        | none =>
          have e : binop .Mult (.ref n) (.int k) τ = .no := by unfold binop; simp only [e1]
          rw [e] at g
          exact g.elim
        | some o1 =>
          cases o1 with
          | lst xs =>
            by_cases hl : -(2 ^ 63) ≤ k ∧ k < 2 ^ 63 ∧ xs.length * k.toNat ≤ sizeLine
            · have e : binop .Mult (.ref n) (.int k) τ = .ok (.ref τ.length) (τ ++ [.lst (List.replicate k.toNat xs).flatten]) := by unfold binop; simp only [e1]; exact if_pos hl
              rw [e] at g
              obtain ⟨a', ha', vs, h1, r1⟩ := rh.at_ e1
              obtain rfl : a' = a := Option.some.inj (ha'.symm.trans ha)
              refine ⟨_, op_rep, a', k, vs, rfl, rfl, h1, hl.1, hl.2.1, by rw [← r1.length]; exact hl.2.2, fun p hp => ?_⟩
              have l : Le B.K μ H (μ ++ [p]) (upd H p (.lst (List.replicate k.toNat vs).flatten)) := ⟨⟨[p], rfl⟩, tup_upd (noTup_none hp)⟩
              obtain ⟨rh', l'⟩ := rh.push (o := .lst (List.replicate k.toNat xs).flatten) (ho := .lst (List.replicate k.toNat vs).flatten) hp ⟨_, upd_same, (r1.le l).rep _⟩
              exact g _ _ _ l' rh' (.ref (by rw [← rh.len]; simp))
            · have e : binop .Mult (.ref n) (.int k) τ = .no := by unfold binop; simp only [e1]; exact if_neg hl
              rw [e] at g
              exact g.elim
          | _ =>
            have e : binop .Mult (.ref n) (.int k) τ = .no := by unfold binop; simp only [e1]
            rw [e] at g
            exact g.elim
      | _ => exact False.elim g
    | _ => exact False.elim g
  | _ => exact False.elim g
end

/-! ### data, == and in -/
section
variable {B : Bs} {μ : List Addr} {H : Hp} {τ : Sto}
theorem mapO_dp {f : W → Option PyData} (k : ∀ w v e, RV B.K μ H w v → f w = some e → Dp B.K H v e) : ∀ (ws : List W) (vs : List V) (es : List PyData), RVs B.K μ H ws vs → mapO f ws = some es → DpAll B.K H vs es
  | [], _, _, .nil, h => by cases h; exact .nil
  | x :: r, _, es, .cons a b, h => by
    unfold mapO at h
    cases q1 : f x with
    | none => simp [q1] at h
    | some e1 =>
      cases q2 : mapO f r with
      | none => simp [q1, q2] at h
      | some e2 =>
        simp [q1, q2] at h
        subst h
        exact .cons (k x _ e1 a q1) (mapO_dp k r _ e2 b q2)
theorem toD_dp (rh : RH B.K B.Cl μ τ H) : ∀ (d : Nat) (w : W) (v : V) (e : PyData), RV B.K μ H w v → toD τ d w = some e → Dp B.K H v e
  | 0, w, v, e, r, h => by
    cases r with
    | non => cases h; exact .non
    | bl b => cases h; exact .bl b
    | int b => cases h; exact .int b
    | str b => cases h; exact .str b
    | tup _ _ => cases h
    | ref _ => cases h
  | d + 1, w, v, e, r, h => by
    cases r with
    | non => cases h; exact .non
    | bl b => cases h; exact .bl b
    | int b => cases h; exact .int b
    | str b => cases h; exact .str b
    | @tup a vs xs s r =>
      have h' : (mapO (toD τ d) xs).map PyData.tuple = some e := h
      cases q : mapO (toD τ d) xs with
      | none => rw [q] at h'; cases h'
      | some es =>
        rw [q] at h'
        cases h'
        exact .tup s (mapO_dp (toD_dp rh d) xs _ es r q)
    | @ref n a ha =>
      have h' : (match seqOf τ n with
        | some xs => (mapO (toD τ d) xs).map PyData.list
        | none => none) = some e := h
      cases q0 : seqOf τ n with
      | none => rw [q0] at h'; cases h'
      | some xs =>
        rw [q0] at h'
        have h'' : (mapO (toD τ d) xs).map PyData.list = some e := h'
        cases q : mapO (toD τ d) xs with
        | none => rw [q] at h''; cases h''
        | some es =>
          rw [q] at h''
          cases h''
          obtain ⟨a', vs, ha', s, r⟩ := rh.seq q0
          obtain rfl := Option.some.inj (ha'.symm.trans ha)
          exact .lst s (mapO_dp (toD_dp rh d) xs _ es r q)
/-- flat values -/
theorem flat_rv {w : W} {v : V} (r : RV B.K μ H w v) (h : flat w = true) : flatV v = true := by
  cases r <;> first | rfl | cases h
theorem eqF_rv {w u : W} {v x : V} (r : RV B.K μ H w v) (r' : RV B.K μ H u x) (h : flat w = true) (h' : flat u = true) : eqV v x = eqF w u := by
  cases r <;> cases r' <;> first | rfl | cases h | cases h'
theorem inF_rv {w : W} {v : V} (r : RV B.K μ H w v) (hf : flat w = true) : ∀ {ws : List W} {vs : List V}, RVs B.K μ H ws vs → ws.all flat = true → vs.all flatV = true ∧ inV v vs = inF w ws
  | _, _, .nil, _ => ⟨rfl, rfl⟩
  | w' :: ws, v' :: vs, .cons a b, h => by
    rw [List.all_cons, Bool.and_eq_true] at h
    obtain ⟨h1, h2⟩ := inF_rv r hf b h.2
    refine ⟨by rw [List.all_cons, flat_rv a h.1, h1] <;> rfl, ?_⟩
    show (eqV v' v || inV v vs) = (eqF w' w || inF w ws)
    rw [h2, eqF_rv a r h.1 hf]
theorem ints_flat : ∀ ns : List Int, (ns.map W.int).all flat = true
  | [] => rfl
  | _ :: r => ints_flat r
theorem key_rv {w : W} {v : V} {k : Key} (r : RV B.K μ H w v) (h : keyOf w = some k) : v = kV k := by
  cases r with
  | int i => cases h; rfl
  | str x => cases h; rfl
  | _ => cases h
end
end Mi
/-! Mi3: comparisons, truth, items, calls of built-ins. -/
namespace Mi
open PySem PySem.Spec PyProof.Rows L2

section
variable {K : PySem.W.Frag} {μ : List Addr} {H : Hp}
theorem RP.get {ps : List (Key × W)} {qs : List (Key × V)} (h : RP K μ H ps qs) (k : Key) : (kvGet ps k = none ∧ valV qs k = none) ∨ ∃ w v, kvGet ps k = some w ∧ valV qs k = some v ∧ RV K μ H w v := by
  induction h with
  | nil => exact .inl ⟨rfl, rfl⟩
  | @cons p q ps qs a r ih =>
    obtain ⟨p1, p2⟩ := p
    obtain ⟨q1, q2⟩ := q
    obtain ⟨a1, a2⟩ := a
    have a1' : p1 = q1 := a1
    subst a1'
    by_cases e : p1 = k
    · refine .inr ⟨p2, q2, ?_, valV_pos e, a2⟩
      unfold kvGet
      rw [List.find?_cons, decide_eq_true (show (p1, p2).1 = k from e)] <;> rfl
    · have e1 : kvGet ((p1, p2) :: ps) k = kvGet ps k := by
        unfold kvGet
        rw [List.find?_cons, decide_eq_false (show ¬ (p1, p2).1 = k from e)]
      rw [e1, valV_neg (show ¬ (p1, q2).1 = k from e)]
      exact ih
theorem RP.any {ps : List (Key × W)} {qs : List (Key × V)} (h : RP K μ H ps qs) (k : Key) : (ps.any fun kv => decide (kv.1 = k)) = qs.any fun kv => decide (kv.1 = k) := by
  induction h with
  | nil => rfl
  | @cons p q ps qs a r ih =>
    rw [List.any_cons, List.any_cons, ih, a.1]
theorem RP.mapp {ps : List (Key × W)} {qs : List (Key × V)} {k : Key} {w : W} {v : V} (b : RV K μ H w v) (h : RP K μ H ps qs) :
    RP K μ H (ps.map fun kv => if kv.1 = k then (kv.1, w) else kv) (qs.map fun kv => if kv.1 = k then (kv.1, v) else kv) := by
  induction h with
  | nil => exact .nil
  | @cons p q ps qs a r ih =>
    rw [List.map_cons, List.map_cons]
    refine .cons ?_ ih
    rw [a.1]
    by_cases e : q.1 = k
    · rw [if_pos e, if_pos e]
      exact ⟨rfl, b⟩
    · rw [if_neg e, if_neg e]
      exact a
theorem RP.app {α : Type} {ps ps' : List (α × W)} {qs qs' : List (α × V)} (h : RP K μ H ps qs) (h' : RP K μ H ps' qs') : RP K μ H (ps ++ ps') (qs ++ qs') := by
  induction h with
  | nil => exact h'
  | cons a r ih => exact .cons a ih
theorem RP.putK {ps : List (Key × W)} {qs : List (Key × V)} {k : Key} {w : W} {v : V} (b : RV K μ H w v) (h : RP K μ H ps qs) : RP K μ H (kvPut ps k w) (putK qs k v) := by
  unfold kvPut L2.putK
  rw [h.any k]
  by_cases e : (qs.any fun kv => decide (kv.1 = k)) = true
  · rw [if_pos e, if_pos e]
    exact h.mapp b
  · rw [if_neg e, if_neg e]
    exact h.app (.cons ⟨rfl, b⟩ .nil)
end

def rCmp (B : Bs) (o : CmpOp) : R2 := fun v u H Q => ∃ μ τ x y k, RH B.K B.Cl μ τ H ∧ RV B.K μ H x v ∧ RV B.K μ H y u ∧ cmpop o x y τ = some k ∧ Q (.bl k) H

section
variable {X : L2.Cx} {B : Bs}
theorem op_inD (hu : X.A.units + 1 < cLine) : OpR X (compareOp .In) (fun y x H Q => ∃ a o, x = .ref a ∧ DGet H a y o ∧ Q (.bl o.isSome) H) := by
  intro pins s σ H x y v u Q I rx ry ⟨a, o, e, g, q⟩
  subst e
  obtain rfl : u = .ref a := ry
  exact d_in hu I g rx fun s' I' => ⟨.bl _, H, I', rfl, q⟩
theorem op_notInD (hu : X.A.units + 1 < cLine) : OpR X (compareOp .NotIn) (fun y x H Q => ∃ a o, x = .ref a ∧ DGet H a y o ∧ Q (.bl (!o.isSome)) H) := by
  intro pins s σ H x y v u Q I rx ry ⟨a, o, e, g, q⟩
  subst e
  obtain rfl : u = .ref a := ry
  exact d_notIn hu I g rx fun s' I' => ⟨.bl _, H, I', rfl, q⟩

/-- in of a list or tuple, by data -/
def rInA (K : PySem.W.Frag) (neg : Bool) : R2 := fun x y H Q => ∃ a xs d ds, y = .ref a ∧ (SqL K H a xs ∨ SqT K H a xs) ∧ Dp K H x d ∧ DpAll K H xs ds ∧ SeqAt.shaped d = true ∧ SeqAt.shaped (.list ds) = true ∧ Q (.bl (if neg = true then !(ds.any fun z => PyData.eqv z d) else ds.any fun z => PyData.eqv z d)) H
theorem op_inA (hu : X.A.units + 65 < cLine) : OpR X (compareOp .In) (rInA X.K false) := by
  intro pins s σ H x y v u Q I rx ry h
  obtain ⟨a, xs, d, ds, rfl, hs, hd, he, sd, se, q⟩ := h
  obtain ⟨as, r1⟩ := Dp.reads I d x v hd rx
  rcases hs with hs | hs
  · obtain ⟨bs, r2⟩ := Dp.reads I (.list ds) _ u (.lst hs he) ry
    exact SeqAt.in_list_reads r2 r1 (SeqAt.canLay_of_shaped se) (SeqAt.canLay_of_shaped sd) (room_in_shaped sd hu) ⟨.bl _, H, I, rfl, q⟩
  · obtain ⟨bs, r2⟩ := Dp.reads I (.tuple ds) _ u (.tup hs he) ry
    exact SeqAt.in_tuple_reads r2 r1 (SeqAt.canLay_of_shaped se) (SeqAt.canLay_of_shaped sd) (room_in_shaped sd hu) ⟨.bl _, H, I, rfl, q⟩
theorem op_notInA (hu : X.A.units + 65 < cLine) : OpR X (compareOp .NotIn) (rInA X.K true) := by
  intro pins s σ H x y v u Q I rx ry h
  obtain ⟨a, xs, d, ds, rfl, hs, hd, he, sd, se, q⟩ := h
  obtain ⟨as, r1⟩ := Dp.reads I d x v hd rx
  rcases hs with hs | hs
  · obtain ⟨bs, r2⟩ := Dp.reads I (.list ds) _ u (.lst hs he) ry
    exact SeqAt.notIn_list_reads r2 r1 (SeqAt.canLay_of_shaped se) (SeqAt.canLay_of_shaped sd) (room_in_shaped sd hu) ⟨.bl _, H, I, rfl, q⟩
  · obtain ⟨bs, r2⟩ := Dp.reads I (.tuple ds) _ u (.tup hs he) ry
    exact SeqAt.notIn_tuple_reads r2 r1 (SeqAt.canLay_of_shaped se) (SeqAt.canLay_of_shaped sd) (room_in_shaped sd hu) ⟨.bl _, H, I, rfl, q⟩
theorem inD_rv {τ : Sto} {x : W} {ys : List W} {k : Bool} {μ : List Addr} {H : Hp} {v : V} {xs : List V} (rh : RH B.K B.Cl μ τ H) (rx : RV B.K μ H x v) (rs : RVs B.K μ H ys xs) (h : inD τ x ys = some k) :
    ∃ d ds, Dp B.K H v d ∧ DpAll B.K H xs ds ∧ SeqAt.shaped d = true ∧ SeqAt.shaped (.list ds) = true ∧ k = ds.any fun z => PyData.eqv z d := by
  unfold inD at h
  cases h1 : toD τ 62 x with
  | none => rw [h1] at h; cases h
  | some d =>
    cases h2 : mapO (toD τ 62) ys with
    | none => rw [h1, h2] at h; cases h
    | some ds =>
      rw [h1, h2] at h
      dsimp only at h
      split at h
      · rename_i hc
        cases h
        exact ⟨d, ds, toD_dp rh 62 x v d rx h1, mapO_dp (toD_dp rh 62) ys xs ds rs h2, hc.1, hc.2, rfl⟩
      · cases h
theorem in_some {τ : Sto} {x y : W} {k : Bool} {μ : List Addr} {H : Hp} {v u : V} (rh : RH B.K B.Cl μ τ H) (rx : RV B.K μ H x v) (ry : RV B.K μ H y u) (h : inW τ x y = some k) :
    (∃ i j, v = .str i ∧ u = .str j ∧ k = isIn i j) ∨ (∃ p xs, u = .ref p ∧ (SqL B.K H p xs ∨ SqT B.K H p xs) ∧ flatV v = true ∧ xs.all flatV = true ∧ k = inV v xs) ∨ (∃ a o, u = .ref a ∧ DGet H a v o ∧ k = o.isSome) ∨ ∃ p xs d ds, u = .ref p ∧ (SqL B.K H p xs ∨ SqT B.K H p xs) ∧ Dp B.K H v d ∧ DpAll B.K H xs ds ∧ SeqAt.shaped d = true ∧ SeqAt.shaped (.list ds) = true ∧ k = ds.any fun z => PyData.eqv z d := by
  cases ry with
  | str y =>
    cases rx with
    | str x => cases h; exact .inl ⟨x, y, rfl, rfl, rfl⟩
    | _ => cases h
  | @tup a vs ws s r =>
    have h' : (if flat x = true ∧ ws.all flat = true then some (inF x ws) else inD τ x ws) = some k := h
    split at h'
    · rename_i hc
      cases h'
      obtain ⟨h1, h2⟩ := inF_rv rx hc.1 r hc.2
      exact .inr (.inl ⟨a, vs, rfl, .inr s, flat_rv rx hc.1, h1, h2.symm⟩)
    · obtain ⟨d, ds, e⟩ := inD_rv rh rx r h'
      exact .inr (.inr (.inr ⟨a, vs, d, ds, rfl, .inr s, e⟩))
  | @ref n a ha =>
    unfold inW at h
    dsimp only at h
    cases e : τ[n]? with
    | none => rw [e] at h; cases h
    | some o =>
      rw [e] at h
      obtain ⟨a', ha', ho⟩ := rh.at_ e
      obtain rfl := Option.some.inj (ha'.symm.trans ha)
      cases o with
      | lst ys =>
        dsimp only at h
        split at h
        · rename_i hc
          cases h
          obtain ⟨vs, h0, r⟩ := ho
          obtain ⟨h1, h2⟩ := inF_rv rx hc.1 r hc.2
          exact .inr (.inl ⟨a', vs, rfl, .inl (SqL.of h0), flat_rv rx hc.1, h1, h2.symm⟩)
        · obtain ⟨vs, h0, r⟩ := ho
          obtain ⟨d, ds, e⟩ := inD_rv rh rx r h
          exact .inr (.inr (.inr ⟨a', vs, d, ds, rfl, .inl (SqL.of h0), e⟩))
      | frz ns =>
        dsimp only at h
        split at h
        · rename_i hc
          cases h
          obtain ⟨h1, h2⟩ := inF_rv rx hc (RVs.ints ns) (ints_flat ns)
          exact .inr (.inl ⟨a', _, rfl, .inl ho, flat_rv rx hc, h1, h2.symm⟩)
        · cases h
      | dic kvs =>
        dsimp only at h
        cases hk : keyOf x with
        | none => rw [hk] at h; cases h
        | some key =>
          rw [hk] at h
          cases h
          obtain ⟨qs, h0, r⟩ := ho
          refine .inr (.inr (.inl ⟨a', _, rfl, .inl ⟨qs, key, .inl h0, key_rv rx hk, rfl⟩, ?_⟩))
          show (kvGet kvs key).isSome = (valV qs key).isSome
          rcases r.get key with ⟨h1, h2⟩ | ⟨w, v', h1, h2, _⟩
          · rw [h1, h2] <;> rfl
          · rw [h1, h2] <;> rfl
      | ins c fs => cases h
  | _ => cases h

theorem same_rv {μ : List Addr} {H : Hp} {w u : W} {v x : V} (r : RV B.K μ H w v) (r' : RV B.K μ H u x) (h : sameF w u = true) : x = v ∧ flatB v = true := by
  cases r <;> cases r' <;> first | exact Bool.noConfusion h | skip
  · exact ⟨rfl, rfl⟩
  · rw [beq_iff_eq.mp (show (_ == _) = true from h)]; exact ⟨rfl, rfl⟩
  · rw [beq_iff_eq.mp (show (_ == _) = true from h)]; exact ⟨rfl, rfl⟩
  · rw [beq_iff_eq.mp (show (_ == _) = true from h)]; exact ⟨rfl, rfl⟩
theorem dic_rv {τ : Sto} {μ : List Addr} {H : Hp} {w : W} {v : V} {kvs : List (Key × W)} (rh : RH B.K B.Cl μ τ H) (r : RV B.K μ H w v) (h : dicAt τ w = some kvs) : ∃ a ps, v = .ref a ∧ H a = some (.dK ps) ∧ RP B.K μ H kvs ps := by
  unfold dicAt at h
  cases r with
  | @ref n a ha =>
    dsimp only at h
    cases e : τ[n]? with
    | none => rw [e] at h; cases h
    | some o =>
      rw [e] at h
      obtain ⟨a', ha', ho⟩ := rh.at_ e
      obtain rfl := Option.some.inj (ha'.symm.trans ha)
      cases o with
      | dic l =>
        cases h
        obtain ⟨ps, h0, r⟩ := ho
        exact ⟨a', ps, rfl, h0, r⟩
      | _ => cases h
  | _ => cases h
theorem dicEq_rv {τ : Sto} {μ : List Addr} {H : Hp} {ks ls : List (Key × W)} {ps qs : List (Key × V)} (r1 : RP B.K μ H ks ps) (r2 : RP B.K μ H ls qs) {k : Bool} (h : dicEq ks ls = some k) :
    k = true ∧ ps.length = qs.length ∧ ∀ p ∈ ps, valV qs p.1 = some p.2 ∧ flatB p.2 = true := by
  unfold dicEq at h
  split at h
  · rename_i hc
    cases h
    refine ⟨rfl, by rw [← r1.length, ← r2.length]; exact hc.1, ?_⟩
    have hall := hc.2
    clear hc
    induction r1 with
    | nil => exact fun p hp => nomatch hp
    | @cons a b as bs e r ih =>
      rw [List.all_cons, Bool.and_eq_true] at hall
      intro p hp
      rcases List.mem_cons.mp hp with z | z
      · subst z
        have h1 := hall.1
        rw [Bool.and_eq_true] at h1
        obtain ⟨_, h2⟩ := h1
        rcases r2.get a.1 with ⟨z1, _⟩ | ⟨w, v', z1, z2, z3⟩
        · rw [z1] at h2; exact Bool.noConfusion h2
        · rw [z1] at h2
          obtain ⟨e1, e2⟩ := same_rv e.2 z3 h2
          exact ⟨by rw [← e.1, z2, e1], e2⟩
      · exact ih hall.2 p z
  · cases h
theorem op_cmp (hK : X.K = B.K) (hu0 : X.A.units + 65 < cLine) (o : CmpOp) : OpR X (compareOp o) (rCmp B o) := by
  have hu : X.A.units + 64 < cLine := by omega
  refine OpR.dyn fun v u H Q ⟨μ, τ, x, y, k, rh, rx, ry, h, q⟩ => ?_
  have hu1 : X.A.units + 1 < cLine := by omega
  cases o with
  | Lt =>
    cases rx <;> cases ry <;> first | (cases h; done) | skip
    cases h
    exact ⟨_, op_lt, _, _, rfl, rfl, q⟩
  | LtE =>
    cases rx <;> cases ry <;> first | (cases h; done) | skip
    cases h
    exact ⟨_, op_le, _, _, rfl, rfl, q⟩
  | Gt =>
    cases rx <;> cases ry <;> first | (cases h; done) | skip
    cases h
    exact ⟨_, op_gt, _, _, rfl, rfl, q⟩
  | GtE =>
    cases rx <;> cases ry <;> first | (cases h; done) | skip
    cases h
    exact ⟨_, op_ge, _, _, rfl, rfl, q⟩
  | Eq =>
    have h0 : eqA τ x y = some k := h
    unfold eqA at h0
    by_cases hd : ∃ ks ls, dicAt τ x = some ks ∧ dicAt τ y = some ls
    · obtain ⟨ks, ls, d1, d2⟩ := hd
      rw [d1, d2] at h0
      obtain ⟨a, ps, rfl, h1, r1⟩ := dic_rv rh rx d1
      obtain ⟨b, qs, rfl, h2, r2⟩ := dic_rv rh ry d2
      obtain ⟨rfl, e1, e2⟩ := dicEq_rv (τ := τ) r1 r2 (show dicEq ks ls = some k from h0)
      exact ⟨_, op_eq_dictA (by omega), a, b, ps, qs, rfl, rfl, h1, h2, e1, e2, q⟩
    have h' : eqW τ x y = some k := by
      cases d1 : dicAt τ x with
      | none => rw [d1] at h0; exact h0
      | some ks =>
        cases d2 : dicAt τ y with
        | none => rw [d1, d2] at h0; exact h0
        | some ls => exact absurd ⟨ks, ls, d1, d2⟩ hd
    unfold eqW at h'
    cases h1 : toD τ 64 x with
    | none => rw [h1] at h'; cases h'
    | some d =>
      cases h2 : toD τ 64 y with
      | none => rw [h1, h2] at h'; cases h'
      | some e =>
        rw [h1, h2] at h'
        dsimp only at h'
        split at h'
        · rename_i hc
          cases h'
          exact ⟨_, op_eqD hu, d, e, by rw [hK]; exact toD_dp rh 64 x v d rx h1, by rw [hK]; exact toD_dp rh 64 y u e ry h2, hc.1, hc.2, q⟩
        · cases h'
  | NotEq =>
    have h0 : (eqA τ x y).map (!·) = some k := h
    unfold eqA at h0
    by_cases hd : ∃ ks ls, dicAt τ x = some ks ∧ dicAt τ y = some ls
    · obtain ⟨ks, ls, d1, d2⟩ := hd
      rw [d1, d2] at h0
      have h0' : (dicEq ks ls).map (!·) = some k := h0
      obtain ⟨a, ps, rfl, h1, r1⟩ := dic_rv rh rx d1
      obtain ⟨b, qs, rfl, h2, r2⟩ := dic_rv rh ry d2
      cases e0 : dicEq ks ls with
      | none => rw [e0] at h0'; cases h0'
      | some k0 =>
        obtain ⟨rfl, e1, e2⟩ := dicEq_rv (τ := τ) r1 r2 e0
        rw [e0] at h0'
        cases h0'
        exact ⟨_, op_ne_dictA (by omega), a, b, ps, qs, rfl, rfl, h1, h2, e1, e2, q⟩
    have h' : (eqW τ x y).map (!·) = some k := by
      cases d1 : dicAt τ x with
      | none => rw [d1] at h0; exact h0
      | some ks =>
        cases d2 : dicAt τ y with
        | none => rw [d1, d2] at h0; exact h0
        | some ls => exact absurd ⟨ks, ls, d1, d2⟩ hd
    unfold eqW at h'
    cases h1 : toD τ 64 x with
    | none => rw [h1] at h'; cases h'
    | some d =>
      cases h2 : toD τ 64 y with
      | none => rw [h1, h2] at h'; cases h'
      | some e =>
        rw [h1, h2] at h'
        dsimp only at h'
        split at h'
        · rename_i hc
          cases h'
          exact ⟨_, op_neD hu, d, e, by rw [hK]; exact toD_dp rh 64 x v d rx h1, by rw [hK]; exact toD_dp rh 64 y u e ry h2, hc.1, hc.2, q⟩
        · cases h'
  | In =>
    have h' : inW τ x y = some k := h
    rcases in_some rh rx ry h' with ⟨i, j, rfl, rfl, rfl⟩ | ⟨p, xs, rfl, hs, f1, f2, rfl⟩ | ⟨a, o, rfl, g, rfl⟩ | ⟨p, xs, d, ds, rfl, hs, hd, he, sd, se, rfl⟩
    · exact ⟨_, op_in_str, i, j, rfl, rfl, q⟩
    · exact ⟨_, op_in_seq, p, xs, rfl, by rw [hK]; exact hs, f1, f2, q⟩
    · exact ⟨_, op_inD hu1, a, o, rfl, g, q⟩
    · exact ⟨_, op_inA hu0, p, xs, d, ds, rfl, by rw [hK]; exact hs, by rw [hK]; exact hd, by rw [hK]; exact he, sd, se, q⟩
  | NotIn =>
    have h' : (inW τ x y).map (!·) = some k := h
    cases hi : inW τ x y with
    | none => rw [hi] at h'; cases h'
    | some k' =>
      rw [hi] at h'
      cases h'
      rcases in_some rh rx ry hi with ⟨i, j, rfl, rfl, rfl⟩ | ⟨p, xs, rfl, hs, f1, f2, rfl⟩ | ⟨a, o, rfl, g, rfl⟩ | ⟨p, xs, d, ds, rfl, hs, hd, he, sd, se, rfl⟩
      · exact ⟨_, op_notIn_str, i, j, rfl, rfl, q⟩
      · exact ⟨_, op_notIn_seq, p, xs, rfl, by rw [hK]; exact hs, f1, f2, q⟩
      · exact ⟨_, op_notInD hu1, a, o, rfl, g, q⟩
      · exact ⟨_, op_notInA hu0, p, xs, d, ds, rfl, by rw [hK]; exact hs, by rw [hK]; exact hd, by rw [hK]; exact he, sd, se, q⟩
  | Is =>
    cases ry with
    | non =>
      refine ⟨_, op_isN, rfl, ?_⟩
      have e : decide (v = V.non) = k := by
        cases rx <;> cases h <;> rfl
      rw [e]
      exact q
    | _ => cases h
  | IsNot =>
    cases ry with
    | non =>
      refine ⟨_, op_notN, rfl, ?_⟩
      have e : (!decide (v = V.non)) = k := by
        cases rx <;> cases h <;> rfl
      rw [e]
      exact q
    | _ => cases h

/-! ### truth -/
theorem truth_rv {μ : List Addr} {H : Hp} {τ : Sto} {w : W} {v : V} {k : Bool} (rh : RH B.K B.Cl μ τ H) (r : RV B.K μ H w v) (h : truth τ w = some k) : TruV B.K v H k := by
  cases r with
  | non => cases h; rfl
  | bl b => cases h; rfl
  | int i => cases h; rfl
  | str x =>
    have h' : (if x.length ≤ sizeLine then some ((x.length : Int) != 0) else none) = some k := h
    split at h'
    · rename_i hc
      cases h'
      exact ⟨hc, rfl⟩
    · cases h'
  | @tup a vs ws s r =>
    cases h
    exact .inr (.inl ⟨vs, s, by rw [r.isEmpty]⟩)
  | @ref n a ha =>
    unfold truth at h
    dsimp only at h
    cases e : τ[n]? with
    | none => rw [e] at h; cases h
    | some o =>
      rw [e] at h
      obtain ⟨a', ha', ho⟩ := rh.at_ e
      obtain rfl := Option.some.inj (ha'.symm.trans ha)
      cases o with
      | lst ys =>
        cases h
        obtain ⟨vs, h0, r⟩ := ho
        exact .inl ⟨vs, SqL.of h0, by rw [r.isEmpty]⟩
      | frz ns =>
        cases h
        exact .inl ⟨_, ho, by cases ns <;> rfl⟩
      | dic kvs =>
        cases h
        obtain ⟨qs, h0, r⟩ := ho
        refine .inr (.inr ⟨qs, h0, ?_⟩)
        cases r <;> rfl
      | ins c fs => cases h

/-! ### items -/
theorem atI_rv {μ : List Addr} {H : Hp} {xs : List W} {vs : List V} {i : Int} {w : W} (r : RVs B.K μ H xs vs) (h : atI xs i = some w) : ∃ v, atI vs i = some v ∧ RV B.K μ H w v := by
  unfold atI at h ⊢
  rw [← r.length]
  cases e : ixN xs.length i with
  | none => rw [e] at h; cases h
  | some j =>
    rw [e] at h
    exact r.get h
def rItem (B : Bs) (Wx : WX) : R2 := fun v u H Q => ∃ μ τ x y w, RH B.K B.Cl μ τ H ∧ RV B.K μ H x v ∧ RV B.K μ H y u ∧ itemAt τ x y = some w ∧ (∀ n kvs, x = .ref n → τ[n]? ≠ some (.dic kvs)) ∧ Got B (RVr B) Wx μ H (.ok w τ) Q
theorem ix_item (hK : X.K = B.K) {Wx : WX} : IxR X (rItem B Wx) := by
  refine IxR.dyn fun v u H Q ⟨μ, τ, x, y, w, rh, rx, ry, h, hd, g⟩ => ?_
  cases rx with
  | @tup a vs ws s r =>
    cases ry with
    | int i =>
      obtain ⟨z, hz, rz⟩ := atI_rv r (show atI ws i = some w from h)
      exact ⟨_, ix_tup, a, vs, i, z, rfl, rfl, by rw [hK]; exact s, hz, got_val g rh rz⟩
    | _ => cases h
  | str z =>
    cases ry with
    | int i =>
      have h' : (if z.length ≤ sizeLine then (atI z.cps.toList i).map fun c => W.str ⟨#[c]⟩ else none) = some w := h
      split at h'
      · rename_i hc
        cases e : atI z.cps.toList i with
        | none => rw [e] at h'; cases h'
        | some c =>
          rw [e] at h'
          cases h'
          exact ⟨_, ix_str, z, i, c, rfl, rfl, hc, e, got_val g rh (.str _)⟩
      · cases h'
    | _ => cases h
  | @ref n a ha =>
    unfold itemAt at h
    dsimp only at h
    cases e : τ[n]? with
    | none => rw [e] at h; cases h
    | some o =>
      rw [e] at h
      obtain ⟨a', ha', ho⟩ := rh.at_ e
      obtain rfl := Option.some.inj (ha'.symm.trans ha)
      cases o with
      | lst ys =>
        cases ry with
        | int i =>
          obtain ⟨vs, h0, r⟩ := ho
          obtain ⟨z, hz, rz⟩ := atI_rv r (show atI ys i = some w from h)
          exact ⟨_, ix_list, a', vs, i, z, rfl, rfl, by rw [hK]; exact SqL.of h0, hz, got_val g rh rz⟩
        | _ => cases h
      | frz ns =>
        cases ry with
        | int i =>
          obtain ⟨z, hz, rz⟩ := atI_rv (B := B) (RVs.ints ns) (show atI (ns.map W.int) i = some w from h)
          exact ⟨_, ix_list, a', _, i, z, rfl, rfl, by rw [hK]; exact ho, hz, got_val g rh rz⟩
        | _ => cases h
      | dic kvs => exact absurd e (hd n kvs rfl)
      | ins c fs => cases h
  | _ => cases h
end

/-! ### slices -/
theorem cut_rv {K : PySem.W.Frag} {μ : List Addr} {H : Hp} {xs : List W} {vs : List V} {lo hi : Option Int} (r : RVs K μ H xs vs) : RVs K μ H (cut xs lo hi) (cutV vs lo hi) := by
  unfold cut cutV
  rw [r.length]
  exact (r.drop _).take _
theorem cut_whole {xs : List W} {lo hi : Option Int} (h1 : HT.sIx xs.length 0 lo = 0) (h2 : HT.sIx xs.length xs.length hi = xs.length) : cut xs lo hi = xs := by
  unfold cut
  rw [h1, h2, List.drop_zero, Nat.sub_zero, List.take_length]
section
variable {X : L2.Cx} {B : Bs}
def rSl (B : Bs) (Wx : WX) : V → Option Int → Option Int → Hp → VK → Prop := fun v lo hi H Q => ∃ μ τ x, RH B.K B.Cl μ τ H ∧ RV B.K μ H x v ∧ Got B (RVr B) Wx μ H (sliceW x lo hi τ) Q
theorem SlR.dyn {r' : V → Option Int → Option Int → Hp → VK → Prop} (k : ∀ x lo hi H Q, r' x lo hi H Q → ∃ r, SlR X r ∧ r x lo hi H Q) : SlR X r' := fun pins s σ H x v vl vu lo hi sl Q I r1 h1 h2 h3 q => by
  obtain ⟨r, h, q'⟩ := k x lo hi H Q q
  exact h pins s σ H x v vl vu lo hi sl Q I r1 h1 h2 h3 q'
theorem sl_any (hK : X.K = B.K) {Wx : WX} : SlR X (rSl B Wx) := by
  refine SlR.dyn fun v lo hi H Q ⟨μ, τ, x, rh, rx, g⟩ => ?_
  cases rx with
  | @tup a vs ws s r =>
    have g' : Got B (RVr B) Wx μ H (.ok (.tup (cut ws lo hi)) τ) Q := g
    refine ⟨_, sl_tupA, a, vs, rfl, by rw [hK]; exact s, fun h => ?_, fun h p hp => ?_⟩
    · rw [← r.length] at h
      rw [cut_whole h.1 h.2] at g'
      exact got_val g' rh (.tup s r)
    · obtain ⟨rh', l⟩ := rh.more (ho := .tup (cutV vs lo hi)) hp
      exact g' μ _ _ l rh' (.tup (.inl (.inl upd_same)) (cut_rv (r.le l)))
  | str z =>
    have g' : Got B (RVr B) Wx μ H (if z.length ≤ sizeLine then .ok (.str (cutS z lo hi)) τ else .no) Q := g
    split at g'
    · rename_i hc
      exact ⟨_, sl_str, z, rfl, hc, got_val g' rh (.str _)⟩
    · exact g'.elim
  | @ref n a ha =>
    have g' : Got B (RVr B) Wx μ H (match seqOf τ n with
      | some xs => .ok (.ref τ.length) (τ ++ [.lst (cut xs lo hi)])
      | none => .no) Q := g
    cases e : seqOf τ n with
    | none => rw [e] at g'; exact g'.elim
    | some xs =>
      rw [e] at g'
      dsimp only at g'
      obtain ⟨a', vs, ha', s, r⟩ := rh.seq e
      obtain rfl := Option.some.inj (ha'.symm.trans ha)
      refine ⟨_, sl_list, a', vs, rfl, by rw [hK]; exact s, fun p hp => ?_⟩
      have l : Le B.K μ H (μ ++ [p]) (upd H p (.lst (cutV vs lo hi))) := ⟨⟨[p], rfl⟩, tup_upd (noTup_none hp)⟩
      obtain ⟨rh', l'⟩ := rh.push (o := .lst (cut xs lo hi)) (ho := .lst (cutV vs lo hi)) hp ⟨_, upd_same, cut_rv (r.le l)⟩
      exact g' _ _ _ l' rh' (.ref (by rw [← rh.len]; simp))
  | _ => exact False.elim g
end
end Mi
/-! Mi4: built-ins by their rules; the look that compares a text with the small language. -/
namespace Mi
open PySem PySem.Spec PyProof.Rows L2

def rBi (B : Bs) (Wx : WX) (b : BI) : List V → Hp → VK → Prop := fun vs H Q => ∃ μ τ ws, RH B.K B.Cl μ τ H ∧ RVs B.K μ H ws vs ∧ Got B (RVr B) Wx μ H (builtin b ws τ) Q
section
variable {X : L2.Cx} {B : Bs} {Wx : WX}
theorem call_lenD : CallR X (.builtin "len") (fun xs H Q => ∃ a kvs, xs = [.ref a] ∧ H a = some (.dK kvs) ∧ Q (.int kvs.length) H) := by
  intro pins s σ H xs us Q I r ⟨a, kvs, e, h, q⟩
  subst e
  obtain ⟨u, rfl, ru⟩ := vals1 r
  obtain rfl : u = .ref a := ru
  exact d_len I (.inl h) fun t s' I' => ⟨.int _, H, I', ⟨_, rfl⟩, q⟩
theorem got_new {μ : List Addr} {H : Hp} {τ : Sto} {xs : List W} {vs : List V} {Q : VK} (g : Got B (RVr B) Wx μ H (newL τ xs) Q) (rh : RH B.K B.Cl μ τ H) (r : RVs B.K μ H xs vs) (p : Addr) (hp : H p = none) : Q (.ref p) (upd H p (.lst vs)) := by
  have l : Le B.K μ H (μ ++ [p]) (upd H p (.lst vs)) := ⟨⟨[p], rfl⟩, tup_upd (noTup_none hp)⟩
  obtain ⟨rh', l'⟩ := rh.push (o := .lst xs) (ho := .lst vs) hp ⟨_, upd_same, r.le l⟩
  exact g _ _ _ l' rh' (.ref (by rw [← rh.len]; simp))
theorem bi_len (hK : X.K = B.K) : CallR X (.builtin "len") (rBi B Wx .len) := by
  refine CallR.dyn fun vs H Q ⟨μ, τ, ws, rh, rs, g⟩ => ?_
  have g' : Got B (RVr B) Wx μ H (bLen ws τ) Q := g
  cases rs with
  | nil => exact g'.elim
  | cons a r =>
    cases r with
    | cons _ _ => cases a <;> exact g'.elim
    | nil =>
      cases a with
      | str x =>
        have g2 : Got B (RVr B) Wx μ H (if x.length ≤ sizeLine then .ok (.int x.length) τ else .no) Q := g'
        split at g2
        · rename_i hc
          exact ⟨_, call_len_str, x, rfl, hc, got_val g2 rh (.int _)⟩
        · exact g2.elim
      | @tup a vs ws s r =>
        exact ⟨_, call_len_seq, a, vs, rfl, .inr (by rw [hK]; exact s), by rw [← r.length]; exact got_val g' rh (.int _)⟩
      | @ref n a ha =>
        have g2 : Got B (RVr B) Wx μ H (match τ[n]? with
          | some (.lst xs) => .ok (.int xs.length) τ
          | some (.frz xs) => .ok (.int xs.length) τ
          | some (.dic kvs) => .ok (.int kvs.length) τ
          | _ => .no) Q := g'
        cases e : τ[n]? with
        | none => rw [e] at g2; exact g2.elim
        | some o =>
          rw [e] at g2
          obtain ⟨a', ha', ho⟩ := rh.at_ e
          obtain rfl := Option.some.inj (ha'.symm.trans ha)
          cases o with
          | lst ys =>
            obtain ⟨vs, h0, r⟩ := ho
            exact ⟨_, call_len_seq, a', vs, rfl, .inl (by rw [hK]; exact SqL.of h0), by rw [← r.length]; exact got_val g2 rh (.int _)⟩
          | frz ns =>
            exact ⟨_, call_len_seq, a', _, rfl, .inl (by rw [hK]; exact ho), by rw [List.length_map]; exact got_val g2 rh (.int _)⟩
          | dic kvs =>
            obtain ⟨qs, h0, r⟩ := ho
            exact ⟨_, call_lenD, a', qs, rfl, h0, by rw [← r.length]; exact got_val g2 rh (.int _)⟩
          | ins c fs => exact g2.elim
      | _ => exact g'.elim
theorem bi_int : CallR X (.type "int") (rBi B Wx .int) := by
  refine CallR.dyn fun vs H Q ⟨μ, τ, ws, rh, rs, g⟩ => ?_
  have g' : Got B (RVr B) Wx μ H (bInt ws τ) Q := g
  cases rs with
  | nil => exact g'.elim
  | cons a r =>
    cases r with
    | cons _ _ => cases a <;> exact g'.elim
    | nil =>
      cases a with
      | int i => exact ⟨_, call_int1, .inl ⟨i, rfl, got_val g' rh (.int _)⟩⟩
      | bl k => exact ⟨_, call_int1, .inr ⟨k, rfl, got_val g' rh (.int _)⟩⟩
      | str x =>
        have g2 : Got B (RVr B) Wx μ H (match PySem.intText? x with
          | some n => if x.length ≤ 640 then .ok (.int n) τ else .no
          | none => .no) Q := g'
        cases e : PySem.intText? x with
        | none => rw [e] at g2; exact g2.elim
        | some n =>
          rw [e] at g2
          dsimp only at g2
          split at g2
          · rename_i hc
            exact ⟨_, call_int_str, x, n, rfl, e, hc, got_val g2 rh (.int _)⟩
          · exact g2.elim
      | _ => exact g'.elim
theorem bi_str : CallR X (.type "str") (rBi B Wx .str) := by
  refine CallR.dyn fun vs H Q ⟨μ, τ, ws, rh, rs, g⟩ => ?_
  have g' : Got B (RVr B) Wx μ H (bStr ws τ) Q := g
  cases rs with
  | nil => exact g'.elim
  | cons a r =>
    cases r with
    | cons _ _ => cases a <;> exact g'.elim
    | nil =>
      cases a with
      | int i =>
        have g2 : Got B (RVr B) Wx μ H (if i.natAbs.log2 < 1920 then .ok (.str (toString i)) τ else .no) Q := g'
        split at g2
        · rename_i hc
          exact ⟨_, call_str_int, i, rfl, hc, got_val g2 rh (.str _)⟩
        · exact g2.elim
      | str x => exact ⟨_, SkE.call_str_str, x, rfl, got_val g' rh (.str _)⟩
      | _ => exact g'.elim
theorem bi_abs : CallR X (.builtin "abs") (rBi B Wx .abs) := by
  refine CallR.dyn fun vs H Q ⟨μ, τ, ws, rh, rs, g⟩ => ?_
  have g' : Got B (RVr B) Wx μ H (bAbs ws τ) Q := g
  cases rs with
  | nil => exact g'.elim
  | cons a r =>
    cases r with
    | cons _ _ => cases a <;> exact g'.elim
    | nil =>
      cases a with
      | int i => exact ⟨_, call_abs, i, rfl, got_val g' rh (.int _)⟩
      | _ => exact g'.elim
theorem ints_rv {K : PySem.W.Frag} {μ : List Addr} {H : Hp} : ∀ {xs : List W} {vs : List V} {ns : List Int}, RVs K μ H xs vs → mapO intOf xs = some ns → vs = ns.map V.int
  | _, _, _, .nil, e => by cases e; rfl
  | _, _, ns, @RVs.cons _ _ _ w v ws vs a r, e => by
    unfold mapO at e
    cases h1 : intOf w with
    | none => rw [h1] at e; cases e
    | some i =>
      cases h2 : mapO intOf ws with
      | none => rw [h1, h2] at e; cases e
      | some ms =>
        rw [h1, h2] at e
        cases e
        have ih := ints_rv r h2
        subst ih
        cases a with
        | int j => cases h1; rfl
        | _ => cases h1
theorem big_mem : ∀ (r : List Int) (i : Int), r.foldl bigI i ∈ i :: r ∧ ∀ y ∈ i :: r, y ≤ r.foldl bigI i
  | [], i => ⟨List.mem_cons_self, fun y hy => by rw [List.mem_singleton.mp hy]; exact Int.le_refl _⟩
  | a :: r, i => by
    obtain ⟨h1, h2⟩ := big_mem r (bigI i a)
    have h3 := h2 (bigI i a) List.mem_cons_self
    have e : (a :: r).foldl bigI i = r.foldl bigI (bigI i a) := rfl
    rw [e]
    have hb : (bigI i a = i ∨ bigI i a = a) ∧ i ≤ bigI i a ∧ a ≤ bigI i a := by
      unfold bigI
      split <;> omega
    refine ⟨?_, fun y hy => ?_⟩
    · rcases List.mem_cons.mp h1 with q | q
      · rw [q]
        rcases hb.1 with z | z
        · rw [z]; exact List.mem_cons_self
        · rw [z]; exact List.mem_cons_of_mem _ List.mem_cons_self
      · exact List.mem_cons_of_mem _ (List.mem_cons_of_mem _ q)
    · rcases List.mem_cons.mp hy with q | q
      · rw [q]; omega
      · rcases List.mem_cons.mp q with q | q
        · rw [q]; omega
        · exact h2 y (List.mem_cons_of_mem _ q)
theorem sml_mem : ∀ (r : List Int) (i : Int), r.foldl smlI i ∈ i :: r ∧ ∀ y ∈ i :: r, r.foldl smlI i ≤ y
  | [], i => ⟨List.mem_cons_self, fun y hy => by rw [List.mem_singleton.mp hy]; exact Int.le_refl _⟩
  | a :: r, i => by
    obtain ⟨h1, h2⟩ := sml_mem r (smlI i a)
    have h3 := h2 (smlI i a) List.mem_cons_self
    have e : (a :: r).foldl smlI i = r.foldl smlI (smlI i a) := rfl
    rw [e]
    have hb : (smlI i a = i ∨ smlI i a = a) ∧ smlI i a ≤ i ∧ smlI i a ≤ a := by
      unfold smlI
      split <;> omega
    refine ⟨?_, fun y hy => ?_⟩
    · rcases List.mem_cons.mp h1 with q | q
      · rw [q]
        rcases hb.1 with z | z
        · rw [z]; exact List.mem_cons_self
        · rw [z]; exact List.mem_cons_of_mem _ List.mem_cons_self
      · exact List.mem_cons_of_mem _ (List.mem_cons_of_mem _ q)
    · rcases List.mem_cons.mp hy with q | q
      · rw [q]; omega
      · rcases List.mem_cons.mp q with q | q
        · rw [q]; omega
        · exact h2 y (List.mem_cons_of_mem _ q)
theorem ints_at {μ : List Addr} {τ : Sto} {H : Hp} {n : Nat} {a : Addr} {ns : List Int} (rh : RH B.K B.Cl μ τ H) (ha : μ[n]? = some a) (e : intsAt τ n = some ns) : SqL B.K H a (ns.map V.int) := by
  unfold intsAt at e
  cases h : seqOf τ n with
  | none => rw [h] at e; cases e
  | some xs =>
    rw [h] at e
    obtain ⟨a', vs, ha', s, r⟩ := rh.seq h
    obtain rfl := Option.some.inj (ha'.symm.trans ha)
    rw [← ints_rv r e]
    exact s
theorem bi_max2 (hK : X.K = B.K) (hc : X.calm = true) : CallR X (.builtin "max") (rBi B Wx .max2) := by
  refine CallR.dyn fun vs H Q ⟨μ, τ, ws, rh, rs, g⟩ => ?_
  have g' : Got B (RVr B) Wx μ H (bMax2 ws τ) Q := g
  cases rs with
  | nil => exact g'.elim
  | cons a r =>
    cases r with
    | nil =>
      cases a with
      | @ref n a ha =>
        have g2 : Got B (RVr B) Wx μ H (match intsAt τ n with
          | some (i :: r) => .ok (.int (r.foldl bigI i)) τ
          | _ => .no) Q := g'
        cases e : intsAt τ n with
        | none => rw [e] at g2; exact g2.elim
        | some ns =>
          rw [e] at g2
          cases ns with
          | nil => exact g2.elim
          | cons i r =>
            have s := ints_at rh ha e
            obtain ⟨m1, m2⟩ := big_mem r i
            refine ⟨_, cr_max hc, a, i :: r, rfl, by rw [hK]; exact s, by simp, fun m hm hy => ?_⟩
            have em : m = r.foldl bigI i := Int.le_antisymm (m2 m hm) (hy _ m1)
            rw [em]
            exact got_val g2 rh (.int _)
      | _ => exact g'.elim
    | cons b r =>
      cases r with
      | cons _ _ => cases a <;> cases b <;> exact g'.elim
      | nil =>
        cases a with
        | int i =>
          cases b with
          | int j => exact ⟨_, call_max2 hc, i, j, rfl, got_val g' rh (.int _)⟩
          | _ => exact g'.elim
        | _ => cases b <;> exact g'.elim
theorem bi_min2 (hK : X.K = B.K) (hc : X.calm = true) : CallR X (.builtin "min") (rBi B Wx .min2) := by
  refine CallR.dyn fun vs H Q ⟨μ, τ, ws, rh, rs, g⟩ => ?_
  have g' : Got B (RVr B) Wx μ H (bMin2 ws τ) Q := g
  cases rs with
  | nil => exact g'.elim
  | cons a r =>
    cases r with
    | nil =>
      cases a with
      | @ref n a ha =>
        have g2 : Got B (RVr B) Wx μ H (match intsAt τ n with
          | some (i :: r) => .ok (.int (r.foldl smlI i)) τ
          | _ => .no) Q := g'
        cases e : intsAt τ n with
        | none => rw [e] at g2; exact g2.elim
        | some ns =>
          rw [e] at g2
          cases ns with
          | nil => exact g2.elim
          | cons i r =>
            have s := ints_at rh ha e
            obtain ⟨m1, m2⟩ := sml_mem r i
            refine ⟨_, cr_min hc, a, i :: r, rfl, by rw [hK]; exact s, by simp, fun m hm hy => ?_⟩
            have em : m = r.foldl smlI i := Int.le_antisymm (hy _ m1) (m2 m hm)
            rw [em]
            exact got_val g2 rh (.int _)
      | _ => exact g'.elim
    | cons b r =>
      cases r with
      | cons _ _ => cases a <;> cases b <;> exact g'.elim
      | nil =>
        cases a with
        | int i =>
          cases b with
          | int j => exact ⟨_, call_min2 hc, i, j, rfl, got_val g' rh (.int _)⟩
          | _ => exact g'.elim
        | _ => cases b <;> exact g'.elim
/-- dict(d): a copy -/
theorem call_dcopy : CallR X (.type "dict") (fun xs H Q => ∃ a kvs, xs = [.ref a] ∧ H a = some (.dK kvs) ∧ ∀ p, H p = none → Q (.ref p) (upd H p (.dK kvs))) := fun pins s σ H xs us Q I r ⟨a, kvs, ex, e, q⟩ => by
  subst ex
  rw [Vals.ref1 r]
  exact d_copyOf I (.inl e) fun p s' hp I' => ⟨.ref p, _, I', rfl, q p hp⟩
theorem bi_dict : CallR X (.type "dict") (rBi B Wx .dict) := by
  refine CallR.dyn fun vs H Q ⟨μ, τ, ws, rh, rs, g⟩ => ?_
  have g' : Got B (RVr B) Wx μ H (bDict ws τ) Q := g
  cases rs with
  | nil => exact g'.elim
  | cons a r =>
    cases r with
    | cons _ _ => cases a <;> exact g'.elim
    | nil =>
      cases a with
      | @ref n a ha =>
        have g2 : Got B (RVr B) Wx μ H (match τ[n]? with
          | some (.dic kvs) => .ok (.ref τ.length) (τ ++ [.dic kvs])
          | _ => .no) Q := g'
        cases e : τ[n]? with
        | none => rw [e] at g2; exact g2.elim
        | some o =>
          rw [e] at g2
          obtain ⟨a', ha', ho⟩ := rh.at_ e
          obtain rfl := Option.some.inj (ha'.symm.trans ha)
          cases o with
          | dic kvs =>
            obtain ⟨qs, h0, r⟩ := ho
            refine ⟨_, call_dcopy, a', qs, rfl, h0, fun p hp => ?_⟩
            have l0 : Le B.K μ H (μ ++ [p]) (upd H p (.dK qs)) := ⟨⟨[p], rfl⟩, tup_upd (noTup_none hp)⟩
            obtain ⟨rh', l'⟩ := rh.push (o := .dic kvs) (ho := .dK qs) hp ⟨qs, upd_same, r.le l0⟩
            exact g2 _ _ _ l' rh' (.ref (by rw [← rh.len]; simp))
          | _ => exact g2.elim
      | _ => exact g'.elim
theorem bi_list (hK : X.K = B.K) : CallR X (.type "list") (rBi B Wx .list) := by
  refine CallR.dyn fun vs H Q ⟨μ, τ, ws, rh, rs, g⟩ => ?_
  have g' : Got B (RVr B) Wx μ H (bList ws τ) Q := g
  cases rs with
  | nil => exact g'.elim
  | cons a r =>
    cases r with
    | cons _ _ => cases a <;> exact g'.elim
    | nil =>
      cases a with
      | @tup a vs ws s r => exact ⟨_, call_list_of, a, vs, rfl, .inr (by rw [hK]; exact s), got_new g' rh r⟩
      | @ref n a ha =>
        have g2 : Got B (RVr B) Wx μ H (match seqOf τ n with
          | some xs => newL τ xs
          | none => .no) Q := g'
        cases e : seqOf τ n with
        | none => rw [e] at g2; exact g2.elim
        | some xs =>
          rw [e] at g2
          obtain ⟨a', vs, ha', s, r⟩ := rh.seq e
          obtain rfl := Option.some.inj (ha'.symm.trans ha)
          exact ⟨_, call_list_of, a', vs, rfl, .inl (by rw [hK]; exact s), got_new g2 rh r⟩
      | _ => exact g'.elim
theorem bi_tuple (hK : X.K = B.K) : CallR X (.type "tuple") (rBi B Wx .tuple) := by
  refine CallR.dyn fun vs H Q ⟨μ, τ, ws, rh, rs, g⟩ => ?_
  have g' : Got B (RVr B) Wx μ H (bTuple ws τ) Q := g
  cases rs with
  | nil => exact g'.elim
  | cons a r =>
    cases r with
    | cons _ _ => cases a <;> exact g'.elim
    | nil =>
      cases a with
      | @tup a vs ws s r => exact ⟨_, call_tuple_of, a, vs, rfl, .inr ⟨by rw [hK]; exact s, got_val g' rh (.tup s r)⟩⟩
      | @ref n a ha =>
        have g2 : Got B (RVr B) Wx μ H (match seqOf τ n with
          | some xs => .ok (.tup xs) τ
          | none => .no) Q := g'
        cases e : seqOf τ n with
        | none => rw [e] at g2; exact g2.elim
        | some xs =>
          rw [e] at g2
          obtain ⟨a', vs, ha', s, r⟩ := rh.seq e
          obtain rfl := Option.some.inj (ha'.symm.trans ha)
          refine ⟨_, call_tuple_of, a', vs, rfl, .inl ⟨by rw [hK]; exact s, fun p hp => ?_⟩⟩
          obtain ⟨rh', l⟩ := rh.more (ho := .tup vs) hp
          exact g2 μ _ _ l rh' (.tup (.inl (.inl upd_same)) (r.le l))
      | _ => exact g'.elim

/-- the name of a built-in, what it stands for -/
def biName : BI → Str
  | .len => "len" | .int => "int" | .str => "str" | .abs => "abs" | .max2 => "max" | .min2 => "min" | .list => "list" | .tuple => "tuple" | .dict => "dict"
def biVal : BI → Value
  | .len => .builtin "len" | .int => .type "int" | .str => .type "str" | .abs => .builtin "abs" | .max2 => .builtin "max" | .min2 => .builtin "min" | .list => .type "list" | .tuple => .type "tuple" | .dict => .type "dict"
theorem bi_any (hK : X.K = B.K) (hc : X.calm = true) : ∀ b : BI, CallR X (biVal b) (rBi B Wx b)
  | .len => bi_len hK
  | .int => bi_int
  | .str => bi_str
  | .abs => bi_abs
  | .max2 => bi_max2 hK hc
  | .min2 => bi_min2 hK hc
  | .list => bi_list hK
  | .tuple => bi_tuple hK
  | .dict => bi_dict
theorem bi_boot : ∀ b : BI, bootBuiltins (biName b) = some (biVal b) := by
  intro b
  cases b <;> decide +kernel
theorem bi_name : ∀ b : BI, biName b ≠ "__name__" ∧ (biName b == ("__debug__" : Str)) = false := by
  intro b
  cases b <;> decide +kernel

/-- t[lo::2] of a tuple -/
theorem everyO_get {α : Type} : ∀ (xs : List α) (k : Nat), (everyO xs)[k]? = xs[2 * k]?
  | [], k => by simp [everyO]
  | [x], 0 => rfl
  | [x], k + 1 => by
    have e : 2 * (k + 1) = 2 * k + 1 + 1 := by omega
    rw [e]
    rfl
  | x :: y :: r, 0 => rfl
  | x :: y :: r, k + 1 => by
    have e : 2 * (k + 1) = 2 * k + 1 + 1 := by omega
    rw [e]
    show (x :: everyO r)[k + 1]? = (y :: r)[2 * k + 1]?
    rw [List.getElem?_cons_succ, List.getElem?_cons_succ]
    exact everyO_get r k
theorem RVs.every {K : PySem.W.Frag} {μ : List Addr} {H : Hp} : ∀ {ws : List W} {vs : List V}, RVs K μ H ws vs → RVs K μ H (everyO ws) (everyO vs)
  | _, _, .nil => .nil
  | _, _, .cons a .nil => .cons a .nil
  | _, _, .cons a (.cons _ r) => .cons a (RVs.every r)
theorem Vals.every : ∀ {ws : List V} {vs : List Value}, Vals ws vs → Vals (everyO ws) (everyO vs)
  | _, _, .nil => .nil
  | _, _, .cons a .nil => .cons a .nil
  | _, _, .cons a (.cons _ r) => .cons a (Vals.every r)
theorem everyO_len {α : Type} : ∀ (xs : List α), (everyO xs).length = (xs.length + 1) / 2
  | [] => by simp [everyO]
  | [x] => by simp [everyO]
  | x :: y :: r => by
    show (everyO r).length + 1 = (r.length + 2 + 1) / 2
    rw [everyO_len r]
    omega
theorem every_pick (xs : Array Value) (lo n : Nat) (hn : n = (xs.size - lo + 1) / 2) : ((List.range n).filterMap fun (k : Nat) => xs[((lo : Int) + (k : Int) * 2).toNat]?).toArray = (everyO (xs.toList.drop lo)).toArray := by
  have e : (fun (k : Nat) => xs[((lo : Int) + (k : Int) * 2).toNat]?) = fun k => (everyO (xs.toList.drop lo))[k]? := by
    funext k
    rw [everyO_get, List.getElem?_drop, ← Array.getElem?_toList]
    congr 1
    omega
  rw [e]
  have hl : n = (everyO (xs.toList.drop lo)).length := by
    rw [everyO_len, List.length_drop, Array.length_toList, hn]
  rw [hl]
  generalize everyO (xs.toList.drop lo) = zs
  congr 1
  apply List.ext_getElem?
  intro i
  have : ∀ (m : Nat) (zs : List Value), m ≤ zs.length → (List.range m).filterMap (fun k => zs[k]?) = zs.take m := by
    intro m zs
    induction m with
    | zero => intro _; rfl
    | succ m ih =>
      intro h
      rw [List.range_succ, List.filterMap_append, ih (by omega), List.take_succ]
      simp [List.getElem?_eq_getElem (show m < zs.length from h)]
  rw [this _ _ (Nat.le_refl _), List.take_length]
theorem sliceApplied_two {prog : Program} {w : World} {A : Around} {E : Value → Shared → Prop} {s : Shared} {sl : Addr} {vl vs : Value} {lo : Option Int} {l n : Nat} {Q : Int × Int × Nat → Shared → Prop} (hs : s.heap.IsSliceOf sl vl .none vs) (pl : IsPart vl lo) (ps : IsPart vs (some 2)) (hl : (lo = none ∧ l = 0) ∨ (lo = some 1 ∧ l = min 1 n))
    (h : Q ((l : Int), 2, (n - l + 1) / 2) s) : wpAny (model prog w) A (Builtin.Slice.sliceApplied (.ref sl) (pure (n : Int))) Q E s := by
  obtain ⟨os, hos, hcs, hds⟩ := id hs
  unfold Builtin.Slice.sliceApplied Builtin.Slice.sliceFields
  refine wpAny_bind (wpAny_bind (wpAny_field hos hds (x := vl) rfl (wpAny_bind (wpAny_field hos hds (x := .none) rfl (wpAny_bind (wpAny_field hos hds (x := vs) rfl (wpAny_pure ?_)))))))
  refine wpAny_bind (HT.slicePart_ ps ?_)
  show wpAny _ _ (if ((2 : Int) == 0) = true then _ else _) _ _ s
  rw [if_neg (by decide)]
  refine wpAny_bind (HT.slicePart_ pl (wpAny_bind (HT.slicePart_ (o := none) .none (wpAny_bind (wpAny_pure ?_)))))
  show wpAny _ _ (match Builtin.Slice.sliceAdjust lo none 2 (n : Int) with | (lo, hi) => pure (lo, (2 : Int), Builtin.Slice.slicePlaces lo hi 2)) _ _ s
  have e : Builtin.Slice.sliceAdjust lo none 2 (n : Int) = ((l : Int), (n : Int)) := by
    rcases hl with ⟨rfl, rfl⟩ | ⟨rfl, rfl⟩
    · simp [Builtin.Slice.sliceAdjust]
    · simp [Builtin.Slice.sliceAdjust]
      omega
  rw [e]
  have e2 : Builtin.Slice.slicePlaces (l : Int) (n : Int) 2 = (n - l + 1) / 2 := by
    unfold Builtin.Slice.slicePlaces
    simp
    split <;> omega
  show wpAny _ _ (pure ((l : Int), (2 : Int), Builtin.Slice.slicePlaces (l : Int) (n : Int) 2)) _ _ s
  rw [e2]
  exact wpAny_pure h

/-! ### methods of built-in types -/
def rBm (B : Bs) (Wx : WX) (m : BM) : V → List V → Hp → VK → Prop := fun x vs H Q => ∃ μ τ w ws, RH B.K B.Cl μ τ H ∧ RV B.K μ H w x ∧ RVs B.K μ H ws vs ∧ Got B (RVr B) Wx μ H (bmeth m w ws τ) Q
theorem MtR.dyn {id : String} {r' : V → List V → Hp → VK → Prop} (k : ∀ x xs H Q, r' x xs H Q → ∃ r, MtR X id r ∧ r x xs H Q) : MtR X id r' := fun pins s σ H x xs v us Q I r1 r2 q => by
  obtain ⟨r, h, q'⟩ := k x xs H Q q
  exact h pins s σ H x xs v us Q I r1 r2 q'
theorem bm_append : MtR X "list.append" (rBm B Wx .append) := by
  refine MtR.dyn fun x vs H Q ⟨μ, τ, w, ws, rh, rx, rs, g⟩ => ?_
  have g' : Got B (RVr B) Wx μ H (mAppend w ws τ) Q := g
  cases rx with
  | @ref n a ha =>
    cases rs with
    | nil => exact g'.elim
    | @cons y v _ _ b r =>
      cases r with
      | cons _ _ => exact g'.elim
      | nil =>
        have g2 : Got B (RVr B) Wx μ H (match τ[n]? with
          | some (.lst xs) => if xs.length < sizeLine then .ok .non (τ.set n (.lst (xs ++ [y]))) else .no
          | _ => .no) Q := g'
        cases e : τ[n]? with
        | none => rw [e] at g2; exact g2.elim
        | some o =>
          rw [e] at g2
          obtain ⟨a', ha', ho⟩ := rh.at_ e
          obtain rfl := Option.some.inj (ha'.symm.trans ha)
          cases o with
          | lst ys =>
            dsimp only at g2
            split at g2
            · rename_i hc
              obtain ⟨vs, h0, r⟩ := ho
              refine ⟨_, mt_append, a', vs, v, rfl, rfl, h0, by rw [← r.length]; exact hc, ?_⟩
              have l : Le B.K μ H μ (upd H a' (.lst (vs ++ [v]))) := ⟨⟨[], by simp⟩, tup_upd (noTup_lst h0)⟩
              obtain ⟨rh', l'⟩ := rh.put (o := .lst (ys ++ [y])) (ho := .lst (vs ++ [v])) ha e (fun xs z => by cases z) (noTup_lst h0) ⟨_, upd_same, (r.append (.cons b .nil)).le l⟩
              exact g2 _ _ _ l' rh' .non
            · exact g2.elim
          | _ => exact g2.elim
  | _ => exact g'.elim
theorem bm_pop : MtR X "list.pop" (rBm B Wx .pop) := by
  refine MtR.dyn fun x vs H Q ⟨μ, τ, w, ws, rh, rx, rs, g⟩ => ?_
  have g' : Got B (RVr B) Wx μ H (mPop w ws τ) Q := g
  cases rx with
  | @ref n a ha =>
    cases rs with
    | cons _ _ => exact g'.elim
    | nil =>
      have g2 : Got B (RVr B) Wx μ H (match τ[n]? with
        | some (.lst xs) => match xs[xs.length - 1]? with
          | some y => .ok y (τ.set n (.lst xs.dropLast))
          | none => .no
        | _ => .no) Q := g'
      cases e : τ[n]? with
      | none => rw [e] at g2; exact g2.elim
      | some o =>
        rw [e] at g2
        obtain ⟨a', ha', ho⟩ := rh.at_ e
        obtain rfl := Option.some.inj (ha'.symm.trans ha)
        cases o with
        | lst ys =>
          dsimp only at g2
          cases e2 : ys[ys.length - 1]? with
          | none => rw [e2] at g2; exact g2.elim
          | some y =>
            rw [e2] at g2
            obtain ⟨vs, h0, r⟩ := ho
            obtain ⟨v, hv, rv⟩ := r.get e2
            refine ⟨_, mt_pop, a', vs, v, rfl, rfl, h0, by rw [← r.length]; exact hv, ?_⟩
            have l : Le B.K μ H μ (upd H a' (.lst vs.dropLast)) := ⟨⟨[], by simp⟩, tup_upd (noTup_lst h0)⟩
            obtain ⟨rh', l'⟩ := rh.put (o := .lst ys.dropLast) (ho := .lst vs.dropLast) ha e (fun xs z => by cases z) (noTup_lst h0) ⟨_, upd_same, r.dropLast.le l⟩
            exact g2 _ _ _ l' rh' (rv.le l)
        | _ => exact g2.elim
  | _ => exact g'.elim
theorem bm_starts : MtR X "str.startswith" (rBm B Wx .startswith) := by
  refine MtR.dyn fun x vs H Q ⟨μ, τ, w, ws, rh, rx, rs, g⟩ => ?_
  have g' : Got B (RVr B) Wx μ H (mStarts w ws τ) Q := g
  cases rx with
  | str a =>
    cases rs with
    | nil => exact g'.elim
    | cons b r =>
      cases r with
      | cons _ _ => cases b <;> exact g'.elim
      | nil =>
        cases b with
        | str b => exact ⟨_, mt_startswith, a, b, rfl, rfl, got_val g' rh (.bl _)⟩
        | _ => exact g'.elim
  | _ => exact g'.elim
theorem bm_split : MtR X "str.split" (rBm B Wx .split) := by
  refine MtR.dyn fun x vs H Q ⟨μ, τ, w, ws, rh, rx, rs, g⟩ => ?_
  have g' : Got B (RVr B) Wx μ H (mSplit w ws τ) Q := g
  cases rx with
  | str a =>
    cases rs with
    | nil => exact g'.elim
    | cons b r =>
      cases r with
      | cons _ _ => cases b <;> exact g'.elim
      | nil =>
        cases b with
        | str b =>
          have g2 : Got B (RVr B) Wx μ H (if (b.length == 0) = false ∧ a.length + 2 ≤ sizeLine then newL τ ((Txt.split a b).map .str) else .no) Q := g'
          split at g2
          · rename_i hc
            exact ⟨_, mt_split, a, b, rfl, rfl, hc.1, hc.2, got_new g2 rh (RVs.strs _)⟩
          · exact g2.elim
        | _ => exact g'.elim
  | _ => exact g'.elim
theorem idxF_rv {μ : List Addr} {H : Hp} {w : W} {v : V} (r : RV B.K μ H w v) (hf : flat w = true) : ∀ {xs : List W} {vs : List V} {j : Nat}, RVs B.K μ H xs vs → xs.all flat = true → idxF w xs = some j →
    (∃ z, vs[j]? = some z ∧ eqV z v = true) ∧ ∀ (m : Nat) (z' : V), m < j → vs[m]? = some z' → eqV z' v = false
  | _, _, _, .nil, _, h => by cases h
  | x :: xs, u :: us, j, .cons a b, hc, h => by
    rw [List.all_cons, Bool.and_eq_true] at hc
    have he := eqF_rv a r hc.1 hf
    unfold idxF at h
    split at h
    · rename_i e
      cases h
      exact ⟨⟨u, rfl, by rw [he, e]⟩, fun m z' hm => absurd hm (Nat.not_lt_zero _)⟩
    · rename_i e
      cases h2 : idxF w xs with
      | none => rw [h2] at h; cases h
      | some i =>
        rw [h2] at h
        cases h
        obtain ⟨⟨z, hz, hz2⟩, hn⟩ := idxF_rv r hf b hc.2 h2
        refine ⟨⟨z, by simpa using hz, hz2⟩, fun m z' hm hz' => ?_⟩
        cases m with
        | zero =>
          simp at hz'
          subst hz'
          rw [he]
          exact Bool.eq_false_iff.mpr e
        | succ m => exact hn m z' (Nat.lt_of_succ_lt_succ hm) (by simpa using hz')
theorem bm_index (hK : X.K = B.K) : MtR X "list.index" (rBm B Wx .index) := by
  refine MtR.dyn fun x vs H Q ⟨μ, τ, w, ws, rh, rx, rs, g⟩ => ?_
  have g' : Got B (RVr B) Wx μ H (mIndex w ws τ) Q := g
  cases rx with
  | @ref n a ha =>
    cases rs with
    | nil => exact g'.elim
    | @cons y v _ _ b r =>
      cases r with
      | cons _ _ => exact g'.elim
      | nil =>
        have g2 : Got B (RVr B) Wx μ H (match seqOf τ n with
          | some xs => if flat y = true ∧ xs.all flat = true then (match idxF y xs with
            | some j => .ok (.int (j : Int)) τ
            | none => .no) else .no
          | none => .no) Q := g'
        cases e : seqOf τ n with
        | none => rw [e] at g2; exact g2.elim
        | some xs =>
          rw [e] at g2
          dsimp only at g2
          obtain ⟨a', us, ha', s, r⟩ := rh.seq e
          obtain rfl := Option.some.inj (ha'.symm.trans ha)
          split at g2
          · rename_i hc
            cases e2 : idxF y xs with
            | none => rw [e2] at g2; exact g2.elim
            | some j =>
              rw [e2] at g2
              obtain ⟨⟨z, hz, hz2⟩, hn⟩ := idxF_rv b hc.1 r hc.2 e2
              have hfl : us.all flatV = true := by
                clear hz hz2 hn e2 g2 e
                have hc2 := hc.2
                clear hc
                have : ∀ {xs : List W} {us : List V}, RVs B.K μ H xs us → xs.all flat = true → us.all flatV = true := by
                  intro xs us r
                  induction us generalizing xs with
                  | nil => intro _; rfl
                  | cons u us ih =>
                    cases r with
                    | cons a b =>
                      intro h
                      rw [List.all_cons, Bool.and_eq_true] at h
                      rw [List.all_cons, flat_rv a h.1, ih b h.2]
                      rfl
                exact this r hc2
              exact ⟨_, mt_index, a', us, v, j, z, rfl, rfl, by rw [hK]; exact s, flat_rv b hc.1, hfl, hz, hz2, hn, got_val g2 rh (.int _)⟩
          · exact g2.elim
  | _ => exact g'.elim
theorem strsOf_rv {μ : List Addr} {H : Hp} : ∀ {xs : List W} {vs : List V} {ys : List Str}, RVs B.K μ H xs vs → strsOf xs = some ys → vs = ys.map V.str
  | _, _, _, .nil, h => by cases h; rfl
  | x :: r, _, ys, .cons a b, h => by
    unfold strsOf mapO at h
    cases a with
    | str z =>
      cases q2 : mapO strOf r with
      | none => simp [strOf, q2] at h
      | some e2 =>
        simp [strOf, q2] at h
        subst h
        rw [strsOf_rv b (ys := e2) q2] <;> rfl
    | _ => simp [strOf] at h
theorem bm_join (hK : X.K = B.K) : MtR X "str.join" (rBm B Wx .join) := by
  refine MtR.dyn fun x vs H Q ⟨μ, τ, w, ws, rh, rx, rs, g⟩ => ?_
  have g' : Got B (RVr B) Wx μ H (mJoin w ws τ) Q := g
  cases rx with
  | str a =>
    cases rs with
    | nil => exact g'.elim
    | cons b r =>
      cases r with
      | cons _ _ => cases b <;> exact g'.elim
      | nil =>
        cases b with
        | @ref n p hp =>
          have g2 : Got B (RVr B) Wx μ H (match (seqOf τ n).bind strsOf with
            | some ys => if (ys.map (·.length)).sum + ys.length * a.length ≤ 16777216 then .ok (.str (Txt.join a ys)) τ else .no
            | none => .no) Q := g'
          cases e : seqOf τ n with
          | none => rw [e] at g2; exact g2.elim
          | some xs =>
            rw [e] at g2
            dsimp only [Option.bind_some] at g2
            cases e2 : strsOf xs with
            | none => rw [e2] at g2; exact g2.elim
            | some ys =>
              rw [e2] at g2
              dsimp only at g2
              split at g2
              · rename_i hc
                obtain ⟨a', vs, ha', s, r⟩ := rh.seq e
                obtain rfl := Option.some.inj (ha'.symm.trans hp)
                have ev := strsOf_rv r e2
                subst ev
                exact ⟨_, mt_join, a, a', ys, rfl, rfl, .inl (by rw [hK]; exact s), hc, got_val g2 rh (.str _)⟩
              · exact g2.elim
        | _ => exact g'.elim
  | _ => exact g'.elim
end
end Mi
/-! Mi5: the look at expressions; an expression that passes it runs as the small language says. -/
namespace Mi
open PySem PySem.Spec PyProof.Rows L2

theorem ff {P : Prop} (h : false = true) : P := Bool.noConfusion h
/-- where a text stands: the names by slots, the scope, the names that may be stored -/
structure Sx where
  N : List Str
  sc : Scope
  own : List (Str × NameKind)
/-- what the module's names mean -/
structure Gt where
  fn : Str → Option Nat
  cl : Str → Option Nat
  con : Str → Option W
  bi : Str → Bool
  xc : Str → Option Nat
  tc : Str → Option Nat
  kf : Str → Bool

def visB (sc : Scope) (x : Str) : Bool := match sc.names.lookup x with
  | some .local => true | some .cell => true | some .free => true | _ => false
def glB (sc : Scope) (x : Str) : Bool := match sc.names.lookup x with
  | some .globalImplicit => true | _ => false
def ownB (Z : Sx) (x : Str) : Bool := match Z.own.lookup x with
  | some .local => true | some .cell => true | _ => false
def plainName (x : Str) : Bool := !(x == ("__debug__" : Str)) && !(x == ("__classdict__" : Str))
def noStar : Expr → Bool
  | .Starred _ _ => false | _ => true
def notSet : Expr → Bool
  | .Set _ _ _ => false | _ => true
def plainBase : Expr → Bool
  | .Call (.Name _ _) [] [] _ => false | _ => true
def plainT : Expr → Bool
  | .UnaryOp .Not _ _ => false | .BoolOp _ _ _ => false | .IfExp _ _ _ _ => false | .Compare _ _ _ _ => false | _ => true
def notSlice : Expr → Bool
  | .Slice _ _ _ _ => false | _ => true
def conB : Const → W → Bool
  | .none, .non => true
  | .bool b, .bl c => b == c
  | .int i, .int j => i == j
  | .str x, .str y => x == y
  | _, _ => false
mutual
def eqbW : W → W → Bool
  | .non, .non => true
  | .bl a, .bl b => a == b
  | .int a, .int b => a == b
  | .str a, .str b => a == b
  | .tup xs, .tup ys => eqbWs xs ys
  | .ref n, .ref m => n == m
  | _, _ => false
def eqbWs : List W → List W → Bool
  | [], [] => true
  | x :: r, y :: s => eqbW x y && eqbWs r s
  | _, _ => false
end
mutual
theorem eqbW_eq : ∀ {a b : W}, eqbW a b = true → a = b
  | .non, b, h => by cases b <;> simp [eqbW] at h; rfl
  | .bl x, b, h => by cases b <;> simp [eqbW] at h; rw [h]
  | .int x, b, h => by cases b <;> simp [eqbW] at h; rw [h]
  | .str x, b, h => by cases b <;> simp [eqbW] at h; rw [h]
  | .ref x, b, h => by cases b <;> simp [eqbW] at h; rw [h]
  | .tup xs, b, h => by
    cases b with
    | tup ys =>
      have h' : eqbWs xs ys = true := by simpa [eqbW] using h
      rw [eqbWs_eq h']
    | _ => simp [eqbW] at h
theorem eqbWs_eq : ∀ {a b : List W}, eqbWs a b = true → a = b
  | [], b, h => by cases b <;> simp [eqbWs] at h; rfl
  | x :: r, b, h => by
    cases b with
    | nil => simp [eqbWs] at h
    | cons y s =>
      have h' : eqbW x y = true ∧ eqbWs r s = true := by simpa [eqbWs] using h
      rw [eqbW_eq h'.1, eqbWs_eq h'.2]
end
def isRef : W → Bool
  | .ref _ => true | _ => false

def chkG (Z : Sx) : G → Expr → Bool
  | .name i, .Name x _ => decide (Z.N[i]? = some x) && ownB Z x
  | .tup is, .Tuple es _ _ => decide (es.length = is.length) && (is.zip es).all fun p => match p.2 with
    | .Name x _ => decide (Z.N[p.1]? = some x) && ownB Z x
    | _ => false
  | _, _ => false
def ownOf (N : List Str) (vs : List Nat) : List (Str × Nat) := vs.filterMap fun i => (N[i]?).map fun x => (x, i)
def gIn (g : G) (vs : List Nat) : Bool := match g with
  | .name i => decide (i ∈ vs)
  | .tup is => is.all fun i => decide (i ∈ vs)
def isTupT : Expr → Bool
  | .Tuple _ _ _ => true | _ => false

structure Ck where
  e : Expr → Bool
  t : Expr → Bool := fun x => plainT x && e x
  a : List Expr → Bool := fun _ => false
  p : Option Expr → Bool := fun o => match o with
    | some x => e x
    | none => false
  i : Expr → Expr → Bool := fun _ _ => false
  ts : List Expr → Bool := fun l => match l with
    | [x] => t x
    | _ => false
  bs : List Expr → Bool := fun _ => false

def bmName : BM → Str
  | .append => "append" | .pop => "pop" | .popAt => "pop" | .startswith => "startswith" | .split => "split" | .join => "join" | .index => "index"
def bmMany : BM → Nat
  | .append => 1 | .pop => 0 | .popAt => 1 | .startswith => 1 | .split => 1 | .join => 1 | .index => 1
def tyName : Ty → String
  | .none => "NoneType" | .bool => "bool" | .int => "int" | .str => "str" | .tuple => "tuple" | .list => "list" | .dict => "dict"

def isiArgs : Expr → Option (Str × Expr × Str)
  | .Call (.Name n _) [u, .Name ty _] [] _ => some (n, u, ty)
  | _ => none
theorem isiArgs_of {x u : Expr} {n ty : Str} (h : isiArgs x = some (n, u, ty)) : ∃ p p2 pos, x = .Call (.Name n p) [u, .Name ty p2] [] pos := by
  unfold isiArgs at h
  split at h
  · cases h; exact ⟨_, _, _, rfl⟩
  · cases h

def lcArgs : Expr → Option (Expr × Expr × Expr × List Expr × Scope)
  | .ListComp el [⟨tg, iter, ifs, 0⟩] scope _ => some (el, tg, iter, ifs, scope)
  | _ => none
theorem lcArgs_of {x el tg iter : Expr} {ifs : List Expr} {scope : Scope} (h : lcArgs x = some (el, tg, iter, ifs, scope)) : ∃ pos, x = .ListComp el [⟨tg, iter, ifs, 0⟩] scope pos := by
  unfold lcArgs at h
  split at h
  · cases h; exact ⟨_, rfl⟩
  · cases h
def callArgs : Expr → Option (Str × List Expr)
  | .Call (.Name n _) es [] _ => some (n, es)
  | _ => none
theorem callArgs_of {x : Expr} {n : Str} {es : List Expr} (h : callArgs x = some (n, es)) : ∃ p pos, x = .Call (.Name n p) es [] pos := by
  unfold callArgs at h
  split at h
  · cases h; exact ⟨_, _, rfl⟩
  · cases h
def mArgs : Expr → Option (Expr × Str × Pos × List Expr × Pos)
  | .Call (.Attribute u n ap) es [] cp => some (u, n, ap, es, cp)
  | _ => none
theorem mArgs_of {x u : Expr} {n : Str} {ap cp : Pos} {es : List Expr} (h : mArgs x = some (u, n, ap, es, cp)) : x = .Call (.Attribute u n ap) es [] cp := by
  unfold mArgs at h
  split at h
  · cases h; rfl
  · cases h

def everyArgs : Expr → Option (Expr × Nat)
  | .Subscript u (.Slice none none (some (.Constant (.int i) _ _)) _) _ => if i = 2 then some (u, 0) else none
  | .Subscript u (.Slice (some (.Constant (.int j) _ _)) none (some (.Constant (.int i) _ _)) _) _ => if i = 2 ∧ j = 1 then some (u, 1) else none
  | _ => none
theorem everyArgs_of {x u : Expr} {k : Nat} (h : everyArgs x = some (u, k)) : (k = 0 ∧ ∃ a b c d, x = .Subscript u (.Slice none none (some (.Constant (.int 2) a b)) c) d) ∨ (k = 1 ∧ ∃ a b a2 b2 c d, x = .Subscript u (.Slice (some (.Constant (.int 1) a2 b2)) none (some (.Constant (.int 2) a b)) c) d) := by
  unfold everyArgs at h
  split at h
  · split at h
    · rename_i e
      cases h
      subst e
      exact .inl ⟨rfl, _, _, _, _, rfl⟩
    · cases h
  · split at h
    · rename_i e
      cases h
      obtain ⟨rfl, rfl⟩ := e
      exact .inr ⟨rfl, _, _, _, _, _, _, rfl⟩
    · cases h
  · cases h
/-- a display's keys in the text -/
def keysB : E → List (Option Expr) → Bool
  | .nil, [] => true
  | .cons (.con w) r, some (.Constant c _ _) :: l => conB c w && keysB r l
  | _, _ => false

def chk (G : Gt) : E → Sx → Ck
  | .var i, Z => { e := fun x => match x with
      | .Name n _ => decide (Z.N[i]? = some n) && visB Z.sc n && plainName n
      | _ => false }
  | .con w, Z => { e := fun x => match x with
      | .Constant c _ _ => conB c w
      | .Name n _ => glB Z.sc n && plainName n && !(isRef w) && (match G.con n with
        | some u => eqbW u w
        | none => false)
      | _ => false }
  | .nil, _ => { e := fun _ => false, a := fun l => l.isEmpty, p := fun o => o.isNone, ts := fun l => l.isEmpty, bs := fun l => l.isEmpty }
  | .cons a r, Z => { e := fun _ => false, a := fun l => match l with
      | x :: y => noStar x && (chk G a Z).e x && (chk G r Z).a y
      | [] => false,
                      p := fun _ => false, ts := fun _ => false, bs := fun l => match l with
      | x :: y => (chk G a Z).t x && (chk G r Z).bs y
      | [] => false }
  | .op o a b, Z => { e := fun x => match x with
      | .BinOp l o' r _ => decide (o' = o) && (chk G a Z).e l && (chk G b Z).e r
      | _ => false }
  | .neg a, Z => { e := fun x => match x with
      | .UnaryOp .USub y _ => (chk G a Z).e y
      | _ => false }
  | .cmp o a b, Z => { e := fun x => match x with
      | .Compare l [o'] [r] _ => decide (o' = o) && notSet r && (chk G a Z).e l && (chk G b Z).e r
      | _ => false,
                       t := fun x => match x with
      | .Compare l [o'] [r] _ => decide (o' = o) && notSet r && (chk G a Z).e l && (chk G b Z).e r
      | _ => false }
  | .chain o o2 a b c, Z => {
                       e := fun x => match x with
      | .Compare l [o', o2'] [r, s] _ => decide (o' = o) && decide (o2' = o2) && notSet s && (chk G a Z).e l && (chk G b Z).e r && (chk G c Z).e s
      | _ => false,
                       t := fun x => match x with
      | .Compare l [o', o2'] [r, s] _ => decide (o' = o) && decide (o2' = o2) && notSet s && (chk G a Z).e l && (chk G b Z).e r && (chk G c Z).e s
      | _ => false }
  | .conj as, Z => { e := fun x => match x with
      | .BoolOp .And vs _ => (chk G as Z).a vs && !vs.isEmpty
      | _ => false,
                     t := fun x => match x with
      | .BoolOp .And vs _ => (chk G as Z).bs vs && !vs.isEmpty
      | _ => false }
  | .disj as, Z => { e := fun x => match x with
      | .BoolOp .Or vs _ => (chk G as Z).a vs && !vs.isEmpty
      | _ => false,
                     t := fun x => match x with
      | .BoolOp .Or vs _ => (chk G as Z).bs vs && !vs.isEmpty
      | _ => false }
  | .not a, Z => { e := fun x => match x with
      | .UnaryOp .Not y _ => (chk G a Z).e y
      | _ => false,
                   t := fun x => match x with
      | .UnaryOp .Not y _ => (chk G a Z).t y
      | _ => false }
  | .ite t a b, Z => { e := fun x => match x with
      | .IfExp u v w _ => (chk G t Z).t u && (chk G a Z).e v && (chk G b Z).e w
      | _ => false,
                       t := fun _ => false }
  | .tup as, Z => { e := fun x => match x with
      | .Tuple es _ _ => (chk G as Z).a es
      | _ => false }
  | .lst as, Z => { e := fun x => match x with
      | .List es _ => (chk G as Z).a es
      | _ => false }
  | .dic ks vs, Z => { e := fun x => match x with
      | .Dict es fs _ => keysB ks es && decide (es.length = fs.length) && (es.isEmpty || (chk G vs Z).a fs)
      | _ => false }
  | .ix a b, Z => { e := fun x => match x with
      | .Subscript u v _ => notSlice v && (chk G a Z).e u && (chk G b Z).e v
      | _ => false }
  | .every lo a, Z => { e := fun x => match everyArgs x with
      | some (u, k) => decide (k = lo) && (chk G a Z).e u
      | none => false }
  | .slice a lo hi, Z => { e := fun x => match x with
      | .Subscript u (.Slice l h none _) _ => (chk G a Z).e u && (chk G lo Z).p l && (chk G hi Z).p h
      | _ => false }
  | .dget d k, Z => { e := fun x => match mArgs x with
      | some (u, n, ap, es, cp) => decide (n = "get") && plainBase u && (ap.endLine == cp.line) && (chk G d Z).e u && (match es with
        | [e] => noStar e && (chk G k Z).e e
        | _ => false)
      | none => false }
  | .dget2 d k x0, Z => { e := fun x => match mArgs x with
      | some (u, n, ap, es, cp) => decide (n = "get") && plainBase u && (ap.endLine == cp.line) && (chk G d Z).e u && (match es with
        | [e, f] => noStar e && noStar f && (chk G k Z).e e && (chk G x0 Z).e f
        | _ => false)
      | none => false }
  | .fld a f, Z => { e := fun x => match x with
      | .Attribute u n _ => decide (n = f) && plainBase u && (chk G a Z).e u
      | _ => false }
  | .call f as, Z => { e := fun x => match x with
      | .Call (.Name n _) es [] _ => glB Z.sc n && plainName n && decide (G.fn n = some f) && (chk G as Z).a es
      | _ => false }
  | .meth m o as, Z => { e := fun x => match mArgs x with
      | some (u, n, ap, es, cp) => decide (n = m) && plainBase u && (ap.endLine == cp.line) && decide (es.length < 29) && (chk G o Z).e u && (chk G as Z).a es
      | none => false }
  | .make c as, Z => { e := fun x => match callArgs x with
      | some (n, es) => glB Z.sc n && plainName n && decide (G.cl n = some c) && (chk G as Z).a es
      | none => false }
  | .bi b as, Z => { e := fun x => match x with
      | .Call (.Name n _) es [] _ => glB Z.sc n && decide (n = biName b) && G.bi n && !es.isEmpty && (chk G as Z).a es
      | _ => false }
  | .isi a t, Z => { e := fun x => match isiArgs x with
      | some (n, u, ty) => glB Z.sc n && decide (n = "isinstance") && G.bi n && glB Z.sc ty && decide (ty = Str.ofString (tyName t)) && decide (t ≠ .none) && G.bi ty && noStar u && (chk G a Z).e u
      | none => false }
  | .bm m o as, Z => { e := fun x => match mArgs x with
      | some (u, n, ap, es, cp) => decide (n = bmName m) && plainBase u && (ap.endLine == cp.line) && decide (es.length = bmMany m) && (chk G o Z).e u && (chk G as Z).a es
      | none => false }
  | .lc g it ts elt vs, Z => { e := fun x => match lcArgs x with
      | some (el, tg, iter, ifs, scope) => notSet iter && (chk G it Z).i tg iter && blkC Z.N Z.sc scope (ownOf Z.N vs) && decide ((ownOf Z.N vs).map (·.2) = vs) && gIn g vs &&
          chkG ⟨Z.N, relS scope Z.sc, scope.names⟩ g tg && (chk G ts ⟨Z.N, relS scope Z.sc, scope.names⟩).ts ifs && (chk G elt ⟨Z.N, relS scope Z.sc, scope.names⟩).e el
      | none => false }
  | .seq a, Z => { e := fun _ => false, i := fun _ x => notSet x && (chk G a Z).e x }
  | .dzip as, Z => { e := fun x => match callArgs x with
      | some (n, [y]) => match callArgs y with
        | some (m, es) => glB Z.sc n && decide (n = "dict") && G.bi n && glB Z.sc m && decide (m = "zip") && G.bi m && decide (es.length = 2) && (chk G as Z).a es
        | none => false
      | _ => false }
  | .rng as, Z => { e := fun _ => false, i := fun _ x => match callArgs x with
      | some (n, es) => glB Z.sc n && decide (n = "range") && G.bi n && (decide (es.length = 1) || decide (es.length = 2) || decide (es.length = 3)) && (chk G as Z).a es
      | none => false }
  | .zip as, Z => { e := fun _ => false, i := fun tg x => match callArgs x with
      | some (n, es) => isTupT tg && glB Z.sc n && decide (n = "zip") && G.bi n && (decide (es.length = 2) || decide (es.length = 3)) && (chk G as Z).a es
      | none => false }
  | .enum a, Z => { e := fun _ => false, i := fun tg x => match callArgs x with
      | some (n, es) => isTupT tg && glB Z.sc n && decide (n = "enumerate") && G.bi n && (match es with
        | [u] => noStar u && (chk G a Z).e u
        | _ => false)
      | none => false }
  | .rev a, Z => { e := fun _ => false, i := fun tg x => match callArgs x with
      | some (n, es) => glB Z.sc n && decide (n = "reversed") && G.bi n && (match es with
        | [u] => noStar u && (chk G a Z).e u
        | _ => false)
      | none => false }

/-! ### lemmas of the text -/
theorem star_cons {e : Expr} {es : List Expr} {env : Env} (h : noStar e = true) : starEach (e :: es) env = (false, eval e env) :: starEach es env := by
  cases e <;> first | rfl | exact ff h
def noStars (es : List Expr) : Bool := es.all noStar
theorem star_plain {env : Env} {pos : Pos} : ∀ {es : List Expr}, noStars es = true → (backTo pos (starEach es env)).any (·.1) = false
  | [], _ => rfl
  | e :: es, h => by
    have h' : noStar e = true ∧ noStars es = true := by
      have := h
      unfold noStars at this ⊢
      rw [List.all_cons, Bool.and_eq_true] at this
      exact this
    rw [star_cons h'.1]
    show (false || (backTo pos (starEach es env)).any (·.1)) = false
    rw [Bool.false_or]
    exact star_plain h'.2
theorem star_all {env : Env} {pos : Pos} : ∀ {es : List Expr}, noStars es = true → (backTo pos (starEach es env)).all (fun x => !x.1) = true
  | [], _ => rfl
  | e :: es, h => by
    have h' : noStar e = true ∧ noStars es = true := by
      have := h
      unfold noStars at this ⊢
      rw [List.all_cons, Bool.and_eq_true] at this
      exact this
    rw [star_cons h'.1]
    show (true && (backTo pos (starEach es env)).all (fun x => !x.1)) = true
    rw [Bool.true_and]
    exact star_all h'.2
theorem fold_set {e : Expr} {env : Env} (h : notSet e = true) : ∀ x, foldedSetIterable e env x = pure x := by
  intro x
  cases e <;> first | rfl | exact ff h
theorem behind_set {e : Expr} {op : CmpOp} (h : notSet e = true) : behindInMarks op e = false := by
  cases e <;> first | rfl | exact ff h
theorem base_plain {o : Expr} {m : Str} {env : Env} (h : plainBase o = true) : attributeBase o m env (eval o env) = eval o env := by
  cases o with
  | Call f as kws pos =>
    cases f with
    | Name n p =>
      cases as with
      | nil =>
        cases kws with
        | nil => exact ff h
        | cons _ _ => rfl
      | cons _ _ => rfl
    | _ => rfl
  | _ => rfl
theorem test_plain {e : Expr} {env : Env} (h : plainT e = true) : ∀ whole, isTrue e env whole = (do let v ← whole; standAt e.pos; holding [v] (truthy v)) := by
  intro whole
  cases e with
  | UnaryOp op x p => cases op <;> first | rfl | exact ff h
  | BoolOp _ _ _ => exact ff h
  | IfExp _ _ _ _ => exact ff h
  | Compare _ _ _ _ => exact ff h
  | _ => rfl
theorem sl_plain {e : Expr} (h : notSlice e = true) : ∀ o i, subscripted e false o i = operate [o, i] (getItem o i) := by
  intro o i
  cases e <;> first | rfl | exact ff h
theorem chk_stars (G : Gt) (Z : Sx) : ∀ (ir : E) {es : List Expr}, (chk G ir Z).a es = true → noStars es = true := by
  intro ir
  induction ir with
  | nil =>
    intro es h
    cases es with
    | nil => rfl
    | cons _ _ => exact ff h
  | cons a r iha ihr =>
    intro es h
    cases es with
    | nil => rfl
    | cons e es =>
      have h' : (noStar e && (chk G a Z).e e && (chk G r Z).a es) = true := h
      rw [Bool.and_eq_true, Bool.and_eq_true] at h'
      unfold noStars
      rw [List.all_cons, h'.1.1, Bool.true_and]
      exact ihr h'.2
  | _ => intro es h; exact ff h

theorem meth_form {o : Expr} {m : Str} {es : List Expr} {ap cp : Pos} {env : Env} (hb : plainBase o = true) (hl : (ap.endLine == cp.line) = true) (hn : noStars es = true) (hm : es.length < 29) :
    eval (.Call (.Attribute o m ap) es [] cp) env = (do
      let ov ← eval o env
      standAt ap.atName
      let (f, first) ← holding [ov] (getMethod ov m (do return (← importBound o env).getD true))
      callWith cp f first (backTo cp (starEach es env)) (backToKw cp (keywordEach [] env))) := by
  have e1 : methodCallForm (es.length + 0) (backTo cp (starEach es env)) (backToKw cp (keywordEach [] env)) = true := by
    unfold methodCallForm
    rw [star_all hn]
    show (true && true && decide (es.length + 0 + 0 < 30)) = true
    rw [decide_eq_true (by omega)] <;> rfl
  show (do
    let ov ← attributeBase o m env (eval o env)
    standAt ap.atName
    methodCall o m ap cp env ov (es.length + ([] : List Keyword).length) (backTo cp (starEach es env)) (backToKw cp (keywordEach [] env))) = _
  rw [base_plain hb]
  have e2 : ∀ ov, methodCall o m ap cp env ov (es.length + ([] : List Keyword).length) (backTo cp (starEach es env)) (backToKw cp (keywordEach [] env)) = (do
      let (f, first) ← holding [ov] (getMethod ov m (do return (← importBound o env).getD true))
      callWith cp f first (backTo cp (starEach es env)) (backToKw cp (keywordEach [] env))) := by
    intro ov
    unfold methodCall
    have e1' : methodCallForm (es.length + ([] : List Keyword).length) (backTo cp (starEach es env)) (backToKw cp (keywordEach [] env)) = true := e1
    rw [e1']
    unfold calleeOf methodCallPos
    rw [if_pos rfl, if_pos (show (!true || ap.endLine == cp.line) = true by rw [hl] <;> rfl)]
    rfl
  simp only [e2]
end Mi
/-! Mi6: an expression that passes the look runs as the small language says. -/
namespace Mi
open PySem PySem.Spec PyProof.Rows L2

section
variable (T : Tb) (C : Calls) (B : Bs) (Wx : WX)
def tE (ir : E) : TE := fun σ H Q => ∃ μ ρ τ, RH B.K B.Cl μ τ H ∧ RS B.K μ H ρ σ ∧ Got B (RVr B) Wx μ H ((ev T C ir).e ρ τ) Q
def tT (ir : E) : TT := fun σ H Q => ∃ μ ρ τ, RH B.K B.Cl μ τ H ∧ RS B.K μ H ρ σ ∧ Got B REq Wx μ H ((ev T C ir).t ρ τ) Q
def tA (ir : E) : TA := fun σ H Q => ∃ μ ρ τ, RH B.K B.Cl μ τ H ∧ RS B.K μ H ρ σ ∧ Got B (RVsr B) Wx μ H ((ev T C ir).a ρ τ) Q
def tP (ir : E) : TO := fun σ H Q => ∃ μ ρ τ, RH B.K B.Cl μ τ H ∧ RS B.K μ H ρ σ ∧ Got B REq Wx μ H ((ev T C ir).p ρ τ) Q
def tV (u : Bool) (ir : E) : TE := fun σ H Q => ∃ μ ρ τ, RH B.K B.Cl μ τ H ∧ RS B.K μ H ρ σ ∧ Got B (RVr B) Wx μ H ((ev T C ir).v u ρ τ) Q
def tBo (u : Bool) (ir : E) : TT := fun σ H Q => ∃ μ ρ τ, RH B.K B.Cl μ τ H ∧ RS B.K μ H ρ σ ∧ Got B REq Wx μ H ((ev T C ir).b u ρ τ) Q
end
/-- what is walked, as the layer's iterator does it -/
def RJ (B : Bs) : Rel Mi.It L2.It := fun μ1 H1 J J' => ∀ (i : Nat) (μ : List Addr) (τ : Sto) (H : Hp), Le B.K μ1 H1 μ H → RH B.K B.Cl μ τ H → It.ok J.gs τ →
  (∀ w, J.xs[i]? = some w → J'.go i H ∧ ∀ v H', J'.yld i H v H' → Le B.K μ H μ H' ∧ RH B.K B.Cl μ τ H' ∧ RV B.K μ H' w v) ∧ (J.xs.length = i → J'.stop i H)
def tI (T : Tb) (C : Calls) (B : Bs) (Wx : WX) (ir : E) : TI := fun σ H R => ∃ μ ρ τ, RH B.K B.Cl μ τ H ∧ RS B.K μ H ρ σ ∧ Got B (RJ B) Wx μ H ((ev T C ir).i ρ τ) R

/-- the promise of the def with the number f -/
def spF (C : Calls) (B : Bs) (f n : Nat) : Sp := fun vs H Q E => vs.length = n ∧ ∃ μ τ ws, RH B.K B.Cl μ τ H ∧ RVs B.K μ H ws vs ∧ Got B (RVr B) (fun cls d _ H => E cls d H) μ H (C f ws τ) Q
structure Cal (P : Program) (w : World) (K : PySem.W.Frag) (mg : Str → Option Value) (base : Heap) (C : Calls) (B : Bs) (k f : Nat) (a : Addr) : Prop where
  ex : ∃ (fd : FuncData) (ps : List Str), Binds K fd ps [] ∧ FnOk P w K mg base (L2N.CX P w) k a fd ps (spF C B f ps.length) ∧ ∀ ws τ, C f ws τ = .no ∨ ws.length = ps.length
  kp : PySem.W.keepIn K (.ref a) = true
structure Fit (G : Gt) (T : Tb) (C : Calls) (B : Bs) (k : Nat) (X : L2.Cx) (Z : Sx) (Wx : WX) : Prop where
  N : X.N = Z.N
  nd : X.N.Nodup
  sc : X.env.scope = Z.sc
  own : ∀ x, ownB Z x = true → Loc X.env.scope x ∧ (X.fn x = true ∨ X.env.scope.names.lookup x = some .local)
  calm : X.calm = true
  K : X.K = B.K
  room : Room (k + 1) X.A
  con : ∀ x w, G.con x = some w → isRef w = false → ∃ v u, X.mg x = some u ∧ RelV v u ∧ ∀ μ H, RV B.K μ H w v
  bi : ∀ x, G.bi x = true → X.mg x = none
  fn : ∀ x f, G.fn x = some f → ∃ a, X.mg x = some (.ref a) ∧ Cal X.prog X.w X.K X.mg X.base C B k f a
  cl : ∀ x c, G.cl x = some c → X.mg x = some (.ref (B.Cl c)) ∧ PySem.W.keepIn X.K (.ref (B.Cl c)) = true
  meth : ∀ c m f, T.meth c m = some f → ∃ a, Cls X.K (B.Cl c) ∧ Meth X.K (B.Cl c) m a ∧ PySem.W.makesIn X.K (B.Cl c) = true ∧ PySem.W.keepIn X.K (.ref (B.Cl c)) = true ∧ Cal X.prog X.w X.K X.mg X.base C B k f a
  attr : ∀ c f, T.attr c f = true → Cls X.K (B.Cl c) ∧ NoAttr X.K (B.Cl c) f
  tk : L2N.Takes X Wx

section
variable {G : Gt} {T : Tb} {C : Calls} {B : Bs} {k : Nat} {X : L2.Cx} {Z : Sx} {Wx : WX}
theorem glB_gl (F : Fit G T C B k X Z Wx) {x : Str} (h : glB Z.sc x = true) : Gl X x := by
  show X.env.scope.names.lookup x = some .globalImplicit
  rw [F.sc]
  unfold glB at h
  split at h
  · assumption
  · exact ff h
theorem visB_vis (F : Fit G T C B k X Z Wx) {x : Str} (h : visB Z.sc x = true) : Vis X.env.scope x := by
  show X.env.scope.names.lookup x = some .local ∨ X.env.scope.names.lookup x = some .cell ∨ X.env.scope.names.lookup x = some .free
  rw [F.sc]
  unfold visB at h
  split at h
  · exact .inl (by assumption)
  · exact .inr (.inl (by assumption))
  · exact .inr (.inr (by assumption))
  · exact ff h
theorem plainName_of {x : Str} (h : plainName x = true) : (x == ("__debug__" : Str)) = false ∧ (x == ("__classdict__" : Str)) = false := by
  unfold plainName at h
  rw [Bool.and_eq_true, Bool.not_eq_true', Bool.not_eq_true'] at h
  exact h
theorem PE.dyn {e : Expr} {t' : TE} (h : ∀ σ H Q, t' σ H Q → ∃ t, PE X e t ∧ t σ H Q) : PE X e t' := ⟨fun pins s σ H Q I q => by
  obtain ⟨t, ht, q'⟩ := h σ H Q q
  exact ht.run pins s σ H Q I q'⟩
theorem PI.dyn {tg e : Expr} {t' : TI} (h : ∀ σ H Q, t' σ H Q → ∃ t, PI X tg e t ∧ t σ H Q) : PI X tg e t' := ⟨fun pins s σ H Q I q => by
  obtain ⟨t, ht, q'⟩ := h σ H Q q
  exact ht.run pins s σ H Q I q'⟩

/-- what is shown of an expression -/
structure Snd (G : Gt) (T : Tb) (C : Calls) (B : Bs) (X : L2.Cx) (Z : Sx) (Wx : WX) (ir : E) : Prop where
  e : ∀ x, (chk G ir Z).e x = true → PE X x (tE T C B Wx ir)
  t : ∀ x, (chk G ir Z).t x = true → PT X x (tT T C B Wx ir)
  a : ∀ es, (chk G ir Z).a es = true → PA X es (tA T C B Wx ir)
  v : ∀ es pos, (chk G ir Z).a es = true → es ≠ [] → PE X (.BoolOp .And es pos) (tV T C B Wx true ir) ∧ PE X (.BoolOp .Or es pos) (tV T C B Wx false ir)
  b : ∀ es pos, (chk G ir Z).bs es = true → es ≠ [] → PW X (.BoolOp .And es pos) (tBo T C B Wx true ir) ∧ PW X (.BoolOp .Or es pos) (tBo T C B Wx false ir)
  p : ∀ o, (chk G ir Z).p o = true → PO X o (tP T C B Wx ir)
  i : ∀ tg x, (chk G ir Z).i tg x = true → PI X tg x (tI T C B Wx ir)
  ts : ∀ l, (chk G ir Z).ts l = true → PTs X l (tT T C B Wx ir)

theorem truth_imp {ir : E} (ht : ∀ ρ τ, (ev T C ir).t ρ τ = ((ev T C ir).e ρ τ).bind fun x τ1 => lift τ1 (truth τ1 x)) (hK : X.K = B.K) {σ : L2.St} {H : Hp} {Q : Bool → Hp → Prop} (h : tT T C B Wx ir σ H Q) :
    tE T C B Wx ir σ H fun x H' => ∃ k, TruV X.K x H' k ∧ Q k H' := by
  obtain ⟨μ, ρ, τ, rh, rs, g⟩ := h
  rw [ht] at g
  refine ⟨μ, ρ, τ, rh, rs, (Got.bnd (rel := RVr B) g).imp fun v H1 ⟨x, τ1, μ1, l, rh1, rv, g1⟩ => ?_⟩
  cases e : truth τ1 x with
  | none => rw [e] at g1; exact g1.elim
  | some b =>
    rw [e] at g1
    exact ⟨b, by rw [hK]; exact truth_rv rh1 rv e, g1 μ1 H1 b Le.refl rh1 rfl⟩
/-- the usual case: an expression, its test by truth -/
theorem Snd.ofE {ir : E} (hK : X.K = B.K) (he : ∀ x, (chk G ir Z).e x = true → PE X x (tE T C B Wx ir))
    (ct : (chk G ir Z).t = fun x => plainT x && (chk G ir Z).e x) (ca : (chk G ir Z).a = fun _ => false) (cp : (chk G ir Z).p = fun o => match o with
      | some x => (chk G ir Z).e x
      | none => false) (ci : (chk G ir Z).i = fun _ _ => false) (cs : (chk G ir Z).ts = fun l => match l with
      | [x] => (chk G ir Z).t x
      | _ => false)
    (ht : ∀ ρ τ, (ev T C ir).t ρ τ = ((ev T C ir).e ρ τ).bind fun x τ1 => lift τ1 (truth τ1 x))
    (hp : ∀ ρ τ, (ev T C ir).p ρ τ = ((ev T C ir).e ρ τ).bind fun x τ1 => match x with
      | .int i => .ok (some i) τ1
      | _ => .no) (hb : (chk G ir Z).bs = fun _ => false) : Snd G T C B X Z Wx ir := by
  have hT : ∀ x, (chk G ir Z).t x = true → PT X x (tT T C B Wx ir) := fun x h => by
    rw [ct] at h
    have h' : plainT x = true ∧ (chk G ir Z).e x = true := by rw [← Bool.and_eq_true]; exact h
    exact PT.imp (pt_truth (he x h'.2) (test_plain h'.1)) fun σ H Q q => truth_imp ht hK q
  refine ⟨he, hT, fun es h => ?_, fun es pos h => ?_, fun es pos h hn => ?_, fun o h => ?_, fun tg x h => ?_, fun l h => ?_⟩
  · rw [ca] at h; exact ff h
  · rw [ca] at h; exact ff h
  · rw [hb] at h; exact ff h
  · rw [cp] at h
    cases o with
    | none => exact ff h
    | some x =>
      refine PO.imp (po_some (he x h)) fun σ H Q ⟨μ, ρ, τ, rh, rs, g⟩ => ?_
      rw [hp] at g
      refine ⟨μ, ρ, τ, rh, rs, (Got.bnd (rel := RVr B) g).imp fun v H1 ⟨y, τ1, μ1, l, rh1, rv, g1⟩ => ?_⟩
      cases rv with
      | int i => exact ⟨i, rfl, g1 μ1 H1 _ Le.refl rh1 rfl⟩
      | _ => exact g1.elim
  · rw [ci] at h; exact ff h
  · rw [cs] at h
    cases l with
    | nil => exact ff h
    | cons x r =>
      cases r with
      | nil => exact pts_one (hT x h)
      | cons _ _ => exact ff h

/-- two expressions one behind the other -/
theorem two {a b : E} {f : W → W → Sto → R W} {rd : R2} {σ : L2.St} {H : Hp} {Q : VK}
    (hr : ∀ v u H Q, (∃ μ τ x y, RH B.K B.Cl μ τ H ∧ RV B.K μ H x v ∧ RV B.K μ H y u ∧ Got B (RVr B) Wx μ H (f x y τ) Q) → rd v u H Q)
    (h : ∃ μ ρ τ, RH B.K B.Cl μ τ H ∧ RS B.K μ H ρ σ ∧ Got B (RVr B) Wx μ H (((ev T C a).e ρ τ).bind fun x τ1 => ((ev T C b).e ρ τ1).bind fun y τ2 => f x y τ2) Q) :
    tOp rd (tE T C B Wx a) (tE T C B Wx b) σ H Q := by
  obtain ⟨μ, ρ, τ, rh, rs, g⟩ := h
  refine ⟨μ, ρ, τ, rh, rs, (Got.bnd (rel := RVr B) g).imp fun v H1 ⟨x, τ1, μ1, l, rh1, rv, g1⟩ => ?_⟩
  refine ⟨μ1, ρ, τ1, rh1, rs.le l, (Got.bnd (rel := RVr B) g1).imp fun u H2 ⟨y, τ2, μ2, l2, rh2, ru, g2⟩ => ?_⟩
  exact hr v u H2 Q ⟨μ2, τ2, x, y, rh2, RV.le l2 rv, ru, g2⟩

theorem snd_op {o : Operator} {a b : E} (F : Fit G T C B k X Z Wx) (iha : Snd G T C B X Z Wx a) (ihb : Snd G T C B X Z Wx b) : Snd G T C B X Z Wx (.op o a b) := by
  refine Snd.ofE F.K (fun x h => ?_) rfl rfl rfl rfl rfl (fun _ _ => rfl) (fun _ _ => rfl) rfl
  cases x with
  | BinOp l o' r pos =>
    have h' : (decide (o' = o) && (chk G a Z).e l && (chk G b Z).e r) = true := h
    rw [Bool.and_eq_true, Bool.and_eq_true, decide_eq_true_iff] at h'
    obtain ⟨⟨rfl, h1⟩, h2⟩ := h'
    exact PE.imp (pe_op (op_bin (B := B) (Wx := Wx) F.K o') (iha.e l h1) (ihb.e r h2)) fun σ H Q q => two (fun v u H Q e => e) q
  | _ => exact ff h
theorem snd_ix {a b : E} (F : Fit G T C B k X Z Wx) (iha : Snd G T C B X Z Wx a) (ihb : Snd G T C B X Z Wx b) : Snd G T C B X Z Wx (.ix a b) := by
  refine Snd.ofE F.K (fun x h => ?_) rfl rfl rfl rfl rfl (fun _ _ => rfl) (fun _ _ => rfl) rfl
  cases x with
  | Subscript l r pos =>
    have h' : (notSlice r && (chk G a Z).e l && (chk G b Z).e r) = true := h
    rw [Bool.and_eq_true, Bool.and_eq_true] at h'
    obtain ⟨⟨h0, h1⟩, h2⟩ := h'
    have hu : X.A.units + 1 < cLine := by have := F.room.units; omega
    refine PE.dyn fun σ H Q ⟨μ, ρ, τ, rh, rs, g⟩ => ?_
    have g' : Got B (RVr B) Wx μ H (((ev T C a).e ρ τ).bind fun x τ1 => ((ev T C b).e ρ τ1).bind fun y τ2 => lift τ2 (itemAt τ2 x y)) Q := g
    -- is it a dict?
    by_cases hd : ∃ n τ1 y τ2 kvs, (ev T C a).e ρ τ = .ok (.ref n) τ1 ∧ (ev T C b).e ρ τ1 = .ok y τ2 ∧ τ2[n]? = some (.dic kvs)
    · obtain ⟨n, τ1, y, τ2, kvs, e1, e2, e3⟩ := hd
      refine ⟨_, pe_dget hu (iha.e l h1) (ihb.e r h2) (sl_plain h0), ?_⟩
      refine ⟨μ, ρ, τ, rh, rs, (Got.bndE (rel := RVr B) g').imp fun v H1 ⟨x, τ1', μ1, l1, rh1, rv, g1, q1⟩ => ?_⟩
      rw [e1] at q1
      cases q1
      refine ⟨μ1, ρ, τ1, rh1, rs.le l1, (Got.bndE (rel := RVr B) g1).imp fun u H2 ⟨y', τ2', μ2, l2, rh2, ru, g2, q2⟩ => ?_⟩
      rw [e2] at q2
      cases q2
      cases RV.le l2 rv with
      | ref ha =>
        rename_i aa
        have g3 : Got B (RVr B) Wx μ2 H2 (lift τ2 ((keyOf y).bind (kvGet kvs))) Q := by
          have e : itemAt τ2 (.ref n) y = (keyOf y).bind (kvGet kvs) := by
            unfold itemAt
            simp only [e3]
          rw [← e]
          exact g2
        obtain ⟨a', ha', qs, hq, rq⟩ := rh2.at_ e3
        obtain rfl := Option.some.inj (ha'.symm.trans ha)
        cases hk : keyOf y with
        | none => rw [hk] at g3; exact g3.elim
        | some key =>
          rw [hk] at g3
          have g4 : Got B (RVr B) Wx μ2 H2 (lift τ2 (kvGet kvs key)) Q := g3
          rcases rq.get key with ⟨z1, _⟩ | ⟨w, v', z1, z2, z3⟩
          · rw [z1] at g4; exact g4.elim
          · rw [z1] at g4
            exact ⟨a', v', rfl, .inl ⟨qs, key, .inl hq, key_rv ru hk, z2.symm⟩, got_val g4 rh2 z3⟩
    · refine ⟨_, pe_ix (ix_item (B := B) (Wx := Wx) F.K) (iha.e l h1) (ihb.e r h2) (sl_plain h0), ?_⟩
      refine ⟨μ, ρ, τ, rh, rs, (Got.bndE (rel := RVr B) g').imp fun v H1 ⟨x, τ1, μ1, l1, rh1, rv, g1, q1⟩ => ?_⟩
      refine ⟨μ1, ρ, τ1, rh1, rs.le l1, (Got.bndE (rel := RVr B) g1).imp fun u H2 ⟨y, τ2, μ2, l2, rh2, ru, g2, q2⟩ => ?_⟩
      cases hw : itemAt τ2 x y with
      | none => rw [hw] at g2; exact g2.elim
      | some w =>
        rw [hw] at g2
        exact ⟨μ2, τ2, x, y, w, rh2, RV.le l2 rv, ru, hw, fun n kvs e1 e2 => hd ⟨n, τ1, y, τ2, kvs, by rw [q1, e1], q2, e2⟩, g2⟩
  | _ => exact ff h


theorem snd_var {i : Nat} (F : Fit G T C B k X Z Wx) : Snd G T C B X Z Wx (.var i) := by
  refine Snd.ofE F.K (fun x h => ?_) rfl rfl rfl rfl rfl (fun _ _ => rfl) (fun _ _ => rfl) rfl
  cases x with
  | Name n pos =>
    have h' : (decide (Z.N[i]? = some n) && visB Z.sc n && plainName n) = true := h
    rw [Bool.and_eq_true, Bool.and_eq_true, decide_eq_true_iff] at h'
    obtain ⟨⟨h1, h2⟩, h3⟩ := h'
    refine PE.imp (pe_var (i := i) (by rw [F.N]; exact h1) (visB_vis F h2) (plainName_of h3).1 (plainName_of h3).2) fun σ H Q ⟨μ, ρ, τ, rh, rs, g⟩ => ?_
    have g' : Got B (RVr B) Wx μ H (match ρ[i]? with
      | some (some w) => .ok w τ
      | _ => .no) Q := g
    cases e : ρ[i]? with
    | none => rw [e] at g'; exact g'.elim
    | some o =>
      cases o with
      | none => rw [e] at g'; exact g'.elim
      | some w =>
        rw [e] at g'
        obtain ⟨v, h4, h5⟩ := rs.at_ i w e
        exact ⟨v, h4, got_val g' rh h5⟩
  | _ => exact ff h
theorem tC_imp {w : W} {v : V} (hv : ∀ μ H, RV B.K μ H w v) {σ : L2.St} {H : Hp} {Q : VK} (h : tE T C B Wx (.con w) σ H Q) : tC v σ H Q := by
  obtain ⟨μ, ρ, τ, rh, rs, g⟩ := h
  exact got_val g rh (hv μ H)
theorem snd_con {w : W} (F : Fit G T C B k X Z Wx) : Snd G T C B X Z Wx (.con w) := by
  refine Snd.ofE F.K (fun x h => ?_) rfl rfl rfl rfl rfl (fun _ _ => rfl) (fun _ _ => rfl) rfl
  cases x with
  | Constant c j pos =>
    have h' : conB c w = true := h
    cases c with
    | none =>
      cases w with
      | non => exact PE.imp pe_non fun σ H Q q => tC_imp (fun _ _ => .non) q
      | _ => exact ff h'
    | bool b =>
      cases w with
      | bl d =>
        have e : b = d := by simpa [conB] using h'
        subst e
        exact PE.imp pe_bl fun σ H Q q => tC_imp (fun _ _ => .bl _) q
      | _ => exact ff h'
    | int b =>
      cases w with
      | int d =>
        have e : b = d := by simpa [conB] using h'
        subst e
        exact PE.imp pe_int fun σ H Q q => tC_imp (fun _ _ => .int _) q
      | _ => exact ff h'
    | str b =>
      cases w with
      | str d =>
        have e : b = d := by simpa [conB] using h'
        subst e
        exact PE.imp pe_str fun σ H Q q => tC_imp (fun _ _ => .str _) q
      | _ => exact ff h'
    | _ => cases w <;> exact ff h'
  | Name n pos =>
    have h' : (glB Z.sc n && plainName n && !(isRef w) && (match G.con n with
        | some u => eqbW u w
        | none => false)) = true := h
    rw [Bool.and_eq_true, Bool.and_eq_true, Bool.and_eq_true, Bool.not_eq_true'] at h'
    obtain ⟨⟨⟨h1, h2⟩, h3⟩, h4⟩ := h'
    cases e : G.con n with
    | none => rw [e] at h4; exact ff h4
    | some u =>
      rw [e] at h4
      have e2 : u = w := eqbW_eq h4
      subst e2
      obtain ⟨v, u', hm, r, hv⟩ := F.con n u e h3
      exact PE.imp (pe_glob (glB_gl F h1) hm r (plainName_of h2).1) fun σ H Q q => tC_imp hv q
  | _ => exact ff h
theorem snd_neg {a : E} (F : Fit G T C B k X Z Wx) (iha : Snd G T C B X Z Wx a) : Snd G T C B X Z Wx (.neg a) := by
  refine Snd.ofE F.K (fun x h => ?_) rfl rfl rfl rfl rfl (fun _ _ => rfl) (fun _ _ => rfl) rfl
  cases x with
  | UnaryOp op y pos =>
    cases op with
    | USub =>
      refine PE.imp (pe_un un_neg (iha.e y h)) fun σ H Q ⟨μ, ρ, τ, rh, rs, g⟩ => ?_
      have g' : Got B (RVr B) Wx μ H (((ev T C a).e ρ τ).bind fun x τ1 => match x with
        | .int i => .ok (.int (-i)) τ1
        | _ => .no) Q := g
      refine ⟨μ, ρ, τ, rh, rs, (Got.bnd (rel := RVr B) g').imp fun v H1 ⟨x, τ1, μ1, l1, rh1, rv, g1⟩ => ?_⟩
      cases rv with
      | int i => exact ⟨i, rfl, got_val g1 rh1 (.int _)⟩
      | _ => exact g1.elim
    | _ => exact ff h
  | _ => exact ff h
theorem cmp_two {o : CmpOp} {a b : E} {σ : L2.St} {H : Hp} {Q : VK} (h : tE T C B Wx (.cmp o a b) σ H Q) : tOp (rCmp B o) (tE T C B Wx a) (tE T C B Wx b) σ H Q := by
  refine two (f := fun x y τ2 => lift τ2 ((cmpop o x y τ2).map .bl)) (fun v u H Q ⟨μ, τ, x, y, rh, rv, ru, g⟩ => ?_) h
  cases e : cmpop o x y τ with
  | none => rw [e] at g; exact g.elim
  | some b =>
    rw [e] at g
    exact ⟨μ, τ, x, y, b, rh, rv, ru, e, got_val g rh (.bl _)⟩
/-- a test from the value of a comparison -/
theorem tst_imp {ir : E} {t : TE} (ht : ∀ ρ τ, (ev T C ir).t ρ τ = ((ev T C ir).e ρ τ).bind fun x τ1 => lift τ1 (truth τ1 x)) (hb : ∀ ρ τ w τ', (ev T C ir).e ρ τ = .ok w τ' → ∃ b, w = .bl b)
    (k : ∀ σ H Q, tE T C B Wx ir σ H Q → t σ H Q) {σ : L2.St} {H : Hp} {Q : Bool → Hp → Prop} (h : tT T C B Wx ir σ H Q) : tTest t σ H Q := by
  obtain ⟨μ, ρ, τ, rh, rs, g⟩ := h
  rw [ht] at g
  refine k σ H _ ⟨μ, ρ, τ, rh, rs, (Got.bndE (rel := RVr B) g).imp fun v H1 ⟨x, τ1, μ1, l1, rh1, rv, g1, e⟩ => ?_⟩
  obtain ⟨b, rfl⟩ := hb ρ τ x τ1 e
  cases rv
  exact ⟨b, rfl, g1 μ1 H1 b Le.refl rh1 rfl⟩
theorem lift_bl {τ : Sto} {o : Option Bool} {w : W} {τ' : Sto} (h : lift τ (o.map W.bl) = .ok w τ') : ∃ b, w = .bl b := by
  cases o with
  | none => cases h
  | some b => cases h; exact ⟨b, rfl⟩
theorem bind_ok_of {α β : Type} {A : R α} {f : α → Sto → R β} {w : β} {τ' : Sto} (h : A.bind f = .ok w τ') : ∃ a τ1, A = .ok a τ1 ∧ f a τ1 = .ok w τ' := by
  cases A with
  | ok a τ1 => exact ⟨a, τ1, rfl, h⟩
  | exn x ρ τ => cases h
  | no => cases h
theorem hu_room (F : Fit G T C B k X Z Wx) : X.A.units + 65 < cLine := by have := F.room.un; omega
theorem snd_cmp {o : CmpOp} {a b : E} (F : Fit G T C B k X Z Wx) (iha : Snd G T C B X Z Wx a) (ihb : Snd G T C B X Z Wx b) : Snd G T C B X Z Wx (.cmp o a b) := by
  have key : ∀ x, (chk G (.cmp o a b) Z).e x = true → PE X x (tE T C B Wx (.cmp o a b)) ∧ PT X x (tT T C B Wx (.cmp o a b)) := by
    intro x h
    cases x with
    | Compare l ops rs pos =>
      cases ops with
      | nil => exact ff h
      | cons o' ops =>
        cases ops with
        | cons _ _ => cases rs with
          | nil => exact ff h
          | cons _ rs => cases rs <;> exact ff h
        | nil =>
          cases rs with
          | nil => exact ff h
          | cons r rs =>
            cases rs with
            | cons _ _ => exact ff h
            | nil =>
              have h' : (decide (o' = o) && notSet r && (chk G a Z).e l && (chk G b Z).e r) = true := h
              rw [Bool.and_eq_true, Bool.and_eq_true, Bool.and_eq_true, decide_eq_true_iff] at h'
              obtain ⟨⟨⟨rfl, h0⟩, h1⟩, h2⟩ := h'
              refine ⟨PE.imp (pe_cmpR (op_cmp F.K (hu_room F) o') (iha.e l h1) (ihb.e r h2) (behind_set h0)) fun σ H Q q => cmp_two q,
                PT.imp (pt_cmpR (op_cmp F.K (hu_room F) o') (iha.e l h1) (ihb.e r h2) (behind_set h0)) fun σ H Q q => tst_imp (fun _ _ => rfl) (fun ρ τ w τ' e => ?_) (fun σ H Q q => cmp_two q) q⟩
              obtain ⟨x1, τ1, _, e⟩ := bind_ok_of e
              obtain ⟨x2, τ2, _, e⟩ := bind_ok_of e
              exact lift_bl e
    | _ => exact ff h
  refine ⟨fun x h => (key x h).1, fun x h => (key x h).2, fun es h => ff h, fun es pos h => ff h, fun es pos h hn => ff h, fun o' h => ?_, fun tg x h => ff h, fun l h => ?_⟩
  · cases o' with
    | none => exact ff h
    | some x =>
      refine PO.imp (po_some (key x h).1) fun σ H Q ⟨μ, ρ, τ, rh, rs, g⟩ => ?_
      refine ⟨μ, ρ, τ, rh, rs, (Got.bnd (rel := RVr B) g).imp fun v H1 ⟨y, τ1, μ1, l, rh1, rv, g1⟩ => ?_⟩
      cases rv with
      | int i => exact ⟨i, rfl, g1 μ1 H1 _ Le.refl rh1 rfl⟩
      | _ => exact g1.elim
  · cases l with
    | nil => exact ff h
    | cons x r =>
      cases r with
      | nil => exact pts_one (key x h).2
      | cons _ _ => exact ff h
theorem chain_imp {o o2 : CmpOp} {a b c : E} {σ : L2.St} {H : Hp} {Q : VK} (h : tE T C B Wx (.chain o o2 a b c) σ H Q) :
    tChain (rCmp B o) (rCmp B o2) (tE T C B Wx a) (tE T C B Wx b) (tE T C B Wx c) σ H Q := by
  obtain ⟨μ, ρ, τ, rh, rs, g⟩ := h
  have g' : Got B (RVr B) Wx μ H (((ev T C a).e ρ τ).bind fun x τ1 => ((ev T C b).e ρ τ1).bind fun y τ2 => match cmpop o x y τ2 with
      | some true => ((ev T C c).e ρ τ2).bind fun z τ3 => lift τ3 ((cmpop o2 y z τ3).map .bl)
      | some false => .ok (.bl false) τ2
      | none => .no) Q := g
  refine ⟨μ, ρ, τ, rh, rs, (Got.bnd (rel := RVr B) g').imp fun v H1 ⟨x, τ1, μ1, l1, rh1, rv, g1⟩ => ?_⟩
  refine ⟨μ1, ρ, τ1, rh1, rs.le l1, (Got.bnd (rel := RVr B) g1).imp fun u H2 ⟨y, τ2, μ2, l2, rh2, ru, g2⟩ => ?_⟩
  cases e : cmpop o x y τ2 with
  | none => rw [e] at g2; exact g2.elim
  | some d =>
    rw [e] at g2
    refine ⟨μ2, τ2, x, y, d, rh2, RV.le l2 rv, ru, e, d, rfl, ?_⟩
    cases d with
    | false => exact iteF (got_val g2 rh2 (.bl _))
    | true =>
      refine iteT ⟨μ2, ρ, τ2, rh2, (rs.le l1).le l2, (Got.bnd (rel := RVr B) g2).imp fun u2 H3 ⟨z, τ3, μ3, l3, rh3, ru3, g3⟩ => ?_⟩
      cases e3 : cmpop o2 y z τ3 with
      | none => rw [e3] at g3; exact g3.elim
      | some d =>
        rw [e3] at g3
        exact ⟨μ3, τ3, y, z, d, rh3, RV.le l3 ru, ru3, e3, got_val g3 rh3 (.bl _)⟩
theorem snd_chain {o o2 : CmpOp} {a b c : E} (F : Fit G T C B k X Z Wx) (iha : Snd G T C B X Z Wx a) (ihb : Snd G T C B X Z Wx b) (ihc : Snd G T C B X Z Wx c) : Snd G T C B X Z Wx (.chain o o2 a b c) := by
  have key : ∀ x, (chk G (.chain o o2 a b c) Z).e x = true → PE X x (tE T C B Wx (.chain o o2 a b c)) ∧ PT X x (tT T C B Wx (.chain o o2 a b c)) := by
    intro x h
    cases x with
    | Compare l ops rs pos =>
      match ops, rs, h with
      | [o', o2'], [r, s], h =>
        have h' : (decide (o' = o) && decide (o2' = o2) && notSet s && (chk G a Z).e l && (chk G b Z).e r && (chk G c Z).e s) = true := h
        rw [Bool.and_eq_true, Bool.and_eq_true, Bool.and_eq_true, Bool.and_eq_true, Bool.and_eq_true, decide_eq_true_iff, decide_eq_true_iff] at h'
        obtain ⟨⟨⟨⟨⟨rfl, rfl⟩, h0⟩, h1⟩, h2⟩, h3⟩ := h'
        have hm : lastMarks [o', o2'] [r, s] = false := behind_set h0
        refine ⟨PE.imp (pe_chain (op_cmp F.K (hu_room F) o') (op_cmp F.K (hu_room F) o2') (iha.e l h1) (ihb.e r h2) (ihc.e s h3) hm) fun σ H Q q => chain_imp q,
          PT.imp (pt_chain (op_cmp F.K (hu_room F) o') (op_cmp F.K (hu_room F) o2') (iha.e l h1) (ihb.e r h2) (ihc.e s h3) hm) fun σ H Q q => tst_imp (fun _ _ => rfl) (fun ρ τ w τ' e => ?_) (fun σ H Q q => chain_imp q) q⟩
        obtain ⟨x1, τ1, _, e⟩ := bind_ok_of e
        obtain ⟨x2, τ2, _, e⟩ := bind_ok_of e
        split at e
        · obtain ⟨x3, τ3, _, e⟩ := bind_ok_of e
          exact lift_bl e
        · cases e; exact ⟨false, rfl⟩
        · cases e
      | [], _, h => exact ff h
      | [_], [], h => exact ff h
      | [_], _ :: _, h => exact ff h
      | [_, _], [], h => exact ff h
      | _ :: _ :: _ :: _, [], h => exact ff h
      | [_, _], [_], h => exact ff h
      | _ :: _ :: _ :: _, [_], h => exact ff h
      | _ :: _ :: _ :: _, _ :: _ :: _, h => exact ff h
      | [_, _], _ :: _ :: _ :: _, h => exact ff h
    | _ => exact ff h
  refine ⟨fun x h => (key x h).1, fun x h => (key x h).2, fun es h => ff h, fun es pos h => ff h, fun es pos h hn => ff h, fun o' h => ?_, fun tg x h => ff h, fun l h => ?_⟩
  · cases o' with
    | none => exact ff h
    | some x =>
      refine PO.imp (po_some (key x h).1) fun σ H Q ⟨μ, ρ, τ, rh, rs, g⟩ => ?_
      refine ⟨μ, ρ, τ, rh, rs, (Got.bnd (rel := RVr B) g).imp fun v H1 ⟨y, τ1, μ1, l, rh1, rv, g1⟩ => ?_⟩
      cases rv with
      | int i => exact ⟨i, rfl, g1 μ1 H1 _ Le.refl rh1 rfl⟩
      | _ => exact g1.elim
  · cases l with
    | nil => exact ff h
    | cons x r =>
      cases r with
      | nil => exact pts_one (key x h).2
      | cons _ _ => exact ff h
/-- an expression with a test of its own -/
theorem Snd.ofET {ir : E} (he : ∀ x, (chk G ir Z).e x = true → PE X x (tE T C B Wx ir)) (hT : ∀ x, (chk G ir Z).t x = true → PT X x (tT T C B Wx ir))
    (ca : (chk G ir Z).a = fun _ => false) (cp : (chk G ir Z).p = fun o => match o with
      | some x => (chk G ir Z).e x
      | none => false) (ci : (chk G ir Z).i = fun _ _ => false) (cs : (chk G ir Z).ts = fun l => match l with
      | [x] => (chk G ir Z).t x
      | _ => false)
    (hp : ∀ ρ τ, (ev T C ir).p ρ τ = ((ev T C ir).e ρ τ).bind fun x τ1 => match x with
      | .int i => .ok (some i) τ1
      | _ => .no) (hb : (chk G ir Z).bs = fun _ => false) : Snd G T C B X Z Wx ir := by
  refine ⟨he, hT, fun es h => ?_, fun es pos h => ?_, fun es pos h hn => ?_, fun o h => ?_, fun tg x h => ?_, fun l h => ?_⟩
  · rw [ca] at h; exact ff h
  · rw [ca] at h; exact ff h
  · rw [hb] at h; exact ff h
  · rw [cp] at h
    cases o with
    | none => exact ff h
    | some x =>
      refine PO.imp (po_some (he x h)) fun σ H Q ⟨μ, ρ, τ, rh, rs, g⟩ => ?_
      rw [hp] at g
      refine ⟨μ, ρ, τ, rh, rs, (Got.bnd (rel := RVr B) g).imp fun v H1 ⟨y, τ1, μ1, l, rh1, rv, g1⟩ => ?_⟩
      cases rv with
      | int i => exact ⟨i, rfl, g1 μ1 H1 _ Le.refl rh1 rfl⟩
      | _ => exact g1.elim
  · rw [ci] at h; exact ff h
  · rw [cs] at h
    cases l with
    | nil => exact ff h
    | cons x r =>
      cases r with
      | nil => exact pts_one (hT x h)
      | cons _ _ => exact ff h
end
end Mi
/-! Mi7: further expressions: lists of them, and | or, displays, calls, comprehensions, what is walked. -/
namespace Mi
open PySem PySem.Spec PyProof.Rows L2
section
variable {G : Gt} {T : Tb} {C : Calls} {B : Bs} {k : Nat} {X : L2.Cx} {Z : Sx} {Wx : WX}

theorem snd_nil (F : Fit G T C B k X Z Wx) : Snd G T C B X Z Wx .nil := by
  refine ⟨fun x h => ff h, fun x h => ?_, fun es h => ?_, fun es pos h hn => ?_, fun es pos h hn => ?_, fun o h => ?_, fun tg x h => ff h, fun l h => ?_⟩
  · have h' : (plainT x && false) = true := h
    rw [Bool.and_false] at h'
    exact ff h'
  · cases es with
    | nil =>
      refine PA.imp pa_nil fun σ H Q ⟨μ, ρ, τ, rh, rs, g⟩ => ?_
      exact g μ H [] Le.refl rh .nil
    | cons _ _ => exact ff h
  · cases es with
    | nil => exact absurd rfl hn
    | cons _ _ => exact ff h
  · cases es with
    | nil => exact absurd rfl hn
    | cons _ _ => exact ff h
  · cases o with
    | none =>
      refine PO.imp po_none fun σ H Q ⟨μ, ρ, τ, rh, rs, g⟩ => ?_
      exact g μ H none Le.refl rh rfl
    | some _ => exact ff h
  · cases l with
    | nil =>
      refine PTs.imp pts_nil fun σ H Q ⟨μ, ρ, τ, rh, rs, g⟩ => ?_
      exact g μ H true Le.refl rh rfl
    | cons _ _ => exact ff h

theorem chk_nil : ∀ (ir : E), (chk G ir Z).a [] = true → ir = .nil := by
  intro ir h
  cases ir <;> first | rfl | exact ff h
theorem chk_ts_nil : ∀ (ir : E), (chk G ir Z).bs [] = true → ir = .nil := by
  intro ir h
  cases ir <;> first | rfl | exact ff h

theorem snd_cons {a r : E} (F : Fit G T C B k X Z Wx) (iha : Snd G T C B X Z Wx a) (ihr : Snd G T C B X Z Wx r) : Snd G T C B X Z Wx (.cons a r) := by
  have hA : ∀ es, (chk G (.cons a r) Z).a es = true → PA X es (tA T C B Wx (.cons a r)) := by
    intro es h
    cases es with
    | nil => exact ff h
    | cons x es =>
      have h' : (noStar x && (chk G a Z).e x && (chk G r Z).a es) = true := h
      rw [Bool.and_eq_true, Bool.and_eq_true] at h'
      obtain ⟨⟨h0, h1⟩, h2⟩ := h'
      refine PA.imp (pa_cons (iha.e x h1) (ihr.a es h2) (star_cons h0)) fun σ H Q ⟨μ, ρ, τ, rh, rs, g⟩ => ?_
      have g' : Got B (RVsr B) Wx μ H (((ev T C a).e ρ τ).bind fun x τ1 => ((ev T C r).a ρ τ1).bind fun xs τ2 => .ok (x :: xs) τ2) Q := g
      refine ⟨μ, ρ, τ, rh, rs, (Got.bnd (rel := RVr B) g').imp fun v H1 ⟨x, τ1, μ1, l1, rh1, rv, g1⟩ => ?_⟩
      refine ⟨μ1, ρ, τ1, rh1, rs.le l1, (Got.bnd (rel := RVsr B) g1).imp fun u H2 ⟨y, τ2, μ2, l2, rh2, ru, g2⟩ => ?_⟩
      exact g2 μ2 H2 (v :: u) Le.refl rh2 (.cons (RV.le l2 rv) ru)
  refine ⟨fun x h => ff h, fun x h => ?_, hA, fun es pos h hn => ?_, fun es pos h hn => ?_, fun o h => ff h, fun tg x h => ff h, fun l h => ff h⟩
  · have h' : (plainT x && false) = true := h
    rw [Bool.and_false] at h'
    exact ff h'
  · -- and, or as values
    cases es with
    | nil => exact absurd rfl hn
    | cons x es =>
      have h' : (noStar x && (chk G a Z).e x && (chk G r Z).a es) = true := h
      rw [Bool.and_eq_true, Bool.and_eq_true] at h'
      obtain ⟨⟨h0, h1⟩, h2⟩ := h'
      cases es with
      | nil =>
        have er := chk_nil r h2
        subst er
        exact ⟨PE.imp (pe_one (iha.e x h1)) fun σ H Q q => q, PE.imp (pe_one (iha.e x h1)) fun σ H Q q => q⟩
      | cons y es =>
        have hr : ∃ b s, r = .cons b s := by
          cases r with
          | cons b s => exact ⟨b, s, rfl⟩
          | _ => exact ff h2
        obtain ⟨b, s, rfl⟩ := hr
        obtain ⟨i1, i2⟩ := ihr.v (y :: es) pos h2 (by simp)
        refine ⟨PE.imp (pe_and (iha.e x h1) i1) fun σ H Q ⟨μ, ρ, τ, rh, rs, g⟩ => ?_, PE.imp (pe_or (iha.e x h1) i2) fun σ H Q ⟨μ, ρ, τ, rh, rs, g⟩ => ?_⟩
        · have g' : Got B (RVr B) Wx μ H (((ev T C a).e ρ τ).bind fun x τ1 => match x with
            | .bl d => if d = true then (ev T C (.cons b s)).v true ρ τ1 else .ok (.bl d) τ1
            | _ => .no) Q := g
          refine ⟨μ, ρ, τ, rh, rs, (Got.bnd (rel := RVr B) g').imp fun v H1 ⟨x, τ1, μ1, l1, rh1, rv, g1⟩ => ?_⟩
          cases rv with
          | bl d =>
            refine ⟨d, rfl, ?_⟩
            cases d with
            | true => exact iteT ⟨μ1, ρ, τ1, rh1, rs.le l1, g1⟩
            | false => exact iteF (got_val g1 rh1 (.bl _))
          | _ => exact g1.elim
        · have g' : Got B (RVr B) Wx μ H (((ev T C a).e ρ τ).bind fun x τ1 => match x with
            | .bl d => if d = false then (ev T C (.cons b s)).v false ρ τ1 else .ok (.bl d) τ1
            | _ => .no) Q := g
          refine ⟨μ, ρ, τ, rh, rs, (Got.bnd (rel := RVr B) g').imp fun v H1 ⟨x, τ1, μ1, l1, rh1, rv, g1⟩ => ?_⟩
          cases rv with
          | bl d =>
            refine ⟨d, rfl, ?_⟩
            cases d with
            | true => exact iteT (got_val g1 rh1 (.bl _))
            | false => exact iteF ⟨μ1, ρ, τ1, rh1, rs.le l1, g1⟩
          | _ => exact g1.elim
  · -- as tests
    cases es with
    | nil => exact absurd rfl hn
    | cons x es =>
      have h' : ((chk G a Z).t x && (chk G r Z).bs es) = true := h
      rw [Bool.and_eq_true] at h'
      obtain ⟨h1, h2⟩ := h'
      cases es with
      | nil =>
        have er := chk_ts_nil r h2
        subst er
        exact ⟨PW.imp (pw_and1 (iha.t x h1)) fun σ H Q q => q, PW.imp (pw_or1 (iha.t x h1)) fun σ H Q q => q⟩
      | cons y es =>
        have hr : ∃ b s, r = .cons b s := by
          cases r with
          | cons b s => exact ⟨b, s, rfl⟩
          | _ => exact ff h2
        obtain ⟨b, s, rfl⟩ := hr
        obtain ⟨i1, i2⟩ := ihr.b (y :: es) pos h2 (by simp)
        refine ⟨PW.imp (pw_and (iha.t x h1) i1) fun σ H Q ⟨μ, ρ, τ, rh, rs, g⟩ => ?_, PW.imp (pw_or (iha.t x h1) i2) fun σ H Q ⟨μ, ρ, τ, rh, rs, g⟩ => ?_⟩
        · have g' : Got B REq Wx μ H (((ev T C a).t ρ τ).bind fun d τ1 => if d = true then (ev T C (.cons b s)).b true ρ τ1 else .ok d τ1) Q := g
          refine ⟨μ, ρ, τ, rh, rs, (Got.bnd (rel := REq) g').imp fun v H1 ⟨d, τ1, μ1, l1, rh1, rv, g1⟩ => ?_⟩
          obtain rfl : d = v := rv
          cases d with
          | true => exact iteT ⟨μ1, ρ, τ1, rh1, rs.le l1, g1⟩
          | false => exact iteF (g1 μ1 H1 false Le.refl rh1 rfl)
        · have g' : Got B REq Wx μ H (((ev T C a).t ρ τ).bind fun d τ1 => if d = false then (ev T C (.cons b s)).b false ρ τ1 else .ok d τ1) Q := g
          refine ⟨μ, ρ, τ, rh, rs, (Got.bnd (rel := REq) g').imp fun v H1 ⟨d, τ1, μ1, l1, rh1, rv, g1⟩ => ?_⟩
          obtain rfl : d = v := rv
          cases d with
          | true => exact iteT (g1 μ1 H1 true Le.refl rh1 rfl)
          | false => exact iteF ⟨μ1, ρ, τ1, rh1, rs.le l1, g1⟩
theorem snd_conj {as : E} (F : Fit G T C B k X Z Wx) (ih : Snd G T C B X Z Wx as) : Snd G T C B X Z Wx (.conj as) := by
  refine Snd.ofET (fun x h => ?_) (fun x h => ?_) rfl rfl rfl rfl (fun _ _ => rfl) rfl
  · cases x with
    | BoolOp op vs pos =>
      cases op with
      | And =>
        have h' : ((chk G as Z).a vs && !vs.isEmpty) = true := h
        rw [Bool.and_eq_true] at h'
        have hn : vs ≠ [] := fun e => by rw [e] at h'; exact ff h'.2
        exact PE.imp (ih.v vs pos h'.1 hn).1 fun σ H Q q => q
      | _ => exact ff h
    | _ => exact ff h
  · cases x with
    | BoolOp op vs pos =>
      cases op with
      | And =>
        have h' : ((chk G as Z).bs vs && !vs.isEmpty) = true := h
        rw [Bool.and_eq_true] at h'
        have hn : vs ≠ [] := fun e => by rw [e] at h'; exact ff h'.2
        exact PT.imp (ih.b vs pos h'.1 hn).1.pt fun σ H Q q => q
      | _ => exact ff h
    | _ => exact ff h
theorem snd_disj {as : E} (F : Fit G T C B k X Z Wx) (ih : Snd G T C B X Z Wx as) : Snd G T C B X Z Wx (.disj as) := by
  refine Snd.ofET (fun x h => ?_) (fun x h => ?_) rfl rfl rfl rfl (fun _ _ => rfl) rfl
  · cases x with
    | BoolOp op vs pos =>
      cases op with
      | Or =>
        have h' : ((chk G as Z).a vs && !vs.isEmpty) = true := h
        rw [Bool.and_eq_true] at h'
        have hn : vs ≠ [] := fun e => by rw [e] at h'; exact ff h'.2
        exact PE.imp (ih.v vs pos h'.1 hn).2 fun σ H Q q => q
      | _ => exact ff h
    | _ => exact ff h
  · cases x with
    | BoolOp op vs pos =>
      cases op with
      | Or =>
        have h' : ((chk G as Z).bs vs && !vs.isEmpty) = true := h
        rw [Bool.and_eq_true] at h'
        have hn : vs ≠ [] := fun e => by rw [e] at h'; exact ff h'.2
        exact PT.imp (ih.b vs pos h'.1 hn).2.pt fun σ H Q q => q
      | _ => exact ff h
    | _ => exact ff h
theorem snd_not {a : E} (F : Fit G T C B k X Z Wx) (iha : Snd G T C B X Z Wx a) : Snd G T C B X Z Wx (.not a) := by
  refine Snd.ofET (fun x h => ?_) (fun x h => ?_) rfl rfl rfl rfl (fun _ _ => rfl) rfl
  · cases x with
    | UnaryOp op y pos =>
      cases op with
      | Not =>
        refine PE.imp (pe_not (iha.e y h)) fun σ H Q ⟨μ, ρ, τ, rh, rs, g⟩ => ?_
        have g' : Got B (RVr B) Wx μ H (((ev T C a).e ρ τ).bind fun x τ1 => match x with
          | .bl b => .ok (.bl (!b)) τ1
          | _ => .no) Q := g
        refine ⟨μ, ρ, τ, rh, rs, (Got.bnd (rel := RVr B) g').imp fun v H1 ⟨x, τ1, μ1, l1, rh1, rv, g1⟩ => ?_⟩
        cases rv with
        | bl b => exact ⟨b, rfl, got_val g1 rh1 (.bl _)⟩
        | _ => exact g1.elim
      | _ => exact ff h
    | _ => exact ff h
  · cases x with
    | UnaryOp op y pos =>
      cases op with
      | Not =>
        refine PT.imp (pt_not (iha.t y h)) fun σ H Q ⟨μ, ρ, τ, rh, rs, g⟩ => ?_
        have g' : Got B REq Wx μ H (((ev T C a).t ρ τ).bind fun b τ1 => .ok (!b) τ1) Q := g
        refine ⟨μ, ρ, τ, rh, rs, (Got.bnd (rel := REq) g').imp fun v H1 ⟨x, τ1, μ1, l1, rh1, rv, g1⟩ => ?_⟩
        obtain rfl : x = v := rv
        exact g1 μ1 H1 _ Le.refl rh1 rfl
      | _ => exact ff h
    | _ => exact ff h
theorem snd_ite {t a b : E} (F : Fit G T C B k X Z Wx) (iht : Snd G T C B X Z Wx t) (iha : Snd G T C B X Z Wx a) (ihb : Snd G T C B X Z Wx b) : Snd G T C B X Z Wx (.ite t a b) := by
  refine Snd.ofET (fun x h => ?_) (fun x h => ff h) rfl rfl rfl rfl (fun _ _ => rfl) rfl
  cases x with
  | IfExp u v w pos =>
    have h' : ((chk G t Z).t u && (chk G a Z).e v && (chk G b Z).e w) = true := h
    rw [Bool.and_eq_true, Bool.and_eq_true] at h'
    refine PE.imp (pe_ifExp (iht.t u h'.1.1) (iha.e v h'.1.2) (ihb.e w h'.2)) fun σ H Q ⟨μ, ρ, τ, rh, rs, g⟩ => ?_
    have g' : Got B (RVr B) Wx μ H (((ev T C t).t ρ τ).bind fun k τ1 => if k = true then (ev T C a).e ρ τ1 else (ev T C b).e ρ τ1) Q := g
    refine ⟨μ, ρ, τ, rh, rs, (Got.bnd (rel := REq) g').imp fun v H1 ⟨d, τ1, μ1, l1, rh1, rv, g1⟩ => ?_⟩
    obtain rfl : d = v := rv
    cases d with
    | true => exact iteT ⟨μ1, ρ, τ1, rh1, rs.le l1, g1⟩
    | false => exact iteF ⟨μ1, ρ, τ1, rh1, rs.le l1, g1⟩
  | _ => exact ff h
theorem snd_tup {as : E} (F : Fit G T C B k X Z Wx) (ih : Snd G T C B X Z Wx as) : Snd G T C B X Z Wx (.tup as) := by
  refine Snd.ofE F.K (fun x h => ?_) rfl rfl rfl rfl rfl (fun _ _ => rfl) (fun _ _ => rfl) rfl
  cases x with
  | Tuple es j pos =>
    refine PE.imp (pe_tup (ih.a es h)) fun σ H Q ⟨μ, ρ, τ, rh, rs, g⟩ => ?_
    have g' : Got B (RVr B) Wx μ H (((ev T C as).a ρ τ).bind fun ws τ1 => if ws.length ≤ sizeLine then .ok (.tup ws) τ1 else .no) Q := g
    refine ⟨μ, ρ, τ, rh, rs, (Got.bnd (rel := RVsr B) g').imp fun vs H1 ⟨ws, τ1, μ1, l1, rh1, rv, g1⟩ => ?_⟩
    have rv' : RVs B.K μ1 H1 ws vs := rv
    split at g1
    · rename_i hc
      refine ⟨by rw [← rv'.length]; exact hc, fun p hp => ?_⟩
      obtain ⟨rh', l⟩ := rh1.more (ho := .tup vs) hp
      exact g1 μ1 _ _ l rh' (.tup (.inl (.inl upd_same)) (rv'.le l))
    · exact g1.elim
  | _ => exact ff h
theorem snd_lst {as : E} (F : Fit G T C B k X Z Wx) (ih : Snd G T C B X Z Wx as) : Snd G T C B X Z Wx (.lst as) := by
  refine Snd.ofE F.K (fun x h => ?_) rfl rfl rfl rfl rfl (fun _ _ => rfl) (fun _ _ => rfl) rfl
  cases x with
  | List es pos =>
    refine PE.imp (pe_lst (ih.a es h)) fun σ H Q ⟨μ, ρ, τ, rh, rs, g⟩ => ?_
    have g' : Got B (RVr B) Wx μ H (((ev T C as).a ρ τ).bind fun ws τ1 => if ws.length ≤ sizeLine then newL τ1 ws else .no) Q := g
    refine ⟨μ, ρ, τ, rh, rs, (Got.bnd (rel := RVsr B) g').imp fun vs H1 ⟨ws, τ1, μ1, l1, rh1, rv, g1⟩ => ?_⟩
    have rv' : RVs B.K μ1 H1 ws vs := rv
    split at g1
    · rename_i hc
      exact ⟨by rw [← rv'.length]; exact hc, got_new g1 rh1 rv'⟩
    · exact g1.elim
  | _ => exact ff h
/-- what holds of a list's members -/
def Els (P : E → Prop) : E → Prop
  | .cons a r => P a ∧ Els P r
  | _ => True
theorem RP.merge {K : PySem.W.Frag} {μ : List Addr} {H : Hp} : ∀ {more : List (Key × W)} {rs : List (Key × V)} {kvs : List (Key × W)} {vs : List (Key × V)}, RP K μ H more rs → RP K μ H kvs vs → RP K μ H (mergeW kvs more) (L2.mergeK vs rs) := by
  intro more rs kvs vs r
  unfold RP at r
  induction r generalizing kvs vs with
  | nil => intro q; exact q
  | @cons p q ps qs h t ih =>
    intro r0
    obtain ⟨p1, p2⟩ := p
    obtain ⟨q1, q2⟩ := q
    obtain ⟨h1, h2⟩ := h
    have h1' : p1 = q1 := h1
    subst h1'
    exact ih (RP.putK h2 r0)
theorem RP.zip {K : PySem.W.Frag} {μ : List Addr} {H : Hp} : ∀ (ks : List Key) {ws : List W} {vs : List V}, RVs K μ H ws vs → RP K μ H (ks.zip ws) (ks.zip vs)
  | [], _, _, _ => by rw [List.zip_nil_left, List.zip_nil_left]; exact .nil
  | k :: ks, _, _, .nil => by rw [List.zip_nil_right, List.zip_nil_right]; exact .nil
  | k :: ks, _, _, .cons a r => .cons ⟨rfl, a⟩ (RP.zip ks r)
theorem keysB_some : ∀ {ks : E} {es : List (Option Expr)}, keysB ks es = true → es.all (·.isSome) = true
  | .nil, [], _ => rfl
  | .nil, _ :: _, h => ff h
  | .cons a r, [], h => by cases a <;> exact ff h
  | .cons a r, none :: l, h => by cases a <;> exact ff h
  | .cons a r, some x :: l, h => by
    cases a with
    | con w =>
      cases x with
      | Constant c j p =>
        have h' : (conB c w && keysB r l) = true := h
        rw [Bool.and_eq_true] at h'
        rw [List.all_cons]
        exact (Bool.and_eq_true _ _).mpr ⟨rfl, keysB_some h'.2⟩
      | _ => exact ff h
    | _ => exact ff h
theorem pairs_ok (F : Fit G T C B k X Z Wx) {pos : Pos} : ∀ (ks vs : E) (es : List (Option Expr)) (fs : List Expr) (kl : List Key), keyLits ks = some kl → keysB ks es = true → es.length = fs.length → (chk G vs Z).a fs = true → Els (Snd G T C B X Z Wx) vs →
    ∃ trs, PPs X pos es fs trs ∧ es.length = kl.length ∧ ∀ σ H Q, (∃ μ ρ τ, RH B.K B.Cl μ τ H ∧ RS B.K μ H ρ σ ∧ Got B (RVsr B) Wx μ H ((ev T C vs).a ρ τ) (fun us H' => Q ((kl.zip us).map fun kv => (kV kv.1, kv.2)) H')) → tPairs trs σ H Q := by
  intro ks
  induction ks with
  | nil =>
    intro vs es fs kl hk hb hl hc he
    cases es with
    | cons _ _ => exact ff hb
    | nil =>
      cases fs with
      | cons _ _ => cases hl
      | nil =>
        cases hk
        have ev0 := chk_nil vs hc
        subst ev0
        refine ⟨[], pps_nil, rfl, fun σ H Q ⟨μ, ρ, τ, rh, rs, g⟩ => ?_⟩
        have g' : Got B (RVsr B) Wx μ H (.ok [] τ) (fun us H' => Q ((([] : List Key).zip us).map fun kv => (kV kv.1, kv.2)) H') := g
        exact g' μ H [] Le.refl rh .nil
  | cons a r iha ihr =>
    intro vs es fs kl hk hb hl hc he
    cases es with
    | nil => cases a <;> exact ff hb
    | cons e es =>
      cases fs with
      | nil => cases hl
      | cons f fs =>
        cases a with
        | con w =>
          cases e with
          | none => exact ff hb
          | some x =>
            cases x with
            | Constant c j p =>
              have hb' : (conB c w && keysB r es) = true := hb
              rw [Bool.and_eq_true] at hb'
              have hv : ∃ b s, vs = .cons b s := by
                cases vs with
                | cons b s => exact ⟨b, s, rfl⟩
                | _ => exact ff hc
              obtain ⟨b, s, rfl⟩ := hv
              have hc' : (noStar f && (chk G b Z).e f && (chk G s Z).a fs) = true := hc
              rw [Bool.and_eq_true, Bool.and_eq_true] at hc'
              have hk' : (match keyOf w, keyLits r with
                | some k, some ks => some (k :: ks)
                | _, _ => none) = some kl := hk
              cases e1 : keyOf w with
              | none => rw [e1] at hk'; cases hk'
              | some key =>
                cases e2 : keyLits r with
                | none => rw [e1, e2] at hk'; cases hk'
                | some kr =>
                  rw [e1, e2] at hk'
                  cases hk'
                  obtain ⟨trs, h1, h2, h3⟩ := ihr s es fs kr e2 hb'.2 (Nat.succ.inj hl) hc'.2 he.2
                  have hcon : (chk G (.con w) Z).e (.Constant c j p) = true := hb'.1
                  refine ⟨_, pps_cons ((snd_con F).e _ hcon) (he.1.e f hc'.1.2) h1, congrArg (· + 1) h2, fun σ H Q ⟨μ, ρ, τ, rh, rs, g⟩ => ?_⟩
                  have g' : Got B (RVsr B) Wx μ H (((ev T C b).e ρ τ).bind fun x τ1 => ((ev T C s).a ρ τ1).bind fun xs τ2 => .ok (x :: xs) τ2) (fun us H' => Q (((key :: kr).zip us).map fun kv => (kV kv.1, kv.2)) H') := g
                  refine ⟨μ, ρ, τ, rh, rs, fun μ0 H0 v l0 rh0 rv0 => ?_⟩
                  have rv0' : RV B.K μ0 H0 w v := rv0
                  have ekey : v = kV key := by
                    cases rv0' with
                    | int i => cases e1; rfl
                    | str i => cases e1; rfl
                    | _ => cases e1
                  subst ekey
                  refine ⟨μ0, ρ, τ, rh0, rs.le l0, (Got.bnd (rel := RVr B) (Got.le l0 g')).imp fun v1 H1 ⟨x1, τ1, μ1, l1, rh1, rv1, g1⟩ => ?_⟩
                  refine h3 σ H1 _ ⟨μ1, ρ, τ1, rh1, (rs.le l0).le l1, (Got.bnd (rel := RVsr B) g1).imp fun us H2 ⟨ws, τ2, μ2, l2, rh2, rv2, g2⟩ => ?_⟩
                  exact g2 μ2 H2 (v1 :: us) Le.refl rh2 (.cons (RV.le l2 rv1) rv2)
            | _ => exact ff hb
        | _ => exact ff hb
  | _ => intro vs es fs kl hk; cases hk
theorem snd_dic {ks vs : E} (F : Fit G T C B k X Z Wx) (ih : Els (Snd G T C B X Z Wx) vs) : Snd G T C B X Z Wx (.dic ks vs) := by
  refine Snd.ofE F.K (fun x h => ?_) rfl rfl rfl rfl rfl (fun _ _ => rfl) (fun _ _ => rfl) rfl
  cases x with
  | Dict es fs pos =>
    have h' : (keysB ks es && decide (es.length = fs.length) && (es.isEmpty || (chk G vs Z).a fs)) = true := h
    rw [Bool.and_eq_true, Bool.and_eq_true] at h'
    obtain ⟨⟨h1, h2⟩, h3⟩ := h'
    have h2' := of_decide_eq_true h2
    cases hk : keyLits ks with
    | none =>
      refine PE.dyn fun σ H Q ⟨μ, ρ, τ, rh, rs, g⟩ => ?_
      have g' : Got B (RVr B) Wx μ H (match keyLits ks with
        | some [] => .ok (.ref τ.length) (τ ++ [.dic []])
        | some (k :: r) => if r.length < 15 then ((ev T C vs).a ρ (τ ++ [.dic []])).bind (dispR τ.length (k :: r)) else .no
        | none => .no) Q := g
      rw [hk] at g'
      exact g'.elim
    | some kl =>
      cases es with
      | nil =>
        cases fs with
        | cons _ _ => cases h2'
        | nil =>
          have hks : ks = .nil := by
            cases ks with
            | nil => rfl
            | cons a r => cases a <;> exact ff h1
            | _ => exact ff h1
          subst hks
          refine PE.imp pe_dnewK fun σ H Q ⟨μ, ρ, τ, rh, rs, g⟩ p hp => ?_
          have g' : Got B (RVr B) Wx μ H (.ok (.ref τ.length) (τ ++ [.dic []])) Q := g
          obtain ⟨rh', l'⟩ := rh.push (o := .dic []) (ho := .dK []) hp ⟨[], upd_same, .nil⟩
          exact g' _ _ _ l' rh' (.ref (by rw [← rh.len]; simp))
      | cons e es =>
        have h3' : (chk G vs Z).a fs = true := h3
        obtain ⟨trs, t1, t2, t3⟩ := pairs_ok (pos := pos) F ks vs (e :: es) fs kl hk h1 h2' h3' ih
        cases kl with
        | nil => cases t2
        | cons key kr =>
          refine PE.dyn fun σ H Q ⟨μ, ρ, τ, rh, rs, g⟩ => ?_
          have g' : Got B (RVr B) Wx μ H (match keyLits ks with
            | some [] => .ok (.ref τ.length) (τ ++ [.dic []])
            | some (k :: r) => if r.length < 15 then ((ev T C vs).a ρ (τ ++ [.dic []])).bind (dispR τ.length (k :: r)) else .no
            | none => .no) Q := g
          rw [hk] at g'
          have g2 : Got B (RVr B) Wx μ H (if kr.length < 15 then ((ev T C vs).a ρ (τ ++ [.dic []])).bind (dispR τ.length (key :: kr)) else .no) Q := g'
          split at g2
          · rename_i hc
            refine ⟨_, pe_disp t1 (keysB_some h1) h2' (by simp) (by rw [t2, List.length_cons]; omega), fun p hp => ?_⟩
            obtain ⟨rh', l'⟩ := rh.push (o := .dic []) (ho := .dK []) hp ⟨[], upd_same, .nil⟩
            refine t3 σ _ _ ⟨μ ++ [p], ρ, τ ++ [.dic []], rh', rs.le l', (Got.bnd (rel := RVsr B) (Got.le l' g2)).imp fun us H1 ⟨ws, τ1, μ1, l1, rh1, rv1, g3⟩ => ?_⟩
            have rv1' : RVs B.K μ1 H1 ws us := rv1
            have hp1 : μ1[τ.length]? = some p := l1.get (by rw [← rh.len]; simp)
            unfold dispR at g3
            split at g3
            · rename_i hd
              split at g3
              · rename_i hw
                obtain ⟨p', hp', ro⟩ := rh1.at_ hd
                rw [hp1] at hp'
                cases hp'
                obtain ⟨ps, e4, rp⟩ := ro
                cases rp
                refine ⟨e4, (key :: kr).zip us, rfl, by rw [List.length_zip, List.length_cons]; omega, ?_⟩
                have l4 : Le B.K μ1 H1 μ1 (upd H1 p (.dK (L2.mergeK [] ((key :: kr).zip us)))) := ⟨⟨[], by simp⟩, tup_upd (noTup_dK e4)⟩
                obtain ⟨rh4, l5⟩ := rh1.put (o := .dic (mergeW [] ((key :: kr).zip ws))) (ho := .dK (L2.mergeK [] ((key :: kr).zip us))) hp1 hd (fun xs z => by cases z) (noTup_dK e4) ⟨_, upd_same, (RP.merge (RP.zip (key :: kr) rv1') .nil).le l4⟩
                exact g3 μ1 _ _ l5 rh4 (.ref hp1)
              · exact g3.elim
            · exact g3.elim
          · exact g2.elim
  | _ => exact ff h
theorem snd_slice {a lo hi : E} (F : Fit G T C B k X Z Wx) (iha : Snd G T C B X Z Wx a) (ihl : Snd G T C B X Z Wx lo) (ihh : Snd G T C B X Z Wx hi) : Snd G T C B X Z Wx (.slice a lo hi) := by
  refine Snd.ofE F.K (fun x h => ?_) rfl rfl rfl rfl rfl (fun _ _ => rfl) (fun _ _ => rfl) rfl
  cases x with
  | Subscript u v pos =>
    cases v with
    | Slice l h2 st p2 =>
      cases st with
      | some _ => exact ff h
      | none =>
        have h' : ((chk G a Z).e u && (chk G lo Z).p l && (chk G hi Z).p h2) = true := h
        rw [Bool.and_eq_true, Bool.and_eq_true] at h'
        refine PE.imp (pe_slice (sl_any (B := B) (Wx := Wx) F.K) (iha.e u h'.1.1) (ihl.p l h'.1.2) (ihh.p h2 h'.2)) fun σ H Q ⟨μ, ρ, τ, rh, rs, g⟩ => ?_
        have g' : Got B (RVr B) Wx μ H (((ev T C a).e ρ τ).bind fun x τ1 => ((ev T C lo).p ρ τ1).bind fun l τ2 => ((ev T C hi).p ρ τ2).bind fun h τ3 => sliceW x l h τ3) Q := g
        refine ⟨μ, ρ, τ, rh, rs, (Got.bnd (rel := RVr B) g').imp fun v H1 ⟨x, τ1, μ1, l1, rh1, rv, g1⟩ => ?_⟩
        refine ⟨μ1, ρ, τ1, rh1, rs.le l1, (Got.bnd (rel := REq) g1).imp fun p H2 ⟨q, τ2, μ2, l2, rh2, rq, g2⟩ => ?_⟩
        refine ⟨μ2, ρ, τ2, rh2, (rs.le l1).le l2, (Got.bnd (rel := REq) g2).imp fun p3 H3 ⟨q3, τ3, μ3, l3, rh3, rq3, g3⟩ => ?_⟩
        obtain rfl : q = p := rq
        obtain rfl : q3 = p3 := rq3
        exact ⟨μ3, τ3, x, rh3, RV.le l3 (RV.le l2 rv), g3⟩
    | _ => exact ff h
  | _ => exact ff h

/-! ### fields and calls -/
theorem snd_bi {b : BI} {as : E} (F : Fit G T C B k X Z Wx) (ih : Snd G T C B X Z Wx as) : Snd G T C B X Z Wx (.bi b as) := by
  refine Snd.ofE F.K (fun x h => ?_) rfl rfl rfl rfl rfl (fun _ _ => rfl) (fun _ _ => rfl) rfl
  cases x with
  | Call f es kws pos =>
    cases f with
    | Name n p =>
      cases kws with
      | cons _ _ => exact ff h
      | nil =>
        have h' : (glB Z.sc n && decide (n = biName b) && G.bi n && !es.isEmpty && (chk G as Z).a es) = true := h
        rw [Bool.and_eq_true, Bool.and_eq_true, Bool.and_eq_true, Bool.and_eq_true, decide_eq_true_iff] at h'
        obtain ⟨⟨⟨⟨h1, rfl⟩, h3⟩, h4⟩, h5⟩ := h'
        cases es with
        | nil => exact ff h4
        | cons e es =>
          have hs := chk_stars G Z as h5
          have hs' : noStar e = true ∧ noStars es = true := by
            have := hs
            unfold noStars at this ⊢
            rw [List.all_cons, Bool.and_eq_true] at this
            exact this
          have fin : ∀ {σ : L2.St} {H : Hp} {Q : VK}, tE T C B Wx (.bi b as) σ H Q → tCB (rBi B Wx b) (tA T C B Wx as) σ H Q := fun {σ H Q} ⟨μ, ρ, τ, rh, rs, g⟩ => by
            have g' : Got B (RVr B) Wx μ H (((ev T C as).a ρ τ).bind fun ws τ1 => builtin b ws τ1) Q := g
            refine ⟨μ, ρ, τ, rh, rs, (Got.bnd (rel := RVsr B) g').imp fun vs H1 ⟨ws, τ1, μ1, l1, rh1, rv, g1⟩ => ?_⟩
            exact ⟨μ1, τ1, ws, rh1, rv, g1⟩
          have hb := bi_any (Wx := Wx) F.K F.calm b
          have hboot := bi_boot b
          obtain ⟨hn1, hn2⟩ := bi_name b
          cases hv : biVal b with
          | builtin id =>
            rw [hv] at hb hboot
            exact PE.imp (pe_callB hb (glB_gl F h1) (F.bi _ h3) hboot (ih.a _ h5) hn1 hn2 (star_cons hs'.1) (star_plain hs'.2)) fun σ H Q q => fin q
          | type ty =>
            rw [hv] at hb hboot
            exact PE.imp (pe_callTy hb (glB_gl F h1) (F.bi _ h3) hboot (ih.a _ h5) hn1 hn2 (star_cons hs'.1) (star_plain hs'.2)) fun σ H Q q => fin q
          | _ => cases b <;> cases hv
    | _ => exact ff h
  | _ => exact ff h
/-- the callee's promise met -/
theorem tail_got {σ : L2.St} {ρ : Sl} {μ : List Addr} {H : Hp} {A : R W} {Q : VK} (rs : RS B.K μ H ρ σ) (g : Got B (RVr B) Wx μ H (tail ρ A) Q) : Got B (RVr B) (fun cls d _ H => WE Wx σ cls d H) μ H A Q := by
  cases A with
  | ok a τ' => exact g
  | exn x ρ' τ' => exact fun μ' H' σ' d l r _ rx => g μ' H' σ d l r (rs.le l) rx
  | no => exact g
theorem snd_call {f : Nat} {as : E} (F : Fit G T C B k X Z Wx) (ih : Snd G T C B X Z Wx as) : Snd G T C B X Z Wx (.call f as) := by
  refine Snd.ofE F.K (fun x h => ?_) rfl rfl rfl rfl rfl (fun _ _ => rfl) (fun _ _ => rfl) rfl
  cases x with
  | Call fn es kws pos =>
    cases fn with
    | Name n p =>
      cases kws with
      | cons _ _ => exact ff h
      | nil =>
        have h' : (glB Z.sc n && plainName n && decide (G.fn n = some f) && (chk G as Z).a es) = true := h
        rw [Bool.and_eq_true, Bool.and_eq_true, Bool.and_eq_true, decide_eq_true_iff] at h'
        obtain ⟨⟨⟨h1, h2⟩, h3⟩, h5⟩ := h'
        obtain ⟨a, hm, cal⟩ := F.fn n f h3
        obtain ⟨fd, ps, hb, FO, ar⟩ := cal.ex
        have hroom : Room k X.A := F.room.mono (Nat.le_succ k)
        have hs := chk_stars G Z as h5
        refine ⟨fun pins s σ H Q I ⟨μ, ρ, τ, rh, rs, g⟩ => ?_⟩
        have g' : Got B (RVr B) Wx μ H (((ev T C as).a ρ τ).bind fun ws τ1 => tail ρ (C f ws τ1)) Q := g
        have sp : ∀ vs H1, (∃ ws τ1 μ1, Le B.K μ H μ1 H1 ∧ RH B.K B.Cl μ1 τ1 H1 ∧ RVsr B μ1 H1 ws vs ∧ Got B (RVr B) Wx μ1 H1 (tail ρ (C f ws τ1)) Q) → spF C B f ps.length vs H1 Q (WE Wx σ) := by
          rintro vs H1 ⟨ws, τ1, μ1, l1, rh1, rv, g1⟩
          have rv' : RVs B.K μ1 H1 ws vs := rv
          refine ⟨?_, μ1, τ1, ws, rh1, rv, tail_got (rs.le l1) g1⟩
          rcases ar ws τ1 with e | e
          · rw [e] at g1
            exact g1.elim
          · rw [← rv'.length]; exact e
        refine wpAny_Call_Name_kw (ld_glob I (glB_gl F h1) hm ?_ (plainName_of h2).1)
        cases es with
        | nil =>
          have e := chk_nil as h5
          subst e
          exact PySem.W.callWith_K0 I.kIn cal.kp (run_fnS (us := []) FO hroom hb (L2N.passAt F.tk σ) I .nil (sp [] H ⟨[], τ, μ, Le.refl, rh, .nil, g'⟩))
        | cons e es =>
          have hs' : noStar e = true ∧ noStars es = true := by
            have := hs
            unfold noStars at this ⊢
            rw [List.all_cons, Bool.and_eq_true] at this
            exact this
          refine PySem.W.callWith_K (h₀ := X.base) I.ok.mod.kin cal.kp (thn ((ih.a _ h5).run pos pins s σ H _ I ⟨μ, ρ, τ, rh, rs, (Got.bnd (rel := RVsr B) g').imp sp⟩) fun us s1 ⟨vs, H1, I1, r, q⟩ => ⟨I1.kIn, ?_⟩) (star_cons hs'.1) (star_plain hs'.2)
          exact run_fnS FO hroom hb (L2N.passAt F.tk σ) I1 r q
    | _ => exact ff h
  | _ => exact ff h
theorem ty_rv {μ : List Addr} {H : Hp} {τ : Sto} {w : W} {v : V} {n : Ty} (rh : RH B.K B.Cl μ τ H) (r : RV B.K μ H w v) (h : tyOf τ w = some n) : TyX B.K H v (.type (tyName n)) := by
  cases r with
  | non => cases h; exact .base .non
  | bl b => cases h; exact .base (.bl b)
  | int b => cases h; exact .base (.int b)
  | str b => cases h; exact .base (.str b)
  | @tup a vs ws s r =>
    cases h
    rcases s with (s | ⟨o, s⟩) | ⟨o, its, n, h1, h2, _⟩
    · exact .base (.tup s)
    · exact .fTuple s
    · exact .kTuple h1 h2
  | @ref n a ha =>
    unfold tyOf at h
    dsimp only at h
    cases e : τ[n]? with
    | none => rw [e] at h; cases h
    | some o =>
      rw [e] at h
      obtain ⟨a', ha', ho⟩ := rh.at_ e
      obtain rfl := Option.some.inj (ha'.symm.trans ha)
      cases o with
      | lst ys =>
        cases h
        obtain ⟨vs, h0, r⟩ := ho
        exact .base (.lst h0)
      | frz ns =>
        cases h
        have ho' : SqL B.K H a' (ns.map V.int) := ho
        rcases ho' with (s | ⟨o, s⟩) | ⟨o, its, n, h1, h2, _⟩
        · exact .base (.lst s)
        · exact .base (.frz s)
        · exact .kList h1 h2
      | dic kvs =>
        cases h
        obtain ⟨qs, h0, r⟩ := ho
        exact .base (.dK h0)
      | ins c fs => cases h
theorem kit_inst : ∀ a t : Ty, kitB (tyName a) (tyName t) = some (inst a t) := by
  intro a t
  cases a <;> cases t <;> decide +kernel
theorem ty_boot : ∀ t : Ty, t ≠ .none → bootBuiltins (Str.ofString (tyName t)) = some (.type (tyName t)) ∧ Str.ofString (tyName t) ≠ "__name__" ∧ (Str.ofString (tyName t) == ("__debug__" : Str)) = false := by
  intro t h
  cases t <;> first | exact absurd rfl h | decide +kernel
theorem snd_isi {a : E} {t : Ty} (F : Fit G T C B k X Z Wx) (ih : Snd G T C B X Z Wx a) : Snd G T C B X Z Wx (.isi a t) := by
  refine Snd.ofE F.K (fun x h => ?_) rfl rfl rfl rfl rfl (fun _ _ => rfl) (fun _ _ => rfl) rfl
  have h0 : (match isiArgs x with
    | some (n, u, ty) => glB Z.sc n && decide (n = "isinstance") && G.bi n && glB Z.sc ty && decide (ty = Str.ofString (tyName t)) && decide (t ≠ .none) && G.bi ty && noStar u && (chk G a Z).e u
    | none => false) = true := h
  cases hx : isiArgs x with
  | none => rw [hx] at h0; exact ff h0
  | some q =>
    obtain ⟨n, u, ty⟩ := q
    rw [hx] at h0
    obtain ⟨p, p2, pos, rfl⟩ := isiArgs_of hx
    simp only [Bool.and_eq_true, decide_eq_true_iff] at h0
    obtain ⟨⟨⟨⟨⟨⟨⟨⟨h1, rfl⟩, h3⟩, h4⟩, rfl⟩, h6⟩, h7⟩, h8⟩, h9⟩ := h0
    obtain ⟨b1, b2, b3⟩ := ty_boot t h6
    refine PE.imp (pe_callB (id := "isinstance") call_isi (glB_gl F h1) (F.bi _ h3) (by decide +kernel) (pa_cons (ih.e u h9) (pa_cons (pe_bltn (v := .ty (tyName t)) (glB_gl F h4) (F.bi _ h7) b1 rfl b2 b3) pa_nil) (star_cons h8)) (by decide) (by decide) (star_cons h8) rfl) fun σ H Q ⟨μ, ρ, τ, rh, rs, g⟩ => ?_
    have g' : Got B (RVr B) Wx μ H (((ev T C a).e ρ τ).bind fun x τ1 => lift τ1 ((tyOf τ1 x).map fun n => .bl (inst n t))) Q := g
    refine ⟨μ, ρ, τ, rh, rs, (Got.bnd (rel := RVr B) g').imp fun v H1 ⟨x, τ1, μ1, l1, rh1, rv, g1⟩ => ?_⟩
    cases e : tyOf τ1 x with
    | none => rw [e] at g1; exact g1.elim
    | some n =>
      rw [e] at g1
      exact ⟨v, .ty (tyName t), _, _, _, rfl, .ty _, by rw [F.K]; exact ty_rv rh1 rv e, kit_ty (kit_inst n t), got_val g1 rh1 (.bl _)⟩
theorem snd_fld {a : E} {f : Str} (F : Fit G T C B k X Z Wx) (iha : Snd G T C B X Z Wx a) : Snd G T C B X Z Wx (.fld a f) := by
  refine Snd.ofE F.K (fun x h => ?_) rfl rfl rfl rfl rfl (fun _ _ => rfl) (fun _ _ => rfl) rfl
  cases x with
  | Attribute u n pos =>
    have h' : (decide (n = f) && plainBase u && (chk G a Z).e u) = true := h
    rw [Bool.and_eq_true, Bool.and_eq_true, decide_eq_true_iff] at h'
    obtain ⟨⟨rfl, h1⟩, h2⟩ := h'
    refine PE.imp (pe_fld (iha.e u h2) (base_plain h1)) fun σ H Q ⟨μ, ρ, τ, rh, rs, g⟩ => ?_
    have g' : Got B (RVr B) Wx μ H (((ev T C a).e ρ τ).bind fun x τ1 => lift τ1 (fieldOf T τ1 x n)) Q := g
    refine ⟨μ, ρ, τ, rh, rs, (Got.bnd (rel := RVr B) g').imp fun v H1 ⟨x, τ1, μ1, l1, rh1, rv, g1⟩ => ?_⟩
    cases rv with
    | @ref m ad ha =>
      have g2 : Got B (RVr B) Wx μ1 H1 (lift τ1 (match τ1[m]? with
        | some (.ins c fs) => if T.attr c n = true then fs.lookup n else none
        | _ => none)) Q := g1
      cases e : τ1[m]? with
      | none => rw [e] at g2; exact g2.elim
      | some o =>
        rw [e] at g2
        obtain ⟨a', ha', ho⟩ := rh1.at_ e
        obtain rfl := Option.some.inj (ha'.symm.trans ha)
        cases o with
        | ins c fs =>
          dsimp only at g2
          split at g2
          · rename_i hc
            obtain ⟨dx, ps, h0, r⟩ := ho
            obtain ⟨c1, c2⟩ := F.attr c n hc
            cases e2 : fs.lookup n with
            | none => rw [e2] at g2; exact g2.elim
            | some w =>
              rw [e2] at g2
              obtain ⟨v, hv, rv⟩ := r.lookup e2
              exact ⟨a', _, dx, ps, v, rfl, h0, c1, c2, hv, got_val g2 rh1 rv⟩
          · exact g2.elim
        | _ => exact g2.elim
    | _ => exact g1.elim
  | _ => exact ff h
end
end Mi
/-! Mi8: methods, instances made, what is walked, comprehensions; all expressions. -/
namespace Mi
open PySem PySem.Spec PyProof.Rows L2
theorem takes0N {X : L2.Cx} : L2N.Takes X (fun _ _ _ _ => False) := fun _ _ x => by
  obtain ⟨_, _, _, _, _, _, _, _, _, _, _, _, _, _, _, _, z⟩ := x
  exact z.elim
section
variable {G : Gt} {T : Tb} {C : Calls} {B : Bs} {k : Nat} {X : L2.Cx} {Z : Sx} {Wx : WX}

theorem stars2 {e : Expr} {es : List Expr} (h : noStars (e :: es) = true) : noStar e = true ∧ noStars es = true := by
  unfold noStars at h ⊢
  rw [List.all_cons, Bool.and_eq_true] at h
  exact h
/-- the arguments of a call, then the callee -/
theorem args_run {as : E} {es : List Expr} {pos : Pos} {f : Value} {first : List Value} {pins : List (Addr × Obj)} {s : Shared} {σ : L2.St} {H : Hp} {Qf : Value → Shared → Prop} {R : List V → Hp → Prop} (F : Fit G T C B k X Z Wx) (ih : Snd G T C B X Z Wx as)
    (hc : (chk G as Z).a es = true) (hk : PySem.W.keepIn X.K f = true) (I : Inv X pins σ H s) (h : tA T C B Wx as σ H R)
    (fin : ∀ us vs s1 H1, Inv X pins σ H1 s1 → Vals vs us → R vs H1 → wpAny (model X.prog X.w) X.A (call f (first ++ us)) Qf X.xe s1) :
    wpAny (model X.prog X.w) X.A (callWith pos f first (backTo pos (starEach es X.env)) []) Qf X.xe s := by
  cases es with
  | nil =>
    have e := chk_nil as hc
    subst e
    obtain ⟨μ, ρ, τ, rh, rs, g⟩ := h
    exact PySem.W.callWith_K0 I.kIn hk (fin [] [] s H I .nil (g μ H [] Le.refl rh .nil))
  | cons e es =>
    obtain ⟨h1, h2⟩ := stars2 (chk_stars G Z as hc)
    refine PySem.W.callWith_K (h₀ := X.base) I.ok.mod.kin hk (thn ((ih.a _ hc).run pos pins s σ H R I h) fun us s1 hs => ?_) (star_cons h1) (star_plain h2)
    obtain ⟨vs, H1, I1, r, q⟩ := hs
    exact ⟨I1.kIn, fin us vs s1 H1 I1 r q⟩
theorem snd_meth {m : Str} {o as : E} (F : Fit G T C B k X Z Wx) (iho : Snd G T C B X Z Wx o) (ih : Snd G T C B X Z Wx as) : Snd G T C B X Z Wx (.meth m o as) := by
  refine Snd.ofE F.K (fun x h => ?_) rfl rfl rfl rfl rfl (fun _ _ => rfl) (fun _ _ => rfl) rfl
  have h0 : (match mArgs x with
      | some (u, n, ap, es, cp) => decide (n = m) && plainBase u && (ap.endLine == cp.line) && decide (es.length < 29) && (chk G o Z).e u && (chk G as Z).a es
      | none => false) = true := h
  cases hx : mArgs x with
  | none => rw [hx] at h0; exact ff h0
  | some q =>
    obtain ⟨u, n, ap, es, cp⟩ := q
    rw [hx] at h0
    have ex := mArgs_of hx
    subst ex
    simp only [Bool.and_eq_true, decide_eq_true_iff] at h0
    obtain ⟨⟨⟨⟨⟨rfl, h1⟩, h2⟩, h3⟩, h4⟩, h5⟩ := h0
    have hs := chk_stars G Z as h5
    refine ⟨fun pins s σ H Q I ⟨μ, ρ, τ, rh, rs, g⟩ => ?_⟩
    have g' : Got B (RVr B) Wx μ H (((ev T C o).e ρ τ).bind fun x τ1 => match x with
      | .ref m => match τ1[m]? with
        | some (.ins c fs) => match fs.lookup n, T.meth c n with
          | none, some f => ((ev T C as).a ρ τ1).bind fun ws τ2 => tail ρ (C f (.ref m :: ws) τ2)
          | _, _ => .no
        | _ => .no
      | _ => .no) Q := g
    refine PySem.W.methodCall_KW (pl := (do return (← importBound u X.env).getD true)) (thn ((iho.e u h4).run pins s σ H _ I ⟨μ, ρ, τ, rh, rs, Got.bnd (rel := RVr B) g'⟩) fun uv s1 hq => ?_) (meth_form h1 h2 hs (by omega))
    obtain ⟨xv, H1, I1, rx, w, τ1, μ1, l1, rh1, rv, g1⟩ := hq
    have rv' : RV B.K μ1 H1 w xv := rv
    cases rv' with
    | @ref m a ha =>
      obtain rfl : uv = Value.ref a := rx
      have g2 : Got B (RVr B) Wx μ1 H1 (match τ1[m]? with
        | some (.ins c fs) => match fs.lookup n, T.meth c n with
          | none, some f => ((ev T C as).a ρ τ1).bind fun ws τ2 => tail ρ (C f (.ref m :: ws) τ2)
          | _, _ => .no
        | _ => .no) Q := g1
      cases e : τ1[m]? with
      | none => rw [e] at g2; exact g2.elim
      | some ob =>
        rw [e] at g2
        obtain ⟨a', ha', ho⟩ := rh1.at_ e
        obtain rfl := Option.some.inj (ha'.symm.trans ha)
        cases ob with
        | ins c fs =>
          obtain ⟨dx, ps, hi, rp⟩ := ho
          cases e1 : fs.lookup n with
          | some _ => simp only [e1] at g2; exact g2.elim
          | none =>
            cases e2 : T.meth c n with
            | none => simp only [e1, e2] at g2; exact g2.elim
            | some f =>
              simp only [e1, e2] at g2
              obtain ⟨a2, cls, meth, _, _, cal⟩ := F.meth c n f e2
              obtain ⟨fd, pl, hb, FO, ar⟩ := cal.ex
              refine getmeth_ok I1 hi cls meth (rp.lookup_none e1) ?_
              refine args_run (first := [.ref a']) F ih h5 meth.kp I1 ⟨μ1, ρ, τ1, rh1, rs.le l1, Got.bnd (rel := RVsr B) g2⟩ fun us vs s2 H2 I2 r hw => ?_
              obtain ⟨ws, τ2, μ2, l2, rh2, rvs, g3⟩ := hw
              have rvs' : RVs B.K μ2 H2 ws vs := rvs
              refine run_fnS (us := .ref a' :: us) (vs := .ref a' :: vs) FO (F.room.mono (Nat.le_succ k)) hb (L2N.passAt F.tk σ) I2 (.cons rfl r) ⟨?_, μ2, τ2, .ref m :: ws, rh2, .cons (.ref (l2.get ha)) rvs', tail_got ((rs.le l1).le l2) g3⟩
              rcases ar (.ref m :: ws) τ2 with e3 | e3
              · rw [e3] at g3; exact g3.elim
              · rw [← e3, List.length_cons, List.length_cons, rvs'.length]
        | _ => exact g2.elim
    | _ => exact g1.elim

/-- what a comprehension's block is to be -/
theorem fit_blk (F : Fit G T C B k X Z Wx) (s : Shared) (H : Hp) (scope : Scope) (Ca : Addr) (cl : List (Str × Addr)) (fp : List Addr) :
    Fit G T C B k (X.blk s H scope (compEnvC scope cl Ca X.env) fp) ⟨Z.N, relS scope Z.sc, scope.names⟩ (fun _ _ _ _ => False) where
  N := F.N
  nd := F.nd
  sc := by
    show relS scope X.env.scope = relS scope Z.sc
    rw [F.sc]
  own := fun x hx => by
    have h' : (match scope.names.lookup x with
      | some .local => true | some .cell => true | _ => false) = true := hx
    show (List.lookup x (relS scope X.env.scope).names = some .local ∨ List.lookup x (relS scope X.env.scope).names = some .cell) ∧ ((scope.names.lookup x == some .cell) = true ∨ List.lookup x (relS scope X.env.scope).names = some .local)
    cases e : scope.names.lookup x with
    | none => rw [e] at h'; exact ff h'
    | some kd =>
      rw [e] at h'
      cases kd with
      | «local» =>
        have e2 := lookup_relS_keep (sc := X.env.scope) (k := .local) (by decide) e
        exact ⟨.inl e2, .inr e2⟩
      | cell =>
        have e2 := lookup_relS_keep (sc := X.env.scope) (k := .cell) (by decide) e
        exact ⟨.inr e2, .inl (by decide)⟩
      | _ => exact ff h'
  calm := F.calm
  K := F.K
  room := F.room
  con := F.con
  bi := F.bi
  fn := F.fn
  cl := F.cl
  meth := F.meth
  attr := F.attr
  tk := takes0N

/-! ### targets -/
def tgs : List Nat → TGs
  | [] => gNil
  | i :: r => gCons (gName i) (tgs r)
def tgG (K : PySem.W.Frag) : Mi.G → TG
  | .name i => gName i
  | .tup is => gTup K is.length (tgs is)
theorem pg_one (F : Fit G T C B k X Z Wx) {i : Nat} {x : Str} {pos : Pos} (h1 : Z.N[i]? = some x) (h2 : ownB Z x = true) : PG X (.Name x pos) (gName i) := by
  obtain ⟨o1, o2⟩ := F.own x h2
  exact pg_name F.nd (by rw [F.N]; exact h1) o1 o2
theorem pgs_all (F : Fit G T C B k X Z Wx) : ∀ {is : List Nat} {es : List Expr}, es.length = is.length → ((is.zip es).all fun p => match p.2 with
    | .Name x _ => decide (Z.N[p.1]? = some x) && ownB Z x
    | _ => false) = true → PGs X es (tgs is) ∧ (assignEach es X.env).length = is.length ∧ (assignEach es X.env).findIdx? (·.1) = none
  | [], [], _, _ => ⟨pgs_nil, rfl, rfl⟩
  | i :: is, [], h, _ => by cases h
  | [], e :: es, h, _ => by cases h
  | i :: is, e :: es, h, hc => by
    rw [List.zip_cons_cons, List.all_cons, Bool.and_eq_true] at hc
    obtain ⟨h1, h2⟩ := hc
    obtain ⟨i1, i2, i3⟩ := pgs_all F (is := is) (es := es) (by simpa using h) h2
    cases e with
    | Name x pos =>
      have h1' : (decide (Z.N[i]? = some x) && ownB Z x) = true := h1
      rw [Bool.and_eq_true, decide_eq_true_iff] at h1'
      refine ⟨pgs_cons (pg_one F h1'.1 h1'.2) i1 rfl, ?_, ?_⟩
      · show (assignEach es X.env).length + 1 = is.length + 1
        rw [i2]
      · show List.findIdx? (·.1) ((false, assign (.Name x pos) X.env) :: assignEach es X.env) = none
        rw [List.findIdx?_cons, i3] <;> rfl
    | _ => exact ff h1
theorem pg_any (F : Fit G T C B k X Z Wx) {g : Mi.G} {e : Expr} (h : chkG Z g e = true) : PG X e (tgG X.K g) := by
  cases g with
  | name i =>
    cases e with
    | Name x pos =>
      have h' : (decide (Z.N[i]? = some x) && ownB Z x) = true := h
      rw [Bool.and_eq_true, decide_eq_true_iff] at h'
      exact pg_one F h'.1 h'.2
    | _ => exact ff h
  | tup is =>
    cases e with
    | Tuple es j pos =>
      have h' : (decide (es.length = is.length) && (is.zip es).all fun p => match p.2 with
        | .Name x _ => decide (Z.N[p.1]? = some x) && ownB Z x
        | _ => false) = true := h
      rw [Bool.and_eq_true, decide_eq_true_iff] at h'
      obtain ⟨i1, i2, i3⟩ := pgs_all F h'.1 h'.2
      exact pg_tup F.calm i1 i2 i3
    | _ => exact ff h
theorem tgs_imp {μ : List Addr} {H : Hp} {Q : L2.St → Hp → Prop} : ∀ {is : List Nat} {xs : List W} {vs : List V} {ρ : Sl} {σ : L2.St}, xs.length = is.length → RVs B.K μ H xs vs → RS B.K μ H ρ σ →
    (∀ σ', RS B.K μ H ((is.zip xs).foldl (fun r p => r.set p.1 (some p.2)) ρ) σ' → σ'.length = σ.length → (∀ ws, (∀ i ∈ is, i ∈ ws) → wipe σ' ws = wipe σ ws) → Q σ' H) → tgs is vs σ H Q
  | [], [], _, ρ, σ, _, .nil, rs, q => ⟨rfl, q σ rs rfl fun _ _ => rfl⟩
  | i :: is, x :: xs, _, ρ, σ, hl, .cons (v := v) (vs := vs) a r, rs, q => by
    refine ⟨v, vs, rfl, ?_⟩
    refine tgs_imp (is := is) (xs := xs) (by simpa using hl) r (rs.set (i := i) a) fun σ' rs' hl' hw => ?_
    refine q σ' rs' (by rw [hl', List.length_set]) fun ws hm => ?_
    rw [hw ws fun j hj => hm j (List.mem_cons_of_mem _ hj)]
    exact wipe_set (hm i List.mem_cons_self)
  | [], _ :: _, _, _, _, h, _, _, _ => by cases h
  | _ :: _, [], _, _, _, h, _, _, _ => by cases h
where
  wipe_set {σ : L2.St} {i : Nat} {v : Option V} : ∀ {ws : List Nat}, i ∈ ws → wipe (σ.set i v) ws = wipe σ ws
    | [], h => absurd h (by simp)
    | w :: ws, h => by
      show (wipe (σ.set i v) ws).set w none = (wipe σ ws).set w none
      by_cases hi : i ∈ ws
      · rw [wipe_set hi]
      · have e : i = w := by
          rcases List.mem_cons.mp h with e | e
          · exact e
          · exact absurd e hi
        subst e
        have : ∀ (ws : List Nat) (σ : L2.St), (wipe (σ.set i v) ws).set i none = (wipe σ ws).set i none := by
          intro ws
          induction ws with
          | nil => intro σ; show (σ.set i v).set i none = σ.set i none; rw [List.set_set]
          | cons u us ihu =>
            intro σ
            show ((wipe (σ.set i v) us).set u none).set i none = ((wipe σ us).set u none).set i none
            by_cases hu : u = i
            · subst hu
              rw [List.set_set, List.set_set]
              exact ihu σ
            · rw [List.set_comm _ _ hu, List.set_comm _ _ hu, ihu σ]
        exact this ws σ
theorem wipe_set {σ : L2.St} {i : Nat} {v : Option V} {ws : List Nat} (h : i ∈ ws) : wipe (σ.set i v) ws = wipe σ ws := tgs_imp.wipe_set h
theorem wipe_wipe (σ : L2.St) (ws : List Nat) : wipe (wipe σ ws) ws = wipe σ ws := by
  have key : ∀ (us : List Nat), (∀ i ∈ us, i ∈ ws) → ∀ τ : L2.St, wipe (wipe τ us) ws = wipe τ ws := by
    intro us
    induction us with
    | nil => intro _ τ; rfl
    | cons u us ihu =>
      intro hm τ
      show wipe ((wipe τ us).set u none) ws = wipe τ ws
      rw [wipe_set (hm u List.mem_cons_self)]
      exact ihu (fun i hi => hm i (List.mem_cons_of_mem _ hi)) τ
  exact key ws (fun _ h => h) σ
/-- a target takes its value -/
theorem tg_imp {g : Mi.G} {w : W} {v : V} {ρ ρ' : Sl} {σ : L2.St} {μ : List Addr} {H : Hp} {Q : L2.St → Hp → Prop} (hK : X.K = B.K) (hp : putG g w ρ = some ρ') (rv : RV B.K μ H w v) (rs : RS B.K μ H ρ σ)
    (q : ∀ σ', RS B.K μ H ρ' σ' → (∀ ws, gIn g ws = true → wipe σ' ws = wipe σ ws) → Q σ' H) : tgG X.K g v σ H Q := by
  cases g with
  | name i =>
    cases hp
    exact q _ (rs.set rv) fun ws hw => wipe_set (of_decide_eq_true hw)
  | tup is =>
    cases rv with
    | @tup a vs xs s r =>
      have hp' : (if xs.length = is.length then some ((is.zip xs).foldl (fun r p => r.set p.1 (some p.2)) ρ) else none) = some ρ' := hp
      split at hp'
      · rename_i hl
        cases hp'
        refine ⟨a, vs, rfl, by rw [hK]; exact s, by rw [← r.length]; exact hl, ?_⟩
        exact tgs_imp hl r rs fun σ' rs' _ hw => q σ' rs' fun ws hg => hw ws fun i hi => by
          have := List.all_eq_true.mp (show (is.all fun i => decide (i ∈ ws)) = true from hg) i hi
          exact of_decide_eq_true this
      · cases hp'
    | _ => cases hp
/-- names take the items of a tuple or a list -/
def tgB (K : PySem.W.Frag) (is : List Nat) : TG := fun v σ H Q => tgG K (.tup is) v σ H Q ∨ gLst K is.length (tgs is) v σ H Q
theorem pg_both (F : Fit G T C B k X Z Wx) {is : List Nat} {e : Expr} (h : chkG Z (.tup is) e = true) : PG X e (tgB X.K is) := by
  have h0 := pg_any F h
  cases e with
  | Tuple es j pos =>
    have h' : (decide (es.length = is.length) && (is.zip es).all fun p => match p.2 with
      | .Name x _ => decide (Z.N[p.1]? = some x) && ownB Z x
      | _ => false) = true := h
    rw [Bool.and_eq_true, decide_eq_true_iff] at h'
    obtain ⟨i1, i2, i3⟩ := pgs_all F h'.1 h'.2
    have h1 : PG X (.Tuple es j pos) (gLst X.K is.length (tgs is)) := pg_lst F.calm i1 i2 i3
    exact ⟨fun pins s σ H v u Q I r hw => hw.elim (fun z => h0.run pins s σ H v u Q I r z) (fun z => h1.run pins s σ H v u Q I r z)⟩
  | _ => exact ff h
theorem tgB_imp {is : List Nat} {w : W} {v : V} {ρ ρ' : Sl} {τ : Sto} {σ : L2.St} {μ : List Addr} {H : Hp} {Q : L2.St → Hp → Prop} (hK : X.K = B.K) (hp : putT τ is w ρ = some ρ') (rh : RH B.K B.Cl μ τ H) (rv : RV B.K μ H w v) (rs : RS B.K μ H ρ σ)
    (q : ∀ σ', RS B.K μ H ρ' σ' → Q σ' H) : tgB X.K is v σ H Q := by
  have key : putG (.tup is) w ρ = some ρ' → tgB X.K is v σ H Q := fun e => .inl (tg_imp hK e rv rs fun σ' rs' _ => q σ' rs')
  cases w with
  | ref n =>
    have hp' : (match seqOf τ n with
      | some xs => putG (.tup is) (.tup xs) ρ
      | none => none) = some ρ' := hp
    cases e : seqOf τ n with
    | none => rw [e] at hp'; cases hp'
    | some xs =>
      rw [e] at hp'
      have hp2 : (if xs.length = is.length then some ((is.zip xs).foldl (fun r p => r.set p.1 (some p.2)) ρ) else none) = some ρ' := hp'
      obtain ⟨a, vs, ha, hs, r⟩ := rh.seq e
      cases rv with
      | ref ha' =>
        have : some _ = some _ := ha'.symm.trans ha
        cases this
        split at hp2
        · rename_i hl
          cases hp2
          exact .inr ⟨a, vs, rfl, by rw [hK]; exact hs, by rw [← r.length]; exact hl, tgs_imp hl r rs fun σ' rs' _ _ => q σ' rs'⟩
        · cases hp2
  | _ => exact key hp
end
end Mi
/-! Mi9: methods of built-in types, what is walked, comprehensions; every expression. -/
namespace Mi
open PySem PySem.Spec PyProof.Rows L2
section
variable {G : Gt} {T : Tb} {C : Calls} {B : Bs} {k : Nat} {X : L2.Cx} {Z : Sx} {Wx : WX}

theorem few_one {e : Expr} {env : Env} {cp : Pos} (h : noStar e = true) : ((backTo cp (starEach (e :: []) env)).all (fun x => !x.1) && (backToKw cp (keywordEach [] env)).all (fun x => x.1.isSome)
      && decide ((e :: []).length + ([] : List Keyword).length + (if ([] : List Keyword).isEmpty then 0 else 1) < 30)) = true := by
  rw [star_all (by show (noStar e && true) = true; rw [h] <;> rfl)]
  rfl
def bmTy : BM → String
  | .append => "list" | .pop => "list" | .popAt => "list" | .index => "list" | _ => "str"
theorem pre_ty {m : BM} {μ : List Addr} {H : Hp} {τ : Sto} {w : W} {v : V} (rh : RH B.K B.Cl μ τ H) (rv : RV B.K μ H w v) (h : bmPre m w τ = true) : tyV B.K (bmTy m) v H := by
  have hl : isLst τ w = true → tyV B.K "list" v H := fun h2 => by
    unfold isLst at h2
    cases rv with
    | @ref n a ha =>
      cases e : τ[n]? with
      | none => simp only [e] at h2; exact ff h2
      | some o =>
        simp only [e] at h2
        obtain ⟨a', ha', ho⟩ := rh.at_ e
        obtain rfl := Option.some.inj (ha'.symm.trans ha)
        cases o with
        | lst ys =>
          obtain ⟨vs, h0, r⟩ := ho
          exact .inl ⟨rfl, vs, SqL.of h0⟩
        | _ => exact ff h2
    | _ => exact ff h2
  have hs : isStr w = true → tyV B.K "str" v H := fun h2 => by
    cases rv with
    | str x => exact (rfl : "str" = "str")
    | _ => exact ff h2
  cases m with
  | append => exact hl h
  | pop => exact hl h
  | popAt => exact hl h
  | index => exact hl h
  | _ => exact hs h
theorem snd_bm {m : BM} {o as : E} (F : Fit G T C B k X Z Wx) (iho : Snd G T C B X Z Wx o) (ih : Snd G T C B X Z Wx as) : Snd G T C B X Z Wx (.bm m o as) := by
  refine Snd.ofE F.K (fun x h => ?_) rfl rfl rfl rfl rfl (fun _ _ => rfl) (fun _ _ => rfl) rfl
  have h0 : (match mArgs x with
      | some (u, n, ap, es, cp) => decide (n = bmName m) && plainBase u && (ap.endLine == cp.line) && decide (es.length = bmMany m) && (chk G o Z).e u && (chk G as Z).a es
      | none => false) = true := h
  cases hx : mArgs x with
  | none => rw [hx] at h0; exact ff h0
  | some q =>
    obtain ⟨u, n, ap, es, cp⟩ := q
    rw [hx] at h0
    have ex := mArgs_of hx
    subst ex
    simp only [Bool.and_eq_true, decide_eq_true_iff] at h0
    obtain ⟨⟨⟨⟨⟨rfl, h1⟩, h2⟩, h3⟩, h4⟩, h5⟩ := h0
    have hs := chk_stars G Z as h5
    -- what the run says
    have run1 : ∀ {σ : L2.St} {H : Hp} {Q : VK}, tE T C B Wx (.bm m o as) σ H Q → tE T C B Wx o σ H fun v H1 => ∃ w τ1 μ1 ρ, RH B.K B.Cl μ1 τ1 H1 ∧ RS B.K μ1 H1 ρ σ ∧ RV B.K μ1 H1 w v ∧ bmPre m w τ1 = true ∧
        Got B (RVr B) Wx μ1 H1 (((ev T C as).a ρ τ1).bind fun ws τ2 => bmeth m w ws τ2) Q := by
      rintro σ H Q ⟨μ, ρ, τ, rh, rs, g⟩
      have g' : Got B (RVr B) Wx μ H (((ev T C o).e ρ τ).bind fun x τ1 => if bmPre m x τ1 = true then ((ev T C as).a ρ τ1).bind fun ws τ2 => bmeth m x ws τ2 else .no) Q := g
      refine ⟨μ, ρ, τ, rh, rs, (Got.bnd (rel := RVr B) g').imp fun v H1 ⟨w, τ1, μ1, l1, rh1, rv, g1⟩ => ?_⟩
      split at g1
      · rename_i hp
        exact ⟨w, τ1, μ1, ρ, rh1, rs.le l1, rv, hp, g1⟩
      · exact g1.elim
    have args : ∀ {w : W} {v : V} {τ1 : Sto} {μ1 : List Addr} {ρ : Sl} {σ : L2.St} {H1 : Hp} {Q : VK}, RH B.K B.Cl μ1 τ1 H1 → RS B.K μ1 H1 ρ σ → RV B.K μ1 H1 w v → Got B (RVr B) Wx μ1 H1 (((ev T C as).a ρ τ1).bind fun ws τ2 => bmeth m w ws τ2) Q →
        tA T C B Wx as σ H1 fun vs H2 => rBm B Wx m v vs H2 Q := by
      intro w v τ1 μ1 ρ σ H1 Q rh1 rs rv g1
      exact ⟨μ1, ρ, τ1, rh1, rs, (Got.bnd (rel := RVsr B) g1).imp fun vs H2 ⟨ws, τ2, μ2, l2, rh2, rvs, g2⟩ => ⟨μ2, τ2, w, ws, rh2, rv.le l2, rvs, g2⟩⟩
    have one : ∀ {id : String} {e : Expr}, es = [e] → PlainAttrs (bmTy m) → Slot (bmTy m) (bmName m) id → typeOf (.builtin id) = pure (.type "method_descriptor") → MtR X id (rBm B Wx m) → PE X (.Call (.Attribute u (bmName m) ap) es [] cp) (tE T C B Wx (.bm m o as)) := by
      intro id e ee pa slot ty rule
      subst ee
      obtain ⟨s1, s2⟩ := stars2 hs
      refine PE.imp (pe_bm pa slot ty rule (iho.e u h4) (ih.a [e] h5) (base_plain h1) (few_one s1) h2 (star_cons s1) rfl) fun σ H Q q => ?_
      obtain ⟨μ, ρ, τ, rh, rs, g⟩ := run1 q
      refine ⟨μ, ρ, τ, rh, rs, g.imp fun v H1 ⟨w, τ1, μ1, ρ1, rh1, rs1, rv, hp, g1⟩ => ⟨?_, args rh1 rs1 rv g1⟩⟩
      rw [F.K]
      exact pre_ty rh1 rv hp
    cases m with
    | append =>
      match es, h3 with
      | [e], _ => exact one rfl PySem.F.plainAttrs_list PySem.F.slot_list_append PySem.F.type_list_append bm_append
    | pop =>
      match es, h3 with
      | [], _ =>
        have e := chk_nil as h5
        subst e
        refine PE.imp (pe_bm0 PySem.F.plainAttrs_list PySem.F.slot_list_pop PySem.F.type_list_pop (bm_pop (B := B) (Wx := Wx)) (iho.e u h4) (base_plain h1) h2) fun σ H Q q => ?_
        obtain ⟨μ, ρ, τ, rh, rs, g⟩ := run1 q
        refine ⟨μ, ρ, τ, rh, rs, g.imp fun v H1 ⟨w, τ1, μ1, ρ1, rh1, rs1, rv, hp, g1⟩ => ⟨?_, μ1, τ1, w, [], rh1, rv, .nil, g1⟩⟩
        rw [F.K]
        exact pre_ty rh1 rv hp
    | popAt =>
      match es, h3 with
      | [e], _ =>
        exact one rfl PySem.F.plainAttrs_list PySem.F.slot_list_pop PySem.F.type_list_pop fun pins s σ H x xs v us Q I r1 r2 ⟨_, _, _, _, _, _, _, g⟩ => g.elim
    | startswith =>
      match es, h3 with
      | [e], _ => exact one rfl PySem.F.plainAttrs_str PySem.F.slot_str_startswith PySem.F.type_str_startswith bm_starts
    | split =>
      match es, h3 with
      | [e], _ => exact one rfl PySem.F.plainAttrs_str PySem.F.slot_str_split PySem.F.type_str_split bm_split
    | join =>
      match es, h3 with
      | [e], _ => exact one rfl PySem.F.plainAttrs_str PySem.F.slot_str_join PySem.F.type_str_join (bm_join F.K)
    | index =>
      match es, h3 with
      | [e], _ => exact one rfl PySem.F.plainAttrs_list PySem.F.slot_list_index PySem.F.type_list_index (bm_index F.K)

/-! ### what is walked -/
theorem itok1 {n : Nat} {xs : List W} {gs : List (Nat × List W)} {τ : Sto} (h : It.ok ((n, xs) :: gs) τ) : seqOf τ n = some xs := h (n, xs) List.mem_cons_self
/-- a list -/
theorem rj_list {n : Nat} {xs : List W} {μ1 : List Addr} {H1 : Hp} {a : Addr} (ha : μ1[n]? = some a) : RJ B μ1 H1 ⟨[(n, xs)], xs⟩ (Itl B.K a) := by
  intro i μ τ H l rh ok
  obtain ⟨a', vs, ha', s, r⟩ := rh.seq (itok1 ok)
  obtain rfl := Option.some.inj (ha'.symm.trans (l.get ha))
  refine ⟨fun w hw => ?_, fun hi => ⟨vs, s, by rw [← r.length]; exact Nat.le_of_eq hi⟩⟩
  obtain ⟨v, hv, rv⟩ := r.get (show xs[i]? = some w from hw)
  refine ⟨⟨vs, v, s, hv⟩, fun u H' hy => ?_⟩
  obtain ⟨rfl, hu⟩ := hy
  have e := (hu vs s).symm.trans hv
  cases e
  exact ⟨Le.refl, rh, rv⟩
theorem rj_tup {xs : List W} {vs : List V} {μ1 : List Addr} {H1 : Hp} {a : Addr} (s : SqT B.K H1 a vs) (r : RVs B.K μ1 H1 xs vs) : RJ B μ1 H1 ⟨[], xs⟩ (Itt B.K a) := by
  intro i μ τ H l rh ok
  have s' := l.tup a vs s
  have r' := r.le l
  refine ⟨fun w hw => ?_, fun hi => ⟨vs, s', by rw [← r'.length]; exact Nat.le_of_eq hi⟩⟩
  obtain ⟨v, hv, rv⟩ := r'.get (show xs[i]? = some w from hw)
  refine ⟨⟨vs, v, s', hv⟩, fun u H' hy => ?_⟩
  obtain ⟨rfl, hu⟩ := hy
  have e := (hu vs s').symm.trans hv
  cases e
  exact ⟨Le.refl, rh, rv⟩
theorem rj_str {z : Str} {μ1 : List Addr} {H1 : Hp} : RJ B μ1 H1 ⟨[], z.cps.toList.map fun c => .str ⟨#[c]⟩⟩ (Its z) := by
  intro i μ τ H l rh ok
  refine ⟨fun w hw => ?_, fun hi => ?_⟩
  · have hw' : (z.cps.toList.map fun c => W.str ⟨#[c]⟩)[i]? = some w := hw
    rw [List.getElem?_map] at hw'
    cases e : z.cps.toList[i]? with
    | none => rw [e] at hw'; cases hw'
    | some c =>
      rw [e] at hw'
      cases hw'
      have e' : z.cps[i]? = some c := by rw [← Array.getElem?_toList]; exact e
      refine ⟨(Array.getElem?_eq_some_iff.mp e').1, fun u H' hy => ?_⟩
      obtain ⟨rfl, d, hd, rfl⟩ := hy
      rw [e'] at hd
      cases hd
      exact ⟨Le.refl, rh, .str _⟩
  · have hi' : (z.cps.toList.map fun c => W.str ⟨#[c]⟩).length ≤ i := Nat.le_of_eq hi
    rw [List.length_map, Array.length_toList] at hi'
    exact hi'
theorem rj_rng {lo : Int} {n : Nat} {μ1 : List Addr} {H1 : Hp} : RJ B μ1 H1 ⟨[], (List.range n).map fun (k : Nat) => .int (lo + (k : Int))⟩ (Itr lo n) := by
  intro i μ τ H l rh ok
  refine ⟨fun w hw => ?_, fun hi => ?_⟩
  · have hw' : ((List.range n).map fun (k : Nat) => W.int (lo + (k : Int)))[i]? = some w := hw
    rw [List.getElem?_map] at hw'
    cases e : (List.range n)[i]? with
    | none => rw [e] at hw'; cases hw'
    | some c =>
      rw [e] at hw'
      cases hw'
      obtain ⟨h1, h2⟩ := List.getElem?_eq_some_iff.mp e
      rw [List.getElem_range] at h2
      subst h2
      rw [List.length_range] at h1
      refine ⟨h1, fun u H' hy => ?_⟩
      obtain ⟨rfl, rfl⟩ := hy
      exact ⟨Le.refl, rh, .int _⟩
  · have hi' : ((List.range n).map fun (k : Nat) => W.int (lo + (k : Int))).length ≤ i := Nat.le_of_eq hi
    rw [List.length_map, List.length_range] at hi'
    exact hi'
end
end Mi
/-! MiW: enumerate of a list or a tuple, zip of two or three lists and tuples in any mix. -/
namespace Mi
open PySem PySem.Spec PyProof.Rows L2

/-- a list or a tuple that is walked -/
structure Src where
  l : Bool
  a : Addr
namespace Src
variable {X : L2.Cx} {pins : List (Addr × Obj)} {σ : L2.St} {H : Hp} {s : Shared} {q : Src}
def at_ (q : Src) (K : PySem.W.Frag) (H : Hp) (xs : List V) : Prop := if q.l = true then SqL K H q.a xs else SqT K H q.a xs
def itr (q : Src) (h : Heap) (i : Addr) (n : Nat) : Prop := if q.l = true then h.IsListIter i q.a n else h.IsTupleIter i q.a n
def hp (q : Src) (h : Heap) (its : Array Value) : Prop := if q.l = true then h.IsList q.a its else h.IsTuple q.a its
def ob (q : Src) : Obj := if q.l = true then { cls := .type "list_iterator", data := .fields #[.ref q.a, .int 0 0] } else { cls := .type "tuple_iterator", data := .fields #[.ref q.a, .int 0 0] }
theorem look (I : Inv X pins σ H s) {xs : List V} (h : q.at_ X.K H xs) : ∃ its : List Value, Vals xs its ∧ q.hp s.heap its.toArray := by
  obtain ⟨l, a⟩ := q
  cases l with
  | true =>
    obtain ⟨its, r, p, _⟩ := I.list (a := a) (xs := xs) h
    exact ⟨its, r, p.isList⟩
  | false =>
    obtain ⟨its, r, p, _⟩ := I.tuple (a := a) (xs := xs) h
    exact ⟨its, r, p⟩
theorem one (I : Inv X pins σ H s) {xs ys : List V} (h : q.at_ X.K H xs) (h' : q.at_ X.K H ys) : xs = ys := by
  obtain ⟨l, a⟩ := q
  cases l with
  | true => exact I.list_inj (a := a) h h'
  | false => exact I.tuple_inj (a := a) h h'
theorem lt (I : Inv X pins σ H s) {xs : List V} (h : q.at_ X.K H xs) : q.a < s.heap.objs.size := by
  obtain ⟨its, _, p⟩ := look I h
  obtain ⟨l, a⟩ := q
  cases l with
  | true => obtain ⟨o, e, _⟩ : s.heap.IsList a its.toArray := p; exact Heap.lt_size e
  | false => obtain ⟨o, e, _⟩ : s.heap.IsTuple a its.toArray := p; exact Heap.lt_size e
theorem draws {P : Program} {w : World} {A : Around} (hh : A.handled = none) (it : Addr) (hne : q.a ≠ it) (its : Array Value) :
    Draws P w A it [it, q.a] its.size (fun i v => its[i]? = some v) (fun i h => q.itr h it i ∧ q.hp h its) := by
  obtain ⟨l, a⟩ := q
  cases l with
  | true => exact Draws.list hh it a hne its
  | false => exact Draws.tuple hh it a hne its
theorem begins (its : Array Value) : Begins (.ref q.a) q.ob fun h => q.hp h its := by
  obtain ⟨l, a⟩ := q
  cases l with
  | true => exact begins_list a its
  | false => exact begins_tuple a its
theorem itr_ob {h : Heap} {i : Addr} (e : h.get? i = some q.ob) : q.itr h i 0 := by
  obtain ⟨l, a⟩ := q
  cases l with
  | true => exact ⟨_, e, rfl, rfl⟩
  | false => exact ⟨_, e, rfl, rfl⟩
theorem itr_get {h : Heap} {i : Addr} {n : Nat} (e : q.itr h i n) : ∃ o, h.get? i = some o ∧ ∀ v, o.data ≠ .cell v := by
  obtain ⟨l, a⟩ := q
  cases l with
  | true =>
    obtain ⟨o, e, _, d⟩ : h.IsListIter i a n := e
    exact ⟨o, e, fun v q => by rw [d] at q; cases q⟩
  | false =>
    obtain ⟨o, e, _, d⟩ : h.IsTupleIter i a n := e
    exact ⟨o, e, fun v q => by rw [d] at q; cases q⟩
theorem itr_keep {h h' : Heap} {i : Addr} {n : Nat} (e : q.itr h i n) (k : ∀ o, h.get? i = some o → h'.get? i = some o) : q.itr h' i n := by
  obtain ⟨l, a⟩ := q
  cases l with
  | true => exact Heap.IsListIter.at (show h.IsListIter i a n from e) k
  | false => exact Heap.IsTupleIter.at (show h.IsTupleIter i a n from e) k
end Src

section
variable {X : L2.Cx} {pins : List (Addr × Obj)} {σ : L2.St} {H : Hp} {s : Shared}
/-- a tuple has come, new -/
theorem tup_come {h' : Heap} {tk : Nat} {ch : List Addr} {T : Addr} {xs : List V} {vs : Array Value} (I : Inv X pins σ H s) (k : ∀ b o, b ∉ ch → s.heap.get? b = some o → h'.get? b = some o) (hf : ∀ b ∈ ch, FpOk X pins H b)
    (hT : s.heap.objs.size ≤ T) (ht : h'.IsTuple T vs) (r : Vals xs vs.toList) (hz : xs.length ≤ sizeLine) : Inv X pins σ (upd H T (.tup xs)) { s with heap := h', toks := tk } :=
  I.turnedNew (t' := tk) (ch := ch) k hf hT (by
    obtain ⟨o, ho, hc, n, hd⟩ := ht
    exact ⟨hz, vs.toList, r, ⟨o, ho, hc, n, hd⟩⟩)
end

/-! ### enumerate -/
def ItE (K : PySem.W.Frag) (q : Src) : L2.It :=
  ⟨fun i H => ∃ (xs : List V) (x : V), q.at_ K H xs ∧ xs[i]? = some x, fun i H v H' => ∃ T x, v = .ref T ∧ H T = none ∧ H' = upd H T (.tup [.int (i : Nat), x]) ∧ ∀ xs, q.at_ K H xs → xs[i]? = some x, fun i H => ∃ xs : List V, q.at_ K H xs ∧ xs.length = i⟩
theorem turn_enumS {P : Program} {w : World} {K : PySem.W.Frag} {elts : List Expr} {kk : Nat} {tpos : Pos} (q : Src) (e it : Addr) (h1 : e ≠ it) (h2 : q.a ≠ it) (h3 : e ≠ q.a) :
    Turn P w K (.Tuple elts kk tpos) (ItE K q) [e, it] e (fun i h => (∃ old, IsEnum h e it (0 + (i : Int)) old) ∧ q.itr h it i) where
  mem := List.mem_cons_self
  obj := fun i h ⟨⟨old, he⟩, hi⟩ b hb => by
    rcases List.mem_cons.mp hb with z | z
    · rw [z]; exact ⟨_, he, fun v q => nomatch q⟩
    · rw [List.mem_singleton.mp z]; exact Src.itr_get hi
  keep := fun i h h' ⟨⟨old, he⟩, hi⟩ k => ⟨⟨old, k e List.mem_cons_self _ he⟩, Src.itr_keep hi fun o z => k it (by simp) o z⟩
  item := by
    intro X hP hw hK hc i pins s σ H E I hf st hg
    subst hP hw hK
    obtain ⟨he, hi⟩ := st
    obtain ⟨xs, x, hq, hx⟩ := hg
    obtain ⟨its, rv, p⟩ := Src.look I hq
    have W := GoesN.enumFrom (elts := elts) (x1 := kk) (pos := tpos) 0 (Src.draws (P := X.prog) (w := X.w) (A := X.A.in1) (q := q) (I.ok.hd hc) it h2 its.toArray) e h1 (by simp [h1, h3]) (by simp)
    have hlt : i < its.toArray.size := by
      have := (List.getElem?_eq_some_iff.mp hx).1
      have := rv.length
      simp; omega
    refine W.goes i s _ E hlt ⟨he, hi, p⟩ fun v h' tk hY st' hk htk => ?_
    obtain ⟨T, t, u, rfl, hT, hu, hTup⟩ := hY
    obtain ⟨he', hi', _⟩ := st'
    obtain ⟨u', hu', ru⟩ := rv.get hx
    have eu : u' = u := by
      have h5 : its.toArray[i]? = some u := hu
      rw [List.getElem?_toArray] at h5
      exact Option.some.inj (hu'.symm.trans h5)
    subst eu
    refine ⟨.ref T, _, tup_come (xs := [.int (i : Nat), x]) I hk hf hT hTup (.cons ⟨t, by rw [Int.zero_add]⟩ (.cons ru .nil)) (show 2 ≤ sizeLine by decide), rfl, ⟨T, x, rfl, I.hok.fresh hT, rfl, fun ys hy => by rw [Src.one I hy hq]; exact hx⟩, ⟨he', hi'⟩, fun b hb => ?_⟩
    have hb' : b ≠ T := fun z => by
      have hl : b < s.heap.objs.size := by
        rcases List.mem_cons.mp hb with y | y
        · rw [y]; obtain ⟨old, he⟩ := he; exact Heap.lt_size he
        · rw [List.mem_singleton.mp y]; obtain ⟨o, ho, _⟩ := Src.itr_get hi; exact Heap.lt_size ho
      rw [z] at hl
      exact Nat.lt_irrefl _ (Nat.lt_of_lt_of_le hl hT)
    rw [upd_ne hb']
    exact (hf b hb).1
  done := by
    intro X hP hw hK hc i pins s σ H E I hf st hg
    subst hP hw hK
    obtain ⟨he, hi⟩ := st
    obtain ⟨xs, hq, hx⟩ := hg
    obtain ⟨its, rv, p⟩ := Src.look I hq
    have W := GoesN.enumFrom (elts := elts) (x1 := kk) (pos := tpos) 0 (Src.draws (P := X.prog) (w := X.w) (A := X.A.in1) (q := q) (I.ok.hd hc) it h2 its.toArray) e h1 (by simp [h1, h3]) (by simp)
    have hn : its.toArray.size = i := by
      have := rv.length
      simp; omega
    rw [hn] at W
    exact W.stops s _ E ⟨he, hi, p⟩ fun h' tk hk htk => I.turnedL (t' := tk) (ch := [e, it]) (fun b o hb z => hk b o hb z) hf
  self := fun A i s Q E ⟨⟨_, he⟩, _⟩ h => wpAny_pyIter_enum he h
set_option maxHeartbeats 1000000 in
theorem meets_enum1 {v : Value} {o : Obj} {H : Heap → Prop} (B : Begins v o H) :
    Meets (Builtin.«enumerate.__new__» ⟨[.type "enumerate", v], []⟩) (fun _ R s => H s.heap ∧
      R (.ok (.ret (.ref (s.heap.push o).objs.size))) { s with heap := (s.heap.push o).push { cls := .type "enumerate", data := .fields #[.none, .bool false, .ref s.heap.objs.size, rawInt 0, .none, .none] } }) :=
  .of_wp fun prog w A R s h => by
    obtain ⟨hp, g, d, tk, os⟩ := s
    obtain ⟨b, h⟩ := h
    have hsub := sub_enumerate
    have goB : ∀ {A' : Around} {E : Value → Shared → Prop} {Q : Value → Shared → Prop}, Q (.ref hp.objs.size) ⟨hp.push o, g, d, tk, os⟩ → wpAny (model prog w) A' (pyIter v) Q E ⟨hp, g, d, tk, os⟩ :=
      fun z => B.iter prog w _ _ ⟨hp, g, d, tk, os⟩ _ b z
    wp_walk using goB
    refine wpAny_stack_any fun st => wpAny_pure ?_
    split
    · rename_i c _ _ _ _ _
      cases (c == Value.type "enumerate") <;>
      · wp_walk using goB
        exact ⟨_, rfl, h⟩
    · wp_walk using goB
      exact ⟨_, rfl, h⟩
section
variable {prog : Program} {w : World} {A : Around} {E : Value → Shared → Prop} {s : Shared}
theorem call_enum1 {v : Value} {o : Obj} {H : Heap → Prop} {Q : Value → Shared → Prop} (B : Begins v o H) (h1 : H s.heap)
    (h : ∀ h', IsEnum h' (s.heap.objs.size + 1) s.heap.objs.size 0 .none → h'.get? s.heap.objs.size = some o →
      (∀ b u, s.heap.get? b = some u → h'.get? b = some u) → Q (.ref (s.heap.objs.size + 1)) { s with heap := h' }) :
    wpAny (model prog w) A (call (.type "enumerate") [v]) Q E s := by
  refine callType_new F.called_enumerate (by decide) (F.typeCall_enumerate_1 _) (F.newCall_enumerate_1 _) (fun obj => F.args_object_init_2 obj _) F.entry_enumerate_new (meets_enum1 B) ⟨h1, ?_⟩
  have hz : (s.heap.push o).objs.size = s.heap.objs.size + 1 := Heap.size_push ..
  show _ ∧ _
  rw [hz]
  have he : IsEnum ((s.heap.push o).push { cls := .type "enumerate", data := .fields #[.none, .bool false, .ref s.heap.objs.size, rawInt 0, .none, .none] }) (s.heap.objs.size + 1) s.heap.objs.size 0 .none := by
    have z := Heap.get?_push_size (s.heap.push o) (o := { cls := .type "enumerate", data := .fields #[.none, .bool false, .ref s.heap.objs.size, rawInt 0, .none, .none] }) rfl
    rw [hz] at z
    exact z
  exact ⟨⟨_, he, rfl⟩, h _ he (Heap.get?_push_of_some _ (Heap.get?_push_size _ B.free)) fun b o x => Heap.get?_push_of_some _ (Heap.get?_push_of_some _ x)⟩
end
def iEnumS (K : PySem.W.Frag) (te : TE) : TI := fun σ H R => te σ H fun v H1 => ∃ (q : Src) (xs : List V), v = .ref q.a ∧ q.at_ K H1 xs ∧ R (ItE K q) H1
theorem fresh_new {X : L2.Cx} {pins : List (Addr × Obj)} {σ : L2.St} {H : Hp} {s : Shared} (I : Inv X pins σ H s) {ch : List Addr} (h : ∀ b ∈ ch, s.heap.objs.size ≤ b) : ∀ b ∈ ch, FpOk X pins H b := fun b hb => I.fpOk (h b hb) (I.hok.fresh (h b hb))
theorem pi_enumS {X : L2.Cx} {e : Expr} {te : TE} {p pos tpos : Pos} {elts : List Expr} {kk : Nat} (hg : Gl X "enumerate") (hm : X.mg "enumerate" = none) (ha : PE X e te) (hs : starEach [e] X.env = (false, eval e X.env) :: starEach [] X.env) :
    PI X (.Tuple elts kk tpos) (.Call (.Name "enumerate" p) [e] [] pos) (iEnumS X.K te) := by
  refine ⟨fun pins s σ H R I h => ?_⟩
  refine Call_ (ld_blt I hg hm boot_enumerate (PyProof.Rows.callWith_type1 (thn ((pa_cons ha pa_nil hs).run pos pins s σ H (fun vs H1 => ∃ (q : Src) (xs : List V), vs = [.ref q.a] ∧ q.at_ X.K H1 xs ∧ R (ItE X.K q) H1) I ?_) fun us s1 ⟨vs, H1, I1, r1, q1⟩ => ?_) hs rfl))
  · have hh : te σ H fun v H1 => ∃ (q : Src) (xs : List V), v = .ref q.a ∧ q.at_ X.K H1 xs ∧ R (ItE X.K q) H1 := h
    have e : (fun (v : V) (H1 : Hp) => ∃ (q : Src) (xs : List V), v = .ref q.a ∧ q.at_ X.K H1 xs ∧ R (ItE X.K q) H1) = fun v H1 => ∃ (q : Src) (xs : List V), [v] = [.ref q.a] ∧ q.at_ X.K H1 xs ∧ R (ItE X.K q) H1 := by
      funext v H1
      simp
    rw [e] at hh
    exact hh
  · obtain ⟨q, xs, rfl, hq, k⟩ := q1
    cases r1 with
    | cons r rr =>
      cases rr
      cases r
      obtain ⟨its, rv, hp⟩ := Src.look I1 hq
      have hl := Src.lt I1 hq
      refine call_enum1 (Src.begins (q := q) its.toArray) hp fun h' he hit hk => wpAny_pyIter_enum he ?_
      have I2 : Inv X pins σ H1 { s1 with heap := h' } := I1.kept (t' := s1.toks) hk
      refine ⟨s1.heap.objs.size + 1, [s1.heap.objs.size + 1, s1.heap.objs.size], _, _, H1, rfl, I2, turn_enumS q (s1.heap.objs.size + 1) s1.heap.objs.size (Nat.succ_ne_self _) (Nat.ne_of_lt hl) (fun z => ?_), ⟨⟨.none, he⟩, Src.itr_ob hit⟩, fresh_new I1 fun b hb => ?_, k⟩
      · rw [← z] at hl
        exact absurd (Nat.lt_succ_self _) (Nat.lt_asymm hl)
      · rcases List.mem_cons.mp hb with z | z
        · rw [z]; exact Nat.le_add_right _ _
        · rw [List.mem_singleton.mp z]; exact Nat.le_refl _

/-! ### zip -/
theorem src_pay {X : L2.Cx} {pins : List (Addr × Obj)} {σ : L2.St} {H : Hp} {s : Shared} {q : Src} {xs : List V} {x : V} {i : Nat} {its : List Value} {u : Value} (rv : Vals xs its) (hx : xs[i]? = some x) (hu : its.toArray[i]? = some u) : RelV x u := by
  obtain ⟨u', hu', ru⟩ := rv.get hx
  rw [List.getElem?_toArray] at hu
  have e := Option.some.inj (hu'.symm.trans hu)
  subst e
  exact ru
def ItZ2 (K : PySem.W.Frag) (q r : Src) : L2.It :=
  ⟨fun i H => ∃ (xs ys : List V) (x y : V), q.at_ K H xs ∧ r.at_ K H ys ∧ xs[i]? = some x ∧ ys[i]? = some y,
    fun i H v H' => ∃ T x y, v = .ref T ∧ H T = none ∧ H' = upd H T (.tup [x, y]) ∧ (∀ xs, q.at_ K H xs → xs[i]? = some x) ∧ ∀ ys, r.at_ K H ys → ys[i]? = some y,
    fun i H => ∃ xs ys : List V, q.at_ K H xs ∧ r.at_ K H ys ∧ min xs.length ys.length = i⟩
def ItZ3 (K : PySem.W.Frag) (q r t : Src) : L2.It :=
  ⟨fun i H => ∃ (xs ys zs : List V) (x y z : V), q.at_ K H xs ∧ r.at_ K H ys ∧ t.at_ K H zs ∧ xs[i]? = some x ∧ ys[i]? = some y ∧ zs[i]? = some z,
    fun i H v H' => ∃ T x y z, v = .ref T ∧ H T = none ∧ H' = upd H T (.tup [x, y, z]) ∧ (∀ xs, q.at_ K H xs → xs[i]? = some x) ∧ (∀ ys, r.at_ K H ys → ys[i]? = some y) ∧ ∀ zs, t.at_ K H zs → zs[i]? = some z,
    fun i H => ∃ xs ys zs : List V, q.at_ K H xs ∧ r.at_ K H ys ∧ t.at_ K H zs ∧ min (min xs.length ys.length) zs.length = i⟩
/-- the cells of a zip of two -/
structure Zp2 (N : Nat) (q r : Src) (i : Nat) (h : Heap) : Prop where
  z : IsZip h (N + 4) (N + 2) (N + 3) .none
  ti : IsTupOf2 h (N + 2) (.ref N) (.ref (N + 1))
  to : ∃ a1 a2, IsTupOf2 h (N + 3) a1 a2
  i1 : q.itr h N i
  i2 : r.itr h (N + 1) i
structure Zp3 (N : Nat) (q r t : Src) (i : Nat) (h : Heap) : Prop where
  z : IsZip h (N + 5) (N + 3) (N + 4) .none
  ti : IsTupOf3 h (N + 3) (.ref N) (.ref (N + 1)) (.ref (N + 2))
  to : ∃ a1 a2 a3, IsTupOf3 h (N + 4) a1 a2 a3
  i1 : q.itr h N i
  i2 : r.itr h (N + 1) i
  i3 : t.itr h (N + 2) i
def fp2 (N : Nat) : List Addr := [N + 4, N + 2, N + 3, N, N + 1]
def fp3 (N : Nat) : List Addr := [N + 5, N + 3, N + 4, N, N + 1, N + 2]
theorem ne_src {N k : Nat} {a : Addr} (h : a < N) : a ≠ (N + k : Nat) := fun z => by
  rw [z] at h
  exact absurd h (Nat.not_lt_of_le (Nat.le_add_right _ _))
theorem wr2 (N : Nat) : ∀ b ∈ [N + 4, N + 3, N, N + 1], b ∈ fp2 N := by
  intro b hb
  simp only [fp2, List.mem_cons, List.not_mem_nil, or_false] at hb ⊢
  rcases hb with z | z | z | z <;> simp [z]
theorem wr3 (N : Nat) : ∀ b ∈ [N + 5, N + 4, N, N + 1, N + 2], b ∈ fp3 N := by
  intro b hb
  simp only [fp3, List.mem_cons, List.not_mem_nil, or_false] at hb ⊢
  rcases hb with z | z | z | z | z <;> simp [z]
theorem Zp2.there {N : Nat} {q r : Src} {i : Nat} {h : Heap} (z : Zp2 N q r i h) : ∀ b ∈ fp2 N, ∃ o, h.get? b = some o ∧ ∀ v, o.data ≠ .cell v := fun b hb => by
  simp only [fp2, List.mem_cons, List.not_mem_nil, or_false] at hb
  rcases hb with e | e | e | e | e
  · rw [e]; exact ⟨_, z.z, fun v q => nomatch q⟩
  · rw [e]; exact ⟨_, z.ti, fun v q => nomatch q⟩
  · rw [e]; obtain ⟨_, _, y⟩ := z.to; exact ⟨_, y, fun v q => nomatch q⟩
  · rw [e]; exact Src.itr_get z.i1
  · rw [e]; exact Src.itr_get z.i2
theorem Zp3.there {N : Nat} {q r t : Src} {i : Nat} {h : Heap} (z : Zp3 N q r t i h) : ∀ b ∈ fp3 N, ∃ o, h.get? b = some o ∧ ∀ v, o.data ≠ .cell v := fun b hb => by
  simp only [fp3, List.mem_cons, List.not_mem_nil, or_false] at hb
  rcases hb with e | e | e | e | e | e
  · rw [e]; exact ⟨_, z.z, fun v q => nomatch q⟩
  · rw [e]; exact ⟨_, z.ti, fun v q => nomatch q⟩
  · rw [e]; obtain ⟨_, _, _, y⟩ := z.to; exact ⟨_, y, fun v q => nomatch q⟩
  · rw [e]; exact Src.itr_get z.i1
  · rw [e]; exact Src.itr_get z.i2
  · rw [e]; exact Src.itr_get z.i3
theorem turn_zipS2 {P : Program} {w : World} {K : PySem.W.Frag} {elts : List Expr} {kk : Nat} {tpos : Pos} (N : Nat) (q r : Src) (hq0 : q.a < N) (hr0 : r.a < N) :
    Turn P w K (.Tuple elts kk tpos) (ItZ2 K q r) (fp2 N) (N + 4) (Zp2 N q r) where
  mem := List.mem_cons_self
  obj := fun i h z => z.there
  keep := fun i h h' z k => ⟨k (N + 4) (by simp [fp2]) _ z.z, k (N + 2) (by simp [fp2]) _ z.ti, let ⟨a1, a2, y⟩ := z.to; ⟨a1, a2, k (N + 3) (by simp [fp2]) _ y⟩, Src.itr_keep z.i1 fun o y => k N (by simp [fp2]) o y, Src.itr_keep z.i2 fun o y => k (N + 1) (by simp [fp2]) o y⟩
  item := by
    intro X hP hw hK hc i pins s σ H E I hf st hg
    subst hP hw hK
    obtain ⟨xs, ys, x, y, hq, hr, hx, hy⟩ := hg
    obtain ⟨its, rv, p⟩ := Src.look I hq
    obtain ⟨jts, rw_, p2⟩ := Src.look I hr
    have W := GoesN.zip2 (elts := elts) (x1 := kk) (pos := tpos) (zip_sep2 (N := N) (fp1 := [q.a]) (fp2 := [r.a]) (fun b hb => by rw [List.mem_singleton.mp hb]; exact hq0) (fun b hb => by rw [List.mem_singleton.mp hb]; exact hr0))
      (Src.draws (P := X.prog) (w := X.w) (A := X.A.in1) (q := q) (I.ok.hd hc) N (ne_src (k := 0) hq0) its.toArray) (Src.draws (P := X.prog) (w := X.w) (A := X.A.in1) (q := r) (I.ok.hd hc) (N + 1) (ne_src hr0) jts.toArray)
    have hlt : i < min its.toArray.size jts.toArray.size := by
      have := (List.getElem?_eq_some_iff.mp hx).1
      have := (List.getElem?_eq_some_iff.mp hy).1
      have := rv.length
      have := rw_.length
      simp; omega
    refine W.goes i s _ E hlt ⟨st.z, st.ti, st.to, ⟨st.i1, p⟩, ⟨st.i2, p2⟩⟩ fun v h' tk hY st' hk htk => ?_
    obtain ⟨T, u1, u2, rfl, hT, hu1, hu2, hTup⟩ := hY
    obtain ⟨s1, s2, s3, ⟨s4, _⟩, ⟨s5, _⟩⟩ := st'
    refine ⟨.ref T, _, tup_come (xs := [x, y]) I hk (fun b hb => hf b (wr2 N b hb)) hT hTup (.cons (src_pay (X := X) (pins := pins) (σ := σ) (H := H) (s := s) (q := q) rv hx hu1) (.cons (src_pay (X := X) (pins := pins) (σ := σ) (H := H) (s := s) (q := q) rw_ hy hu2) .nil)) (show 2 ≤ sizeLine by decide), rfl,
      ⟨T, x, y, rfl, I.hok.fresh hT, rfl, fun l hl => by rw [Src.one I hl hq]; exact hx, fun l hl => by rw [Src.one I hl hr]; exact hy⟩, ⟨s1, s2, s3, s4, s5⟩, fun b hb => ?_⟩
    have hb' : b ≠ T := fun z => by
      obtain ⟨o, ho, _⟩ := st.there b hb
      have hl := Heap.lt_size ho
      rw [z] at hl
      exact Nat.lt_irrefl _ (Nat.lt_of_lt_of_le hl hT)
    rw [upd_ne hb']
    exact (hf b hb).1
  done := by
    intro X hP hw hK hc i pins s σ H E I hf st hg
    subst hP hw hK
    obtain ⟨xs, ys, hq, hr, hm⟩ := hg
    obtain ⟨its, rv, p⟩ := Src.look I hq
    obtain ⟨jts, rw_, p2⟩ := Src.look I hr
    have W := GoesN.zip2 (elts := elts) (x1 := kk) (pos := tpos) (zip_sep2 (N := N) (fp1 := [q.a]) (fp2 := [r.a]) (fun b hb => by rw [List.mem_singleton.mp hb]; exact hq0) (fun b hb => by rw [List.mem_singleton.mp hb]; exact hr0))
      (Src.draws (P := X.prog) (w := X.w) (A := X.A.in1) (q := q) (I.ok.hd hc) N (ne_src (k := 0) hq0) its.toArray) (Src.draws (P := X.prog) (w := X.w) (A := X.A.in1) (q := r) (I.ok.hd hc) (N + 1) (ne_src hr0) jts.toArray)
    have hn : min its.toArray.size jts.toArray.size = i := by
      have := rv.length
      have := rw_.length
      simp; omega
    rw [hn] at W
    exact W.stops s _ E ⟨st.z, st.ti, st.to, ⟨st.i1, p⟩, ⟨st.i2, p2⟩⟩ fun h' tk hk htk => I.turnedL (t' := tk) (ch := fp2 N) (fun b o hb z => hk b o (fun m => hb (wr2 N b m)) z) hf
  self := fun A i s Q E st h => wpAny_pyIter_zip st.z h
theorem turn_zipS3 {P : Program} {w : World} {K : PySem.W.Frag} {elts : List Expr} {kk : Nat} {tpos : Pos} (N : Nat) (q r t : Src) (hq0 : q.a < N) (hr0 : r.a < N) (ht0 : t.a < N) :
    Turn P w K (.Tuple elts kk tpos) (ItZ3 K q r t) (fp3 N) (N + 5) (Zp3 N q r t) where
  mem := List.mem_cons_self
  obj := fun i h z => z.there
  keep := fun i h h' z k => ⟨k (N + 5) (by simp [fp3]) _ z.z, k (N + 3) (by simp [fp3]) _ z.ti, let ⟨a1, a2, a3, y⟩ := z.to; ⟨a1, a2, a3, k (N + 4) (by simp [fp3]) _ y⟩, Src.itr_keep z.i1 fun o y => k N (by simp [fp3]) o y, Src.itr_keep z.i2 fun o y => k (N + 1) (by simp [fp3]) o y,
    Src.itr_keep z.i3 fun o y => k (N + 2) (by simp [fp3]) o y⟩
  item := by
    intro X hP hw hK hc i pins s σ H E I hf st hg
    subst hP hw hK
    obtain ⟨xs, ys, zs, x, y, z, hq, hr, ht, hx, hy, hz⟩ := hg
    obtain ⟨its, rv, p⟩ := Src.look I hq
    obtain ⟨jts, rw_, p2⟩ := Src.look I hr
    obtain ⟨kts, rt, p3⟩ := Src.look I ht
    have W := GoesN.zip3 (elts := elts) (x1 := kk) (pos := tpos) (zip_sep3 (N := N) (fp1 := [q.a]) (fp2 := [r.a]) (fp3 := [t.a]) (fun b hb => by rw [List.mem_singleton.mp hb]; exact hq0) (fun b hb => by rw [List.mem_singleton.mp hb]; exact hr0) (fun b hb => by rw [List.mem_singleton.mp hb]; exact ht0))
      (Src.draws (P := X.prog) (w := X.w) (A := X.A.in1) (q := q) (I.ok.hd hc) N (ne_src (k := 0) hq0) its.toArray) (Src.draws (P := X.prog) (w := X.w) (A := X.A.in1) (q := r) (I.ok.hd hc) (N + 1) (ne_src hr0) jts.toArray)
      (Src.draws (P := X.prog) (w := X.w) (A := X.A.in1) (q := t) (I.ok.hd hc) (N + 2) (ne_src ht0) kts.toArray)
    have hlt : i < min (min its.toArray.size jts.toArray.size) kts.toArray.size := by
      have := (List.getElem?_eq_some_iff.mp hx).1
      have := (List.getElem?_eq_some_iff.mp hy).1
      have := (List.getElem?_eq_some_iff.mp hz).1
      have := rv.length
      have := rw_.length
      have := rt.length
      simp; omega
    refine W.goes i s _ E hlt ⟨st.z, st.ti, st.to, ⟨st.i1, p⟩, ⟨st.i2, p2⟩, ⟨st.i3, p3⟩⟩ fun v h' tk hY st' hk htk => ?_
    obtain ⟨T, u1, u2, u3, rfl, hT, hu1, hu2, hu3, hTup⟩ := hY
    obtain ⟨s1, s2, s3, ⟨s4, _⟩, ⟨s5, _⟩, ⟨s6, _⟩⟩ := st'
    refine ⟨.ref T, _, tup_come (xs := [x, y, z]) I hk (fun b hb => hf b (wr3 N b hb)) hT hTup (.cons (src_pay (X := X) (pins := pins) (σ := σ) (H := H) (s := s) (q := q) rv hx hu1) (.cons (src_pay (X := X) (pins := pins) (σ := σ) (H := H) (s := s) (q := q) rw_ hy hu2) (.cons (src_pay (X := X) (pins := pins) (σ := σ) (H := H) (s := s) (q := q) rt hz hu3) .nil))) (show 3 ≤ sizeLine by decide), rfl,
      ⟨T, x, y, z, rfl, I.hok.fresh hT, rfl, fun l hl => by rw [Src.one I hl hq]; exact hx, fun l hl => by rw [Src.one I hl hr]; exact hy, fun l hl => by rw [Src.one I hl ht]; exact hz⟩, ⟨s1, s2, s3, s4, s5, s6⟩, fun b hb => ?_⟩
    have hb' : b ≠ T := fun z => by
      obtain ⟨o, ho, _⟩ := st.there b hb
      have hl := Heap.lt_size ho
      rw [z] at hl
      exact Nat.lt_irrefl _ (Nat.lt_of_lt_of_le hl hT)
    rw [upd_ne hb']
    exact (hf b hb).1
  done := by
    intro X hP hw hK hc i pins s σ H E I hf st hg
    subst hP hw hK
    obtain ⟨xs, ys, zs, hq, hr, ht, hm⟩ := hg
    obtain ⟨its, rv, p⟩ := Src.look I hq
    obtain ⟨jts, rw_, p2⟩ := Src.look I hr
    obtain ⟨kts, rt, p3⟩ := Src.look I ht
    have W := GoesN.zip3 (elts := elts) (x1 := kk) (pos := tpos) (zip_sep3 (N := N) (fp1 := [q.a]) (fp2 := [r.a]) (fp3 := [t.a]) (fun b hb => by rw [List.mem_singleton.mp hb]; exact hq0) (fun b hb => by rw [List.mem_singleton.mp hb]; exact hr0) (fun b hb => by rw [List.mem_singleton.mp hb]; exact ht0))
      (Src.draws (P := X.prog) (w := X.w) (A := X.A.in1) (q := q) (I.ok.hd hc) N (ne_src (k := 0) hq0) its.toArray) (Src.draws (P := X.prog) (w := X.w) (A := X.A.in1) (q := r) (I.ok.hd hc) (N + 1) (ne_src hr0) jts.toArray)
      (Src.draws (P := X.prog) (w := X.w) (A := X.A.in1) (q := t) (I.ok.hd hc) (N + 2) (ne_src ht0) kts.toArray)
    have hn : min (min its.toArray.size jts.toArray.size) kts.toArray.size = i := by
      have := rv.length
      have := rw_.length
      have := rt.length
      simp; omega
    rw [hn] at W
    exact W.stops s _ E ⟨st.z, st.ti, st.to, ⟨st.i1, p⟩, ⟨st.i2, p2⟩, ⟨st.i3, p3⟩⟩ fun h' tk hk htk => I.turnedL (t' := tk) (ch := fp3 N) (fun b o hb z => hk b o (fun m => hb (wr3 N b m)) z) hf
  self := fun A i s Q E st h => wpAny_pyIter_zip st.z h
def iZipS2 (K : PySem.W.Frag) (ta : TA) : TI := fun σ H R => ta σ H fun vs H1 => ∃ (q r : Src) (xs ys : List V), vs = [.ref q.a, .ref r.a] ∧ q.at_ K H1 xs ∧ r.at_ K H1 ys ∧ R (ItZ2 K q r) H1
def iZipS3 (K : PySem.W.Frag) (ta : TA) : TI := fun σ H R => ta σ H fun vs H1 => ∃ (q r t : Src) (xs ys zs : List V), vs = [.ref q.a, .ref r.a, .ref t.a] ∧ q.at_ K H1 xs ∧ r.at_ K H1 ys ∧ t.at_ K H1 zs ∧ R (ItZ3 K q r t) H1
theorem pi_zipS2 {X : L2.Cx} {e e2 : Expr} {ta : TA} {p pos tpos : Pos} {elts : List Expr} {kk : Nat} (hg : Gl X "zip") (hm : X.mg "zip" = none) (ha : PA X [e, e2] ta)
    (hs : starEach [e, e2] X.env = (false, eval e X.env) :: starEach [e2] X.env) (hpl : (backTo pos (starEach [e2] X.env)).any (·.1) = false) :
    PI X (.Tuple elts kk tpos) (.Call (.Name "zip" p) [e, e2] [] pos) (iZipS2 X.K ta) := by
  refine ⟨fun pins s σ H R I h => ?_⟩
  refine Call_ (ld_blt I hg hm PyProof.Rows.boot_zip (PyProof.Rows.callWith_type1 (thn (ha.run pos pins s σ H _ I h) fun us s1 ⟨vs, H1, I1, r1, q1⟩ => ?_) hs hpl))
  obtain ⟨q, r, xs, ys, rfl, hq, hr, k⟩ := q1
  cases r1 with
  | cons v1 rr =>
    cases rr with
    | cons v2 rr =>
      cases rr
      cases v1
      cases v2
      obtain ⟨its, rv, p1⟩ := Src.look I1 hq
      obtain ⟨jts, rw_, p2⟩ := Src.look I1 hr
      refine zip_begins2 (Src.begins (q := q) its.toArray) (Src.begins (q := r) jts.toArray) p1 p2 fun h' hz hTI hTO h1 h2 hsz hk => wpAny_pyIter_zip hz ?_
      have I2 : Inv X pins σ H1 { s1 with heap := h' } := I1.kept (t' := s1.toks) hk
      refine ⟨s1.heap.objs.size + 4, fp2 s1.heap.objs.size, _, _, H1, rfl, I2, turn_zipS2 s1.heap.objs.size q r (Src.lt I1 hq) (Src.lt I1 hr), ⟨hz, hTI, ⟨_, _, hTO⟩, Src.itr_ob h1, Src.itr_ob h2⟩, fresh_new I1 fun b hb => ?_, k⟩
      simp only [fp2, List.mem_cons, List.not_mem_nil, or_false] at hb
      rcases hb with e | e | e | e | e <;> rw [e] <;> first | exact Nat.le_add_right _ _ | exact Nat.le_refl _
theorem pi_zipS3 {X : L2.Cx} {e e2 e3 : Expr} {ta : TA} {p pos tpos : Pos} {elts : List Expr} {kk : Nat} (hg : Gl X "zip") (hm : X.mg "zip" = none) (ha : PA X [e, e2, e3] ta)
    (hs : starEach [e, e2, e3] X.env = (false, eval e X.env) :: starEach [e2, e3] X.env) (hpl : (backTo pos (starEach [e2, e3] X.env)).any (·.1) = false) :
    PI X (.Tuple elts kk tpos) (.Call (.Name "zip" p) [e, e2, e3] [] pos) (iZipS3 X.K ta) := by
  refine ⟨fun pins s σ H R I h => ?_⟩
  refine Call_ (ld_blt I hg hm PyProof.Rows.boot_zip (PyProof.Rows.callWith_type1 (thn (ha.run pos pins s σ H _ I h) fun us s1 ⟨vs, H1, I1, r1, q1⟩ => ?_) hs hpl))
  obtain ⟨q, r, t, xs, ys, zs, rfl, hq, hr, ht, k⟩ := q1
  cases r1 with
  | cons v1 rr =>
    cases rr with
    | cons v2 rr =>
      cases rr with
      | cons v3 rr =>
        cases rr
        cases v1
        cases v2
        cases v3
        obtain ⟨its, rv, p1⟩ := Src.look I1 hq
        obtain ⟨jts, rw_, p2⟩ := Src.look I1 hr
        obtain ⟨kts, rt, p3⟩ := Src.look I1 ht
        refine zip_begins3 (Src.begins (q := q) its.toArray) (Src.begins (q := r) jts.toArray) (Src.begins (q := t) kts.toArray) p1 p2 p3 fun h' hz hTI hTO h1 h2 h3 hsz hk => wpAny_pyIter_zip hz ?_
        have I2 : Inv X pins σ H1 { s1 with heap := h' } := I1.kept (t' := s1.toks) hk
        refine ⟨s1.heap.objs.size + 5, fp3 s1.heap.objs.size, _, _, H1, rfl, I2, turn_zipS3 s1.heap.objs.size q r t (Src.lt I1 hq) (Src.lt I1 hr) (Src.lt I1 ht), ⟨hz, hTI, ⟨_, _, _, hTO⟩, Src.itr_ob h1, Src.itr_ob h2, Src.itr_ob h3⟩, fresh_new I1 fun b hb => ?_, k⟩
        simp only [fp3, List.mem_cons, List.not_mem_nil, or_false] at hb
        rcases hb with e | e | e | e | e | e <;> rw [e] <;> first | exact Nat.le_add_right _ _ | exact Nat.le_refl _

/-! ### as the small language walks -/
section
variable {B : Bs}
def SrcIs (B : Bs) (μ1 : List Addr) (H1 : Hp) (q : Src) (p : List (Nat × List W) × List W) : Prop :=
  (p.1 = [] ∧ q.l = false ∧ ∃ vs, SqT B.K H1 q.a vs ∧ RVs B.K μ1 H1 p.2 vs) ∨ (∃ n, p.1 = [(n, p.2)] ∧ q.l = true ∧ μ1[n]? = some q.a)
theorem src_rv {μ : List Addr} {H : Hp} {τ : Sto} {w : W} {v : V} {p : List (Nat × List W) × List W} (rh : RH B.K B.Cl μ τ H) (r : RV B.K μ H w v) (h : srcW τ w = some p) : ∃ q : Src, v = .ref q.a ∧ SrcIs B μ H q p ∧ It.ok p.1 τ := by
  cases r with
  | @tup a vs ws s r =>
    cases h
    exact ⟨⟨false, a⟩, rfl, .inl ⟨rfl, rfl, vs, s, r⟩, fun _ hp => nomatch hp⟩
  | @ref n a ha =>
    have h' : (seqOf τ n).map (fun xs => ([(n, xs)], xs)) = some p := h
    cases e : seqOf τ n with
    | none => rw [e] at h'; cases h'
    | some xs =>
      rw [e] at h'
      cases h'
      exact ⟨⟨true, a⟩, rfl, .inr ⟨n, rfl, rfl, ha⟩, fun z hz => by rw [List.mem_singleton.mp hz]; exact e⟩
  | _ => cases h
theorem SrcIs.now {μ1 μ : List Addr} {H1 H : Hp} {q : Src} {p : List (Nat × List W) × List W} {τ : Sto} (h : SrcIs B μ1 H1 q p) (l : Le B.K μ1 H1 μ H) (rh : RH B.K B.Cl μ τ H) (ok : It.ok p.1 τ) : ∃ vs, q.at_ B.K H vs ∧ RVs B.K μ H p.2 vs := by
  obtain ⟨b, a⟩ := q
  rcases h with ⟨_, e, vs, s, r⟩ | ⟨n, e1, e2, ha⟩
  · cases (show b = false from e)
    exact ⟨vs, l.tup _ _ s, r.le l⟩
  · cases (show b = true from e2)
    obtain ⟨a', vs, ha', s, r⟩ := rh.seq (ok (n, p.2) (by rw [e1]; exact List.mem_cons_self))
    obtain rfl := Option.some.inj (ha'.symm.trans (l.get ha))
    exact ⟨vs, s, r⟩
theorem It.ok_app {g1 g2 : List (Nat × List W)} {τ : Sto} (h : It.ok (g1 ++ g2) τ) : It.ok g1 τ ∧ It.ok g2 τ := ⟨fun p hp => h p (List.mem_append_left _ hp), fun p hp => h p (List.mem_append_right _ hp)⟩
theorem rj_enumS {μ1 : List Addr} {H1 : Hp} {q : Src} {p : List (Nat × List W) × List W} (h : SrcIs B μ1 H1 q p) : RJ B μ1 H1 ⟨p.1, (p.2.zipIdx).map fun p => .tup [.int (p.2 : Int), p.1]⟩ (ItE B.K q) := by
  intro i μ τ H l rh ok
  obtain ⟨vs, s, r⟩ := h.now l rh ok
  refine ⟨fun w hw => ?_, fun hi => ⟨vs, s, ?_⟩⟩
  · have hw' : ((p.2.zipIdx).map fun p => W.tup [.int (p.2 : Int), p.1])[i]? = some w := hw
    rw [List.getElem?_map, List.getElem?_zipIdx] at hw'
    cases e : p.2[i]? with
    | none => rw [e] at hw'; cases hw'
    | some x =>
      rw [e] at hw'
      cases hw'
      obtain ⟨v, hv, rv⟩ := r.get e
      refine ⟨⟨vs, v, s, hv⟩, fun q H' hy => ?_⟩
      obtain ⟨t, x', rfl, ht, rfl, q1⟩ := hy
      have z1 := (q1 vs s).symm.trans hv
      cases z1
      obtain ⟨rh', l'⟩ := rh.more (ho := .tup [.int (i : Nat), v]) ht
      refine ⟨l', rh', .tup (.inl (.inl upd_same)) (.cons ?_ (.cons (rv.le l') .nil))⟩
      rw [Nat.zero_add]
      exact .int _
  · have hi' : ((p.2.zipIdx).map fun p => W.tup [.int (p.2 : Int), p.1]).length = i := hi
    rw [List.length_map, List.length_zipIdx, r.length] at hi'
    exact hi'
theorem rj_zipS2 {μ1 : List Addr} {H1 : Hp} {q q2 : Src} {p p2 : List (Nat × List W) × List W} (h : SrcIs B μ1 H1 q p) (h2 : SrcIs B μ1 H1 q2 p2) : RJ B μ1 H1 ⟨p.1 ++ p2.1, (p.2.zip p2.2).map fun p => .tup [p.1, p.2]⟩ (ItZ2 B.K q q2) := by
  intro i μ τ H l rh ok
  obtain ⟨ok1, ok2⟩ := It.ok_app ok
  obtain ⟨vs, s, r⟩ := h.now l rh ok1
  obtain ⟨us, s2, r2⟩ := h2.now l rh ok2
  refine ⟨fun w hw => ?_, fun hi => ⟨vs, us, s, s2, ?_⟩⟩
  · have hw' : ((p.2.zip p2.2).map fun p => W.tup [p.1, p.2])[i]? = some w := hw
    rw [List.getElem?_map] at hw'
    cases e : (p.2.zip p2.2)[i]? with
    | none => rw [e] at hw'; cases hw'
    | some z =>
      rw [e] at hw'
      cases hw'
      obtain ⟨x, y⟩ := z
      obtain ⟨e1, e2⟩ := List.getElem?_zip_eq_some.mp e
      obtain ⟨v, hv, rv⟩ := r.get e1
      obtain ⟨u, hu, ru⟩ := r2.get e2
      refine ⟨⟨vs, us, v, u, s, s2, hv, hu⟩, fun q H' hy => ?_⟩
      obtain ⟨t, x', y', rfl, ht, rfl, q1, q2⟩ := hy
      have z1 := (q1 vs s).symm.trans hv
      have z2 := (q2 us s2).symm.trans hu
      cases z1
      cases z2
      obtain ⟨rh', l'⟩ := rh.more (ho := .tup [v, u]) ht
      exact ⟨l', rh', .tup (.inl (.inl upd_same)) (.cons (rv.le l') (.cons (ru.le l') .nil))⟩
  · have hi' : ((p.2.zip p2.2).map fun p => W.tup [p.1, p.2]).length = i := hi
    rw [List.length_map, List.length_zip, r.length, r2.length] at hi'
    exact hi'
theorem rj_zipS3 {μ1 : List Addr} {H1 : Hp} {q q2 q3 : Src} {p p2 p3 : List (Nat × List W) × List W} (h : SrcIs B μ1 H1 q p) (h2 : SrcIs B μ1 H1 q2 p2) (h3 : SrcIs B μ1 H1 q3 p3) :
    RJ B μ1 H1 ⟨p.1 ++ (p2.1 ++ p3.1), (p.2.zip (p2.2.zip p3.2)).map fun p => .tup [p.1, p.2.1, p.2.2]⟩ (ItZ3 B.K q q2 q3) := by
  intro i μ τ H l rh ok
  obtain ⟨ok1, ok23⟩ := It.ok_app ok
  obtain ⟨ok2, ok3⟩ := It.ok_app ok23
  obtain ⟨vs, s, r⟩ := h.now l rh ok1
  obtain ⟨us, s2, r2⟩ := h2.now l rh ok2
  obtain ⟨ts, s3, r3⟩ := h3.now l rh ok3
  refine ⟨fun w hw => ?_, fun hi => ⟨vs, us, ts, s, s2, s3, ?_⟩⟩
  · have hw' : ((p.2.zip (p2.2.zip p3.2)).map fun p => W.tup [p.1, p.2.1, p.2.2])[i]? = some w := hw
    rw [List.getElem?_map] at hw'
    cases e : (p.2.zip (p2.2.zip p3.2))[i]? with
    | none => rw [e] at hw'; cases hw'
    | some z =>
      rw [e] at hw'
      cases hw'
      obtain ⟨x, y, z⟩ := z
      obtain ⟨e1, e2⟩ := List.getElem?_zip_eq_some.mp e
      obtain ⟨e2, e3⟩ := List.getElem?_zip_eq_some.mp e2
      obtain ⟨v, hv, rv⟩ := r.get e1
      obtain ⟨u, hu, ru⟩ := r2.get e2
      obtain ⟨o, ho, ro⟩ := r3.get e3
      refine ⟨⟨vs, us, ts, v, u, o, s, s2, s3, hv, hu, ho⟩, fun q H' hy => ?_⟩
      obtain ⟨t, x', y', z', rfl, ht, rfl, q1, q2, q3⟩ := hy
      have z1 := (q1 vs s).symm.trans hv
      have z2 := (q2 us s2).symm.trans hu
      have z3 := (q3 ts s3).symm.trans ho
      cases z1
      cases z2
      cases z3
      obtain ⟨rh', l'⟩ := rh.more (ho := .tup [v, u, o]) ht
      exact ⟨l', rh', .tup (.inl (.inl upd_same)) (.cons (rv.le l') (.cons (ru.le l') (.cons (ro.le l') .nil)))⟩
  · have hi' : ((p.2.zip (p2.2.zip p3.2)).map fun p => W.tup [p.1, p.2.1, p.2.2]).length = i := hi
    rw [List.length_map, List.length_zip, List.length_zip, r.length, r2.length, r3.length] at hi'
    omega
theorem rj_rngD {i0 : Int} {n : Nat} {μ1 : List Addr} {H1 : Hp} : RJ B μ1 H1 ⟨[], (List.range n).map fun (k : Nat) => .int (i0 - (k : Int))⟩ (Itc i0 (-1) n) := by
  intro i μ τ H l rh ok
  refine ⟨fun w hw => ?_, fun hi => ?_⟩
  · have hw' : ((List.range n).map fun (k : Nat) => W.int (i0 - (k : Int)))[i]? = some w := hw
    rw [List.getElem?_map] at hw'
    cases e : (List.range n)[i]? with
    | none => rw [e] at hw'; cases hw'
    | some c =>
      rw [e] at hw'
      cases hw'
      obtain ⟨h1, h2⟩ := List.getElem?_eq_some_iff.mp e
      rw [List.getElem_range] at h2
      subst h2
      rw [List.length_range] at h1
      refine ⟨h1, fun u H' hy => ?_⟩
      obtain ⟨rfl, rfl⟩ := hy
      have e2 : i0 + (i : Int) * (-1) = i0 - (i : Int) := by omega
      rw [e2]
      exact ⟨Le.refl, rh, .int _⟩
  · have hi' : ((List.range n).map fun (k : Nat) => W.int (i0 - (k : Int))).length = i := hi
    rw [List.length_map, List.length_range] at hi'
    exact Nat.le_of_eq hi'
theorem rev_get {xs : List W} {i : Nat} {w : W} (h : xs.reverse[i]? = some w) : i < xs.length ∧ xs[xs.length - 1 - i]? = some w := by
  have hl := (List.getElem?_eq_some_iff.mp h).1
  rw [List.length_reverse] at hl
  rw [List.getElem?_reverse hl] at h
  exact ⟨hl, h⟩
theorem rj_revL {μ1 : List Addr} {H1 : Hp} {a : Addr} {n : Nat} {xs : List W} (ha : μ1[n]? = some a) : RJ B μ1 H1 ⟨[(n, xs)], xs.reverse⟩ (Itv B.K a xs.length) := by
  intro i μ τ H l rh ok
  obtain ⟨a', vs, ha', s, r⟩ := rh.seq (itok1 ok)
  obtain rfl := Option.some.inj (ha'.symm.trans (l.get ha))
  refine ⟨fun w hw => ?_, fun hi => ?_⟩
  · obtain ⟨h1, h2⟩ := rev_get hw
    obtain ⟨v, hv, rv⟩ := r.get h2
    refine ⟨⟨h1, vs, v, s, hv⟩, fun q H' hy => ?_⟩
    obtain ⟨rfl, q1⟩ := hy
    have z1 := (q1 vs s).symm.trans hv
    cases z1
    exact ⟨Le.refl, rh, rv⟩
  · have hi' : xs.reverse.length = i := hi
    rw [List.length_reverse] at hi'
    exact Nat.le_of_eq hi'
theorem rj_revT {μ1 : List Addr} {H1 : Hp} {a : Addr} {xs : List W} {vs : List V} (s : SqT B.K H1 a vs) (r : RVs B.K μ1 H1 xs vs) : RJ B μ1 H1 ⟨[], xs.reverse⟩ (RT.ItvT B.K a xs.length) := by
  intro i μ τ H l rh ok
  have s' := l.tup a vs s
  have r' := r.le l
  refine ⟨fun w hw => ?_, fun hi => ?_⟩
  · obtain ⟨h1, h2⟩ := rev_get hw
    obtain ⟨v, hv, rv⟩ := r'.get h2
    refine ⟨⟨h1, vs, v, s', hv⟩, fun q H' hy => ?_⟩
    obtain ⟨rfl, q1⟩ := hy
    have z1 := (q1 vs s').symm.trans hv
    cases z1
    exact ⟨Le.refl, rh, rv⟩
  · have hi' : xs.reverse.length = i := hi
    rw [List.length_reverse] at hi'
    exact Nat.le_of_eq hi'
end
end Mi
/-! MiD: dict(zip(a, b)), lists and tuples in any mix. -/
namespace Mi
open PySem PySem.Spec PyProof.Rows L2
section
variable {prog : Program} {w : World} {A : Around} {E : Value → Shared → Prop} {s : Shared} {z TI TO T i1 i2 : Addr} {fp1 fp2 : List Addr} {n1 n2 i : Nat} {P1 P2 : Nat → Value → Prop} {St1 St2 : Nat → Heap → Prop} {f : Bool} {oT : Obj}
theorem zipH_item {Q : Value → Shared → Prop} (S : ZipSep2 z TI TO i1 i2 fp1 fp2) (D1 : Draws prog w A i1 fp1 n1 P1 St1) (D2 : Draws prog w A i2 fp2 n2 P2 St2)
    (hz : IsZipHeld s.heap z TI TO T f) (hT : s.heap.get? T = some oT) (hTI : IsTupOf2 s.heap TI (.ref i1) (.ref i2)) (st1 : St1 i s.heap) (st2 : St2 i s.heap) (hlt1 : i < n1) (hlt2 : i < n2)
    (hQ : ∀ x1 x2 h' tk, P1 i x1 → P2 i x2 → IsZipHeld h' z TI TO T true → St1 (i + 1) h' → St2 (i + 1) h' → IsTupOf2 h' s.heap.objs.size x1 x2 → h'.objs.size = s.heap.objs.size + 1 →
      (∀ c o, c ≠ z → c ≠ i1 → c ≠ i2 → s.heap.get? c = some o → h'.get? c = some o) → Q (.ref s.heap.objs.size) { s with heap := h', toks := tk }) :
    wpAny (model prog w) A (Builtin.«zip.__next__» ⟨[.ref z], []⟩) (fun fin s' => ∃ v, fin = .done (.ret v) ∧ Q v s') E s := by
  obtain ⟨hp, g, d, tk0, os⟩ := s
  show wpAny _ _ (field (.ref z) 2 >>= _) _ _ _
  refine wpAny_bind (wpAny_field hz rfl (x := .bool false) rfl ?_)
  show wpAny _ _ (field (.ref z) 3 >>= _) _ _ _
  refine wpAny_bind (wpAny_field hz rfl (x := .ref TI) rfl ?_)
  refine wpAny_bind (wpAny_seqItems hTI rfl ?_)
  show wpAny _ _ (Builtin.SmallTypes.ownedTupleIsFree (.ref z) >>= _) _ _ _
  refine wpAny_bind (wpAny_tupleHeld_zip hz hT fun h₁ hz₁ hs₁ => ?_)
  replace hs₁ : Heap.SameBut z hp h₁ := hs₁
  simp only [Bool.false_eq_true, if_false]
  refine wpAny_bind ?_
  rw [← Array.forIn_toList]
  simp only [List.forIn_cons, List.forIn_nil]
  refine wpAny_bind (wpAny_bind (wpAny_holding ?_))
  show wpAny _ _ (Builtin.SmallTypes.nextOf (.ref i1) >>= _) _ _ ⟨h₁, g, d, tk0, os⟩
  refine wpAny_bind (D1.item i _ _ _ hlt1 (D1.over st1 hs₁ S.zf1) fun x1 h₂ tk1 hx1 sn1 hs₂ => wpAny_pure ?_)
  replace hs₂ : Heap.SameBut i1 h₁ h₂ := hs₂
  refine wpAny_pure ?_
  refine wpAny_bind (wpAny_bind (wpAny_holding ?_))
  show wpAny _ _ (Builtin.SmallTypes.nextOf (.ref i2) >>= _) _ _ ⟨h₂, g, d, tk1, os⟩
  refine wpAny_bind (D2.item i _ _ _ hlt2 (D2.over (D2.over st2 hs₁ S.zf2) hs₂ S.sep1_2) fun x2 h₃ tk2 hx2 sn2 hs₃ => wpAny_pure ?_)
  replace hs₃ : Heap.SameBut i2 h₂ h₃ := hs₃
  refine wpAny_pure (wpAny_pure ?_)
  show wpAny _ _ (newTuple [x1, x2] >>= _) _ _ _
  refine wpAny_bind (wpAny_newTuple ?_)
  have hsz : h₃.objs.size = hp.objs.size := by rw [hs₃.1, hs₂.1, hs₁.1]
  have hz₃ : IsZipHeld h₃ z TI TO T true := hs₃.extBut _ _ S.zi2 (hs₂.extBut _ _ S.zi1 hz₁)
  have hk : ∀ c o, c ≠ z → c ≠ i1 → c ≠ i2 → hp.get? c = some o → h₃.get? c = some o := fun c o c1 c2 c3 e => hs₃.extBut _ _ c3 (hs₂.extBut _ _ c2 (hs₁.extBut _ _ c1 e))
  have sn1' : St1 (i + 1) h₃ := D1.over sn1 hs₃ S.sep2_1
  refine wpAny_pure ⟨_, rfl, ?_⟩
  show Q (.ref h₃.objs.size) _
  have hpr : IsTupOf2 (h₃.push { cls := .type "tuple", data := .seq #[x1, x2] }) h₃.objs.size x1 x2 := Heap.get?_push_size _ rfl
  have hz4 : (h₃.push { cls := .type "tuple", data := .seq #[x1, x2] }).objs.size = h₃.objs.size + 1 := Heap.size_push ..
  rw [hsz] at hpr hz4 ⊢
  exact hQ _ _ _ tk2 hx1 hx2 (Heap.get?_push_of_some _ hz₃) (D1.frame _ _ _ sn1' fun b _ o e => Heap.get?_push_of_some _ e) (D2.frame _ _ _ sn2 fun b _ o e => Heap.get?_push_of_some _ e) hpr hz4 fun c o c1 c2 c3 e => Heap.get?_push_of_some _ (hk c o c1 c2 c3 e)
theorem zipH_end {Q : Fin → Shared → Prop} (S : ZipSep2 z TI TO i1 i2 fp1 fp2) (D1 : Draws prog w A i1 fp1 n1 P1 St1) (D2 : Draws prog w A i2 fp2 n2 P2 St2)
    (hz : IsZipHeld s.heap z TI TO T f) (hT : s.heap.get? T = some oT) (hTI : IsTupOf2 s.heap TI (.ref i1) (.ref i2)) (st1 : St1 i s.heap) (st2 : St2 i s.heap) (hle1 : i ≤ n1) (hle2 : i ≤ n2) (hend : i = n1 ∨ i = n2)
    (hE : ∀ h' tk e, (∀ c o, c ≠ z → c ≠ i1 → c ≠ i2 → s.heap.get? c = some o → h'.get? c = some o) → (∃ o, h'.get? e = some o ∧ o.cls = .type "StopIteration") → E (.ref e) { s with heap := h', toks := tk }) :
    wpAny (model prog w) A (Builtin.«zip.__next__» ⟨[.ref z], []⟩) Q E s := by
  obtain ⟨hp, g, d, tk0, os⟩ := s
  show wpAny _ _ (field (.ref z) 2 >>= _) _ _ _
  refine wpAny_bind (wpAny_field hz rfl (x := .bool false) rfl ?_)
  show wpAny _ _ (field (.ref z) 3 >>= _) _ _ _
  refine wpAny_bind (wpAny_field hz rfl (x := .ref TI) rfl ?_)
  refine wpAny_bind (wpAny_seqItems hTI rfl ?_)
  show wpAny _ _ (Builtin.SmallTypes.ownedTupleIsFree (.ref z) >>= _) _ _ _
  refine wpAny_bind (wpAny_tupleHeld_zip hz hT fun h₁ hz₁ hs₁ => ?_)
  replace hs₁ : Heap.SameBut z hp h₁ := hs₁
  simp only [Bool.false_eq_true, if_false]
  refine wpAny_bind ?_
  rw [← Array.forIn_toList]
  simp only [List.forIn_cons, List.forIn_nil]
  refine wpAny_bind (wpAny_bind (wpAny_holding ?_))
  show wpAny _ _ (Builtin.SmallTypes.nextOf (.ref i1) >>= _) _ _ ⟨h₁, g, d, tk0, os⟩
  by_cases hlt1 : i < n1
  · refine wpAny_bind (D1.item i _ _ _ hlt1 (D1.over st1 hs₁ S.zf1) fun x1 h₂ tk1 hx1 sn1 hs₂ => wpAny_pure ?_)
    replace hs₂ : Heap.SameBut i1 h₁ h₂ := hs₂
    refine wpAny_pure ?_
    have hi2 : i = n2 := by omega
    refine wpAny_bind (wpAny_bind (wpAny_holding ?_))
    show wpAny _ _ (Builtin.SmallTypes.nextOf (.ref i2) >>= _) _ _ ⟨h₂, g, d, tk1, os⟩
    refine wpAny_bind (D2.done ⟨h₂, g, d, tk1, os⟩ _ _ (by rw [← hi2]; exact D2.over (D2.over st2 hs₁ S.zf2) hs₂ S.sep1_2) fun q e hq he => ?_)
    replace hq : Heap.ExtBut i2 h₂ q := hq
    exact hE q tk1 e (fun c o c1 c2 c3 x => hq _ _ c3 (hs₂.extBut _ _ c2 (hs₁.extBut _ _ c1 x))) he
  · have hi1 : i = n1 := by omega
    refine wpAny_bind (D1.done ⟨h₁, g, d, tk0, os⟩ _ _ (by rw [← hi1]; exact D1.over st1 hs₁ S.zf1) fun q e hq he => ?_)
    replace hq : Heap.ExtBut i1 h₁ q := hq
    exact hE q tk0 e (fun c o c1 c2 c3 x => hq _ _ c2 (hs₁.extBut _ _ c1 x)) he
theorem nextH_item {Q : Option Value → Shared → Prop} (S : ZipSep2 z TI TO i1 i2 fp1 fp2) (D1 : Draws prog w A.in1 i1 fp1 n1 P1 St1) (D2 : Draws prog w A.in1 i2 fp2 n2 P2 St2)
    (hz : IsZipHeld s.heap z TI TO T f) (hT : s.heap.get? T = some oT) (hTI : IsTupOf2 s.heap TI (.ref i1) (.ref i2)) (st1 : St1 i s.heap) (st2 : St2 i s.heap) (hlt1 : i < n1) (hlt2 : i < n2)
    (hQ : ∀ x1 x2 h' tk, P1 i x1 → P2 i x2 → IsZipHeld h' z TI TO T true → St1 (i + 1) h' → St2 (i + 1) h' → IsTupOf2 h' s.heap.objs.size x1 x2 → h'.objs.size = s.heap.objs.size + 1 →
      (∀ c o, c ≠ z → c ≠ i1 → c ≠ i2 → s.heap.get? c = some o → h'.get? c = some o) → Q (some (.ref s.heap.objs.size)) { s with heap := h', toks := tk }) :
    wpAny (model prog w) A (pyNext (.ref z)) Q E s := by
  have hTy : s.TypeIs (.ref z) "zip" := ⟨_, hz, rfl⟩
  unfold pyNext
  exact wpAny_bind (wpAny_attempt (wpAny_callSpecial?_slot (name := Str.ofString "__next__") hTy PySem.F.slot_zip_next
    (wpAny_call_entry PySem.F.slot_zip_next hTy PySem.F.entry_zip_next
      (zipH_item S D1 D2 hz hT hTI st1 st2 hlt1 hlt2 fun x1 x2 h' tk y1 y2 b1 d1 d2 b5 b6 b7 => wpAny_pure (hQ x1 x2 h' tk y1 y2 b1 d1 d2 b5 b6 b7)) (PySem.F.args_zip_next_1 _))))
theorem nextH_end {Q : Option Value → Shared → Prop} (S : ZipSep2 z TI TO i1 i2 fp1 fp2) (D1 : Draws prog w A.in1 i1 fp1 n1 P1 St1) (D2 : Draws prog w A.in1 i2 fp2 n2 P2 St2)
    (hz : IsZipHeld s.heap z TI TO T f) (hT : s.heap.get? T = some oT) (hTI : IsTupOf2 s.heap TI (.ref i1) (.ref i2)) (st1 : St1 i s.heap) (st2 : St2 i s.heap) (hle1 : i ≤ n1) (hle2 : i ≤ n2) (hend : i = n1 ∨ i = n2)
    (hQ : ∀ h' tk, (∀ c o, c ≠ z → c ≠ i1 → c ≠ i2 → s.heap.get? c = some o → h'.get? c = some o) → Q none { s with heap := h', toks := tk }) : wpAny (model prog w) A (pyNext (.ref z)) Q E s := by
  have hTy : s.TypeIs (.ref z) "zip" := ⟨_, hz, rfl⟩
  unfold pyNext
  refine wpAny_bind (wpAny_attempt (wpAny_callSpecial?_slot (name := Str.ofString "__next__") hTy PySem.F.slot_zip_next
    (wpAny_call_entry PySem.F.slot_zip_next hTy PySem.F.entry_zip_next (zipH_end S D1 D2 hz hT hTI st1 st2 hle1 hle2 hend fun h' tk e hk he => ?_) (PySem.F.args_zip_next_1 _))))
  obtain ⟨o, ho, hc⟩ := he
  refine wpAny_bind (wpAny_isInstance (T := "StopIteration") (b := true) ⟨o, ho, hc⟩ isSubtype_stop ?_)
  exact wpAny_pure (hQ _ _ hk)
end
section
variable {prog : Program} {w : World}
theorem Src.hp_keep {q : Src} {h h' : Heap} {its : Array Value} (e : q.hp h its) (k : ∀ o, h.get? q.a = some o → h'.get? q.a = some o) : q.hp h' its := by
  obtain ⟨l, a⟩ := q
  cases l with
  | true => exact Heap.IsList.at (show h.IsList a its from e) k
  | false => exact Heap.IsTuple.at (show h.IsTuple a its from e) k
theorem Src.hp_get {q : Src} {h : Heap} {its : Array Value} (e : q.hp h its) : ∃ o, h.get? q.a = some o := by
  obtain ⟨l, a⟩ := q
  cases l with
  | true => obtain ⟨o, e, _⟩ : h.IsList a its := e; exact ⟨o, e⟩
  | false => obtain ⟨o, e, _⟩ : h.IsTuple a its := e; exact ⟨o, e⟩
theorem pairZip (N : Nat) (q r : Src) (hq0 : q.a < N) (hr0 : r.a < N) (its jts : Array Value) :
    PairArg prog w "zip" (N + 4) [N + 4, N + 2, N + 3, N, N + 1, q.a, r.a] [N + 4, N + 3, N, N + 1] (min its.size jts.size) (fun i k v => its[i]? = some k ∧ jts[i]? = some v)
      (fun h => Zp2 N q r 0 h ∧ q.hp h its ∧ r.hp h jts) where
  type := fun s ok => ⟨_, ok.1.z, rfl⟩
  notDict := by decide
  keep := fun h h' ok hk => by
    obtain ⟨⟨z, ti, ⟨a1, a2, y⟩, i1, i2⟩, p1, p2⟩ := ok
    exact ⟨⟨hk _ _ z, hk _ _ ti, ⟨a1, a2, hk _ _ y⟩, Src.itr_keep i1 fun o e => hk _ o e, Src.itr_keep i2 fun o e => hk _ o e⟩, Src.hp_keep p1 fun o e => hk _ o e, Src.hp_keep p2 fun o e => hk _ o e⟩
  there := fun h ok b hb => by
    obtain ⟨⟨z, ti, ⟨a1, a2, y⟩, i1, i2⟩, p1, p2⟩ := ok
    obtain ⟨o1, e1, _⟩ := Src.itr_get i1
    obtain ⟨o2, e2, _⟩ := Src.itr_get i2
    obtain ⟨o3, e3⟩ := Src.hp_get p1
    obtain ⟨o4, e4⟩ := Src.hp_get p2
    simp only [List.mem_cons, List.not_mem_nil, or_false] at hb
    rcases hb with rfl | rfl | rfl | rfl | rfl | rfl | rfl
    · exact ⟨_, z⟩
    · exact ⟨_, ti⟩
    · exact ⟨_, y⟩
    · exact ⟨_, e1⟩
    · exact ⟨_, e2⟩
    · exact ⟨_, e3⟩
    · exact ⟨_, e4⟩
  sub := fun b hb => by
    simp only [List.mem_cons, List.not_mem_nil, or_false] at hb ⊢
    rcases hb with rfl | rfl | rfl | rfl <;> simp
  noKeys := fun A s Q E hA ok h => getAttrOr_miss_zip ok.1.z rfl rfl rfl zip_no_keys (by decide +kernel) hA h
  iter := fun A s d Q E hA ok hd hdf h => by
    obtain ⟨⟨z, ti, ⟨a1, a2, y⟩, i1, i2⟩, p1, p2⟩ := ok
    simp only [List.mem_cons, List.not_mem_nil, or_false, not_or] at hdf
    obtain ⟨dz, dTI, dTO, di1, di2, dl1, dl2⟩ := hdf
    have S := zip_sep2 (N := N) (fp1 := [q.a]) (fp2 := [r.a]) (fun b hb => by rw [List.mem_singleton.mp hb]; exact hq0) (fun b hb => by rw [List.mem_singleton.mp hb]; exact hr0)
    have D1 := Src.draws (P := prog) (w := w) (A := A.in1) (q := q) hA N (ne_src (k := 0) hq0) its
    have D2 := Src.draws (P := prog) (w := w) (A := A.in1) (q := r) hA (N + 1) (ne_src hr0) jts
    refine wpAny_pyIter_zip z (h (N + 4) [N + 4, N + 3, N, N + 1] (fun i h => IsTupOf2 h (N + 2) (.ref N) (.ref (N + 1)) ∧ (q.itr h N i ∧ q.hp h its) ∧ (r.itr h (N + 1) i ∧ r.hp h jts) ∧
      ((IsZip h (N + 4) (N + 2) (N + 3) .none ∧ ∃ a b, IsTupOf2 h (N + 3) a b) ∨ ∃ T f oT, IsZipHeld h (N + 4) (N + 2) (N + 3) T f ∧ h.get? T = some oT ∧ T ≠ N + 4 ∧ T ≠ N ∧ T ≠ N + 1 ∧ T ≠ d)) s.heap s.toks ?_
      ⟨ti, ⟨i1, p1⟩, ⟨i2, p2⟩, .inl ⟨z, a1, a2, y⟩⟩ (fun _ _ e => e) fun b hb => .inl hb)
    exact {
      off := fun hm => by
        simp only [List.mem_cons, List.not_mem_nil, or_false] at hm
        rcases hm with e | e | e | e
        · exact dz e
        · exact dTO e
        · exact di1 e
        · exact di2 e
      frame := fun i h₁ h₂ st hk => by
        obtain ⟨ti, ⟨i1, p1⟩, ⟨i2, p2⟩, hz⟩ := st
        refine ⟨hk _ _ (Ne.symm dTI) ti, ⟨Src.itr_keep i1 fun o e => hk _ o (Ne.symm di1) e, Src.hp_keep p1 fun o e => hk _ o (Ne.symm dl1) e⟩, ⟨Src.itr_keep i2 fun o e => hk _ o (Ne.symm di2) e, Src.hp_keep p2 fun o e => hk _ o (Ne.symm dl2) e⟩, ?_⟩
        rcases hz with ⟨hz, a, b, hTO⟩ | ⟨T, f, oT, hz, hT, r1, r2, r3, r4⟩
        · exact .inl ⟨hk _ _ (Ne.symm dz) hz, a, b, hk _ _ (Ne.symm dTO) hTO⟩
        · exact .inr ⟨T, f, oT, hk _ _ (Ne.symm dz) hz, hk _ _ r4 hT, r1, r2, r3, r4⟩
      item := fun i s₁ Q₁ E₁ hi st hds hQ => by
        obtain ⟨ti, ⟨i1, p1⟩, ⟨i2, p2⟩, hz⟩ := st
        have hix : i < its.size := Nat.lt_of_lt_of_le hi (Nat.min_le_left ..)
        have hiy : i < jts.size := Nat.lt_of_lt_of_le hi (Nat.min_le_right ..)
        have lt : ∀ {c o}, s₁.heap.get? c = some o → s₁.heap.objs.size ≠ c := fun e => Nat.ne_of_gt (Heap.lt_size e)
        obtain ⟨o1, e1, _⟩ := Src.itr_get i1
        obtain ⟨o2, e2, _⟩ := Src.itr_get i2
        rcases hz with ⟨hz, a, b, hTO⟩ | ⟨T, f, oT, hz, hT, r1, r2, r3, r4⟩
        · refine wpAny_pyNext_zipD2_item S D1 D2 hz ti hTO ⟨i1, p1⟩ ⟨i2, p2⟩ hix hiy fun x1 x2 h' tk y1 y2 b1 b2 b3 b4 b5 b6 hk => ?_
          exact hQ s₁.heap.objs.size _ _ h' tk ⟨y1, y2⟩ (.inl ⟨_, b5, rfl, _, rfl⟩)
            ⟨hk _ _ S.TIz S.TITO S.TIi1 S.TIi2 ti, b3, b4, .inr ⟨s₁.heap.objs.size, false, _, b1, b5, lt hz, lt e1, lt e2, Nat.ne_of_gt hds⟩⟩
            fun c o hc e => hk c o (fun x => hc (by simp [x])) (fun x => hc (by simp [x])) (fun x => hc (by simp [x])) (fun x => hc (by simp [x])) e
        · refine nextH_item S D1 D2 hz hT ti ⟨i1, p1⟩ ⟨i2, p2⟩ hix hiy fun x1 x2 h' tk y1 y2 b1 b3 b4 b5 b6 hk => ?_
          exact hQ s₁.heap.objs.size _ _ h' tk ⟨y1, y2⟩ (.inl ⟨_, b5, rfl, _, rfl⟩)
            ⟨hk _ _ S.TIz S.TIi1 S.TIi2 ti, b3, b4, .inr ⟨T, true, oT, b1, hk _ _ r1 r2 r3 hT, r1, r2, r3, r4⟩⟩
            fun c o hc e => hk c o (fun x => hc (by simp [x])) (fun x => hc (by simp [x])) (fun x => hc (by simp [x])) e
      done := fun s₁ Q₁ E₁ st hQ => by
        obtain ⟨ti, i1, i2, hz⟩ := st
        have hend : min its.size jts.size = its.size ∨ min its.size jts.size = jts.size := by omega
        rcases hz with ⟨hz, a, b, hTO⟩ | ⟨T, f, oT, hz, hT, r1, r2, r3, r4⟩
        · exact wpAny_pyNext_zipD2_end S D1 D2 hz ti hTO i1 i2 (Nat.min_le_left ..) (Nat.min_le_right ..) hend fun h' tk hk => hQ h' tk fun c o hc e => hk c o (fun x => hc (by simp [x])) (fun x => hc (by simp [x])) (fun x => hc (by simp [x])) (fun x => hc (by simp [x])) e
        · exact nextH_end S D1 D2 hz hT ti i1 i2 (Nat.min_le_left ..) (Nat.min_le_right ..) hend fun h' tk hk => hQ h' tk fun c o hc e => hk c o (fun x => hc (by simp [x])) (fun x => hc (by simp [x])) (fun x => hc (by simp [x])) e }
end
section
theorem zip_get {α β : Type} : ∀ {xs : List α} {ys : List β} {i : Nat} {x : α} {y : β}, xs[i]? = some x → ys[i]? = some y → (xs.zip ys)[i]? = some (x, y)
  | x0 :: xs, y0 :: ys, 0, x, y, h1, h2 => by
    cases h1; cases h2; rfl
  | x0 :: xs, y0 :: ys, i + 1, x, y, h1, h2 => zip_get (xs := xs) (ys := ys) (i := i) (by simpa using h1) (by simpa using h2)
  | [], _, _, _, _, h1, _ => by simp at h1
  | _ :: _, [], _, _, _, _, h2 => by simp at h2
theorem kv_zip : ∀ (ks : List Key) {ys : List V} {us : List Value}, Vals ys us → KV (ks.zip ys) (ks.zip us)
  | [], _, _, _ => by rw [List.zip_nil_left, List.zip_nil_left]; exact .nil
  | k :: r, _, _, .nil => by rw [List.zip_nil_right, List.zip_nil_right]; exact .nil
  | k :: r, _, _, .cons h t => .cons ⟨rfl, h⟩ (kv_zip r t)
variable {X : L2.Cx}
/-- dict(zip(a, b)) -/
def tDzip (K : PySem.W.Frag) (ta : TA) : TE := fun σ H Q => ta σ H fun vs H1 => ∃ (q r : Src) (ks : List Key) (ys : List V), vs = [.ref q.a, .ref r.a] ∧ q.at_ K H1 (ks.map kV) ∧ r.at_ K H1 ys ∧ ∀ p, H1 p = none → Q (.ref p) (upd H1 p (.dK (mergeK [] (ks.zip ys))))
theorem pe_dzip {e e2 : Expr} {ta : TA} {p0 pos p pos2 : Pos} (hcalm : X.calm = true) (hgd : Gl X "dict") (hmd : X.mg "dict" = none) (hg : Gl X "zip") (hm : X.mg "zip" = none) (ha : PA X [e, e2] ta)
    (hs1 : starEach [.Call (.Name "zip" p) [e, e2] [] pos2] X.env = (false, eval (.Call (.Name "zip" p) [e, e2] [] pos2) X.env) :: starEach [] X.env := by rfl)
    (hp1 : (backTo pos (starEach [] X.env)).any (·.1) = false := by rfl)
    (hs : starEach [e, e2] X.env = (false, eval e X.env) :: starEach [e2] X.env) (hpl : (backTo pos2 (starEach [e2] X.env)).any (·.1) = false) :
    PE X (.Call (.Name "dict" p0) [.Call (.Name "zip" p) [e, e2] [] pos2] [] pos) (tDzip X.K ta) := by
  refine ⟨fun pins s σ H Q I h => ?_⟩
  refine wpAny_Call_Name_kw (ld_blt I hgd hmd PyProof.Rows.boot_dict ?_)
  refine PyProof.Rows.callWith_type1 ?_ hs1 hp1
  rw [hs1]
  show wpAny _ _ (spliced ((false, eval (.Call (.Name "zip" p) [e, e2] [] pos2) X.env) :: backTo pos (starEach [] X.env))) _ _ s
  refine Calls.spliced_cons ?_
  refine wpAny_Call_Name_kw (ld_blt I hg hm PyProof.Rows.boot_zip ?_)
  refine PyProof.Rows.callWith_type1 (thn (ha.run pos2 pins s σ H _ I h) fun us s1 ⟨vs, H1, I1, r1, q1⟩ => ?_) hs hpl
  obtain ⟨q, r, ks, ys, rfl, hq, hr, k⟩ := q1
  cases r1 with
  | cons v1 rr =>
    cases rr with
    | cons v2 rr =>
      cases rr
      cases v1
      cases v2
      obtain ⟨its, rv, p1⟩ := Src.look I1 hq
      obtain ⟨jts, rw_, p2⟩ := Src.look I1 hr
      have hq0 := Src.lt I1 hq
      have hr0 := Src.lt I1 hr
      have hl1 := rv.length
      have hl2 := rw_.length
      rw [List.length_map] at hl1
      have hsz0 : its.length ≤ sizeLine := by
        obtain ⟨l, a⟩ := q
        cases l with
        | true =>
          obtain ⟨its', r', _, hz⟩ := I1.list (a := a) (xs := ks.map kV) hq
          have := r'.length
          have := rv.length
          simp at *
          omega
        | false =>
          obtain ⟨its', r', _, hz⟩ := I1.tuple (a := a) (xs := ks.map kV) hq
          have := r'.length
          have := rv.length
          simp at *
          omega
      refine zip_begins2 (Src.begins (q := q) its.toArray) (Src.begins (q := r) jts.toArray) p1 p2 fun h' hz hTI hTO h1 h2 hsz hk => ?_
      refine Calls.spliced_nil ?_
      have I2 : Inv X pins σ H1 { s1 with heap := h' } := I1.kept (t' := s1.toks) hk
      have ok : Zp2 s1.heap.objs.size q r 0 h' ∧ q.hp h' its.toArray ∧ r.hp h' jts.toArray := ⟨⟨hz, hTI, ⟨_, _, hTO⟩, Src.itr_ob h1, Src.itr_ob h2⟩, Src.hp_keep p1 fun o e => hk _ o e, Src.hp_keep p2 fun o e => hk _ o e⟩
      refine PySem.call_dict_pairs (s := { s1 with heap := h' }) (knd := mixKind X.prog X.w) (kvs := ks.zip jts) (pairZip s1.heap.objs.size q r hq0 hr0 its.toArray jts.toArray) (I1.ok.hd hcalm) ok ⟨by rw [List.length_zip]; simp; omega, fun i key v hh => ?_⟩ (by simp; omega) fun h2' tk hd' hk2 => ?_
      · obtain ⟨e1, e2⟩ := hh
        have e1' : its[i]? = some key := by simpa using e1
        have e2' : jts[i]? = some v := by simpa using e2
        have hi : i < ks.length := by have := (List.getElem?_eq_some_iff.mp e1').1; omega
        obtain ⟨u, hu, ru⟩ := rv.get (i := i) (x := kV ks[i]) (by rw [List.getElem?_map, List.getElem?_eq_getElem hi]; rfl)
        have : u = key := Option.some.inj (hu.symm.trans e1')
        subst this
        exact ⟨ks[i], zip_get (List.getElem?_eq_getElem hi) e2', kV_is (P := X.prog) (w := X.w) ru⟩
      · have hge : s1.heap.objs.size ≤ h'.objs.size := by rw [hsz]; exact Nat.le_add_right _ _
        have kk : ∀ b o, s1.heap.get? b = some o → h2'.get? b = some o := fun b o e => by
          have hb := Heap.lt_size e
          refine hk2 b o (fun hm => ?_) (hk b o e)
          simp only [List.mem_cons, List.not_mem_nil, or_false] at hm
          rcases hm with z | z | z | z <;> (rw [z] at hb; exact absurd hb (Nat.not_lt_of_le (by first | exact Nat.le_add_right _ _ | exact Nat.le_refl _)))
        have hm : (h'.objs.size == sysModules) = false := beq_eq_false_iff_ne.mpr (Nat.ne_of_gt (Nat.lt_of_lt_of_le I1.big hge))
        have hlen : (mergeK [] (ks.zip ys)).length ≤ sizeLine := by
          refine Nat.le_trans (length_mergeK (ks.zip ys) []) ?_
          rw [List.length_nil, Nat.zero_add, List.length_zip]
          omega
        exact ⟨.ref h'.objs.size, upd H1 h'.objs.size (.dK (mergeK [] (ks.zip ys))), I1.laid (t' := tk) kk hge (show ObjOk X.prog X.w _ _ _ (.dK (mergeK [] (ks.zip ys))) from ⟨hlen, hm, merged [] (ks.zip jts), KV.merge (kv_zip ks rw_) .nil, hd'⟩), rfl, k _ (I1.hok.fresh hge)⟩
end
end Mi
/-! Mi10: loops' sources, comprehensions, instances made; every expression. -/
namespace Mi
open PySem PySem.Spec PyProof.Rows L2
section
variable {G : Gt} {T : Tb} {C : Calls} {B : Bs} {k : Nat} {X : L2.Cx} {Z : Sx} {Wx : WX}

/-- only something to walk -/
theorem Snd.ofI {ir : E} (ce : (chk G ir Z).e = fun _ => false) (ct : ∀ x, (chk G ir Z).t x = false) (ca : (chk G ir Z).a = fun _ => false) (cp : ∀ o, (chk G ir Z).p o = false) (cs : ∀ l, (chk G ir Z).ts l = false) (cb : (chk G ir Z).bs = fun _ => false)
    (hi : ∀ tg x, (chk G ir Z).i tg x = true → PI X tg x (tI T C B Wx ir)) : Snd G T C B X Z Wx ir :=
  ⟨fun x h => by rw [ce] at h; exact ff h, fun x h => by rw [ct] at h; exact ff h, fun es h => by rw [ca] at h; exact ff h, fun es pos h => by rw [ca] at h; exact ff h,
    fun es pos h => by rw [cb] at h; exact ff h, fun o h => by rw [cp] at h; exact ff h, hi, fun l h => by rw [cs] at h; exact ff h⟩
theorem and_false' (b : Bool) : (b && false) = false := by cases b <;> rfl
theorem p_false (o : Option Expr) : (match o with
    | some x => (fun _ => false : Expr → Bool) x
    | none => false) = false := by cases o <;> rfl
theorem ts_false (l : List Expr) : (match l with
    | [x] => plainT x && false
    | _ => false) = false := by
  match l with
  | [] => rfl
  | [x] => exact and_false' _
  | _ :: _ :: _ => rfl
theorem snd_seq {a : E} (F : Fit G T C B k X Z Wx) (iha : Snd G T C B X Z Wx a) : Snd G T C B X Z Wx (.seq a) := by
  refine Snd.ofI rfl (fun x => and_false' _) rfl p_false ts_false rfl fun tg x h => ?_
  have h' : (notSet x && (chk G a Z).e x) = true := h
  rw [Bool.and_eq_true] at h'
  refine PI.dyn fun σ H Q ⟨μ, ρ, τ, rh, rs, g⟩ => ?_
  have g' : Got B (RJ B) Wx μ H (((ev T C a).e ρ τ).bind seqI) Q := g
  have hv := iha.e x h'.2
  cases e : (ev T C a).e ρ τ with
  | no => rw [e] at g'; exact g'.elim
  | exn y ρ' τ' =>
    refine ⟨_, pi_str hv, μ, ρ, τ, rh, rs, ?_⟩
    rw [e] at g' ⊢
    exact g'
  | ok w τ1 =>
    cases w with
    | str z =>
      refine ⟨_, pi_str hv, μ, ρ, τ, rh, rs, ?_⟩
      rw [e] at g' ⊢
      intro μ1 H1 v l1 rh1 rv
      have g2 : Got B (RJ B) Wx μ H (seqI (.str z) τ1) Q := g'
      have rv' : RV B.K μ1 H1 (.str z) v := rv
      cases rv' with
      | str _ => exact ⟨z, rfl, g2 μ1 H1 (Its z) l1 rh1 rj_str⟩
    | tup xs =>
      refine ⟨_, pi_tup hv, μ, ρ, τ, rh, rs, ?_⟩
      rw [e] at g' ⊢
      intro μ1 H1 v l1 rh1 rv
      have g2 : Got B (RJ B) Wx μ H (seqI (.tup xs) τ1) Q := g'
      have rv' : RV B.K μ1 H1 (.tup xs) v := rv
      cases rv' with
      | @tup a vs _ s r =>
        refine ⟨a, rfl, ⟨vs, by rw [F.K]; exact s⟩, ?_⟩
        rw [F.K]
        exact g2 μ1 H1 _ l1 rh1 (rj_tup s r)
    | ref n =>
      refine ⟨_, pi_list hv, μ, ρ, τ, rh, rs, ?_⟩
      rw [e] at g' ⊢
      intro μ1 H1 v l1 rh1 rv
      have g2 : Got B (RJ B) Wx μ H (seqI (.ref n) τ1) Q := g'
      have rv' : RV B.K μ1 H1 (.ref n) v := rv
      cases rv' with
      | @ref _ a ha =>
        cases e2 : seqOf τ1 n with
        | none =>
          have e3 : seqI (.ref n) τ1 = .no := by unfold seqI; simp only [e2]
          rw [e3] at g2
          exact g2.elim
        | some xs =>
          have e3 : seqI (.ref n) τ1 = .ok ⟨[(n, xs)], xs⟩ τ1 := by unfold seqI; simp only [e2]
          rw [e3] at g2
          obtain ⟨a', vs, ha', s, r⟩ := rh1.seq e2
          obtain rfl := Option.some.inj (ha'.symm.trans ha)
          refine ⟨a', rfl, ⟨vs, by rw [F.K]; exact s⟩, ?_⟩
          rw [F.K]
          exact g2 μ1 H1 _ l1 rh1 (rj_list ha)
    | _ => rw [e] at g'; exact False.elim g'
theorem chk_len : ∀ (ir : E) {es : List Expr} {ρ : Sl} {τ τ' : Sto} {ws : List W}, (chk G ir Z).a es = true → (ev T C ir).a ρ τ = .ok ws τ' → ws.length = es.length := by
  intro ir
  induction ir with
  | nil =>
    intro es ρ τ τ' ws h e
    cases es with
    | nil => cases e; rfl
    | cons _ _ => exact ff h
  | cons a r iha ihr =>
    intro es ρ τ τ' ws h e
    cases es with
    | nil => exact ff h
    | cons x es =>
      have h' : (noStar x && (chk G a Z).e x && (chk G r Z).a es) = true := h
      rw [Bool.and_eq_true] at h'
      obtain ⟨w, τ1, _, e⟩ := bind_ok_of e
      obtain ⟨ws2, τ2, e2, e⟩ := bind_ok_of e
      cases e
      rw [List.length_cons, List.length_cons, ihr h'.2 e2]
  | _ => intro es ρ τ τ' ws h; exact ff h
theorem rvs2 {μ : List Addr} {H : Hp} {ws : List W} {vs : List V} (r : RVs B.K μ H ws vs) (h : ws.length = 2) : ∃ w u v x, ws = [w, u] ∧ vs = [v, x] ∧ RV B.K μ H w v ∧ RV B.K μ H u x := by
  cases r with
  | nil => cases h
  | cons a r =>
    cases r with
    | nil => cases h
    | cons b r =>
      cases r with
      | nil => exact ⟨_, _, _, _, rfl, rfl, a, b⟩
      | cons _ _ => cases h
theorem rvs3 {μ : List Addr} {H : Hp} {ws : List W} {vs : List V} (r : RVs B.K μ H ws vs) (h : ws.length = 3) : ∃ w u t v x y, ws = [w, u, t] ∧ vs = [v, x, y] ∧ RV B.K μ H w v ∧ RV B.K μ H u x ∧ RV B.K μ H t y := by
  cases r with
  | nil => cases h
  | cons a r =>
    cases r with
    | nil => cases h
    | cons b r =>
      cases r with
      | nil => cases h
      | cons c r =>
        cases r with
        | nil => exact ⟨_, _, _, _, _, _, rfl, rfl, a, b, c⟩
        | cons _ _ => cases h
theorem snd_rng {as : E} (F : Fit G T C B k X Z Wx) (ih : Snd G T C B X Z Wx as) : Snd G T C B X Z Wx (.rng as) := by
  refine Snd.ofI rfl (fun x => and_false' _) rfl p_false ts_false rfl fun tg x h => ?_
  have h0 : (match callArgs x with
      | some (n, es) => glB Z.sc n && decide (n = "range") && G.bi n && (decide (es.length = 1) || decide (es.length = 2) || decide (es.length = 3)) && (chk G as Z).a es
      | none => false) = true := h
  cases hx : callArgs x with
  | none => rw [hx] at h0; exact ff h0
  | some q =>
    obtain ⟨n, es⟩ := q
    rw [hx] at h0
    obtain ⟨p, pos, rfl⟩ := callArgs_of hx
    simp only [Bool.and_eq_true, Bool.or_eq_true, decide_eq_true_iff] at h0
    obtain ⟨⟨⟨⟨h1, rfl⟩, h3⟩, h4⟩, h5⟩ := h0
    have hs := chk_stars G Z as h5
    match es, h4 with
    | [e], _ =>
      obtain ⟨s1, _⟩ := stars2 hs
      refine PI.imp (pi_range1 (glB_gl F h1) (F.bi _ h3) (ih.a [e] h5) (star_cons s1)) fun σ H Q ⟨μ, ρ, τ, rh, rs, g⟩ => ?_
      have g' : Got B (RJ B) Wx μ H (((ev T C as).a ρ τ).bind rngI) Q := g
      refine ⟨μ, ρ, τ, rh, rs, (Got.bndE (rel := RVsr B) g').imp fun vs H1 ⟨ws, τ1, μ1, l1, rh1, rv, g1, eq⟩ => ?_⟩
      have hl := chk_len as h5 eq
      have rv' : RVs B.K μ1 H1 ws vs := rv
      cases rv' with
      | nil => cases hl
      | cons a r =>
        cases r with
        | cons _ _ => cases hl
        | nil =>
          cases a with
          | int j =>
            have g2 : Got B (RJ B) Wx μ1 H1 (if -(2 ^ 62) ≤ j ∧ j < 2 ^ 62 then .ok ⟨[], (List.range j.toNat).map fun (i : Nat) => .int (0 + (i : Int))⟩ τ1 else .no) Q := g1
            split at g2
            · rename_i hc
              exact ⟨j, rfl, hc.1, hc.2, g2 μ1 H1 _ Le.refl rh1 rj_rng⟩
            · exact g2.elim
          | _ => exact False.elim g1
    | [e, f], _ =>
      obtain ⟨s1, s2⟩ := stars2 hs
      obtain ⟨s3, _⟩ := stars2 s2
      refine PI.imp (pi_range2 (glB_gl F h1) (F.bi _ h3) (ih.a [e, f] h5) (by rw [star_cons s1, star_cons s3] <;> rfl) (star_cons s3)) fun σ H Q ⟨μ, ρ, τ, rh, rs, g⟩ => ?_
      have g' : Got B (RJ B) Wx μ H (((ev T C as).a ρ τ).bind rngI) Q := g
      refine ⟨μ, ρ, τ, rh, rs, (Got.bndE (rel := RVsr B) g').imp fun vs H1 ⟨ws, τ1, μ1, l1, rh1, rv, g1, eq⟩ => ?_⟩
      have hl := chk_len as h5 eq
      have rv' : RVs B.K μ1 H1 ws vs := rv
      cases rv' with
      | nil => cases hl
      | cons a r =>
        cases r with
        | nil => cases hl
        | cons b r =>
          cases r with
          | cons _ _ => cases hl
          | nil =>
            cases a with
            | int i =>
              cases b with
              | int j =>
                have g2 : Got B (RJ B) Wx μ1 H1 (if -(2 ^ 62) ≤ i ∧ i < 2 ^ 62 ∧ -(2 ^ 62) ≤ j ∧ j < 2 ^ 62 then .ok ⟨[], (List.range (j - i).toNat).map fun (k : Nat) => .int (i + (k : Int))⟩ τ1 else .no) Q := g1
                split at g2
                · rename_i hc
                  exact ⟨i, j, rfl, hc, g2 μ1 H1 _ Le.refl rh1 rj_rng⟩
                · exact g2.elim
              | _ => exact False.elim g1
            | _ => cases b <;> exact False.elim g1
    | [e, f, d], _ =>
      obtain ⟨s1, s2⟩ := stars2 hs
      refine PI.imp (pi_range3 (glB_gl F h1) (F.bi _ h3) (ih.a [e, f, d] h5) (star_cons s1) (star_plain s2)) fun σ H Q ⟨μ, ρ, τ, rh, rs, g⟩ => ?_
      have g' : Got B (RJ B) Wx μ H (((ev T C as).a ρ τ).bind rngI) Q := g
      refine ⟨μ, ρ, τ, rh, rs, (Got.bndE (rel := RVsr B) g').imp fun vs H1 ⟨ws, τ1, μ1, l1, rh1, rv, g1, eq⟩ => ?_⟩
      have hl := chk_len as h5 eq
      obtain ⟨w, u, t, v, x, y, rfl, rfl, r1, r2, r3⟩ := rvs3 rv hl
      cases r1 with
      | int i =>
        cases r2 with
        | int j =>
          cases r3 with
          | int c =>
            have g2 : Got B (RJ B) Wx μ1 H1 (if -(2 ^ 62) ≤ i ∧ i < 2 ^ 62 ∧ -(2 ^ 62) ≤ j ∧ j < 2 ^ 62 ∧ c = -1 then .ok ⟨[], (List.range (i - j).toNat).map fun (k : Nat) => .int (i - (k : Int))⟩ τ1 else .no) Q := g1
            split at g2
            · rename_i hc
              obtain ⟨c1, c2, c3, c4, rfl⟩ := hc
              exact ⟨i, j, -1, _, rfl, .neg c1 c2 c3 c4, g2 μ1 H1 _ Le.refl rh1 rj_rngD⟩
            · exact g2.elim
          | _ => exact False.elim g1
        | _ => cases r3 <;> exact False.elim g1
      | _ => cases r2 <;> cases r3 <;> exact False.elim g1
theorem tup_of {tg : Expr} (h : isTupT tg = true) : ∃ es j pos, tg = .Tuple es j pos := by
  cases tg with
  | Tuple es j pos => exact ⟨es, j, pos, rfl⟩
  | _ => exact ff h
theorem rv_keys {K : PySem.W.Frag} {μ : List Addr} {H : Hp} : ∀ {ws : List W} {vs : List V} {ks : List Key}, RVs K μ H ws vs → mapO keyOf ws = some ks → vs = ks.map kV
  | _, _, _, .nil, h => by cases h; rfl
  | w :: ws, v :: vs, ks, .cons a r, h => by
    rw [mapO] at h
    cases e1 : keyOf w with
    | none => rw [e1] at h; cases h
    | some k0 =>
      cases e2 : mapO keyOf ws with
      | none => rw [e1, e2] at h; cases h
      | some kr =>
        rw [e1, e2] at h
        cases h
        have := rv_keys r e2
        subst this
        cases a with
        | int i => cases e1; rfl
        | str x => cases e1; rfl
        | _ => cases e1
theorem snd_dzip {as : E} (F : Fit G T C B k X Z Wx) (ih : Snd G T C B X Z Wx as) : Snd G T C B X Z Wx (.dzip as) := by
  refine Snd.ofE F.K (fun x h => ?_) rfl rfl rfl rfl rfl (fun _ _ => rfl) (fun _ _ => rfl) rfl
  have h0 : (match callArgs x with
      | some (n, [y]) => match callArgs y with
        | some (m, es) => glB Z.sc n && decide (n = "dict") && G.bi n && glB Z.sc m && decide (m = "zip") && G.bi m && decide (es.length = 2) && (chk G as Z).a es
        | none => false
      | _ => false) = true := h
  cases hx : callArgs x with
  | none => rw [hx] at h0; exact ff h0
  | some q =>
    obtain ⟨n, ys⟩ := q
    rw [hx] at h0
    obtain ⟨p0, pos, rfl⟩ := callArgs_of hx
    obtain ⟨y, rfl⟩ : ∃ y, ys = [y] := by
      cases ys with
      | nil => exact ff h0
      | cons y yr =>
        cases yr with
        | nil => exact ⟨y, rfl⟩
        | cons _ _ => exact ff h0
    · have h7 : (match callArgs y with
        | some (m, es) => glB Z.sc n && decide (n = "dict") && G.bi n && glB Z.sc m && decide (m = "zip") && G.bi m && decide (es.length = 2) && (chk G as Z).a es
        | none => false) = true := h0
      clear h0 h
      cases hy : callArgs y with
      | none => rw [hy] at h7; exact ff h7
      | some q2 =>
        obtain ⟨m, es⟩ := q2
        rw [hy] at h7
        have h0 : (glB Z.sc n && decide (n = "dict") && G.bi n && glB Z.sc m && decide (m = "zip") && G.bi m && decide (es.length = 2) && (chk G as Z).a es) = true := h7
        obtain ⟨p, pos2, rfl⟩ := callArgs_of hy
        simp only [Bool.and_eq_true, decide_eq_true_iff] at h0
        obtain ⟨⟨⟨⟨⟨⟨⟨h1, rfl⟩, h2⟩, h3⟩, rfl⟩, h4⟩, h5⟩, h6⟩ := h0
        have hs := chk_stars G Z as h6
        match es, h5 with
        | [e, f], _ =>
          obtain ⟨s1, s2⟩ := stars2 hs
          refine PE.imp (pe_dzip F.calm (glB_gl F h1) (F.bi _ h2) (glB_gl F h3) (F.bi _ h4) (ih.a [e, f] h6) rfl rfl (star_cons s1) (star_plain s2)) fun σ H Q ⟨μ, ρ, τ, rh, rs, g⟩ => ?_
          have g' : Got B (RVr B) Wx μ H (((ev T C as).a ρ τ).bind dzipR) Q := g
          refine ⟨μ, ρ, τ, rh, rs, (Got.bndE (rel := RVsr B) g').imp fun vs H1 ⟨ws, τ1, μ1, l1, rh1, rv, g1, eq⟩ => ?_⟩
          have hl := chk_len as h6 eq
          obtain ⟨w, u, v, x, rfl, rfl, r1, r2⟩ := rvs2 rv hl
          cases e1 : srcW τ1 w with
          | none =>
            have e3 : dzipR [w, u] τ1 = .no := by unfold dzipR; simp only [e1]
            rw [e3] at g1; exact g1.elim
          | some p1 =>
            cases e2 : srcW τ1 u with
            | none =>
              have e3 : dzipR [w, u] τ1 = .no := by unfold dzipR; simp only [e1, e2]
              rw [e3] at g1; exact g1.elim
            | some p2 =>
              cases e4 : mapO keyOf p1.2 with
              | none =>
                have e3 : dzipR [w, u] τ1 = .no := by unfold dzipR; simp only [e1, e2, e4]
                rw [e3] at g1; exact g1.elim
              | some ks =>
                have e3 : dzipR [w, u] τ1 = .ok (.ref τ1.length) (τ1 ++ [.dic (mergeW [] (ks.zip p2.2))]) := by unfold dzipR; simp only [e1, e2, e4]
                rw [e3] at g1
                obtain ⟨q1, rfl, i1, o1⟩ := src_rv rh1 r1 e1
                obtain ⟨q2, rfl, i2, o2⟩ := src_rv rh1 r2 e2
                obtain ⟨vs1, a1, rr1⟩ := i1.now Le.refl rh1 o1
                obtain ⟨vs2, a2, rr2⟩ := i2.now Le.refl rh1 o2
                have hk := rv_keys rr1 e4
                subst hk
                refine ⟨q1, q2, ks, vs2, rfl, by rw [F.K]; exact a1, by rw [F.K]; exact a2, fun pp hp => ?_⟩
                have l0 : Le B.K μ1 H1 (μ1 ++ [pp]) (upd H1 pp (.dK (L2.mergeK [] (ks.zip vs2)))) := ⟨⟨[pp], rfl⟩, tup_upd (noTup_none hp)⟩
                obtain ⟨rh', l'⟩ := rh1.push (o := .dic (mergeW [] (ks.zip p2.2))) (ho := .dK (L2.mergeK [] (ks.zip vs2))) hp ⟨_, upd_same, (RP.merge (RP.zip ks rr2) .nil).le l0⟩
                exact g1 _ _ _ l' rh' (.ref (by rw [← rh1.len]; simp))
theorem snd_zip {as : E} (F : Fit G T C B k X Z Wx) (ih : Snd G T C B X Z Wx as) : Snd G T C B X Z Wx (.zip as) := by
  refine Snd.ofI rfl (fun x => and_false' _) rfl p_false ts_false rfl fun tg x h => ?_
  have h0 : (match callArgs x with
      | some (n, es) => isTupT tg && glB Z.sc n && decide (n = "zip") && G.bi n && (decide (es.length = 2) || decide (es.length = 3)) && (chk G as Z).a es
      | none => false) = true := h
  cases hx : callArgs x with
  | none => rw [hx] at h0; exact ff h0
  | some q =>
    obtain ⟨n, es⟩ := q
    rw [hx] at h0
    obtain ⟨p, pos, rfl⟩ := callArgs_of hx
    simp only [Bool.and_eq_true, Bool.or_eq_true, decide_eq_true_iff] at h0
    obtain ⟨⟨⟨⟨⟨ht, h1⟩, rfl⟩, h3⟩, h4⟩, h5⟩ := h0
    obtain ⟨elts, kk, tpos, rfl⟩ := tup_of ht
    have hs := chk_stars G Z as h5
    match es, h4 with
    | [e, f], _ =>
      obtain ⟨s1, s2⟩ := stars2 hs
      refine PI.imp (pi_zipS2 (glB_gl F h1) (F.bi _ h3) (ih.a [e, f] h5) (star_cons s1) (star_plain s2)) fun σ H Q ⟨μ, ρ, τ, rh, rs, g⟩ => ?_
      have g' : Got B (RJ B) Wx μ H (((ev T C as).a ρ τ).bind zipI) Q := g
      refine ⟨μ, ρ, τ, rh, rs, (Got.bndE (rel := RVsr B) g').imp fun vs H1 ⟨ws, τ1, μ1, l1, rh1, rv, g1, eq⟩ => ?_⟩
      have hl := chk_len as h5 eq
      obtain ⟨w, u, v, x, rfl, rfl, r1, r2⟩ := rvs2 rv hl
      cases e1 : srcW τ1 w with
      | none =>
        have e3 : zipI [w, u] τ1 = .no := by unfold zipI; simp only [e1]
        rw [e3] at g1; exact g1.elim
      | some p1 =>
        cases e2 : srcW τ1 u with
        | none =>
          have e3 : zipI [w, u] τ1 = .no := by unfold zipI; simp only [e1, e2]
          rw [e3] at g1; exact g1.elim
        | some p2 =>
          have e3 : zipI [w, u] τ1 = .ok ⟨p1.1 ++ p2.1, (p1.2.zip p2.2).map fun p => .tup [p.1, p.2]⟩ τ1 := by unfold zipI; simp only [e1, e2]
          rw [e3] at g1
          obtain ⟨q1, rfl, i1, o1⟩ := src_rv rh1 r1 e1
          obtain ⟨q2, rfl, i2, o2⟩ := src_rv rh1 r2 e2
          obtain ⟨vs1, a1, _⟩ := i1.now Le.refl rh1 o1
          obtain ⟨vs2, a2, _⟩ := i2.now Le.refl rh1 o2
          refine ⟨q1, q2, vs1, vs2, rfl, by rw [F.K]; exact a1, by rw [F.K]; exact a2, ?_⟩
          rw [F.K]
          exact g1 μ1 H1 _ Le.refl rh1 (rj_zipS2 i1 i2)
    | [e, f, d], _ =>
      obtain ⟨s1, s2⟩ := stars2 hs
      refine PI.imp (pi_zipS3 (glB_gl F h1) (F.bi _ h3) (ih.a [e, f, d] h5) (star_cons s1) (star_plain s2)) fun σ H Q ⟨μ, ρ, τ, rh, rs, g⟩ => ?_
      have g' : Got B (RJ B) Wx μ H (((ev T C as).a ρ τ).bind zipI) Q := g
      refine ⟨μ, ρ, τ, rh, rs, (Got.bndE (rel := RVsr B) g').imp fun vs H1 ⟨ws, τ1, μ1, l1, rh1, rv, g1, eq⟩ => ?_⟩
      have hl := chk_len as h5 eq
      obtain ⟨w, u, t, v, x, y, rfl, rfl, r1, r2, r3⟩ := rvs3 rv hl
      cases e1 : srcW τ1 w with
      | none =>
        have e3 : zipI [w, u, t] τ1 = .no := by unfold zipI; simp only [e1]
        rw [e3] at g1; exact g1.elim
      | some p1 =>
        cases e2 : srcW τ1 u with
        | none =>
          have e3 : zipI [w, u, t] τ1 = .no := by unfold zipI; simp only [e1, e2]
          rw [e3] at g1; exact g1.elim
        | some p2 =>
          cases e4 : srcW τ1 t with
          | none =>
            have e3 : zipI [w, u, t] τ1 = .no := by unfold zipI; simp only [e1, e2, e4]
            rw [e3] at g1; exact g1.elim
          | some p3 =>
            have e3 : zipI [w, u, t] τ1 = .ok ⟨p1.1 ++ (p2.1 ++ p3.1), (p1.2.zip (p2.2.zip p3.2)).map fun p => .tup [p.1, p.2.1, p.2.2]⟩ τ1 := by unfold zipI; simp only [e1, e2, e4]
            rw [e3] at g1
            obtain ⟨q1, rfl, i1, o1⟩ := src_rv rh1 r1 e1
            obtain ⟨q2, rfl, i2, o2⟩ := src_rv rh1 r2 e2
            obtain ⟨q3, rfl, i3, o3⟩ := src_rv rh1 r3 e4
            obtain ⟨vs1, a1, _⟩ := i1.now Le.refl rh1 o1
            obtain ⟨vs2, a2, _⟩ := i2.now Le.refl rh1 o2
            obtain ⟨vs3, a3, _⟩ := i3.now Le.refl rh1 o3
            refine ⟨q1, q2, q3, vs1, vs2, vs3, rfl, by rw [F.K]; exact a1, by rw [F.K]; exact a2, by rw [F.K]; exact a3, ?_⟩
            rw [F.K]
            exact g1 μ1 H1 _ Le.refl rh1 (rj_zipS3 i1 i2 i3)
theorem snd_enum {a : E} (F : Fit G T C B k X Z Wx) (iha : Snd G T C B X Z Wx a) : Snd G T C B X Z Wx (.enum a) := by
  refine Snd.ofI rfl (fun x => and_false' _) rfl p_false ts_false rfl fun tg x h => ?_
  have h0 : (match callArgs x with
      | some (n, es) => isTupT tg && glB Z.sc n && decide (n = "enumerate") && G.bi n && (match es with
        | [u] => noStar u && (chk G a Z).e u
        | _ => false)
      | none => false) = true := h
  cases hx : callArgs x with
  | none => rw [hx] at h0; exact ff h0
  | some q =>
    obtain ⟨n, es⟩ := q
    rw [hx] at h0
    obtain ⟨p, pos, rfl⟩ := callArgs_of hx
    simp only [Bool.and_eq_true, decide_eq_true_iff] at h0
    obtain ⟨⟨⟨⟨ht, h1⟩, rfl⟩, h3⟩, h4⟩ := h0
    obtain ⟨elts, kk, tpos, rfl⟩ := tup_of ht
    match es, h4 with
    | [u], h4 =>
      have h4' : (noStar u && (chk G a Z).e u) = true := h4
      rw [Bool.and_eq_true] at h4'
      refine PI.imp (pi_enumS (glB_gl F h1) (F.bi _ h3) (iha.e u h4'.2) (star_cons h4'.1)) fun σ H Q ⟨μ, ρ, τ, rh, rs, g⟩ => ?_
      have g' : Got B (RJ B) Wx μ H (((ev T C a).e ρ τ).bind enumI) Q := g
      refine ⟨μ, ρ, τ, rh, rs, (Got.bnd (rel := RVr B) g').imp fun v H1 ⟨w, τ1, μ1, l1, rh1, rv, g1⟩ => ?_⟩
      cases e1 : srcW τ1 w with
      | none =>
        have e3 : enumI w τ1 = .no := by unfold enumI; simp only [e1]
        rw [e3] at g1; exact g1.elim
      | some p1 =>
        have e3 : enumI w τ1 = .ok ⟨p1.1, (p1.2.zipIdx).map fun p => .tup [.int (p.2 : Int), p.1]⟩ τ1 := by unfold enumI; simp only [e1]
        rw [e3] at g1
        obtain ⟨q1, rfl, i1, o1⟩ := src_rv rh1 rv e1
        obtain ⟨vs1, a1, _⟩ := i1.now Le.refl rh1 o1
        refine ⟨q1, vs1, rfl, by rw [F.K]; exact a1, ?_⟩
        rw [F.K]
        exact g1 μ1 H1 _ Le.refl rh1 (rj_enumS i1)
theorem snd_rev {a : E} (F : Fit G T C B k X Z Wx) (iha : Snd G T C B X Z Wx a) : Snd G T C B X Z Wx (.rev a) := by
  refine Snd.ofI rfl (fun x => and_false' _) rfl p_false ts_false rfl fun tg x h => ?_
  have h0 : (match callArgs x with
      | some (n, es) => glB Z.sc n && decide (n = "reversed") && G.bi n && (match es with
        | [u] => noStar u && (chk G a Z).e u
        | _ => false)
      | none => false) = true := h
  cases hx : callArgs x with
  | none => rw [hx] at h0; exact ff h0
  | some q =>
    obtain ⟨n, es⟩ := q
    rw [hx] at h0
    obtain ⟨p, pos, rfl⟩ := callArgs_of hx
    simp only [Bool.and_eq_true, decide_eq_true_iff] at h0
    obtain ⟨⟨⟨h1, rfl⟩, h3⟩, h4⟩ := h0
    match es, h4 with
    | [u], h4 =>
      have h4' : (noStar u && (chk G a Z).e u) = true := h4
      rw [Bool.and_eq_true] at h4'
      refine PI.imp (RT.pi_revA (glB_gl F h1) (F.bi _ h3) (iha.e u h4'.2) (star_cons h4'.1)) fun σ H Q ⟨μ, ρ, τ, rh, rs, g⟩ => ?_
      have g' : Got B (RJ B) Wx μ H (((ev T C a).e ρ τ).bind revI) Q := g
      refine ⟨μ, ρ, τ, rh, rs, (Got.bnd (rel := RVr B) g').imp fun v H1 ⟨w, τ1, μ1, l1, rh1, rv, g1⟩ => ?_⟩
      have rv' : RV B.K μ1 H1 w v := rv
      cases rv' with
      | @tup a1 vs xs s r =>
        have g2 : Got B (RJ B) Wx μ1 H1 (.ok ⟨[], xs.reverse⟩ τ1) Q := g1
        have e : vs.length = xs.length := r.length.symm
        refine ⟨a1, vs, rfl, .inr ⟨by rw [F.K]; exact s, ?_⟩⟩
        rw [F.K, e]
        exact g2 μ1 H1 _ Le.refl rh1 (rj_revT s r)
      | @ref n1 a1 ha1 =>
        cases e1 : seqOf τ1 n1 with
        | none =>
          have e3 : revI (.ref n1) τ1 = .no := by unfold revI srcW; simp only [e1, Option.map_none]
          rw [e3] at g1; exact g1.elim
        | some xs =>
          have e3 : revI (.ref n1) τ1 = .ok ⟨[(n1, xs)], xs.reverse⟩ τ1 := by unfold revI srcW; simp only [e1, Option.map_some]
          rw [e3] at g1
          obtain ⟨b1, vs1, hb1, q1, r1⟩ := rh1.seq e1
          obtain rfl := Option.some.inj (hb1.symm.trans ha1)
          have e : vs1.length = xs.length := r1.length.symm
          refine ⟨b1, vs1, rfl, .inl ⟨by rw [F.K]; exact q1, ?_⟩⟩
          rw [F.K, e]
          exact g1 μ1 H1 _ Le.refl rh1 (rj_revL hb1)
      | _ => exact False.elim g1

theorem dget_rv {μ : List Addr} {H : Hp} {τ : Sto} {w y z r : W} {v u t : V} (rh : RH B.K B.Cl μ τ H) (rw_ : RV B.K μ H w v) (ry : RV B.K μ H y u) (rz : RV B.K μ H z t) (h : dgetW τ w y z = some r) :
    ∃ a o, v = .ref a ∧ DGet H a u o ∧ RV B.K μ H r (o.getD t) := by
  unfold dgetW at h
  cases rw_ with
  | @ref n a ha =>
    dsimp only at h
    cases e : τ[n]? with
    | none => rw [e] at h; cases h
    | some ob =>
      rw [e] at h
      obtain ⟨a', ha', ho⟩ := rh.at_ e
      obtain rfl := Option.some.inj (ha'.symm.trans ha)
      cases ob with
      | dic kvs =>
        cases hk : keyOf y with
        | none => rw [hk] at h; cases h
        | some key =>
          rw [hk] at h
          cases h
          obtain ⟨ps, h0, rp⟩ := ho
          refine ⟨a', _, rfl, .inl ⟨ps, key, .inl h0, key_rv ry hk, rfl⟩, ?_⟩
          rcases rp.get key with ⟨z1, z2⟩ | ⟨w, v', z1, z2, z3⟩
          · rw [z1, z2]; exact rz
          · rw [z1, z2]; exact z3
      | _ => cases h
  | _ => cases h
theorem isDic_rv {μ : List Addr} {H : Hp} {τ : Sto} {w : W} {v : V} (rh : RH B.K B.Cl μ τ H) (r : RV B.K μ H w v) (h : isDic τ w = true) : ∃ a, v = .ref a ∧ IsD H a := by
  cases r with
  | @ref n a ha =>
    unfold isDic at h
    dsimp only at h
    cases e : τ[n]? with
    | none => rw [e] at h; exact ff h
    | some ob =>
      rw [e] at h
      obtain ⟨a', ha', ho⟩ := rh.at_ e
      obtain rfl := Option.some.inj (ha'.symm.trans ha)
      cases ob with
      | dic kvs =>
        obtain ⟨ps, h0, rp⟩ := ho
        exact ⟨a', rfl, .inl ⟨ps, .inl h0⟩⟩
      | _ => exact ff h
  | _ => exact ff h
theorem item_every {prog : Program} {w : World} {A : Around} {E : Value → Shared → Prop} {s : Shared} {t sl : Addr} {items : Array Value} {vl vs : Value} {lo : Option Int} {l : Nat} {Q : Value → Shared → Prop} (pt : IsTup s.heap t items) (hs : s.heap.IsSliceOf sl vl .none vs) (pl : IsPart vl lo) (ps : IsPart vs (some 2)) (hl : (lo = none ∧ l = 0) ∨ (lo = some 1 ∧ l = min 1 items.size))
    (h : Q (.ref s.heap.objs.size) { s with heap := s.heap.push { cls := .type "tuple", data := .seq (everyO (items.toList.drop l)).toArray } }) (hsz : items.size ≤ sizeLine) : wpAny (model prog w) A (getItem (.ref t) (.ref sl)) Q E s := by
  have hTs : s.TypeIs (.ref sl) "slice" := by obtain ⟨o1, e1, e2, _⟩ := id hs; exact ⟨o1, e1, e2⟩
  have hso : sizeOk (.seq (everyO (items.toList.drop l)).toArray) := by
    show (everyO (items.toList.drop l)).toArray.size ≤ sizeLine
    rw [List.size_toArray, everyO_len, List.length_drop, Array.length_toList]
    omega
  unfold getItem
  try with_reducible apply wpAny_holding
  first | (apply wpAny_bind; apply wpAny_pure) | skip
  apply wpAny_bind; refine wpAny_sequenceKey pt.typeIs (by decide) ?_
  apply wpAny_bind; refine wpAny_callSpecial?_slot (name := Str.ofString "__getitem__") pt.typeIs PyProof.Rows.slot_tuple_getitem (wpAny_call_entry PyProof.Rows.slot_tuple_getitem pt.typeIs entry_tuple_getitem ?_ (args_tuple_getitem _ _))
  show wpAny _ _ (Builtin.Tuple.tupleItemsOf (.ref t) >>= _) _ _ s
  apply wpAny_bind; refine tupleItemsOf_ pt ?_
  apply wpAny_bind; refine wpAny_typeOf hTs ?_
  rw [if_pos (by decide)]
  apply wpAny_bind; refine sliceApplied_two hs pl ps hl ?_
  show wpAny _ _ (if (((l : Nat) : Int) == 0 && (2 : Int) == 1 && ((items.size - l + 1) / 2) == items.size) = true then _ else _) _ _ s
  rw [if_neg (by simp), every_pick items l _ rfl]
  have fin : wpAny (model prog w) A.in1 (Builtin.Tuple.tupleExact (everyO (items.toList.drop l)).toArray) (fun v s' => Q v s') E s ∨ True := .inr trivial
  first
    | exact wpAny_bind (m := Builtin.Tuple.tupleExact _) (wpAny_newObj_type (wpAny_pure ⟨_, rfl, wpAny_pure h⟩) hso)
    | exact wpAny_bind (wpAny_bind (m := Builtin.Tuple.tupleExact _) (wpAny_newObj_type (wpAny_pure ⟨_, rfl, wpAny_pure h⟩) hso))
    | exact wpAny_bind (m := Builtin.Tuple.tupleExact _) (wpAny_newObj_type (wpAny_bind (wpAny_pure (wpAny_pure ⟨_, rfl, wpAny_pure h⟩))) hso)
    | exact wpAny_bind (wpAny_bind (m := Builtin.Tuple.tupleExact _) (wpAny_newObj_type (wpAny_pure (wpAny_pure ⟨_, rfl, wpAny_pure h⟩)) hso))
def tEv (K : PySem.W.Frag) (l : Nat) (te : TE) : TE := fun σ H Q => te σ H fun x H1 => ∃ t xs, x = .ref t ∧ SqT K H1 t xs ∧ ∀ p, H1 p = none → Q (.ref p) (upd H1 p (.tup (everyO (xs.drop l))))
theorem drop_min {α : Type} (xs : List α) : xs.drop (min 1 xs.length) = xs.drop 1 := by cases xs <;> simp
theorem ev_core {pins : List (Addr × Obj)} {s s4 : Shared} {σ : L2.St} {H H1 : Hp} {Q : VK} {t : Addr} {xs : List V} {vl vs : Value} {lo : Option Int} {l : Nat} (I4 : Inv X pins σ H1 s4) (hx : SqT X.K H1 t xs) (pl : IsPart vl lo) (ps : IsPart vs (some 2)) (hl : (lo = none ∧ l = 0) ∨ (lo = some 1 ∧ l = 1))
    (q : ∀ p, H1 p = none → Q (.ref p) (upd H1 p (.tup (everyO (xs.drop l))))) :
    wpAny (model X.prog X.w) X.A (getItem (.ref t) (.ref s4.heap.objs.size)) (EP X pins σ Q) X.xe { s4 with heap := s4.heap.push { cls := .type "slice", data := .fields #[vl, .none, vs] } } := by
  have I5 : Inv X pins σ H1 { s4 with heap := s4.heap.push { cls := .type "slice", data := .fields #[vl, .none, vs] } } := I4.kept (t' := s4.toks) fun b ob q => Heap.get?_push_of_some _ q
  obtain ⟨its, r, ht, hz⟩ := I5.tuple hx
  have hlen := r.length
  have hl' : (lo = none ∧ (if l = 0 then 0 else min 1 its.toArray.size) = 0) ∨ (lo = some 1 ∧ (if l = 0 then 0 else min 1 its.toArray.size) = min 1 its.toArray.size) := by
    rcases hl with ⟨a, b⟩ | ⟨a, b⟩
    · exact .inl ⟨a, by rw [if_pos b]⟩
    · exact .inr ⟨a, by rw [if_neg (by omega)]⟩
  have he : its.toArray.toList.drop (if l = 0 then 0 else min 1 its.toArray.size) = its.drop l := by
    rcases hl with ⟨_, b⟩ | ⟨_, b⟩
    · rw [if_pos b, b]
    · rw [if_neg (by omega), b]
      exact drop_min its
  refine item_every (l := if l = 0 then 0 else min 1 its.toArray.size) ht (Heap.IsSliceOf.new _ vl .none vs) pl ps hl' ?_ (by rw [List.size_toArray]; omega)
  rw [he]
  refine ⟨.ref _, _, I5.laid (t' := s4.toks) (o := .tup (everyO (xs.drop l))) (fun b ob q => Heap.get?_push_of_some _ q) (Nat.le_refl _) ?_, rfl, q _ (I5.hok.fresh (Nat.le_refl _))⟩
  have rd : ∀ (n : Nat) {xs : List V} {us : List Value}, Vals xs us → Vals (xs.drop n) (us.drop n) := by
    intro n
    induction n with
    | zero => intro xs us r; exact r
    | succ n ih =>
      intro xs us r
      cases r with
      | nil => exact .nil
      | cons a b => exact ih b
  refine ⟨by rw [everyO_len, List.length_drop]; omega, _, Vals.every (rd l r), ⟨_, Heap.get?_push_size _ rfl, rfl, _, rfl⟩⟩
theorem part_two {s : Shared} {pins : List (Addr × Obj)} {σ : L2.St} {H : Hp} {a : Nat} {b : Pos} : PO X (some (.Constant (.int 2) a b)) (tPart (tC (.int 2))) := po_some pe_int
theorem pe_every0 {e : Expr} {te : TE} {k : Nat} {p1 p2 pos : Pos} (he : PE X e te) : PE X (.Subscript e (.Slice none none (some (.Constant (.int 2) k p1)) p2) pos) (tEv X.K 0 te) := by
  refine ⟨fun pins s σ H Q I h => ?_⟩
  refine Subscript_ (thn (he.run pins s σ H _ I h) fun v s1 ⟨x, H1, I1, r1, t, xs, ex, hx, q⟩ => ?_)
  subst ex
  cases r1
  have h2 : PO X (some (.Constant (.int 2) k p1)) (tPart (tC (.int 2))) := po_some pe_int
  refine wpAny_Slice (thn (po_none.run pins s1 σ H1 (fun o H2 => o = none ∧ H2 = H1) I1 ⟨rfl, rfl⟩) fun vl s2 ⟨l, H2, I2, pl, el, e2⟩ => ?_)
  subst el e2
  refine thn (po_none.run pins s2 σ H2 (fun o H3 => o = none ∧ H3 = H2) I2 ⟨rfl, rfl⟩) fun vu s3 ⟨u, H3, I3, pu, eu, e3⟩ => ?_
  subst eu e3
  refine thn (h2.run pins s3 σ H3 (fun o H4 => o = some 2 ∧ H4 = H3) I3 ⟨2, rfl, rfl, rfl⟩) fun vs s4 ⟨o, H4, I4, ps, eo, e4⟩ => ?_
  subst eo e4
  have vn : vu = .none := by cases pu; rfl
  subst vn
  have I5 : Inv X pins σ H4 { s4 with heap := s4.heap.push { cls := .type "slice", data := .fields #[vl, .none, vs] } } := I4.kept (t' := s4.toks) fun b ob q => Heap.get?_push_of_some _ q
  obtain ⟨its, r, ht, hz⟩ := I5.tuple hx
  show wpAny (model X.prog X.w) X.A (subscriptTail e (.Slice none none (some (.Constant (.int 2) k p1)) p2) (.ref t) (.ref s4.heap.objs.size)) (EP X pins σ Q) X.xe { s4 with heap := s4.heap.push { cls := .type "slice", data := .fields #[vl, .none, vs] } }
  refine tail_any (ops := [.ref t, .ref s4.heap.objs.size]) ht.typeIs PyProof.Rows.slot_tuple_getitem.lookup ?_ (by with_unfolding_all rfl)
  exact ev_core (s := s) (H := H) I4 hx pl ps (.inl ⟨rfl, rfl⟩) q
theorem pe_every1 {e : Expr} {te : TE} {k k2 : Nat} {p1 p2 p3 pos : Pos} (he : PE X e te) : PE X (.Subscript e (.Slice (some (.Constant (.int 1) k2 p3)) none (some (.Constant (.int 2) k p1)) p2) pos) (tEv X.K 1 te) := by
  refine ⟨fun pins s σ H Q I h => ?_⟩
  refine Subscript_ (thn (he.run pins s σ H _ I h) fun v s1 ⟨x, H1, I1, r1, t, xs, ex, hx, q⟩ => ?_)
  subst ex
  cases r1
  have h1 : PO X (some (.Constant (.int 1) k2 p3)) (tPart (tC (.int 1))) := po_some pe_int
  have h2 : PO X (some (.Constant (.int 2) k p1)) (tPart (tC (.int 2))) := po_some pe_int
  refine wpAny_Slice (thn (h1.run pins s1 σ H1 (fun o H2 => o = some 1 ∧ H2 = H1) I1 ⟨1, rfl, rfl, rfl⟩) fun vl s2 ⟨l, H2, I2, pl, el, e2⟩ => ?_)
  subst el e2
  refine thn (po_none.run pins s2 σ H2 (fun o H3 => o = none ∧ H3 = H2) I2 ⟨rfl, rfl⟩) fun vu s3 ⟨u, H3, I3, pu, eu, e3⟩ => ?_
  subst eu e3
  refine thn (h2.run pins s3 σ H3 (fun o H4 => o = some 2 ∧ H4 = H3) I3 ⟨2, rfl, rfl, rfl⟩) fun vs s4 ⟨o, H4, I4, ps, eo, e4⟩ => ?_
  subst eo e4
  have vn : vu = .none := by cases pu; rfl
  subst vn
  have I5 : Inv X pins σ H4 { s4 with heap := s4.heap.push { cls := .type "slice", data := .fields #[vl, .none, vs] } } := I4.kept (t' := s4.toks) fun b ob q => Heap.get?_push_of_some _ q
  obtain ⟨its, r, ht, hz⟩ := I5.tuple hx
  show wpAny (model X.prog X.w) X.A (subscriptTail e (.Slice (some (.Constant (.int 1) k2 p3)) none (some (.Constant (.int 2) k p1)) p2) (.ref t) (.ref s4.heap.objs.size)) (EP X pins σ Q) X.xe { s4 with heap := s4.heap.push { cls := .type "slice", data := .fields #[vl, .none, vs] } }
  refine tail_any (ops := [.ref t, .ref s4.heap.objs.size]) ht.typeIs PyProof.Rows.slot_tuple_getitem.lookup ?_ (by with_unfolding_all rfl)
  exact ev_core (s := s) (H := H) I4 hx pl ps (.inr ⟨rfl, rfl⟩) q
theorem every_imp {lo : Nat} {a : E} (hK : X.K = B.K) {σ : L2.St} {H : Hp} {Q : VK} (h : tE T C B Wx (.every lo a) σ H Q) : tEv X.K lo (tE T C B Wx a) σ H Q := by
  obtain ⟨μ, ρ, τ, rh, rs, g⟩ := h
  have g' : Got B (RVr B) Wx μ H (((ev T C a).e ρ τ).bind (everyW lo)) Q := g
  refine ⟨μ, ρ, τ, rh, rs, (Got.bnd (rel := RVr B) g').imp fun v H1 ⟨w, τ1, μ1, l1, rh1, rv, g1⟩ => ?_⟩
  have rv' : RV B.K μ1 H1 w v := rv
  cases rv' with
  | @tup t vs ws st r =>
    have g2 : Got B (RVr B) Wx μ1 H1 (.ok (.tup (everyO (ws.drop lo))) τ1) Q := g1
    refine ⟨t, vs, rfl, by rw [hK]; exact st, fun p hp => ?_⟩
    obtain ⟨rh', l'⟩ := rh1.more (ho := .tup (everyO (vs.drop lo))) hp
    exact g2 μ1 _ _ l' rh' (.tup (.inl (.inl upd_same)) ((r.le l').drop lo).every)
  | _ => exact False.elim g1
theorem snd_every {lo : Nat} {a : E} (F : Fit G T C B k X Z Wx) (iha : Snd G T C B X Z Wx a) : Snd G T C B X Z Wx (.every lo a) := by
  refine Snd.ofE F.K (fun x h => ?_) rfl rfl rfl rfl rfl (fun _ _ => rfl) (fun _ _ => rfl) rfl
  have h0 : (match everyArgs x with
      | some (u, k) => decide (k = lo) && (chk G a Z).e u
      | none => false) = true := h
  cases hx : everyArgs x with
  | none => rw [hx] at h0; exact ff h0
  | some q =>
    obtain ⟨u, j⟩ := q
    rw [hx] at h0
    simp only [Bool.and_eq_true, decide_eq_true_iff] at h0
    obtain ⟨rfl, h1⟩ := h0
    rcases everyArgs_of hx with ⟨rfl, _, _, _, _, rfl⟩ | ⟨rfl, _, _, _, _, _, _, rfl⟩
    · exact PE.imp (pe_every0 (iha.e u h1)) fun σ H Q q => every_imp F.K q
    · exact PE.imp (pe_every1 (iha.e u h1)) fun σ H Q q => every_imp F.K q
theorem few_two {e f : Expr} {env : Env} {cp : Pos} (h : noStar e = true) (h2 : noStar f = true) : ((backTo cp (starEach [e, f] env)).all (fun x => !x.1) && (backToKw cp (keywordEach [] env)).all (fun x => x.1.isSome)
      && decide (([e, f] : List Expr).length + ([] : List Keyword).length + (if ([] : List Keyword).isEmpty then 0 else 1) < 30)) = true := by
  rw [star_all (by show (noStar e && (noStar f && true)) = true; rw [h, h2] <;> rfl)]
  rfl
theorem snd_dget {d kk : E} (F : Fit G T C B k X Z Wx) (ihd : Snd G T C B X Z Wx d) (ihk : Snd G T C B X Z Wx kk) : Snd G T C B X Z Wx (.dget d kk) := by
  refine Snd.ofE F.K (fun x h => ?_) rfl rfl rfl rfl rfl (fun _ _ => rfl) (fun _ _ => rfl) rfl
  have h0 : (match mArgs x with
      | some (u, n, ap, es, cp) => decide (n = "get") && plainBase u && (ap.endLine == cp.line) && (chk G d Z).e u && (match es with
        | [e] => noStar e && (chk G kk Z).e e
        | _ => false)
      | none => false) = true := h
  cases hx : mArgs x with
  | none => rw [hx] at h0; exact ff h0
  | some q =>
    obtain ⟨u, n, ap, es, cp⟩ := q
    rw [hx] at h0
    have ex := mArgs_of hx
    subst ex
    simp only [Bool.and_eq_true, decide_eq_true_iff] at h0
    obtain ⟨⟨⟨⟨rfl, h1⟩, h2⟩, h3⟩, h4⟩ := h0
    match es, h4 with
    | [e], h4 =>
      have h4' : (noStar e && (chk G kk Z).e e) = true := h4
      rw [Bool.and_eq_true] at h4'
      have hu : X.A.units + 1 < cLine := by have := F.room.units; omega
      refine PE.imp (pe_dget1 hu (ihd.e u h3) (ihk.e e h4'.2) ⟨base_plain h1, few_one h4'.1, h2, by rw [star_cons h4'.1] <;> rfl⟩) fun σ H Q ⟨μ, ρ, τ, rh, rs, g⟩ => ?_
      have g' : Got B (RVr B) Wx μ H (((ev T C d).e ρ τ).bind fun w τ1 => if isDic τ1 w = true then ((ev T C kk).e ρ τ1).bind fun y τ2 => lift τ2 (dgetW τ2 w y .non) else .no) Q := g
      refine ⟨μ, ρ, τ, rh, rs, (Got.bnd (rel := RVr B) g').imp fun v H1 ⟨w, τ1, μ1, l1, rh1, rv, g1⟩ => ?_⟩
      split at g1
      · rename_i hd
        obtain ⟨a, rfl, ia⟩ := isDic_rv rh1 rv hd
        refine ⟨a, rfl, ia, μ1, ρ, τ1, rh1, rs.le l1, (Got.bnd (rel := RVr B) g1).imp fun u2 H2 ⟨y, τ2, μ2, l2, rh2, ru, g2⟩ => ?_⟩
        cases e2 : dgetW τ2 w y .non with
        | none => rw [e2] at g2; exact g2.elim
        | some r =>
          rw [e2] at g2
          obtain ⟨a', o, q1, q2, q3⟩ := dget_rv rh2 (RV.le l2 rv) ru .non e2
          cases q1
          exact ⟨o, q2, got_val g2 rh2 q3⟩
      · exact g1.elim
theorem snd_dget2 {d kk x0 : E} (F : Fit G T C B k X Z Wx) (ihd : Snd G T C B X Z Wx d) (ihk : Snd G T C B X Z Wx kk) (ihx : Snd G T C B X Z Wx x0) : Snd G T C B X Z Wx (.dget2 d kk x0) := by
  refine Snd.ofE F.K (fun x h => ?_) rfl rfl rfl rfl rfl (fun _ _ => rfl) (fun _ _ => rfl) rfl
  have h0 : (match mArgs x with
      | some (u, n, ap, es, cp) => decide (n = "get") && plainBase u && (ap.endLine == cp.line) && (chk G d Z).e u && (match es with
        | [e, f] => noStar e && noStar f && (chk G kk Z).e e && (chk G x0 Z).e f
        | _ => false)
      | none => false) = true := h
  cases hx : mArgs x with
  | none => rw [hx] at h0; exact ff h0
  | some q =>
    obtain ⟨u, n, ap, es, cp⟩ := q
    rw [hx] at h0
    have ex := mArgs_of hx
    subst ex
    simp only [Bool.and_eq_true, decide_eq_true_iff] at h0
    obtain ⟨⟨⟨⟨rfl, h1⟩, h2⟩, h3⟩, h4⟩ := h0
    match es, h4 with
    | [e, f], h4 =>
      have h4' : (noStar e && noStar f && (chk G kk Z).e e && (chk G x0 Z).e f) = true := h4
      rw [Bool.and_eq_true, Bool.and_eq_true, Bool.and_eq_true] at h4'
      obtain ⟨⟨⟨s1, s2⟩, c1⟩, c2⟩ := h4'
      have hu : X.A.units + 1 < cLine := by have := F.room.units; omega
      refine PE.imp (pe_dget2 hu (ihd.e u h3) (ihk.e e c1) (ihx.e f c2) ⟨base_plain h1, few_two s1 s2, h2, by rw [star_cons s1, star_cons s2] <;> rfl⟩) fun σ H Q ⟨μ, ρ, τ, rh, rs, g⟩ => ?_
      have g' : Got B (RVr B) Wx μ H (((ev T C d).e ρ τ).bind fun w τ1 => if isDic τ1 w = true then ((ev T C kk).e ρ τ1).bind fun y τ2 => ((ev T C x0).e ρ τ2).bind fun z τ3 => lift τ3 (dgetW τ3 w y z) else .no) Q := g
      refine ⟨μ, ρ, τ, rh, rs, (Got.bnd (rel := RVr B) g').imp fun v H1 ⟨w, τ1, μ1, l1, rh1, rv, g1⟩ => ?_⟩
      split at g1
      · rename_i hd
        obtain ⟨a, rfl, ia⟩ := isDic_rv rh1 rv hd
        refine ⟨a, rfl, ia, μ1, ρ, τ1, rh1, rs.le l1, (Got.bnd (rel := RVr B) g1).imp fun u2 H2 ⟨y, τ2, μ2, l2, rh2, ru, g2⟩ => ?_⟩
        refine ⟨μ2, ρ, τ2, rh2, (rs.le l1).le l2, (Got.bnd (rel := RVr B) g2).imp fun u3 H3 ⟨z, τ3, μ3, l3, rh3, rz, g3⟩ => ?_⟩
        cases e2 : dgetW τ3 w y z with
        | none => rw [e2] at g3; exact g3.elim
        | some r =>
          rw [e2] at g3
          obtain ⟨a', o, q1, q2, q3⟩ := dget_rv rh3 (RV.le l3 (RV.le l2 rv)) (RV.le l3 ru) rz e2
          cases q1
          exact ⟨o, q2, got_val g3 rh3 q3⟩
      · exact g1.elim

/-! ### comprehensions -/
/-- what a comprehension's text is to have -/
theorem lc_parts {g : Mi.G} {it ts elt : E} {vs : List Nat} (F : Fit G T C B k X Z Wx) (ihi : Snd G T C B X Z Wx it)
    (iht : ∀ X' Z' Wx', Fit G T C B k X' Z' Wx' → Snd G T C B X' Z' Wx' ts) (ihe : ∀ X' Z' Wx', Fit G T C B k X' Z' Wx' → Snd G T C B X' Z' Wx' elt) {x : Expr} (h : (chk G (.lc g it ts elt vs) Z).e x = true) :
    ∃ el tg iter ifs scope pos, x = .ListComp el [⟨tg, iter, ifs, 0⟩] scope pos ∧ PI X tg iter (tI T C B Wx it) ∧ BlkOk X.N X.env.scope scope (ownOf Z.N vs) ∧ (ownOf Z.N vs).map (·.2) = vs ∧ gIn g vs = true ∧
      (∀ (s : Shared) (H : Hp) (Ca : Addr) (cl : List (Str × Addr)) (fp : List Addr), PG (X.blk s H scope (compEnvC scope cl Ca X.env) fp) tg (tgG X.K g)) ∧
      (∀ (s : Shared) (H : Hp) (Ca : Addr) (cl : List (Str × Addr)) (fp : List Addr), PTs (X.blk s H scope (compEnvC scope cl Ca X.env) fp) ifs (tT T C B (fun _ _ _ _ => False) ts)) ∧
      (∀ (s : Shared) (H : Hp) (Ca : Addr) (cl : List (Str × Addr)) (fp : List Addr), PE (X.blk s H scope (compEnvC scope cl Ca X.env) fp) el (tE T C B (fun _ _ _ _ => False) elt)) ∧
      ∀ v, foldedSetIterable iter X.env v = pure v := by
  have h0 : (match lcArgs x with
      | some (el, tg, iter, ifs, scope) => notSet iter && (chk G it Z).i tg iter && blkC Z.N Z.sc scope (ownOf Z.N vs) && decide ((ownOf Z.N vs).map (·.2) = vs) && gIn g vs &&
          chkG ⟨Z.N, relS scope Z.sc, scope.names⟩ g tg && (chk G ts ⟨Z.N, relS scope Z.sc, scope.names⟩).ts ifs && (chk G elt ⟨Z.N, relS scope Z.sc, scope.names⟩).e el
      | none => false) = true := h
  cases hx : lcArgs x with
  | none => rw [hx] at h0; exact ff h0
  | some q =>
    obtain ⟨el, tg, iter, ifs, scope⟩ := q
    rw [hx] at h0
    obtain ⟨pos, rfl⟩ := lcArgs_of hx
    simp only [Bool.and_eq_true, decide_eq_true_iff] at h0
    obtain ⟨⟨⟨⟨⟨⟨⟨h1, h2⟩, h3⟩, h4⟩, h5⟩, h6⟩, h7⟩, h8⟩ := h0
    refine ⟨el, tg, iter, ifs, scope, pos, rfl, ihi.i tg iter h2, ?_, h4, h5, fun s H Ca cl fp => ?_, fun s H Ca cl fp => ?_, fun s H Ca cl fp => ?_, fold_set h1⟩
    · rw [F.N, F.sc]
      exact blkOk_by h3
    · exact pg_any (fit_blk F s H scope Ca cl fp) h6
    · exact (iht _ _ _ (fit_blk F s H scope Ca cl fp)).ts ifs h7
    · exact (ihe _ _ _ (fit_blk F s H scope Ca cl fp)).e el h8
theorem lc_run {g : Mi.G} {it ts elt : E} {vs : List Nat} (hK : X.K = B.K) (hg : gIn g vs = true) {σ : L2.St} {H : Hp} {Q : VK} (h : tE T C B Wx (.lc g it ts elt vs) σ H Q) :
    tLc (tI T C B Wx it) (tgG X.K g) (tT T C B (fun _ _ _ _ => False) ts) (tE T C B (fun _ _ _ _ => False) elt) vs σ H Q := by
  obtain ⟨μ, ρ, τ, rh, rs, gg⟩ := h
  have g' : Got B (RVr B) Wx μ H (((ev T C it).i ρ τ).bind fun J τ1 => lcL g J.gs (wipeS ρ vs) (ev T C ts).t (ev T C elt).e τ1.length J.xs (τ1 ++ [.lst []])) Q := gg
  refine ⟨μ, ρ, τ, rh, rs, (Got.bnd (rel := RJ B) g').imp fun J' H1 ⟨J, τ1, μ1, l1, rh1, rj, g1⟩ => ?_⟩
  intro D hD
  have rj' : RJ B μ1 H1 J J' := rj
  obtain ⟨rh2, l2⟩ := rh1.push (o := .lst []) (ho := .lst []) hD ⟨[], upd_same, .nil⟩
  refine ⟨fun i m H2 => i ≤ J.xs.length ∧ m = J.xs.length - i ∧ ∃ μ2 τ2, Le B.K μ1 H1 μ2 H2 ∧ RH B.K B.Cl μ2 τ2 H2 ∧ μ2[τ1.length]? = some D ∧
    Got B (RVr B) Wx μ2 H2 (lcL g J.gs (wipeS ρ vs) (ev T C ts).t (ev T C elt).e τ1.length (J.xs.drop i) τ2) Q, ⟨J.xs.length, Nat.zero_le _, rfl, _, _, l2, rh2, by rw [← rh1.len]; simp, ?_⟩, ?_⟩
  · rw [List.drop_zero]
    exact Got.le l2 g1
  · rintro i m H2 ⟨hi, rfl, μ2, τ2, l3, rh3, hDm, g3⟩
    have rjj := rj' i μ2 τ2 H2 l3 rh3
    by_cases hlt : i < J.xs.length
    · have ed : J.xs.drop i = J.xs[i] :: J.xs.drop (i + 1) := List.drop_eq_getElem_cons hlt
      rw [ed] at g3
      unfold lcL at g3
      by_cases ok : It.ok J.gs τ2
      · rw [if_pos ok] at g3
        obtain ⟨go, yl⟩ := (rjj ok).1 J.xs[i] (List.getElem?_eq_getElem hlt)
        refine .inr ⟨go, fun H' => i + 1 ≤ J.xs.length ∧ ∃ μ2 τ2, Le B.K μ1 H1 μ2 H' ∧ RH B.K B.Cl μ2 τ2 H' ∧ μ2[τ1.length]? = some D ∧
          Got B (RVr B) Wx μ2 H' (lcL g J.gs (wipeS ρ vs) (ev T C ts).t (ev T C elt).e τ1.length (J.xs.drop (i + 1)) τ2) Q, ?_, fun v H' hy => ?_⟩
        · rintro H' ⟨hi', μ4, τ4, r1, r2, r3, r4⟩
          exact ⟨J.xs.length - (i + 1), by omega, hi', rfl, μ4, τ4, r1, r2, r3, r4⟩
        · obtain ⟨l4, rh4, rv⟩ := yl v H' hy
          cases ep : putG g J.xs[i] (wipeS ρ vs) with
          | none => rw [ep] at g3; exact g3.elim
          | some ρ1 =>
            rw [ep] at g3
            have rsw : RS B.K μ2 H' (wipeS ρ vs) (wipe σ vs) := (((rs.le l1).le l3).le l4).wipe vs
            refine tg_imp hK ep rv rsw fun σ' rs' hw => ⟨by rw [hw vs hg, wipe_wipe], μ2, ρ1, τ2, rh4, rs', ?_⟩
            have g4 := Got.le l4 g3
            -- the test
            cases et : (ev T C ts).t ρ1 τ2 with
            | no => simp only [et] at g4; exact g4.elim
            | exn y ρ' τ' => simp only [et] at g4; exact g4.elim
            | ok b τ3 =>
              intro μ5 H5 b' l5 rh5 eb
              obtain rfl : b = b' := eb
              simp only [et] at g4
              have g5 := Got.le l5 g4
              have l15 : Le B.K μ1 H1 μ5 H5 := (l3.trans l4).trans l5
              cases b with
              | false => exact iteF ⟨hlt, μ5, τ3, l15, rh5, l5.get hDm, g5⟩
              | true =>
                refine iteT ⟨μ5, ρ1, τ3, rh5, rs'.le l5, ?_⟩
                dsimp only at g5
                cases ee : (ev T C elt).e ρ1 τ3 with
                | no => simp only [ee] at g5; exact g5.elim
                | exn y ρ' τ' => simp only [ee] at g5; exact g5.elim
                | ok y τ4 =>
                  intro μ6 H6 v6 l6 rh6 rv6
                  simp only [ee] at g5
                  have rv6' : RV B.K μ6 H6 y v6 := rv6
                  have hD6 := l6.get (l5.get hDm)
                  cases e4 : τ4[τ1.length]? with
                  | none => simp only [e4] at g5; exact g5.elim
                  | some o =>
                    simp only [e4] at g5
                    obtain ⟨a', ha', ho⟩ := rh6.at_ e4
                    obtain rfl := Option.some.inj (ha'.symm.trans hD6)
                    cases o with
                    | lst acc =>
                      obtain ⟨us, h0, ru⟩ := ho
                      dsimp only at g5
                      split at g5
                      · rename_i hc
                        refine ⟨us, h0, by rw [← ru.length]; exact hc, hlt, ?_⟩
                        have l7 : Le B.K μ6 H6 μ6 (upd H6 a' (.lst (us ++ [v6]))) := ⟨⟨[], by simp⟩, tup_upd (noTup_lst h0)⟩
                        obtain ⟨rh7, l7'⟩ := rh6.put (o := .lst (acc ++ [y])) (ho := .lst (us ++ [v6])) hD6 e4 (fun xs z => by cases z) (noTup_lst h0) ⟨_, upd_same, (ru.append (.cons rv6' .nil)).le l7⟩
                        exact ⟨μ6, _, (l15.trans l6).trans l7, rh7, hD6, Got.le (l6.trans l7) g5⟩
                      · exact g5.elim
                    | _ => exact g5.elim
      · rw [if_neg ok] at g3
        exact g3.elim
    · have hi' : i = J.xs.length := by omega
      rw [List.drop_eq_nil_of_le (by omega)] at g3
      unfold lcL at g3
      by_cases ok : It.ok J.gs τ2
      · rw [if_pos ok] at g3
        exact .inl ⟨(rjj ok).2 (by omega), got_val g3 rh3 (.ref hDm)⟩
      · rw [if_neg ok] at g3
        exact g3.elim
theorem snd_lc {g : Mi.G} {it ts elt : E} {vs : List Nat} (F : Fit G T C B k X Z Wx) (ihi : Snd G T C B X Z Wx it)
    (iht : ∀ X' Z' Wx', Fit G T C B k X' Z' Wx' → Snd G T C B X' Z' Wx' ts) (ihe : ∀ X' Z' Wx', Fit G T C B k X' Z' Wx' → Snd G T C B X' Z' Wx' elt) : Snd G T C B X Z Wx (.lc g it ts elt vs) := by
  refine Snd.ofE F.K (fun x h => ?_) rfl rfl rfl rfl rfl (fun _ _ => rfl) (fun _ _ => rfl) rfl
  obtain ⟨el, tg, iter, ifs, scope, pos, rfl, p1, p2, p3, p4, p5, p6, p7, p8⟩ := lc_parts F ihi iht ihe h
  refine PE.imp (pe_lc F.calm F.nd p1 p2 p5 (fun s H Ca cl fp => p6 s H Ca cl fp) (fun s H Ca cl fp => p7 s H Ca cl fp) p8) fun σ H Q q => ?_
  rw [p3]
  exact lc_run F.K p4 q
end
end Mi
/-! Mi11: an instance made; every expression. -/
namespace Mi
open PySem PySem.Spec PyProof.Rows L2
section
variable {G : Gt} {T : Tb} {C : Calls} {B : Bs} {k : Nat} {X : L2.Cx} {Z : Sx} {Wx : WX}

/-- a class is called: the instance and its dict are laid, its __init__ runs -/
theorem made_run {pins : List (Addr × Obj)} {σ : L2.St} {H : Hp} {s : Shared} {Q : VK} {us : List Value} {vs : List V} {cA fA : Addr} {fd : FuncData} {ps : List Str} {sp : Sp} (mk : Mk X.K cA fA) (FO : FnOk X.prog X.w X.K X.mg X.base (L2N.CX X.prog X.w) k fA fd ps sp)
    (hr : Room (k + 1) X.A) (hb : Binds X.K fd ps []) (tk : L2N.Takes X Wx) (I : Inv X pins σ H s) (r : Vals vs us)
    (h : ∀ x dx, H x = none → H dx = none → dx ≠ x → sp (.ref x :: vs) (upd (upd H dx (.own x)) x (.ins cA dx [])) (fun v H2 => v = .non ∧ Q (.ref x) H2) (WE Wx σ)) :
    wpAny (model X.prog X.w) X.A (call (.ref cA) us) (EP X pins σ Q) X.xe s := by
  have promise := h (s.heap.objs.size + 1) s.heap.objs.size (I.hok.fresh (Nat.le_succ _)) (I.hok.fresh (Nat.le_refl _)) (Nat.ne_of_lt (Nat.lt_succ_self _))
  have I1 := Inv.made (C := cA) I
  have self : Vals (V.ref (s.heap.objs.size + 1) :: vs) (Value.ref (s.heap.objs.size + 1) :: us) := .cons rfl r
  have many : (Value.ref (s.heap.objs.size + 1) :: us).length = ps.length := by rw [← self.length]; exact FO.len _ _ _ _ promise
  have bound := hb _ (Value.ref (s.heap.objs.size + 1) :: us) I1.kIn (by rw [List.append_nil]; exact many)
  rw [List.append_nil] at bound
  have body := FO.run _ X.stack _ _ _ _ _ _ (WE Wx σ) (hr.make cA us []) (I1.env0.make cA us []) bound self promise
  refine wpAny_call (make_map (f := fA) I.kIn mk.makes mk.init (beq_iff_eq.mp mk.fn) (codeAny_mono body fun fl s1 e => ?_))
  match fl, e with
  | .error er, e => exact L2N.passAt tk σ pins _ _ er s1 I1 e
  | .ok (.ret u), e =>
    obtain ⟨v, H1, I2, rv, ev, q⟩ := I1.after e
    subst ev
    exact ⟨rv, .ref (s.heap.objs.size + 1), H1, I2, rfl, q⟩
  | .ok .next, e => exact e.elim
  | .ok .brk, e => exact e.elim
  | .ok .cont, e => exact e.elim
theorem snd_make {c : Nat} {as : E} (F : Fit G T C B k X Z Wx) (ih : Snd G T C B X Z Wx as) : Snd G T C B X Z Wx (.make c as) := by
  refine Snd.ofE F.K (fun x h => ?_) rfl rfl rfl rfl rfl (fun _ _ => rfl) (fun _ _ => rfl) rfl
  have h0 : (match callArgs x with
      | some (n, es) => glB Z.sc n && plainName n && decide (G.cl n = some c) && (chk G as Z).a es
      | none => false) = true := h
  cases hx : callArgs x with
  | none => rw [hx] at h0; exact ff h0
  | some q =>
    obtain ⟨n, es⟩ := q
    rw [hx] at h0
    obtain ⟨p, pos, rfl⟩ := callArgs_of hx
    simp only [Bool.and_eq_true, decide_eq_true_iff] at h0
    obtain ⟨⟨⟨h1, h2⟩, h3⟩, h5⟩ := h0
    obtain ⟨hm, hkp⟩ := F.cl n c h3
    refine ⟨fun pins s σ H Q I ⟨μ, ρ, τ, rh, rs, g⟩ => ?_⟩
    have g' : Got B (RVr B) Wx μ H (((ev T C as).a ρ τ).bind fun ws τ1 => match T.meth c "__init__" with
      | some f => (tail ρ (C f (.ref τ1.length :: ws) (τ1 ++ [.ins c []]))).bind fun w τ2 => match w with
        | .non => .ok (.ref τ1.length) τ2
        | _ => .no
      | none => .no) Q := g
    cases e2 : T.meth c "__init__" with
    | none =>
      rw [e2] at g'
      -- nothing is promised: the arguments never end well
      have hno : Got B (RVr B) Wx μ H (((ev T C as).a ρ τ).bind fun ws τ1 => (.no : R W)) Q := g'
      refine wpAny_Call_Name_kw (ld_glob I (glB_gl F h1) hm ?_ (plainName_of h2).1)
      exact args_run (first := []) (R := fun _ _ => False) F ih h5 hkp I ⟨μ, ρ, τ, rh, rs, (Got.bnd (rel := RVsr B) hno).imp fun _ _ ⟨_, _, _, _, _, _, g3⟩ => g3.elim⟩ fun _ _ _ _ _ _ e => e.elim
    | some f =>
      rw [e2] at g'
      obtain ⟨a2, cls, meth, mks, kpc, cal⟩ := F.meth c "__init__" f e2
      obtain ⟨fd, pl, hb, FO, ar⟩ := cal.ex
      refine wpAny_Call_Name_kw (ld_glob I (glB_gl F h1) hm ?_ (plainName_of h2).1)
      refine args_run (first := []) F ih h5 kpc I ⟨μ, ρ, τ, rh, rs, Got.bnd (rel := RVsr B) g'⟩ fun us vs s2 H2 I2 r hw => ?_
      obtain ⟨ws, τ2, μ2, l2, rh2, rvs, g3⟩ := hw
      dsimp only at g3
      have rvs' : RVs B.K μ2 H2 ws vs := rvs
      refine made_run ⟨mks, meth.at_, meth.fn, kpc⟩ FO F.room hb F.tk I2 r fun x dx hx hdx hne => ?_
      -- the new instance in the store
      have hx' : upd H2 dx (.own x) x = none := by rw [upd_ne hne.symm]; exact hx
      obtain ⟨rh3, l3⟩ := rh2.more (ho := .own x) hdx
      obtain ⟨rh4, l4⟩ := rh3.push (o := .ins c []) (ho := .ins (B.Cl c) dx []) hx' ⟨dx, [], upd_same, .nil⟩
      have l34 := l3.trans l4
      have g4 := Got.le l34 g3
      have hself : (μ2 ++ [x])[τ2.length]? = some x := by rw [← rh2.len]; simp
      refine ⟨?_, _, _, .ref τ2.length :: ws, rh4, .cons (.ref hself) (rvs'.le l34), ?_⟩
      · rcases ar (.ref τ2.length :: ws) (τ2 ++ [.ins c []]) with e3 | e3
        · rw [e3] at g3; exact g3.elim
        · rw [← e3, List.length_cons, List.length_cons, rvs'.length]
      · refine tail_got (Wx := Wx) (σ := σ) ((rs.le l2).le l34) ((Got.bnd (rel := RVr B) g4).imp fun v H5 ⟨w, τ5, μ5, l5, rh5, rv5, g5⟩ => ?_)
        have rv5' : RV B.K μ5 H5 w v := rv5
        cases rv5' with
        | non => exact ⟨rfl, got_val g5 rh5 (.ref (l5.get hself))⟩
        | _ => exact g5.elim

/-- EVERY EXPRESSION -/
theorem snd_both : ∀ (ir : E) (X : L2.Cx) (Z : Sx) (Wx : WX), Fit G T C B k X Z Wx → Snd G T C B X Z Wx ir ∧ Els (Snd G T C B X Z Wx) ir := by
  intro ir
  induction ir with
  | var i => exact fun X Z Wx F => ⟨snd_var F, trivial⟩
  | con w => exact fun X Z Wx F => ⟨snd_con F, trivial⟩
  | nil => exact fun X Z Wx F => ⟨snd_nil F, trivial⟩
  | cons a r iha ihr => exact fun X Z Wx F => ⟨snd_cons F (iha X Z Wx F).1 (ihr X Z Wx F).1, (iha X Z Wx F).1, (ihr X Z Wx F).2⟩
  | op o a b iha ihb => exact fun X Z Wx F => ⟨snd_op F (iha X Z Wx F).1 (ihb X Z Wx F).1, trivial⟩
  | neg a iha => exact fun X Z Wx F => ⟨snd_neg F (iha X Z Wx F).1, trivial⟩
  | cmp o a b iha ihb => exact fun X Z Wx F => ⟨snd_cmp F (iha X Z Wx F).1 (ihb X Z Wx F).1, trivial⟩
  | chain o o2 a b c iha ihb ihc => exact fun X Z Wx F => ⟨snd_chain F (iha X Z Wx F).1 (ihb X Z Wx F).1 (ihc X Z Wx F).1, trivial⟩
  | conj as ih => exact fun X Z Wx F => ⟨snd_conj F (ih X Z Wx F).1, trivial⟩
  | disj as ih => exact fun X Z Wx F => ⟨snd_disj F (ih X Z Wx F).1, trivial⟩
  | not a iha => exact fun X Z Wx F => ⟨snd_not F (iha X Z Wx F).1, trivial⟩
  | ite t a b iht iha ihb => exact fun X Z Wx F => ⟨snd_ite F (iht X Z Wx F).1 (iha X Z Wx F).1 (ihb X Z Wx F).1, trivial⟩
  | tup as ih => exact fun X Z Wx F => ⟨snd_tup F (ih X Z Wx F).1, trivial⟩
  | lst as ih => exact fun X Z Wx F => ⟨snd_lst F (ih X Z Wx F).1, trivial⟩
  | dic ks vs ih1 ih2 => exact fun X Z Wx F => ⟨snd_dic F (ih2 X Z Wx F).2, trivial⟩
  | ix a b iha ihb => exact fun X Z Wx F => ⟨snd_ix F (iha X Z Wx F).1 (ihb X Z Wx F).1, trivial⟩
  | slice a lo hi iha ihl ihh => exact fun X Z Wx F => ⟨snd_slice F (iha X Z Wx F).1 (ihl X Z Wx F).1 (ihh X Z Wx F).1, trivial⟩
  | fld a f iha => exact fun X Z Wx F => ⟨snd_fld F (iha X Z Wx F).1, trivial⟩
  | call f as ih => exact fun X Z Wx F => ⟨snd_call F (ih X Z Wx F).1, trivial⟩
  | meth m o as iho ih => exact fun X Z Wx F => ⟨snd_meth F (iho X Z Wx F).1 (ih X Z Wx F).1, trivial⟩
  | make c as ih => exact fun X Z Wx F => ⟨snd_make F (ih X Z Wx F).1, trivial⟩
  | bi b as ih => exact fun X Z Wx F => ⟨snd_bi F (ih X Z Wx F).1, trivial⟩
  | isi a t iha => exact fun X Z Wx F => ⟨snd_isi F (iha X Z Wx F).1, trivial⟩
  | bm m o as iho ih => exact fun X Z Wx F => ⟨snd_bm F (iho X Z Wx F).1 (ih X Z Wx F).1, trivial⟩
  | lc g it ts elt vs ihi iht ihe => exact fun X Z Wx F => ⟨snd_lc F (ihi X Z Wx F).1 (fun X Z Wx F => (iht X Z Wx F).1) (fun X Z Wx F => (ihe X Z Wx F).1), trivial⟩
  | seq a iha => exact fun X Z Wx F => ⟨snd_seq F (iha X Z Wx F).1, trivial⟩
  | rng as ih => exact fun X Z Wx F => ⟨snd_rng F (ih X Z Wx F).1, trivial⟩
  | dzip as ih => exact fun X Z Wx F => ⟨snd_dzip F (ih X Z Wx F).1, trivial⟩
  | zip as ih => exact fun X Z Wx F => ⟨snd_zip F (ih X Z Wx F).1, trivial⟩
  | enum a iha => exact fun X Z Wx F => ⟨snd_enum F (iha X Z Wx F).1, trivial⟩
  | rev a iha => exact fun X Z Wx F => ⟨snd_rev F (iha X Z Wx F).1, trivial⟩
  | every lo a iha => exact fun X Z Wx F => ⟨snd_every F (iha X Z Wx F).1, trivial⟩
  | dget d kk ihd ihk => exact fun X Z Wx F => ⟨snd_dget F (ihd X Z Wx F).1 (ihk X Z Wx F).1, trivial⟩
  | dget2 d kk x0 ihd ihk ihx => exact fun X Z Wx F => ⟨snd_dget2 F (ihd X Z Wx F).1 (ihk X Z Wx F).1 (ihx X Z Wx F).1, trivial⟩
theorem snd_all (ir : E) (X : L2.Cx) (Z : Sx) (Wx : WX) (F : Fit G T C B k X Z Wx) : Snd G T C B X Z Wx ir := (snd_both ir X Z Wx F).1
end
end Mi
set_option maxHeartbeats 2000000
/-! MiK: the def that tells an exception's kinds, called in an except suite. -/
namespace Mi
open PySem PySem.Spec PyProof.Rows L2

/-- the promise of a def called with the exception that is handled -/
structure FnK (P : Program) (w : World) (K : PySem.W.Frag) (mg : Str → Option Value) (base : Heap) (T : Tb) (B : Bs) (k : Nat) (f : Addr) (fd : FuncData) (y : Str) : Prop where
  run : ∀ (A : Around) (outer : List Env) (s : Shared) (H : Hp) (args : Args) (Q : VK) (p : Addr × Obj) (c : Nat), T.rs c = true → L2H.RoomH k A → L2H.Hot1 A p → L2N.Zn (.ref (B.Xc c)) none p.2 → L2H.PinOk outer H s p → Env0 P w K mg base A outer s H → BindsTo s fd args [(y, .ref p.1)] →
    (∀ b H', H b = none → H' b = some (.lst ((T.kinds c).map V.str)) → (∀ x o, x ≠ b → H x = some o → H' x = some o) → Q (.ref b) H') →
    codeAny (model P w) A (.call (.ref f) args) (CR (fun _ _ _ _ _ _ => False) outer P w H s Q fun _ _ _ => False) s

theorem fnK_of {P : Program} {w : World} {K : PySem.W.Frag} {mg : Str → Option Value} {base : Heap} {T : Tb} {B : Bs} {k : Nat} {f : Addr} {name qual y : Str} {params : Arguments} {body : List Stmt} {scope : Scope} {dV kV doc pm cdv ct oc : Value} {an od : Option Addr}
    {osl : Array (Option Value)} {N : List Str} (lk : K.lookup f = some ⟨oc, od, .func (PySem.W.fnOf name qual params body scope dV kV doc pm an cdv ct), osl⟩) (hcd : PySem.W.codeIn K cdv qual = true) (S : FnScope N [y] scope)
    (hbody : ∀ (A : Around) (outer : List Env) (s : Shared) (H : Hp) (Q : VK) (p : Addr × Obj) (c : Nat), T.rs c = true → L2N.Zn (.ref (B.Xc c)) none p.2 → (∃ vs, p.2.data = .fields vs) →
      (∀ b H', H b = none → H' b = some (.lst ((T.kinds c).map V.str)) → (∀ x o, x ≠ b → H x = some o → H' x = some o) → Q (.ref b) H') →
      ∃ t, PSs (L2H.cxH (fun _ _ _ _ _ _ => False) P w K mg base N qual scope f cdv A outer s H (fun _ _ _ => False) p) body t ∧ t { nx := fun _ H' => Q .non H', rt := Q } (L2.start N [.ref p.1]) H) :
    FnK P w K mg base T B (k + 1) f (PySem.W.fnOf name qual params body scope dV kV doc pm an cdv ct) y := by
  refine ⟨fun A outer s H args Q p c hrs hr hot hz hpin e0 hb hq0 => ?_⟩
  have KX : K.In s.heap := e0.mod.kin.keeps fun b o e => (e0.bs b o e).1
  have lim : s.heap.NoLimit := e0.mod.nolimit.keeps fun b o e => (e0.bs b o e).1
  have hkind : ∀ z ∈ [y].zip [Value.ref p.1], scope.names.lookup z.1 = some .local ∨ (scope.names.lookup z.1 = some .cell ∧ ((cellsFrom (s.heap.objs.size + 1) scope.names []).lookup z.1).isSome = true) := fun ⟨n, v⟩ hy => by
    rcases S.par n (List.of_mem_zip hy).1 with q | q
    · exact .inl q
    · exact .inr ⟨q, PySem.W.cellsFrom_some _ _ _ (.inl q)⟩
  refine codeAny_call_function hr.depth (KX _ _ lk) rfl S.co S.gen rfl (PySem.W.codeRec_of KX hcd) (hb _ _ _ _ ?_)
  refine wpAny_newFunctionEnv_cells S.kind hkind fun env he s1 x => ?_
  subst he
  refine ⟨lim.keeps x.toInCall.keep, codeAny_func ?_⟩
  obtain ⟨vs0, hv0, _⟩ := hot.2
  obtain ⟨t, ht, hq⟩ := hbody A outer s H Q p c hrs hz ⟨vs0, hv0⟩ hq0
  have I : Inv (L2H.cxH (fun _ _ _ _ _ _ => False) P w K mg base N qual scope f cdv A outer s H (fun _ _ _ => False) p) [] (L2.start N [.ref p.1]) H s1 := L2H.inv_startH S hpin e0 (by rfl) (.cons rfl .nil) x
  refine wpAny_mono (ht.run [] s1 (L2.start N [.ref p.1]) H _ I hq) (fun fl s' hs => ?_) fun e s' hs => hs
  have fin : ∀ {σ' : L2.St} {H' : Hp} {v : V} {u : Value}, Inv (L2H.cxH (fun _ _ _ _ _ _ => False) P w K mg base N qual scope f cdv A outer s H (fun _ _ _ => False) p) [] σ' H' s' → RelV v u → Q v H' → CE outer P w H s Q u s' :=
    fun {σ' H' v u} J rv q => ⟨v, H', J.os, J.bare, J.base, J.hok, rv, q⟩
  cases fl with
  | ret u =>
    obtain ⟨v, σ', H', J, rv, q⟩ := hs
    exact fin J rv q
  | next =>
    obtain ⟨σ', H', J, q⟩ := hs
    exact fin (v := V.non) (u := Value.none) J rfl q
  | brk =>
    obtain ⟨_, _, _, q⟩ := hs
    exact False.elim q
  | cont =>
    obtain ⟨_, _, _, q⟩ := hs
    exact False.elim q

/-- f(e) in the suite of except X as e -/
theorem pe_callK {X : Cx} {T : Tb} {B : Bs} {k c i : Nat} {f a : Addr} {oe : Obj} {pn : List (Addr × Obj)} {fd : FuncData} {y x n : Str} {q p4 pos : Pos} (F : FnK X.prog X.w X.K X.mg X.base T B k f fd y) (hr : L2H.RoomH k X.A) (rs : T.rs c = true) (hz : L2N.Zn (.ref (B.Xc c)) none oe) (hf : ∃ vs, oe.data = .fields vs)
    (hg : Gl X x) (hm : X.mg x = some (.ref f)) (hk : PySem.W.keepIn X.K (.ref f) = true) (hb : Binds X.K fd [y] []) (hN : X.N[i]? = some n) (hv : Vis X.env.scope n) (hd : (n == ("__debug__" : Str)) = false) (hcd : (n == ("__classdict__" : Str)) = false) (hdb : (x == ("__debug__" : Str)) = false) :
    PE (X.suite a ((a, oe) :: pn)) (.Call (.Name x q) [.Name n p4] [] pos) (fun σ H Q => σ[i]? = some (some (.ref a)) ∧ ∀ b H', H b = none → H' b = some (.lst ((T.kinds c).map V.str)) → (∀ x o, x ≠ b → H x = some o → H' x = some o) → Q (.ref b) H') := by
  refine ⟨fun pins s σ H Q I h => ?_⟩
  obtain ⟨hi, h⟩ := h
  have hg' : Gl (X.suite a ((a, oe) :: pn)) x := hg
  have hm' : (X.suite a ((a, oe) :: pn)).mg x = some (.ref f) := hm
  refine wpAny_Call_Name_kw (ld_glob I hg' hm' ?_ hdb)
  have ha : PA (X.suite a ((a, oe) :: pn)) [.Name n p4] (tCons (tVar i) tNil) := pa_cons (pe_var (X := X.suite a ((a, oe) :: pn)) hN hv hd hcd) pa_nil
  refine PySem.W.callWith_K (h₀ := X.base) I.ok.mod.kin hk (thn (ha.run pos pins s σ H (fun vs H1 => vs = [.ref a] ∧ H1 = H) I ⟨.ref a, hi, rfl, rfl⟩) fun us s1 ⟨vs, H1, I1, r, e1, e2⟩ => ⟨I1.kIn, ?_⟩) rfl rfl
  subst e1
  subst e2
  obtain ⟨u, rfl, ru⟩ := vals1 r
  obtain rfl : u = Value.ref a := ru
  have b := hb s1 [.ref a] I1.kIn rfl
  have P1 := I1.pin (a, oe) (List.mem_append_left _ List.mem_cons_self)
  have hpin : L2H.PinOk X.stack H1 s1 (a, oe) := ⟨P1.1, P1.2.1, fun hm => (List.mem_cons.mp (I1.stkSub a hm)).elim P1.2.2.1 P1.2.2.2.1, P1.2.2.2.2⟩
  obtain ⟨vs, hvs⟩ := hf
  have hot : L2H.Hot1 (X.suite a ((a, oe) :: pn)).A (a, oe) := ⟨rfl, vs, hvs, hz.2.2 vs hvs⟩
  refine wpAny_call (codeAny_mono (F.run _ X.stack s1 H1 ⟨[.ref a], []⟩ Q (a, oe) c rs ⟨hr.dp, hr.un⟩ hot hz hpin I1.env0 b h) fun r s' hq => ?_)
  cases r with
  | error e => exact hq.elim
  | ok fl =>
    cases fl with
    | ret u => exact I1.after hq
    | next => exact False.elim hq
    | brk => exact False.elim hq
    | cont => exact False.elim hq
end Mi
set_option maxHeartbeats 2000000
/-! MiK2: what the laws' _law_kinds tells. -/
namespace Mi
open PySem PySem.Spec PyProof.Rows L2

/-- isinstance of the handled exception -/
def rIsK (K : PySem.W.Frag) (D a : Addr) : List V → Hp → VK → Prop := fun xs H Q => ∃ (c : V) (b : Bool), xs = [.ref a, c] ∧
  ((∃ C, c = .ref C ∧ PySem.W.kitOne K (.ref D) (.ref C) = some b) ∨ (∃ n, c = .ty n ∧ PySem.W.kitOne K (.ref D) (.type n) = some b) ∨ (∃ tp, ∃ cs : List Addr, c = .ref tp ∧ H tp = some (.tup (cs.map V.ref)) ∧ PySem.W.kitAny K (.ref D) (cs.map Value.ref) = some b)) ∧ Q (.bl b) H
theorem vals_refs : ∀ {cs : List Addr} {us : List Value}, Vals (cs.map V.ref) us → us = cs.map Value.ref
  | [], _, .nil => rfl
  | c :: r, _, .cons a t => by
    cases a
    rw [vals_refs t]
    rfl
theorem call_isK {X : Cx} {p : Addr × Obj} {D : Addr} (C : ExcC X.K D) (hz : Zc (.ref D) none p.2) (hf : ∃ vs, p.2.data = .fields vs) (hp : p ∈ X.pn) : CallR X (.builtin "isinstance") (rIsK X.K D p.1) := by
  intro pins s σ H xs us Q I r h
  obtain ⟨c, b, rfl, hc, q⟩ := h
  obtain ⟨u1, u2, rfl, r1, r2⟩ := vals2 r
  cases (show u1 = Value.ref p.1 from r1)
  obtain ⟨hget, _⟩ := I.pin p (List.mem_append_left _ hp)
  obtain ⟨vs, hv⟩ := hf
  have J : PySem.W.InstAt s.heap p.1 p.2 D none := by
    obtain ⟨p1, oc, od, oda, osl⟩ := p
    obtain ⟨h1, h2⟩ := hz
    dsimp only at h1 h2 hv
    subst h1 h2 hv
    exact ⟨hget, rfl, rfl, trivial⟩
  have Z := PySem.W.handS_kitx_exc (x := p.1) (ox := p.2) C.hg C.hk C.hs C.hd C.ha C.hn C.ht C.hm
  rcases hc with ⟨C', rfl, e⟩ | ⟨n, rfl, e⟩ | ⟨tp, cs, rfl, hT, e⟩
  · cases (show u2 = Value.ref C' from r2)
    exact PySem.W.kia_one Z I.kIn J e (fun z => nomatch z) fun tk => ⟨.bl b, H, I.tok tk, rfl, q⟩
  · cases (show u2 = Value.type n from r2)
    exact PySem.W.kia_one Z I.kIn J e (fun z => nomatch z) fun tk => ⟨.bl b, H, I.tok tk, rfl, q⟩
  · cases (show u2 = Value.ref tp from r2)
    obtain ⟨_, its, rv, o, h1, h2, n, h3⟩ := (show ObjOk X.prog X.w H s.heap tp (.tup (cs.map V.ref)) from I.hok tp _ hT)
    have e3 := vals_refs rv
    subst e3
    obtain ⟨oc, od, dt, sl⟩ := o
    simp only at h2 h3
    subst h2 h3
    exact PySem.W.kia_tup Z I.kIn J h1 e (fun z => nomatch z) fun tk => ⟨.bl b, H, I.tok tk, rfl, q⟩

def addShape (s w : Str) : Stmt → Bool
  | .Expr (.Call (.Attribute (.Name s' _) m pa) [.Constant (.str w') _ _] [] pc) _ => decide (s' = s) && decide (m = "append") && decide (w' = w) && (pa.endLine == pc.line)
  | _ => false
theorem addShape_of {s w : Str} {x : Stmt} (h : addShape s w x = true) : ∃ p1 pa j p2 pc p3, x = .Expr (.Call (.Attribute (.Name s p1) "append" pa) [.Constant (.str w) j p2] [] pc) p3 ∧ (pa.endLine == pc.line) = true := by
  unfold addShape at h
  split at h
  · simp only [Bool.and_eq_true, decide_eq_true_iff] at h
    obtain ⟨⟨⟨rfl, rfl⟩, rfl⟩, h⟩ := h
    exact ⟨_, _, _, _, _, _, rfl, h⟩
  · exact absurd h (by simp)
def isShape (e c : Str) : Expr → Bool
  | .Call (.Name i _) [.Name e' _, .Name c' _] [] _ => decide (i = "isinstance") && decide (e' = e) && decide (c' = c)
  | _ => false
theorem isShape_of {e c : Str} {x : Expr} (h : isShape e c x = true) : ∃ p1 p2 p3 p4, x = .Call (.Name "isinstance" p1) [.Name e p2, .Name c p3] [] p4 := by
  unfold isShape at h
  split at h
  · simp only [Bool.and_eq_true, decide_eq_true_iff] at h
    obtain ⟨⟨rfl, rfl⟩, rfl⟩ := h
    exact ⟨_, _, _, _, rfl⟩
  · exact absurd h (by simp)
def is3Shape (e a b c : Str) : Expr → Bool
  | .Call (.Name i _) [.Name e' _, .Tuple [.Name a' _, .Name b' _, .Name c' _] _ _] [] _ => decide (i = "isinstance") && decide (e' = e) && decide (a' = a) && decide (b' = b) && decide (c' = c)
  | _ => false
theorem is3Shape_of {e a b c : Str} {x : Expr} (h : is3Shape e a b c x = true) : ∃ p1 p2 p3 p4 p5 k p6 p7, x = .Call (.Name "isinstance" p1) [.Name e p2, .Tuple [.Name a p3, .Name b p4, .Name c p5] k p6] [] p7 := by
  unfold is3Shape at h
  split at h
  · simp only [Bool.and_eq_true, decide_eq_true_iff] at h
    obtain ⟨⟨⟨⟨rfl, rfl⟩, rfl⟩, rfl⟩, rfl⟩ := h
    exact ⟨_, _, _, _, _, _, _, _, rfl⟩
  · exact absurd h (by simp)
def kindsShape (e s : Str) : List Stmt → Bool
  | [.Assign [.Name s1 _] (.List [] _) _, .If t1 [a1] [] _, .If t2 [a2] [] _, .If t3 [a3] [] _, .If (.UnaryOp .Not t4 _) [a4] [] _, .Return (some (.Name s2 _)) _] =>
    decide (s1 = s) && decide (s2 = s) && is3Shape e "NoMachine" "NoMiddle" "NoPass" t1 && isShape e "NoText" t2 && isShape e "NoTree" t3 && isShape e "ValueError" t4 && addShape s "one of the others" a1 && addShape s "NoText" a2 && addShape s "NoTree" a3 && addShape s "no ValueError" a4
  | _ => false
theorem kindsShape_of {e s : Str} {l : List Stmt} (h : kindsShape e s l = true) : ∃ p1 p2 p3 t1 a1 p4 t2 a2 p5 t3 a3 p6 q t4 a4 p7 p8 p9, l = [.Assign [.Name s p1] (.List [] p2) p3, .If t1 [a1] [] p4, .If t2 [a2] [] p5, .If t3 [a3] [] p6, .If (.UnaryOp .Not t4 q) [a4] [] p7, .Return (some (.Name s p8)) p9] ∧
    is3Shape e "NoMachine" "NoMiddle" "NoPass" t1 = true ∧ isShape e "NoText" t2 = true ∧ isShape e "NoTree" t3 = true ∧ isShape e "ValueError" t4 = true ∧ addShape s "one of the others" a1 = true ∧ addShape s "NoText" a2 = true ∧ addShape s "NoTree" a3 = true ∧ addShape s "no ValueError" a4 = true := by
  unfold kindsShape at h
  split at h
  · simp only [Bool.and_eq_true, decide_eq_true_iff] at h
    obtain ⟨⟨⟨⟨⟨⟨⟨⟨⟨rfl, rfl⟩, h1⟩, h2⟩, h3⟩, h4⟩, h5⟩, h6⟩, h7⟩, h8⟩ := h
    exact ⟨_, _, _, _, _, _, _, _, _, _, _, _, _, _, _, _, _, _, rfl, h1, h2, h3, h4, h5, h6, h7, h8⟩
  · exact absurd h (by simp)
/-- what is to be known of a class of exceptions, for its kinds -/
structure KiC (K : PySem.W.Frag) (T : Tb) (mM mD mP mT mR D : Addr) (c : Nat) : Prop where
  ec : ExcC K D
  o3 : PySem.W.kitAny K (.ref D) [.ref mM, .ref mD, .ref mP] = some false
  kt : ∃ bT bR, PySem.W.kitOne K (.ref D) (.ref mT) = some bT ∧ PySem.W.kitOne K (.ref D) (.ref mR) = some bR ∧ T.kinds c = (if bT = true then [("NoText" : Str)] else []) ++ (if bR = true then [("NoTree" : Str)] else [])
  kv : PySem.W.kitOne K (.ref D) (.type "ValueError") = some true
section
variable {X : Cx} {e s w : Str} {a : Stmt}
theorem ps_add (hN : X.N[1]? = some s) (hv : Vis X.env.scope s) (hd : (s == ("__debug__" : Str)) = false) (hcd : (s == ("__classdict__" : Str)) = false) (h : addShape s w a = true) :
    PS X a (fun D σ H => ∃ l xs, σ[1]? = some (some (.ref l)) ∧ H l = some (.lst xs) ∧ xs.length < sizeLine ∧ D.nx σ (upd H l (.lst (xs ++ [.str w])))) := by
  obtain ⟨p1, pa, j, p2, pc, p3, rfl, hl⟩ := addShape_of h
  refine PS.imp (ps_expr (pe_bm PySem.F.plainAttrs_list PySem.F.slot_list_append PySem.F.type_list_append mt_append (pe_var (i := 1) hN hv hd hcd) (pa_cons pe_str pa_nil) (hline := hl))) fun D σ H ⟨l, xs, h1, h2, h3, q⟩ => ?_
  exact ⟨.ref l, h1, .inl ⟨rfl, _, SqL.of h2⟩, l, xs, _, rfl, rfl, h2, h3, q⟩
theorem pt_is {p : Addr × Obj} {D : Addr} {b : Bool} {c : Str} {cv : V} {t : Expr} (C : ExcC X.K D) (hz : Zc (.ref D) none p.2) (hf : ∃ vs, p.2.data = .fields vs) (hp : p ∈ X.pn)
    (hN : X.N[0]? = some e) (hv : Vis X.env.scope e) (hd : (e == ("__debug__" : Str)) = false) (hcd : (e == ("__classdict__" : Str)) = false) (gi : Gl X "isinstance") (mi : X.mg "isinstance" = none)
    (hcp : ∀ p3, PE X (.Name c p3) (tC cv)) (hk : (∃ C, cv = .ref C ∧ PySem.W.kitOne X.K (.ref D) (.ref C) = some b) ∨ (∃ n, cv = .ty n ∧ PySem.W.kitOne X.K (.ref D) (.type n) = some b)) (h : isShape e c t = true) :
    PT X t (fun σ H Q => σ[0]? = some (some (.ref p.1)) ∧ Q b H) := by
  obtain ⟨p1, p2, p3, p4, rfl⟩ := isShape_of h
  refine PT.imp (pt_val (pe_callB (id := "isinstance") (call_isK C hz hf hp) gi mi (by decide +kernel) (pa_cons (pe_var (i := 0) hN hv hd hcd) (pa_cons (hcp p3) pa_nil)))) fun σ H Q ⟨h1, q⟩ => ?_
  refine ⟨.ref p.1, h1, cv, b, rfl, ?_, b, rfl, q⟩
  rcases hk with ⟨C', e1, e2⟩ | ⟨n, e1, e2⟩
  · exact .inl ⟨C', e1, e2⟩
  · exact .inr (.inl ⟨n, e1, e2⟩)
theorem pt_is3 {p : Addr × Obj} {D mM mD mP : Addr} {r : Bool} {a b c : Str} {t : Expr} (C : ExcC X.K D) (hz : Zc (.ref D) none p.2) (hf : ∃ vs, p.2.data = .fields vs) (hp : p ∈ X.pn)
    (hN : X.N[0]? = some e) (hv : Vis X.env.scope e) (hd : (e == ("__debug__" : Str)) = false) (hcd : (e == ("__classdict__" : Str)) = false) (gi : Gl X "isinstance") (mi : X.mg "isinstance" = none)
    (ha : ∀ q, PE X (.Name a q) (tC (.ref mM))) (hb : ∀ q, PE X (.Name b q) (tC (.ref mD))) (hc : ∀ q, PE X (.Name c q) (tC (.ref mP))) (hk : PySem.W.kitAny X.K (.ref D) [.ref mM, .ref mD, .ref mP] = some r) (h : is3Shape e a b c t = true) :
    PT X t (fun σ H Q => σ[0]? = some (some (.ref p.1)) ∧ ∀ tp, H tp = none → Q r (upd H tp (.tup [.ref mM, .ref mD, .ref mP]))) := by
  obtain ⟨p1, p2, p3, p4, p5, k, p6, p7, rfl⟩ := is3Shape_of h
  refine PT.imp (pt_val (pe_callB (id := "isinstance") (call_isK C hz hf hp) gi mi (by decide +kernel) (pa_cons (pe_var (i := 0) hN hv hd hcd) (pa_cons (pe_tup (pa_cons (ha p3) (pa_cons (hb p4) (pa_cons (hc p5) pa_nil)))) pa_nil)))) fun σ H Q ⟨h1, q⟩ => ?_
  refine ⟨.ref p.1, h1, Nat.le_of_ble_eq_true rfl, fun tp ht => ⟨.ref tp, r, rfl, .inr (.inr ⟨tp, [mM, mD, mP], rfl, upd_same, hk⟩), r, rfl, q tp ht⟩⟩
/-- the state while the kinds are told: the list l, all that was stays -/
def KSt (a : Addr) (H0 : Hp) (l : Addr) (xs : List V) (σ : L2.St) (H : Hp) : Prop := σ[0]? = some (some (.ref a)) ∧ σ[1]? = some (some (.ref l)) ∧ H l = some (.lst xs) ∧ H0 l = none ∧ ∀ x o, x ≠ l → H0 x = some o → H x = some o
theorem KSt.step {a : Addr} {H0 H : Hp} {l : Addr} {xs : List V} {σ : L2.St} (h : KSt a H0 l xs σ H) (ys : List V) : KSt a H0 l ys σ (upd H l (.lst ys)) :=
  ⟨h.1, h.2.1, upd_same, h.2.2.2.1, fun x o hx e => by rw [upd_ne hx]; exact h.2.2.2.2 x o hx e⟩
theorem KSt.tup {a : Addr} {H0 H : Hp} {l tp : Addr} {xs : List V} {σ : L2.St} {o : HO} (h : KSt a H0 l xs σ H) (ht : H tp = none) : KSt a H0 l xs σ (upd H tp o) := by
  have hl : l ≠ tp := fun e => by
    have := h.2.2.1
    rw [e, ht] at this
    cases this
  refine ⟨h.1, h.2.1, by rw [upd_ne hl]; exact h.2.2.1, h.2.2.2.1, fun x u hx e => ?_⟩
  have h1 := h.2.2.2.2 x u hx e
  have hx2 : x ≠ tp := fun z => by
    rw [z, ht] at h1
    cases h1
  rw [upd_ne hx2]
  exact h1
theorem kinds_body {p : Addr × Obj} {mM mD mP mT mR D : Addr} {c : Nat} {T : Tb} {body : List Stmt} (KC : KiC X.K T mM mD mP mT mR D c) (hz : Zc (.ref D) none p.2) (hf : ∃ vs, p.2.data = .fields vs) (hp : p ∈ X.pn)
    (nd : X.N.Nodup) (hN0 : X.N[0]? = some e) (hN1 : X.N[1]? = some s) (hv0 : Vis X.env.scope e) (hl1 : Loc X.env.scope s) (hs1 : X.env.scope.names.lookup s = some .local) (pe0 : plainName e = true) (ps1 : plainName s = true)
    (gi : Gl X "isinstance") (mi : X.mg "isinstance" = none) (gv : Gl X "ValueError") (mv : X.mg "ValueError" = none) (gM : Gl X "NoMachine") (kM : X.mg "NoMachine" = some (.ref mM)) (gD : Gl X "NoMiddle") (kD : X.mg "NoMiddle" = some (.ref mD))
    (gP : Gl X "NoPass") (kP : X.mg "NoPass" = some (.ref mP)) (gT : Gl X "NoText") (kT : X.mg "NoText" = some (.ref mT)) (gR : Gl X "NoTree") (kR : X.mg "NoTree" = some (.ref mR)) (h : kindsShape e s body = true) :
    PSs X body (fun D σ H => σ[0]? = some (some (.ref p.1)) ∧ 1 < σ.length ∧ ∀ b H', H b = none → H' b = some (.lst ((T.kinds c).map V.str)) → (∀ x o, x ≠ b → H x = some o → H' x = some o) → D.rt (.ref b) H') := by
  obtain ⟨p1, p2, p3, t1, a1, p4, t2, a2, p5, t3, a3, p6, q, t4, a4, p7, p8, p9, rfl, h1, h2, h3, h4, h5, h6, h7, h8⟩ := kindsShape_of h
  obtain ⟨ec, o3, ⟨bT, bR, kt, kr, ek⟩, kv⟩ := KC
  obtain ⟨d0, e0⟩ := plainName_of pe0
  obtain ⟨d1, e1⟩ := plainName_of ps1
  have hv1 : Vis X.env.scope s := .inl hs1
  have st1 := ps_set (pos := p3) (pos' := p1) nd hN1 hl1 (pe_lst (X := X) (pos := p2) pa_nil) rfl (.inr hs1)
  have st2 := ps_if (pos := p4) (pt_is3 ec hz hf hp hN0 hv0 d0 e0 gi mi (fun q => pe_glob (v := .ref mM) gM kM rfl) (fun q => pe_glob (v := .ref mD) gD kD rfl) (fun q => pe_glob (v := .ref mP) gP kP rfl) o3 h1) (pss_one (ps_add hN1 hv1 d1 e1 h5)) (pss_nil (X := X))
  have st3 := ps_if (pos := p5) (pt_is ec hz hf hp hN0 hv0 d0 e0 gi mi (fun q => pe_glob (v := .ref mT) gT kT rfl) (.inl ⟨mT, rfl, kt⟩) h2) (pss_one (ps_add hN1 hv1 d1 e1 h6)) (pss_nil (X := X))
  have st4 := ps_if (pos := p6) (pt_is ec hz hf hp hN0 hv0 d0 e0 gi mi (fun q => pe_glob (v := .ref mR) gR kR rfl) (.inl ⟨mR, rfl, kr⟩) h3) (pss_one (ps_add hN1 hv1 d1 e1 h7)) (pss_nil (X := X))
  have st5 := ps_if (pos := p7) (pt_not (pos := q) (pt_is ec hz hf hp hN0 hv0 d0 e0 gi mi (fun q => pe_bltn (v := .ty "ValueError") gv mv (by decide +kernel) rfl) (.inr ⟨"ValueError", rfl, kv⟩) h4)) (pss_one (ps_add hN1 hv1 d1 e1 h8)) (pss_nil (X := X))
  have st6 := ps_ret (pos := p9) (pe_var (X := X) (i := 1) (pos := p8) hN1 hv1 d1 e1)
  refine PSs.imp (pss_cons st1 (pss_cons st2 (pss_cons st3 (pss_cons st4 (pss_cons st5 (pss_one st6)))))) fun D σ H ⟨g1, g2, g3⟩ => ?_
  -- s = []
  refine ⟨Nat.zero_le _, fun l hl => ?_⟩
  have K0 : KSt p.1 H l [] (σ.set 1 (some (.ref l))) (upd H l (.lst [])) :=
    ⟨by rw [List.getElem?_set_ne (by decide)]; exact g1, List.getElem?_set_self g2, upd_same, hl, fun x o hx e => by rw [upd_ne hx]; exact e⟩
  -- the others: none
  refine ⟨K0.1, fun tp ht => ?_⟩
  have K1 := K0.tup (o := .tup [.ref mM, .ref mD, .ref mP]) ht
  have fin : ∀ {xs : List V} {H3 : Hp}, KSt p.1 H l xs (σ.set 1 (some (V.ref l))) H3 → xs = (T.kinds c).map V.str → ∃ v, (σ.set 1 (some (V.ref l)))[1]? = some (some v) ∧ D.rt v H3 := fun {xs H3} k e => by
    subst e
    exact ⟨.ref l, k.2.1, g3 l H3 k.2.2.2.1 k.2.2.1 k.2.2.2.2⟩
  -- the last two
  have tail5 : ∀ {xs : List V} {H3 : Hp}, KSt p.1 H l xs (σ.set 1 (some (V.ref l))) H3 → xs = (T.kinds c).map V.str → (σ.set 1 (some (V.ref l)))[0]? = some (some (.ref p.1)) ∧ (if (!true) = true then ∃ l xs, (σ.set 1 (some (V.ref l)))[1]? = some (some (.ref l)) ∧ H3 l = some (.lst xs) ∧ xs.length < sizeLine ∧ ∃ v, (σ.set 1 (some (V.ref l)))[1]? = some (some v) ∧ D.rt v (upd H3 l (.lst (xs ++ [.str "no ValueError"]))) else ∃ v, (σ.set 1 (some (V.ref l)))[1]? = some (some v) ∧ D.rt v H3) := fun {xs H3} k e =>
    ⟨k.1, by rw [if_neg (by decide)]; exact fin k e⟩
  refine iteF ?_
  refine ⟨K1.1, ?_⟩
  have small : ∀ {xs : List V}, xs.length < 5 → xs.length < sizeLine := fun h => Nat.lt_of_lt_of_le h (Nat.le_of_ble_eq_true rfl)
  cases bT with
  | true =>
    refine iteT ⟨l, [], K1.2.1, K1.2.2.1, small (by decide), ?_⟩
    have K2 := K1.step ([] ++ [V.str ("NoText" : Str)])
    refine ⟨K2.1, ?_⟩
    cases bR with
    | true =>
      refine iteT ⟨l, _, K2.2.1, K2.2.2.1, small (by decide), ?_⟩
      have K3 := K2.step (([] ++ [V.str ("NoText" : Str)]) ++ [V.str ("NoTree" : Str)])
      exact tail5 K3 (by rw [ek]; rfl)
    | false => exact iteF (tail5 K2 (by rw [ek]; rfl))
  | false =>
    refine iteF ⟨K1.1, ?_⟩
    cases bR with
    | true =>
      refine iteT ⟨l, _, K1.2.1, K1.2.2.1, small (by decide), ?_⟩
      have K3 := K1.step ([] ++ [V.str ("NoTree" : Str)])
      exact tail5 K3 (by rw [ek]; rfl)
    | false => exact iteF (tail5 K1 (by rw [ek]; rfl))
end
section
open PySem.W
variable {K : PySem.W.Frag} {x C : Addr} {b : Bool}
theorem kitOne_ref (h1 : hasDictIn K C = true) (h2 : typeIn K (.ref C) = some (.type "type")) (h3 : subIn K (.ref x) (.ref C) = some b) (h4 : b = false → (Value.ref x == Value.ref C) = false) : kitOne K (.ref x) (.ref C) = some b := by
  obtain ⟨cd, hc, _⟩ := any_some h1
  have e2 : ((clsIn K C).isSome && typeIn K (.ref C) == some (.type "type")) = true := by rw [hc, h2] <;> rfl
  have e3 : kitCls K (.ref x) (.ref C) = some b := by
    show (if ((clsIn K C).isSome && typeIn K (.ref C) == some (.type "type")) = true then subIn K (.ref x) (.ref C) else none) = some b
    rw [if_pos e2]
    exact h3
  unfold kitOne
  cases b with
  | true =>
    split
    · rfl
    · exact e3
  | false =>
    rw [if_neg (by rw [h4 rfl]; exact Bool.false_ne_true)]
    exact e3
theorem kitOne_ty (h3 : subIn K (.ref x) (.type "ValueError") = some true) : kitOne K (.ref x) (.type "ValueError") = some true := by
  have e : kitMeta "ValueError" = true := by decide +kernel
  have e3 : kitCls K (.ref x) (.type "ValueError") = some true := by
    show (if kitMeta "ValueError" = true then subIn K (.ref x) (.type "ValueError") else none) = some true
    rw [if_pos e]
    exact h3
  unfold kitOne
  split
  · rfl
  · exact e3
theorem kitAny3 {t p q r : Value} (h1 : kitOne K t p = some false) (h2 : kitOne K t q = some false) (h3 : kitOne K t r = some false) : kitAny K t [p, q, r] = some false := by
  unfold kitAny
  rw [h1]
  dsimp only
  unfold kitAny
  rw [h2]
  dsimp only
  unfold kitAny
  rw [h3]
  dsimp only
  unfold kitAny
  rfl
end
end Mi
/-! Mi12: the look at statements; a statement that passes it runs as the small language says. -/
namespace Mi
open PySem PySem.Spec PyProof.Rows L2

def notComp : Expr → Bool
  | .ListComp _ _ _ _ => false | .SetComp _ _ _ _ => false | .DictComp _ _ _ _ _ => false | _ => true
def notTup : Expr → Bool
  | .Tuple _ _ _ => false | _ => true
theorem swap_no {e : Expr} {t : Option Expr} {l : Nat} {env : Env} (h : notComp e = true) : swapsWith e t l env = pure false := by
  cases e <;> first | rfl | exact ff h
theorem stores_no {e tg : Expr} {env : Env} (h : notTup e = true) : swappedStores [tg] e env = pure none := by
  cases e with
  | Tuple _ _ _ => exact ff h
  | _ => cases tg <;> rfl
theorem stores_sub {e u w : Expr} {p : Pos} {env : Env} : swappedStores [.Subscript u w p] e env = pure none := by
  cases e <;> rfl
def lineOf : Expr → Nat
  | .Name _ p => p.line | _ => 0
/-- does a comprehension's value go to its name at once? -/
def swB (Z : Sx) (x : Str) (p : Pos) : Expr → Bool
  | .ListComp _ _ scope pos => decide (Z.sc.names.lookup x = some .local) && (p.line == pos.line) && !(scope.names.any fun (n, k) => n == x && (k == .local || k == .cell))
  | _ => false

def asgName : Stmt → Option (Str × Pos × Expr × Pos)
  | .Assign [.Name n p] v q => some (n, p, v, q)
  | _ => none
theorem asgName_of {x : Stmt} {n : Str} {p q : Pos} {v : Expr} (h : asgName x = some (n, p, v, q)) : x = .Assign [.Name n p] v q := by
  unfold asgName at h
  split at h
  · cases h; rfl
  · cases h
def asgTg : Stmt → Option (Expr × Expr × Pos)
  | .Assign [t] v q => some (t, v, q)
  | _ => none
theorem asgTg_of {x : Stmt} {t v : Expr} {q : Pos} (h : asgTg x = some (t, v, q)) : x = .Assign [t] v q := by
  unfold asgTg at h
  split at h
  · cases h; rfl
  · cases h
def asgAttr : Stmt → Option (Expr × Str × Pos × Expr × Pos)
  | .Assign [.Attribute u n p] v q => some (u, n, p, v, q)
  | _ => none
theorem asgAttr_of {x : Stmt} {n : Str} {p q : Pos} {u v : Expr} (h : asgAttr x = some (u, n, p, v, q)) : x = .Assign [.Attribute u n p] v q := by
  unfold asgAttr at h
  split at h
  · cases h; rfl
  · cases h
def asgSub : Stmt → Option (Expr × Expr × Pos × Expr × Pos)
  | .Assign [.Subscript u n p] v q => some (u, n, p, v, q)
  | _ => none
theorem asgSub_of {x : Stmt} {p q : Pos} {u n v : Expr} (h : asgSub x = some (u, n, p, v, q)) : x = .Assign [.Subscript u n p] v q := by
  unfold asgSub at h
  split at h
  · cases h; rfl
  · cases h
def augName : Stmt → Option (Str × Pos × Operator × Expr × Pos)
  | .AugAssign (.Name n p) o v q => some (n, p, o, v, q)
  | _ => none
theorem augName_of {x : Stmt} {n : Str} {o : Operator} {p q : Pos} {v : Expr} (h : augName x = some (n, p, o, v, q)) : x = .AugAssign (.Name n p) o v q := by
  unfold augName at h
  split at h
  · cases h; rfl
  · cases h
def augAttr : Stmt → Option (Expr × Str × Pos × Operator × Expr × Pos)
  | .AugAssign (.Attribute u n p) o v q => some (u, n, p, o, v, q)
  | _ => none
theorem augAttr_of {x : Stmt} {n : Str} {o : Operator} {p q : Pos} {u v : Expr} (h : augAttr x = some (u, n, p, o, v, q)) : x = .AugAssign (.Attribute u n p) o v q := by
  unfold augAttr at h
  split at h
  · cases h; rfl
  · cases h
def raiseText : Stmt → Option Str
  | .Raise (some (.Call (.Name n _) [.Constant (.str _) _ _] [] _)) none _ => some n
  | _ => none
theorem raiseText_of {x : Stmt} {n : Str} (h : raiseText x = some n) : ∃ p m j p2 p3 p4, x = .Raise (some (.Call (.Name n p) [.Constant (.str m) j p2] [] p3)) none p4 := by
  unfold raiseText at h
  split at h
  · cases h; exact ⟨_, _, _, _, _, _, rfl⟩
  · cases h

def tryShape : Stmt → Option (List Stmt × Str × Str × Str × Str)
  | .Try body [.ExceptHandler (some (.Name y _)) (some n) [.Assign [.Name m _] (.Call (.Name f _) [.Name n' _] [] _) _] _] [] [] _ => if n' = n then some (body, y, n, m, f) else none
  | _ => none
theorem tryShape_of {x : Stmt} {body : List Stmt} {y n m f : Str} (h : tryShape x = some (body, y, n, m, f)) : ∃ p1 p2 p3 p4 p5 p6 p7 p8, x = .Try body [.ExceptHandler (some (.Name y p1)) (some n) [.Assign [.Name m p2] (.Call (.Name f p3) [.Name n p4] [] p5) p6] p7] [] [] p8 := by
  unfold tryShape at h
  split at h
  · split at h
    · rename_i e
      cases h
      subst e
      exact ⟨_, _, _, _, _, _, _, _, rfl⟩
    · cases h
  · cases h

structure CkS where
  s : Stmt → Bool := fun _ => false
  b : List Stmt → Bool := fun _ => false

def chkS (G : Gt) (Z : Sx) : S → CkS
  | .nil => { b := fun l => l.isEmpty }
  | .cons s r => { b := fun l => match l with
      | st :: more => (chkS G Z s).s st && (chkS G Z r).b more
      | [] => false }
  | .ex e => { s := fun x => match x with
      | .Expr v _ => notComp v && (chk G e Z).e v
      | _ => false }
  | .set i e => { s := fun x => match asgName x with
      | some (n, p, v, _) => decide (Z.N[i]? = some n) && ownB Z n && (chk G e Z).e v && (notComp v || swB Z n p v)
      | none => false }
  | .setT is e => { s := fun x => match asgTg x with
      | some (tg, v, _) => isTupT tg && notComp v && notTup v && chkG Z (.tup is) tg && (chk G e Z).e v
      | none => false }
  | .setP i j as => { }
  | .setF o f e => { s := fun x => match asgAttr x with
      | some (u, n, _, v, _) => decide (n = f) && notComp v && (chk G o Z).e u && (chk G e Z).e v
      | none => false }
  | .setI o i e => { s := fun x => match asgSub x with
      | some (u, w, _, v, _) => notSlice w && notComp v && (chk G o Z).e u && (chk G i Z).e w && (chk G e Z).e v
      | none => false }
  | .aug i o e => { s := fun x => match augName x with
      | some (n, _, op, v, _) => decide (Z.N[i]? = some n) && decide (op = o) && ownB Z n && (chk G e Z).e v && (decide (op = .Add) || decide (op = .Sub))
      | none => false }
  | .augF o f p e => { s := fun x => match augAttr x with
      | some (u, n, _, op, v, _) => decide (n = f) && decide (op = p) && (chk G o Z).e u && (chk G e Z).e v && (decide (op = .Add) || decide (op = .Sub))
      | none => false }
  | .ife t a b => { s := fun x => match x with
      | .If u l1 l2 _ => (chk G t Z).t u && (chkS G Z a).b l1 && (chkS G Z b).b l2
      | _ => false }
  | .loop g it b => { s := fun x => match x with
      | .For tg iter l1 [] _ => notSet iter && chkG Z g tg && (chk G it Z).i tg iter && (chkS G Z b).b l1
      | _ => false }
  | .whl t b => { s := fun x => match x with
      | .While u l1 [] _ => (chk G t Z).t u && (chkS G Z b).b l1
      | _ => false }
  | .ret e => { s := fun x => match x with
      | .Return (some v) _ => (chk G e Z).e v
      | _ => false }
  | .retN => { s := fun x => match x with
      | .Return none _ => true
      | _ => false }
  | .brk => { s := fun x => match x with
      | .Break _ => true
      | _ => false }
  | .cont => { s := fun x => match x with
      | .Continue _ => true
      | _ => false }
  | .pass => { s := fun x => match x with
      | .Pass _ => true
      | _ => false }
  | .never => { s := fun _ => true }
  | .raise c as => { s := fun x => match raiseText x with
      | some n => glB Z.sc n && plainName n && decide (G.xc n = some c)
      | none => false }
  | .try b c i v => { s := fun x => match tryShape x with
      | some (body, y, n, m, f) => decide (G.tc y = some c) && glB Z.sc y && plainName y && decide (Z.N[i]? = some n) && plainName n && decide (Z.sc.names.lookup n = some .local) && decide (Z.N[v]? = some m) && ownB Z m && decide (i ≠ v) && G.kf f && glB Z.sc f && plainName f && (chkS G Z b).b body
      | none => false }

def GotS (B : Bs) (Wx : WX) (μ : List Addr) (H : Hp) (A : R Fl) (D : Ends) : Prop :=
  match A with
  | .ok (.nx ρ') τ' => ∀ μ' H' σ', Le B.K μ H μ' H' → RH B.K B.Cl μ' τ' H' → RS B.K μ' H' ρ' σ' → D.nx σ' H'
  | .ok (.rt w) τ' => ∀ μ' H' v, Le B.K μ H μ' H' → RH B.K B.Cl μ' τ' H' → RV B.K μ' H' w v → D.rt v H'
  | .ok (.bk ρ') τ' => ∀ μ' H' σ', Le B.K μ H μ' H' → RH B.K B.Cl μ' τ' H' → RS B.K μ' H' ρ' σ' → D.bk σ' H'
  | .ok (.ct ρ') τ' => ∀ μ' H' σ', Le B.K μ H μ' H' → RH B.K B.Cl μ' τ' H' → RS B.K μ' H' ρ' σ' → D.ct σ' H'
  | .exn x ρ' τ' => ∀ μ' H' σ' d, Le B.K μ H μ' H' → RH B.K B.Cl μ' τ' H' → RS B.K μ' H' ρ' σ' → RXn x d → Wx (.ref (B.Xc x.c)) d σ' H'
  | .no => False
section
variable {B : Bs} {α β : Type} {rel : Rel α β} {Wx : WX} {μ μ1 : List Addr} {H H1 : Hp} {D : Ends}
theorem GotS.le {A : R Fl} (l : Le B.K μ H μ1 H1) (h : GotS B Wx μ H A D) : GotS B Wx μ1 H1 A D := by
  cases A with
  | ok a τ' => cases a <;> exact fun μ' H' b l' => h μ' H' b (l.trans l')
  | exn x ρ' τ' => exact fun μ' H' σ' d l' => h μ' H' σ' d (l.trans l')
  | no => exact h
theorem GotS.bnd {A : R α} {f : α → Sto → R Fl} (h : GotS B Wx μ H (A.bind f) D) :
    Got B rel Wx μ H A fun b H1 => ∃ a τ1 μ1, Le B.K μ H μ1 H1 ∧ RH B.K B.Cl μ1 τ1 H1 ∧ rel μ1 H1 a b ∧ GotS B Wx μ1 H1 (f a τ1) D ∧ A = .ok a τ1 := by
  cases A with
  | ok a τ' => exact fun μ' H' b l' r e => ⟨a, τ', μ', l', r, e, GotS.le l' h, rfl⟩
  | exn x ρ' τ' => exact h
  | no => exact h
end
def tS (T : Tb) (C : Calls) (B : Bs) (Wx : WX) (ir : S) : TS := fun D σ H => ∃ μ ρ τ, RH B.K B.Cl μ τ H ∧ RS B.K μ H ρ σ ∧ GotS B Wx μ H (evS T C ir ρ τ) D

/-- what a class of exceptions is to be -/
structure XcOk (K : PySem.W.Frag) (mg : Str → Option Value) (n : Str) (a : Addr) : Prop where
  at_ : mg n = some (.ref a)
  kp : PySem.W.keepIn K (.ref a) = true
  ex : ∃ bmB newId initId base, ExcBaseFacts base newId initId bmB ∧ PySem.W.excIn K a bmB newId = true
  sb : PySem.W.subIn K (.ref a) (.type "BaseException") = some true
  ty : PySem.W.typeIn K (.ref a) = some (.type "type")
/-- the class of an except clause -/
structure TcOk (K : PySem.W.Frag) (T : Tb) (B : Bs) (mg : Str → Option Value) (y : Str) (c : Nat) : Prop where
  at_ : mg y = some (.ref (B.Xc c))
  ex : ∀ c', T.rs c' = true → PySem.W.exmOne K (.ref (B.Xc c')) (.ref (B.Xc c)) = some (T.sub c' c)
structure FitS (G : Gt) (T : Tb) (C : Calls) (B : Bs) (k : Nat) (X : L2.Cx) (Z : Sx) (Wx : WX) : Prop extends Fit G T C B k X Z Wx where
  po : PassesOwn (model X.prog X.w) X.A X.env X.xe
  kd : X.env.scope.kind = .function
  xc : ∀ n c, G.xc n = some c → XcOk X.K X.mg n (B.Xc c)
  stk : X.stack = X.env :: X.outer
  frm : X.env.frame = some X.env.locals
  tc : ∀ y c, G.tc y = some c → TcOk X.K T B X.mg y c
  kf : ∀ f, G.kf f = true → ∃ a fd y, X.mg f = some (.ref a) ∧ PySem.W.keepIn X.K (.ref a) = true ∧ Binds X.K fd [y] [] ∧ FnK X.prog X.w X.K X.mg X.base T B 1 a fd y
theorem FitS.tr {G : Gt} {T : Tb} {C : Calls} {B : Bs} {k : Nat} {X : L2.Cx} {Z : Sx} {Wx W : WX} {pn : List (Addr × Obj)} {xe : Value → Shared → Prop} (F : FitS G T C B k X Z Wx) (tk : L2N.Takes (X.tr pn xe) W) (po : PassesOwn (model X.prog X.w) X.A X.env xe) : FitS G T C B k (X.tr pn xe) Z W :=
  { N := F.N, nd := F.nd, sc := F.sc, own := F.own, calm := F.calm, K := F.K, room := F.room, con := F.con, bi := F.bi, fn := F.fn, cl := F.cl, meth := F.meth, attr := F.attr, tk := tk, po := po, kd := F.kd, xc := F.xc, stk := F.stk, frm := F.frm, tc := F.tc, kf := F.kf }
structure SndS (G : Gt) (T : Tb) (C : Calls) (B : Bs) (X : L2.Cx) (Z : Sx) (Wx : WX) (ir : S) : Prop where
  s : ∀ x, (chkS G Z ir).s x = true → PS X x (tS T C B Wx ir)
  b : ∀ l, (chkS G Z ir).b l = true → PSs X l (tS T C B Wx ir)

section
variable {G : Gt} {T : Tb} {C : Calls} {B : Bs} {k : Nat} {X : L2.Cx} {Z : Sx} {Wx : WX}
theorem SndS.one {ir : S} (cb : (chkS G Z ir).b = fun _ => false) (h : ∀ x, (chkS G Z ir).s x = true → PS X x (tS T C B Wx ir)) : SndS G T C B X Z Wx ir :=
  ⟨h, fun l hl => by rw [cb] at hl; exact ff hl⟩
theorem ss_nil (F : FitS G T C B k X Z Wx) : SndS G T C B X Z Wx .nil := by
  refine ⟨fun x h => ff h, fun l h => ?_⟩
  cases l with
  | nil =>
    refine PSs.imp pss_nil fun D σ H ⟨μ, ρ, τ, rh, rs, g⟩ => ?_
    exact g μ H σ Le.refl rh rs
  | cons _ _ => exact ff h
theorem ss_cons {s r : S} (F : FitS G T C B k X Z Wx) (ihs : SndS G T C B X Z Wx s) (ihr : SndS G T C B X Z Wx r) : SndS G T C B X Z Wx (.cons s r) := by
  refine ⟨fun x h => ff h, fun l h => ?_⟩
  cases l with
  | nil => exact ff h
  | cons st more =>
    have h' : ((chkS G Z s).s st && (chkS G Z r).b more) = true := h
    rw [Bool.and_eq_true] at h'
    refine PSs.imp (pss_cons (ihs.s st h'.1) (ihr.b more h'.2)) fun D σ H ⟨μ, ρ, τ, rh, rs, g⟩ => ?_
    have g' : GotS B Wx μ H (match evS T C s ρ τ with
      | .ok (.nx ρ1) τ1 => evS T C r ρ1 τ1
      | x => x) D := g
    refine ⟨μ, ρ, τ, rh, rs, ?_⟩
    cases e : evS T C s ρ τ with
    | no => rw [e] at g'; exact g'
    | exn x ρ' τ' => rw [e] at g'; exact g'
    | ok a τ' =>
      rw [e] at g'
      cases a with
      | nx ρ1 => exact fun μ' H' σ' l rh' rs' => ⟨μ', ρ1, τ', rh', rs', GotS.le l g'⟩
      | rt w => exact g'
      | bk ρ1 => exact g'
      | ct ρ1 => exact g'
theorem ss_ex {e : E} (F : FitS G T C B k X Z Wx) : SndS G T C B X Z Wx (.ex e) := by
  refine SndS.one rfl fun x h => ?_
  cases x with
  | Expr v pos =>
    have h' : (notComp v && (chk G e Z).e v) = true := h
    rw [Bool.and_eq_true] at h'
    refine PS.imp (ps_expr ((snd_all e X Z Wx F.toFit).e v h'.2) (swap_no h'.1)) fun D σ H ⟨μ, ρ, τ, rh, rs, g⟩ => ?_
    have g' : GotS B Wx μ H (((ev T C e).e ρ τ).bind fun _ τ1 => .ok (.nx ρ) τ1) D := g
    exact ⟨μ, ρ, τ, rh, rs, (GotS.bnd (rel := RVr B) g').imp fun v H1 ⟨w, τ1, μ1, l1, rh1, rv, g1, _⟩ => g1 μ1 H1 σ Le.refl rh1 (rs.le l1)⟩
  | _ => exact ff h
theorem set_imp {i : Nat} {e : E} {te : TE} (ht : ∀ σ H Q, tE T C B Wx e σ H Q → te σ H Q) {D : Ends} {σ : L2.St} {H : Hp} (h : tS T C B Wx (.set i e) D σ H) : tAsg te (gName i) D σ H := by
  obtain ⟨μ, ρ, τ, rh, rs, g⟩ := h
  have g' : GotS B Wx μ H (((ev T C e).e ρ τ).bind fun w τ1 => .ok (.nx (ρ.set i (some w))) τ1) D := g
  exact ht σ H _ ⟨μ, ρ, τ, rh, rs, (GotS.bnd (rel := RVr B) g').imp fun v H1 ⟨w, τ1, μ1, l1, rh1, rv, g1, _⟩ => g1 μ1 H1 _ Le.refl rh1 ((rs.le l1).set rv)⟩
theorem ss_set {i : Nat} {e : E} (F : FitS G T C B k X Z Wx) : SndS G T C B X Z Wx (.set i e) := by
  refine SndS.one rfl fun x h => ?_
  have h0 : (match asgName x with
      | some (n, p, v, _) => decide (Z.N[i]? = some n) && ownB Z n && (chk G e Z).e v && (notComp v || swB Z n p v)
      | none => false) = true := h
  cases hx : asgName x with
  | none => rw [hx] at h0; exact ff h0
  | some q =>
    obtain ⟨n, p, v, pos⟩ := q
    rw [hx] at h0
    have ex := asgName_of hx
    subst ex
    simp only [Bool.and_eq_true, decide_eq_true_iff] at h0
    obtain ⟨⟨⟨h1, h2⟩, h3⟩, h4⟩ := h0
    obtain ⟨o1, o2⟩ := F.own n h2
    have hi : X.N[i]? = some n := by rw [F.N]; exact h1
    by_cases hn : notComp v = true
    · exact PS.imp (ps_set F.nd hi o1 ((snd_all e X Z Wx F.toFit).e v h3) (swap_no hn) o2) fun D σ H q => set_imp (fun _ _ _ q => q) q
    · have h5 : swB Z n p v = true := by
        rw [Bool.or_eq_true] at h4
        exact h4.resolve_left hn
      cases v with
      | ListComp el gs scope cp =>
        have h6 : (decide (Z.sc.names.lookup n = some .local) && (p.line == cp.line) && !(scope.names.any fun (m, k) => m == n && (k == .local || k == .cell))) = true := h5
        rw [Bool.and_eq_true, Bool.and_eq_true, decide_eq_true_iff, Bool.not_eq_true'] at h6
        obtain ⟨⟨h7, h8⟩, h9⟩ := h6
        have hl : X.env.scope.names.lookup n = some .local := by rw [F.sc]; exact h7
        cases e with
        | lc g it tst elt vs =>
          obtain ⟨el', tg, iter, ifs, scope', pos', ex, p1, p2, p3, p4, p5, p6, p7, p8⟩ := lc_parts F.toFit (snd_all it X Z Wx F.toFit) (fun X' Z' Wx' F' => snd_all tst X' Z' Wx' F') (fun X' Z' Wx' F' => snd_all elt X' Z' Wx' F') h3
          cases ex
          refine PS.imp (ps_setLc F.calm F.nd hi hl (sw_true F.kd hl h8 h9) p1 p2 p5 (fun s H Ca cl fp => p6 s H Ca cl fp) (fun s H Ca cl fp => p7 s H Ca cl fp) p8) fun D σ H q => set_imp (fun σ H Q q => ?_) q
          rw [p3]
          exact lc_run F.K p4 q
        | _ => exact ff h3
      | _ => exact ff h5
theorem ss_setT {is : List Nat} {e : E} (F : FitS G T C B k X Z Wx) : SndS G T C B X Z Wx (.setT is e) := by
  refine SndS.one rfl fun x h => ?_
  have h0 : (match asgTg x with
      | some (tg, v, _) => isTupT tg && notComp v && notTup v && chkG Z (.tup is) tg && (chk G e Z).e v
      | none => false) = true := h
  cases hx : asgTg x with
  | none => rw [hx] at h0; exact ff h0
  | some q =>
    obtain ⟨tg, v, pos⟩ := q
    rw [hx] at h0
    have ex := asgTg_of hx
    subst ex
    simp only [Bool.and_eq_true] at h0
    obtain ⟨⟨⟨⟨h1, h2⟩, h3⟩, h4⟩, h5⟩ := h0
    obtain ⟨tes, tj, tpos, rfl⟩ := tup_of h1
    refine PS.imp (ps_asg ((snd_all e X Z Wx F.toFit).e v h5) (pg_both F.toFit h4) (swap_no (t := some (.Tuple tes tj tpos)) (l := pos.line) (env := X.env) h2) (stores_no h3) rfl) fun D σ H ⟨μ, ρ, τ, rh, rs, g⟩ => ?_
    have g' : GotS B Wx μ H (((ev T C e).e ρ τ).bind fun w τ1 => match putT τ1 is w ρ with
      | some ρ1 => .ok (.nx ρ1) τ1
      | none => .no) D := g
    refine ⟨μ, ρ, τ, rh, rs, (GotS.bnd (rel := RVr B) g').imp fun v H1 ⟨w, τ1, μ1, l1, rh1, rv, g1, _⟩ => ?_⟩
    cases ep : putT τ1 is w ρ with
    | none => rw [ep] at g1; exact g1.elim
    | some ρ1 =>
      rw [ep] at g1
      exact tgB_imp F.K ep rh1 rv (rs.le l1) fun σ' rs' => g1 μ1 H1 σ' Le.refl rh1 rs'
theorem ss_setF {o : E} {f : Str} {e : E} (F : FitS G T C B k X Z Wx) : SndS G T C B X Z Wx (.setF o f e) := by
  refine SndS.one rfl fun x h => ?_
  have h0 : (match asgAttr x with
      | some (u, n, _, v, _) => decide (n = f) && notComp v && (chk G o Z).e u && (chk G e Z).e v
      | none => false) = true := h
  cases hx : asgAttr x with
  | none => rw [hx] at h0; exact ff h0
  | some q =>
    obtain ⟨u, n, p, v, pos⟩ := q
    rw [hx] at h0
    have ex := asgAttr_of hx
    subst ex
    simp only [Bool.and_eq_true, decide_eq_true_iff] at h0
    obtain ⟨⟨⟨rfl, h2⟩, h3⟩, h4⟩ := h0
    refine PS.imp (ps_fld ((snd_all o X Z Wx F.toFit).e u h3) ((snd_all e X Z Wx F.toFit).e v h4) (swap_no h2)) fun D σ H ⟨μ, ρ, τ, rh, rs, g⟩ => ?_
    have g' : GotS B Wx μ H (((ev T C e).e ρ τ).bind fun w τ1 => ((ev T C o).e ρ τ1).bind fun x τ2 => match setField T τ2 x n w with
      | some τ3 => .ok (.nx ρ) τ3
      | none => .no) D := g
    refine ⟨μ, ρ, τ, rh, rs, (GotS.bnd (rel := RVr B) g').imp fun v H1 ⟨w, τ1, μ1, l1, rh1, rv, g1, _⟩ => ?_⟩
    refine ⟨μ1, ρ, τ1, rh1, rs.le l1, (GotS.bnd (rel := RVr B) g1).imp fun xv H2 ⟨y, τ2, μ2, l2, rh2, ry, g2, _⟩ => ?_⟩
    have ry' : RV B.K μ2 H2 y xv := ry
    cases ry' with
    | @ref m a ha =>
      cases es : setField T τ2 (.ref m) n w with
      | none => rw [es] at g2; exact g2.elim
      | some τ3 =>
        rw [es] at g2
        have es' : (match τ2[m]? with
          | some (.ins c fs) => if T.attr c n = true ∧ fs.length < 1000 then some (τ2.set m (.ins c (putW n w fs))) else none
          | _ => none) = some τ3 := es
        cases e1 : τ2[m]? with
        | none => rw [e1] at es'; cases es'
        | some ob =>
          rw [e1] at es'
          obtain ⟨a', ha', ho⟩ := rh2.at_ e1
          obtain rfl := Option.some.inj (ha'.symm.trans ha)
          cases ob with
          | ins c fs =>
            dsimp only at es'
            split at es'
            · rename_i hc
              cases es'
              obtain ⟨dx, ps, h0, r⟩ := ho
              obtain ⟨c1, c2⟩ := F.attr c n hc.1
              refine ⟨a', _, dx, ps, rfl, h0, c1, c2, by rw [← r.length]; exact hc.2, ?_⟩
              have l3 : Le B.K μ2 H2 μ2 (upd H2 a' (.ins (B.Cl c) dx (L2.putF n v ps))) := ⟨⟨[], by simp⟩, tup_upd (noTup_ins h0)⟩
              obtain ⟨rh3, l3'⟩ := rh2.put (o := .ins c (putW n w fs)) (ho := .ins (B.Cl c) dx (L2.putF n v ps)) ha' e1 (fun xs z => by cases z) (noTup_ins h0) ⟨dx, _, upd_same, (r.put (RV.le l2 rv)).le l3⟩
              exact g2 μ2 _ σ l3 rh3 (((rs.le l1).le l2).le l3)
            · cases es'
          | _ => cases es'
    | _ => exact False.elim g2
theorem ss_ret {e : E} (F : FitS G T C B k X Z Wx) : SndS G T C B X Z Wx (.ret e) := by
  refine SndS.one rfl fun x h => ?_
  cases x with
  | Return o pos =>
    cases o with
    | none => exact ff h
    | some v =>
      refine PS.imp (ps_ret ((snd_all e X Z Wx F.toFit).e v h)) fun D σ H ⟨μ, ρ, τ, rh, rs, g⟩ => ?_
      have g' : GotS B Wx μ H (((ev T C e).e ρ τ).bind fun w τ1 => .ok (.rt w) τ1) D := g
      exact ⟨μ, ρ, τ, rh, rs, (GotS.bnd (rel := RVr B) g').imp fun v H1 ⟨w, τ1, μ1, l1, rh1, rv, g1, _⟩ => g1 μ1 H1 v Le.refl rh1 rv⟩
  | _ => exact ff h
theorem ss_retN (F : FitS G T C B k X Z Wx) : SndS G T C B X Z Wx .retN := by
  refine SndS.one rfl fun x h => ?_
  cases x with
  | Return o pos =>
    cases o with
    | none => exact PS.imp ps_retN fun D σ H ⟨μ, ρ, τ, rh, rs, g⟩ => g μ H .non Le.refl rh .non
    | some v => exact ff h
  | _ => exact ff h
theorem ss_brk (F : FitS G T C B k X Z Wx) : SndS G T C B X Z Wx .brk := by
  refine SndS.one rfl fun x h => ?_
  cases x with
  | Break pos => exact PS.imp ps_break fun D σ H ⟨μ, ρ, τ, rh, rs, g⟩ => g μ H σ Le.refl rh rs
  | _ => exact ff h
theorem ss_cont (F : FitS G T C B k X Z Wx) : SndS G T C B X Z Wx .cont := by
  refine SndS.one rfl fun x h => ?_
  cases x with
  | Continue pos => exact PS.imp ps_continue fun D σ H ⟨μ, ρ, τ, rh, rs, g⟩ => g μ H σ Le.refl rh rs
  | _ => exact ff h
theorem ss_pass (F : FitS G T C B k X Z Wx) : SndS G T C B X Z Wx .pass := by
  refine SndS.one rfl fun x h => ?_
  cases x with
  | Pass pos => exact PS.imp ps_pass fun D σ H ⟨μ, ρ, τ, rh, rs, g⟩ => g μ H σ Le.refl rh rs
  | _ => exact ff h
theorem ss_ife {t : E} {a b : S} (F : FitS G T C B k X Z Wx) (iha : SndS G T C B X Z Wx a) (ihb : SndS G T C B X Z Wx b) : SndS G T C B X Z Wx (.ife t a b) := by
  refine SndS.one rfl fun x h => ?_
  cases x with
  | If u l1 l2 pos =>
    have h' : ((chk G t Z).t u && (chkS G Z a).b l1 && (chkS G Z b).b l2) = true := h
    rw [Bool.and_eq_true, Bool.and_eq_true] at h'
    refine PS.imp (ps_if ((snd_all t X Z Wx F.toFit).t u h'.1.1) (iha.b l1 h'.1.2) (ihb.b l2 h'.2)) fun D σ H ⟨μ, ρ, τ, rh, rs, g⟩ => ?_
    have g' : GotS B Wx μ H (((ev T C t).t ρ τ).bind fun k τ1 => if k = true then evS T C a ρ τ1 else evS T C b ρ τ1) D := g
    refine ⟨μ, ρ, τ, rh, rs, (GotS.bnd (rel := REq) g').imp fun v H1 ⟨d, τ1, μ1, l1, rh1, rv, g1, _⟩ => ?_⟩
    obtain rfl : d = v := rv
    cases d with
    | true => exact iteT ⟨μ1, ρ, τ1, rh1, rs.le l1, g1⟩
    | false => exact iteF ⟨μ1, ρ, τ1, rh1, rs.le l1, g1⟩
  | _ => exact ff h
theorem ss_aug {i : Nat} {o : Operator} {e : E} (F : FitS G T C B k X Z Wx) : SndS G T C B X Z Wx (.aug i o e) := by
  refine SndS.one rfl fun x h => ?_
  have h0 : (match augName x with
      | some (n, _, op, v, _) => decide (Z.N[i]? = some n) && decide (op = o) && ownB Z n && (chk G e Z).e v && (decide (op = .Add) || decide (op = .Sub))
      | none => false) = true := h
  cases hx : augName x with
  | none => rw [hx] at h0; exact ff h0
  | some q =>
    obtain ⟨n, p, op, v, pos⟩ := q
    rw [hx] at h0
    have ex := augName_of hx
    subst ex
    simp only [Bool.and_eq_true, decide_eq_true_iff] at h0
    obtain ⟨⟨⟨⟨h1, rfl⟩, h3⟩, h4⟩, hop⟩ := h0
    obtain ⟨o1, o2⟩ := F.own n h3
    have hi : X.N[i]? = some n := by rw [F.N]; exact h1
    have fin : ∀ (f : Int → Int → Int), (∀ a b : Int, augW op (.int a) (.int b) = some (.int (f a b))) → PIp X op (ipI f) → PS X (.AugAssign (.Name n p) op v pos) (tS T C B Wx (.aug i op e)) := by
      intro f hf hp
      refine PS.imp (ps_aug F.nd hi o1 ((snd_all e X Z Wx F.toFit).e v h4) hp o2) fun D σ H ⟨μ, ρ, τ, rh, rs, g⟩ => ?_
      have g' : GotS B Wx μ H (match ρ[i]? with
        | some (some x) => ((ev T C e).e ρ τ).bind fun y τ1 => match augW op x y with
          | some z => .ok (.nx (ρ.set i (some z))) τ1
          | none => .no
        | _ => .no) D := g
      cases e1 : ρ[i]? with
      | none => rw [e1] at g'; exact g'.elim
      | some ov =>
        cases ov with
        | none => rw [e1] at g'; exact g'.elim
        | some w =>
          rw [e1] at g'
          obtain ⟨xv, hxv, rx⟩ := rs.at_ i w e1
          refine ⟨xv, hxv, μ, ρ, τ, rh, rs, (GotS.bnd (rel := RVr B) g').imp fun yv H1 ⟨y, τ1, μ1, l1, rh1, ry, g1, _⟩ => ?_⟩
          have ry' : RV B.K μ1 H1 y yv := ry
          cases rx with
          | int a =>
            cases ry' with
            | int b =>
              rw [hf a b] at g1
              exact ⟨a, b, rfl, rfl, g1 μ1 H1 _ Le.refl rh1 ((rs.le l1).set (.int _))⟩
            | _ => exact False.elim g1
          | _ => cases ry' <;> exact False.elim g1
    cases op with
    | Add => exact fin _ (fun _ _ => rfl) ip_add
    | Sub => exact fin _ (fun _ _ => rfl) ip_sub
    | _ => exact ff hop
theorem aug_end {m : Nat} {n : Str} {z : Int} {rd : (Hp) → VK → Prop} (F : FitS G T C B k X Z Wx) {μ μ1 μ2 : List Addr} {H H1 H2 : Hp} {τ2 τ3 : Sto} {ρ : Sl} {σ : L2.St} {a' : Addr} {c : Nat} {D : Ends} (ha : μ1[m]? = some a')
    (hrd : ∀ H Q, Q (.int z) H → rd H Q) (l1 : Le B.K μ H μ1 H1) (l2 : Le B.K μ1 H1 μ2 H2) (rh2 : RH B.K B.Cl μ2 τ2 H2) (rs : RS B.K μ H ρ σ) (hcl : clsOf τ2 (.ref m) = some c)
    (es' : (match τ2[m]? with
      | some (.ins c fs) => if T.attr c n = true ∧ fs.length < 1000 then some (τ2.set m (.ins c (putW n (.int z) fs))) else none
      | _ => none) = some τ3) (g : GotS B Wx μ2 H2 (.ok (.nx ρ) τ3) D) (hat : T.attr c n = true) :
    rd H2 fun z H3 => ∃ dx' fs', H3 a' = some (.ins (B.Cl c) dx' fs') ∧ fs'.length < 1000 ∧ D.nx σ (upd H3 a' (.ins (B.Cl c) dx' (L2.putF n z fs'))) := by
  refine hrd H2 _ ?_
  cases e2 : τ2[m]? with
  | none => rw [e2] at es'; cases es'
  | some ob2 =>
    rw [e2] at es'
    obtain ⟨a2, ha2, ho2⟩ := rh2.at_ e2
    obtain rfl := Option.some.inj (ha2.symm.trans (l2.get ha))
    cases ob2 with
    | ins c' fs' =>
      have ec : c' = c := by
        unfold clsOf at hcl
        simp only [e2] at hcl
        exact Option.some.inj hcl
      subst ec
      dsimp only at es'
      split at es'
      · rename_i hc2
        cases es'
        obtain ⟨dx2, ps2, h02, r2⟩ := ho2
        refine ⟨dx2, ps2, h02, by rw [← r2.length]; exact hc2.2, ?_⟩
        have l3 : Le B.K μ2 H2 μ2 (upd H2 a2 (.ins (B.Cl c') dx2 (L2.putF n (.int z) ps2))) := ⟨⟨[], by simp⟩, tup_upd (noTup_ins h02)⟩
        obtain ⟨rh3, _⟩ := rh2.put (o := .ins c' (putW n (.int z) fs')) (ho := .ins (B.Cl c') dx2 (L2.putF n (.int z) ps2)) ha2 e2 (fun xs z => by cases z) (noTup_ins h02) ⟨dx2, _, upd_same, (r2.put (.int z)).le l3⟩
        exact g μ2 _ σ l3 rh3 (((rs.le l1).le l2).le l3)
      · cases es'
    | _ => cases es'
theorem ss_augF {o : E} {f : Str} {p : Operator} {e : E} (F : FitS G T C B k X Z Wx) : SndS G T C B X Z Wx (.augF o f p e) := by
  refine SndS.one rfl fun x h => ?_
  have h0 : (match augAttr x with
      | some (u, n, _, op, v, _) => decide (n = f) && decide (op = p) && (chk G o Z).e u && (chk G e Z).e v && (decide (op = .Add) || decide (op = .Sub))
      | none => false) = true := h
  cases hx : augAttr x with
  | none => rw [hx] at h0; exact ff h0
  | some q =>
    obtain ⟨u, n, ap, op, v, pos⟩ := q
    rw [hx] at h0
    have ex := augAttr_of hx
    subst ex
    simp only [Bool.and_eq_true, decide_eq_true_iff] at h0
    obtain ⟨⟨⟨⟨rfl, rfl⟩, h3⟩, h4⟩, hop⟩ := h0
    have fin : ∀ (ff : Int → Int → Int) (rd : V → V → Hp → VK → Prop), (∀ a b : Int, augW op (.int a) (.int b) = some (.int (ff a b))) → (∀ a b H Q, Q (.int (ff a b)) H → rd (.int a) (.int b) H Q) → InOp X op rd →
        PS X (.AugAssign (.Attribute u n ap) op v pos) (tS T C B Wx (.augF o n op e)) := by
      intro ff rd hf hrd hp
      refine PS.imp (ps_fldaug ((snd_all o X Z Wx F.toFit).e u h3) ((snd_all e X Z Wx F.toFit).e v h4) hp) fun D σ H ⟨μ, ρ, τ, rh, rs, g⟩ => ?_
      have g' : GotS B Wx μ H (((ev T C o).e ρ τ).bind fun x τ1 => match fieldOf T τ1 x n with
        | some a => ((ev T C e).e ρ τ1).bind fun y τ2 => match (augW op a y).bind (setFieldC T (clsOf τ1 x) τ2 x n) with
          | some τ3 => .ok (.nx ρ) τ3
          | none => .no
        | none => .no) D := g
      refine ⟨μ, ρ, τ, rh, rs, (GotS.bnd (rel := RVr B) g').imp fun xv H1 ⟨x, τ1, μ1, l1, rh1, rx, g1, _⟩ => ?_⟩
      cases ef : fieldOf T τ1 x n with
      | none => rw [ef] at g1; exact g1.elim
      | some a =>
        rw [ef] at g1
        have rx' : RV B.K μ1 H1 x xv := rx
        cases rx' with
        | @ref m ad ha =>
          have ef' : (match τ1[m]? with
            | some (.ins c fs) => if T.attr c n = true then fs.lookup n else none
            | _ => none) = some a := ef
          cases e1 : τ1[m]? with
          | none => rw [e1] at ef'; cases ef'
          | some ob =>
            rw [e1] at ef'
            obtain ⟨a', ha', ho⟩ := rh1.at_ e1
            obtain rfl := Option.some.inj (ha'.symm.trans ha)
            cases ob with
            | ins c fs =>
              dsimp only at ef'
              split at ef'
              · rename_i hc
                obtain ⟨dx, ps, h0, r⟩ := ho
                obtain ⟨c1, c2⟩ := F.attr c n hc
                obtain ⟨av, hav, rav⟩ := r.lookup ef'
                refine ⟨a', _, dx, ps, av, rfl, h0, c1, c2, hav, ?_⟩
                refine ⟨μ1, ρ, τ1, rh1, rs.le l1, (GotS.bnd (rel := RVr B) g1).imp fun yv H2 ⟨y, τ2, μ2, l2, rh2, ry, g2, _⟩ => ?_⟩
                have ry' : RV B.K μ2 H2 y yv := ry
                cases rav with
                | int i =>
                  cases ry' with
                  | int j =>
                    rw [hf i j] at g2
                    have g3 : GotS B Wx μ2 H2 (match setFieldC T (clsOf τ1 (.ref m)) τ2 (.ref m) n (.int (ff i j)) with
                      | some τ3 => .ok (.nx ρ) τ3
                      | none => .no) D := g2
                    cases es0 : setFieldC T (clsOf τ1 (.ref m)) τ2 (.ref m) n (.int (ff i j)) with
                    | none => rw [es0] at g3; exact g3.elim
                    | some τ3 =>
                      rw [es0] at g3
                      unfold setFieldC at es0
                      split at es0
                      · rename_i hcl
                        have es' : (match τ2[m]? with
                          | some (.ins c fs) => if T.attr c n = true ∧ fs.length < 1000 then some (τ2.set m (.ins c (putW n (.int (ff i j)) fs))) else none
                          | _ => none) = some τ3 := es0
                        have e1c : clsOf τ1 (.ref m) = some c := by unfold clsOf; simp only [e1]
                        rw [e1c] at hcl
                        exact aug_end F ha' (fun H Q => hrd i j H Q) l1 l2 rh2 rs hcl es' g3 hc
                      · cases es0
                  | _ => exact False.elim g2
                | _ => cases ry' <;> exact False.elim g2
              · cases ef'
            | _ => cases ef'
        | _ => cases ef
    cases op with
    | Add => exact fin _ _ (fun _ _ => rfl) (fun a b H Q q => ⟨a, b, rfl, rfl, q⟩) in_add
    | Sub => exact fin _ _ (fun _ _ => rfl) (fun a b H Q q => ⟨a, b, rfl, rfl, q⟩) in_sub
    | _ => exact ff hop
theorem ss_loop {g : Mi.G} {it : E} {b : S} (F : FitS G T C B k X Z Wx) (ihb : SndS G T C B X Z Wx b) : SndS G T C B X Z Wx (.loop g it b) := by
  refine SndS.one rfl fun x h => ?_
  cases x with
  | For tg iter l1 l2 pos =>
    cases l2 with
    | cons _ _ => exact ff h
    | nil =>
      have h0 : (notSet iter && chkG Z g tg && (chk G it Z).i tg iter && (chkS G Z b).b l1) = true := h
      simp only [Bool.and_eq_true] at h0
      obtain ⟨⟨⟨h1, h2⟩, h3⟩, h4⟩ := h0
      refine PS.imp (ps_for F.po F.calm ((snd_all it X Z Wx F.toFit).i tg iter h3) (pg_any F.toFit h2) (ihb.b l1 h4) (fold_set h1)) fun D σ H ⟨μ, ρ, τ, rh, rs, gg⟩ => ?_
      have g' : GotS B Wx μ H (((ev T C it).i ρ τ).bind fun J τ1 => forL g J.gs (fun ρ1 τ2 => evS T C b ρ1 τ2) J.xs ρ τ1) D := gg
      refine ⟨μ, ρ, τ, rh, rs, (GotS.bnd (rel := RJ B) g').imp fun J' H1 ⟨J, τ1, μ1, l1, rh1, rj, g1, _⟩ => ?_⟩
      have rj' : RJ B μ1 H1 J J' := rj
      refine ⟨fun i m σ2 H2 => i ≤ J.xs.length ∧ m = J.xs.length - i ∧ ∃ μ2 ρ2 τ2, Le B.K μ1 H1 μ2 H2 ∧ RH B.K B.Cl μ2 τ2 H2 ∧ RS B.K μ2 H2 ρ2 σ2 ∧
        GotS B Wx μ2 H2 (forL g J.gs (fun ρ1 τ2 => evS T C b ρ1 τ2) (J.xs.drop i) ρ2 τ2) D, ⟨J.xs.length, Nat.zero_le _, rfl, μ1, ρ, τ1, Le.refl, rh1, rs.le l1, ?_⟩, ?_⟩
      · rw [List.drop_zero]
        exact g1
      · rintro i m σ2 H2 ⟨hi, rfl, μ2, ρ2, τ2, l3, rh3, rs3, g3⟩
        have rjj := rj' i μ2 τ2 H2 l3 rh3
        by_cases hlt : i < J.xs.length
        · have ed : J.xs.drop i = J.xs[i] :: J.xs.drop (i + 1) := List.drop_eq_getElem_cons hlt
          rw [ed] at g3
          unfold forL at g3
          by_cases ok : It.ok J.gs τ2
          · rw [if_pos ok] at g3
            obtain ⟨go, yl⟩ := (rjj ok).1 J.xs[i] (List.getElem?_eq_getElem hlt)
            refine .inr ⟨go, fun σ' H' => i + 1 ≤ J.xs.length ∧ ∃ μ2 ρ2 τ2, Le B.K μ1 H1 μ2 H' ∧ RH B.K B.Cl μ2 τ2 H' ∧ RS B.K μ2 H' ρ2 σ' ∧
              GotS B Wx μ2 H' (forL g J.gs (fun ρ1 τ2 => evS T C b ρ1 τ2) (J.xs.drop (i + 1)) ρ2 τ2) D, ?_, fun v H' hy => ?_⟩
            · rintro σ' H' ⟨hi', μ4, ρ4, τ4, r1, r2, r3, r4⟩
              exact ⟨J.xs.length - (i + 1), by omega, hi', rfl, μ4, ρ4, τ4, r1, r2, r3, r4⟩
            · obtain ⟨l4, rh4, rv⟩ := yl v H' hy
              cases ep : putG g J.xs[i] ρ2 with
              | none => rw [ep] at g3; exact g3.elim
              | some ρ3 =>
                rw [ep] at g3
                refine tg_imp F.K ep rv (rs3.le l4) fun σ' rs' _ => ⟨μ2, ρ3, τ2, rh4, rs', ?_⟩
                have g4 := GotS.le l4 g3
                dsimp only at g4
                cases et : evS T C b ρ3 τ2 with
                | no => simp only [et] at g4; exact g4.elim
                | exn y ρ' τ' => simp only [et] at g4; exact g4
                | ok fl τ3 =>
                  simp only [et] at g4
                  cases fl with
                  | nx ρ4 => exact fun μ5 H5 σ5 l5 rh5 rs5 => ⟨hlt, μ5, ρ4, τ3, (l3.trans l4).trans l5, rh5, rs5, GotS.le l5 g4⟩
                  | ct ρ4 => exact fun μ5 H5 σ5 l5 rh5 rs5 => ⟨hlt, μ5, ρ4, τ3, (l3.trans l4).trans l5, rh5, rs5, GotS.le l5 g4⟩
                  | bk ρ4 => exact g4
                  | rt w => exact g4
          · rw [if_neg ok] at g3
            exact g3.elim
        · rw [List.drop_eq_nil_of_le (by omega)] at g3
          unfold forL at g3
          by_cases ok : It.ok J.gs τ2
          · rw [if_pos ok] at g3
            exact .inl ⟨(rjj ok).2 (by omega), g3 μ2 H2 σ2 Le.refl rh3 rs3⟩
          · rw [if_neg ok] at g3
            exact g3.elim
  | _ => exact ff h
theorem ss_whl {t : E} {b : S} (F : FitS G T C B k X Z Wx) (ihb : SndS G T C B X Z Wx b) : SndS G T C B X Z Wx (.whl t b) := by
  refine SndS.one rfl fun x h => ?_
  cases x with
  | While u l1 l2 pos =>
    cases l2 with
    | cons _ _ => exact ff h
    | nil =>
      have h0 : ((chk G t Z).t u && (chkS G Z b).b l1) = true := h
      rw [Bool.and_eq_true] at h0
      refine PS.imp (ps_while F.po ((snd_all t X Z Wx F.toFit).t u h0.1) (ihb.b l1 h0.2)) fun D σ H ⟨μ, ρ, τ, rh, rs, gg⟩ => ?_
      have g' : GotS B Wx μ H (whlL (fun ρ1 τ1 => (ev T C t).t ρ1 τ1) (fun ρ1 τ1 => evS T C b ρ1 τ1) bigL ρ τ) D := gg
      refine ⟨fun m σ2 H2 => ∃ μ2 ρ2 τ2, RH B.K B.Cl μ2 τ2 H2 ∧ RS B.K μ2 H2 ρ2 σ2 ∧ GotS B Wx μ2 H2 (whlL (fun ρ1 τ1 => (ev T C t).t ρ1 τ1) (fun ρ1 τ1 => evS T C b ρ1 τ1) m ρ2 τ2) D, ⟨bigL, μ, ρ, τ, rh, rs, g'⟩, ?_⟩
      rintro m σ2 H2 ⟨μ2, ρ2, τ2, rh2, rs2, g2⟩
      cases m with
      | zero => exact False.elim g2
      | succ m =>
        have g3 : GotS B Wx μ2 H2 (((ev T C t).t ρ2 τ2).bind fun d τ1 => if d = true then
            match evS T C b ρ2 τ1 with
            | .ok (.nx ρ2) τ2 => whlL (fun ρ1 τ1 => (ev T C t).t ρ1 τ1) (fun ρ1 τ1 => evS T C b ρ1 τ1) m ρ2 τ2
            | .ok (.ct ρ2) τ2 => whlL (fun ρ1 τ1 => (ev T C t).t ρ1 τ1) (fun ρ1 τ1 => evS T C b ρ1 τ1) m ρ2 τ2
            | .ok (.bk ρ2) τ2 => .ok (.nx ρ2) τ2
            | .ok (.rt w) τ2 => .ok (.rt w) τ2
            | .exn x ρ τ => .exn x ρ τ
            | .no => .no
          else .ok (.nx ρ2) τ1) D := g2
        refine ⟨μ2, ρ2, τ2, rh2, rs2, (GotS.bnd (rel := REq) g3).imp fun v H3 ⟨d, τ3, μ3, l3, rh3, rv, g4, _⟩ => ?_⟩
        obtain rfl : d = v := rv
        cases d with
        | false => exact iteF (g4 μ3 H3 σ2 Le.refl rh3 (rs2.le l3))
        | true =>
          rw [if_pos rfl] at g4
          refine iteT ⟨fun σ' H' => ∃ μ2 ρ2 τ2, RH B.K B.Cl μ2 τ2 H' ∧ RS B.K μ2 H' ρ2 σ' ∧ GotS B Wx μ2 H' (whlL (fun ρ1 τ1 => (ev T C t).t ρ1 τ1) (fun ρ1 τ1 => evS T C b ρ1 τ1) m ρ2 τ2) D, fun σ' H' q => ⟨m, Nat.lt_succ_self m, q⟩, μ3, ρ2, τ3, rh3, rs2.le l3, ?_⟩
          cases et : evS T C b ρ2 τ3 with
          | no => rw [et] at g4; exact g4.elim
          | exn y ρ' τ' => rw [et] at g4; exact g4
          | ok fl τ4 =>
            rw [et] at g4
            cases fl with
            | nx ρ4 => exact fun μ5 H5 σ5 l5 rh5 rs5 => ⟨μ5, ρ4, τ4, rh5, rs5, GotS.le l5 g4⟩
            | ct ρ4 => exact fun μ5 H5 σ5 l5 rh5 rs5 => ⟨μ5, ρ4, τ4, rh5, rs5, GotS.le l5 g4⟩
            | bk ρ4 => exact g4
            | rt w => exact g4
  | _ => exact ff h
theorem ss_raise {c : Nat} {as : E} (F : FitS G T C B k X Z Wx) : SndS G T C B X Z Wx (.raise c as) := by
  refine SndS.one rfl fun x h => ?_
  have h0 : (match raiseText x with
      | some n => glB Z.sc n && plainName n && decide (G.xc n = some c)
      | none => false) = true := h
  cases hx : raiseText x with
  | none => rw [hx] at h0; exact ff h0
  | some n =>
    rw [hx] at h0
    obtain ⟨p, m, j, p2, p3, p4, rfl⟩ := raiseText_of hx
    simp only [Bool.and_eq_true, decide_eq_true_iff] at h0
    obtain ⟨⟨h1, h2⟩, h3⟩ := h0
    have xo := F.xc n c h3
    obtain ⟨bmB, newId, initId, base, f1, f2⟩ := xo.ex
    refine PS.imp (L2N.ps_raise F.calm F.tk (L2N.pmk_own f1 f2 xo.at_ xo.kp (raises_own xo.sb xo.ty) (glB_gl F.toFit h1) (plainName_of h2).1)) fun D σ H ⟨μ, ρ, τ, rh, rs, g⟩ => ?_
    exact g μ H σ none Le.refl rh rs ⟨rfl, rfl⟩
theorem PSs.dyn {l : List Stmt} {t' : TS} (h : ∀ D σ H, t' D σ H → ∃ t, PSs X l t ∧ t D σ H) : PSs X l t' := ⟨fun pins s σ H D I q => by
  obtain ⟨t, ht, q'⟩ := h D σ H q
  exact ht.run pins s σ H D I q'⟩
theorem tup_ext {K : PySem.W.Frag} {H H' : Hp} (k : ∀ x o, H x = some o → H' x = some o) : ∀ b vs, SqT K H b vs → SqT K H' b vs := fun b vs s => by
  rcases s with (s | ⟨ob, s⟩) | s
  · exact .inl (.inl (k _ _ s))
  · exact .inl (.inr ⟨ob, k _ _ s⟩)
  · exact .inr s
theorem RH.ext {K : PySem.W.Frag} {Cl : Nat → Addr} {μ : List Addr} {τ : Sto} {H H' : Hp} (r : RH K Cl μ τ H) (k : ∀ x o, H x = some o → H' x = some o) : RH K Cl μ τ H' ∧ Le K μ H μ H' := by
  have l : Le K μ H μ H' := ⟨⟨[], by simp⟩, tup_ext k⟩
  refine ⟨⟨r.len, r.nd, fun n b u hb hu => ?_⟩, l⟩
  have h := r.ob n b u hb hu
  cases u with
  | lst xs => obtain ⟨vs, h1, h2⟩ := h; exact ⟨vs, k _ _ h1, h2.le l⟩
  | frz ns =>
    have h' : SqL K H b (ns.map V.int) := h
    show SqL K H' b (ns.map V.int)
    rcases h' with (h' | ⟨o, h'⟩) | h'
    · exact .inl (.inl (k _ _ h'))
    · exact .inl (.inr ⟨o, k _ _ h'⟩)
    · exact .inr h'
  | dic kvs => obtain ⟨vs, h1, h2⟩ := h; exact ⟨vs, k _ _ h1, h2.le l⟩
  | ins c fs => obtain ⟨dx, vs, h1, h2⟩ := h; exact ⟨dx, vs, k _ _ h1, h2.le l⟩
theorem RS.over {K : PySem.W.Frag} {μ : List Addr} {H : Hp} {ρ : Sl} {σ : L2.St} {i : Nat} {x : Option V} (s : RS K μ H ρ σ) : RS K μ H (ρ.set i none) (σ.set i x) := by
  refine ⟨by rw [List.length_set, List.length_set]; exact s.len, fun j w e => ?_⟩
  by_cases hj : i = j
  · subst hj
    by_cases hl : i < ρ.length
    · rw [List.getElem?_set_self hl] at e
      cases e
    · rw [List.getElem?_set_self' , List.getElem?_eq_none (by omega)] at e
      cases e
  · rw [List.getElem?_set_ne hj] at e
    obtain ⟨u, h1, h2⟩ := s.at_ j w e
    exact ⟨u, by rw [List.getElem?_set_ne hj]; exact h1, h2⟩
theorem ss_try {b : S} {c i v : Nat} (F : FitS G T C B k X Z Wx) (ihb : ∀ X Wx, FitS G T C B k X Z Wx → SndS G T C B X Z Wx b) : SndS G T C B X Z Wx (.try b c i v) := by
  refine SndS.one rfl fun x h => ?_
  have h0 : (match tryShape x with
      | some (body, y, n, m, f) => decide (G.tc y = some c) && glB Z.sc y && plainName y && decide (Z.N[i]? = some n) && plainName n && decide (Z.sc.names.lookup n = some .local) && decide (Z.N[v]? = some m) && ownB Z m && decide (i ≠ v) && G.kf f && glB Z.sc f && plainName f && (chkS G Z b).b body
      | none => false) = true := h
  cases hx : tryShape x with
  | none => rw [hx] at h0; exact ff h0
  | some q =>
    obtain ⟨body, y, n, m, f⟩ := q
    rw [hx] at h0
    obtain ⟨p1, p2, p3, p4, p5, p6, p7, p8, rfl⟩ := tryShape_of hx
    simp only [Bool.and_eq_true, decide_eq_true_iff] at h0
    obtain ⟨⟨⟨⟨⟨⟨⟨⟨⟨⟨⟨⟨h1, h2⟩, h3⟩, h4⟩, h4'⟩, h5⟩, h6⟩, h7⟩, h8⟩, h9⟩, h10⟩, h11⟩, h12⟩ := h0
    have t := F.tc y c h1
    obtain ⟨ka, kfd, ky, k1, k2, k3, k4⟩ := F.kf f h9
    have hi : X.N[i]? = some n := by rw [F.N]; exact h4
    have hv : X.N[v]? = some m := by rw [F.N]; exact h6
    have hln : X.env.scope.names.lookup n = some .local := by rw [F.sc]; exact h5
    obtain ⟨o1, o2⟩ := F.own m h7
    refine PS.imp (L2N.ps_try_as (x := y) (n := n) (c := .ref (B.Xc c)) (i := i) (tb := fun W => tS T C B W b) (ts := fun a cls d D σ H => ∃ c', cls = .ref (B.Xc c') ∧ d = none ∧ T.rs c' = true ∧ σ[i]? = some (some (.ref a)) ∧ ∀ bb H', H bb = none → H' bb = some (.lst ((T.kinds c').map V.str)) → (∀ x o, x ≠ bb → H x = some o → H' x = some o) → D.nx (σ.set v (some (.ref bb))) H')
      F.stk F.frm F.nd hi hln ⟨glB_gl F.toFit h2, (plainName_of h3).1, .inl t.at_⟩ F.tk (fun W pn xe tk' po' => (ihb (X.tr pn xe) W (F.tr tk' po')).b body h12) (fun a oe cls d pn hz hf => PSs.dyn fun D σ H ⟨c', e1, e2, e3, e4, e5⟩ => ?_)) fun D σ H ⟨μ, ρ, τ, rh, rs, g⟩ => ?_
    · subst e1 e2
      refine ⟨_, pss_one (ps_set F.nd hv o1 (pe_callK k4 ((L2H.roomH_of F.room).mono (Nat.succ_le_succ (Nat.zero_le _))) e3 hz hf (glB_gl F.toFit h10) k1 k2 k3 hi (.inl hln) (plainName_of h4').1 (plainName_of h4').2 (plainName_of h11).1) rfl o2), e4, fun bb H' q1 q2 q3 => ?_⟩
      exact e5 bb H' q1 q2 q3
    · refine ⟨μ, ρ, τ, rh, rs, ?_⟩
      have g' : GotS B Wx μ H (match evS T C b ρ τ with
        | .exn x ρ1 τ1 => if T.rs x.c = true ∧ i < ρ1.length then (if T.sub x.c c = true then .ok (.nx (((ρ1.set i none).set v (some (.ref τ1.length))).set i none)) (τ1 ++ [.lst ((T.kinds x.c).map W.str)]) else .exn x ρ1 τ1) else .no
        | r => r) D := g
      cases e : evS T C b ρ τ with
      | no => rw [e] at g'; exact g'
      | ok fl τ' => rw [e] at g'; cases fl <;> exact g'
      | exn x ρ1 τ1 =>
        rw [e] at g'
        intro μ' H' σ' d l rh1 rs1 rx
        by_cases hr : T.rs x.c = true ∧ i < ρ1.length
        · have g2 : GotS B Wx μ H (if T.sub x.c c = true then .ok (.nx (((ρ1.set i none).set v (some (.ref τ1.length))).set i none)) (τ1 ++ [.lst ((T.kinds x.c).map W.str)]) else .exn x ρ1 τ1) D := by
            have g3 := g'
            dsimp only at g3
            rw [if_pos hr] at g3
            exact g3
          refine ⟨T.sub x.c c, t.ex x.c hr.1, fun hb a ha => ?_, fun hb => ?_⟩
          · rw [if_pos hb] at g2
            refine ⟨x.c, rfl, rx.2, hr.1, List.getElem?_set_self (by rw [← rs1.len]; exact hr.2), fun bb H2 q1 q2 q3 => ?_⟩
            have hu : (upd H' bb (.lst ((T.kinds x.c).map V.str))) bb = some (.lst ((T.kinds x.c).map V.str)) := upd_same
            obtain ⟨rh2, l2⟩ := rh1.push (o := .lst ((T.kinds x.c).map W.str)) (ho := .lst ((T.kinds x.c).map V.str)) q1 ⟨_, upd_same, RVs.strs _⟩
            obtain ⟨rh3, l3⟩ := rh2.ext (H' := H2) fun z o hz => by
              by_cases hzb : z = bb
              · subst hzb
                rw [hu] at hz
                rw [q2, ← hz]
              · rw [upd_ne hzb] at hz
                exact q3 z o hzb hz
            have hnew : (μ' ++ [bb])[τ1.length]? = some bb := by rw [← rh1.len]; simp
            exact g2 (μ' ++ [bb]) H2 _ ((l.trans l2).trans l3) rh3 ((((rs1.le l2).le l3).over.set (.ref hnew)).del)
          · have hb' : ¬ T.sub x.c c = true := by rw [hb]; simp
            rw [if_neg hb'] at g2
            exact g2 μ' H' σ' d l rh1 rs1 rx
        · have g3 := g'
          dsimp only at g3
          rw [if_neg hr] at g3
          exact g3.elim
end
end Mi
/-! Mi13: every statement; defs; a law's end. -/
namespace Mi
open PySem PySem.Spec PyProof.Rows L2
section
variable {G : Gt} {T : Tb} {C : Calls} {B : Bs} {k : Nat} {X : L2.Cx} {Z : Sx} {Wx : WX}
theorem PS.dyn {e : Stmt} {t' : TS} (h : ∀ D σ H, t' D σ H → ∃ t, PS X e t ∧ t D σ H) : PS X e t' := ⟨fun pins s σ H D I q => by
  obtain ⟨t, ht, q'⟩ := h D σ H q
  exact ht.run pins s σ H D I q'⟩
theorem sub_plain {o i : Expr} {pos : Pos} {env : Env} (h : notSlice i = true) : ∀ v, assign (.Subscript o i pos) env v = (do
    let ov ← holding [v] (eval o env)
    let iv ← holding [v, ov] (eval i env)
    standAt pos
    holding [v, ov, iv] (PySem.setItem ov iv v)
    release [v, ov, iv] []) := by
  intro v
  cases i <;> first | rfl | exact ff h
theorem ss_setI {o i e : E} (F : FitS G T C B k X Z Wx) : SndS G T C B X Z Wx (.setI o i e) := by
  refine SndS.one rfl fun x h => ?_
  have h0 : (match asgSub x with
      | some (u, w, _, v, _) => notSlice w && notComp v && (chk G o Z).e u && (chk G i Z).e w && (chk G e Z).e v
      | none => false) = true := h
  cases hx : asgSub x with
  | none => rw [hx] at h0; exact ff h0
  | some q =>
    obtain ⟨u, w, p, v, pos⟩ := q
    rw [hx] at h0
    have ex := asgSub_of hx
    subst ex
    simp only [Bool.and_eq_true] at h0
    obtain ⟨⟨⟨⟨h1, h2⟩, h4⟩, h5⟩, h6⟩ := h0
    have po := (snd_all o X Z Wx F.toFit).e u h4
    have pi := (snd_all i X Z Wx F.toFit).e w h5
    have pv := (snd_all e X Z Wx F.toFit).e v h6
    have hu : X.A.units + 1 < cLine := by have := F.room.units; omega
    refine PS.dyn fun D σ H ⟨μ, ρ, τ, rh, rs, g⟩ => ?_
    have g' : GotS B Wx μ H (((ev T C e).e ρ τ).bind fun w τ1 => ((ev T C o).e ρ τ1).bind fun x τ2 => ((ev T C i).e ρ τ2).bind fun y τ3 => match setItem τ3 x y w with
      | some τ4 => .ok (.nx ρ) τ4
      | none => .no) D := g
    by_cases hd : ∃ wv τ1 n τ2 y τ3 kvs, (ev T C e).e ρ τ = .ok wv τ1 ∧ (ev T C o).e ρ τ1 = .ok (.ref n) τ2 ∧ (ev T C i).e ρ τ2 = .ok y τ3 ∧ τ3[n]? = some (.dic kvs)
    · obtain ⟨wv, τ1, n, τ2, y, τ3, kvs, e1, e2, e3, e4⟩ := hd
      refine ⟨_, ps_dput hu po pi pv (swap_no h2), ?_⟩
      refine ⟨μ, ρ, τ, rh, rs, (GotS.bnd (rel := RVr B) g').imp fun vv H1 ⟨w1, t1, μ1, l1, rh1, rw1, g1, q1⟩ => ?_⟩
      rw [e1] at q1; cases q1
      refine ⟨μ1, ρ, τ1, rh1, rs.le l1, (GotS.bnd (rel := RVr B) g1).imp fun xv H2 ⟨x2, t2, μ2, l2, rh2, rx, g2, q2⟩ => ?_⟩
      rw [e2] at q2; cases q2
      refine ⟨μ2, ρ, τ2, rh2, (rs.le l1).le l2, (GotS.bnd (rel := RVr B) g2).imp fun yv H3 ⟨y3, t3, μ3, l3, rh3, ry, g3, q3⟩ => ?_⟩
      rw [e3] at q3; cases q3
      have rx' : RV B.K μ2 H2 (.ref n) xv := rx
      have ry' : RV B.K μ3 H3 y yv := ry
      have rw' : RV B.K μ1 H1 wv vv := rw1
      cases rx' with
      | @ref _ a ha =>
        obtain ⟨a', ha', qs, hq, rq⟩ := rh3.at_ e4
        obtain rfl := Option.some.inj (ha'.symm.trans (l3.get ha))
        cases es : setItem τ3 (.ref n) y wv with
        | none => rw [es] at g3; exact g3.elim
        | some τ4 =>
          rw [es] at g3
          unfold setItem at es
          simp only [e4] at es
          cases hk : keyOf y with
          | none => rw [hk] at es; cases es
          | some key =>
            rw [hk] at es
            dsimp only at es
            split at es
            · rename_i hc
              cases es
              have ek := key_rv ry' hk
              subst ek
              refine ⟨a', _, rfl, DPut.k hq (by rw [← rq.length]; exact hc), ?_⟩
              have l4 : Le B.K μ3 H3 μ3 (upd H3 a' (.dK (L2.putK qs key vv))) := ⟨⟨[], by simp⟩, tup_upd (noTup_dK hq)⟩
              obtain ⟨rh4, _⟩ := rh3.put (o := .dic (kvPut kvs key wv)) (ho := .dK (L2.putK qs key vv)) ha' e4 (fun xs z => by cases z) (noTup_dK hq) ⟨_, upd_same, (rq.putK ((rw'.le l2).le l3)).le l4⟩
              exact g3 μ3 _ σ l4 rh4 ((((rs.le l1).le l2).le l3).le l4)
            · cases es
    · refine ⟨_, ps_asg pv (pg_sub po pi set_list (sub_plain h1)) (swap_no (t := some (.Subscript u w p)) (l := pos.line) (env := X.env) h2) (stores_sub) rfl, ?_⟩
      refine ⟨μ, ρ, τ, rh, rs, (GotS.bnd (rel := RVr B) g').imp fun vv H1 ⟨w1, τ1, μ1, l1, rh1, rw1, g1, q1⟩ => ?_⟩
      refine ⟨μ1, ρ, τ1, rh1, rs.le l1, (GotS.bnd (rel := RVr B) g1).imp fun xv H2 ⟨x2, τ2, μ2, l2, rh2, rx, g2, q2⟩ => ?_⟩
      refine ⟨μ2, ρ, τ2, rh2, (rs.le l1).le l2, (GotS.bnd (rel := RVr B) g2).imp fun yv H3 ⟨y, τ3, μ3, l3, rh3, ry, g3, q3⟩ => ?_⟩
      have rx' : RV B.K μ2 H2 x2 xv := rx
      have ry' : RV B.K μ3 H3 y yv := ry
      have rw' : RV B.K μ1 H1 w1 vv := rw1
      cases rx' with
      | @ref n a ha =>
        cases es : setItem τ3 (.ref n) y w1 with
        | none => rw [es] at g3; exact g3.elim
        | some τ4 =>
          rw [es] at g3
          unfold setItem at es
          cases e4 : τ3[n]? with
          | none => simp only [e4] at es; cases es
          | some ob =>
            obtain ⟨a', ha', ho⟩ := rh3.at_ e4
            obtain rfl := Option.some.inj (ha'.symm.trans (l3.get ha))
            cases ob with
            | lst xs =>
              simp only [e4] at es
              cases ry' with
              | int kk =>
                cases ei : ixN xs.length kk with
                | none => simp only [ei] at es; cases es
                | some j =>
                  simp only [ei] at es
                  cases es
                  obtain ⟨vs, h0, r⟩ := ho
                  refine ⟨a', vs, kk, j, rfl, rfl, h0, by rw [← r.length]; exact ei, ?_⟩
                  have l4 : Le B.K μ3 H3 μ3 (upd H3 a' (.lst (vs.set j vv))) := ⟨⟨[], by simp⟩, tup_upd (noTup_lst h0)⟩
                  obtain ⟨rh4, _⟩ := rh3.put (o := .lst (xs.set j w1)) (ho := .lst (vs.set j vv)) ha' e4 (fun xs z => by cases z) (noTup_lst h0) ⟨_, upd_same, (RVs.set ((rw'.le l2).le l3) j r).le l4⟩
                  exact g3 μ3 _ σ l4 rh4 ((((rs.le l1).le l2).le l3).le l4)
              | _ => cases es
            | dic kvs => exact absurd ⟨w1, τ1, n, τ2, y, τ3, kvs, q1, q2, q3, e4⟩ hd
            | _ => simp only [e4] at es; cases es
      | _ => exact False.elim g3

/-- EVERY STATEMENT -/
theorem ss_all : ∀ (ir : S) (X : L2.Cx) (Z : Sx) (Wx : WX), FitS G T C B k X Z Wx → SndS G T C B X Z Wx ir := by
  intro ir
  induction ir with
  | nil => exact fun X Z Wx F => ss_nil F
  | cons s r ihs ihr => exact fun X Z Wx F => ss_cons F (ihs X Z Wx F) (ihr X Z Wx F)
  | ex e => exact fun X Z Wx F => ss_ex F
  | set i e => exact fun X Z Wx F => ss_set F
  | setT is e => exact fun X Z Wx F => ss_setT F
  | setP i j as => exact fun X Z Wx F => SndS.one rfl fun x h => ff h
  | setF o f e => exact fun X Z Wx F => ss_setF F
  | setI o i e => exact fun X Z Wx F => ss_setI F
  | aug i o e => exact fun X Z Wx F => ss_aug F
  | augF o f p e => exact fun X Z Wx F => ss_augF F
  | ife t a b iha ihb => exact fun X Z Wx F => ss_ife F (iha X Z Wx F) (ihb X Z Wx F)
  | loop g it b ihb => exact fun X Z Wx F => ss_loop F (ihb X Z Wx F)
  | whl t b ihb => exact fun X Z Wx F => ss_whl F (ihb X Z Wx F)
  | ret e => exact fun X Z Wx F => ss_ret F
  | retN => exact fun X Z Wx F => ss_retN F
  | brk => exact fun X Z Wx F => ss_brk F
  | cont => exact fun X Z Wx F => ss_cont F
  | pass => exact fun X Z Wx F => ss_pass F
  | never => exact fun X Z Wx F => SndS.one rfl fun x h => PS.imp ps_never fun D σ H ⟨_, _, _, _, _, g⟩ => g
  | raise c as => exact fun X Z Wx F => ss_raise F
  | «try» b c i v ihb => exact fun X Z Wx F => ss_try F fun X Wx F => ihb X Z Wx F
end

/-! ### defs -/
/-- a def of the text and its counterpart -/
structure Def1 (G : Gt) (K : PySem.W.Frag) (d : Df) (a : Addr) (x qual : Str) (st : Stmt) (fd : FuncData) (N ps : List Str) : Prop where
  fn : Fun K x qual st a fd
  bd : Binds K fd ps []
  sc : FnScope N ps (defScope st)
  many : d.many = ps.length
  slots : d.slots = N.length
  body : (chkS G ⟨N, defScope st, (defScope st).names⟩ d.body).b (defBody st) = true
def DefOk (G : Gt) (K : PySem.W.Frag) (d : Df) (a : Addr) : Prop := ∃ x qual st fd N ps, Def1 G K d a x qual st fd N ps
/-- what the module has, as the tables say -/
structure Lay (G : Gt) (T : Tb) (F : Nat → Option Df) (B : Bs) (mg : Str → Option Value) : Prop where
  fn : ∀ x f, G.fn x = some f → ∃ a d, mg x = some (.ref a) ∧ F f = some d ∧ DefOk G B.K d a
  con : ∀ x w, G.con x = some w → isRef w = false → ∃ v u, mg x = some u ∧ RelV v u ∧ ∀ μ H, RV B.K μ H w v
  bi : ∀ x, G.bi x = true → mg x = none
  cl : ∀ x c, G.cl x = some c → mg x = some (.ref (B.Cl c)) ∧ PySem.W.keepIn B.K (.ref (B.Cl c)) = true
  meth : ∀ c m f, T.meth c m = some f → ∃ a d, Cls B.K (B.Cl c) ∧ Meth B.K (B.Cl c) m a ∧ PySem.W.makesIn B.K (B.Cl c) = true ∧ PySem.W.keepIn B.K (.ref (B.Cl c)) = true ∧ F f = some d ∧ DefOk G B.K d a
  attr : ∀ c f, T.attr c f = true → Cls B.K (B.Cl c) ∧ NoAttr B.K (B.Cl c) f
  xc : ∀ n c, G.xc n = some c → XcOk B.K mg n (B.Xc c)
  tc : ∀ y c, G.tc y = some c → TcOk B.K T B mg y c
  kf : ∀ f, G.kf f = true → ∃ a fd y, mg f = some (.ref a) ∧ PySem.W.keepIn B.K (.ref a) = true ∧ Binds B.K fd [y] [] ∧ ∀ P w base, FnK P w B.K mg base T B 1 a fd y

section
variable {G : Gt} {T : Tb} {F : Nat → Option Df} {B : Bs} {P : Program} {w : World} {mg : Str → Option Value} {base : Heap}
theorem rs_start {μ : List Addr} {H : Hp} {d : Df} {N : List Str} {ws : List W} {vs : List V} (h : d.slots = N.length) (r : RVs B.K μ H ws vs) : RS B.K μ H (Mi.start d ws) (L2.start N vs) := by
  refine ⟨?_, fun i w' e => ?_⟩
  · unfold Mi.start L2.start
    rw [List.length_append, List.length_append, List.length_map, List.length_map, List.length_replicate, List.length_replicate, r.length, h]
  · unfold Mi.start at e
    unfold L2.start
    by_cases hi : i < ws.length
    · rw [List.getElem?_append_left (by rw [List.length_map]; exact hi), List.getElem?_map] at e
      cases e2 : ws[i]? with
      | none => rw [e2] at e; cases e
      | some x =>
        rw [e2] at e
        cases e
        obtain ⟨v, hv, rv⟩ := r.get e2
        refine ⟨v, ?_, rv⟩
        rw [List.getElem?_append_left (by rw [List.length_map, ← r.length]; exact hi), List.getElem?_map, hv]
        rfl
    · rw [List.getElem?_append_right (by rw [List.length_map]; omega)] at e
      have := List.getElem?_eq_some_iff.mp e
      obtain ⟨h1, h2⟩ := this
      rw [List.getElem_replicate] at h2
      cases h2
theorem evF_ar {n f : Nat} {d : Df} (h : F f = some d) (ws : List W) (τ : Sto) : evF T F n f ws τ = .no ∨ ws.length = d.many := by
  cases n with
  | zero => exact .inl rfl
  | succ n =>
    by_cases hl : ws.length = d.many
    · exact .inr hl
    · refine .inl ?_
      unfold evF
      rw [h]
      exact if_neg hl
theorem okXN {P : Program} {w : World} {K : PySem.W.Frag} {mg : Str → Option Value} {base : Heap} {x qual : Str} {st : Stmt} {f : Addr} {fd : FuncData} {N ps : List Str} {k : Nat} {sp : Sp} (F : Fun K x qual st f fd) (S : FnScope N ps (defScope st)) (len : ∀ vs H Q E, sp vs H Q E → vs.length = ps.length)
    (hbody : ∀ (cdv : Value) (A : Around) (outer : List Env) (s : Shared) (H : Hp) (vs : List V) (Q : VK) (E : XK), Room k (A.deeper (envOfC qual (defScope st) s.heap.objs.size f cdv)) → sp vs H Q E →
      ∃ t, PSs (cxOf (L2N.CX P w) P w K mg base N qual (defScope st) f cdv A outer s H E) (defBody st) t ∧ t { nx := fun _ H' => Q .non H', rt := Q } (L2.start N vs) H) : FnOk P w K mg base (L2N.CX P w) (k + 1) f fd ps sp := by
  obtain ⟨oc, od, kV, doc, pm, an, cdv, ct, osl, rfl, lk, hcd⟩ := F.ex
  exact fn_of lk hcd S len fun A outer s H vs Q E hr hsp => hbody cdv A outer s H vs Q E hr hsp
theorem defs_ok (L : Lay G T F B mg) : ∀ (n f : Nat) (d : Df) (a : Addr), F f = some d → ∀ x qual st fd N ps, Def1 G B.K d a x qual st fd N ps → FnOk P w B.K mg base (L2N.CX P w) (2 * n) a fd ps (spF (evF T F n) B f ps.length) := by
  intro n
  induction n with
  | zero =>
    intro f d a hf x qual st fd N ps D
    refine ⟨fun vs H Q E h => h.1, fun A outer s H args us vs Q E hr e0 hb hv h => ?_⟩
    obtain ⟨_, _, _, _, _, _, g⟩ := h
    exact False.elim g
  | succ n ih =>
    intro f d a hf x qual st fd N ps D
    have cal : ∀ f' d' a', F f' = some d' → DefOk G B.K d' a' → Cal P w B.K mg base (evF T F n) B (2 * n) f' a' := by
      rintro f' d' a' hf' ⟨x', qual', st', fd', N', ps', D'⟩
      exact ⟨⟨fd', ps', D'.bd, ih f' d' a' hf' _ _ _ _ _ _ D', fun ws τ => by rw [← D'.many]; exact evF_ar hf' ws τ⟩, D'.fn.kp⟩
    show FnOk P w B.K mg base (L2N.CX P w) (2 * n + 1 + 1) a fd ps (spF (evF T F (n + 1)) B f ps.length)
    refine okXN D.fn D.sc (fun vs H Q E h => h.1) fun cdv A outer s H vs Q E hr h => ?_
    obtain ⟨hl, μ, τ, ws, rh, rv, g⟩ := h
    have fit : FitS G T (evF T F n) B (2 * n) (cxOf (L2N.CX P w) P w B.K mg base N qual (defScope st) a cdv A outer s H E) ⟨N, defScope st, (defScope st).names⟩ (fun cls d _ H => E cls d H) := by
      refine { N := rfl, nd := D.sc.nd, sc := rfl, own := fun y hy => ?_, calm := rfl, K := rfl, room := hr, con := L.con, bi := L.bi, fn := fun y f' e => ?_, cl := L.cl, meth := fun c m f' e => ?_, attr := L.attr, tk := L2N.takes_of rfl rfl rfl rfl, po := passes_of rfl, kd := D.sc.kind, xc := L.xc, stk := rfl, frm := rfl, tc := L.tc, kf := fun y e => let ⟨a, fd, z, h1, h2, h3, h4⟩ := L.kf y e; ⟨a, fd, z, h1, h2, h3, h4 _ _ _⟩ }
      · refine ⟨?_, .inl rfl⟩
        have h' : (match (defScope st).names.lookup y with
          | some .local => true | some .cell => true | _ => false) = true := hy
        show (defScope st).names.lookup y = some .local ∨ (defScope st).names.lookup y = some .cell
        cases e : (defScope st).names.lookup y with
        | none => rw [e] at h'; exact ff h'
        | some kd =>
          rw [e] at h'
          cases kd with
          | «local» => exact .inl rfl
          | cell => exact .inr rfl
          | _ => exact ff h'
      · obtain ⟨a', d', e1, e2, e3⟩ := L.fn y f' e
        exact ⟨a', e1, cal f' d' a' e2 e3⟩
      · obtain ⟨a', d', e1, e2, e3, e4, e5, e6⟩ := L.meth c m f' e
        exact ⟨a', e1, e2, e3, e4, cal f' d' a' e5 e6⟩
    refine ⟨_, (ss_all d.body _ _ _ fit).b (defBody st) D.body, μ, Mi.start d ws, τ, rh, rs_start D.slots rv, ?_⟩
    have g' : Got B (RVr B) (fun cls d _ H => E cls d H) μ H (evF T F (n + 1) f ws τ) Q := g
    have hlw : ws.length = d.many := by rw [D.many, ← hl]; exact rv.length
    have e : evF T F (n + 1) f ws τ = finish (evS T (evF T F n) d.body (Mi.start d ws) τ) := by
      conv => lhs; unfold evF
      rw [hf]
      exact if_pos hlw
    rw [e] at g'
    cases er : evS T (evF T F n) d.body (Mi.start d ws) τ with
    | no => rw [er] at g'; exact False.elim g'
    | exn x ρ' τ' => rw [er] at g'; exact g'
    | ok fl τ' =>
      rw [er] at g'
      cases fl with
      | nx ρ' => exact fun μ' H' σ' l r _ => g' μ' H' .non l r .non
      | rt w => exact g'
      | bk ρ' => exact False.elim g'
      | ct ρ' => exact False.elim g'

/-- a law's promise, from the run of its counterpart at every script -/
theorem law_sp {C : Calls} {f : Nat} {P : List Int → Prop} (h : ∀ ns : List Int, P ns → ∃ τ, C f [.ref 0] [.frz ns] = .ok (.bl true) τ) (H : Hp) (a : Addr) (ns : List Int) (hl : P ns) (s : SqL B.K H a (ns.map V.int)) :
    spF C B f 1 [.ref a] H (fun v _ => v = .bl true) fun _ _ _ => False := by
  refine ⟨rfl, [a], [.frz ns], [.ref 0], ⟨rfl, fun i j b hne hi hj => ?_, fun i b o hi ho => ?_⟩, .cons (.ref rfl) .nil, ?_⟩
  · have h1 := (List.getElem?_eq_some_iff.mp hi).1
    have h2 := (List.getElem?_eq_some_iff.mp hj).1
    have h1' : i < 1 := h1
    have h2' : j < 1 := h2
    exact absurd (by omega) hne
  · have h1 := (List.getElem?_eq_some_iff.mp hi).1
    have h1' : i < 1 := h1
    have e : i = 0 := by omega
    subst e
    cases hi
    cases ho
    exact s
  · obtain ⟨τ, e⟩ := h ns hl
    rw [e]
    intro μ' H' v _ _ rv
    have rv' : RV B.K μ' H' (.bl true) v := rv
    cases rv'
    rfl
theorem law_cx (P : Program) (w : World) (H : Hp) (s : Shared) (e : Value) (s' : Shared) (h : L2N.CX P w [] H s (fun _ _ _ => False) e s') : False := by
  obtain ⟨_, _, _, _, _, _, _, _, _, _, _, _, q⟩ := h
  exact q
end
end Mi
/-! Mi14: from what the top has left to the tables. -/
namespace Mi
open PySem PySem.Spec PyProof.Rows L2
def look {α : Type} (l : List (Str × α)) (x : Str) : Option α := (l.find? fun p => decide (p.1 = x)).map (·.2)
theorem look_mem {α : Type} : ∀ {l : List (Str × α)} {x : Str} {v : α}, look l x = some v → (x, v) ∈ l
  | [], _, _, h => by cases h
  | (y, u) :: r, x, v, h => by
    unfold look at h
    rw [List.find?_cons] at h
    by_cases e : y = x
    · rw [decide_eq_true (show (y, u).1 = x from e)] at h
      cases h
      subst e
      exact List.mem_cons_self
    · rw [decide_eq_false (show ¬ (y, u).1 = x from e)] at h
      exact List.mem_cons_of_mem _ (look_mem (l := r) h)
theorem find_mem {α : Type} {l : List ((Nat × Str) × α)} {c : Nat} {m : Str} {v : α} (h : (l.find? fun p => decide (p.1 = (c, m))).map (·.2) = some v) : ((c, m), v) ∈ l := by
  cases e : l.find? fun p => decide (p.1 = (c, m)) with
  | none => rw [e] at h; cases h
  | some p =>
    rw [e] at h
    cases h
    have h1 := List.find?_some e
    have h2 := List.mem_of_find?_eq_some e
    have h3 : p.1 = (c, m) := of_decide_eq_true h1
    rw [← h3]
    exact h2
/-- a def as the top has left it -/
structure FnAt (K : PySem.W.Frag) (x qual : Str) (st : Stmt) (f : Addr) : Prop where
  lk : ∃ (oc : Value) (od : Option Addr) (kV dc pm : Value) (an : Option Addr) (cd ct : Value) (sl : Array (Option Value)),
    K.lookup f = some ⟨oc, od, .func (PySem.W.fnOf x qual (defArgs st) (defBody st) (defScope st) .none kV dc pm an cd ct), sl⟩ ∧ PySem.W.codeIn K cd qual = true
  kp : PySem.W.keepIn K (.ref f) = true
theorem fnAt {K : PySem.W.Frag} {x qual : Str} {st : Stmt} {f : Addr} {oc kV dc pm cd ct : Value} {od an : Option Addr} {sl : Array (Option Value)}
    (l : K.lookup f = some ⟨oc, od, .func (PySem.W.fnOf x qual (defArgs st) (defBody st) (defScope st) .none kV dc pm an cd ct), sl⟩) (c : PySem.W.codeIn K cd qual = true) (k : PySem.W.keepIn K (.ref f) = true) : FnAt K x qual st f :=
  ⟨⟨_, _, _, _, _, _, _, _, _, l, c⟩, k⟩
section
variable {G : Gt} {K : PySem.W.Frag} {d : Df} {a : Addr} {x qual : Str} {st : Stmt} {N ps : List Str}
theorem def1_of (A : FnAt K x qual st a)
    (bd : ∀ (kV doc pm : Value) (an : Option Addr) (cdv ct : Value) (us : List Value), us.length = ps.length → bindArgs (PySem.W.fnOf x qual (defArgs st) (defBody st) (defScope st) .none kV doc pm an cdv ct) ⟨us, []⟩ = pure (ps.zip us))
    (sc : FnScope N ps (defScope st)) (many : d.many = ps.length) (slots : d.slots = N.length) (body : (chkS G ⟨N, defScope st, (defScope st).names⟩ d.body).b (defBody st) = true) :
    ∃ fd, Def1 G K d a x qual st fd N ps ∧ ∃ (kV doc pm : Value) (an : Option Addr) (cdv ct : Value), fd = PySem.W.fnOf x qual (defArgs st) (defBody st) (defScope st) .none kV doc pm an cdv ct := by
  obtain ⟨oc, od, kV, dc, pm, an, cd, ct, sl, l, c⟩ := A.lk
  have F := fun_mk l c A.kp
  exact ⟨_, ⟨F, F.binds bd, sc, many, slots, body⟩, kV, dc, pm, an, cd, ct, rfl⟩
theorem defOk_of (A : FnAt K x qual st a)
    (bd : ∀ (kV doc pm : Value) (an : Option Addr) (cdv ct : Value) (us : List Value), us.length = ps.length → bindArgs (PySem.W.fnOf x qual (defArgs st) (defBody st) (defScope st) .none kV doc pm an cdv ct) ⟨us, []⟩ = pure (ps.zip us))
    (sc : FnScope N ps (defScope st)) (many : d.many = ps.length) (slots : d.slots = N.length) (body : (chkS G ⟨N, defScope st, (defScope st).names⟩ d.body).b (defBody st) = true) : DefOk G K d a := by
  obtain ⟨fd, D, _⟩ := def1_of A bd sc many slots body
  exact ⟨_, _, _, _, _, _, D⟩
end
/-- the law's own def -/
theorem law_end {G : Gt} {T : Tb} {F : Nat → Option Df} {B : Bs} {P : Program} {w : World} {mg : Str → Option Value} {n f : Nat} {d : Df} {fa : Addr} {x y qual : Str} {st : Stmt} {N : List Str} (L : Lay G T F B mg) (hf : F f = some d)
    (A : FnAt B.K x qual st fa) (bd : ∀ (kV doc pm : Value) (an : Option Addr) (cdv ct : Value) (us : List Value), us.length = [y].length → bindArgs (PySem.W.fnOf x qual (defArgs st) (defBody st) (defScope st) .none kV doc pm an cdv ct) ⟨us, []⟩ = pure ([y].zip us))
    (sc : FnScope N [y] (defScope st)) (many : d.many = 1) (slots : d.slots = N.length) (body : (chkS G ⟨N, defScope st, (defScope st).names⟩ d.body).b (defBody st) = true) :
    ∃ fd : FuncData, (∀ (s : Shared) (u : Value), BindsTo s fd ⟨[u], []⟩ [(y, u)]) ∧ ∀ base : Heap, B.K.In base → base.Ns mainGlobals mg → FnOk P w B.K mg base (L2N.CX P w) (2 * n) fa fd [y] (spF (evF T F n) B f 1) := by
  obtain ⟨fd, D, kV, doc, pm, an, cdv, ct, rfl⟩ := def1_of A bd sc many slots body
  exact ⟨_, fun s u => .of_eq (bd kV doc pm an cdv ct [u] rfl), fun base _ _ => defs_ok L n f d fa hf _ _ _ _ _ _ D⟩
/-- the def that tells an exception's kinds -/
theorem kf_of {T : Tb} {B : Bs} {mg : Str → Option Value} {x qual e s : Str} {st : Stmt} {a mM mD mP mT mR : Addr} (A : FnAt B.K x qual st a)
    (bd : ∀ (kV doc pm : Value) (an : Option Addr) (cdv ct : Value) (us : List Value), us.length = [e].length → bindArgs (PySem.W.fnOf x qual (defArgs st) (defBody st) (defScope st) .none kV doc pm an cdv ct) ⟨us, []⟩ = pure ([e].zip us))
    (sc : FnScope [e, s] [e] (defScope st)) (hk : kindsShape e s (defBody st) = true) (pe0 : plainName e = true) (ps1 : plainName s = true) (hv0 : visB (defScope st) e = true) (hs1 : (defScope st).names.lookup s = some .local)
    (gl : ((["isinstance", "ValueError", "NoMachine", "NoMiddle", "NoPass", "NoText", "NoTree"] : List Str).all fun z => glB (defScope st) z) = true)
    (mi : mg "isinstance" = none) (mv : mg "ValueError" = none) (kM : mg "NoMachine" = some (.ref mM)) (kD : mg "NoMiddle" = some (.ref mD)) (kP : mg "NoPass" = some (.ref mP)) (kT : mg "NoText" = some (.ref mT)) (kR : mg "NoTree" = some (.ref mR))
    (KC : ∀ c, T.rs c = true → KiC B.K T mM mD mP mT mR (B.Xc c) c) :
    ∃ fd : FuncData, Binds B.K fd [e] [] ∧ ∀ (P : Program) (w : World) (base : Heap), FnK P w B.K mg base T B 1 a fd e := by
  obtain ⟨oc, od, kV, dc, pm, an, cd, ct, sl, l, c⟩ := A.lk
  have F := fun_mk l c A.kp
  refine ⟨_, F.binds bd, fun P w base => fnK_of l c sc fun A' outer s' H Q p c' hrs hz hf hq => ?_⟩
  have glo : ∀ z, z ∈ (["isinstance", "ValueError", "NoMachine", "NoMiddle", "NoPass", "NoText", "NoTree"] : List Str) → (defScope st).names.lookup z = some .globalImplicit := fun z hz' => by
    have h := List.all_eq_true.mp gl z hz'
    unfold glB at h
    split at h
    · assumption
    · exact ff h
  have vis : Vis (defScope st) e := by
    unfold visB at hv0
    split at hv0
    · exact .inl (by assumption)
    · exact .inr (.inl (by assumption))
    · exact .inr (.inr (by assumption))
    · exact ff hv0
  refine ⟨_, kinds_body (X := L2H.cxH (fun _ _ _ _ _ _ => False) P w B.K mg base [e, s] qual (defScope st) a cd A' outer s' H (fun _ _ _ => False) p) (KC c' hrs) hz.zc hf List.mem_cons_self sc.nd rfl rfl vis (.inl hs1) hs1 pe0 ps1
    (glo _ (by simp)) mi (glo _ (by simp)) mv (glo _ (by simp)) kM (glo _ (by simp)) kD (glo _ (by simp)) kP (glo _ (by simp)) kT (glo _ (by simp)) kR hk, rfl, Nat.lt_succ_self 1, hq⟩
end Mi
/-! Mi15: lemmas for runs in the small language. -/
namespace Mi
open PySem PySem.Spec PyProof.Rows L2
theorem pre_get {τ τ' : Sto} (p : τ <+: τ') {n : Nat} {o : AO} (h : τ[n]? = some o) : τ'[n]? = some o := by
  obtain ⟨r, rfl⟩ := p
  rw [List.getElem?_append_left (List.getElem?_eq_some_iff.mp h).1]
  exact h
theorem pre_seq {τ τ' : Sto} (p : τ <+: τ') {n : Nat} {xs : List W} (h : seqOf τ n = some xs) : seqOf τ' n = some xs := by
  unfold seqOf at h ⊢
  cases e : τ[n]? with
  | none => rw [e] at h; cases h
  | some o => rw [pre_get p e]; rw [e] at h; exact h
theorem pre_ok {gs : List (Nat × List W)} {τ τ' : Sto} (p : τ <+: τ') (h : It.ok gs τ) : It.ok gs τ' := fun q hq => pre_seq p (h q hq)
theorem pre_set {τ0 τ : Sto} {D : Nat} {o : AO} (p : τ0 <+: τ) (h : τ0.length ≤ D) : τ0 <+: τ.set D o := by
  obtain ⟨r, rfl⟩ := p
  rw [List.set_append_right _ _ h]
  exact List.prefix_append _ _
theorem pre_add {τ0 τ : Sto} (o : Sto) (p : τ0 <+: τ) : τ0 <+: τ ++ o := p.trans (List.prefix_append _ _)
@[simp] theorem at_end (τ : Sto) (o : AO) : (τ ++ [o])[τ.length]? = some o := List.getElem?_concat_length
theorem seq_end (τ : Sto) (xs : List W) : seqOf (τ ++ [.lst xs]) τ.length = some xs := by
  unfold seqOf
  rw [at_end]
@[simp] theorem eqW_int (τ : Sto) (a b : Int) : eqW τ (.int a) (.int b) = some (a == b) := rfl
/-- a comprehension whose turns only make new things -/
theorem lcL_map {g : G} {gs : List (Nat × List W)} {ρ : Sl} {test : Sl → Sto → R Bool} {elt : Sl → Sto → R W} {D : Nat} {τ0 : Sto} (hD : τ0.length ≤ D) (hgs : It.ok gs τ0) (f : W → W → Prop) :
    ∀ (xs : List W), (∀ x ∈ xs, ∃ ρ1, putG g x ρ = some ρ1 ∧ ∀ τ, τ0 <+: τ → test ρ1 τ = .ok true τ ∧ ∃ y τ', f x y ∧ elt ρ1 τ = .ok y τ' ∧ τ <+: τ') →
    ∀ (acc : List W) (τ : Sto), τ0 <+: τ → τ[D]? = some (.lst acc) → acc.length + xs.length ≤ sizeLine →
      ∃ ys τ', lcL g gs ρ test elt D xs τ = .ok (.ref D) τ' ∧ τ0 <+: τ' ∧ τ'[D]? = some (.lst (acc ++ ys)) ∧ Paired f xs ys
  | [], _, acc, τ, p, h, _ => by
    refine ⟨[], τ, ?_, p, by rw [List.append_nil]; exact h, .nil⟩
    unfold lcL
    exact if_pos (pre_ok p hgs)
  | x :: r, st, acc, τ, p, h, hl => by
    obtain ⟨ρ1, e1, e2⟩ := st x List.mem_cons_self
    obtain ⟨e3, y, τ2, fy, e4, p2⟩ := e2 τ p
    have hl' : acc.length + (r.length + 1) ≤ sizeLine := hl
    have h2 := pre_get p2 h
    have hs : (τ2.set D (.lst (acc ++ [y])))[D]? = some (.lst (acc ++ [y])) := by
      rw [List.getElem?_set_self (List.getElem?_eq_some_iff.mp h2).1]
    obtain ⟨ys, τ', a1, a2, a3, a4⟩ := lcL_map hD hgs f r (fun z hz => st z (List.mem_cons_of_mem _ hz)) (acc ++ [y]) (τ2.set D (.lst (acc ++ [y]))) (pre_set (p.trans p2) hD) hs (by rw [List.length_append]; show acc.length + 1 + r.length ≤ _; omega)
    refine ⟨y :: ys, τ', ?_, a2, by rw [a3, List.append_assoc]; rfl, .cons fy a4⟩
    unfold lcL
    rw [if_pos (pre_ok p hgs), e1]
    simp only [e3, e4, h2]
    rw [if_pos (by omega)]
    exact a1
/-- a for that only goes on -/
theorem forL_inv {g : G} {gs : List (Nat × List W)} {body : Sl → Sto → R Fl} {Inv : Sl → Sto → Prop} (hgs : ∀ ρ τ, Inv ρ τ → It.ok gs τ) :
    ∀ (xs : List W), (∀ x ∈ xs, ∀ ρ τ, Inv ρ τ → ∃ ρ1, putG g x ρ = some ρ1 ∧ ∃ ρ2 τ2, body ρ1 τ = .ok (.nx ρ2) τ2 ∧ Inv ρ2 τ2) →
    ∀ ρ τ, Inv ρ τ → ∃ ρ' τ', forL g gs body xs ρ τ = .ok (.nx ρ') τ' ∧ Inv ρ' τ'
  | [], _, ρ, τ, h => by
    refine ⟨ρ, τ, ?_, h⟩
    unfold forL
    exact if_pos (hgs _ _ h)
  | x :: r, st, ρ, τ, h => by
    obtain ⟨ρ1, e1, ρ2, τ2, e2, h2⟩ := st x List.mem_cons_self ρ τ h
    obtain ⟨ρ', τ', a1, a2⟩ := forL_inv hgs r (fun z hz => st z (List.mem_cons_of_mem _ hz)) ρ2 τ2 h2
    refine ⟨ρ', τ', ?_, a2⟩
    unfold forL
    rw [if_pos (hgs _ _ h), e1]
    simp only [e2]
    exact a1
/-! ### the evaluator, step by step -/
theorem R.bind_congr {α β : Type} {r r' : R α} {f : α → Sto → R β} (h : r = r') : r.bind f = r'.bind f := by rw [h]
def seqR (r : R Fl) (f : Sl → Sto → R Fl) : R Fl := match r with
  | .ok (.nx ρ1) τ1 => f ρ1 τ1
  | x => x
theorem seqR_congr {r r' : R Fl} {f : Sl → Sto → R Fl} (h : r = r') : seqR r f = seqR r' f := by rw [h]
@[simp] theorem seqR_nx (ρ : Sl) (τ : Sto) (f : Sl → Sto → R Fl) : seqR (.ok (.nx ρ) τ) f = f ρ τ := rfl
@[simp] theorem seqR_rt (w : W) (τ : Sto) (f : Sl → Sto → R Fl) : seqR (.ok (.rt w) τ) f = .ok (.rt w) τ := rfl
@[simp] theorem seqR_bk (ρ : Sl) (τ : Sto) (f : Sl → Sto → R Fl) : seqR (.ok (.bk ρ) τ) f = .ok (.bk ρ) τ := rfl
@[simp] theorem seqR_ct (ρ : Sl) (τ : Sto) (f : Sl → Sto → R Fl) : seqR (.ok (.ct ρ) τ) f = .ok (.ct ρ) τ := rfl
@[simp] theorem seqR_exn (x : Xn) (ρ : Sl) (τ : Sto) (f : Sl → Sto → R Fl) : seqR (.exn x ρ τ) f = .exn x ρ τ := rfl
def getV (o : Option (Option W)) (τ : Sto) : R W := match o with
  | some (some w) => .ok w τ
  | _ => .no
@[simp] theorem getV_some (w : W) (τ : Sto) : getV (some (some w)) τ = .ok w τ := rfl
def dT (r : R W) : R Bool := r.bind fun x τ1 => lift τ1 (truth τ1 x)
@[simp] theorem dT_ok (w : W) (τ : Sto) : dT (.ok w τ) = lift τ (truth τ w) := rfl
@[simp] theorem dT_exn (x : Xn) (ρ : Sl) (τ : Sto) : dT (.exn x ρ τ) = .exn x ρ τ := rfl
def toP (r : R W) : R (Option Int) := r.bind fun x τ1 => match x with
    | .int i => .ok (some i) τ1
    | _ => .no
@[simp] theorem toP_int (i : Int) (τ : Sto) : toP (.ok (.int i) τ) = .ok (some i) τ := rfl
def negR (x : W) (τ : Sto) : R W := match x with
  | .int i => .ok (.int (-i)) τ
  | _ => .no
@[simp] theorem negR_int (i : Int) (τ : Sto) : negR (.int i) τ = .ok (.int (-i)) τ := rfl
def notR (x : W) (τ : Sto) : R W := match x with
  | .bl b => .ok (.bl (!b)) τ
  | _ => .no
@[simp] theorem notR_bl (b : Bool) (τ : Sto) : notR (.bl b) τ = .ok (.bl (!b)) τ := rfl
def boolR (u : Bool) (f : Sto → R W) (x : W) (τ : Sto) : R W := match x with
  | .bl b => if b = u then f τ else .ok (.bl b) τ
  | _ => .no
@[simp] theorem boolR_bl (u b : Bool) (f : Sto → R W) (τ : Sto) : boolR u f (.bl b) τ = if b = u then f τ else .ok (.bl b) τ := rfl
def chainR (o : Option Bool) (f : Sto → R W) (τ : Sto) : R W := match o with
  | some true => f τ
  | some false => .ok (.bl false) τ
  | none => .no
@[simp] theorem chainR_some (b : Bool) (f : Sto → R W) (τ : Sto) : chainR (some b) f τ = if b = true then f τ else .ok (.bl false) τ := by cases b <;> rfl
@[simp] theorem finish_rt (w : W) (τ : Sto) : Mi.finish (.ok (.rt w) τ) = .ok w τ := rfl
@[simp] theorem finish_nx (ρ : Sl) (τ : Sto) : Mi.finish (.ok (.nx ρ) τ) = .ok .non τ := rfl
@[simp] theorem finish_exn (x : Xn) (ρ : Sl) (τ : Sto) : Mi.finish (.exn x ρ τ) = .exn x ρ τ := rfl
def loopR (r : R Fl) (f : Sl → Sto → R Fl) : R Fl := match r with
  | .ok (.nx ρ2) τ2 => f ρ2 τ2
  | .ok (.ct ρ2) τ2 => f ρ2 τ2
  | .ok (.bk ρ2) τ2 => .ok (.nx ρ2) τ2
  | .ok (.rt w) τ2 => .ok (.rt w) τ2
  | .exn x ρ τ => .exn x ρ τ
  | .no => .no
theorem loopR_congr {r r' : R Fl} {f : Sl → Sto → R Fl} (h : r = r') : loopR r f = loopR r' f := by rw [h]
@[simp] theorem loopR_nx (ρ : Sl) (τ : Sto) (f : Sl → Sto → R Fl) : loopR (.ok (.nx ρ) τ) f = f ρ τ := rfl
@[simp] theorem loopR_ct (ρ : Sl) (τ : Sto) (f : Sl → Sto → R Fl) : loopR (.ok (.ct ρ) τ) f = f ρ τ := rfl
@[simp] theorem loopR_bk (ρ : Sl) (τ : Sto) (f : Sl → Sto → R Fl) : loopR (.ok (.bk ρ) τ) f = .ok (.nx ρ) τ := rfl
@[simp] theorem loopR_rt (w : W) (τ : Sto) (f : Sl → Sto → R Fl) : loopR (.ok (.rt w) τ) f = .ok (.rt w) τ := rfl
@[simp] theorem loopR_exn (x : Xn) (ρ : Sl) (τ : Sto) (f : Sl → Sto → R Fl) : loopR (.exn x ρ τ) f = .exn x ρ τ := rfl
def optR {α β : Type} (o : Option α) (f : α → R β) : R β := match o with
  | some a => f a
  | none => .no
theorem optR_congr {α β : Type} {o o' : Option α} {f : α → R β} (h : o = o') : optR o f = optR o' f := by rw [h]
@[simp] theorem optR_some {α β : Type} (a : α) (f : α → R β) : optR (some a) f = f a := rfl
def tryR (T : Tb) (c i v : Nat) (r : R Fl) : R Fl := match r with
  | .exn x ρ1 τ1 => if T.rs x.c = true ∧ i < ρ1.length then (if T.sub x.c c = true then .ok (.nx (((ρ1.set i none).set v (some (.ref τ1.length))).set i none)) (τ1 ++ [.lst ((T.kinds x.c).map W.str)]) else .exn x ρ1 τ1) else .no
  | r => r
@[simp] theorem tryR_ok (T : Tb) (c i v : Nat) (f : Fl) (τ : Sto) : tryR T c i v (.ok f τ) = .ok f τ := rfl
@[simp] theorem tryR_exn (T : Tb) (c i v : Nat) (x : Xn) (ρ1 : Sl) (τ1 : Sto) : tryR T c i v (.exn x ρ1 τ1) = if T.rs x.c = true ∧ i < ρ1.length then (if T.sub x.c c = true then .ok (.nx (((ρ1.set i none).set v (some (.ref τ1.length))).set i none)) (τ1 ++ [.lst ((T.kinds x.c).map W.str)]) else .exn x ρ1 τ1) else .no := rfl
section
variable (T : Tb) (C : Calls) (ρ : Sl) (τ : Sto)
@[simp] theorem ev_var (i : Nat) : (ev T C (.var i)).e ρ τ = getV ρ[i]? τ := rfl
@[simp] theorem ev_con (w : W) : (ev T C (.con w)).e ρ τ = .ok w τ := rfl
@[simp] theorem ev_nil_a  : (ev T C (.nil)).a ρ τ = .ok [] τ := rfl
@[simp] theorem ev_nil_t  : (ev T C (.nil)).t ρ τ = .ok true τ := rfl
@[simp] theorem ev_nil_p  : (ev T C (.nil)).p ρ τ = .ok none τ := rfl
@[simp] theorem ev_cons_a (a r : E) : (ev T C (.cons a r)).a ρ τ = ((ev T C a).e ρ τ).bind fun x τ1 => ((ev T C r).a ρ τ1).bind fun xs τ2 => .ok (x :: xs) τ2 := rfl
@[simp] theorem ev_one_v (a : E) (u : Bool) : (ev T C (.cons a .nil)).v u ρ τ = (ev T C a).e ρ τ := rfl
@[simp] theorem ev_cons_v (a b r : E) (u : Bool) : (ev T C (.cons a (.cons b r))).v u ρ τ = ((ev T C a).e ρ τ).bind (boolR u ((ev T C (.cons b r)).v u ρ)) := rfl
@[simp] theorem ev_one_b (a : E) (u : Bool) : (ev T C (.cons a .nil)).b u ρ τ = (ev T C a).t ρ τ := rfl
@[simp] theorem ev_cons_b (a b r : E) (u : Bool) : (ev T C (.cons a (.cons b r))).b u ρ τ = ((ev T C a).t ρ τ).bind fun k τ1 => if k = u then (ev T C (.cons b r)).b u ρ τ1 else .ok k τ1 := rfl
@[simp] theorem ev_op (o : Operator) (a b : E) : (ev T C (.op o a b)).e ρ τ = ((ev T C a).e ρ τ).bind fun x τ1 => ((ev T C b).e ρ τ1).bind fun y τ2 => binop o x y τ2 := rfl
@[simp] theorem ev_neg (a : E) : (ev T C (.neg a)).e ρ τ = ((ev T C a).e ρ τ).bind negR := rfl
@[simp] theorem ev_cmp (o : CmpOp) (a b : E) : (ev T C (.cmp o a b)).e ρ τ = ((ev T C a).e ρ τ).bind fun x τ1 => ((ev T C b).e ρ τ1).bind fun y τ2 => lift τ2 ((cmpop o x y τ2).map .bl) := rfl
@[simp] theorem ev_chain (o p : CmpOp) (a b c : E) : (ev T C (.chain o p a b c)).e ρ τ = ((ev T C a).e ρ τ).bind fun x τ1 => ((ev T C b).e ρ τ1).bind fun y τ2 => chainR (cmpop o x y τ2) (fun τ2 => ((ev T C c).e ρ τ2).bind fun z τ3 => lift τ3 ((cmpop p y z τ3).map .bl)) τ2 := rfl
@[simp] theorem ev_conj (a : E) : (ev T C (.conj a)).e ρ τ = (ev T C a).v true ρ τ := rfl
@[simp] theorem ev_conj_t (a : E) : (ev T C (.conj a)).t ρ τ = (ev T C a).b true ρ τ := rfl
@[simp] theorem ev_disj (a : E) : (ev T C (.disj a)).e ρ τ = (ev T C a).v false ρ τ := rfl
@[simp] theorem ev_disj_t (a : E) : (ev T C (.disj a)).t ρ τ = (ev T C a).b false ρ τ := rfl
@[simp] theorem ev_not (a : E) : (ev T C (.not a)).e ρ τ = ((ev T C a).e ρ τ).bind notR := rfl
@[simp] theorem ev_not_t (a : E) : (ev T C (.not a)).t ρ τ = ((ev T C a).t ρ τ).bind fun b τ1 => .ok (!b) τ1 := rfl
@[simp] theorem ev_ite (t a b : E) : (ev T C (.ite t a b)).e ρ τ = ((ev T C t).t ρ τ).bind fun k τ1 => if k = true then (ev T C a).e ρ τ1 else (ev T C b).e ρ τ1 := rfl
@[simp] theorem ev_tup (a : E) : (ev T C (.tup a)).e ρ τ = ((ev T C a).a ρ τ).bind fun ws τ1 => if ws.length ≤ sizeLine then .ok (.tup ws) τ1 else .no := rfl
@[simp] theorem ev_lst (a : E) : (ev T C (.lst a)).e ρ τ = ((ev T C a).a ρ τ).bind fun ws τ1 => if ws.length ≤ sizeLine then newL τ1 ws else .no := rfl
@[simp] theorem ev_dic (a : E) : (ev T C (.dic .nil a)).e ρ τ = .ok (.ref τ.length) (τ ++ [.dic []]) := rfl
@[simp] theorem ev_dic1 (x : Str) (a : E) : (ev T C (.dic (.cons (.con (.str x)) .nil) a)).e ρ τ = ((ev T C a).a ρ (τ ++ [.dic []])).bind (dispR τ.length [.inr x]) := rfl
@[simp] theorem ev_ix (a b : E) : (ev T C (.ix a b)).e ρ τ = ((ev T C a).e ρ τ).bind fun x τ1 => ((ev T C b).e ρ τ1).bind fun y τ2 => lift τ2 (itemAt τ2 x y) := rfl
@[simp] theorem ev_slice (a lo hi : E) : (ev T C (.slice a lo hi)).e ρ τ = ((ev T C a).e ρ τ).bind fun x τ1 => ((ev T C lo).p ρ τ1).bind fun l τ2 => ((ev T C hi).p ρ τ2).bind fun h τ3 => sliceW x l h τ3 := rfl
@[simp] theorem ev_every (lo : Nat) (a : E) : (ev T C (.every lo a)).e ρ τ = ((ev T C a).e ρ τ).bind (everyW lo) := rfl
@[simp] theorem ev_fld (a : E) (f : Str) : (ev T C (.fld a f)).e ρ τ = ((ev T C a).e ρ τ).bind fun x τ1 => lift τ1 (fieldOf T τ1 x f) := rfl
@[simp] theorem ev_call (f : Nat) (a : E) : (ev T C (.call f a)).e ρ τ = ((ev T C a).a ρ τ).bind fun ws τ1 => tail ρ (C f ws τ1) := rfl
@[simp] theorem ev_bi (b : BI) (a : E) : (ev T C (.bi b a)).e ρ τ = ((ev T C a).a ρ τ).bind fun ws τ1 => builtin b ws τ1 := rfl
@[simp] theorem ev_isi (a : E) (t : Ty) : (ev T C (.isi a t)).e ρ τ = ((ev T C a).e ρ τ).bind fun x τ1 => lift τ1 ((tyOf τ1 x).map fun n => .bl (inst n t)) := rfl
@[simp] theorem ev_bm (m : BM) (a as : E) : (ev T C (.bm m a as)).e ρ τ = ((ev T C a).e ρ τ).bind fun x τ1 => if bmPre m x τ1 = true then ((ev T C as).a ρ τ1).bind fun ws τ2 => bmeth m x ws τ2 else .no := rfl
@[simp] theorem ev_lc (g : G) (it ts elt : E) (vs : List Nat) : (ev T C (.lc g it ts elt vs)).e ρ τ = ((ev T C it).i ρ τ).bind fun J τ1 => lcL g J.gs (wipeS ρ vs) (ev T C ts).t (ev T C elt).e τ1.length J.xs (τ1 ++ [.lst []]) := rfl
@[simp] theorem ev_seq (a : E) : (ev T C (.seq a)).i ρ τ = ((ev T C a).e ρ τ).bind seqI := rfl
@[simp] theorem ev_rng (a : E) : (ev T C (.rng a)).i ρ τ = ((ev T C a).a ρ τ).bind rngI := rfl
@[simp] theorem ev_zip (a : E) : (ev T C (.zip a)).i ρ τ = ((ev T C a).a ρ τ).bind zipI := rfl
@[simp] theorem ev_rev (a : E) : (ev T C (.rev a)).i ρ τ = ((ev T C a).e ρ τ).bind revI := rfl
@[simp] theorem ev_dget (d k : E) : (ev T C (.dget d k)).e ρ τ = ((ev T C d).e ρ τ).bind fun w τ1 => if isDic τ1 w = true then ((ev T C k).e ρ τ1).bind fun y τ2 => lift τ2 (dgetW τ2 w y .non) else .no := rfl
@[simp] theorem ev_dget2 (d k x : E) : (ev T C (.dget2 d k x)).e ρ τ = ((ev T C d).e ρ τ).bind fun w τ1 => if isDic τ1 w = true then ((ev T C k).e ρ τ1).bind fun y τ2 => ((ev T C x).e ρ τ2).bind fun z τ3 => lift τ3 (dgetW τ3 w y z) else .no := rfl
@[simp] theorem ev_enum (a : E) : (ev T C (.enum a)).i ρ τ = ((ev T C a).e ρ τ).bind enumI := rfl
@[simp] theorem ev_var_t (i : Nat) : (ev T C (.var i)).t ρ τ = dT ((ev T C (.var i)).e ρ τ) := rfl
@[simp] theorem ev_var_p (i : Nat) : (ev T C (.var i)).p ρ τ = toP ((ev T C (.var i)).e ρ τ) := rfl
@[simp] theorem ev_con_t (w : W) : (ev T C (.con w)).t ρ τ = dT ((ev T C (.con w)).e ρ τ) := rfl
@[simp] theorem ev_con_p (w : W) : (ev T C (.con w)).p ρ τ = toP ((ev T C (.con w)).e ρ τ) := rfl
@[simp] theorem ev_op_t (o : Operator) (a b : E) : (ev T C (.op o a b)).t ρ τ = dT ((ev T C (.op o a b)).e ρ τ) := rfl
@[simp] theorem ev_op_p (o : Operator) (a b : E) : (ev T C (.op o a b)).p ρ τ = toP ((ev T C (.op o a b)).e ρ τ) := rfl
@[simp] theorem ev_neg_t (a : E) : (ev T C (.neg a)).t ρ τ = dT ((ev T C (.neg a)).e ρ τ) := rfl
@[simp] theorem ev_neg_p (a : E) : (ev T C (.neg a)).p ρ τ = toP ((ev T C (.neg a)).e ρ τ) := rfl
@[simp] theorem ev_cmp_t (o : CmpOp) (a b : E) : (ev T C (.cmp o a b)).t ρ τ = dT ((ev T C (.cmp o a b)).e ρ τ) := rfl
@[simp] theorem ev_chain_t (o p : CmpOp) (a b c : E) : (ev T C (.chain o p a b c)).t ρ τ = dT ((ev T C (.chain o p a b c)).e ρ τ) := rfl
@[simp] theorem ev_ite_t (t a b : E) : (ev T C (.ite t a b)).t ρ τ = dT ((ev T C (.ite t a b)).e ρ τ) := rfl
@[simp] theorem ev_ite_p (t a b : E) : (ev T C (.ite t a b)).p ρ τ = toP ((ev T C (.ite t a b)).e ρ τ) := rfl
@[simp] theorem ev_tup_t (a : E) : (ev T C (.tup a)).t ρ τ = dT ((ev T C (.tup a)).e ρ τ) := rfl
@[simp] theorem ev_lst_t (a : E) : (ev T C (.lst a)).t ρ τ = dT ((ev T C (.lst a)).e ρ τ) := rfl
@[simp] theorem ev_ix_t (a b : E) : (ev T C (.ix a b)).t ρ τ = dT ((ev T C (.ix a b)).e ρ τ) := rfl
@[simp] theorem ev_ix_p (a b : E) : (ev T C (.ix a b)).p ρ τ = toP ((ev T C (.ix a b)).e ρ τ) := rfl
@[simp] theorem ev_slice_t (a b c : E) : (ev T C (.slice a b c)).t ρ τ = dT ((ev T C (.slice a b c)).e ρ τ) := rfl
@[simp] theorem ev_fld_t (a : E) (f : Str) : (ev T C (.fld a f)).t ρ τ = dT ((ev T C (.fld a f)).e ρ τ) := rfl
@[simp] theorem ev_fld_p (a : E) (f : Str) : (ev T C (.fld a f)).p ρ τ = toP ((ev T C (.fld a f)).e ρ τ) := rfl
@[simp] theorem ev_call_t (f : Nat) (a : E) : (ev T C (.call f a)).t ρ τ = dT ((ev T C (.call f a)).e ρ τ) := rfl
@[simp] theorem ev_call_p (f : Nat) (a : E) : (ev T C (.call f a)).p ρ τ = toP ((ev T C (.call f a)).e ρ τ) := rfl
@[simp] theorem ev_meth_t (m : Str) (a as : E) : (ev T C (.meth m a as)).t ρ τ = dT ((ev T C (.meth m a as)).e ρ τ) := rfl
@[simp] theorem ev_meth_p (m : Str) (a as : E) : (ev T C (.meth m a as)).p ρ τ = toP ((ev T C (.meth m a as)).e ρ τ) := rfl
@[simp] theorem ev_bi_t (b : BI) (a : E) : (ev T C (.bi b a)).t ρ τ = dT ((ev T C (.bi b a)).e ρ τ) := rfl
@[simp] theorem ev_bi_p (b : BI) (a : E) : (ev T C (.bi b a)).p ρ τ = toP ((ev T C (.bi b a)).e ρ τ) := rfl
@[simp] theorem ev_isi_t (a : E) (t : Ty) : (ev T C (.isi a t)).t ρ τ = dT ((ev T C (.isi a t)).e ρ τ) := rfl
@[simp] theorem ev_bm_t (m : BM) (a as : E) : (ev T C (.bm m a as)).t ρ τ = dT ((ev T C (.bm m a as)).e ρ τ) := rfl
@[simp] theorem ev_lc_t (g : G) (it ts elt : E) (vs : List Nat) : (ev T C (.lc g it ts elt vs)).t ρ τ = dT ((ev T C (.lc g it ts elt vs)).e ρ τ) := rfl
@[simp] theorem evS_nil  : evS T C (.nil) ρ τ = .ok (.nx ρ) τ := rfl
@[simp] theorem evS_cons (s r : S) : evS T C (.cons s r) ρ τ = seqR (evS T C s ρ τ) (evS T C r) := by rw [evS]; rfl
@[simp] theorem evS_ex (e : E) : evS T C (.ex e) ρ τ = ((ev T C e).e ρ τ).bind fun _ τ1 => .ok (.nx ρ) τ1 := rfl
@[simp] theorem evS_set (i : Nat) (e : E) : evS T C (.set i e) ρ τ = ((ev T C e).e ρ τ).bind fun w τ1 => .ok (.nx (ρ.set i (some w))) τ1 := rfl
@[simp] theorem evS_setT (is : List Nat) (e : E) : evS T C (.setT is e) ρ τ = ((ev T C e).e ρ τ).bind fun w τ1 => optR (putT τ1 is w ρ) fun ρ1 => .ok (.nx ρ1) τ1 := by
  rw [evS]
  refine congrArg (R.bind _) (funext fun w => funext fun τ1 => ?_)
  cases putT τ1 is w ρ <;> rfl
@[simp] theorem putT_tup (is : List Nat) (xs : List W) : putT τ is (.tup xs) ρ = putG (.tup is) (.tup xs) ρ := rfl
theorem putT_lst {is : List Nat} {n : Nat} {xs : List W} (h : τ[n]? = some (.lst xs)) : putT τ is (.ref n) ρ = putG (.tup is) (.tup xs) ρ := by
  have : seqOf τ n = some xs := by
    unfold seqOf
    rw [h]
  unfold putT
  simp only [this]
@[simp] theorem evS_setF (a : E) (f : Str) (e : E) : evS T C (.setF a f e) ρ τ = ((ev T C e).e ρ τ).bind fun w τ1 => ((ev T C a).e ρ τ1).bind fun x τ2 => optR (setField T τ2 x f w) fun τ3 => .ok (.nx ρ) τ3 := by
  rw [evS]
  refine congrArg (R.bind _) (funext fun w => funext fun τ1 => congrArg (R.bind _) (funext fun x => funext fun τ2 => ?_))
  cases setField T τ2 x f w <;> rfl
@[simp] theorem evS_setI (a i e : E) : evS T C (.setI a i e) ρ τ = ((ev T C e).e ρ τ).bind fun w τ1 => ((ev T C a).e ρ τ1).bind fun x τ2 => ((ev T C i).e ρ τ2).bind fun y τ3 => optR (setItem τ3 x y w) fun τ4 => .ok (.nx ρ) τ4 := by
  rw [evS]
  refine congrArg (R.bind _) (funext fun w => funext fun τ1 => congrArg (R.bind _) (funext fun x => funext fun τ2 => congrArg (R.bind _) (funext fun y => funext fun τ3 => ?_)))
  cases setItem τ3 x y w <;> rfl
@[simp] theorem evS_aug (i : Nat) (o : Operator) (e : E) : evS T C (.aug i o e) ρ τ = (getV ρ[i]? τ).bind fun x _ => ((ev T C e).e ρ τ).bind fun y τ1 => optR (augW o x y) fun z => .ok (.nx (ρ.set i (some z))) τ1 := by
  rw [evS]
  cases ρ[i]? with
  | none => rfl
  | some x =>
    cases x with
    | none => rfl
    | some x =>
      refine congrArg (R.bind _) (funext fun y => funext fun τ1 => ?_)
      cases augW o x y <;> rfl
@[simp] theorem evS_ife (t : E) (a b : S) : evS T C (.ife t a b) ρ τ = ((ev T C t).t ρ τ).bind fun k τ1 => if k = true then evS T C a ρ τ1 else evS T C b ρ τ1 := rfl
@[simp] theorem evS_loop (g : G) (it : E) (b : S) : evS T C (.loop g it b) ρ τ = ((ev T C it).i ρ τ).bind fun J τ1 => forL g J.gs (evS T C b) J.xs ρ τ1 := rfl
@[simp] theorem evS_whl (t : E) (b : S) : evS T C (.whl t b) ρ τ = whlL (ev T C t).t (evS T C b) bigL ρ τ := rfl
@[simp] theorem evS_ret (e : E) : evS T C (.ret e) ρ τ = ((ev T C e).e ρ τ).bind fun w τ1 => .ok (.rt w) τ1 := rfl
@[simp] theorem evS_retN  : evS T C (.retN) ρ τ = .ok (.rt .non) τ := rfl
@[simp] theorem evS_brk  : evS T C (.brk) ρ τ = .ok (.bk ρ) τ := rfl
@[simp] theorem evS_cont  : evS T C (.cont) ρ τ = .ok (.ct ρ) τ := rfl
@[simp] theorem evS_pass  : evS T C (.pass) ρ τ = .ok (.nx ρ) τ := rfl
@[simp] theorem evS_try (b : S) (c i v : Nat) : evS T C (.try b c i v) ρ τ = tryR T c i v (evS T C b ρ τ) := by
  rw [evS]
  cases evS T C b ρ τ <;> rfl
@[simp] theorem evS_raise (c : Nat) (as : E) : evS T C (.raise c as) ρ τ = .exn ⟨c, []⟩ ρ τ := rfl
end
section
variable {τ : Sto}
@[simp] theorem binop_int (o : Operator) (i j : Int) (τ : Sto) : binop o (.int i) (.int j) τ = lift τ ((Mi.binI o i j).map .int) := rfl
@[simp] theorem binop_str (x y : Str) (τ : Sto) : binop .Add (.str x) (.str y) τ = if x.length + y.length ≤ sizeLine then .ok (.str (x ++ y)) τ else .no := rfl
@[simp] theorem binop_mulS (x : Str) (k : Int) (τ : Sto) : binop .Mult (.str x) (.int k) τ = if 0 ≤ k ∧ k ≤ 65536 ∧ x.length ≤ 64 then .ok (.str (Txt.mul x k)) τ else .no := rfl
@[simp] theorem binop_tup (x y : List W) (τ : Sto) : binop .Add (.tup x) (.tup y) τ = if x.length + y.length ≤ sizeLine then .ok (.tup (x ++ y)) τ else .no := rfl
theorem binop_lst {n m : Nat} {x y : List W} (h : τ[n]? = some (.lst x)) (h' : τ[m]? = some (.lst y)) (l : x.length + y.length ≤ sizeLine) : binop .Add (.ref n) (.ref m) τ = newL τ (x ++ y) := by
  unfold binop
  simp only [h, h']
  rw [if_pos l]
  rfl
@[simp] theorem binI_add (i j : Int) : Mi.binI .Add i j = some (i + j) := rfl
@[simp] theorem binI_sub (i j : Int) : Mi.binI .Sub i j = some (i - j) := rfl
@[simp] theorem binI_mul_l {a b : Int} (h1 : -18446744073709551616 < a) (h2 : a < 18446744073709551616) : Mi.binI .Mult a b = some (a * b) := if_pos (.inl ⟨h1, h2⟩)
@[simp] theorem binI_mul_r {a b : Int} (h1 : -18446744073709551616 < b) (h2 : b < 18446744073709551616) : Mi.binI .Mult a b = some (a * b) := if_pos (.inr ⟨h1, h2⟩)
@[simp] theorem binI_div {a b : Int} (h1 : 0 < b) (h2 : b < 1073741824) : Mi.binI .FloorDiv a b = some (a / b) := if_pos ⟨h1, h2⟩
@[simp] theorem binI_fdiv {a b : Int} (h1 : b < 0) (h2 : -1073741824 < b) : Mi.binI .FloorDiv a b = some (a.fdiv b) := by
  show (if 0 < b ∧ b < 1073741824 then some (a / b) else if b ≠ 0 ∧ b.natAbs < 1073741824 then some (a.fdiv b) else none) = _
  rw [if_neg (by omega), if_pos (by omega)]
@[simp] theorem binI_fmod {a b : Int} (h1 : b < 0) : Mi.binI .Mod a b = some (a.fmod b) := by
  show (if 0 < b then some (a % b) else if b ≠ 0 then some (a.fmod b) else none) = _
  rw [if_neg (by omega), if_pos (by omega)]
@[simp] theorem binI_mod {a b : Int} (h1 : 0 < b) : Mi.binI .Mod a b = some (a % b) := if_pos h1
@[simp] theorem binI_pow {a b : Int} (h1 : 0 ≤ b) (h2 : b ≤ 1000000) (h3 : a.natAbs < 18446744073709551616) : Mi.binI .Pow a b = some (a ^ b.toNat) := if_pos ⟨h1, h2, h3⟩
@[simp] theorem inst_self (t : Ty) : inst t t = true := by cases t <;> rfl
@[simp] theorem inst_bi : inst .bool .int = true := rfl
@[simp] theorem inst_ib : inst .int .bool = false := rfl
@[simp] theorem inst_is : inst .int .str = false := rfl
@[simp] theorem inst_it : inst .int .tuple = false := rfl
@[simp] theorem inst_ti : inst .tuple .int = false := rfl
@[simp] theorem inst_si : inst .str .int = false := rfl
@[simp] theorem inst_st : inst .str .tuple = false := rfl
@[simp] theorem inst_ts : inst .tuple .str = false := rfl
theorem seq_lst {n : Nat} {xs : List W} (h : τ[n]? = some (.lst xs)) : seqOf τ n = some xs := by
  unfold seqOf
  rw [h]
def strB (x y : Str) : Option Bool := if PyData.strOk x = true ∧ PyData.strOk y = true then some (x == y) else none
theorem eqW_str (τ : Sto) (x y : Str) : eqW τ (.str x) (.str y) = strB x y := by
  show (if SeqAt.shaped (.str x) = true ∧ SeqAt.shaped (.str y) = true then some (PyData.eqv (.str x) (.str y)) else none) = _
  have e : ∀ z : Str, SeqAt.shaped (.str z) = PyData.strOk z := fun z => by
    unfold SeqAt.shaped
    have h1 : PyData.canLay0 (.str z) = PyData.strOk z := by simp only [PyData.canLay0]
    have h2 : decide (PyData.depth (.str z) ≤ 64) = true := decide_eq_true (by simp [PyData.depth])
    rw [h1, h2, Bool.and_true]
  rw [e, e]
  unfold strB
  have h3 : PyData.eqv (.str x) (.str y) = (x == y) := by simp only [PyData.eqv]
  rw [h3]
theorem toD_ints (τ : Sto) (d : Nat) : ∀ xs : List Int, mapO (toD τ d) (xs.map W.int) = some (xs.map PyData.int)
  | [] => rfl
  | x :: r => by
    have h : toD τ d (.int x) = some (.int x) := by cases d <;> rfl
    rw [List.map_cons, mapO, h, toD_ints τ d r]
    rfl
theorem lay_ints : ∀ xs : List Int, PyData.canLayAll0 (xs.map PyData.int) = true
  | [] => by simp only [List.map_nil, PyData.canLayAll0]
  | x :: r => by simp only [List.map_cons, PyData.canLayAll0, PyData.canLay0, lay_ints r, Bool.and_self]
theorem depth_ints : ∀ xs : List Int, PyData.depthAll (xs.map PyData.int) ≤ 1
  | [] => by simp [PyData.depthAll]
  | x :: r => by
    have := depth_ints r
    simp only [List.map_cons, PyData.depthAll, PyData.depth]
    omega
theorem shaped_ints (xs : List Int) : SeqAt.shaped (.list (xs.map PyData.int)) = true := by
  unfold SeqAt.shaped
  have h1 : PyData.canLay0 (.list (xs.map PyData.int)) = true := by
    simp only [PyData.canLay0]
    exact lay_ints xs
  have h2 : PyData.depth (.list (xs.map PyData.int)) ≤ 64 := by
    have := depth_ints xs
    simp only [PyData.depth]
    omega
  rw [h1, decide_eq_true h2, Bool.and_self]
theorem eqv_ints : ∀ xs ys : List Int, PyData.eqvAll (xs.map PyData.int) (ys.map PyData.int) = (xs == ys)
  | [], [] => by simp [PyData.eqvAll]
  | [], y :: s => by simp [PyData.eqvAll]
  | x :: r, [] => by simp [PyData.eqvAll]
  | x :: r, y :: s => by
    have h := eqv_ints r s
    simp only [List.map_cons, PyData.eqvAll, PyData.eqv, h]
    rfl
theorem eqW_ints {τ : Sto} {n m : Nat} {xs ys : List Int} (h1 : τ[n]? = some (.lst (xs.map W.int))) (h2 : τ[m]? = some (.lst (ys.map W.int))) : eqW τ (.ref n) (.ref m) = some (xs == ys) := by
  have e : ∀ {n : Nat} {zs : List Int}, τ[n]? = some (.lst (zs.map W.int)) → toD τ 64 (.ref n) = some (.list (zs.map PyData.int)) := fun {n zs} h => by
    show (match seqOf τ n with
      | some xs => (mapO (toD τ 63) xs).map PyData.list
      | none => none) = _
    rw [seq_lst h]
    show (mapO (toD τ 63) (zs.map W.int)).map PyData.list = _
    rw [toD_ints]
    rfl
  unfold eqW
  rw [e h1, e h2]
  dsimp only
  rw [if_pos ⟨shaped_ints xs, shaped_ints ys⟩]
  simp only [PyData.eqv, eqv_ints]
@[simp] theorem truth_bl (b : Bool) : truth τ (.bl b) = some b := rfl
@[simp] theorem truth_non : truth τ .non = some false := rfl
@[simp] theorem truth_int (i : Int) : truth τ (.int i) = some (i != 0) := rfl
@[simp] theorem truth_tup (xs : List W) : truth τ (.tup xs) = some (!xs.isEmpty) := rfl
@[simp] theorem cmp_lt (i j : Int) : cmpop .Lt (.int i) (.int j) τ = some (decide (i < j)) := rfl
@[simp] theorem cmp_le (i j : Int) : cmpop .LtE (.int i) (.int j) τ = some (decide (i ≤ j)) := rfl
@[simp] theorem cmp_gt (i j : Int) : cmpop .Gt (.int i) (.int j) τ = some (decide (j < i)) := rfl
@[simp] theorem cmp_ge (i j : Int) : cmpop .GtE (.int i) (.int j) τ = some (decide (j ≤ i)) := rfl
@[simp] theorem cmp_eq (x y : W) : cmpop .Eq x y τ = eqA τ x y := rfl
@[simp] theorem cmp_ne (x y : W) : cmpop .NotEq x y τ = (eqA τ x y).map (!·) := rfl
theorem eqA_l {x y : W} (h : dicAt τ x = none) : eqA τ x y = eqW τ x y := by
  unfold eqA
  simp only [h]
theorem eqA_r {x y : W} (h : dicAt τ y = none) : eqA τ x y = eqW τ x y := by
  unfold eqA
  cases dicAt τ x with
  | none => rfl
  | some ks => simp only [h]
@[simp] theorem eqA_non (y : W) : eqA τ .non y = eqW τ .non y := eqA_l rfl
@[simp] theorem eqA_int (i : Int) (y : W) : eqA τ (.int i) y = eqW τ (.int i) y := eqA_l rfl
@[simp] theorem eqA_bl (i : Bool) (y : W) : eqA τ (.bl i) y = eqW τ (.bl i) y := eqA_l rfl
@[simp] theorem eqA_str (i : Str) (y : W) : eqA τ (.str i) y = eqW τ (.str i) y := eqA_l rfl
@[simp] theorem eqA_tup (i : List W) (y : W) : eqA τ (.tup i) y = eqW τ (.tup i) y := eqA_l rfl
@[simp] theorem eqA_non2 (y : W) : eqA τ y .non = eqW τ y .non := eqA_r rfl
@[simp] theorem eqA_int2 (i : Int) (y : W) : eqA τ y (.int i) = eqW τ y (.int i) := eqA_r rfl
@[simp] theorem eqA_bl2 (i : Bool) (y : W) : eqA τ y (.bl i) = eqW τ y (.bl i) := eqA_r rfl
@[simp] theorem eqA_str2 (i : Str) (y : W) : eqA τ y (.str i) = eqW τ y (.str i) := eqA_r rfl
@[simp] theorem eqA_tup2 (i : List W) (y : W) : eqA τ y (.tup i) = eqW τ y (.tup i) := eqA_r rfl
def eqL (a b : Option AO) (o : Option Bool) : Option Bool := match a, b with
  | some (.dic ks), some (.dic ls) => dicEq ks ls
  | _, _ => o
@[simp] theorem eqL_dic (ks ls : List (Key × W)) (o : Option Bool) : eqL (some (.dic ks)) (some (.dic ls)) o = dicEq ks ls := rfl
@[simp] theorem eqL_lst (x : List W) (b : Option AO) (o : Option Bool) : eqL (some (.lst x)) b o = o := by
  cases b <;> rfl
theorem eqA_ref (n m : Nat) : eqA τ (.ref n) (.ref m) = eqL τ[n]? τ[m]? (eqW τ (.ref n) (.ref m)) := by
  unfold eqA dicAt eqL
  rcases e : τ[n]? with _ | (x | x | x | ⟨c, x⟩) <;> rcases e' : τ[m]? with _ | (y | y | y | ⟨d, y⟩) <;> simp only [e, e']
@[simp] theorem cmp_in (x y : W) : cmpop .In x y τ = inW τ x y := rfl
@[simp] theorem cmp_nin (x y : W) : cmpop .NotIn x y τ = (inW τ x y).map (!·) := rfl
@[simp] theorem item_tup (xs : List W) (i : Int) : itemAt τ (.tup xs) (.int i) = L2.atI xs i := rfl
theorem item_lst {n : Nat} {xs : List W} (h : τ[n]? = some (.lst xs)) (i : Int) : itemAt τ (.ref n) (.int i) = L2.atI xs i := by
  unfold itemAt
  simp only [h]
theorem item_frz {n : Nat} {xs : List Int} (h : τ[n]? = some (.frz xs)) (i : Int) : itemAt τ (.ref n) (.int i) = L2.atI (xs.map W.int) i := by
  unfold itemAt
  simp only [h]
@[simp] theorem item_end (τ : Sto) (xs : List W) (i : Int) : itemAt (τ ++ [.lst xs]) (.ref τ.length) (.int i) = L2.atI xs i := item_lst (at_end τ _) i
@[simp] theorem len_str (x : Str) (τ : Sto) : builtin .len [.str x] τ = if x.length ≤ sizeLine then .ok (.int x.length) τ else .no := rfl
@[simp] theorem len_tup (x : List W) (τ : Sto) : builtin .len [.tup x] τ = .ok (.int x.length) τ := rfl
theorem len_lst {n : Nat} {xs : List W} (h : τ[n]? = some (.lst xs)) : builtin .len [.ref n] τ = .ok (.int xs.length) τ := by
  show bLen [.ref n] τ = _
  unfold bLen
  simp only [h]
theorem len_frz {n : Nat} {xs : List Int} (h : τ[n]? = some (.frz xs)) : builtin .len [.ref n] τ = .ok (.int xs.length) τ := by
  show bLen [.ref n] τ = _
  unfold bLen
  simp only [h]
theorem slice_seq {n : Nat} {xs : List W} (h : seqOf τ n = some xs) (lo hi : Option Int) : sliceW (.ref n) lo hi τ = newL τ (cut xs lo hi) := by
  unfold sliceW
  simp only [h]
  rfl
theorem seqI_ref {n : Nat} {xs : List W} (h : seqOf τ n = some xs) : seqI (.ref n) τ = .ok ⟨[(n, xs)], xs⟩ τ := by
  unfold seqI
  simp only [h]
@[simp] theorem seqI_str (z : Str) (τ : Sto) : seqI (.str z) τ = .ok ⟨[], z.cps.toList.map fun c => .str ⟨#[c]⟩⟩ τ := rfl
@[simp] theorem in_str (x y : Str) (τ : Sto) : inW τ (.str x) (.str y) = some (isIn x y) := rfl
theorem isIn_one (c : Nat) (a : List Nat) : isIn (SX.S [c]) (SX.S a) = decide (c ∈ a) := SX.in_one a c
@[simp] theorem seqI_tup (xs : List W) (τ : Sto) : seqI (.tup xs) τ = .ok ⟨[], xs⟩ τ := rfl
@[simp] theorem srcW_tup (xs : List W) : srcW τ (.tup xs) = some ([], xs) := rfl
theorem srcW_seq {n : Nat} {xs : List W} (h : seqOf τ n = some xs) : srcW τ (.ref n) = some ([(n, xs)], xs) := by
  show (seqOf τ n).map _ = _
  rw [h]
  rfl
theorem zipI_eq2 (u v : W) (τ : Sto) : zipI [u, v] τ = optR (srcW τ u) fun p => optR (srcW τ v) fun q => .ok ⟨p.1 ++ q.1, (p.2.zip q.2).map fun p => .tup [p.1, p.2]⟩ τ := by
  unfold zipI optR
  dsimp only
  cases srcW τ u with
  | none => rfl
  | some p => cases srcW τ v <;> rfl
theorem zipI_eq3 (u v t : W) (τ : Sto) : zipI [u, v, t] τ = optR (srcW τ u) fun p => optR (srcW τ v) fun q => optR (srcW τ t) fun r => .ok ⟨p.1 ++ (q.1 ++ r.1), (p.2.zip (q.2.zip r.2)).map fun p => .tup [p.1, p.2.1, p.2.2]⟩ τ := by
  unfold zipI optR
  dsimp only
  cases srcW τ u with
  | none => rfl
  | some p =>
    cases srcW τ v with
    | none => rfl
    | some q => cases srcW τ t <;> rfl
theorem enumI_eq (u : W) (τ : Sto) : enumI u τ = optR (srcW τ u) fun p => .ok ⟨p.1, (p.2.zipIdx).map fun p => .tup [.int (p.2 : Int), p.1]⟩ τ := by
  unfold enumI optR
  cases srcW τ u <;> rfl
theorem revI_eq (u : W) (τ : Sto) : revI u τ = optR (srcW τ u) fun p => .ok ⟨p.1, p.2.reverse⟩ τ := by
  unfold revI optR
  cases srcW τ u <;> rfl
@[simp] theorem tyOf_int (i : Int) : tyOf τ (.int i) = some .int := rfl
@[simp] theorem tyOf_bl (i : Bool) : tyOf τ (.bl i) = some .bool := rfl
@[simp] theorem tyOf_str (i : Str) : tyOf τ (.str i) = some .str := rfl
@[simp] theorem tyOf_tup (i : List W) : tyOf τ (.tup i) = some .tuple := rfl
@[simp] theorem tyOf_non : tyOf τ .non = some .none := rfl
theorem seq_frz {n : Nat} {xs : List Int} (h : τ[n]? = some (.frz xs)) : seqOf τ n = some (xs.map .int) := by
  unfold seqOf
  rw [h]
/-! the same by what stands at the place -/
def addL (a b : Option AO) (τ : Sto) : R W := match a, b with
  | some (.lst xs), some (.lst ys) => if xs.length + ys.length ≤ sizeLine then newL τ (xs ++ ys) else .no
  | _, _ => .no
@[simp] theorem addL_lst (x y : List W) (τ : Sto) : addL (some (.lst x)) (some (.lst y)) τ = if x.length + y.length ≤ sizeLine then newL τ (x ++ y) else .no := rfl
theorem add_ref (n m : Nat) (τ : Sto) : binop .Add (.ref n) (.ref m) τ = addL τ[n]? τ[m]? τ := by
  unfold binop addL
  rcases e : τ[n]? with _ | (x | x | x | ⟨c, x⟩) <;> rcases e' : τ[m]? with _ | (y | y | y | ⟨d, y⟩) <;> simp only [e, e'] <;> rfl
def seqL (a : Option AO) : Option (List W) := match a with
  | some (.lst xs) => some xs
  | some (.frz ns) => some (ns.map .int)
  | _ => none
@[simp] theorem seqL_lst (x : List W) : seqL (some (.lst x)) = some x := rfl
@[simp] theorem seqL_frz (x : List Int) : seqL (some (.frz x)) = some (x.map .int) := rfl
theorem seqOf_eq (τ : Sto) (n : Nat) : seqOf τ n = seqL τ[n]? := by
  unfold seqOf seqL
  rfl
theorem slice_ref (n : Nat) (lo hi : Option Int) (τ : Sto) : sliceW (.ref n) lo hi τ = optR (seqL τ[n]?) fun xs => newL τ (cut xs lo hi) := by
  unfold sliceW
  simp only [seqOf_eq]
  cases seqL τ[n]? <;> rfl
theorem seqI_eq (n : Nat) (τ : Sto) : seqI (.ref n) τ = optR (seqL τ[n]?) fun xs => .ok ⟨[(n, xs)], xs⟩ τ := by
  unfold seqI
  simp only [seqOf_eq]
  cases seqL τ[n]? <;> rfl
theorem srcW_ref (n : Nat) (τ : Sto) : srcW τ (.ref n) = (seqL τ[n]?).map fun xs => ([(n, xs)], xs) := by
  show (seqOf τ n).map _ = _
  rw [seqOf_eq]
/-- a dict read -/
def dgetL (a : Option AO) (y z : W) : Option W := match a, keyOf y with
  | some (.dic kvs), some k => some ((kvGet kvs k).getD z)
  | _, _ => none
@[simp] theorem dgetL_int (kvs : List (Key × W)) (i : Int) (z : W) : dgetL (some (.dic kvs)) (.int i) z = some ((kvGet kvs (.inl i)).getD z) := rfl
@[simp] theorem dgetL_str (kvs : List (Key × W)) (i : Str) (z : W) : dgetL (some (.dic kvs)) (.str i) z = some ((kvGet kvs (.inr i)).getD z) := rfl
theorem dgetW_ref (n : Nat) (y z : W) : dgetW τ (.ref n) y z = dgetL τ[n]? y z := by
  unfold dgetW dgetL
  rfl
def isDicL : Option AO → Bool
  | some (.dic _) => true
  | _ => false
@[simp] theorem isDicL_dic (kvs : List (Key × W)) : isDicL (some (.dic kvs)) = true := rfl
theorem isDic_ref (n : Nat) : isDic τ (.ref n) = isDicL τ[n]? := by
  unfold isDic isDicL
  rfl
def itemL (a : Option AO) (y : W) : Option W := match a with
  | some (.lst xs) => match y with
    | .int i => L2.atI xs i
    | _ => none
  | some (.frz ns) => match y with
    | .int i => L2.atI (ns.map W.int) i
    | _ => none
  | some (.dic kvs) => (keyOf y).bind (kvGet kvs)
  | _ => none
@[simp] theorem itemL_lst (x : List W) (i : Int) : itemL (some (.lst x)) (.int i) = L2.atI x i := rfl
@[simp] theorem itemL_frz (x : List Int) (i : Int) : itemL (some (.frz x)) (.int i) = L2.atI (x.map W.int) i := rfl
@[simp] theorem itemL_dic (x : List (Key × W)) (y : W) : itemL (some (.dic x)) y = (keyOf y).bind (kvGet x) := rfl
theorem item_ref (τ : Sto) (n : Nat) (y : W) : itemAt τ (.ref n) y = itemL τ[n]? y := by
  unfold itemAt itemL
  rcases e : τ[n]? with _ | (x | x | x | ⟨c, x⟩) <;> cases y <;> simp only [e]
def lenL (a : Option AO) (τ : Sto) : R W := match a with
  | some (.lst xs) => .ok (.int xs.length) τ
  | some (.frz xs) => .ok (.int xs.length) τ
  | some (.dic kvs) => .ok (.int kvs.length) τ
  | _ => .no
@[simp] theorem lenL_lst (x : List W) (τ : Sto) : lenL (some (.lst x)) τ = .ok (.int x.length) τ := rfl
@[simp] theorem lenL_frz (x : List Int) (τ : Sto) : lenL (some (.frz x)) τ = .ok (.int x.length) τ := rfl
theorem len_ref (n : Nat) (τ : Sto) : builtin .len [.ref n] τ = lenL τ[n]? τ := by
  show bLen [.ref n] τ = _
  unfold bLen lenL
  rfl
@[simp] theorem at_off (τ l : Sto) (k : Nat) : (τ ++ l)[τ.length + k]? = l[k]? := by
  rw [List.getElem?_append_right (by omega)]
  congr 1
  omega
@[simp] theorem at_off0 (τ l : Sto) : (τ ++ l)[τ.length]? = l[0]? := at_off τ l 0
theorem at_old {l : Sto} {D : Nat} {o : AO} (h : τ[D]? = some o) : (τ ++ l)[D]? = some o := pre_get (List.prefix_append _ _) h
theorem cut_mem {xs : List W} {lo hi : Option Int} {x : W} (h : x ∈ cut xs lo hi) : x ∈ xs := List.mem_of_mem_drop (List.mem_of_mem_take h)
theorem cut_len (xs : List W) (lo hi : Option Int) : (cut xs lo hi).length ≤ xs.length := by
  unfold cut
  rw [List.length_take, List.length_drop]
  omega
@[simp] theorem le_size (n : Nat) (h : n ≤ 16777216) : n ≤ sizeLine := h
theorem evF_eq {T : Tb} {F : Nat → Option Df} {k f : Nat} {d : Df} {ws : List W} (h : F f = some d) (l : ws.length = d.many) (τ : Sto) : evF T F (k + 1) f ws τ = Mi.finish (evS T (evF T F k) d.body (Mi.start d ws) τ) := by
  rw [evF]
  simp only [h, if_pos l]
theorem forL_nil {g : G} {gs : List (Nat × List W)} {body : Sl → Sto → R Fl} {ρ : Sl} (h : It.ok gs τ) : forL g gs body [] ρ τ = .ok (.nx ρ) τ := by
  unfold forL
  exact if_pos h
theorem forL_cons {g : G} {gs : List (Nat × List W)} {body : Sl → Sto → R Fl} {ρ ρ1 : Sl} {x : W} {r : List W} (h : It.ok gs τ) (e : putG g x ρ = some ρ1) : forL g gs body (x :: r) ρ τ = loopR (body ρ1 τ) (forL g gs body r) := by
  rw [forL, if_pos h, e]
  rfl
theorem whlL_eq {test : Sl → Sto → R Bool} {body : Sl → Sto → R Fl} {n : Nat} {ρ : Sl} : whlL test body (n + 1) ρ τ = (test ρ τ).bind fun b τ1 => if b = true then loopR (body ρ τ1) (whlL test body n) else .ok (.nx ρ) τ1 := by
  rw [whlL]
  rfl
@[simp] theorem ok_nil : It.ok [] τ = True := eq_true (fun q hq => nomatch hq)
@[simp] theorem ok_cons (n : Nat) (xs : List W) (r : List (Nat × List W)) : It.ok ((n, xs) :: r) τ = (seqL τ[n]? = some xs ∧ It.ok r τ) := by
  refine propext ⟨fun h => ⟨?_, fun q hq => h q (List.mem_cons_of_mem _ hq)⟩, fun h q hq => ?_⟩
  · rw [← seqOf_eq]
    exact h (n, xs) List.mem_cons_self
  · rcases List.mem_cons.mp hq with e | e
    · rw [e, seqOf_eq]
      exact h.1
    · exact h.2 q e
theorem forL_step (g : G) (gs : List (Nat × List W)) (body : Sl → Sto → R Fl) (ρ : Sl) (x : W) (r : List W) (h : It.ok gs τ) : forL g gs body (x :: r) ρ τ = optR (putG g x ρ) fun ρ1 => loopR (body ρ1 τ) (forL g gs body r) := by
  rw [forL, if_pos h]
  cases putG g x ρ <;> rfl
@[simp] theorem putG_name (i : Nat) (w : W) (ρ : Sl) : putG (.name i) w ρ = some (ρ.set i (some w)) := rfl
@[simp] theorem putG_tup (is : List Nat) (xs : List W) (ρ : Sl) : putG (.tup is) (.tup xs) ρ = if xs.length = is.length then some ((is.zip xs).foldl (fun r p => r.set p.1 (some p.2)) ρ) else none := rfl
/-- a comprehension, by what stays -/
theorem lcL_inv {g : G} {gs : List (Nat × List W)} {ρ : Sl} {test : Sl → Sto → R Bool} {elt : Sl → Sto → R W} {D : Nat} {Inv : Sto → Prop} {P : W → Prop} (hgs : ∀ τ, Inv τ → It.ok gs τ) (hset : ∀ τ ys, Inv τ → Inv (τ.set D (.lst ys))) :
    ∀ (xs : List W), (∀ x ∈ xs, ∃ ρ1, putG g x ρ = some ρ1 ∧ ∀ τ ys, Inv τ → τ[D]? = some (.lst ys) → test ρ1 τ = .ok true τ ∧ ∃ y τ', P y ∧ elt ρ1 τ = .ok y τ' ∧ Inv τ' ∧ τ'[D]? = some (.lst ys)) →
    ∀ (acc : List W) (τ : Sto), Inv τ → τ[D]? = some (.lst acc) → acc.length + xs.length ≤ sizeLine →
      ∃ ys τ', lcL g gs ρ test elt D xs τ = .ok (.ref D) τ' ∧ Inv τ' ∧ τ'[D]? = some (.lst (acc ++ ys)) ∧ ys.length = xs.length ∧ ∀ y ∈ ys, P y
  | [], _, acc, τ, p, h, _ => by
    refine ⟨[], τ, ?_, p, by rw [List.append_nil]; exact h, rfl, fun y hy => nomatch hy⟩
    unfold lcL
    exact if_pos (hgs _ p)
  | x :: r, st, acc, τ, p, h, hl => by
    obtain ⟨ρ1, e1, e2⟩ := st x List.mem_cons_self
    obtain ⟨e3, y, τ2, fy, e4, p2, h2⟩ := e2 τ acc p h
    have hl' : acc.length + (r.length + 1) ≤ sizeLine := hl
    have hs : (τ2.set D (.lst (acc ++ [y])))[D]? = some (.lst (acc ++ [y])) := by
      rw [List.getElem?_set_self (List.getElem?_eq_some_iff.mp h2).1]
    obtain ⟨ys, τ', a1, a2, a3, a4, a5⟩ := lcL_inv hgs hset r (fun z hz => st z (List.mem_cons_of_mem _ hz)) (acc ++ [y]) (τ2.set D (.lst (acc ++ [y]))) (hset _ _ p2) hs (by rw [List.length_append]; show acc.length + 1 + r.length ≤ _; omega)
    refine ⟨y :: ys, τ', ?_, a2, by rw [a3, List.append_assoc]; rfl, congrArg (· + 1) a4, fun z hz => ?_⟩
    · unfold lcL
      rw [if_pos (hgs _ p), e1]
      simp only [e3, e4, h2]
      rw [if_pos (by omega)]
      exact a1
    · rcases List.mem_cons.mp hz with e | e
      · rw [e]; exact fy
      · exact a5 z e
/-- a for that only goes on, by what stays while n items are left -/
theorem forL_cnt {g : G} {gs : List (Nat × List W)} {body : Sl → Sto → R Fl} {Inv : Nat → Sl → Sto → Prop} (hgs : ∀ n ρ τ, Inv n ρ τ → It.ok gs τ) :
    ∀ (xs : List W), (∀ x ∈ xs, ∀ n ρ τ, Inv (n + 1) ρ τ → ∃ ρ1, putG g x ρ = some ρ1 ∧ ∃ ρ2 τ2, body ρ1 τ = .ok (.nx ρ2) τ2 ∧ Inv n ρ2 τ2) →
    ∀ ρ τ, Inv xs.length ρ τ → ∃ ρ' τ', forL g gs body xs ρ τ = .ok (.nx ρ') τ' ∧ Inv 0 ρ' τ'
  | [], _, ρ, τ, h => ⟨ρ, τ, forL_nil (hgs _ _ _ h), h⟩
  | x :: r, st, ρ, τ, h => by
    obtain ⟨ρ1, e1, ρ2, τ2, e2, h2⟩ := st x List.mem_cons_self r.length ρ τ h
    obtain ⟨ρ', τ', a1, a2⟩ := forL_cnt hgs r (fun z hz => st z (List.mem_cons_of_mem _ hz)) ρ2 τ2 h2
    exact ⟨ρ', τ', by rw [forL_cons (hgs _ _ _ h) e1, e2]; exact a1, a2⟩
/-- a comprehension that only picks -/
theorem lcL_fil {g : G} {ρ : Sl} {test : Sl → Sto → R Bool} {elt : Sl → Sto → R W} {D : Nat} (p : W → Bool) :
    ∀ (xs : List W), (∀ x ∈ xs, ∃ ρ1, putG g x ρ = some ρ1 ∧ ∀ τ, test ρ1 τ = .ok (p x) τ ∧ elt ρ1 τ = .ok x τ) →
    ∀ (acc : List W) (τ : Sto), τ[D]? = some (.lst acc) → acc.length + xs.length ≤ sizeLine →
      lcL g [] ρ test elt D xs τ = .ok (.ref D) (τ.set D (.lst (acc ++ xs.filter p)))
  | [], _, acc, τ, h, _ => by
    unfold lcL
    rw [if_pos (show It.ok [] τ from fun q hq => nomatch hq), List.filter_nil, List.append_nil]
    have e : τ.set D (.lst acc) = τ := by
      obtain ⟨h1, h2⟩ := List.getElem?_eq_some_iff.mp h
      rw [← h2]
      exact List.set_getElem_self h1
    rw [e]
  | x :: r, st, acc, τ, h, hl => by
    obtain ⟨ρ1, e1, e2⟩ := st x List.mem_cons_self
    obtain ⟨e3, e4⟩ := e2 τ
    have hl' : acc.length + (r.length + 1) ≤ sizeLine := hl
    have hlt := (List.getElem?_eq_some_iff.mp h).1
    unfold lcL
    rw [if_pos (show It.ok [] τ from fun q hq => nomatch hq), e1]
    dsimp only
    rw [e3]
    cases hp : p x with
    | true =>
      simp only [e4, h]
      rw [if_pos (by omega), lcL_fil p r (fun z hz => st z (List.mem_cons_of_mem _ hz)) (acc ++ [x]) _ (by rw [List.getElem?_set_self hlt]) (by rw [List.length_append]; show acc.length + 1 + r.length ≤ _; omega)]
      rw [List.set_set, List.filter_cons_of_pos hp, List.append_assoc]
      rfl
    | false =>
      simp only []
      rw [lcL_fil p r (fun z hz => st z (List.mem_cons_of_mem _ hz)) acc τ h (by omega), List.filter_cons_of_neg (by rw [hp]; exact Bool.false_ne_true)]
/-- a comprehension that picks none -/
theorem lcL_none {g : G} {ρ : Sl} {test : Sl → Sto → R Bool} {elt : Sl → Sto → R W} {D : Nat} {τ0 : Sto} :
    ∀ (xs : List W), (∀ x ∈ xs, ∃ ρ1, putG g x ρ = some ρ1 ∧ ∀ τ, τ0 <+: τ → ∃ τ', test ρ1 τ = .ok false τ' ∧ τ <+: τ') →
    ∀ (τ : Sto), τ0 <+: τ → ∃ τ', lcL g [] ρ test elt D xs τ = .ok (.ref D) τ' ∧ τ <+: τ'
  | [], _, τ, _ => by
    refine ⟨τ, ?_, List.prefix_refl τ⟩
    unfold lcL
    rw [if_pos (show It.ok [] τ from fun q hq => nomatch hq)]
  | x :: r, st, τ, p => by
    obtain ⟨ρ1, e1, e2⟩ := st x List.mem_cons_self
    obtain ⟨τ1, e3, p1⟩ := e2 τ p
    obtain ⟨τ2, e4, p2⟩ := lcL_none r (fun z hz => st z (List.mem_cons_of_mem _ hz)) τ1 (p.trans p1)
    refine ⟨τ2, ?_, p1.trans p2⟩
    unfold lcL
    rw [if_pos (show It.ok [] τ from fun q hq => nomatch hq), e1]
    dsimp only
    rw [e3]
    exact e4
@[simp] theorem eqW_bl (τ : Sto) (a b : Bool) : eqW τ (.bl a) (.bl b) = some (a == b) := rfl
theorem strs_S : ∀ ys : List (List Nat), strsOf (ys.map fun a => W.str (SX.S a)) = some (ys.map SX.S)
  | [] => rfl
  | a :: r => by
    have ih : mapO strOf (r.map fun a => W.str (SX.S a)) = some (r.map SX.S) := strs_S r
    show mapO strOf (W.str (SX.S a) :: r.map fun a => W.str (SX.S a)) = _
    rw [mapO, ih]
    rfl
theorem join_ok {τ : Sto} {n : Nat} {a : List Nat} {ys : List (List Nat)} (h : τ[n]? = some (.lst (ys.map fun a => W.str (SX.S a)))) (l : ((ys.map SX.S).map (·.length)).sum + (ys.map SX.S).length * (SX.S a).length ≤ 16777216) : bmeth .join (.str (SX.S a)) [.ref n] τ = .ok (.str (SX.S (TL.joinL a ys))) τ := by
  show mJoin (.str (SX.S a)) [.ref n] τ = _
  unfold mJoin
  simp only [seq_lst h, Option.bind_some, strs_S]
  rw [if_pos l, SX.join_S]
/-- == of a list of signs and none -/
theorem eq_none {τ : Sto} {n m : Nat} {cs : List Nat} (h1 : τ[n]? = some (.lst (cs.map fun c => W.str ⟨#[c]⟩))) (hc : ∀ c ∈ cs, c < 128) (h2 : τ[m]? = some (.lst [])) : eqW τ (.ref n) (.ref m) = some cs.isEmpty := by
  have hm : ∀ cs : List Nat, mapO (toD τ 63) (cs.map fun c => W.str ⟨#[c]⟩) = some (cs.map fun c => PyData.str ⟨#[c]⟩) := by
    intro cs
    induction cs with
    | nil => rfl
    | cons c r ih =>
      rw [List.map_cons, mapO, ih]
      rfl
  have hl : ∀ cs : List Nat, (∀ c ∈ cs, c < 128) → PyData.canLayAll0 (cs.map fun c => PyData.str ⟨#[c]⟩) = true := by
    intro cs
    induction cs with
    | nil => intro _; simp only [List.map_nil, PyData.canLayAll0]
    | cons c r ih =>
      intro h
      have hc : c < 128 := h c List.mem_cons_self
      have e : PyData.strOk (⟨#[c]⟩ : Str) = true := by
        show (#[c] : Array Nat).all (· < 0x110000) = true
        rw [← Array.all_toList, List.all_cons]
        show (decide (c < 1114112) && true) = true
        rw [decide_eq_true (by omega)]
        rfl
      simp only [List.map_cons, PyData.canLayAll0, PyData.canLay0, ih (fun d hd => h d (List.mem_cons_of_mem _ hd)), e, Bool.and_self]
  have hd : ∀ cs : List Nat, PyData.depthAll (cs.map fun c => PyData.str ⟨#[c]⟩) ≤ 1 := by
    intro cs
    induction cs with
    | nil => simp [PyData.depthAll]
    | cons c r ih =>
      simp only [List.map_cons, PyData.depthAll, PyData.depth]
      omega
  have sh : ∀ cs : List Nat, (∀ c ∈ cs, c < 128) → SeqAt.shaped (.list (cs.map fun c => PyData.str ⟨#[c]⟩)) = true := fun cs h => by
    unfold SeqAt.shaped
    have a1 : PyData.canLay0 (.list (cs.map fun c => PyData.str ⟨#[c]⟩)) = true := by
      simp only [PyData.canLay0]
      exact hl cs h
    have a2 : PyData.depth (.list (cs.map fun c => PyData.str ⟨#[c]⟩)) ≤ 64 := by
      have := hd cs
      simp only [PyData.depth]
      omega
    rw [a1, decide_eq_true a2, Bool.and_self]
  have e : ∀ {n : Nat} {zs : List Nat}, τ[n]? = some (.lst (zs.map fun c => W.str ⟨#[c]⟩)) → toD τ 64 (.ref n) = some (.list (zs.map fun c => PyData.str ⟨#[c]⟩)) := fun {n zs} h => by
    show (match seqOf τ n with
      | some xs => (mapO (toD τ 63) xs).map PyData.list
      | none => none) = _
    rw [seq_lst h]
    show (mapO (toD τ 63) (zs.map fun c => W.str ⟨#[c]⟩)).map PyData.list = _
    rw [hm]
    rfl
  unfold eqW
  rw [e h1, e (zs := []) h2]
  dsimp only
  rw [if_pos ⟨sh cs hc, sh [] (fun c h => nomatch h)⟩]
  cases cs with
  | nil => simp [PyData.eqv, PyData.eqvAll]
  | cons c r => simp [PyData.eqv, PyData.eqvAll]
theorem append_ok {n : Nat} {xs : List W} (w : W) (h : τ[n]? = some (.lst xs)) (l : xs.length < sizeLine) : bmPre .append (.ref n) τ = true ∧ bmeth .append (.ref n) [w] τ = .ok .non (τ.set n (.lst (xs ++ [w]))) := by
  constructor
  · show isLst τ (.ref n) = true
    unfold isLst
    simp only [h]
  · show mAppend (.ref n) [w] τ = _
    unfold mAppend
    simp only [h]
    rw [if_pos l]
theorem pop_ok {n : Nat} {xs : List W} {y : W} (h : τ[n]? = some (.lst (xs ++ [y]))) : bmPre .pop (.ref n) τ = true ∧ bmeth .pop (.ref n) [] τ = .ok y (τ.set n (.lst xs)) := by
  constructor
  · show isLst τ (.ref n) = true
    unfold isLst
    simp only [h]
  · show mPop (.ref n) [] τ = _
    unfold mPop
    simp only [h]
    rw [List.length_append, List.length_singleton, Nat.add_sub_cancel, List.getElem?_concat_length]
    simp
theorem atI_mem {α : Type} {xs : List α} {i : Int} (h0 : 0 ≤ i) (h1 : i < xs.length) : ∃ y, L2.atI xs i = some y ∧ y ∈ xs := by
  obtain ⟨n, rfl⟩ := Int.eq_ofNat_of_zero_le h0
  have hn : n < xs.length := by omega
  exact ⟨xs[n], L2.atI_nat (List.getElem?_eq_getElem hn), List.getElem_mem hn⟩
theorem rng1 {j : Int} (h1 : -4611686018427387904 ≤ j) (h2 : j < 4611686018427387904) : rngI [.int j] τ = .ok ⟨[], (List.range j.toNat).map fun (i : Nat) => .int (0 + (i : Int))⟩ τ := by
  show (if _ then _ else _) = _
  exact if_pos ⟨h1, h2⟩
theorem rngJ {j : Int} (h1 : 0 ≤ j) (h2 : j < 4096) : rngI [.int j] τ = .ok ⟨[], (List.range j.toNat).map fun (i : Nat) => .int (0 + (i : Int))⟩ τ := rng1 (by omega) (by omega)
theorem rngN {m : Nat} (h : m < 4096) : rngI [.int (m : Int)] τ = .ok ⟨[], (List.range m).map fun (i : Nat) => .int (i : Int)⟩ τ := by
  rw [rngJ (Int.natCast_nonneg m) (by omega), Int.toNat_natCast]
  simp only [Int.zero_add]
@[simp] theorem slice_str (z : Str) (lo hi : Option Int) : sliceW (.str z) lo hi τ = if z.length ≤ sizeLine then .ok (.str (L2.cutS z lo hi)) τ else .no := rfl
@[simp] theorem starts_str (a b : Str) : bmeth .startswith (.str a) [.str b] τ = .ok (.bl (Txt.startswith a b)) τ := rfl
@[simp] theorem pre_starts (a : Str) : bmPre .startswith (.str a) τ = true := rfl
@[simp] theorem pre_split (a : Str) : bmPre .split (.str a) τ = true := rfl
@[simp] theorem pre_join (a : Str) : bmPre .join (.str a) τ = true := rfl
theorem dispR_ok {D : Nat} {ks : List Key} {ws : List W} (h : τ[D]? = some (.dic [])) (l : ws.length = ks.length) : dispR D ks ws τ = .ok (.ref D) (τ.set D (.dic (mergeW [] (ks.zip ws)))) := by
  unfold dispR
  simp only [h]
  rw [if_pos l]
theorem at_some {α : Type} {xs : List α} {i : Int} {o : Option α} (h : L2.atI xs i = o) (h0 : 0 ≤ i) (h1 : i < xs.length) : ∃ y, o = some y ∧ y ∈ xs := by
  obtain ⟨y, e, m⟩ := atI_mem h0 h1
  exact ⟨y, h.symm.trans e, m⟩
@[simp] theorem item_str (z : Str) (i : Int) : itemAt τ (.str z) (.int i) = if z.length ≤ sizeLine then (L2.atI z.cps.toList i).map fun c => .str ⟨#[c]⟩ else none := rfl
def inL (τ : Sto) (x : W) (a : Option AO) : Option Bool := match a with
  | some (.lst ys) => if flat x = true ∧ ys.all flat = true then some (inF x ys) else inD τ x ys
  | some (.frz ns) => if flat x = true then some (inF x (ns.map .int)) else none
  | some (.dic kvs) => (keyOf x).map fun k => (kvGet kvs k).isSome
  | _ => none
@[simp] theorem inL_lst (x : W) (ys : List W) : inL τ x (some (.lst ys)) = if flat x = true ∧ ys.all flat = true then some (inF x ys) else inD τ x ys := rfl
@[simp] theorem inL_dic (x : W) (kvs : List (Key × W)) : inL τ x (some (.dic kvs)) = (keyOf x).map fun k => (kvGet kvs k).isSome := rfl
theorem in_ref (x : W) (n : Nat) : inW τ x (.ref n) = inL τ x τ[n]? := by
  unfold inW inL
  rfl
theorem in_tup (x : W) (ys : List W) : inW τ x (.tup ys) = if flat x = true ∧ ys.all flat = true then some (inF x ys) else inD τ x ys := rfl
theorem cutS_all (a : List Nat) : L2.cutS (SX.S a) (some 0) none = SX.S a := by
  have h : HT.sIx (SX.S a).length 0 (some 0) = 0 := by
    rw [show (some (0 : Int)) = some ((0 : Nat) : Int) from rfl, HT.sIx_nat]
    omega
  unfold L2.cutS
  rw [h]
  show (⟨((a.drop 0).take (HT.sIx (SX.S a).length (SX.S a).length none - 0)).toArray⟩ : Str) = _
  rw [HT.sIx_none, SX.S_len, List.drop_zero, Nat.sub_zero, List.take_length]
theorem cutS_tl (c : Nat) (r : List Nat) : L2.cutS (SX.S (c :: r)) (some 1) none = SX.S r := by
  have h : HT.sIx (SX.S (c :: r)).length 0 (some 1) = 1 := by
    rw [show (some (1 : Int)) = some ((1 : Nat) : Int) from rfl, HT.sIx_nat, SX.S_len, List.length_cons]
    omega
  unfold L2.cutS
  rw [h]
  show (⟨(((c :: r).drop 1).take (HT.sIx (SX.S (c :: r)).length (SX.S (c :: r)).length none - 1)).toArray⟩ : Str) = _
  rw [HT.sIx_none, SX.S_len, List.length_cons, Nat.add_sub_cancel]
  show (⟨(r.take r.length).toArray⟩ : Str) = _
  rw [List.take_length]
theorem cutS_12 (c : Nat) (r : List Nat) : L2.cutS (SX.S (c :: r)) (some 1) (some 2) = SX.S (r.take 1) := by
  have h : HT.sIx (SX.S (c :: r)).length 0 (some 1) = 1 := by
    rw [show (some (1 : Int)) = some ((1 : Nat) : Int) from rfl, HT.sIx_nat, SX.S_len, List.length_cons]
    omega
  have h2 : HT.sIx (SX.S (c :: r)).length (SX.S (c :: r)).length (some 2) = min 2 (r.length + 1) := by
    rw [show (some (2 : Int)) = some ((2 : Nat) : Int) from rfl, HT.sIx_nat, SX.S_len, List.length_cons]
  unfold L2.cutS
  rw [h, h2]
  show (⟨(r.take (min 2 (r.length + 1) - 1)).toArray⟩ : Str) = _
  cases r with
  | nil => rfl
  | cons d s =>
    rw [show min 2 ((d :: s).length + 1) - 1 = 1 from by rw [List.length_cons]; omega]
@[simp] theorem is_non : cmpop .Is .non .non τ = some true := rfl
@[simp] theorem is_int (i : Int) : cmpop .Is (.int i) .non τ = some false := rfl
@[simp] theorem is_str (i : Str) : cmpop .Is (.str i) .non τ = some false := rfl
@[simp] theorem is_tup (xs : List W) : cmpop .Is (.tup xs) .non τ = some false := rfl
@[simp] theorem is_bl (b : Bool) : cmpop .Is (.bl b) .non τ = some false := rfl
@[simp] theorem isn_tup (xs : List W) : cmpop .IsNot (.tup xs) .non τ = some true := rfl
@[simp] theorem isn_bl (b : Bool) : cmpop .IsNot (.bl b) .non τ = some true := rfl
@[simp] theorem isn_non : cmpop .IsNot .non .non τ = some false := rfl
@[simp] theorem isn_int (i : Int) : cmpop .IsNot (.int i) .non τ = some true := rfl
@[simp] theorem isn_str (i : Str) : cmpop .IsNot (.str i) .non τ = some true := rfl
@[simp] theorem int_bl (b : Bool) : builtin .int [.bl b] τ = .ok (.int (if b then 1 else 0)) τ := rfl
@[simp] theorem int_int (b : Int) : builtin .int [.int b] τ = .ok (.int b) τ := rfl
@[simp] theorem abs_int (i : Int) : builtin .abs [.int i] τ = .ok (.int (if i < 0 then -i else i)) τ := rfl
@[simp] theorem max_int (i j : Int) : builtin .max2 [.int i, .int j] τ = .ok (.int (if j > i then j else i)) τ := rfl
@[simp] theorem min_int (i j : Int) : builtin .min2 [.int i, .int j] τ = .ok (.int (if j < i then j else i)) τ := rfl
end
end Mi
/-! MiR: more lemmas for runs. -/
namespace Mi
open PySem PySem.Spec PyProof.Rows L2
/-- a comprehension whose turns leave the store: picked by p, told by f; its list is the new one behind τ0 -/
theorem lcL_go {g : G} {gs : List (Nat × List W)} {ρ : Sl} {test : Sl → Sto → R Bool} {elt : Sl → Sto → R W} {τ0 : Sto} (hgs : It.ok gs τ0) (p : W → Bool) (f : W → W) :
    ∀ (xs : List W), (∀ x ∈ xs, ∃ ρ1, putG g x ρ = some ρ1 ∧ ∀ τ, τ0 <+: τ → test ρ1 τ = .ok (p x) τ ∧ (p x = true → elt ρ1 τ = .ok (f x) τ)) →
    ∀ (acc : List W), acc.length + xs.length ≤ sizeLine →
      lcL g gs ρ test elt τ0.length xs (τ0 ++ [.lst acc]) = .ok (.ref τ0.length) (τ0 ++ [.lst (acc ++ (xs.filter p).map f)])
  | [], _, acc, _ => by
    unfold lcL
    rw [if_pos (pre_ok (List.prefix_append _ _) hgs), List.filter_nil, List.map_nil, List.append_nil]
  | x :: r, st, acc, hl => by
    obtain ⟨ρ1, e1, e2⟩ := st x List.mem_cons_self
    obtain ⟨e3, e4⟩ := e2 (τ0 ++ [.lst acc]) (List.prefix_append _ _)
    have hl' : acc.length + (r.length + 1) ≤ sizeLine := hl
    unfold lcL
    rw [if_pos (pre_ok (List.prefix_append _ _) hgs), e1]
    dsimp only
    rw [e3]
    cases hp : p x with
    | true =>
      simp only [e4 hp, at_end]
      rw [if_pos (by omega), List.set_append_right _ _ (Nat.le_refl _), Nat.sub_self]
      show lcL g gs ρ test elt τ0.length r (τ0 ++ [.lst (acc ++ [f x])]) = _
      rw [lcL_go hgs p f r (fun z hz => st z (List.mem_cons_of_mem _ hz)) (acc ++ [f x]) (by rw [List.length_append]; show acc.length + 1 + r.length ≤ _; omega), List.filter_cons_of_pos hp, List.append_assoc]
      rfl
    | false =>
      simp only []
      rw [lcL_go hgs p f r (fun z hz => st z (List.mem_cons_of_mem _ hz)) acc (by omega), List.filter_cons_of_neg (by rw [hp]; exact Bool.false_ne_true)]
/-- the same, from the start -/
theorem lcL_new {g : G} {gs : List (Nat × List W)} {ρ : Sl} {test : Sl → Sto → R Bool} {elt : Sl → Sto → R W} {τ0 : Sto} (hgs : It.ok gs τ0) (p : W → Bool) (f : W → W) (xs : List W)
    (h : ∀ x ∈ xs, ∃ ρ1, putG g x ρ = some ρ1 ∧ ∀ τ, τ0 <+: τ → test ρ1 τ = .ok (p x) τ ∧ (p x = true → elt ρ1 τ = .ok (f x) τ)) (hl : xs.length ≤ sizeLine) :
    lcL g gs ρ test elt τ0.length xs (τ0 ++ [.lst []]) = .ok (.ref τ0.length) (τ0 ++ [.lst ((xs.filter p).map f)]) := by
  have := lcL_go (test := test) (elt := elt) (ρ := ρ) (g := g) hgs p f xs h [] (by simpa using hl)
  simpa using this
theorem lcL_newM {g : G} {gs : List (Nat × List W)} {ρ : Sl} {test : Sl → Sto → R Bool} {elt : Sl → Sto → R W} {τ0 : Sto} (hgs : It.ok gs τ0) (f : W → W) (xs : List W)
    (h : ∀ x ∈ xs, ∃ ρ1, putG g x ρ = some ρ1 ∧ ∀ τ, τ0 <+: τ → test ρ1 τ = .ok true τ ∧ elt ρ1 τ = .ok (f x) τ) (hl : xs.length ≤ sizeLine) :
    lcL g gs ρ test elt τ0.length xs (τ0 ++ [.lst []]) = .ok (.ref τ0.length) (τ0 ++ [.lst (xs.map f)]) := by
  have := lcL_new (test := test) (elt := elt) (ρ := ρ) (g := g) hgs (fun _ => true) f xs (fun x hx => by
    obtain ⟨ρ1, a, b⟩ := h x hx
    exact ⟨ρ1, a, fun τ p => ⟨(b τ p).1, fun _ => (b τ p).2⟩⟩) hl
  rw [List.filter_eq_self.mpr (fun _ _ => rfl)] at this
  exact this
/-- a for that only goes on, its state told -/
theorem forL_fold {α σ : Type} {g : G} {gs : List (Nat × List W)} {body : Sl → Sto → R Fl} (enc : α → W) (step : σ → α → σ) (I : σ → Sl → Sto → Prop) (hok : ∀ s ρ τ, I s ρ τ → It.ok gs τ) :
    ∀ (xs : List α), (∀ x ∈ xs, ∀ s ρ τ, I s ρ τ → ∃ ρ1, putG g (enc x) ρ = some ρ1 ∧ ∃ ρ2 τ2, body ρ1 τ = .ok (.nx ρ2) τ2 ∧ I (step s x) ρ2 τ2) →
    ∀ s ρ τ, I s ρ τ → ∃ ρ' τ', forL g gs body (xs.map enc) ρ τ = .ok (.nx ρ') τ' ∧ I (xs.foldl step s) ρ' τ'
  | [], _, s, ρ, τ, h => ⟨ρ, τ, forL_nil (hok _ _ _ h), h⟩
  | x :: r, st, s, ρ, τ, h => by
    obtain ⟨ρ1, e1, ρ2, τ2, e2, h2⟩ := st x List.mem_cons_self s ρ τ h
    obtain ⟨ρ', τ', a1, a2⟩ := forL_fold enc step I hok r (fun z hz => st z (List.mem_cons_of_mem _ hz)) (step s x) ρ2 τ2 h2
    exact ⟨ρ', τ', by rw [List.map_cons, forL_cons (hok _ _ _ h) e1, e2]; exact a1, a2⟩
/-- the same, with the place among the items -/
theorem forL_foldI {α σ : Type} {g : G} {gs : List (Nat × List W)} {body : Sl → Sto → R Fl} (enc : Nat → α → W) (step : Nat → σ → α → σ) (I : Nat → σ → Sl → Sto → Prop) (hok : ∀ i s ρ τ, I i s ρ τ → It.ok gs τ) :
    ∀ (xs : List α) (i : Nat), (∀ j x, xs[j]? = some x → ∀ s ρ τ, I (i + j) s ρ τ → ∃ ρ1, putG g (enc (i + j) x) ρ = some ρ1 ∧ ∃ ρ2 τ2, body ρ1 τ = .ok (.nx ρ2) τ2 ∧ I (i + j + 1) (step (i + j) s x) ρ2 τ2) →
    ∀ s ρ τ, I i s ρ τ → ∃ ρ' τ', forL g gs body ((xs.zipIdx i).map fun p => enc p.2 p.1) ρ τ = .ok (.nx ρ') τ' ∧ I (i + xs.length) ((xs.zipIdx i).foldl (fun s p => step p.2 s p.1) s) ρ' τ'
  | [], i, _, s, ρ, τ, h => ⟨ρ, τ, forL_nil (hok _ _ _ _ h), h⟩
  | x :: r, i, st, s, ρ, τ, h => by
    obtain ⟨ρ1, e1, ρ2, τ2, e2, h2⟩ := st 0 x rfl s ρ τ h
    obtain ⟨ρ', τ', a1, a2⟩ := forL_foldI enc step I hok r (i + 1) (fun j z hz s ρ τ hI => by
      have e : i + 1 + j = i + (j + 1) := by omega
      rw [e] at hI ⊢
      exact st (j + 1) z (by simpa using hz) s ρ τ hI) (step i s x) ρ2 τ2 h2
    refine ⟨ρ', τ', ?_, ?_⟩
    · rw [List.zipIdx_cons, List.map_cons, forL_cons (ρ1 := ρ1) (hok _ _ _ _ h) (show putG g (enc i x) ρ = some ρ1 from e1), e2]
      exact a1
    · have e : i + (x :: r).length = i + 1 + r.length := by rw [List.length_cons]; omega
      rw [e, List.zipIdx_cons]
      exact a2
/-- a comprehension, by what stays while n items are left -/
theorem lcL_cnt {g : G} {gs : List (Nat × List W)} {ρ : Sl} {test : Sl → Sto → R Bool} {elt : Sl → Sto → R W} {D : Nat} {Inv : Nat → Sto → Prop} {P : W → Prop} (hgs : ∀ n τ, Inv n τ → It.ok gs τ) (hset : ∀ n τ ys, Inv n τ → Inv n (τ.set D (.lst ys))) :
    ∀ (xs : List W), (∀ x ∈ xs, ∃ ρ1, putG g x ρ = some ρ1 ∧ ∀ n τ ys, Inv (n + 1) τ → τ[D]? = some (.lst ys) → test ρ1 τ = .ok true τ ∧ ∃ y τ', P y ∧ elt ρ1 τ = .ok y τ' ∧ Inv n τ' ∧ τ'[D]? = some (.lst ys)) →
    ∀ (acc : List W) (τ : Sto), Inv xs.length τ → τ[D]? = some (.lst acc) → acc.length + xs.length ≤ sizeLine →
      ∃ ys τ', lcL g gs ρ test elt D xs τ = .ok (.ref D) τ' ∧ Inv 0 τ' ∧ τ'[D]? = some (.lst (acc ++ ys)) ∧ ys.length = xs.length ∧ ∀ y ∈ ys, P y
  | [], _, acc, τ, p, h, _ => by
    refine ⟨[], τ, ?_, p, by rw [List.append_nil]; exact h, rfl, fun y hy => nomatch hy⟩
    unfold lcL
    exact if_pos (hgs _ _ p)
  | x :: r, st, acc, τ, p, h, hl => by
    obtain ⟨ρ1, e1, e2⟩ := st x List.mem_cons_self
    obtain ⟨e3, y, τ2, fy, e4, p2, h2⟩ := e2 r.length τ acc p h
    have hl' : acc.length + (r.length + 1) ≤ sizeLine := hl
    have hs : (τ2.set D (.lst (acc ++ [y])))[D]? = some (.lst (acc ++ [y])) := by
      rw [List.getElem?_set_self (List.getElem?_eq_some_iff.mp h2).1]
    obtain ⟨ys, τ', a1, a2, a3, a4, a5⟩ := lcL_cnt hgs hset r (fun z hz => st z (List.mem_cons_of_mem _ hz)) (acc ++ [y]) (τ2.set D (.lst (acc ++ [y]))) (hset _ _ _ p2) hs (by rw [List.length_append]; show acc.length + 1 + r.length ≤ _; omega)
    refine ⟨y :: ys, τ', ?_, a2, by rw [a3, List.append_assoc]; rfl, congrArg (· + 1) a4, fun z hz => ?_⟩
    · unfold lcL
      rw [if_pos (hgs _ _ p), e1]
      simp only [e3, e4, h2]
      rw [if_pos (by omega)]
      exact a1
    · rcases List.mem_cons.mp hz with e | e
      · rw [e]; exact fy
      · exact a5 z e
/-- all but the list at l stays -/
def Keep (l : Nat) (τ τ' : Sto) : Prop := ∀ n o, n ≠ l → τ[n]? = some o → τ'[n]? = some o
theorem Keep.refl {l : Nat} {τ : Sto} : Keep l τ τ := fun _ _ _ h => h
theorem Keep.trans {l : Nat} {τ τ1 τ2 : Sto} (a : Keep l τ τ1) (b : Keep l τ1 τ2) : Keep l τ τ2 := fun n o hn h => b n o hn (a n o hn h)
theorem Keep.pre {l : Nat} {τ τ1 : Sto} (a : τ <+: τ1) : Keep l τ τ1 := fun n o _ h => pre_get a h
theorem Keep.set {l : Nat} {τ : Sto} {o : AO} : Keep l τ (τ.set l o) := fun n u hn h => by
  rw [List.getElem?_set_ne (Ne.symm hn)]
  exact h
theorem Keep.out {l m : Nat} {τ τ' : Sto} {o : AO} (k : Keep l τ τ') (h : τ.length ≤ m) (hm : m ≠ l) : Keep l τ (τ'.set m o) := fun n u hn e => by
  have := (List.getElem?_eq_some_iff.mp e).1
  rw [List.getElem?_set_ne (by omega)]
  exact k n u hn e
theorem kvGet_put (kvs : List (Key × W)) (k j : Key) (v : W) : kvGet (kvPut kvs k v) j = if j = k then some v else kvGet kvs j := by
  have hmap : ∀ l : List (Key × W), kvGet (l.map fun kv => if kv.1 = k then (kv.1, v) else kv) j = if j = k then (kvGet l j).map fun _ => v else kvGet l j := by
    intro l
    induction l with
    | nil => by_cases e : j = k <;> simp [kvGet, e]
    | cons p r ih =>
      unfold kvGet at ih ⊢
      rw [List.map_cons, List.find?_cons, List.find?_cons]
      by_cases e1 : p.1 = k
      · rw [if_pos e1]
        by_cases e2 : p.1 = j
        · subst e1; subst e2
          simp
        · simp only [decide_eq_false (show ¬ (p.1, v).1 = j from e2), decide_eq_false e2]
          exact ih
      · rw [if_neg e1]
        by_cases e2 : p.1 = j
        · have : ¬ j = k := fun z => e1 (e2.trans z)
          simp [e2, this]
        · simp only [decide_eq_false e2]
          exact ih
  unfold kvPut
  by_cases ha : (kvs.any fun kv => decide (kv.1 = k)) = true
  · rw [if_pos ha, hmap]
    by_cases e : j = k
    · rw [if_pos e, if_pos e]
      subst e
      have : ∃ p ∈ kvs, p.1 = j := by
        obtain ⟨p, hp, q⟩ := List.any_eq_true.mp ha
        exact ⟨p, hp, of_decide_eq_true q⟩
      obtain ⟨p, hp, q⟩ := this
      have hs : (kvs.find? fun kv => decide (kv.1 = j)).isSome = true := by
        rw [List.find?_isSome]
        exact ⟨p, hp, decide_eq_true q⟩
      unfold kvGet
      obtain ⟨u, hu⟩ := Option.isSome_iff_exists.mp hs
      rw [hu]
      rfl
    · rw [if_neg e, if_neg e]
  · rw [if_neg ha]
    unfold kvGet
    rw [List.find?_append]
    by_cases e : j = k
    · rw [if_pos e]
      subst e
      have hn : kvs.find? (fun kv => decide (kv.1 = j)) = none := by
        rw [List.find?_eq_none]
        intro p hp q
        exact ha (List.any_eq_true.mpr ⟨p, hp, q⟩)
      rw [hn]
      simp
    · rw [if_neg e]
      cases kvs.find? (fun kv => decide (kv.1 = j)) with
      | some u => rfl
      | none => simp [decide_eq_false (show ¬ k = j from fun z => e z.symm)]
@[simp] theorem kvGet_nil (k : Key) : kvGet [] k = none := rfl
theorem kvGet_cons (p : Key × W) (r : List (Key × W)) (k : Key) : kvGet (p :: r) k = if p.1 = k then some p.2 else kvGet r k := by
  unfold kvGet
  rw [List.find?_cons]
  by_cases e : p.1 = k
  · rw [if_pos e, decide_eq_true e]
    rfl
  · rw [if_neg e, decide_eq_false e]
def setItL (τ : Sto) (n : Nat) (a : Option AO) (y w : W) : Option Sto := match a with
  | some (.lst xs) => match y with
    | .int k => (L2.ixN xs.length k).map fun j => τ.set n (.lst (xs.set j w))
    | _ => none
  | some (.dic kvs) => match keyOf y with
    | some k => if kvs.length < sizeLine then some (τ.set n (.dic (kvPut kvs k w))) else none
    | none => none
  | _ => none
theorem setItem_ref (τ : Sto) (n : Nat) (y w : W) : setItem τ (.ref n) y w = setItL τ n τ[n]? y w := by
  unfold setItem setItL
  rfl
theorem setDic {τ : Sto} {n : Nat} {kvs : List (Key × W)} (h : τ[n]? = some (.dic kvs)) (l : kvs.length < sizeLine) (y w : W) {k : Key} (hk : keyOf y = some k) : setItem τ (.ref n) y w = some (τ.set n (.dic (kvPut kvs k w))) := by
  rw [setItem_ref, h]
  unfold setItL
  simp only [hk]
  rw [if_pos l]
theorem kvPut_len (kvs : List (Key × W)) (k : Key) (v : W) : (kvPut kvs k v).length ≤ kvs.length + 1 := by
  unfold kvPut
  split
  · rw [List.length_map]; omega
  · rw [List.length_append]; exact Nat.le_refl _
def dictL (a : Option AO) (τ : Sto) : R W := match a with
  | some (.dic kvs) => .ok (.ref τ.length) (τ ++ [.dic kvs])
  | _ => .no
@[simp] theorem dictL_dic (kvs : List (Key × W)) (τ : Sto) : dictL (some (.dic kvs)) τ = .ok (.ref τ.length) (τ ++ [.dic kvs]) := rfl
theorem dict_ref (n : Nat) (τ : Sto) : builtin .dict [.ref n] τ = dictL τ[n]? τ := by
  show bDict [.ref n] τ = _
  unfold bDict dictL
  rfl
@[simp] theorem list_tup (xs : List W) (τ : Sto) : builtin .list [.tup xs] τ = newL τ xs := rfl
theorem list_ref (n : Nat) (τ : Sto) : builtin .list [.ref n] τ = optR (seqL τ[n]?) (newL τ) := by
  show bList [.ref n] τ = _
  unfold bList
  simp only [seqOf_eq]
  cases seqL τ[n]? <;> rfl
@[simp] theorem tuple_tup (xs : List W) (τ : Sto) : builtin .tuple [.tup xs] τ = .ok (.tup xs) τ := rfl
theorem tuple_ref (n : Nat) (τ : Sto) : builtin .tuple [.ref n] τ = optR (seqL τ[n]?) fun xs => .ok (.tup xs) τ := by
  show bTuple [.ref n] τ = _
  unfold bTuple
  simp only [seqOf_eq]
  cases seqL τ[n]? <;> rfl
theorem ints_mapO : ∀ xs : List Int, mapO intOf (xs.map W.int) = some xs
  | [] => rfl
  | x :: r => by
    rw [List.map_cons, mapO, ints_mapO r]
    rfl
theorem max_list {τ : Sto} {n : Nat} {x : Int} {r : List Int} (h : τ[n]? = some (.lst ((x :: r).map W.int))) : builtin .max2 [.ref n] τ = .ok (.int (r.foldl bigI x)) τ := by
  show bMax2 [.ref n] τ = _
  unfold bMax2
  have e : intsAt τ n = some (x :: r) := by
    unfold intsAt
    rw [seq_lst h]
    exact ints_mapO (x :: r)
  simp only [e]

@[simp] theorem keyLits_nil : keyLits .nil = some [] := rfl
@[simp] theorem keyLits_str (x : Str) (r : E) : keyLits (.cons (.con (.str x)) r) = (keyLits r).map (Sum.inr x :: ·) := by
  rw [keyLits]
  cases keyLits r <;> rfl
theorem ev_dicS (T : Tb) (C : Calls) (ρ : Sl) (τ : Sto) (x : Str) (ks vs : E) : (ev T C (.dic (.cons (.con (.str x)) ks) vs)).e ρ τ = optR (keyLits ks) fun r => if r.length < 15 then ((ev T C vs).a ρ (τ ++ [.dic []])).bind (dispR τ.length (Sum.inr x :: r)) else .no := by
  have e : (ev T C (.dic (.cons (.con (.str x)) ks) vs)).e ρ τ = (match keyLits (.cons (.con (.str x)) ks) with
      | some [] => .ok (.ref τ.length) (τ ++ [.dic []])
      | some (k :: r) => if r.length < 15 then ((ev T C vs).a ρ (τ ++ [.dic []])).bind (dispR τ.length (k :: r)) else .no
      | none => .no) := rfl
  rw [e, keyLits_str]
  cases keyLits ks <;> rfl
theorem dispR_end (τ : Sto) (ks : List Key) (ws : List W) : dispR τ.length ks ws (τ ++ [.dic []]) = if ws.length = ks.length then .ok (.ref τ.length) (τ ++ [.dic (mergeW [] (ks.zip ws))]) else .no := by
  unfold dispR
  rw [at_end]
  simp only [List.set_append_right _ _ (Nat.le_refl _), Nat.sub_self]
  rfl
theorem mergeW_nil (a : List (Key × W)) : mergeW a [] = a := rfl
theorem mergeW_cons (a : List (Key × W)) (p : Key × W) (r : List (Key × W)) : mergeW a (p :: r) = mergeW (kvPut a p.1 p.2) r := rfl
section
variable (T : Tb) (C : Calls) (ρ : Sl) (τ : Sto)
@[simp] theorem ev_dget_t (d k : E) : (ev T C (.dget d k)).t ρ τ = dT ((ev T C (.dget d k)).e ρ τ) := rfl
@[simp] theorem ev_dget_p (d k : E) : (ev T C (.dget d k)).p ρ τ = toP ((ev T C (.dget d k)).e ρ τ) := rfl
@[simp] theorem ev_dget2_t (d k x : E) : (ev T C (.dget2 d k x)).t ρ τ = dT ((ev T C (.dget2 d k x)).e ρ τ) := rfl
@[simp] theorem ev_dget2_p (d k x : E) : (ev T C (.dget2 d k x)).p ρ τ = toP ((ev T C (.dget2 d k x)).e ρ τ) := rfl
end
theorem lcL_at {g : G} {gs : List (Nat × List W)} {ρ : Sl} {test : Sl → Sto → R Bool} {elt : Sl → Sto → R W} {D : Nat} {τ : Sto} (τ0 : Sto) (hD : D = τ0.length) (hτ : τ = τ0 ++ [.lst []]) (hgs : It.ok gs τ0) (f : W → W) (xs : List W)
    (h : ∀ x ∈ xs, ∃ ρ1, putG g x ρ = some ρ1 ∧ ∀ τ, τ0 <+: τ → test ρ1 τ = .ok true τ ∧ elt ρ1 τ = .ok (f x) τ) (hl : xs.length ≤ sizeLine) :
    lcL g gs ρ test elt D xs τ = .ok (.ref D) (τ0 ++ [.lst (xs.map f)]) := by
  subst hD hτ
  exact lcL_newM hgs f xs h hl
theorem lcL_atF {g : G} {gs : List (Nat × List W)} {ρ : Sl} {test : Sl → Sto → R Bool} {elt : Sl → Sto → R W} {D : Nat} {τ : Sto} (τ0 : Sto) (hD : D = τ0.length) (hτ : τ = τ0 ++ [.lst []]) (hgs : It.ok gs τ0) (p : W → Bool) (f : W → W) (xs : List W)
    (h : ∀ x ∈ xs, ∃ ρ1, putG g x ρ = some ρ1 ∧ ∀ τ, τ0 <+: τ → test ρ1 τ = .ok (p x) τ ∧ (p x = true → elt ρ1 τ = .ok (f x) τ)) (hl : xs.length ≤ sizeLine) :
    lcL g gs ρ test elt D xs τ = .ok (.ref D) (τ0 ++ [.lst ((xs.filter p).map f)]) := by
  subst hD hτ
  exact lcL_new hgs p f xs h hl
theorem forL_foldN {α σ : Type} {g : G} {gs : List (Nat × List W)} {body : Sl → Sto → R Fl} (enc : α → W) (step : σ → α → σ) (I : Nat → σ → Sl → Sto → Prop) (hok : ∀ i s ρ τ, I i s ρ τ → It.ok gs τ) :
    ∀ (xs : List α) (i : Nat), (∀ j x, xs[j]? = some x → ∀ s ρ τ, I (i + j) s ρ τ → ∃ ρ1, putG g (enc x) ρ = some ρ1 ∧ ∃ ρ2 τ2, body ρ1 τ = .ok (.nx ρ2) τ2 ∧ I (i + j + 1) (step s x) ρ2 τ2) →
    ∀ s ρ τ, I i s ρ τ → ∃ ρ' τ', forL g gs body (xs.map enc) ρ τ = .ok (.nx ρ') τ' ∧ I (i + xs.length) (xs.foldl step s) ρ' τ'
  | [], i, _, s, ρ, τ, h => ⟨ρ, τ, forL_nil (hok _ _ _ _ h), h⟩
  | x :: r, i, st, s, ρ, τ, h => by
    obtain ⟨ρ1, e1, ρ2, τ2, e2, h2⟩ := st 0 x rfl s ρ τ h
    obtain ⟨ρ', τ', a1, a2⟩ := forL_foldN enc step I hok r (i + 1) (fun j z hz s ρ τ hI => by
      have e : i + 1 + j = i + (j + 1) := by omega
      rw [e] at hI ⊢
      exact st (j + 1) z (by simpa using hz) s ρ τ hI) (step s x) ρ2 τ2 h2
    refine ⟨ρ', τ', ?_, ?_⟩
    · rw [List.map_cons, forL_cons (ρ1 := ρ1) (hok _ _ _ _ h) e1, e2]
      exact a1
    · have e : i + (x :: r).length = i + 1 + r.length := by rw [List.length_cons]; omega
      rw [e]
      exact a2
theorem pre_of {τ τ' : Sto} (h : ∀ (n : Nat) (o : AO), τ[n]? = some o → τ'[n]? = some o) : τ <+: τ' := by
  have hl : τ.length ≤ τ'.length := by
    rcases Nat.lt_or_ge τ'.length τ.length with c | c
    · have := h τ'.length _ (List.getElem?_eq_getElem c)
      rw [List.getElem?_eq_none (Nat.le_refl _)] at this
      cases this
    · exact c
  refine ⟨τ'.drop τ.length, ?_⟩
  have e : τ = τ'.take τ.length := by
    apply List.ext_getElem?
    intro i
    by_cases c : i < τ.length
    · rw [List.getElem?_take_of_lt c, List.getElem?_eq_getElem c]
      exact (h i _ (List.getElem?_eq_getElem c)).symm
    · rw [List.getElem?_eq_none (by omega), List.getElem?_eq_none (by rw [List.length_take]; omega)]
  have z := List.take_append_drop τ.length τ'
  rw [← e] at z
  exact z
/-! dicts alike -/
theorem kvPut_keys (kvs : List (Key × W)) (k : Key) (v : W) : (k ∈ kvs.map Prod.fst ∧ (kvPut kvs k v).map Prod.fst = kvs.map Prod.fst) ∨ (¬ k ∈ kvs.map Prod.fst ∧ (kvPut kvs k v).map Prod.fst = kvs.map Prod.fst ++ [k]) := by
  unfold kvPut
  have e : ((kvs.any fun kv => decide (kv.1 = k)) = true) = (k ∈ kvs.map Prod.fst) := by
    rw [List.any_eq_true, List.mem_map]
    exact propext ⟨fun ⟨p, hp, q⟩ => ⟨p, hp, of_decide_eq_true q⟩, fun ⟨p, hp, q⟩ => ⟨p, hp, decide_eq_true q⟩⟩
  by_cases c : (kvs.any fun kv => decide (kv.1 = k)) = true
  · rw [if_pos c]
    refine .inl ⟨e ▸ c, ?_⟩
    rw [List.map_map]
    exact List.map_congr_left fun p _ => by
      show (if p.1 = k then (p.1, v) else p).1 = p.1
      split <;> rfl
  · rw [if_neg c]
    refine .inr ⟨fun z => c (by rw [e]; exact z), ?_⟩
    rw [List.map_append]
    rfl
theorem kvPut_nd {kvs : List (Key × W)} (k : Key) (v : W) (h : (kvs.map Prod.fst).Nodup) : ((kvPut kvs k v).map Prod.fst).Nodup := by
  rcases kvPut_keys kvs k v with ⟨_, e⟩ | ⟨hn, e⟩
  · rw [e]; exact h
  · rw [e, List.nodup_append]
    exact ⟨h, by simp, fun a ha b hb => by rw [List.mem_singleton.mp hb]; exact fun z => hn (z ▸ ha)⟩
theorem kvPut_all {P : W → Prop} {kvs : List (Key × W)} {k : Key} {v : W} (h : ∀ p ∈ kvs, P p.2) (hv : P v) : ∀ p ∈ kvPut kvs k v, P p.2 := by
  unfold kvPut
  split
  · intro p hp
    obtain ⟨q, hq, rfl⟩ := List.mem_map.mp hp
    split
    · exact hv
    · exact h q hq
  · intro p hp
    rcases List.mem_append.mp hp with z | z
    · exact h p z
    · rw [List.mem_singleton.mp z]; exact hv
theorem kvGet_mem : ∀ {kvs : List (Key × W)} {p : Key × W}, (kvs.map Prod.fst).Nodup → p ∈ kvs → kvGet kvs p.1 = some p.2
  | q :: r, p, h, hp => by
    rw [kvGet_cons]
    rw [List.map_cons, List.nodup_cons] at h
    rcases List.mem_cons.mp hp with z | z
    · rw [z, if_pos rfl]
    · rw [if_neg fun e => h.1 (List.mem_map.mpr ⟨p, z, e.symm⟩)]
      exact kvGet_mem h.2 z
theorem kvGet_some : ∀ {kvs : List (Key × W)} {k : Key} {v : W}, kvGet kvs k = some v → (k, v) ∈ kvs
  | q :: r, k, v, h => by
    rw [kvGet_cons] at h
    split at h
    · rename_i e
      cases h
      rw [← e]
      exact List.mem_cons_self
    · exact List.mem_cons_of_mem _ (kvGet_some h)
theorem dicEq_self {kvs : List (Key × W)} (h : (kvs.map Prod.fst).Nodup) (hv : ∀ p ∈ kvs, flat p.2 = true ∧ sameF p.2 p.2 = true) : dicEq kvs kvs = some true := by
  unfold dicEq
  rw [if_pos]
  refine ⟨rfl, List.all_eq_true.mpr fun p hp => ?_⟩
  rw [kvGet_mem h hp]
  show (flat p.2 && sameF p.2 p.2) = true
  rw [(hv p hp).1, (hv p hp).2]
  rfl
@[simp] theorem sameF_int (i : Int) : sameF (.int i) (.int i) = true := beq_self_eq_true i
theorem Paired_list {α : Type} {P : α → Prop} (f : α → W) : ∀ {ys : List W}, (∀ y ∈ ys, ∃ a, y = f a ∧ P a) → ∃ as : List α, ys = as.map f ∧ ∀ a ∈ as, P a
  | [], _ => ⟨[], rfl, fun a h => nomatch h⟩
  | y :: r, h => by
    obtain ⟨a, e, p⟩ := h y List.mem_cons_self
    obtain ⟨as, e2, p2⟩ := Paired_list f (ys := r) fun z hz => h z (List.mem_cons_of_mem _ hz)
    refine ⟨a :: as, by rw [e, e2]; rfl, fun b hb => ?_⟩
    rcases List.mem_cons.mp hb with z | z
    · rw [z]; exact p
    · exact p2 b z
@[simp] theorem everyW_tup (lo : Nat) (xs : List W) (τ : Sto) : everyW lo (.tup xs) τ = .ok (.tup (everyO (xs.drop lo))) τ := rfl
section
variable (T : Tb) (C : Calls) (ρ : Sl) (τ : Sto)
@[simp] theorem ev_make (c : Nat) (as : E) : (ev T C (.make c as)).e ρ τ = ((ev T C as).a ρ τ).bind fun ws τ1 => match T.meth c "__init__" with
      | some f => (tail ρ (C f (.ref τ1.length :: ws) (τ1 ++ [.ins c []]))).bind fun w τ2 => match w with
        | .non => .ok (.ref τ1.length) τ2
        | _ => .no
      | none => .no := rfl
end
def fldL (T : Tb) (a : Option AO) (f : Str) : Option W := match a with
  | some (.ins c fs) => if T.attr c f = true then fs.lookup f else none
  | _ => none
@[simp] theorem fldL_ins (T : Tb) (c : Nat) (fs : List (Str × W)) (f : Str) : fldL T (some (.ins c fs)) f = if T.attr c f = true then fs.lookup f else none := rfl
theorem fld_ref (T : Tb) (τ : Sto) (n : Nat) (f : Str) : fieldOf T τ (.ref n) f = fldL T τ[n]? f := by
  unfold fieldOf fldL
  rfl
def setFL (T : Tb) (τ : Sto) (n : Nat) (a : Option AO) (f : Str) (w : W) : Option Sto := match a with
  | some (.ins c fs) => if T.attr c f = true ∧ fs.length < 1000 then some (τ.set n (.ins c (putW f w fs))) else none
  | _ => none
@[simp] theorem setFL_ins (T : Tb) (τ : Sto) (n c : Nat) (fs : List (Str × W)) (f : Str) (w : W) : setFL T τ n (some (.ins c fs)) f w = if T.attr c f = true ∧ fs.length < 1000 then some (τ.set n (.ins c (putW f w fs))) else none := rfl
theorem setF_ref (T : Tb) (τ : Sto) (n : Nat) (f : Str) (w : W) : setField T τ (.ref n) f w = setFL T τ n τ[n]? f w := by
  unfold setField setFL
  rfl
@[simp] theorem evS_augF (T : Tb) (C : Calls) (ρ : Sl) (τ : Sto) (o : E) (f : Str) (p : Operator) (e : E) : evS T C (.augF o f p e) ρ τ = ((ev T C o).e ρ τ).bind fun x τ1 => optR (fieldOf T τ1 x f) fun a => ((ev T C e).e ρ τ1).bind fun y τ2 => optR ((augW p a y).bind (setFieldC T (clsOf τ1 x) τ2 x f)) fun τ3 => .ok (.nx ρ) τ3 := by
  rw [evS]
  refine congrArg (R.bind _) (funext fun x => funext fun τ1 => ?_)
  unfold optR
  cases fieldOf T τ1 x f with
  | none => rfl
  | some a =>
    dsimp only
    refine congrArg (R.bind _) (funext fun y => funext fun τ2 => ?_)
    cases (augW p a y).bind (setFieldC T (clsOf τ1 x) τ2 x f) <;> rfl
@[simp] theorem ev_dzip (T : Tb) (C : Calls) (ρ : Sl) (τ : Sto) (as : E) : (ev T C (.dzip as)).e ρ τ = ((ev T C as).a ρ τ).bind dzipR := rfl
theorem dzipR_eq (u v : W) (τ : Sto) : dzipR [u, v] τ = optR (srcW τ u) fun p => optR (srcW τ v) fun q => optR (mapO keyOf p.2) fun ks => .ok (.ref τ.length) (τ ++ [.dic (mergeW [] (ks.zip q.2))]) := by
  unfold dzipR optR
  dsimp only
  cases srcW τ u with
  | none => rfl
  | some p =>
    cases srcW τ v with
    | none => rfl
    | some q =>
      dsimp only
      cases mapO keyOf p.2 <;> rfl
/-! lists and methods by their places -/
def isLstL (a : Option AO) : Bool := match a with
  | some (.lst _) => true
  | _ => false
@[simp] theorem isLstL_lst (xs : List W) : isLstL (some (.lst xs)) = true := rfl
def appL (τ : Sto) (n : Nat) (a : Option AO) (w : W) : R W := match a with
  | some (.lst xs) => if xs.length < sizeLine then .ok .non (τ.set n (.lst (xs ++ [w]))) else .no
  | _ => .no
def popL (τ : Sto) (n : Nat) (a : Option AO) : R W := match a with
  | some (.lst xs) => match xs[xs.length - 1]? with
    | some y => .ok y (τ.set n (.lst xs.dropLast))
    | none => .no
  | _ => .no
@[simp] theorem appL_lst (τ : Sto) (n : Nat) (xs : List W) (w : W) : appL τ n (some (.lst xs)) w = if xs.length < 16777216 then .ok .non (τ.set n (.lst (xs ++ [w]))) else .no := rfl
@[simp] theorem popL_lst (τ : Sto) (n : Nat) (xs : List W) (w : W) : popL τ n (some (.lst (xs ++ [w]))) = .ok w (τ.set n (.lst xs)) := by
  unfold popL
  simp
@[simp] theorem popL_one (τ : Sto) (n : Nat) (w : W) : popL τ n (some (.lst [w])) = .ok w (τ.set n (.lst [])) := rfl
theorem preA (n : Nat) (τ : Sto) : bmPre .append (.ref n) τ = isLstL τ[n]? := rfl
theorem preP (n : Nat) (τ : Sto) : bmPre .pop (.ref n) τ = isLstL τ[n]? := rfl
theorem bmA (n : Nat) (w : W) (τ : Sto) : bmeth .append (.ref n) [w] τ = appL τ n τ[n]? w := rfl
theorem bmP (n : Nat) (τ : Sto) : bmeth .pop (.ref n) [] τ = popL τ n τ[n]? := rfl
def methL (T : Tb) (m : Str) (a : Option AO) (f : Nat → R W) : R W := match a with
  | some (.ins c fs) => match fs.lookup m, T.meth c m with
    | none, some g => f g
    | _, _ => .no
  | _ => .no
def methW (T : Tb) (m : Str) (x : W) (τ : Sto) (f : Nat → Nat → R W) : R W := match x with
  | .ref n => methL T m τ[n]? (f n)
  | _ => .no
@[simp] theorem methW_ref (T : Tb) (m : Str) (n : Nat) (τ : Sto) (f : Nat → Nat → R W) : methW T m (.ref n) τ f = methL T m τ[n]? (f n) := rfl
@[simp] theorem ev_methW (T : Tb) (C : Calls) (ρ : Sl) (τ : Sto) (m : Str) (o as : E) : (ev T C (.meth m o as)).e ρ τ = ((ev T C o).e ρ τ).bind fun x τ1 => methW T m x τ1 fun n f => ((ev T C as).a ρ τ1).bind fun ws τ2 => tail ρ (C f (.ref n :: ws) τ2) := rfl
@[simp] theorem at0 (x : W) (r : List W) : L2.atI (x :: r) 0 = some x := L2.atI_nat (j := 0) rfl
@[simp] theorem at1 (x y : W) (r : List W) : L2.atI (x :: y :: r) 1 = some y := L2.atI_nat (j := 1) rfl
@[simp] theorem at2 (x y z : W) (r : List W) : L2.atI (x :: y :: z :: r) 2 = some z := L2.atI_nat (j := 2) rfl
@[simp] theorem at3 (x y z u : W) (r : List W) : L2.atI (x :: y :: z :: u :: r) 3 = some u := L2.atI_nat (j := 3) rfl
theorem at_last (x : W) : L2.atI [x] (-1) = some x := by simp [L2.atI, L2.ixN]
end Mi
namespace L_k08
open PySem Mi
/- is_name(thing, strange, sign) -/
def b0 : Mi.S := (.cons (.ife (.disj (.cons (.not (.isi (.var 0) .str)) (.cons (.cmp .In (.var 0) (.tup (.cons (.con (.str ("yes" : Str))) (.cons (.con (.str ("no" : Str))) .nil)))) .nil))) (.cons (.ret (.con (.bl false)))
  .nil) .nil)
  (.cons (.set 1 (.lc (.name 2) (.seq (.var 0)) (.cmp .NotIn (.var 2) (.con (.str ("abcdefghijklmnopqrstuvwxyz" : Str)))) (.var 2) [2]))
  (.cons (.ret (.conj (.cons (.chain .LtE .LtE (.con (.int 1)) (.bi .len (.cons (.var 0) .nil)) (.con (.int 8))) (.cons (.cmp .Eq (.var 1) (.lst .nil)) .nil))))
  .nil)))
/- is_number(thing) -/
def b1 : Mi.S := (.cons (.ret (.conj (.cons (.isi (.var 0) .int) (.cons (.not (.isi (.var 0) .bool)) (.cons (.chain .LtE .LtE (.con (.int (-32768))) (.var 0) (.con (.int 32767))) .nil)))))
  .nil)
/- want(truth) -/
def b2 : Mi.S := (.cons (.ife (.not (.var 0)) (.cons (.raise 2 .nil)
  .nil) .nil)
  .nil)
/- want_form(thing, head, fewest, most) -/
def b3 : Mi.S := (.cons (.ex (.call 2 (.cons (.conj (.cons (.isi (.var 0) .tuple) (.cons (.cmp .Gt (.bi .len (.cons (.var 0) .nil)) (.con (.int 0))) (.cons (.cmp .Eq (.ix (.var 0) (.con (.int 0))) (.var 1)) (.cons (.isi (.ix (.var 0) (.con (.int 0))) .str) .nil))))) .nil)))
  (.cons (.ex (.call 2 (.cons (.conj (.cons (.cmp .LtE (.var 2) (.bi .len (.cons (.var 0) .nil))) (.cons (.disj (.cons (.cmp .Is (.var 3) (.con .non)) (.cons (.cmp .LtE (.bi .len (.cons (.var 0) .nil)) (.var 3)) .nil))) .nil))) .nil)))
  .nil))
/- want_unlike(names, at, name) -/
def l4_1 : Mi.S := (.cons (.ex (.call 2 (.cons (.conj (.cons (.call 0 (.cons (.var 2) .nil)) (.cons (.cmp .NotIn (.var 2) (.slice (.var 0) .nil (.var 1))) .nil))) .nil)))
  .nil)
def b4 : Mi.S := (.cons (.loop (.tup [1, 2]) (.enum (.var 0)) l4_1)
  .nil)
/- __init__(self, records, functions) -/
def b5 : Mi.S := (.cons (.setF (.var 0) ("records" : Str) (.var 1))
  (.cons (.setF (.var 0) ("functions" : Str) (.var 2))
  (.cons (.setF (.var 0) ("given" : Str) (.con (.str ("number" : Str))))
  (.cons (.setF (.var 0) ("lets" : Str) (.lst .nil))
  (.cons (.setF (.var 0) ("seen" : Str) (.dic .nil .nil))
  .nil)))))
/- is_kind(self, thing) -/
def b6 : Mi.S := (.cons (.ret (.conj (.cons (.isi (.var 1) .str) (.cons (.disj (.cons (.cmp .In (.var 1) (.tup (.cons (.con (.str ("number" : Str))) (.cons (.con (.str ("truth" : Str))) (.cons (.con (.str ("list" : Str))) .nil))))) (.cons (.cmp .In (.var 1) (.fld (.var 0) ("records" : Str))) .nil))) .nil))))
  .nil)
/- begin(self, function, variables, name, kind) -/
def l7_1 : Mi.S := (.cons (.setI (.fld (.var 0) ("seen" : Str)) (.var 3) (.var 4))
  .nil)
def b7 : Mi.S := (.cons (.set 2 (.bi .list (.cons (.every 0 (.ix (.var 1) (.con (.int 2)))) .nil)))
  (.cons (.ex (.call 4 (.cons (.var 2) .nil)))
  (.cons (.setF (.var 0) ("given" : Str) (.ix (.var 1) (.con (.int 3))))
  (.cons (.setF (.var 0) ("lets" : Str) (.var 2))
  (.cons (.setF (.var 0) ("seen" : Str) (.dic .nil .nil))
  (.cons (.loop (.tup [3, 4]) (.zip (.cons (.var 2) (.cons (.every 1 (.ix (.var 1) (.con (.int 2)))) .nil))) l7_1)
  .nil))))))
/- kind_of(self, thing) -/
def b8 : Mi.S := (.cons (.ife (.isi (.var 1) .tuple) (.cons (.ex (.call 2 (.cons (.conj (.cons (.cmp .Gt (.bi .len (.cons (.var 1) .nil)) (.con (.int 0))) (.cons (.isi (.ix (.var 1) (.con (.int 0))) .str) .nil))) .nil)))
  (.cons (.ret (.meth ("kind_of_deed" : Str) (.var 0) (.cons (.var 1) .nil)))
  .nil)) .nil)
  (.cons (.ife (.cmp .In (.var 1) (.tup (.cons (.con (.str ("yes" : Str))) (.cons (.con (.str ("no" : Str))) .nil)))) (.cons (.ret (.con (.str ("truth" : Str))))
  .nil) .nil)
  (.cons (.ife (.isi (.var 1) .str) (.cons (.ex (.call 2 (.cons (.cmp .In (.var 1) (.fld (.var 0) ("seen" : Str))) .nil)))
  (.cons (.ret (.ix (.fld (.var 0) ("seen" : Str)) (.var 1)))
  .nil)) .nil)
  (.cons (.ex (.call 2 (.cons (.call 1 (.cons (.var 1) .nil)) .nil)))
  (.cons (.ret (.con (.str ("number" : Str))))
  .nil)))))
/- want_kinds(self, things, kinds, thing, kind) -/
def l9_1 : Mi.S := (.cons (.ex (.call 2 (.cons (.cmp .Eq (.meth ("kind_of" : Str) (.var 0) (.cons (.var 3) .nil)) (.var 4)) .nil)))
  .nil)
def b9 : Mi.S := (.cons (.ex (.call 2 (.cons (.cmp .Eq (.bi .len (.cons (.var 1) .nil)) (.bi .len (.cons (.var 2) .nil))) .nil)))
  (.cons (.loop (.tup [3, 4]) (.zip (.cons (.var 1) (.cons (.var 2) .nil))) l9_1)
  .nil))
/- kind_of_deed(self, thing, head, kind, kinds, given) -/
def b10_5 : Mi.S := (.cons (.setT [4, 5] (.call 16 (.cons (.var 2) .nil)))
  (.cons (.ex (.meth ("want_kinds" : Str) (.var 0) (.cons (.slice (.var 1) (.con (.int 1)) .nil) (.cons (.var 4) .nil))))
  (.cons (.ret (.var 5))
  .nil)))
def b10_4 : Mi.S := (.cons (.ife (.cmp .Eq (.var 2) (.con (.str ("=" : Str)))) (.cons (.ex (.call 2 (.cons (.cmp .Eq (.bi .len (.cons (.var 1) .nil)) (.con (.int 3))) .nil)))
  (.cons (.set 3 (.meth ("kind_of" : Str) (.var 0) (.cons (.ix (.var 1) (.con (.int 1))) .nil)))
  (.cons (.ex (.call 2 (.cons (.conj (.cons (.cmp .In (.var 3) (.tup (.cons (.con (.str ("number" : Str))) (.cons (.con (.str ("truth" : Str))) .nil)))) (.cons (.cmp .Eq (.meth ("kind_of" : Str) (.var 0) (.cons (.ix (.var 1) (.con (.int 2))) .nil)) (.var 3)) .nil))) .nil)))
  (.cons (.ret (.con (.str ("truth" : Str))))
  .nil)))) .nil)
  b10_5)
def b10_3 : Mi.S := (.cons (.ife (.cmp .Eq (.var 2) (.con (.str ("get" : Str)))) (.cons (.ex (.call 2 (.cons (.cmp .Eq (.bi .len (.cons (.var 1) .nil)) (.con (.int 3))) .nil)))
  (.cons (.ex (.meth ("want_field" : Str) (.var 0) (.cons (.ix (.var 1) (.con (.int 1))) (.cons (.ix (.var 1) (.con (.int 2))) .nil))))
  (.cons (.ret (.con (.str ("number" : Str))))
  .nil))) .nil)
  b10_4)
def b10_2 : Mi.S := (.cons (.ife (.cmp .Eq (.var 2) (.con (.str ("new" : Str)))) (.cons (.ex (.call 2 (.cons (.conj (.cons (.cmp .Eq (.bi .len (.cons (.var 1) .nil)) (.con (.int 2))) (.cons (.isi (.ix (.var 1) (.con (.int 1))) .str) (.cons (.cmp .In (.ix (.var 1) (.con (.int 1))) (.fld (.var 0) ("records" : Str))) .nil)))) .nil)))
  (.cons (.ret (.ix (.var 1) (.con (.int 1))))
  .nil)) .nil)
  b10_3)
def b10 : Mi.S := (.cons (.set 2 (.ix (.var 1) (.con (.int 0))))
  (.cons (.ife (.cmp .Eq (.var 2) (.con (.str ("call" : Str)))) (.cons (.ex (.call 2 (.cons (.conj (.cons (.cmp .Gt (.bi .len (.cons (.var 1) .nil)) (.con (.int 1))) (.cons (.isi (.ix (.var 1) (.con (.int 1))) .str) (.cons (.cmp .In (.ix (.var 1) (.con (.int 1))) (.fld (.var 0) ("functions" : Str))) .nil)))) .nil)))
  (.cons (.setT [4, 5] (.ix (.fld (.var 0) ("functions" : Str)) (.ix (.var 1) (.con (.int 1)))))
  (.cons (.ex (.meth ("want_kinds" : Str) (.var 0) (.cons (.slice (.var 1) (.con (.int 2)) .nil) (.cons (.var 4) .nil))))
  (.cons (.ret (.var 5))
  .nil)))) .nil)
  b10_2))
/- want_field(self, thing, field, kind) -/
def b11 : Mi.S := (.cons (.set 3 (.meth ("kind_of" : Str) (.var 0) (.cons (.var 1) .nil)))
  (.cons (.ex (.call 2 (.cons (.conj (.cons (.cmp .In (.var 3) (.fld (.var 0) ("records" : Str))) (.cons (.isi (.var 2) .str) (.cons (.cmp .In (.var 2) (.ix (.fld (.var 0) ("records" : Str)) (.var 3))) .nil)))) .nil)))
  .nil))
/- look_at_part(self, statements, outer, ends, statement) -/
def l12_1 : Mi.S := (.cons (.ex (.call 2 (.cons (.not (.var 3)) .nil)))
  (.cons (.ex (.call 2 (.cons (.conj (.cons (.isi (.var 4) .tuple) (.cons (.cmp .Gt (.bi .len (.cons (.var 4) .nil)) (.con (.int 0))) (.cons (.isi (.ix (.var 4) (.con (.int 0))) .str) .nil)))) .nil)))
  (.cons (.set 3 (.meth ("look_at_statement" : Str) (.var 0) (.cons (.var 4) .nil)))
  .nil)))
def b12 : Mi.S := (.cons (.ex (.call 2 (.cons (.isi (.var 1) .tuple) .nil)))
  (.cons (.set 2 (.bi .dict (.cons (.fld (.var 0) ("seen" : Str)) .nil)))
  (.cons (.set 3 (.con (.bl false)))
  (.cons (.loop (.name 4) (.seq (.var 1)) l12_1)
  (.cons (.setF (.var 0) ("seen" : Str) (.var 2))
  (.cons (.ret (.var 3))
  .nil))))))
/- look_at_statement(self, statement, head, first) -/
def b13 : Mi.S := (.cons (.set 2 (.ix (.var 1) (.con (.int 0))))
  (.cons (.ife (.cmp .Eq (.var 2) (.con (.str ("if" : Str)))) (.cons (.ex (.call 2 (.cons (.conj (.cons (.cmp .Eq (.bi .len (.cons (.var 1) .nil)) (.con (.int 4))) (.cons (.cmp .Eq (.meth ("kind_of" : Str) (.var 0) (.cons (.ix (.var 1) (.con (.int 1))) .nil)) (.con (.str ("truth" : Str)))) .nil))) .nil)))
  (.cons (.set 3 (.meth ("look_at_part" : Str) (.var 0) (.cons (.ix (.var 1) (.con (.int 2))) .nil)))
  (.cons (.ret (.conj (.cons (.meth ("look_at_part" : Str) (.var 0) (.cons (.ix (.var 1) (.con (.int 3))) .nil)) (.cons (.var 3) .nil))))
  .nil))) .nil)
  (.cons (.ife (.cmp .Eq (.var 2) (.con (.str ("while" : Str)))) (.cons (.ex (.call 2 (.cons (.conj (.cons (.cmp .Eq (.bi .len (.cons (.var 1) .nil)) (.con (.int 3))) (.cons (.cmp .Eq (.meth ("kind_of" : Str) (.var 0) (.cons (.ix (.var 1) (.con (.int 1))) .nil)) (.con (.str ("truth" : Str)))) .nil))) .nil)))
  (.cons (.ex (.meth ("look_at_part" : Str) (.var 0) (.cons (.ix (.var 1) (.con (.int 2))) .nil)))
  (.cons (.ret (.con (.bl false)))
  .nil))) .nil)
  (.cons (.ife (.cmp .In (.var 2) (.tup (.cons (.con (.str ("let" : Str))) (.cons (.con (.str ("put" : Str))) .nil)))) (.cons (.ex (.call 2 (.cons (.conj (.cons (.cmp .Eq (.bi .len (.cons (.var 1) .nil)) (.con (.int 3))) (.cons (.call 0 (.cons (.ix (.var 1) (.con (.int 1))) .nil)) .nil))) .nil)))
  (.cons (.ex (.meth ("look_at_variable" : Str) (.var 0) (.cons (.var 2) (.cons (.ix (.var 1) (.con (.int 1))) (.cons (.meth ("kind_of" : Str) (.var 0) (.cons (.ix (.var 1) (.con (.int 2))) .nil)) .nil)))))
  (.cons (.ret (.con (.bl false)))
  .nil))) .nil)
  (.cons (.ife (.cmp .Eq (.var 2) (.con (.str ("fail" : Str)))) (.cons (.ex (.call 2 (.cons (.conj (.cons (.cmp .Eq (.bi .len (.cons (.var 1) .nil)) (.con (.int 2))) (.cons (.call 1 (.cons (.ix (.var 1) (.con (.int 1))) .nil)) .nil))) .nil)))
  (.cons (.ret (.con (.bl true)))
  .nil)) .nil)
  (.cons (.ex (.meth ("look_at_deed" : Str) (.var 0) (.cons (.var 2) (.cons (.slice (.var 1) (.con (.int 1)) .nil) .nil))))
  (.cons (.ret (.cmp .Eq (.var 2) (.con (.str ("give" : Str)))))
  .nil)))))))
/- look_at_variable(self, head, name, kind) -/
def b14 : Mi.S := (.cons (.ife (.cmp .Eq (.var 1) (.con (.str ("put" : Str)))) (.cons (.ex (.call 2 (.cons (.conj (.cons (.cmp .In (.var 2) (.fld (.var 0) ("seen" : Str))) (.cons (.cmp .Eq (.ix (.fld (.var 0) ("seen" : Str)) (.var 2)) (.var 3)) .nil))) .nil)))
  (.cons .retN
  .nil)) .nil)
  (.cons (.ex (.call 2 (.cons (.cmp .NotIn (.var 2) (.fld (.var 0) ("lets" : Str))) .nil)))
  (.cons (.ex (.bm .append (.fld (.var 0) ("lets" : Str)) (.cons (.var 2) .nil)))
  (.cons (.setI (.fld (.var 0) ("seen" : Str)) (.var 2) (.var 3))
  .nil))))
/- look_at_deed(self, head, things, kinds) -/
def b15 : Mi.S := (.cons (.ife (.cmp .Eq (.var 1) (.con (.str ("set" : Str)))) (.cons (.ex (.call 2 (.cons (.conj (.cons (.cmp .Eq (.bi .len (.cons (.var 2) .nil)) (.con (.int 3))) (.cons (.cmp .Eq (.meth ("kind_of" : Str) (.var 0) (.cons (.ix (.var 2) (.con (.int 2))) .nil)) (.con (.str ("number" : Str)))) .nil))) .nil)))
  (.cons (.ex (.meth ("want_field" : Str) (.var 0) (.cons (.ix (.var 2) (.con (.int 0))) (.cons (.ix (.var 2) (.con (.int 1))) .nil))))
  .nil)) (.cons (.ife (.cmp .Eq (.var 1) (.con (.str ("do" : Str)))) (.cons (.ex (.call 2 (.cons (.cmp .Eq (.bi .len (.cons (.var 2) .nil)) (.con (.int 1))) .nil)))
  (.cons (.ex (.meth ("kind_of" : Str) (.var 0) (.cons (.ix (.var 2) (.con (.int 0))) .nil)))
  .nil)) (.cons (.set 3 (.dic (.cons (.con (.str ("out" : Str))) (.cons (.con (.str ("give" : Str))) (.cons (.con (.str ("store" : Str))) .nil))) (.cons (.lst (.cons (.con (.str ("number" : Str))) .nil)) (.cons (.lst (.cons (.fld (.var 0) ("given" : Str)) .nil)) (.cons (.lst (.cons (.con (.str ("list" : Str))) (.cons (.con (.str ("number" : Str))) (.cons (.con (.str ("number" : Str))) .nil)))) .nil)))))
  (.cons (.ex (.call 2 (.cons (.cmp .In (.var 1) (.var 3)) .nil)))
  (.cons (.ex (.meth ("want_kinds" : Str) (.var 0) (.cons (.var 2) (.cons (.ix (.var 3) (.var 1)) .nil))))
  .nil))))
  .nil))
  .nil)
/- kinds_of_sum(head, told) -/
def b16_6 : Mi.S := (.cons (.ex (.call 2 (.cons (.cmp .In (.var 0) (.var 1)) .nil)))
  (.cons (.ret (.ix (.var 1) (.var 0)))
  .nil))
def b16_3 : Mi.S := (.cons (.set 1 (.dic (.cons (.con (.str ("not" : Str))) (.cons (.con (.str ("list" : Str))) .nil)) (.cons (.tup (.cons (.lst (.cons (.con (.str ("truth" : Str))) .nil)) (.cons (.con (.str ("truth" : Str))) .nil))) (.cons (.tup (.cons (.lst (.cons (.con (.str ("number" : Str))) .nil)) (.cons (.con (.str ("list" : Str))) .nil))) .nil))))
  (.cons (.setI (.var 1) (.con (.str ("long" : Str))) (.tup (.cons (.lst (.cons (.con (.str ("list" : Str))) .nil)) (.cons (.con (.str ("number" : Str))) .nil))))
  (.cons (.setI (.var 1) (.con (.str ("at" : Str))) (.tup (.cons (.lst (.cons (.con (.str ("list" : Str))) (.cons (.con (.str ("number" : Str))) .nil))) (.cons (.con (.str ("number" : Str))) .nil))))
  b16_6)))
def b16 : Mi.S := (.cons (.ife (.cmp .In (.var 0) (.tup (.cons (.con (.str ("+" : Str))) (.cons (.con (.str ("-" : Str))) (.cons (.con (.str ("*" : Str))) (.cons (.con (.str ("/" : Str))) (.cons (.con (.str ("rest" : Str))) .nil))))))) (.cons (.ret (.tup (.cons (.lst (.cons (.con (.str ("number" : Str))) (.cons (.con (.str ("number" : Str))) .nil))) (.cons (.con (.str ("number" : Str))) .nil))))
  .nil) .nil)
  (.cons (.ife (.cmp .Eq (.var 0) (.con (.str ("<" : Str)))) (.cons (.ret (.tup (.cons (.lst (.cons (.con (.str ("number" : Str))) (.cons (.con (.str ("number" : Str))) .nil))) (.cons (.con (.str ("truth" : Str))) .nil))))
  .nil) .nil)
  (.cons (.ife (.cmp .In (.var 0) (.tup (.cons (.con (.str ("and" : Str))) (.cons (.con (.str ("or" : Str))) .nil)))) (.cons (.ret (.tup (.cons (.lst (.cons (.con (.str ("truth" : Str))) (.cons (.con (.str ("truth" : Str))) .nil))) (.cons (.con (.str ("truth" : Str))) .nil))))
  .nil) .nil)
  b16_3)))
/- look_at_records(things, records, thing) -/
def l17_1 : Mi.S := (.cons (.ex (.call 3 (.cons (.var 2) (.cons (.con (.str ("record" : Str))) (.cons (.con (.int 3)) (.cons (.op .Add (.con (.int 2)) (.con (.int 4))) .nil))))))
  (.cons (.ex (.call 2 (.cons (.conj (.cons (.call 0 (.cons (.ix (.var 2) (.con (.int 1))) .nil)) (.cons (.cmp .NotIn (.ix (.var 2) (.con (.int 1))) (.tup (.cons (.con (.str ("number" : Str))) (.cons (.con (.str ("truth" : Str))) (.cons (.con (.str ("list" : Str))) .nil))))) (.cons (.cmp .NotIn (.ix (.var 2) (.con (.int 1))) (.var 1)) .nil)))) .nil)))
  (.cons (.ex (.call 4 (.cons (.slice (.var 2) (.con (.int 2)) .nil) .nil)))
  (.cons (.setI (.var 1) (.ix (.var 2) (.con (.int 1))) (.slice (.var 2) (.con (.int 2)) .nil))
  .nil))))
def b17 : Mi.S := (.cons (.set 1 (.dic .nil .nil))
  (.cons (.loop (.name 2) (.seq (.var 0)) l17_1)
  (.cons (.ret (.var 1))
  .nil)))
/- look_at_heads(records, things, look, thing, kinds, kind) -/
def l18_1 : Mi.S := (.cons (.ex (.call 2 (.cons (.meth ("is_kind" : Str) (.var 2) (.cons (.var 5) .nil)) .nil)))
  .nil)
def l18_2 : Mi.S := (.cons (.ex (.call 3 (.cons (.var 3) (.cons (.con (.str ("fun" : Str))) (.cons (.con (.int 5)) (.cons (.con .non) .nil))))))
  (.cons (.ex (.call 2 (.cons (.conj (.cons (.call 0 (.cons (.ix (.var 3) (.con (.int 1))) .nil)) (.cons (.cmp .NotIn (.ix (.var 3) (.con (.int 1))) (.fld (.var 2) ("functions" : Str))) (.cons (.isi (.ix (.var 3) (.con (.int 2))) .tuple) .nil)))) .nil)))
  (.cons (.ex (.call 2 (.cons (.conj (.cons (.cmp .Eq (.op .Mod (.bi .len (.cons (.ix (.var 3) (.con (.int 2))) .nil)) (.con (.int 2))) (.con (.int 0))) (.cons (.cmp .LtE (.bi .len (.cons (.ix (.var 3) (.con (.int 2))) .nil)) (.con (.int 8))) .nil))) .nil)))
  (.cons (.set 4 (.bi .list (.cons (.every 1 (.ix (.var 3) (.con (.int 2)))) .nil)))
  (.cons (.loop (.name 5) (.seq (.op .Add (.var 4) (.lst (.cons (.ix (.var 3) (.con (.int 3))) .nil)))) l18_1)
  (.cons (.setI (.fld (.var 2) ("functions" : Str)) (.ix (.var 3) (.con (.int 1))) (.tup (.cons (.var 4) (.cons (.ix (.var 3) (.con (.int 3))) .nil))))
  .nil))))))
def b18 : Mi.S := (.cons (.set 2 (.make 0 (.cons (.var 0) (.cons (.dic .nil .nil) .nil))))
  (.cons (.loop (.name 3) (.seq (.var 1)) l18_2)
  (.cons (.ret (.var 2))
  .nil)))
/- look_at_tree(thing, heads, many, records, functions, look, function, kinds, given, one, head, kind) -/
def l19_1 : Mi.S := (.cons (.ex (.meth ("begin" : Str) (.var 5) (.cons (.var 6) .nil)))
  (.cons (.ex (.call 2 (.cons (.meth ("look_at_part" : Str) (.var 5) (.cons (.slice (.var 6) (.con (.int 4)) .nil) .nil)) .nil)))
  .nil))
def b19 : Mi.S := (.cons (.ex (.call 2 (.cons (.conj (.cons (.isi (.var 0) .tuple) (.cons (.cmp .Gt (.bi .len (.cons (.var 0) .nil)) (.con (.int 1))) (.cons (.cmp .Eq (.ix (.var 0) (.con (.int 0))) (.con (.str ("program" : Str)))) .nil)))) .nil)))
  (.cons (.set 1 (.lc (.name 9) (.seq (.slice (.var 0) (.con (.int 1)) .nil)) .nil (.ite (.conj (.cons (.isi (.var 9) .tuple) (.cons (.cmp .Gt (.bi .len (.cons (.var 9) .nil)) (.con (.int 0))) .nil))) (.ix (.var 9) (.con (.int 0))) (.con .non)) [9]))
  (.cons (.set 2 (.bi .len (.cons (.lc (.name 10) (.seq (.var 1)) (.cmp .Eq (.var 10) (.con (.str ("record" : Str)))) (.var 10) [10]) .nil)))
  (.cons (.set 3 (.call 17 (.cons (.slice (.var 0) (.con (.int 1)) (.op .Add (.con (.int 1)) (.var 2))) .nil)))
  (.cons (.set 4 (.slice (.var 0) (.op .Add (.con (.int 1)) (.var 2)) .nil))
  (.cons (.set 5 (.call 18 (.cons (.var 3) (.cons (.var 4) .nil))))
  (.cons (.ex (.call 2 (.cons (.cmp .In (.con (.str ("main" : Str))) (.fld (.var 5) ("functions" : Str))) .nil)))
  (.cons (.setT [7, 8] (.ix (.fld (.var 5) ("functions" : Str)) (.con (.str ("main" : Str)))))
  (.cons (.ex (.call 2 (.cons (.conj (.cons (.cmp .Eq (.var 8) (.con (.str ("number" : Str)))) (.cons (.cmp .Eq (.lc (.name 11) (.seq (.var 7)) (.cmp .NotEq (.var 11) (.con (.str ("number" : Str)))) (.var 11) [11]) (.lst .nil)) .nil))) .nil)))
  (.cons (.loop (.name 6) (.seq (.var 4)) l19_1)
  (.cons (.ret (.con .non))
  .nil)))))))))))
/- _law_cell(_law_script, _law_k, _law_spare) -/
def b20 : Mi.S := (.cons (.ife (.cmp .Lt (.var 1) (.bi .len (.cons (.var 0) .nil))) (.cons (.ret (.ix (.var 0) (.var 1)))
  .nil) .nil)
  (.cons (.set 2 (.op .Add (.con (.int 90017)) (.op .Mult (.op .Mult (.con (.int 733)) (.var 1)) (.var 1))))
  (.cons (.ife (.cmp .Gt (.bi .len (.cons (.var 0) .nil)) (.con (.int 0))) (.cons (.set 2 (.op .Add (.var 2) (.op .Mult (.op .Mod (.ix (.var 0) (.con (.int 0))) (.con (.int 99991))) (.op .Add (.op .Mult (.con (.int 2)) (.var 1)) (.con (.int 3))))))
  .nil) .nil)
  (.cons (.ret (.var 2))
  .nil))))
/- _law_draws(_law_script, _law_at, _law_many, _law_digits, _law_left, _law_k, _law_mixed, _law_draw) -/
def l21_1 : Mi.S := (.cons (.ex (.bm .append (.var 3) (.cons (.op .Mod (.var 4) (.con (.int 10000))) .nil)))
  (.cons (.set 4 (.op .FloorDiv (.var 4) (.con (.int 10000))))
  .nil))
def l21_2 : Mi.S := (.cons (.set 7 (.op .Mod (.op .Add (.op .Add (.op .Mult (.var 7) (.con (.int 48271))) (.call 20 (.cons (.var 0) (.cons (.op .Add (.op .Add (.var 1) (.con (.int 1))) (.op .Mod (.var 5) (.con (.int 30)))) .nil)))) (.op .Mult (.var 5) (.var 5))) (.con (.int 2147483629))))
  (.cons (.ex (.bm .append (.var 6) (.cons (.op .FloorDiv (.op .Mod (.op .Add (.op .Mult (.var 7) (.con (.int 69621))) (.op .Mult (.con (.int 11)) (.var 5))) (.con (.int 2147483647))) (.con (.int 16))) .nil)))
  .nil))
def b21 : Mi.S := (.cons (.set 3 (.lst .nil))
  (.cons (.set 4 (.bi .max2 (.cons (.con (.int 0)) (.cons (.call 20 (.cons (.var 0) (.cons (.var 1) .nil))) .nil))))
  (.cons (.loop (.name 5) (.rng (.cons (.var 2) .nil)) l21_1)
  (.cons (.ife (.cmp .Gt (.var 4) (.con (.int 0))) (.cons (.ret (.var 3))
  .nil) .nil)
  (.cons (.set 6 (.lst .nil))
  (.cons (.set 7 (.op .Mod (.op .Mult (.op .Mod (.call 20 (.cons (.var 0) (.cons (.var 1) .nil))) (.con (.int 2147483647))) (.con (.int 48271))) (.con (.int 2147483647))))
  (.cons (.loop (.name 5) (.rng (.cons (.var 2) .nil)) l21_2)
  (.cons (.ret (.var 6))
  .nil))))))))
/- _law_next(_law_state) -/
def b22 : Mi.S := (.cons (.ife (.cmp .Gt (.bi .len (.cons (.ix (.var 0) (.con (.str ("draws" : Str)))) .nil)) (.con (.int 0))) (.cons (.ret (.bm .pop (.ix (.var 0) (.con (.str ("draws" : Str)))) .nil))
  .nil) .nil)
  (.cons (.ret (.con (.int 1)))
  .nil))
/- _law_kinds(_law_e, _law_some) -/
def b23 : Mi.S := .nil
/- _law_refused(_law_tree_here, _law_kinds_here, _law_e) -/
def b24 : Mi.S := (.cons (.set 1 (.lst .nil))
  (.cons (.try (.cons (.ex (.call 19 (.cons (.var 0) .nil)))
  .nil) 0 2 1)
  (.cons (.ret (.var 1))
  .nil)))
/- _law_records(_law_cell_here, _law_wrong, _law_right) -/
def b25 : Mi.S := (.cons (.set 1 (.lst (.cons (.tup (.cons (.con (.str ("record" : Str))) (.cons (.con (.str ("r" : Str))) .nil))) (.cons (.tup (.cons (.con (.str ("record" : Str))) (.cons (.con (.str ("r" : Str))) (.cons (.con (.str ("a" : Str))) (.cons (.con (.str ("b" : Str))) (.cons (.con (.str ("c" : Str))) (.cons (.con (.str ("d" : Str))) (.cons (.con (.str ("e" : Str))) .nil)))))))) .nil))))
  (.cons (.set 1 (.op .Add (.var 1) (.lst (.cons (.tup (.cons (.con (.str ("record" : Str))) (.cons (.con (.str ("r" : Str))) (.cons (.con (.str ("a" : Str))) (.cons (.con (.str ("b" : Str))) (.cons (.con (.str ("a" : Str))) .nil)))))) (.cons (.tup (.cons (.con (.str ("record" : Str))) (.cons (.con (.str ("r" : Str))) (.cons (.con (.str ("A" : Str))) .nil)))) .nil)))))
  (.cons (.set 1 (.op .Add (.var 1) (.lst (.cons (.tup (.cons (.con (.str ("record" : Str))) (.cons (.con (.str ("list" : Str))) (.cons (.con (.str ("a" : Str))) .nil)))) (.cons (.tup (.cons (.con (.str ("record" : Str))) (.cons (.con (.str ("number" : Str))) (.cons (.con (.str ("a" : Str))) .nil)))) .nil)))))
  (.cons (.set 1 (.op .Add (.var 1) (.lst (.cons (.tup (.cons (.con (.str ("record" : Str))) (.cons (.con (.str ("truth" : Str))) (.cons (.con (.str ("a" : Str))) .nil)))) (.cons (.tup (.cons (.con (.str ("record" : Str))) (.cons (.con (.str ("R" : Str))) (.cons (.con (.str ("a" : Str))) .nil)))) .nil)))))
  (.cons (.set 1 (.op .Add (.var 1) (.lst (.cons (.tup (.cons (.con (.str ("record" : Str))) (.cons (.con (.str ("rr" : Str))) (.cons (.con (.str ("a" : Str))) .nil)))) (.cons (.tup (.cons (.con (.str ("record" : Str))) (.cons (.con (.str ("yes" : Str))) (.cons (.con (.str ("a" : Str))) .nil)))) (.cons (.tup (.cons (.con (.str ("record" : Str))) (.cons (.con (.str ("r" : Str))) (.cons (.con (.str ("no" : Str))) .nil)))) .nil))))))
  (.cons (.set 1 (.op .Add (.var 1) (.lst (.cons (.tup (.cons (.con (.str ("record" : Str))) (.cons (.con (.str ("r" : Str))) (.cons (.con (.int 1)) .nil)))) (.cons (.tup (.cons (.con (.str ("record" : Str))) (.cons (.con (.int 1)) (.cons (.con (.str ("a" : Str))) .nil)))) (.cons (.tup (.cons (.con (.str ("record" : Str))) (.cons (.con (.str ("r" : Str))) (.cons (.con (.str ("a" : Str))) (.cons (.con (.str ("abcdefghi" : Str))) .nil))))) .nil))))))
  (.cons (.set 1 (.op .Add (.var 1) (.lst (.cons (.tup (.cons (.con (.str ("recor" : Str))) (.cons (.con (.str ("r" : Str))) (.cons (.con (.str ("a" : Str))) .nil)))) (.cons (.tup (.cons (.con (.str ("record" : Str))) .nil)) (.cons (.tup (.cons (.con (.str ("record" : Str))) (.cons (.con (.str ("r" : Str))) (.cons (.tup (.cons (.con (.str ("a" : Str))) .nil)) .nil)))) (.cons (.tup (.cons (.con (.str ("record" : Str))) (.cons (.con (.str ("abcdefghi" : Str))) (.cons (.con (.str ("a" : Str))) .nil)))) (.cons (.tup .nil) .nil))))))))
  (.cons (.set 2 (.lst (.cons (.tup (.cons (.con (.str ("record" : Str))) (.cons (.con (.str ("r" : Str))) (.cons (.con (.str ("a" : Str))) .nil)))) (.cons (.tup (.cons (.con (.str ("record" : Str))) (.cons (.con (.str ("r" : Str))) (.cons (.con (.str ("a" : Str))) (.cons (.con (.str ("b" : Str))) (.cons (.con (.str ("c" : Str))) (.cons (.con (.str ("d" : Str))) .nil))))))) .nil))))
  (.cons (.set 2 (.op .Add (.var 2) (.lst (.cons (.tup (.cons (.con (.str ("record" : Str))) (.cons (.con (.str ("main" : Str))) (.cons (.con (.str ("r" : Str))) .nil)))) (.cons (.tup (.cons (.con (.str ("record" : Str))) (.cons (.con (.str ("abcdefgh" : Str))) (.cons (.con (.str ("r" : Str))) .nil)))) .nil)))))
  (.cons (.ife (.cmp .Eq (.op .Mod (.var 0) (.con (.int 2))) (.con (.int 0))) (.cons (.ret (.lst (.cons (.ix (.var 2) (.op .Mod (.op .FloorDiv (.var 0) (.con (.int 2))) (.bi .len (.cons (.var 2) .nil)))) (.cons (.con (.bl true)) .nil))))
  .nil) .nil)
  (.cons (.ret (.lst (.cons (.ix (.var 1) (.op .Mod (.op .FloorDiv (.var 0) (.con (.int 2))) (.bi .len (.cons (.var 1) .nil)))) (.cons (.con (.bl false)) .nil))))
  .nil)))))))))))
/- _law_functions(_law_cell_here, _law_end, _law_wrong, _law_five, _law_word, _law_right) -/
def l26_1 : Mi.S := (.cons (.set 2 (.op .Add (.var 2) (.lst (.cons (.tup (.cons (.con (.str ("fun" : Str))) (.cons (.con (.str ("f" : Str))) (.cons (.tup (.cons (.con (.str ("b" : Str))) (.cons (.con (.str ("number" : Str))) (.cons (.var 4) (.cons (.con (.str ("number" : Str))) .nil))))) (.cons (.con (.str ("number" : Str))) (.cons (.var 1) .nil)))))) (.cons (.tup (.cons (.con (.str ("fun" : Str))) (.cons (.var 4) (.cons (.tup .nil) (.cons (.con (.str ("number" : Str))) (.cons (.var 1) .nil)))))) .nil)))))
  .nil)
def b26 : Mi.S := (.cons (.set 1 (.tup (.cons (.con (.str ("give" : Str))) (.cons (.con (.int 1)) .nil))))
  (.cons (.set 2 (.lst (.cons (.tup (.cons (.con (.str ("fun" : Str))) (.cons (.con (.str ("f" : Str))) (.cons (.tup (.cons (.con (.str ("a" : Str))) .nil)) (.cons (.con (.str ("number" : Str))) (.cons (.var 1) .nil)))))) (.cons (.tup (.cons (.con (.str ("fun" : Str))) (.cons (.con (.str ("f" : Str))) (.cons (.tup (.cons (.con (.str ("a" : Str))) (.cons (.con (.str ("number" : Str))) (.cons (.con (.str ("a" : Str))) (.cons (.con (.str ("number" : Str))) .nil))))) (.cons (.con (.str ("number" : Str))) (.cons (.var 1) .nil)))))) .nil))))
  (.cons (.set 3 (.tup (.cons (.con (.str ("a" : Str))) (.cons (.con (.str ("number" : Str))) (.cons (.con (.str ("b" : Str))) (.cons (.con (.str ("truth" : Str))) (.cons (.con (.str ("c" : Str))) (.cons (.con (.str ("list" : Str))) (.cons (.con (.str ("d" : Str))) (.cons (.con (.str ("number" : Str))) (.cons (.con (.str ("e" : Str))) (.cons (.con (.str ("number" : Str))) .nil))))))))))))
  (.cons (.set 2 (.op .Add (.var 2) (.lst (.cons (.tup (.cons (.con (.str ("fun" : Str))) (.cons (.con (.str ("f" : Str))) (.cons (.var 3) (.cons (.con (.str ("number" : Str))) (.cons (.var 1) .nil)))))) .nil))))
  (.cons (.set 2 (.op .Add (.var 2) (.lst (.cons (.tup (.cons (.con (.str ("fun" : Str))) (.cons (.con (.str ("f" : Str))) (.cons (.tup (.cons (.con (.str ("yes" : Str))) (.cons (.con (.str ("number" : Str))) .nil))) (.cons (.con (.str ("number" : Str))) (.cons (.var 1) .nil)))))) .nil))))
  (.cons (.set 2 (.op .Add (.var 2) (.lst (.cons (.tup (.cons (.con (.str ("fun" : Str))) (.cons (.con (.str ("f" : Str))) (.cons (.tup (.cons (.con (.str ("a" : Str))) (.cons (.con (.str ("numbers" : Str))) .nil))) (.cons (.con (.str ("number" : Str))) (.cons (.var 1) .nil)))))) .nil))))
  (.cons (.set 2 (.op .Add (.var 2) (.lst (.cons (.tup (.cons (.con (.str ("fun" : Str))) (.cons (.con (.str ("f" : Str))) (.cons (.tup (.cons (.con (.str ("number" : Str))) (.cons (.con (.str ("a" : Str))) .nil))) (.cons (.con (.str ("number" : Str))) (.cons (.var 1) .nil)))))) (.cons (.tup (.cons (.con (.str ("fun" : Str))) (.cons (.con (.str ("f" : Str))) (.cons (.tup .nil) (.cons (.con (.str ("rec" : Str))) (.cons (.var 1) .nil)))))) .nil)))))
  (.cons (.set 2 (.op .Add (.var 2) (.lst (.cons (.tup (.cons (.con (.str ("fun" : Str))) (.cons (.con (.str ("f" : Str))) (.cons (.tup .nil) (.cons (.con (.str ("number" : Str))) .nil))))) .nil))))
  (.cons (.set 2 (.op .Add (.var 2) (.lst (.cons (.tup (.cons (.con (.str ("fun" : Str))) (.cons (.con (.str ("main" : Str))) (.cons (.tup .nil) (.cons (.con (.str ("number" : Str))) (.cons (.var 1) .nil)))))) (.cons (.tup (.cons (.con (.str ("fun" : Str))) (.cons (.con (.str ("g" : Str))) (.cons (.tup .nil) (.cons (.con (.str ("number" : Str))) (.cons (.var 1) .nil)))))) .nil)))))
  (.cons (.set 2 (.op .Add (.var 2) (.lst (.cons (.tup (.cons (.con (.str ("fun" : Str))) (.cons (.con (.str ("F" : Str))) (.cons (.tup .nil) (.cons (.con (.str ("number" : Str))) (.cons (.var 1) .nil)))))) .nil))))
  (.cons (.set 2 (.op .Add (.var 2) (.lst (.cons (.tup (.cons (.con (.str ("fun" : Str))) (.cons (.con (.str ("f" : Str))) (.cons (.con (.str ("a" : Str))) (.cons (.con (.str ("number" : Str))) (.cons (.var 1) .nil)))))) (.cons (.tup (.cons (.con (.str ("fun" : Str))) (.cons (.con (.str ("f" : Str))) (.cons (.tup .nil) (.cons (.var 1) .nil))))) .nil)))))
  (.cons (.set 2 (.op .Add (.var 2) (.lst (.cons (.tup (.cons (.con (.str ("fun" : Str))) (.cons (.con (.str ("f" : Str))) (.cons (.tup .nil) (.cons (.con (.int 1)) (.cons (.var 1) .nil)))))) (.cons (.tup (.cons (.con (.str ("fun" : Str))) (.cons (.con (.int 1)) (.cons (.tup .nil) (.cons (.con (.str ("number" : Str))) (.cons (.var 1) .nil)))))) .nil)))))
  (.cons (.set 2 (.op .Add (.var 2) (.lst (.cons (.tup (.cons (.con (.str ("fun" : Str))) (.cons (.con (.str ("f" : Str))) (.cons (.tup (.cons (.con (.int 1)) (.cons (.con (.str ("number" : Str))) .nil))) (.cons (.con (.str ("number" : Str))) (.cons (.var 1) .nil)))))) (.cons (.tup (.cons (.con (.str ("func" : Str))) (.cons (.con (.str ("f" : Str))) (.cons (.tup .nil) (.cons (.con (.str ("number" : Str))) (.cons (.var 1) .nil)))))) (.cons (.tup (.cons (.con (.str ("fun" : Str))) .nil)) .nil))))))
  (.cons (.set 2 (.op .Add (.var 2) (.lst (.cons (.con (.str ("fun" : Str))) (.cons (.con (.int 3)) (.cons (.tup .nil) .nil))))))
  (.cons (.loop (.name 4) (.seq (.lst (.cons (.con (.str ("A" : Str))) (.cons (.con (.str ("a1" : Str))) (.cons (.con (.str ("abcdefghi" : Str))) (.cons (.con (.str ("no" : Str))) .nil)))))) l26_1)
  (.cons (.set 5 (.lst (.cons (.tup (.cons (.con (.str ("fun" : Str))) (.cons (.con (.str ("f" : Str))) (.cons (.tup .nil) (.cons (.con (.str ("number" : Str))) (.cons (.var 1) .nil)))))) .nil)))
  (.cons (.set 5 (.op .Add (.var 5) (.lst (.cons (.tup (.cons (.con (.str ("fun" : Str))) (.cons (.con (.str ("f" : Str))) (.cons (.tup (.cons (.con (.str ("a" : Str))) (.cons (.con (.str ("rr" : Str))) (.cons (.con (.str ("b" : Str))) (.cons (.con (.str ("truth" : Str))) (.cons (.con (.str ("c" : Str))) (.cons (.con (.str ("list" : Str))) (.cons (.con (.str ("d" : Str))) (.cons (.con (.str ("number" : Str))) .nil))))))))) (.cons (.con (.str ("number" : Str))) (.cons (.var 1) .nil)))))) .nil))))
  (.cons (.set 5 (.op .Add (.var 5) (.lst (.cons (.tup (.cons (.con (.str ("fun" : Str))) (.cons (.con (.str ("rr" : Str))) (.cons (.tup (.cons (.con (.str ("x" : Str))) (.cons (.con (.str ("list" : Str))) .nil))) (.cons (.con (.str ("rr" : Str))) (.cons (.tup (.cons (.con (.str ("give" : Str))) (.cons (.tup (.cons (.con (.str ("new" : Str))) (.cons (.con (.str ("rr" : Str))) .nil))) .nil))) .nil)))))) .nil))))
  (.cons (.set 5 (.op .Add (.var 5) (.lst (.cons (.tup (.cons (.con (.str ("fun" : Str))) (.cons (.con (.str ("abcdefgh" : Str))) (.cons (.tup .nil) (.cons (.con (.str ("list" : Str))) (.cons (.tup (.cons (.con (.str ("fail" : Str))) (.cons (.con (.int 1)) .nil))) .nil)))))) .nil))))
  (.cons (.ife (.cmp .Eq (.op .Mod (.var 0) (.con (.int 2))) (.con (.int 0))) (.cons (.ret (.lst (.cons (.ix (.var 5) (.op .Mod (.op .FloorDiv (.var 0) (.con (.int 2))) (.bi .len (.cons (.var 5) .nil)))) (.cons (.con (.bl true)) .nil))))
  .nil) .nil)
  (.cons (.ret (.lst (.cons (.ix (.var 2) (.op .Mod (.op .FloorDiv (.var 0) (.con (.int 2))) (.bi .len (.cons (.var 2) .nil)))) (.cons (.con (.bl false)) .nil))))
  .nil)))))))))))))))))))))
/- _law_ends(_law_cell_here, _law_give, _law_both, _law_wrong, _law_right) -/
def b27 : Mi.S := (.cons (.set 1 (.tup (.cons (.con (.str ("give" : Str))) (.cons (.con (.int 1)) .nil))))
  (.cons (.set 2 (.tup (.cons (.con (.str ("if" : Str))) (.cons (.con (.str ("yes" : Str))) (.cons (.tup (.cons (.var 1) .nil)) (.cons (.tup (.cons (.tup (.cons (.con (.str ("out" : Str))) (.cons (.con (.int 1)) .nil))) (.cons (.tup (.cons (.con (.str ("fail" : Str))) (.cons (.con (.int 2)) .nil))) .nil))) .nil))))))
  (.cons (.set 3 (.lst (.cons (.tup (.cons (.tup (.cons (.con (.str ("out" : Str))) (.cons (.con (.int 1)) .nil))) .nil)) (.cons (.tup (.cons (.tup (.cons (.con (.str ("while" : Str))) (.cons (.con (.str ("yes" : Str))) (.cons (.tup (.cons (.var 1) .nil)) .nil)))) .nil)) (.cons (.tup (.cons (.tup (.cons (.con (.str ("if" : Str))) (.cons (.con (.str ("yes" : Str))) (.cons (.tup (.cons (.var 1) .nil)) (.cons (.tup .nil) .nil))))) .nil)) .nil)))))
  (.cons (.set 3 (.op .Add (.var 3) (.lst (.cons (.tup (.cons (.tup (.cons (.con (.str ("if" : Str))) (.cons (.con (.str ("yes" : Str))) (.cons (.tup .nil) (.cons (.tup (.cons (.var 1) .nil)) .nil))))) .nil)) (.cons (.tup .nil) .nil)))))
  (.cons (.set 3 (.op .Add (.var 3) (.lst (.cons (.tup (.cons (.var 1) (.cons (.var 1) .nil))) (.cons (.tup (.cons (.tup (.cons (.con (.str ("fail" : Str))) (.cons (.con (.int 1)) .nil))) (.cons (.tup (.cons (.con (.str ("out" : Str))) (.cons (.con (.int 1)) .nil))) .nil))) .nil)))))
  (.cons (.set 3 (.op .Add (.var 3) (.lst (.cons (.tup (.cons (.var 2) (.cons (.var 1) .nil))) (.cons (.tup (.cons (.tup (.cons (.con (.str ("if" : Str))) (.cons (.con (.str ("yes" : Str))) (.cons (.tup (.cons (.var 1) (.cons (.tup (.cons (.con (.str ("out" : Str))) (.cons (.con (.int 1)) .nil))) .nil))) (.cons (.tup .nil) .nil))))) (.cons (.var 1) .nil))) .nil)))))
  (.cons (.set 3 (.op .Add (.var 3) (.lst (.cons (.tup (.cons (.tup (.cons (.con (.str ("while" : Str))) (.cons (.con (.str ("no" : Str))) (.cons (.tup (.cons (.tup (.cons (.con (.str ("fail" : Str))) (.cons (.con (.int 1)) .nil))) (.cons (.tup (.cons (.con (.str ("fail" : Str))) (.cons (.con (.int 1)) .nil))) .nil))) .nil)))) (.cons (.var 1) .nil))) .nil))))
  (.cons (.set 3 (.op .Add (.var 3) (.lst (.cons (.tup (.cons (.tup (.cons (.con (.str ("if" : Str))) (.cons (.con (.str ("no" : Str))) (.cons (.tup (.cons (.var 1) .nil)) (.cons (.tup (.cons (.var 2) (.cons (.tup (.cons (.con (.str ("out" : Str))) (.cons (.con (.int 1)) .nil))) .nil))) .nil))))) (.cons (.var 1) .nil))) .nil))))
  (.cons (.set 3 (.op .Add (.var 3) (.lst (.cons (.tup (.cons (.tup (.cons (.con (.str ("if" : Str))) (.cons (.con (.str ("no" : Str))) (.cons (.tup (.cons (.var 2) .nil)) (.cons (.tup (.cons (.tup (.cons (.con (.str ("while" : Str))) (.cons (.con (.str ("yes" : Str))) (.cons (.tup (.cons (.var 1) .nil)) .nil)))) .nil)) .nil))))) .nil)) (.cons (.tup (.cons (.tup (.cons (.con (.str ("let" : Str))) (.cons (.con (.str ("x" : Str))) (.cons (.con (.int 1)) .nil)))) .nil)) (.cons (.tup (.cons (.tup (.cons (.con (.str ("do" : Str))) (.cons (.con (.int 1)) .nil))) .nil)) .nil))))))
  (.cons (.set 4 (.lst (.cons (.tup (.cons (.var 1) .nil)) (.cons (.tup (.cons (.var 2) .nil)) (.cons (.tup (.cons (.tup (.cons (.con (.str ("if" : Str))) (.cons (.con (.str ("yes" : Str))) (.cons (.tup (.cons (.var 2) .nil)) (.cons (.tup (.cons (.var 2) .nil)) .nil))))) .nil)) .nil)))))
  (.cons (.set 4 (.op .Add (.var 4) (.lst (.cons (.tup (.cons (.tup (.cons (.con (.str ("while" : Str))) (.cons (.con (.str ("yes" : Str))) (.cons (.tup (.cons (.var 1) .nil)) .nil)))) (.cons (.var 1) .nil))) (.cons (.tup (.cons (.tup (.cons (.con (.str ("fail" : Str))) (.cons (.con (.int 0)) .nil))) .nil)) .nil)))))
  (.cons (.set 4 (.op .Add (.var 4) (.lst (.cons (.tup (.cons (.tup (.cons (.con (.str ("if" : Str))) (.cons (.con (.str ("yes" : Str))) (.cons (.tup (.cons (.var 1) .nil)) (.cons (.tup .nil) .nil))))) (.cons (.var 2) .nil))) (.cons (.tup (.cons (.tup (.cons (.con (.str ("while" : Str))) (.cons (.con (.str ("no" : Str))) (.cons (.tup (.cons (.var 2) .nil)) .nil)))) (.cons (.tup (.cons (.con (.str ("if" : Str))) (.cons (.con (.str ("no" : Str))) (.cons (.tup .nil) (.cons (.tup .nil) .nil))))) (.cons (.var 1) .nil)))) .nil)))))
  (.cons (.ife (.cmp .Eq (.op .Mod (.var 0) (.con (.int 2))) (.con (.int 0))) (.cons (.ret (.lst (.cons (.ix (.var 4) (.op .Mod (.op .FloorDiv (.var 0) (.con (.int 2))) (.bi .len (.cons (.var 4) .nil)))) (.cons (.con (.bl true)) .nil))))
  .nil) .nil)
  (.cons (.ret (.lst (.cons (.ix (.var 3) (.op .Mod (.op .FloorDiv (.var 0) (.con (.int 2))) (.bi .len (.cons (.var 3) .nil)))) (.cons (.con (.bl false)) .nil))))
  .nil))))))))))))))
/- _law_mains(_law_cell_here, _law_give, _law_wrong, _law_right) -/
def b28 : Mi.S := (.cons (.set 1 (.tup (.cons (.con (.str ("give" : Str))) (.cons (.con (.int 1)) .nil))))
  (.cons (.set 2 (.lst (.cons (.tup (.cons (.con (.str ("fun" : Str))) (.cons (.con (.str ("main" : Str))) (.cons (.tup (.cons (.con (.str ("a" : Str))) (.cons (.con (.str ("truth" : Str))) .nil))) (.cons (.con (.str ("number" : Str))) (.cons (.var 1) .nil)))))) .nil)))
  (.cons (.set 2 (.op .Add (.var 2) (.lst (.cons (.tup (.cons (.con (.str ("fun" : Str))) (.cons (.con (.str ("main" : Str))) (.cons (.tup (.cons (.con (.str ("a" : Str))) (.cons (.con (.str ("number" : Str))) (.cons (.con (.str ("b" : Str))) (.cons (.con (.str ("rr" : Str))) .nil))))) (.cons (.con (.str ("number" : Str))) (.cons (.var 1) .nil)))))) .nil))))
  (.cons (.set 2 (.op .Add (.var 2) (.lst (.cons (.tup (.cons (.con (.str ("fun" : Str))) (.cons (.con (.str ("main" : Str))) (.cons (.tup .nil) (.cons (.con (.str ("truth" : Str))) (.cons (.tup (.cons (.con (.str ("give" : Str))) (.cons (.con (.str ("yes" : Str))) .nil))) .nil)))))) (.cons (.tup (.cons (.con (.str ("fun" : Str))) (.cons (.con (.str ("mains" : Str))) (.cons (.tup .nil) (.cons (.con (.str ("number" : Str))) (.cons (.var 1) .nil)))))) .nil)))))
  (.cons (.set 2 (.op .Add (.var 2) (.lst (.cons (.tup (.cons (.con (.str ("fun" : Str))) (.cons (.con (.str ("main" : Str))) (.cons (.tup (.cons (.con (.str ("a" : Str))) (.cons (.con (.str ("list" : Str))) .nil))) (.cons (.con (.str ("number" : Str))) (.cons (.var 1) .nil)))))) .nil))))
  (.cons (.set 2 (.op .Add (.var 2) (.lst (.cons (.tup (.cons (.con (.str ("fun" : Str))) (.cons (.con (.str ("main" : Str))) (.cons (.tup .nil) (.cons (.con (.str ("rr" : Str))) (.cons (.tup (.cons (.con (.str ("give" : Str))) (.cons (.tup (.cons (.con (.str ("new" : Str))) (.cons (.con (.str ("rr" : Str))) .nil))) .nil))) .nil)))))) .nil))))
  (.cons (.set 3 (.lst (.cons (.tup (.cons (.con (.str ("fun" : Str))) (.cons (.con (.str ("main" : Str))) (.cons (.tup .nil) (.cons (.con (.str ("number" : Str))) (.cons (.var 1) .nil)))))) .nil)))
  (.cons (.set 3 (.op .Add (.var 3) (.lst (.cons (.tup (.cons (.con (.str ("fun" : Str))) (.cons (.con (.str ("main" : Str))) (.cons (.tup (.cons (.con (.str ("a" : Str))) (.cons (.con (.str ("number" : Str))) (.cons (.con (.str ("b" : Str))) (.cons (.con (.str ("number" : Str))) .nil))))) (.cons (.con (.str ("number" : Str))) (.cons (.tup (.cons (.con (.str ("give" : Str))) (.cons (.con (.str ("b" : Str))) .nil))) .nil)))))) .nil))))
  (.cons (.ife (.cmp .Eq (.op .Mod (.var 0) (.con (.int 2))) (.con (.int 0))) (.cons (.ret (.lst (.cons (.ix (.var 3) (.op .Mod (.op .FloorDiv (.var 0) (.con (.int 2))) (.bi .len (.cons (.var 3) .nil)))) (.cons (.con (.bl true)) .nil))))
  .nil) .nil)
  (.cons (.ret (.lst (.cons (.ix (.var 2) (.op .Mod (.op .FloorDiv (.var 0) (.con (.int 2))) (.bi .len (.cons (.var 2) .nil)))) (.cons (.con (.bl false)) .nil))))
  .nil))))))))))
/- _law_tree(_law_cell_here, _law_way, _law_plain, _law_functions_here, _law_other, _law_records_here, _law_record, _law_main, _law_more, _law_fine, _law_at, _law_one, _law_some) -/
def b29 : Mi.S := (.cons (.set 1 (.op .Mod (.var 0) (.con (.int 5))))
  (.cons (.setT [6, 7, 8, 9] (.lst (.cons (.tup .nil) (.cons (.tup (.cons (.tup (.cons (.con (.str ("fun" : Str))) (.cons (.con (.str ("main" : Str))) (.cons (.tup .nil) (.cons (.con (.str ("number" : Str))) (.cons (.tup (.cons (.con (.str ("give" : Str))) (.cons (.con (.int 0)) .nil))) .nil)))))) .nil)) (.cons (.tup .nil) (.cons (.con (.bl true)) .nil))))))
  (.cons (.ife (.cmp .Eq (.var 1) (.con (.int 0))) (.cons (.setT [11, 9] (.call 25 (.cons (.op .FloorDiv (.var 0) (.con (.int 5))) .nil)))
  (.cons (.set 6 (.tup (.cons (.var 11) .nil)))
  .nil)) (.cons (.ife (.cmp .Eq (.var 1) (.con (.int 1))) (.cons (.setT [11, 9] (.call 26 (.cons (.op .FloorDiv (.var 0) (.con (.int 5))) .nil)))
  (.cons (.set 8 (.tup (.cons (.var 11) .nil)))
  .nil)) (.cons (.ife (.cmp .Eq (.var 1) (.con (.int 2))) (.cons (.setT [12, 9] (.call 27 (.cons (.op .FloorDiv (.var 0) (.con (.int 5))) .nil)))
  (.cons (.set 8 (.tup (.cons (.op .Add (.tup (.cons (.con (.str ("fun" : Str))) (.cons (.con (.str ("f" : Str))) (.cons (.tup .nil) (.cons (.con (.str ("number" : Str))) .nil))))) (.var 12)) .nil)))
  .nil)) (.cons (.ife (.cmp .Eq (.var 1) (.con (.int 3))) (.cons (.setT [11, 9] (.call 28 (.cons (.op .FloorDiv (.var 0) (.con (.int 5))) .nil)))
  (.cons (.set 7 (.tup (.cons (.var 11) .nil)))
  .nil)) (.cons (.setT [8, 9] (.lst (.cons (.tup (.cons (.tup (.cons (.con (.str ("record" : Str))) (.cons (.con (.str ("rs" : Str))) (.cons (.con (.str ("a" : Str))) .nil)))) .nil)) (.cons (.con (.bl false)) .nil))))
  .nil))
  .nil))
  .nil))
  .nil))
  (.cons (.set 2 (.tup (.cons (.tup (.cons (.con (.str ("fun" : Str))) (.cons (.con (.str ("g" : Str))) (.cons (.tup (.cons (.con (.str ("p" : Str))) (.cons (.con (.str ("rr" : Str))) .nil))) (.cons (.con (.str ("truth" : Str))) (.cons (.tup (.cons (.con (.str ("give" : Str))) (.cons (.con (.str ("no" : Str))) .nil))) .nil)))))) .nil)))
  (.cons (.set 3 (.ix (.lst (.cons (.op .Add (.op .Add (.var 7) (.var 2)) (.var 8)) (.cons (.op .Add (.op .Add (.var 8) (.var 7)) (.var 2)) (.cons (.op .Add (.op .Add (.var 2) (.var 8)) (.var 7)) .nil)))) (.op .Mod (.op .FloorDiv (.var 0) (.con (.int 2560))) (.con (.int 3)))))
  (.cons (.ife (.cmp .Eq (.var 1) (.con (.int 4))) (.cons (.set 10 (.op .Mod (.op .FloorDiv (.var 0) (.con (.int 2560))) (.con (.int 2))))
  (.cons (.set 3 (.op .Add (.op .Add (.op .Add (.var 7) (.slice (.var 2) .nil (.var 10))) (.var 8)) (.slice (.var 2) (.var 10) .nil)))
  .nil)) .nil)
  (.cons (.set 4 (.tup (.cons (.tup (.cons (.con (.str ("record" : Str))) (.cons (.con (.str ("rr" : Str))) (.cons (.con (.str ("f" : Str))) .nil)))) .nil)))
  (.cons (.set 5 (.ix (.lst (.cons (.op .Add (.var 6) (.var 4)) (.cons (.op .Add (.var 4) (.var 6)) .nil))) (.op .Mod (.op .FloorDiv (.var 0) (.con (.int 7680))) (.con (.int 2)))))
  (.cons (.ret (.lst (.cons (.op .Add (.op .Add (.tup (.cons (.con (.str ("program" : Str))) .nil)) (.var 5)) (.var 3)) (.cons (.var 9) .nil))))
  .nil)))))))))
/- law(_law_script, _law_cell_here, _law_tree_here, _law_fine) -/
def l30_1 : Mi.S := (.cons (.setT [2, 3] (.call 29 (.cons (.var 1) .nil)))
  (.cons (.ife (.cmp .NotEq (.call 24 (.cons (.var 2) .nil)) (.ix (.lst (.cons (.lst (.cons (.con (.str ("NoTree" : Str))) .nil)) (.cons (.lst .nil) .nil))) (.bi .int (.cons (.var 3) .nil)))) (.cons (.ret (.con (.bl false)))
  .nil) .nil)
  .nil))
def b30 : Mi.S := (.cons (.loop (.name 1) (.seq (.op .Add (.lst (.cons (.call 20 (.cons (.var 0) (.cons (.con (.int 0)) .nil))) (.cons (.call 20 (.cons (.var 0) (.cons (.con (.int 1)) .nil))) .nil))) (.slice (.var 0) (.con (.int 2)) (.con (.int 16))))) l30_1)
  (.cons (.ret (.con (.bl true)))
  .nil))
def F : Nat → Option Df
  | 0 => some ⟨1, 3, b0⟩
  | 1 => some ⟨1, 1, b1⟩
  | 2 => some ⟨1, 1, b2⟩
  | 3 => some ⟨4, 4, b3⟩
  | 4 => some ⟨1, 3, b4⟩
  | 5 => some ⟨3, 3, b5⟩
  | 6 => some ⟨2, 2, b6⟩
  | 7 => some ⟨2, 5, b7⟩
  | 8 => some ⟨2, 2, b8⟩
  | 9 => some ⟨3, 5, b9⟩
  | 10 => some ⟨2, 6, b10⟩
  | 11 => some ⟨3, 4, b11⟩
  | 12 => some ⟨2, 5, b12⟩
  | 13 => some ⟨2, 4, b13⟩
  | 14 => some ⟨4, 4, b14⟩
  | 15 => some ⟨3, 4, b15⟩
  | 16 => some ⟨1, 2, b16⟩
  | 17 => some ⟨1, 3, b17⟩
  | 18 => some ⟨2, 6, b18⟩
  | 19 => some ⟨1, 12, b19⟩
  | 20 => some ⟨2, 3, b20⟩
  | 21 => some ⟨3, 8, b21⟩
  | 22 => some ⟨1, 1, b22⟩
  | 23 => some ⟨1, 2, b23⟩
  | 24 => some ⟨1, 3, b24⟩
  | 25 => some ⟨1, 3, b25⟩
  | 26 => some ⟨1, 6, b26⟩
  | 27 => some ⟨1, 5, b27⟩
  | 28 => some ⟨1, 4, b28⟩
  | 29 => some ⟨1, 13, b29⟩
  | 30 => some ⟨1, 4, b30⟩
  | _ => none
def mT : List ((Nat × Str) × Nat) := [((0, "__init__"), 5), ((0, "is_kind"), 6), ((0, "begin"), 7), ((0, "kind_of"), 8), ((0, "want_kinds"), 9), ((0, "kind_of_deed"), 10), ((0, "want_field"), 11), ((0, "look_at_part"), 12), ((0, "look_at_statement"), 13), ((0, "look_at_variable"), 14), ((0, "look_at_deed"), 15)]
def aT : List (Nat × Str) := [(0, "functions"), (0, "given"), (0, "lets"), (0, "records"), (0, "seen")]
def subT : List (Nat × Nat) := [(2, 0)]
def rsT : List Nat := [2]
def kdT : List (Nat × List Str) := [(2, [("NoTree" : Str)])]
def T : Tb := ⟨fun c m => (mT.find? fun p => decide (p.1 = (c, m))).map (·.2), fun c f => decide ((c, f) ∈ aT), fun c d => decide ((c, d) ∈ subT), fun c => decide (c ∈ rsT), fun c => (kdT.lookup c).getD []⟩
@[simp] theorem trs2 : T.rs 2 = true := by decide +kernel
@[simp] theorem tkd2 : T.kinds 2 = [("NoTree" : Str)] := rfl
@[simp] theorem tsb2_0 : T.sub 2 0 = true := by decide +kernel
@[simp] theorem tm5 : T.meth 0 ("__init__" : Str) = some 5 := by decide +kernel
@[simp] theorem tm6 : T.meth 0 ("is_kind" : Str) = some 6 := by decide +kernel
@[simp] theorem tm7 : T.meth 0 ("begin" : Str) = some 7 := by decide +kernel
@[simp] theorem tm8 : T.meth 0 ("kind_of" : Str) = some 8 := by decide +kernel
@[simp] theorem tm9 : T.meth 0 ("want_kinds" : Str) = some 9 := by decide +kernel
@[simp] theorem tm10 : T.meth 0 ("kind_of_deed" : Str) = some 10 := by decide +kernel
@[simp] theorem tm11 : T.meth 0 ("want_field" : Str) = some 11 := by decide +kernel
@[simp] theorem tm12 : T.meth 0 ("look_at_part" : Str) = some 12 := by decide +kernel
@[simp] theorem tm13 : T.meth 0 ("look_at_statement" : Str) = some 13 := by decide +kernel
@[simp] theorem tm14 : T.meth 0 ("look_at_variable" : Str) = some 14 := by decide +kernel
@[simp] theorem tm15 : T.meth 0 ("look_at_deed" : Str) = some 15 := by decide +kernel
@[simp] theorem ta0_0 : T.attr 0 ("functions" : Str) = true := by decide +kernel
@[simp] theorem ta0_1 : T.attr 0 ("given" : Str) = true := by decide +kernel
@[simp] theorem ta0_2 : T.attr 0 ("lets" : Str) = true := by decide +kernel
@[simp] theorem ta0_3 : T.attr 0 ("records" : Str) = true := by decide +kernel
@[simp] theorem ta0_4 : T.attr 0 ("seen" : Str) = true := by decide +kernel
theorem u0 (k : Nat) (x0 : Mi.W) (τ : Sto) : evF T F (k + 1) 0 [x0] τ = Mi.finish (evS T (evF T F k) b0 [some x0, none, none] τ) := rfl
theorem u1 (k : Nat) (x0 : Mi.W) (τ : Sto) : evF T F (k + 1) 1 [x0] τ = Mi.finish (evS T (evF T F k) b1 [some x0] τ) := rfl
theorem u2 (k : Nat) (x0 : Mi.W) (τ : Sto) : evF T F (k + 1) 2 [x0] τ = Mi.finish (evS T (evF T F k) b2 [some x0] τ) := rfl
theorem u3 (k : Nat) (x0 x1 x2 x3 : Mi.W) (τ : Sto) : evF T F (k + 1) 3 [x0, x1, x2, x3] τ = Mi.finish (evS T (evF T F k) b3 [some x0, some x1, some x2, some x3] τ) := rfl
theorem u4 (k : Nat) (x0 : Mi.W) (τ : Sto) : evF T F (k + 1) 4 [x0] τ = Mi.finish (evS T (evF T F k) b4 [some x0, none, none] τ) := rfl
theorem u5 (k : Nat) (x0 x1 x2 : Mi.W) (τ : Sto) : evF T F (k + 1) 5 [x0, x1, x2] τ = Mi.finish (evS T (evF T F k) b5 [some x0, some x1, some x2] τ) := rfl
theorem u6 (k : Nat) (x0 x1 : Mi.W) (τ : Sto) : evF T F (k + 1) 6 [x0, x1] τ = Mi.finish (evS T (evF T F k) b6 [some x0, some x1] τ) := rfl
theorem u7 (k : Nat) (x0 x1 : Mi.W) (τ : Sto) : evF T F (k + 1) 7 [x0, x1] τ = Mi.finish (evS T (evF T F k) b7 [some x0, some x1, none, none, none] τ) := rfl
theorem u8 (k : Nat) (x0 x1 : Mi.W) (τ : Sto) : evF T F (k + 1) 8 [x0, x1] τ = Mi.finish (evS T (evF T F k) b8 [some x0, some x1] τ) := rfl
theorem u9 (k : Nat) (x0 x1 x2 : Mi.W) (τ : Sto) : evF T F (k + 1) 9 [x0, x1, x2] τ = Mi.finish (evS T (evF T F k) b9 [some x0, some x1, some x2, none, none] τ) := rfl
theorem u10 (k : Nat) (x0 x1 : Mi.W) (τ : Sto) : evF T F (k + 1) 10 [x0, x1] τ = Mi.finish (evS T (evF T F k) b10 [some x0, some x1, none, none, none, none] τ) := rfl
theorem u11 (k : Nat) (x0 x1 x2 : Mi.W) (τ : Sto) : evF T F (k + 1) 11 [x0, x1, x2] τ = Mi.finish (evS T (evF T F k) b11 [some x0, some x1, some x2, none] τ) := rfl
theorem u12 (k : Nat) (x0 x1 : Mi.W) (τ : Sto) : evF T F (k + 1) 12 [x0, x1] τ = Mi.finish (evS T (evF T F k) b12 [some x0, some x1, none, none, none] τ) := rfl
theorem u13 (k : Nat) (x0 x1 : Mi.W) (τ : Sto) : evF T F (k + 1) 13 [x0, x1] τ = Mi.finish (evS T (evF T F k) b13 [some x0, some x1, none, none] τ) := rfl
theorem u14 (k : Nat) (x0 x1 x2 x3 : Mi.W) (τ : Sto) : evF T F (k + 1) 14 [x0, x1, x2, x3] τ = Mi.finish (evS T (evF T F k) b14 [some x0, some x1, some x2, some x3] τ) := rfl
theorem u15 (k : Nat) (x0 x1 x2 : Mi.W) (τ : Sto) : evF T F (k + 1) 15 [x0, x1, x2] τ = Mi.finish (evS T (evF T F k) b15 [some x0, some x1, some x2, none] τ) := rfl
theorem u16 (k : Nat) (x0 : Mi.W) (τ : Sto) : evF T F (k + 1) 16 [x0] τ = Mi.finish (evS T (evF T F k) b16 [some x0, none] τ) := rfl
theorem u17 (k : Nat) (x0 : Mi.W) (τ : Sto) : evF T F (k + 1) 17 [x0] τ = Mi.finish (evS T (evF T F k) b17 [some x0, none, none] τ) := rfl
theorem u18 (k : Nat) (x0 x1 : Mi.W) (τ : Sto) : evF T F (k + 1) 18 [x0, x1] τ = Mi.finish (evS T (evF T F k) b18 [some x0, some x1, none, none, none, none] τ) := rfl
theorem u19 (k : Nat) (x0 : Mi.W) (τ : Sto) : evF T F (k + 1) 19 [x0] τ = Mi.finish (evS T (evF T F k) b19 [some x0, none, none, none, none, none, none, none, none, none, none, none] τ) := rfl
theorem u20 (k : Nat) (x0 x1 : Mi.W) (τ : Sto) : evF T F (k + 1) 20 [x0, x1] τ = Mi.finish (evS T (evF T F k) b20 [some x0, some x1, none] τ) := rfl
theorem u21 (k : Nat) (x0 x1 x2 : Mi.W) (τ : Sto) : evF T F (k + 1) 21 [x0, x1, x2] τ = Mi.finish (evS T (evF T F k) b21 [some x0, some x1, some x2, none, none, none, none, none] τ) := rfl
theorem u22 (k : Nat) (x0 : Mi.W) (τ : Sto) : evF T F (k + 1) 22 [x0] τ = Mi.finish (evS T (evF T F k) b22 [some x0] τ) := rfl
theorem u23 (k : Nat) (x0 : Mi.W) (τ : Sto) : evF T F (k + 1) 23 [x0] τ = Mi.finish (evS T (evF T F k) b23 [some x0, none] τ) := rfl
theorem u24 (k : Nat) (x0 : Mi.W) (τ : Sto) : evF T F (k + 1) 24 [x0] τ = Mi.finish (evS T (evF T F k) b24 [some x0, none, none] τ) := rfl
theorem u25 (k : Nat) (x0 : Mi.W) (τ : Sto) : evF T F (k + 1) 25 [x0] τ = Mi.finish (evS T (evF T F k) b25 [some x0, none, none] τ) := rfl
theorem u26 (k : Nat) (x0 : Mi.W) (τ : Sto) : evF T F (k + 1) 26 [x0] τ = Mi.finish (evS T (evF T F k) b26 [some x0, none, none, none, none, none] τ) := rfl
theorem u27 (k : Nat) (x0 : Mi.W) (τ : Sto) : evF T F (k + 1) 27 [x0] τ = Mi.finish (evS T (evF T F k) b27 [some x0, none, none, none, none] τ) := rfl
theorem u28 (k : Nat) (x0 : Mi.W) (τ : Sto) : evF T F (k + 1) 28 [x0] τ = Mi.finish (evS T (evF T F k) b28 [some x0, none, none, none] τ) := rfl
theorem u29 (k : Nat) (x0 : Mi.W) (τ : Sto) : evF T F (k + 1) 29 [x0] τ = Mi.finish (evS T (evF T F k) b29 [some x0, none, none, none, none, none, none, none, none, none, none, none, none] τ) := rfl
theorem u30 (k : Nat) (x0 : Mi.W) (τ : Sto) : evF T F (k + 1) 30 [x0] τ = Mi.finish (evS T (evF T F k) b30 [some x0, none, none, none] τ) := rfl
end L_k08

namespace L_k08
open PySem Mi
/-! look_at_tree: words, numbers, want -/
@[simp] theorem fl_s (x : Str) : flat (.str x) = true := rfl
@[simp] theorem slW_tup (xs : List Mi.W) (lo hi : Option Int) (τ : Sto) : sliceW (.tup xs) lo hi τ = .ok (.tup (cut xs lo hi)) τ := rfl
@[simp] theorem fl_i (i : Int) : flat (.int i) = true := rfl
@[simp] theorem fl_n : flat .non = true := rfl
@[simp] theorem fl_b (b : Bool) : flat (.bl b) = true := rfl
/-- a thing: texts, ints, tuples of things, so deep at most -/
def Thg : Nat → Mi.W → Prop
  | _, .int _ => True
  | _, .str s => (∀ c ∈ s.cps.toList, c < 128) ∧ s.length ≤ 10000
  | n + 1, .tup xs => xs.length ≤ 10000 ∧ ∀ x ∈ xs, Thg n x
  | _, _ => False
theorem Thg.mono : ∀ {n m : Nat} {w : Mi.W}, Thg n w → n ≤ m → Thg m w
  | n, m, .int _, _, _ => by cases m <;> trivial
  | n, m, .str s, h, _ => by cases n <;> cases m <;> exact h
  | n + 1, 0, .tup xs, _, hm => absurd hm (by omega)
  | n + 1, m + 1, .tup xs, h, hm => ⟨h.1, fun x hx => Thg.mono (h.2 x hx) (by omega)⟩
  | 0, _, .tup xs, h, _ => h.elim
  | n, _, .non, h, _ => by cases n <;> exact h.elim
  | n, _, .bl _, h, _ => by cases n <;> exact h.elim
  | n, _, .ref _, h, _ => by cases n <;> exact h.elim
def StrA (s : Str) : Prop := (∀ c ∈ s.cps.toList, c < 128) ∧ s.length ≤ 10000
theorem Thg.str {n : Nat} {s : Str} (h : Thg n (.str s)) : StrA s := by cases n <;> exact h
theorem Thg.ofStr {n : Nat} {s : Str} (h : StrA s) : Thg n (.str s) := by cases n <;> exact h
theorem Thg.tup {n : Nat} {xs : List Mi.W} (h : Thg n (.tup xs)) : xs.length ≤ 10000 ∧ ∀ x ∈ xs, Thg (n - 1) x := by
  cases n with
  | zero => exact h.elim
  | succ n => exact h
theorem StrA.ok {s : Str} (h : StrA s) : PyData.strOk s = true := by
  show s.cps.all (· < 0x110000) = true
  rw [← Array.all_toList]
  refine List.all_eq_true.mpr fun c hc => ?_
  have := h.1 c hc
  exact decide_eq_true (by omega)
theorem StrA.len {s : Str} (h : StrA s) : s.length ≤ sizeLine := Nat.le_trans h.2 (by decide)
theorem eq_strs {τ : Sto} {a b : Str} (h1 : PyData.strOk a = true) (h2 : PyData.strOk b = true) : eqW τ (.str a) (.str b) = some (a == b) := by
  rw [eqW_str]
  unfold strB
  rw [if_pos ⟨h1, h2⟩]
/-- a thing as data -/
theorem thg_data {τ : Sto} : ∀ {n k : Nat} {w : Mi.W}, Thg n w → n ≤ k → ∃ d, toD τ k w = some d ∧ PyData.canLay0 d = true ∧ PyData.depth d ≤ n + 1 ∧ (∀ x, w = .str x → d = .str x) ∧ (∀ i, w = .int i → d = .int i) ∧ ∀ xs, w = .tup xs → ∃ ds, d = .tuple ds
  | n, k, .int i, _, _ => ⟨.int i, by cases k <;> rfl, by simp only [PyData.canLay0], by simp [PyData.depth], (fun _ e => by cases e), (fun _ e => by cases e; rfl), (fun _ e => by cases e)⟩
  | n, k, .str s, h, _ => ⟨.str s, by cases k <;> rfl, by simp only [PyData.canLay0]; exact (Thg.str h).ok, by simp [PyData.depth], (fun _ e => by cases e; rfl), (fun _ e => by cases e), (fun _ e => by cases e)⟩
  | n + 1, 0, .tup xs, _, hk => absurd hk (by omega)
  | n + 1, k + 1, .tup xs, h, hk => by
    have key : ∀ ys : List Mi.W, (∀ x ∈ ys, Thg n x) → ∃ ds, mapO (toD τ k) ys = some ds ∧ PyData.canLayAll0 ds = true ∧ PyData.depthAll ds ≤ n + 1 := by
      intro ys
      induction ys with
      | nil => exact fun _ => ⟨[], rfl, by simp only [PyData.canLayAll0], by simp [PyData.depthAll]⟩
      | cons y r ih =>
        intro hy
        obtain ⟨ds, e1, e2, e3⟩ := ih fun x hx => hy x (List.mem_cons_of_mem _ hx)
        obtain ⟨d, f1, f2, f3, _⟩ := thg_data (τ := τ) (hy y List.mem_cons_self) (show n ≤ k by omega)
        refine ⟨d :: ds, by rw [mapO, f1, e1], by simp only [PyData.canLayAll0, f2, e2, Bool.and_self], ?_⟩
        simp only [PyData.depthAll]
        omega
    obtain ⟨ds, e1, e2, e3⟩ := key xs h.2
    refine ⟨.tuple ds, ?_, by simp only [PyData.canLay0]; exact e2, by simp only [PyData.depth]; omega, (fun _ e => by cases e), (fun _ e => by cases e), (fun _ _ => ⟨ds, rfl⟩)⟩
    show (mapO (toD τ k) xs).map PyData.tuple = _
    rw [e1]
    rfl
  | 0, _, .tup xs, h, _ => h.elim
  | n, _, .non, h, _ => by cases n <;> exact h.elim
  | n, _, .bl _, h, _ => by cases n <;> exact h.elim
  | n, _, .ref _, h, _ => by cases n <;> exact h.elim
def isS (w : Mi.W) (x : Str) : Bool := match w with
  | .str s => s == x
  | _ => false
theorem eq_thg {τ : Sto} {n : Nat} {w : Mi.W} (h : Thg n w) (hn : n ≤ 50) {x : Str} (hx : PyData.strOk x = true) : eqW τ w (.str x) = some (isS w x) := by
  have sx : SeqAt.shaped (.str x) = true := by
    unfold SeqAt.shaped
    have h1 : PyData.canLay0 (.str x) = PyData.strOk x := by simp only [PyData.canLay0]
    have h2 : decide (PyData.depth (.str x) ≤ 64) = true := decide_eq_true (by simp [PyData.depth])
    rw [h1, h2, hx, Bool.and_true]
  obtain ⟨d, e1, e2, e3, e4, e5, e6⟩ := thg_data (τ := τ) h (show n ≤ 64 by omega)
  have sd : SeqAt.shaped d = true := by
    unfold SeqAt.shaped
    rw [e2, decide_eq_true (show PyData.depth d ≤ 64 by omega), Bool.and_true]
  unfold eqW
  rw [e1]
  show (if SeqAt.shaped d = true ∧ SeqAt.shaped (.str x) = true then some (PyData.eqv d (.str x)) else none) = _
  rw [if_pos ⟨sd, sx⟩]
  cases w with
  | str s => rw [e4 s rfl]; simp only [PyData.eqv]; rfl
  | int i => rw [e5 i rfl]; simp only [PyData.eqv]; rfl
  | tup xs =>
    obtain ⟨ds, rfl⟩ := e6 xs rfl
    simp only [PyData.eqv]
    rfl
  | _ => cases n <;> exact h.elim
def abc (c : Nat) : Bool := decide (97 ≤ c) && decide (c ≤ 122)
def isName (s : Str) : Bool := !(s == ("yes" : Str)) && !(s == ("no" : Str)) && decide (1 ≤ s.length) && decide (s.length ≤ 8) && s.cps.toList.all abc
def nameW (w : Mi.W) : Bool := match w with
  | .str s => isName s
  | _ => false
def numW (w : Mi.W) : Bool := match w with
  | .int i => decide (-32768 ≤ i) && decide (i ≤ 32767)
  | _ => false
theorem ABC : ("abcdefghijklmnopqrstuvwxyz" : Str) = SX.S [97, 98, 99, 100, 101, 102, 103, 104, 105, 106, 107, 108, 109, 110, 111, 112, 113, 114, 115, 116, 117, 118, 119, 120, 121, 122] := by decide +kernel
theorem abc_mem (c : Nat) : decide (c ∈ [97, 98, 99, 100, 101, 102, 103, 104, 105, 106, 107, 108, 109, 110, 111, 112, 113, 114, 115, 116, 117, 118, 119, 120, 121, 122]) = abc c := by
  unfold abc
  by_cases h : 97 ≤ c ∧ c ≤ 122
  · rw [decide_eq_true h.1, decide_eq_true h.2]
    refine decide_eq_true ?_
    have : c = 97 ∨ c = 98 ∨ c = 99 ∨ c = 100 ∨ c = 101 ∨ c = 102 ∨ c = 103 ∨ c = 104 ∨ c = 105 ∨ c = 106 ∨ c = 107 ∨ c = 108 ∨ c = 109 ∨ c = 110 ∨ c = 111 ∨ c = 112 ∨ c = 113 ∨ c = 114 ∨ c = 115 ∨ c = 116 ∨ c = 117 ∨ c = 118 ∨ c = 119 ∨ c = 120 ∨ c = 121 ∨ c = 122 := by omega
    simpa using this
  · have e : (decide (97 ≤ c) && decide (c ≤ 122)) = false := by
      by_cases a : 97 ≤ c
      · rw [decide_eq_true a, decide_eq_false (fun b => h ⟨a, b⟩), Bool.and_false]
      · rw [decide_eq_false a, Bool.false_and]
    rw [e]
    refine decide_eq_false fun m => h ?_
    simp at m
    omega
/-- a word looked at -/
theorem z0 (k : Nat) (w : Mi.W) (n : Nat) (hw : Thg n w) (τ : Sto) : ∃ τ', evF T F (k + 1) 0 [w] τ = .ok (.bl (nameW w)) τ' ∧ τ <+: τ' := by
  cases w with
  | int i => exact ⟨τ, by simp [u0, b0, nameW], List.prefix_refl _⟩
  | tup xs => exact ⟨τ, by simp [u0, b0, nameW], List.prefix_refl _⟩
  | str s =>
    have hs := Thg.str hw
    obtain ⟨b, hb⟩ : ∃ b : List Nat, s = SX.S b := ⟨s.cps.toList, (SX.S_tl s).symm⟩
    subst hb
    have hb128 : ∀ c ∈ b, c < 128 := hs.1
    have hbl : b.length ≤ 10000 := by have := hs.2; rwa [SX.S_len] at this
    have hfil : ∀ b : List Nat, (b.map fun c => W.str ⟨#[c]⟩).filter (fun w => match w with
        | .str x => !(isIn x (SX.S [97, 98, 99, 100, 101, 102, 103, 104, 105, 106, 107, 108, 109, 110, 111, 112, 113, 114, 115, 116, 117, 118, 119, 120, 121, 122]))
        | _ => false) = (b.filter fun c => !abc c).map fun c => W.str ⟨#[c]⟩ := by
      intro b
      induction b with
      | nil => rfl
      | cons c r ih =>
        have e : isIn (⟨#[c]⟩ : Str) (SX.S [97, 98, 99, 100, 101, 102, 103, 104, 105, 106, 107, 108, 109, 110, 111, 112, 113, 114, 115, 116, 117, 118, 119, 120, 121, 122]) = abc c := (isIn_one c _).trans (abc_mem c)
        rw [List.map_cons]
        cases hd : abc c with
        | true =>
          rw [List.filter_cons_of_neg (by show ¬ (!(isIn (⟨#[c]⟩ : Str) (SX.S [97, 98, 99, 100, 101, 102, 103, 104, 105, 106, 107, 108, 109, 110, 111, 112, 113, 114, 115, 116, 117, 118, 119, 120, 121, 122]))) = true; rw [e, hd]; simp), List.filter_cons_of_neg (by rw [hd]; simp)]
          exact ih
        | false =>
          rw [List.filter_cons_of_pos (by show (!(isIn (⟨#[c]⟩ : Str) (SX.S [97, 98, 99, 100, 101, 102, 103, 104, 105, 106, 107, 108, 109, 110, 111, 112, 113, 114, 115, 116, 117, 118, 119, 120, 121, 122]))) = true; rw [e, hd]; rfl), List.filter_cons_of_pos (by rw [hd]; simp), List.map_cons, ih]
    have e1 := lcL_fil (g := .name 2) (ρ := [some (W.str (SX.S b)), none, none]) (test := (ev T (evF T F k) (.cmp .NotIn (.var 2) (.con (.str (SX.S [97, 98, 99, 100, 101, 102, 103, 104, 105, 106, 107, 108, 109, 110, 111, 112, 113, 114, 115, 116, 117, 118, 119, 120, 121, 122]))))).t) (elt := (ev T (evF T F k) (.var 2)).e) (D := τ.length) (fun w => match w with
        | .str x => !(isIn x (SX.S [97, 98, 99, 100, 101, 102, 103, 104, 105, 106, 107, 108, 109, 110, 111, 112, 113, 114, 115, 116, 117, 118, 119, 120, 121, 122]))
        | _ => false) (b.map fun c => W.str ⟨#[c]⟩) (fun x hx => by
          obtain ⟨c, _, rfl⟩ := List.mem_map.mp hx
          exact ⟨_, rfl, fun τ => ⟨by simp, by simp⟩⟩) [] (τ ++ [.lst []]) (at_end _ _) (by
            rw [List.length_map]
            exact Nat.le_trans (show 0 + b.length ≤ 10000 by omega) (by decide))
    rw [hfil, List.nil_append] at e1
    have e2 : (τ ++ [AO.lst []]).set τ.length (.lst ((b.filter fun c => !abc c).map fun c => W.str ⟨#[c]⟩)) = τ ++ [.lst ((b.filter fun c => !abc c).map fun c => W.str ⟨#[c]⟩)] := by
      rw [List.set_append_right _ _ (Nat.le_refl _), Nat.sub_self]
      rfl
    rw [e2] at e1
    have e3 := eq_none (τ := τ ++ [AO.lst ((b.filter fun c => !abc c).map fun c => W.str ⟨#[c]⟩), .lst []]) (n := τ.length) (m := τ.length + 1) (cs := b.filter fun c => !abc c) (at_off0 _ _) (fun c hc => hb128 c (List.mem_filter.mp hc).1) (at_off _ _ 1)
    have e4 : (b.filter fun c => !abc c).isEmpty = b.all abc := by
      rw [Bool.eq_iff_iff, List.isEmpty_iff, List.filter_eq_nil_iff, List.all_eq_true]
      refine ⟨fun h c hc => ?_, fun h c hc => ?_⟩
      · have := h c hc
        simpa using this
      · rw [h c hc]
        simp
    rw [e4] at e3
    have hlen : ((SX.S b).length : Int) = (b.length : Int) := by rw [SX.S_len]
    have hlen2 : (SX.S b).length ≤ sizeLine := hs.len
    have hin : inF (.str (SX.S b)) [.str ("yes" : Str), .str ("no" : Str)] = ((SX.S b == ("yes" : Str)) || (SX.S b == ("no" : Str))) := by
      show ((("yes" : Str) == SX.S b) || ((("no" : Str) == SX.S b) || false)) = _
      rw [Bool.or_false, BEq.comm (a := ("yes" : Str)), BEq.comm (a := ("no" : Str))]
    have hnm : nameW (.str (SX.S b)) = (!(SX.S b == ("yes" : Str)) && !(SX.S b == ("no" : Str)) && decide (1 ≤ b.length) && decide (b.length ≤ 8) && b.all abc) := by
      show isName (SX.S b) = _
      unfold isName
      rw [SX.S_len]
    have d1 : decide ((1 : Int) ≤ (b.length : Int)) = decide (1 ≤ b.length) := by
      by_cases q : 1 ≤ b.length
      · rw [decide_eq_true q]; exact decide_eq_true (by omega)
      · rw [decide_eq_false q]; exact decide_eq_false (by omega)
    have d2 : decide ((b.length : Int) ≤ 8) = decide (b.length ≤ 8) := by
      by_cases q : b.length ≤ 8
      · rw [decide_eq_true q]; exact decide_eq_true (by omega)
      · rw [decide_eq_false q]; exact decide_eq_false (by omega)
    rw [hnm, u0, b0, ABC]
    generalize (b.filter fun c => !abc c).map (fun c => W.str ⟨#[c]⟩) = ys at *
    generalize (SX.S b == ("yes" : Str)) = p1 at *
    generalize (SX.S b == ("no" : Str)) = p2 at *
    generalize b.all abc = p3 at *
    generalize decide (1 ≤ b.length) = p4 at *
    generalize decide (b.length ≤ 8) = p5 at *
    generalize (b.length : Int) = bl at *
    cases p1 with
    | true => exact ⟨τ, by simp [in_tup, hin], List.prefix_refl _⟩
    | false =>
      cases p2 with
      | true => exact ⟨τ, by simp [in_tup, hin], List.prefix_refl _⟩
      | false =>
        cases p4 with
        | false =>
          refine ⟨τ ++ [.lst ys], ?_, List.prefix_append _ _⟩
          simp [in_tup, hin, wipeS, newL]
          rw [e1]
          simp [hlen2, hlen, d1]
        | true =>
          cases p5 with
          | false =>
            refine ⟨τ ++ [.lst ys], ?_, List.prefix_append _ _⟩
            simp [in_tup, hin, wipeS, newL]
            rw [e1]
            simp [hlen2, hlen, d1, d2]
          | true =>
            refine ⟨τ ++ [.lst ys, .lst []], ?_, List.prefix_append _ _⟩
            simp [in_tup, hin, wipeS, newL]
            rw [e1]
            simp [hlen2, hlen, d1, d2, newL, eqA_ref, e3]
  | _ => cases n <;> exact hw.elim
theorem z1 (k : Nat) (w : Mi.W) (n : Nat) (hw : Thg n w) (τ : Sto) : evF T F (k + 1) 1 [w] τ = .ok (.bl (numW w)) τ := by
  cases w with
  | int i =>
    rw [u1, b1]
    unfold numW
    by_cases h1 : -32768 ≤ i
    · by_cases h2 : i ≤ 32767
      · simp [h1, h2]
      · simp [h1, h2]
    · simp [h1]
  | tup xs => simp [u1, b1, numW]
  | str s => simp [u1, b1, numW]
  | _ => cases n <;> exact hw.elim
theorem z2t (k : Nat) (τ : Sto) : evF T F (k + 1) 2 [.bl true] τ = .ok .non τ := by simp [u2, b2]
theorem z2f (k : Nat) (τ : Sto) : evF T F (k + 1) 2 [.bl false] τ = .exn ⟨2, []⟩ [some (.bl false)] τ := by simp [u2, b2]
/-- want(e), as a statement -/
def wantR (ρ : Sl) (w : Mi.W) (τ : Sto) : R Fl := match w with
  | .bl true => .ok (.nx ρ) τ
  | .bl false => .exn ⟨2, []⟩ ρ τ
  | _ => .no
@[simp] theorem wantR_t (ρ : Sl) (τ : Sto) : wantR ρ (.bl true) τ = .ok (.nx ρ) τ := rfl
@[simp] theorem wantR_f (ρ : Sl) (τ : Sto) : wantR ρ (.bl false) τ = .exn ⟨2, []⟩ ρ τ := rfl
theorem want_eq (k : Nat) (e : Mi.E) (ρ : Sl) (τ : Sto) {b : Bool} {τ1 : Sto} (h : (ev T (evF T F (k + 1)) e).e ρ τ = .ok (.bl b) τ1) : evS T (evF T F (k + 1)) (.ex (.call 2 (.cons e .nil))) ρ τ = wantR ρ (.bl b) τ1 := by
  rw [evS_ex, ev_call, ev_cons_a, h]
  cases b with
  | true => simp [z2t]
  | false => simp [z2f]
/-! look_at_tree: the kinds of values, as they are told -/
def kG {α : Type} (l : List (L2.Key × α)) (k : Str) : Option α := (l.find? fun kv => decide (kv.1 = .inr k)).map (·.2)
theorem kG_get (l : List (L2.Key × Mi.W)) (k : Str) : kvGet l (.inr k) = kG l k := rfl
theorem kG_map {α β : Type} (f : α → β) (l : List (L2.Key × α)) (k : Str) : kG (l.map fun p => (p.1, f p.2)) k = (kG l k).map f := by
  unfold kG
  induction l with
  | nil => rfl
  | cons p r ih =>
    rw [List.map_cons, List.find?_cons, List.find?_cons]
    by_cases h : p.1 = .inr k
    · simp [h]
    · simp only [decide_eq_false h]
      exact ih
structure KE where
  recs : List (L2.Key × Mi.W)
  fn : List (L2.Key × (List Str × Str))
  seen : List (L2.Key × Str)
def wantK (ko : Mi.W → Option Str) : List Mi.W → List Str → Bool
  | [], [] => true
  | x :: r, k :: s => decide (ko x = some k) && wantK ko r s
  | _, _ => false
def sumK (h : Str) : Option (List Str × Str) :=
  if h = "+" ∨ h = "-" ∨ h = "*" ∨ h = "/" ∨ h = "rest" then some (["number", "number"], "number")
  else if h = "<" then some (["number", "number"], "truth")
  else if h = "and" ∨ h = "or" then some (["truth", "truth"], "truth")
  else if h = "not" then some (["truth"], "truth")
  else if h = "list" then some (["number"], "list")
  else if h = "long" then some (["list"], "number")
  else if h = "at" then some (["list", "number"], "number")
  else none
def fieldK (ko : Mi.W → Option Str) (E : KE) (x fld : Mi.W) : Bool := match ko x with
  | some k => match kG E.recs k, fld with
    | some (.tup fs), .str fl => inF (.str fl) fs
    | _, _ => false
  | none => false
def deedK (ko : Mi.W → Option Str) (E : KE) (h : Str) (xs : List Mi.W) : Option Str :=
  if h = "call" then match xs with
    | _ :: .str f :: args => match kG E.fn f with
      | some p => if wantK ko args p.1 = true then some p.2 else none
      | none => none
    | _ => none
  else if h = "new" then match xs with
    | [_, .str r] => if (kG E.recs r).isSome = true then some r else none
    | _ => none
  else if h = "get" then match xs with
    | [_, x, fld] => if fieldK ko E x fld = true then some "number" else none
    | _ => none
  else if h = "=" then match xs with
    | [_, x, y] => match ko x with
      | some k => if (k = "number" ∨ k = "truth") ∧ ko y = some k then some "truth" else none
      | none => none
    | _ => none
  else match sumK h with
    | some p => if wantK ko xs.tail p.1 = true then some p.2 else none
    | none => none
def kindK (E : KE) : Nat → Mi.W → Option Str
  | _, .int i => if -32768 ≤ i ∧ i ≤ 32767 then some "number" else none
  | _, .str s => if s = "yes" ∨ s = "no" then some "truth" else kG E.seen s
  | n + 1, .tup xs => match xs with
    | .str h :: r => deedK (kindK E n) E h (.str h :: r)
    | _ => none
  | _, _ => none
/-! the looker in the store -/
def klO (r f : Nat) (g : Mi.W) (l e : Nat) : AO := .ins 0 [("records", .ref r), ("functions", .ref f), ("given", g), ("lets", .ref l), ("seen", .ref e)]
section
variable (r f l e m : Nat) (g : Mi.W) (σ : Sto)
@[simp] theorem k_rec : fldL T (some (klO r f g l e)) "records" = some (.ref r) := by rw [klO, fldL_ins, ta0_3, if_pos rfl]; rfl
@[simp] theorem k_fun : fldL T (some (klO r f g l e)) "functions" = some (.ref f) := by rw [klO, fldL_ins, ta0_0, if_pos rfl]; rfl
@[simp] theorem k_given : fldL T (some (klO r f g l e)) "given" = some g := by rw [klO, fldL_ins, ta0_1, if_pos rfl]; rfl
@[simp] theorem k_lets : fldL T (some (klO r f g l e)) "lets" = some (.ref l) := by rw [klO, fldL_ins, ta0_2, if_pos rfl]; rfl
@[simp] theorem k_seen : fldL T (some (klO r f g l e)) "seen" = some (.ref e) := by rw [klO, fldL_ins, ta0_4, if_pos rfl]; rfl
@[simp] theorem kf (x : Str) : fieldOf T σ (.ref m) x = fldL T σ[m]? x := fld_ref T σ m x
@[simp] theorem ks (x : Str) (w : Mi.W) : setField T σ (.ref m) x w = setFL T σ m σ[m]? x w := setF_ref T σ m x w
@[simp] theorem ks_given (w : Mi.W) : setFL T σ m (some (klO r f g l e)) "given" w = some (σ.set m (klO r f w l e)) := by
  rw [klO, setFL_ins, ta0_1, if_pos ⟨rfl, (by decide : 5 < 1000)⟩]; rfl
@[simp] theorem ks_lets (x : Nat) : setFL T σ m (some (klO r f g l e)) "lets" (.ref x) = some (σ.set m (klO r f g x e)) := by
  rw [klO, setFL_ins, ta0_2, if_pos ⟨rfl, (by decide : 5 < 1000)⟩]; rfl
@[simp] theorem ks_seen (x : Nat) : setFL T σ m (some (klO r f g l e)) "seen" (.ref x) = some (σ.set m (klO r f g l x)) := by
  rw [klO, setFL_ins, ta0_4, if_pos ⟨rfl, (by decide : 5 < 1000)⟩]; rfl
theorem m_ofK {m : Str} {k : Nat} (h : T.meth 0 m = some k) (hl : ∀ (r f l e : Nat) (g : Mi.W), List.lookup m [("records", W.ref r), ("functions", W.ref f), ("given", g), ("lets", W.ref l), ("seen", W.ref e)] = none) (r f l e : Nat) (g : Mi.W) (q : Nat → R Mi.W) : methL T m (some (klO r f g l e)) q = q k := by
  unfold methL klO
  simp only [h, hl]
variable (q : Nat → R Mi.W)
@[simp] theorem m_is_kind : methL T "is_kind" (some (klO r f g l e)) q = q 6 := m_ofK tm6 (fun _ _ _ _ _ => rfl) r f l e g q
@[simp] theorem m_begin : methL T "begin" (some (klO r f g l e)) q = q 7 := m_ofK tm7 (fun _ _ _ _ _ => rfl) r f l e g q
@[simp] theorem m_kind_of : methL T "kind_of" (some (klO r f g l e)) q = q 8 := m_ofK tm8 (fun _ _ _ _ _ => rfl) r f l e g q
@[simp] theorem m_want_kinds : methL T "want_kinds" (some (klO r f g l e)) q = q 9 := m_ofK tm9 (fun _ _ _ _ _ => rfl) r f l e g q
@[simp] theorem m_kind_of_deed : methL T "kind_of_deed" (some (klO r f g l e)) q = q 10 := m_ofK tm10 (fun _ _ _ _ _ => rfl) r f l e g q
@[simp] theorem m_want_field : methL T "want_field" (some (klO r f g l e)) q = q 11 := m_ofK tm11 (fun _ _ _ _ _ => rfl) r f l e g q
@[simp] theorem m_part : methL T "look_at_part" (some (klO r f g l e)) q = q 12 := m_ofK tm12 (fun _ _ _ _ _ => rfl) r f l e g q
@[simp] theorem m_stmt : methL T "look_at_statement" (some (klO r f g l e)) q = q 13 := m_ofK tm13 (fun _ _ _ _ _ => rfl) r f l e g q
@[simp] theorem m_var : methL T "look_at_variable" (some (klO r f g l e)) q = q 14 := m_ofK tm14 (fun _ _ _ _ _ => rfl) r f l e g q
@[simp] theorem m_deed : methL T "look_at_deed" (some (klO r f g l e)) q = q 15 := m_ofK tm15 (fun _ _ _ _ _ => rfl) r f l e g q
end
/-- the looker's state, as kinds are asked -/
structure Kl (s r f l e : Nat) (g : Mi.W) (E : KE) (τ : Sto) : Prop where
  s : τ[s]? = some (klO r f g l e)
  r : τ[r]? = some (.dic E.recs)
  f : ∃ fk, τ[f]? = some (.dic fk) ∧ ∀ x, match kG E.fn x with
    | some p => ∃ k, kG fk x = some (.tup [.ref k, .str p.2]) ∧ τ[k]? = some (.lst (p.1.map W.str))
    | none => kG fk x = none
  e : τ[e]? = some (.dic (E.seen.map fun p => (p.1, W.str p.2)))
  ra : ∀ k w, kG E.recs k = some w → ∃ fs, w = .tup fs ∧ fs.all flat = true
theorem Kl.pre {s r f l e : Nat} {g : Mi.W} {E : KE} {τ τ' : Sto} (h : Kl s r f l e g E τ) (p : τ <+: τ') : Kl s r f l e g E τ' := by
  obtain ⟨fk, h1, h2⟩ := h.f
  refine ⟨pre_get p h.s, pre_get p h.r, ⟨fk, pre_get p h1, fun x => ?_⟩, pre_get p h.e, h.ra⟩
  have := h2 x
  split at this
  · rename_i q e
    obtain ⟨k, a, b⟩ := this
    exact ⟨k, a, pre_get p b⟩
  · exact this
/-- told or refused -/
def Rz {α : Type} (B : Sto) (o : Option α) (r : R Mi.W) (P : α → Mi.W → Sto → Prop) : Prop := match o with
  | none => ∃ ρ τ', r = .exn ⟨2, []⟩ ρ τ' ∧ B <+: τ'
  | some a => ∃ w τ', r = .ok w τ' ∧ P a w τ'
/-! kinds asked -/
theorem ok_lit {s : Str} (h : (s.cps.toList.all fun c => decide (c < 128)) = true) : PyData.strOk s = true := by
  show s.cps.all (· < 0x110000) = true
  rw [← Array.all_toList]
  refine List.all_eq_true.mpr fun c hc => ?_
  have := of_decide_eq_true (List.all_eq_true.mp h c hc)
  exact decide_eq_true (by omega)
theorem ok_number : PyData.strOk ("number" : Str) = true := by decide +kernel
theorem ok_truth : PyData.strOk ("truth" : Str) = true := by decide +kernel
theorem ok_list : PyData.strOk ("list" : Str) = true := by decide +kernel
structure KEok (E : KE) : Prop where
  seen : ∀ x k, kG E.seen x = some k → PyData.strOk k = true
  fn : ∀ x p, kG E.fn x = some p → (∀ k ∈ p.1, PyData.strOk k = true) ∧ PyData.strOk p.2 = true
theorem sumK_ok {h : Str} {p : List Str × Str} (e : sumK h = some p) : (∀ k ∈ p.1, PyData.strOk k = true) ∧ PyData.strOk p.2 = true := by
  unfold sumK at e
  repeat' (split at e; first | (cases e; exact ⟨by simp [ok_number, ok_truth, ok_list], by first | exact ok_number | exact ok_truth | exact ok_list⟩) | skip)
  cases e
theorem kind_ok {E : KE} (hE : KEok E) : ∀ (n : Nat) (w : Mi.W) (k : Str), Thg n w → kindK E n w = some k → PyData.strOk k = true
  | n, .int i, k, _, e => by
    have e' : (if -32768 ≤ i ∧ i ≤ 32767 then some ("number" : Str) else none) = some k := by cases n <;> exact e
    split at e'
    · cases e'; exact ok_number
    · cases e'
  | n, .str s, k, _, e => by
    have e' : (if s = "yes" ∨ s = "no" then some ("truth" : Str) else kG E.seen s) = some k := by cases n <;> exact e
    split at e'
    · cases e'; exact ok_truth
    · exact hE.seen s k e'
  | 0, .tup xs, k, h, _ => h.elim
  | n + 1, .tup [], k, h, e => by cases e
  | n + 1, .tup (.int _ :: _), k, h, e => by cases e
  | n + 1, .tup (.tup _ :: _), k, h, e => by cases e
  | n + 1, .tup (.non :: _), k, h, e => by cases e
  | n + 1, .tup (.bl _ :: _), k, h, e => by cases e
  | n + 1, .tup (.ref _ :: _), k, h, e => by cases e
  | n + 1, .tup (.str hd :: r), k, h, e => by
      have e' : deedK (kindK E n) E hd (.str hd :: r) = some k := e
      unfold deedK at e'
      split at e'
      · split at e'
        · rename_i f args heq
          split at e'
          · rename_i p hp
            split at e'
            · cases e'; exact (hE.fn _ _ hp).2
            · cases e'
          · cases e'
        · cases e'
      · split at e'
        · split at e'
          · rename_i rr heq
            split at e'
            · cases e'
              have hx := h.2 (.str k) (by rw [heq]; simp)
              exact (Thg.str hx).ok
            · cases e'
          · cases e'
        · split at e'
          · split at e'
            · split at e'
              · cases e'; exact ok_number
              · cases e'
            · cases e'
          · split at e'
            · split at e'
              · split at e'
                · split at e'
                  · cases e'; exact ok_truth
                  · cases e'
                · cases e'
              · cases e'
            · split at e'
              · rename_i p hp
                split at e'
                · cases e'; exact (sumK_ok hp).2
                · cases e'
              · cases e'
  | n, .non, _, h, _ => by cases n <;> exact h.elim
  | n, .bl _, _, h, _ => by cases n <;> exact h.elim
  | n, .ref _, _, h, _ => by cases n <;> exact h.elim
def ZK (x : Option Str) (τ : Sto) (r : R Mi.W) : Prop := match x with
  | none => ∃ ρ τ', r = .exn ⟨2, []⟩ ρ τ' ∧ τ <+: τ'
  | some k => ∃ τ', r = .ok (.str k) τ' ∧ τ <+: τ'
def ZB (b : Bool) (τ : Sto) (r : R Mi.W) : Prop := match b with
  | false => ∃ ρ τ', r = .exn ⟨2, []⟩ ρ τ' ∧ τ <+: τ'
  | true => ∃ τ', r = .ok .non τ' ∧ τ <+: τ'
section
variable {s r f l e : Nat} {g : Mi.W} {E : KE} {m : Nat} {ko : Mi.W → Option Str}
theorem wk_loop (kl : Nat) (kL : List Mi.W) (x0 x1 x2 : Option Mi.W) (hx0 : x0 = some (.ref s)) : ∀ (xs : List Mi.W) (ks : List Str), (∀ k ∈ ks, PyData.strOk k = true) → xs.length = ks.length → (∀ x ∈ xs, (∀ k, ko x = some k → PyData.strOk k = true) ∧ ∀ τ, Kl s r f l e g E τ → ZK (ko x) τ (evF T F (m + 1) 8 [.ref s, x] τ)) → ∀ (x3 x4 : Option Mi.W) (τ : Sto), Kl s r f l e g E τ → τ[kl]? = some (.lst kL) →
    match wantK ko xs ks with
    | true => ∃ y3 y4 τ', forL (.tup [3, 4]) [(kl, kL)] (evS T (evF T F (m + 1)) l9_1) ((xs.zip (ks.map W.str)).map fun p => .tup [p.1, p.2]) [x0, x1, x2, x3, x4] τ = .ok (.nx [x0, x1, x2, y3, y4]) τ' ∧ τ <+: τ'
    | false => ∃ ρ τ', forL (.tup [3, 4]) [(kl, kL)] (evS T (evF T F (m + 1)) l9_1) ((xs.zip (ks.map W.str)).map fun p => .tup [p.1, p.2]) [x0, x1, x2, x3, x4] τ = .exn ⟨2, []⟩ ρ τ' ∧ τ <+: τ' := by
  subst hx0
  intro xs
  induction xs with
  | nil =>
    intro ks hk hl _ x3 x4 τ h hkl
    cases ks with
    | nil => exact ⟨x3, x4, τ, forL_nil (fun q hq => by cases List.mem_singleton.mp hq; exact seq_lst hkl), List.prefix_refl _⟩
    | cons _ _ => cases hl
  | cons x t ih =>
    intro ks hk hl hx x3 x4 τ h hkl
    cases ks with
    | nil => cases hl
    | cons k ks =>
      obtain ⟨hok, hrun⟩ := hx x List.mem_cons_self
      have hz := hrun τ h
      have gs : It.ok [(kl, kL)] τ := fun q hq => by cases List.mem_singleton.mp hq; exact seq_lst hkl
      have hf : forL (.tup [3, 4]) [(kl, kL)] (evS T (evF T F (m + 1)) l9_1) (((x :: t).zip ((k :: ks).map W.str)).map fun p => .tup [p.1, p.2]) [some (.ref s), x1, x2, x3, x4] τ = loopR (evS T (evF T F (m + 1)) l9_1 [some (.ref s), x1, x2, some x, some (.str k)] τ) (forL (.tup [3, 4]) [(kl, kL)] (evS T (evF T F (m + 1)) l9_1) ((t.zip (ks.map W.str)).map fun p => .tup [p.1, p.2])) := by
        rw [List.map_cons, List.zip_cons_cons, List.map_cons]
        exact forL_cons gs rfl
      rw [hf]
      have hwk : wantK ko (x :: t) (k :: ks) = (decide (ko x = some k) && wantK ko t ks) := rfl
      rw [hwk]
      cases hko : ko x with
      | none =>
        rw [hko] at hz
        obtain ⟨ρ, τ', e1, p1⟩ := hz
        refine ⟨[some (.ref s), x1, x2, some x, some (.str k)], τ', ?_, p1⟩
        have hb : evS T (evF T F (m + 1)) l9_1 [some (.ref s), x1, x2, some x, some (.str k)] τ = .exn ⟨2, []⟩ [some (.ref s), x1, x2, some x, some (.str k)] τ' := by
          unfold l9_1
          simp [h.s, e1]
        rw [hb]
        rfl
      | some kd =>
        rw [hko] at hz
        obtain ⟨τ', e1, p1⟩ := hz
        have hkd := hok kd hko
        have heq : ∀ t : Sto, eqW t (.str kd) (.str k) = some (kd == k) := fun t => eq_strs hkd (hk k List.mem_cons_self)
        have hdec : decide (some kd = some k) = (kd == k) := by
          by_cases q : kd = k
          · subst q; simp
          · have q1 : (kd == k) = false := beq_eq_false_iff_ne.mpr q
            rw [q1]; exact decide_eq_false fun z => q (Option.some.inj z)
        have hb : evS T (evF T F (m + 1)) l9_1 [some (.ref s), x1, x2, some x, some (.str k)] τ = seqR (wantR [some (.ref s), x1, x2, some x, some (.str k)] (.bl (kd == k)) τ') (evS T (evF T F (m + 1)) .nil) := by
          unfold l9_1
          rw [evS_cons, want_eq m _ _ _ (b := (kd == k)) (τ1 := τ')]
          simp [h.s, e1, heq]
        rw [hb, hdec]
        cases hq : (kd == k) with
        | false =>
          exact ⟨[some (.ref s), x1, x2, some x, some (.str k)], τ', rfl, p1⟩
        | true =>
          have ih' := ih ks (fun z hz => hk z (List.mem_cons_of_mem _ hz)) (by simpa using hl) (fun z hz => hx z (List.mem_cons_of_mem _ hz)) (some x) (some (.str k)) τ' (h.pre p1) (pre_get p1 hkl)
          rw [wantR_t, seqR_nx, evS_nil, loopR_nx]
          cases hw : wantK ko t ks with
          | true =>
            rw [hw] at ih'
            obtain ⟨y3, y4, τ2, e2, p2⟩ := ih'
            exact ⟨y3, y4, τ2, e2, p1.trans p2⟩
          | false =>
            rw [hw] at ih'
            obtain ⟨ρ, τ2, e2, p2⟩ := ih'
            exact ⟨ρ, τ2, e2, p1.trans p2⟩
theorem wantK_len : ∀ {xs : List Mi.W} {ks : List Str}, wantK ko xs ks = true → xs.length = ks.length
  | [], [], _ => rfl
  | x :: r, k :: s, h => by
    have h' : (decide (ko x = some k) && wantK ko r s) = true := h
    rw [Bool.and_eq_true] at h'
    rw [List.length_cons, List.length_cons, wantK_len h'.2]
  | [], _ :: _, h => by cases h
  | _ :: _, [], h => by cases h
/-- want_kinds -/
theorem z9 (xs : List Mi.W) (ks : List Str) (hk : ∀ k ∈ ks, PyData.strOk k = true) (kl : Nat) (hx : ∀ x ∈ xs, (∀ k, ko x = some k → PyData.strOk k = true) ∧ ∀ τ, Kl s r f l e g E τ → ZK (ko x) τ (evF T F (m + 1) 8 [.ref s, x] τ)) (τ : Sto) (h : Kl s r f l e g E τ) (hkl : τ[kl]? = some (.lst (ks.map W.str))) :
    ZB (wantK ko xs ks) τ (evF T F (m + 2) 9 [.ref s, .tup xs, .ref kl] τ) := by
  have hlen : builtin .len [.ref kl] τ = .ok (.int (ks.length : Int)) τ := by rw [len_lst hkl, List.length_map]
  have hcond : (ev T (evF T F (m + 1)) (.cmp .Eq (.bi .len (.cons (.var 1) .nil)) (.bi .len (.cons (.var 2) .nil)))).e [some (.ref s), some (.tup xs), some (.ref kl), none, none] τ = .ok (.bl ((xs.length : Int) == (ks.length : Int))) τ := by
    generalize hkn : (ks.length : Int) = kn at *
    simp [hlen]
  have hit : (ev T (evF T F (m + 1)) (.zip (.cons (.var 1) (.cons (.var 2) .nil)))).i [some (.ref s), some (.tup xs), some (.ref kl), none, none] τ = .ok ⟨[(kl, ks.map W.str)], (xs.zip (ks.map W.str)).map fun p => .tup [p.1, p.2]⟩ τ := by
    simp [zipI_eq2, srcW_ref, hkl]
  have hw0 := want_eq m _ _ _ hcond
  by_cases hl : xs.length = ks.length
  · have lp := wk_loop (m := m) (ko := ko) kl (ks.map W.str) (some (.ref s)) (some (.tup xs)) (some (.ref kl)) rfl xs ks hk hl hx none none τ h hkl
    have hlI : ((xs.length : Int) == (ks.length : Int)) = true := by rw [hl]; exact beq_self_eq_true _
    rw [hlI, wantR_t] at hw0
    rw [u9, b9, evS_cons, hw0, seqR_nx, evS_cons, evS_loop, hit, R.bind_ok]
    unfold ZB
    cases hw : wantK ko xs ks with
    | true =>
      rw [hw] at lp
      obtain ⟨y3, y4, τ', e1, p1⟩ := lp
      exact ⟨τ', by rw [e1]; rfl, p1⟩
    | false =>
      rw [hw] at lp
      obtain ⟨ρ, τ', e1, p1⟩ := lp
      exact ⟨ρ, τ', by rw [e1]; rfl, p1⟩
  · have hw : wantK ko xs ks = false := by
      cases q : wantK ko xs ks with
      | false => rfl
      | true => exact absurd (wantK_len q) hl
    have hlI : ((xs.length : Int) == (ks.length : Int)) = false := by
      refine beq_eq_false_iff_ne.mpr fun z => hl ?_
      exact Int.ofNat.inj z
    rw [hlI, wantR_f] at hw0
    rw [hw, u9, b9, evS_cons, hw0]
    exact ⟨[some (.ref s), some (.tup xs), some (.ref kl), none, none], τ, rfl, List.prefix_refl _⟩
/-- want_field -/
theorem z11 (x fld : Mi.W) (n : Nat) (hf : Thg n fld) (hx : (∀ k, ko x = some k → PyData.strOk k = true) ∧ ∀ τ, Kl s r f l e g E τ → ZK (ko x) τ (evF T F (m + 1) 8 [.ref s, x] τ)) (τ : Sto) (h : Kl s r f l e g E τ) :
    ZB (fieldK ko E x fld) τ (evF T F (m + 2) 11 [.ref s, x, fld] τ) := by
  have hz := hx.2 τ h
  unfold fieldK
  rw [u11, b11]
  cases hko : ko x with
  | none =>
    rw [hko] at hz
    obtain ⟨ρ, τ', e1, p1⟩ := hz
    refine ⟨[some (.ref s), some x, some fld, none], τ', ?_, p1⟩
    simp [h.s, e1]
  | some kd =>
    rw [hko] at hz
    obtain ⟨τ', e1, p1⟩ := hz
    have h' := h.pre p1
    have hw0 : ∀ b, (ev T (evF T F (m + 1)) (.conj (.cons (.cmp .In (.var 3) (.fld (.var 0) ("records" : Str))) (.cons (.isi (.var 2) .str) (.cons (.cmp .In (.var 2) (.ix (.fld (.var 0) ("records" : Str)) (.var 3))) .nil))))).e [some (.ref s), some x, some fld, some (.str kd)] τ' = .ok (.bl b) τ' → Mi.finish (evS T (evF T F (m + 1)) (.cons (.set 3 (.meth ("kind_of" : Str) (.var 0) (.cons (.var 1) .nil))) (.cons (.ex (.call 2 (.cons (.conj (.cons (.cmp .In (.var 3) (.fld (.var 0) ("records" : Str))) (.cons (.isi (.var 2) .str) (.cons (.cmp .In (.var 2) (.ix (.fld (.var 0) ("records" : Str)) (.var 3))) .nil)))) .nil))) .nil)) [some (.ref s), some x, some fld, none] τ) = Mi.finish (seqR (wantR [some (.ref s), some x, some fld, some (.str kd)] (.bl b) τ') (evS T (evF T F (m + 1)) .nil)) := fun b hb => by
      have hset : evS T (evF T F (m + 1)) (.set 3 (.meth ("kind_of" : Str) (.var 0) (.cons (.var 1) .nil))) [some (.ref s), some x, some fld, none] τ = .ok (.nx [some (.ref s), some x, some fld, some (.str kd)]) τ' := by
        simp [h.s, e1]
      rw [evS_cons, hset, seqR_nx, evS_cons, want_eq m _ _ _ hb]
    have fin : ∀ b, Mi.finish (seqR (wantR [some (.ref s), some x, some fld, some (.str kd)] (.bl b) τ') (evS T (evF T F (m + 1)) .nil)) = Mi.finish (seqR (wantR [some (.ref s), some x, some fld, some (.str kd)] (.bl b) τ') (evS T (evF T F (m + 1)) .nil)) → ZB b τ (Mi.finish (seqR (wantR [some (.ref s), some x, some fld, some (.str kd)] (.bl b) τ') (evS T (evF T F (m + 1)) .nil))) := fun b _ => by
      cases b with
      | true => exact ⟨τ', rfl, p1⟩
      | false => exact ⟨[some (.ref s), some x, some fld, some (.str kd)], τ', rfl, p1⟩
    dsimp only
    have hr := h'.r
    have hget : kvGet E.recs (.inr kd) = kG E.recs kd := rfl
    cases hg : kG E.recs kd with
    | none =>
      rw [hw0 false (by simp [h'.s, hr, in_ref, keyOf, hget, hg])]
      exact fin false rfl
    | some w =>
      obtain ⟨fs, rfl, hfl⟩ := h.ra kd w hg
      cases fld with
      | str fl =>
        rw [hw0 (inF (.str fl) fs) (by simp [h'.s, hr, in_ref, keyOf, hget, hg, item_ref, in_tup, hfl])]
        exact fin _ rfl
      | int i =>
        rw [hw0 false (by simp [h'.s, hr, in_ref, keyOf, hget, hg, item_ref, in_tup, hfl])]
        exact fin false rfl
      | tup ys =>
        rw [hw0 false (by simp [h'.s, hr, in_ref, keyOf, hget, hg, item_ref, in_tup, hfl])]
        exact fin false rfl
      | _ => cases n <;> exact hf.elim
end
-- SPLIT 10 2 3 4 5
-- SPLIT 16 3 6
/-! sums' kinds, deeds' kinds -/
theorem eq_dec {τ : Sto} {a b : Str} (h1 : PyData.strOk a = true) (h2 : PyData.strOk b = true) : eqW τ (.str a) (.str b) = some (decide (a = b)) := by
  rw [eq_strs h1 h2]
  by_cases q : a = b
  · subst q; simp
  · rw [decide_eq_false q, beq_eq_false_iff_ne.mpr q]
theorem inF_dec (h : Str) : ∀ l : List Str, inF (.str h) (l.map W.str) = decide (h ∈ l)
  | [] => rfl
  | a :: r => by
    have ih := inF_dec h r
    show ((a == h) || inF (.str h) (r.map W.str)) = _
    rw [ih]
    by_cases q : h = a
    · subst q; simp
    · have q1 : (a == h) = false := beq_eq_false_iff_ne.mpr (Ne.symm q)
      rw [q1]
      simp [q]
theorem lt_ok : PyData.strOk ("<" : Str) = true := by decide +kernel
theorem z16 (k : Nat) (h : Str) (hh : PyData.strOk h = true) (τ : Sto) : match sumK h with
    | some p => ∃ kl τ', evF T F (k + 2) 16 [.str h] τ = .ok (.tup [.ref kl, .str p.2]) τ' ∧ τ <+: τ' ∧ τ'[kl]? = some (.lst (p.1.map W.str))
    | none => ∃ ρ τ', evF T F (k + 2) 16 [.str h] τ = .exn ⟨2, []⟩ ρ τ' ∧ τ <+: τ' := by
  have a1 : inF (.str h) [.str "+", .str "-", .str "*", .str "/", .str "rest"] = decide (h = "+" ∨ h = "-" ∨ h = "*" ∨ h = "/" ∨ h = "rest") := by
    refine (inF_dec h ["+", "-", "*", "/", "rest"]).trans ?_
    simp
  have a2 : ∀ t : Sto, eqW t (.str h) (.str "<") = some (decide (h = "<")) := fun t => eq_dec hh lt_ok
  have a3 : inF (.str h) [.str "and", .str "or"] = decide (h = "and" ∨ h = "or") := by
    refine (inF_dec h ["and", "or"]).trans ?_
    simp
  unfold sumK
  rw [u16, b16]
  by_cases c1 : h = "+" ∨ h = "-" ∨ h = "*" ∨ h = "/" ∨ h = "rest"
  · rw [if_pos c1]
    rw [decide_eq_true c1] at a1
    exact ⟨τ.length, τ ++ [.lst [.str "number", .str "number"]], by simp [in_tup, a1, newL], List.prefix_append _ _, at_end _ _⟩
  rw [if_neg c1]
  rw [decide_eq_false c1] at a1
  by_cases c2 : h = "<"
  · rw [if_pos c2]
    have a2' : ∀ t : Sto, eqW t (.str h) (.str "<") = some true := fun t => by rw [a2, decide_eq_true c2]
    exact ⟨τ.length, τ ++ [.lst [.str "number", .str "number"]], by simp [in_tup, a1, a2', newL], List.prefix_append _ _, at_end _ _⟩
  rw [if_neg c2]
  have a2' : ∀ t : Sto, eqW t (.str h) (.str "<") = some false := fun t => by rw [a2, decide_eq_false c2]
  by_cases c3 : h = "and" ∨ h = "or"
  · rw [if_pos c3]
    rw [decide_eq_true c3] at a3
    exact ⟨τ.length, τ ++ [.lst [.str "truth", .str "truth"]], by simp [in_tup, a1, a2', a3, newL], List.prefix_append _ _, at_end _ _⟩
  rw [if_neg c3]
  rw [decide_eq_false c3] at a3
  have d1 : mergeW [] (([.inr "not", .inr "list"] : List L2.Key).zip [.tup [.ref (τ.length + 1), .str "truth"], .tup [.ref (τ.length + 2), .str "list"]]) = [(.inr "not", .tup [.ref (τ.length + 1), .str "truth"]), (.inr "list", .tup [.ref (τ.length + 2), .str "list"])] := by rfl
  have d2 : kvPut [((.inr "not" : L2.Key), W.tup [.ref (τ.length + 1), .str "truth"]), (.inr "list", .tup [.ref (τ.length + 2), .str "list"])] (.inr "long") (.tup [.ref (τ.length + 3), .str "number"]) = [(.inr "not", .tup [.ref (τ.length + 1), .str "truth"]), (.inr "list", .tup [.ref (τ.length + 2), .str "list"]), (.inr "long", .tup [.ref (τ.length + 3), .str "number"])] := by rfl
  have d3 : kvPut [((.inr "not" : L2.Key), W.tup [.ref (τ.length + 1), .str "truth"]), (.inr "list", .tup [.ref (τ.length + 2), .str "list"]), (.inr "long", .tup [.ref (τ.length + 3), .str "number"])] (.inr "at") (.tup [.ref (τ.length + 4), .str "number"]) = [(.inr "not", .tup [.ref (τ.length + 1), .str "truth"]), (.inr "list", .tup [.ref (τ.length + 2), .str "list"]), (.inr "long", .tup [.ref (τ.length + 3), .str "number"]), (.inr "at", .tup [.ref (τ.length + 4), .str "number"])] := by rfl
  have fin : evS T (evF T F (k + 1)) b16_3 [some (.str h), none] τ = evS T (evF T F (k + 1)) b16_6 [some (.str h), some (.ref τ.length)] (τ ++ [.dic [(.inr "not", .tup [.ref (τ.length + 1), .str "truth"]), (.inr "list", .tup [.ref (τ.length + 2), .str "list"]), (.inr "long", .tup [.ref (τ.length + 3), .str "number"]), (.inr "at", .tup [.ref (τ.length + 4), .str "number"])], .lst [.str "truth"], .lst [.str "number"], .lst [.str "list"], .lst [.str "list", .str "number"]]) := by
    have hd : dispR τ.length [.inr "not", .inr "list"] [.tup [.ref (τ.length + 1), .str "truth"], .tup [.ref (τ.length + 2), .str "list"]] (τ ++ [.dic [], .lst [.str "truth"], .lst [.str "number"]]) = .ok (.ref τ.length) (τ ++ [.dic [(.inr "not", .tup [.ref (τ.length + 1), .str "truth"]), (.inr "list", .tup [.ref (τ.length + 2), .str "list"])], .lst [.str "truth"], .lst [.str "number"]]) := by
      rw [dispR_ok (at_off0 _ _) rfl, d1, List.set_append_right _ _ (Nat.le_refl _), Nat.sub_self]
      rfl
    have st : ∀ (t : Sto) (kvs : List (L2.Key × Mi.W)) (k : Str) (w : Mi.W), (τ ++ (AO.dic kvs :: t))[τ.length]? = some (.dic kvs) → kvs.length < sizeLine → setItem (τ ++ (AO.dic kvs :: t)) (.ref τ.length) (.str k) w = some (τ ++ (AO.dic (kvPut kvs (.inr k) w) :: t)) := fun t kvs k w h1 h2 => by
      rw [setDic h1 h2 _ _ rfl, List.set_append_right _ _ (Nat.le_refl _), Nat.sub_self]
      rfl
    have st1 : ∀ t, setItem (τ ++ (AO.dic [(.inr "not", .tup [.ref (τ.length + 1), .str "truth"]), (.inr "list", .tup [.ref (τ.length + 2), .str "list"])] :: t)) (.ref τ.length) (.str "long") (.tup [.ref (τ.length + 3), .str "number"]) = some (τ ++ (AO.dic [(.inr "not", .tup [.ref (τ.length + 1), .str "truth"]), (.inr "list", .tup [.ref (τ.length + 2), .str "list"]), (.inr "long", .tup [.ref (τ.length + 3), .str "number"])] :: t)) := fun t => by
      rw [st t _ _ _ (at_off0 _ _) (Nat.lt_of_lt_of_le (show 2 < 5 by decide) (by decide)), d2]
    have st2 : ∀ t, setItem (τ ++ (AO.dic [(.inr "not", .tup [.ref (τ.length + 1), .str "truth"]), (.inr "list", .tup [.ref (τ.length + 2), .str "list"]), (.inr "long", .tup [.ref (τ.length + 3), .str "number"])] :: t)) (.ref τ.length) (.str "at") (.tup [.ref (τ.length + 4), .str "number"]) = some (τ ++ (AO.dic [(.inr "not", .tup [.ref (τ.length + 1), .str "truth"]), (.inr "list", .tup [.ref (τ.length + 2), .str "list"]), (.inr "long", .tup [.ref (τ.length + 3), .str "number"]), (.inr "at", .tup [.ref (τ.length + 4), .str "number"])] :: t)) := fun t => by
      rw [st t _ _ _ (at_off0 _ _) (Nat.lt_of_lt_of_le (show 3 < 5 by decide) (by decide)), d3]
    clear d1 d2 d3 st
    unfold b16_3
    simp [ev_dicS, newL, hd, st1, st2, Nat.add_assoc]
  clear d1 d2 d3
  generalize hD : [((.inr "not" : L2.Key), W.tup [.ref (τ.length + 1), .str "truth"]), (.inr "list", .tup [.ref (τ.length + 2), .str "list"]), (.inr "long", .tup [.ref (τ.length + 3), .str "number"]), (.inr "at", .tup [.ref (τ.length + 4), .str "number"])] = kvs at *
  generalize hτ : τ ++ [AO.dic kvs, .lst [.str "truth"], .lst [.str "number"], .lst [.str "list"], .lst [.str "list", .str "number"]] = t2 at *
  have p2 : τ <+: t2 := by rw [← hτ]; exact List.prefix_append _ _
  have g2 : t2[τ.length]? = some (.dic kvs) := by rw [← hτ]; exact at_off0 _ _
  have g3 : t2[τ.length + 1]? = some (.lst [.str "truth"]) := by rw [← hτ]; exact at_off _ _ 1
  have g4 : t2[τ.length + 2]? = some (.lst [.str "number"]) := by rw [← hτ]; exact at_off _ _ 2
  have g5 : t2[τ.length + 3]? = some (.lst [.str "list"]) := by rw [← hτ]; exact at_off _ _ 3
  have g6 : t2[τ.length + 4]? = some (.lst [.str "list", .str "number"]) := by rw [← hτ]; exact at_off _ _ 4
  have a4 : evS T (evF T F (k + 1)) (.cons (.ife (.cmp .In (.var 0) (.tup (.cons (.con (.str ("+" : Str))) (.cons (.con (.str ("-" : Str))) (.cons (.con (.str ("*" : Str))) (.cons (.con (.str ("/" : Str))) (.cons (.con (.str ("rest" : Str))) .nil))))))) (.cons (.ret (.tup (.cons (.lst (.cons (.con (.str ("number" : Str))) (.cons (.con (.str ("number" : Str))) .nil))) (.cons (.con (.str ("number" : Str))) .nil)))) .nil) .nil)
  (.cons (.ife (.cmp .Eq (.var 0) (.con (.str ("<" : Str)))) (.cons (.ret (.tup (.cons (.lst (.cons (.con (.str ("number" : Str))) (.cons (.con (.str ("number" : Str))) .nil))) (.cons (.con (.str ("truth" : Str))) .nil)))) .nil) .nil)
  (.cons (.ife (.cmp .In (.var 0) (.tup (.cons (.con (.str ("and" : Str))) (.cons (.con (.str ("or" : Str))) .nil)))) (.cons (.ret (.tup (.cons (.lst (.cons (.con (.str ("truth" : Str))) (.cons (.con (.str ("truth" : Str))) .nil))) (.cons (.con (.str ("truth" : Str))) .nil)))) .nil) .nil)
  b16_3))) [some (.str h), none] τ = evS T (evF T F (k + 1)) b16_3 [some (.str h), none] τ := by
    simp [in_tup, a1, a2', a3]
  have hcond : (ev T (evF T F (k + 1)) (.cmp .In (.var 0) (.var 1))).e [some (.str h), some (.ref τ.length)] t2 = .ok (.bl (kvGet kvs (.inr h)).isSome) t2 := by
    simp [in_ref, g2, keyOf]
  have hw := want_eq k _ _ _ hcond
  rw [a4, fin]
  unfold b16_6
  rw [evS_cons, hw]
  have key : kvGet kvs (.inr h) = if h = "not" then some (.tup [.ref (τ.length + 1), .str "truth"]) else if h = "list" then some (.tup [.ref (τ.length + 2), .str "list"]) else if h = "long" then some (.tup [.ref (τ.length + 3), .str "number"]) else if h = "at" then some (.tup [.ref (τ.length + 4), .str "number"]) else none := by
    rw [← hD]
    simp only [kvGet_cons, Sum.inr.injEq]
    have e : ∀ a : Str, (a = h) = (h = a) := fun a => propext ⟨Eq.symm, Eq.symm⟩
    simp only [e]
    rfl
  have ret : ∀ w, kvGet kvs (.inr h) = some w → Mi.finish (seqR (wantR [some (.str h), some (.ref τ.length)] (.bl (kvGet kvs (.inr h)).isSome) t2) (evS T (evF T F (k + 1)) (.cons (.ret (.ix (.var 1) (.var 0))) .nil))) = .ok w t2 := fun w hw => by
    rw [hw]
    simp [item_ref, g2, keyOf, hw]
  by_cases d1 : h = "not"
  · rw [if_pos d1] at key ⊢
    exact ⟨_, t2, ret _ key, p2, g3⟩
  rw [if_neg d1] at key ⊢
  by_cases d2 : h = "list"
  · rw [if_pos d2] at key ⊢
    exact ⟨_, t2, ret _ key, p2, g4⟩
  rw [if_neg d2] at key ⊢
  by_cases d3 : h = "long"
  · rw [if_pos d3] at key ⊢
    exact ⟨_, t2, ret _ key, p2, g5⟩
  rw [if_neg d3] at key ⊢
  by_cases d4 : h = "at"
  · rw [if_pos d4] at key ⊢
    exact ⟨_, t2, ret _ key, p2, g6⟩
  rw [if_neg d4] at key ⊢
  rw [key]
  exact ⟨[some (.str h), some (.ref τ.length)], t2, rfl, p2⟩
theorem cut_from (xs : List Mi.W) (n : Nat) (i : Int) (h : i = (n : Int)) : cut xs (some i) none = xs.drop n := by
  subst h
  unfold cut
  rw [HT.sIx_nat, HT.sIx_none]
  by_cases c : n ≤ xs.length
  · rw [Nat.min_eq_left c]
    exact List.take_of_length_le (by rw [List.length_drop]; exact Nat.le_refl _)
  · rw [Nat.min_eq_right (by omega), List.drop_length, List.take_nil, List.drop_eq_nil_of_le (by omega)]
theorem l_call : PyData.strOk ("call" : Str) = true := by decide +kernel
theorem l_new : PyData.strOk ("new" : Str) = true := by decide +kernel
theorem l_get : PyData.strOk ("get" : Str) = true := by decide +kernel
theorem l_eq : PyData.strOk ("=" : Str) = true := by decide +kernel
section
variable {s r f l e : Nat} {g : Mi.W} {E : KE} {m : Nat} {ko : Mi.W → Option Str}
/-- a call's kind -/
theorem zcall (hE : KEok E) (xs : List Mi.W) (n : Nat) (hn : ∀ x ∈ xs, Thg n x) (hxl : xs.length ≤ 10000) (hx : ∀ x ∈ xs, (∀ k, ko x = some k → PyData.strOk k = true) ∧ ∀ j τ, Kl s r f l e g E τ → ZK (ko x) τ (evF T F (m + j + 1) 8 [.ref s, x] τ)) (τ : Sto) (h : Kl s r f l e g E τ) :
    ZK (deedK ko E "call" (.str "call" :: xs)) τ (evF T F (m + 3) 10 [.ref s, .tup (.str "call" :: xs)] τ) := by
  have q1 : ∀ t : Sto, eqW t (.str "call") (.str "call") = some true := fun t => by rw [eq_dec l_call l_call]; simp
  obtain ⟨fk, hf1, hf2⟩ := h.f
  have hw : ∀ b, (ev T (evF T F (m + 2)) (.conj (.cons (.cmp .Gt (.bi .len (.cons (.var 1) .nil)) (.con (.int 1))) (.cons (.isi (.ix (.var 1) (.con (.int 1))) .str) (.cons (.cmp .In (.ix (.var 1) (.con (.int 1))) (.fld (.var 0) ("functions" : Str))) .nil))))).e [some (.ref s), some (.tup (.str "call" :: xs)), some (.str "call"), none, none, none] τ = .ok (.bl b) τ →
      evF T F (m + 3) 10 [.ref s, .tup (.str "call" :: xs)] τ = Mi.finish (seqR (seqR (wantR [some (.ref s), some (.tup (.str "call" :: xs)), some (.str "call"), none, none, none] (.bl b) τ) (evS T (evF T F (m + 2)) (.cons (.setT [4, 5] (.ix (.fld (.var 0) ("functions" : Str)) (.ix (.var 1) (.con (.int 1))))) (.cons (.ex (.meth ("want_kinds" : Str) (.var 0) (.cons (.slice (.var 1) (.con (.int 2)) .nil) (.cons (.var 4) .nil)))) (.cons (.ret (.var 5)) .nil))))) (evS T (evF T F (m + 2)) b10_2)) := fun b hb => by
    rw [u10, b10, evS_cons]
    have h1 : evS T (evF T F (m + 2)) (.set 2 (.ix (.var 1) (.con (.int 0)))) [some (.ref s), some (.tup (.str "call" :: xs)), none, none, none, none] τ = .ok (.nx [some (.ref s), some (.tup (.str "call" :: xs)), some (.str "call"), none, none, none]) τ := by simp
    rw [h1, seqR_nx, evS_cons, evS_ife]
    have h2 : (ev T (evF T F (m + 2)) (.cmp .Eq (.var 2) (.con (.str ("call" : Str))))).t [some (.ref s), some (.tup (.str "call" :: xs)), some (.str "call"), none, none, none] τ = .ok true τ := by simp [q1]
    rw [h2, R.bind_ok, if_pos rfl, evS_cons, want_eq (m + 1) _ _ _ hb]
  unfold deedK
  rw [if_pos rfl]
  cases xs with
  | nil =>
    rw [hw false (by simp)]
    exact ⟨[some (.ref s), some (.tup [.str "call"]), some (.str "call"), none, none, none], τ, rfl, List.prefix_refl _⟩
  | cons y args =>
    have hgt : (1 : Int) < (args.length : Int) + 1 + 1 := by omega
    cases y with
    | str fn =>
      have hk := hf2 fn
      have hkv : kvGet fk (.inr fn) = kG fk fn := rfl
      dsimp only
      cases hg : kG E.fn fn with
      | none =>
        rw [hg] at hk
        have hk' : kG fk fn = none := hk
        rw [hw false (by simp [hgt, h.s, in_ref, hf1, keyOf, hkv, hk'])]
        exact ⟨[some (.ref s), some (.tup (.str "call" :: .str fn :: args)), some (.str "call"), none, none, none], τ, rfl, List.prefix_refl _⟩
      | some p =>
        rw [hg] at hk
        obtain ⟨kl, hk1, hk2⟩ := hk
        rw [hw true (by simp [hgt, h.s, in_ref, hf1, keyOf, hkv, hk1])]
        have z := z9 (m := m) (ko := ko) args p.1 (hE.fn fn p hg).1 kl (fun x hx' => ⟨(hx x (List.mem_cons_of_mem _ hx')).1, fun τ hτ => (hx x (List.mem_cons_of_mem _ hx')).2 0 τ hτ⟩) τ h hk2
        have hc : cut (.str "call" :: .str fn :: args) (some 2) none = args := cut_from _ 2 2 rfl
        have hst : evS T (evF T F (m + 2)) (.setT [4, 5] (.ix (.fld (.var 0) ("functions" : Str)) (.ix (.var 1) (.con (.int 1))))) [some (.ref s), some (.tup (.str "call" :: .str fn :: args)), some (.str "call"), none, none, none] τ = .ok (.nx [some (.ref s), some (.tup (.str "call" :: .str fn :: args)), some (.str "call"), none, some (.ref kl), some (.str p.2)]) τ := by
          simp [h.s, item_ref, hf1, keyOf, hkv, hk1, putG]
        rw [wantR_t, seqR_nx, evS_cons, hst, seqR_nx, evS_cons]
        show ZK (if wantK ko args p.1 = true then some p.2 else none) τ _
        cases hwk : wantK ko args p.1 with
        | true =>
          rw [hwk] at z
          obtain ⟨τ', e1, p1⟩ := z
          rw [if_pos rfl]
          refine ⟨τ', ?_, p1⟩
          simp [h.s, hc, e1]
        | false =>
          rw [hwk] at z
          obtain ⟨ρ, τ', e1, p1⟩ := z
          rw [if_neg (by decide)]
          refine ⟨[some (.ref s), some (.tup (.str "call" :: .str fn :: args)), some (.str "call"), none, some (.ref kl), some (.str p.2)], τ', ?_, p1⟩
          simp [h.s, hc, e1]
    | int i =>
      rw [hw false (by simp [hgt])]
      exact ⟨[some (.ref s), some (.tup (.str "call" :: .int i :: args)), some (.str "call"), none, none, none], τ, rfl, List.prefix_refl _⟩
    | tup ys =>
      rw [hw false (by simp [hgt])]
      exact ⟨[some (.ref s), some (.tup (.str "call" :: .tup ys :: args)), some (.str "call"), none, none, none], τ, rfl, List.prefix_refl _⟩
    | non => exact absurd (hn _ List.mem_cons_self) (by cases n <;> exact id)
    | bl b => exact absurd (hn _ List.mem_cons_self) (by cases n <;> exact id)
    | ref b => exact absurd (hn _ List.mem_cons_self) (by cases n <;> exact id)
/-- the deed, up to its word -/
theorem d_new (xs : List Mi.W) (τ : Sto) (x : Str) (hx : PyData.strOk x = true) (n1 : x ≠ "call") : evF T F (m + 3) 10 [.ref s, .tup (.str x :: xs)] τ = Mi.finish (evS T (evF T F (m + 2)) b10_2 [some (.ref s), some (.tup (.str x :: xs)), some (.str x), none, none, none] τ) := by
  have q1 : ∀ t : Sto, eqW t (.str x) (.str "call") = some false := fun t => by rw [eq_dec hx l_call, decide_eq_false n1]
  rw [u10, b10]
  simp [q1]
theorem d_get (xs : List Mi.W) (τ : Sto) (x : Str) (hx : PyData.strOk x = true) (n1 : x ≠ "call") (n2 : x ≠ "new") : evF T F (m + 3) 10 [.ref s, .tup (.str x :: xs)] τ = Mi.finish (evS T (evF T F (m + 2)) b10_3 [some (.ref s), some (.tup (.str x :: xs)), some (.str x), none, none, none] τ) := by
  have q1 : ∀ t : Sto, eqW t (.str x) (.str "new") = some false := fun t => by rw [eq_dec hx l_new, decide_eq_false n2]
  rw [d_new xs τ x hx n1]
  unfold b10_2
  simp [q1]
theorem d_eq (xs : List Mi.W) (τ : Sto) (x : Str) (hx : PyData.strOk x = true) (n1 : x ≠ "call") (n2 : x ≠ "new") (n3 : x ≠ "get") : evF T F (m + 3) 10 [.ref s, .tup (.str x :: xs)] τ = Mi.finish (evS T (evF T F (m + 2)) b10_4 [some (.ref s), some (.tup (.str x :: xs)), some (.str x), none, none, none] τ) := by
  have q1 : ∀ t : Sto, eqW t (.str x) (.str "get") = some false := fun t => by rw [eq_dec hx l_get, decide_eq_false n3]
  rw [d_get xs τ x hx n1 n2]
  unfold b10_3
  simp [q1]
theorem d_sum (xs : List Mi.W) (τ : Sto) (x : Str) (hx : PyData.strOk x = true) (n1 : x ≠ "call") (n2 : x ≠ "new") (n3 : x ≠ "get") (n4 : x ≠ "=") : evF T F (m + 3) 10 [.ref s, .tup (.str x :: xs)] τ = Mi.finish (evS T (evF T F (m + 2)) b10_5 [some (.ref s), some (.tup (.str x :: xs)), some (.str x), none, none, none] τ) := by
  have q1 : ∀ t : Sto, eqW t (.str x) (.str "=") = some false := fun t => by rw [eq_dec hx l_eq, decide_eq_false n4]
  rw [d_eq xs τ x hx n1 n2 n3]
  unfold b10_4
  simp [q1]
theorem znew (xs : List Mi.W) (n : Nat) (hn : ∀ x ∈ xs, Thg n x) (τ : Sto) (h : Kl s r f l e g E τ) :
    ZK (deedK ko E "new" (.str "new" :: xs)) τ (evF T F (m + 3) 10 [.ref s, .tup (.str "new" :: xs)] τ) := by
  have q1 : ∀ t : Sto, eqW t (.str "new") (.str "new") = some true := fun t => by rw [eq_dec l_new l_new]; simp
  have hr := h.r
  have hw : ∀ b, (ev T (evF T F (m + 2)) (.conj (.cons (.cmp .Eq (.bi .len (.cons (.var 1) .nil)) (.con (.int 2))) (.cons (.isi (.ix (.var 1) (.con (.int 1))) .str) (.cons (.cmp .In (.ix (.var 1) (.con (.int 1))) (.fld (.var 0) ("records" : Str))) .nil))))).e [some (.ref s), some (.tup (.str "new" :: xs)), some (.str "new"), none, none, none] τ = .ok (.bl b) τ →
      evF T F (m + 3) 10 [.ref s, .tup (.str "new" :: xs)] τ = Mi.finish (seqR (seqR (wantR [some (.ref s), some (.tup (.str "new" :: xs)), some (.str "new"), none, none, none] (.bl b) τ) (evS T (evF T F (m + 2)) (.cons (.ret (.ix (.var 1) (.con (.int 1)))) .nil))) (evS T (evF T F (m + 2)) b10_3)) := fun b hb => by
    rw [d_new xs τ _ l_new (by decide)]
    unfold b10_2
    rw [evS_cons, evS_ife]
    have h2 : (ev T (evF T F (m + 2)) (.cmp .Eq (.var 2) (.con (.str ("new" : Str))))).t [some (.ref s), some (.tup (.str "new" :: xs)), some (.str "new"), none, none, none] τ = .ok true τ := by simp [q1]
    rw [h2, R.bind_ok, if_pos rfl, evS_cons, want_eq (m + 1) _ _ _ hb]
  have bad : ∀ b, b = false → evF T F (m + 3) 10 [.ref s, .tup (.str "new" :: xs)] τ = Mi.finish (seqR (seqR (wantR [some (.ref s), some (.tup (.str "new" :: xs)), some (.str "new"), none, none, none] (.bl b) τ) (evS T (evF T F (m + 2)) (.cons (.ret (.ix (.var 1) (.con (.int 1)))) .nil))) (evS T (evF T F (m + 2)) b10_3)) → ZK none τ (evF T F (m + 3) 10 [.ref s, .tup (.str "new" :: xs)] τ) := fun b hb he => by
    subst hb
    rw [he]
    exact ⟨[some (.ref s), some (.tup (.str "new" :: xs)), some (.str "new"), none, none, none], τ, rfl, List.prefix_refl _⟩
  unfold deedK
  rw [if_neg (by decide), if_pos rfl]
  cases xs with
  | nil => exact bad false rfl (hw false (by simp))
  | cons y t =>
    cases t with
    | cons z u =>
      have hne : (((u.length : Int) + 1 + 1 + 1) == 2) = false := beq_eq_false_iff_ne.mpr (by omega)
      cases y <;> exact bad false rfl (hw false (by simp [hne]))
    | nil =>
      cases y with
      | str rn =>
        have hkv : kvGet E.recs (.inr rn) = kG E.recs rn := rfl
        dsimp only
        cases hg : kG E.recs rn with
        | none => exact bad false rfl (hw false (by simp [h.s, in_ref, hr, keyOf, hkv, hg]))
        | some w =>
          rw [hw true (by simp [h.s, in_ref, hr, keyOf, hkv, hg])]
          exact ⟨τ, by simp, List.prefix_refl _⟩
      | int i => exact bad false rfl (hw false (by simp))
      | tup ys => exact bad false rfl (hw false (by simp))
      | non => exact absurd (hn _ List.mem_cons_self) (by cases n <;> exact id)
      | bl b => exact absurd (hn _ List.mem_cons_self) (by cases n <;> exact id)
      | ref b => exact absurd (hn _ List.mem_cons_self) (by cases n <;> exact id)
theorem zget (xs : List Mi.W) (n : Nat) (hn : ∀ x ∈ xs, Thg n x) (hx : ∀ x ∈ xs, (∀ k, ko x = some k → PyData.strOk k = true) ∧ ∀ j τ, Kl s r f l e g E τ → ZK (ko x) τ (evF T F (m + j + 1) 8 [.ref s, x] τ)) (τ : Sto) (h : Kl s r f l e g E τ) :
    ZK (deedK ko E "get" (.str "get" :: xs)) τ (evF T F (m + 3) 10 [.ref s, .tup (.str "get" :: xs)] τ) := by
  have q1 : ∀ t : Sto, eqW t (.str "get") (.str "get") = some true := fun t => by rw [eq_dec l_get l_get]; simp
  have hw : ∀ b, (ev T (evF T F (m + 2)) (.cmp .Eq (.bi .len (.cons (.var 1) .nil)) (.con (.int 3)))).e [some (.ref s), some (.tup (.str "get" :: xs)), some (.str "get"), none, none, none] τ = .ok (.bl b) τ →
      evF T F (m + 3) 10 [.ref s, .tup (.str "get" :: xs)] τ = Mi.finish (seqR (seqR (wantR [some (.ref s), some (.tup (.str "get" :: xs)), some (.str "get"), none, none, none] (.bl b) τ) (evS T (evF T F (m + 2)) (.cons (.ex (.meth ("want_field" : Str) (.var 0) (.cons (.ix (.var 1) (.con (.int 1))) (.cons (.ix (.var 1) (.con (.int 2))) .nil)))) (.cons (.ret (.con (.str ("number" : Str)))) .nil)))) (evS T (evF T F (m + 2)) b10_4)) := fun b hb => by
    rw [d_get xs τ _ l_get (by decide) (by decide)]
    unfold b10_3
    rw [evS_cons, evS_ife]
    have h2 : (ev T (evF T F (m + 2)) (.cmp .Eq (.var 2) (.con (.str ("get" : Str))))).t [some (.ref s), some (.tup (.str "get" :: xs)), some (.str "get"), none, none, none] τ = .ok true τ := by simp [q1]
    rw [h2, R.bind_ok, if_pos rfl, evS_cons, want_eq (m + 1) _ _ _ hb]
  have bad : (ev T (evF T F (m + 2)) (.cmp .Eq (.bi .len (.cons (.var 1) .nil)) (.con (.int 3)))).e [some (.ref s), some (.tup (.str "get" :: xs)), some (.str "get"), none, none, none] τ = .ok (.bl false) τ → ZK none τ (evF T F (m + 3) 10 [.ref s, .tup (.str "get" :: xs)] τ) := fun he => by
    rw [hw false he]
    exact ⟨[some (.ref s), some (.tup (.str "get" :: xs)), some (.str "get"), none, none, none], τ, rfl, List.prefix_refl _⟩
  unfold deedK
  rw [if_neg (by decide), if_neg (by decide), if_pos rfl]
  match xs, hn, hx, hw, bad with
  | [], _, _, _, bad => exact bad (by simp)
  | [_], _, _, _, bad => exact bad (by simp)
  | _ :: _ :: _ :: u, _, _, _, bad =>
    have hne : (((u.length : Int) + 1 + 1 + 1 + 1) == 3) = false := beq_eq_false_iff_ne.mpr (by omega)
    exact bad (by simp [hne])
  | [x, fld], hn, hx, hw, _ =>
    have z := z11 (m := m) (ko := ko) x fld n (hn fld (by simp)) ⟨(hx x (by simp)).1, fun τ hτ => (hx x (by simp)).2 0 τ hτ⟩ τ h
    rw [hw true (by simp)]
    dsimp only
    cases hf : fieldK ko E x fld with
    | true =>
      rw [hf] at z
      obtain ⟨τ', e1, p1⟩ := z
      rw [if_pos rfl]
      exact ⟨τ', by simp [h.s, e1], p1⟩
    | false =>
      rw [hf] at z
      obtain ⟨ρ, τ', e1, p1⟩ := z
      rw [if_neg (by decide)]
      exact ⟨[some (.ref s), some (.tup [.str "get", x, fld]), some (.str "get"), none, none, none], τ', by simp [h.s, e1], p1⟩
theorem zeq (xs : List Mi.W) (n : Nat) (hn : ∀ x ∈ xs, Thg n x) (hx : ∀ x ∈ xs, (∀ k, ko x = some k → PyData.strOk k = true) ∧ ∀ j τ, Kl s r f l e g E τ → ZK (ko x) τ (evF T F (m + j + 1) 8 [.ref s, x] τ)) (τ : Sto) (h : Kl s r f l e g E τ) :
    ZK (deedK ko E "=" (.str "=" :: xs)) τ (evF T F (m + 3) 10 [.ref s, .tup (.str "=" :: xs)] τ) := by
  have q1 : ∀ t : Sto, eqW t (.str "=") (.str "=") = some true := fun t => by rw [eq_dec l_eq l_eq]; simp
  have hw : ∀ b, (ev T (evF T F (m + 2)) (.cmp .Eq (.bi .len (.cons (.var 1) .nil)) (.con (.int 3)))).e [some (.ref s), some (.tup (.str "=" :: xs)), some (.str "="), none, none, none] τ = .ok (.bl b) τ →
      evF T F (m + 3) 10 [.ref s, .tup (.str "=" :: xs)] τ = Mi.finish (seqR (seqR (wantR [some (.ref s), some (.tup (.str "=" :: xs)), some (.str "="), none, none, none] (.bl b) τ) (evS T (evF T F (m + 2)) (.cons (.set 3 (.meth ("kind_of" : Str) (.var 0) (.cons (.ix (.var 1) (.con (.int 1))) .nil)))
  (.cons (.ex (.call 2 (.cons (.conj (.cons (.cmp .In (.var 3) (.tup (.cons (.con (.str ("number" : Str))) (.cons (.con (.str ("truth" : Str))) .nil)))) (.cons (.cmp .Eq (.meth ("kind_of" : Str) (.var 0) (.cons (.ix (.var 1) (.con (.int 2))) .nil)) (.var 3)) .nil))) .nil)))
  (.cons (.ret (.con (.str ("truth" : Str)))) .nil))))) (evS T (evF T F (m + 2)) b10_5)) := fun b hb => by
    rw [d_eq xs τ _ l_eq (by decide) (by decide) (by decide)]
    unfold b10_4
    rw [evS_cons, evS_ife]
    have h2 : (ev T (evF T F (m + 2)) (.cmp .Eq (.var 2) (.con (.str ("=" : Str))))).t [some (.ref s), some (.tup (.str "=" :: xs)), some (.str "="), none, none, none] τ = .ok true τ := by simp [q1]
    rw [h2, R.bind_ok, if_pos rfl, evS_cons, want_eq (m + 1) _ _ _ hb]
  have bad : (ev T (evF T F (m + 2)) (.cmp .Eq (.bi .len (.cons (.var 1) .nil)) (.con (.int 3)))).e [some (.ref s), some (.tup (.str "=" :: xs)), some (.str "="), none, none, none] τ = .ok (.bl false) τ → ZK none τ (evF T F (m + 3) 10 [.ref s, .tup (.str "=" :: xs)] τ) := fun he => by
    rw [hw false he]
    exact ⟨[some (.ref s), some (.tup (.str "=" :: xs)), some (.str "="), none, none, none], τ, rfl, List.prefix_refl _⟩
  unfold deedK
  rw [if_neg (by decide), if_neg (by decide), if_neg (by decide), if_pos rfl]
  match xs, hn, hx, hw, bad with
  | [], _, _, _, bad => exact bad (by simp)
  | [_], _, _, _, bad => exact bad (by simp)
  | _ :: _ :: _ :: u, _, _, _, bad =>
    have hne : (((u.length : Int) + 1 + 1 + 1 + 1) == 3) = false := beq_eq_false_iff_ne.mpr (by omega)
    exact bad (by simp [hne])
  | [x, y], hn, hx, hw, _ =>
    obtain ⟨okx, runx⟩ := hx x (by simp)
    obtain ⟨oky, runy⟩ := hx y (by simp)
    have z1 := runx 1 τ h
    rw [hw true (by simp)]
    dsimp only
    cases hkx : ko x with
    | none =>
      rw [hkx] at z1
      obtain ⟨ρ, τ1, e1, p1⟩ := z1
      have e1' : evF T F (m + 2) 8 [.ref s, x] τ = .exn ⟨2, []⟩ ρ τ1 := e1
      exact ⟨[some (.ref s), some (.tup [.str "=", x, y]), some (.str "="), none, none, none], τ1, by simp [h.s, e1'], p1⟩
    | some k =>
      rw [hkx] at z1
      obtain ⟨τ1, e1, p1⟩ := z1
      have e1' : evF T F (m + 2) 8 [.ref s, x] τ = .ok (.str k) τ1 := e1
      have h1 := h.pre p1
      have okk := okx k hkx
      have hin : inF (.str k) [.str "number", .str "truth"] = decide (k = "number" ∨ k = "truth") := by
        refine (inF_dec k ["number", "truth"]).trans ?_
        simp
      have hs1 : evS T (evF T F (m + 2)) (.set 3 (.meth ("kind_of" : Str) (.var 0) (.cons (.ix (.var 1) (.con (.int 1))) .nil))) [some (.ref s), some (.tup [.str "=", x, y]), some (.str "="), none, none, none] τ = .ok (.nx [some (.ref s), some (.tup [.str "=", x, y]), some (.str "="), some (.str k), none, none]) τ1 := by
        simp [h.s, e1']
      rw [wantR_t, seqR_nx, evS_cons, hs1, seqR_nx, evS_cons]
      show ZK (if (k = "number" ∨ k = "truth") ∧ ko y = some k then some "truth" else none) τ _
      by_cases c : k = "number" ∨ k = "truth"
      · rw [decide_eq_true c] at hin
        have z2 := runy 1 τ1 h1
        cases hky : ko y with
        | none =>
          rw [hky] at z2
          obtain ⟨ρ, τ2, e2, p2⟩ := z2
          have e2' : evF T F (m + 2) 8 [.ref s, y] τ1 = .exn ⟨2, []⟩ ρ τ2 := e2
          rw [if_neg (by simp)]
          exact ⟨[some (.ref s), some (.tup [.str "=", x, y]), some (.str "="), some (.str k), none, none], τ2, by simp [in_tup, hin, h1.s, e2'], p1.trans p2⟩
        | some k2 =>
          rw [hky] at z2
          obtain ⟨τ2, e2, p2⟩ := z2
          have e2' : evF T F (m + 2) 8 [.ref s, y] τ1 = .ok (.str k2) τ2 := e2
          have okk2 := oky k2 hky
          have heq : ∀ t : Sto, eqW t (.str k2) (.str k) = some (decide (k2 = k)) := fun t => eq_dec okk2 okk
          have hcond : (ev T (evF T F (m + 2)) (.conj (.cons (.cmp .In (.var 3) (.tup (.cons (.con (.str ("number" : Str))) (.cons (.con (.str ("truth" : Str))) .nil)))) (.cons (.cmp .Eq (.meth ("kind_of" : Str) (.var 0) (.cons (.ix (.var 1) (.con (.int 2))) .nil)) (.var 3)) .nil)))).e [some (.ref s), some (.tup [.str "=", x, y]), some (.str "="), some (.str k), none, none] τ1 = .ok (.bl (decide (k2 = k))) τ2 := by
            simp [in_tup, hin, h1.s, e2', heq]
          rw [want_eq (m + 1) _ _ _ hcond]
          by_cases q : k2 = k
          · rw [if_pos ⟨c, by rw [q]⟩, decide_eq_true q]
            exact ⟨τ2, by simp, p1.trans p2⟩
          · rw [if_neg (fun z => q (Option.some.inj z.2)), decide_eq_false q]
            exact ⟨[some (.ref s), some (.tup [.str "=", x, y]), some (.str "="), some (.str k), none, none], τ2, by simp, p1.trans p2⟩
      · rw [decide_eq_false c] at hin
        rw [if_neg (fun z => c z.1)]
        have hcond : (ev T (evF T F (m + 2)) (.conj (.cons (.cmp .In (.var 3) (.tup (.cons (.con (.str ("number" : Str))) (.cons (.con (.str ("truth" : Str))) .nil)))) (.cons (.cmp .Eq (.meth ("kind_of" : Str) (.var 0) (.cons (.ix (.var 1) (.con (.int 2))) .nil)) (.var 3)) .nil)))).e [some (.ref s), some (.tup [.str "=", x, y]), some (.str "="), some (.str k), none, none] τ1 = .ok (.bl false) τ1 := by
          simp [in_tup, hin]
        rw [want_eq (m + 1) _ _ _ hcond]
        exact ⟨[some (.ref s), some (.tup [.str "=", x, y]), some (.str "="), some (.str k), none, none], τ1, by simp, p1⟩
theorem zsum (hd : Str) (hh : PyData.strOk hd = true) (n1 : hd ≠ "call") (n2 : hd ≠ "new") (n3 : hd ≠ "get") (n4 : hd ≠ "=") (xs : List Mi.W) (hx : ∀ x ∈ xs, (∀ k, ko x = some k → PyData.strOk k = true) ∧ ∀ j τ, Kl s r f l e g E τ → ZK (ko x) τ (evF T F (m + j + 1) 8 [.ref s, x] τ)) (τ : Sto) (h : Kl s r f l e g E τ) :
    ZK (deedK ko E hd (.str hd :: xs)) τ (evF T F (m + 3) 10 [.ref s, .tup (.str hd :: xs)] τ) := by
  have z := z16 m hd hh τ
  rw [d_sum xs τ hd hh n1 n2 n3 n4]
  unfold deedK
  rw [if_neg n1, if_neg n2, if_neg n3, if_neg n4]
  unfold b10_5
  cases hs : sumK hd with
  | none =>
    rw [hs] at z
    obtain ⟨ρ, τ1, e1, p1⟩ := z
    exact ⟨[some (.ref s), some (.tup (.str hd :: xs)), some (.str hd), none, none, none], τ1, by simp [e1], p1⟩
  | some p =>
    rw [hs] at z
    obtain ⟨kl, τ1, e1, p1, hkl⟩ := z
    have h1 := h.pre p1
    have z2 := z9 (m := m) (ko := ko) xs p.1 (sumK_ok hs).1 kl (fun x hx' => ⟨(hx x hx').1, fun τ hτ => (hx x hx').2 0 τ hτ⟩) τ1 h1 hkl
    have hc : cut (.str hd :: xs) (some 1) none = xs := cut_from _ 1 1 rfl
    have hst : evS T (evF T F (m + 2)) (.setT [4, 5] (.call 16 (.cons (.var 2) .nil))) [some (.ref s), some (.tup (.str hd :: xs)), some (.str hd), none, none, none] τ = .ok (.nx [some (.ref s), some (.tup (.str hd :: xs)), some (.str hd), none, some (.ref kl), some (.str p.2)]) τ1 := by
      simp [e1, putG]
    rw [evS_cons, hst, seqR_nx, evS_cons]
    show ZK (if wantK ko xs p.1 = true then some p.2 else none) τ _
    cases hwk : wantK ko xs p.1 with
    | true =>
      rw [hwk] at z2
      obtain ⟨τ', e2, p2⟩ := z2
      rw [if_pos rfl]
      exact ⟨τ', by simp [h1.s, hc, e2], p1.trans p2⟩
    | false =>
      rw [hwk] at z2
      obtain ⟨ρ, τ', e2, p2⟩ := z2
      rw [if_neg (by decide)]
      exact ⟨[some (.ref s), some (.tup (.str hd :: xs)), some (.str hd), none, some (.ref kl), some (.str p.2)], τ', by simp [h1.s, hc, e2], p1.trans p2⟩
end
/-! kind_of -/
def strHead : List Mi.W → Bool
  | .str _ :: _ => true
  | _ => false
section
variable {s r f l e : Nat} {g : Mi.W} {E : KE}
theorem yes_ok : PyData.strOk ("yes" : Str) = true := by decide +kernel
theorem in_yes (k : Str) : inF (.str k) [.str "yes", .str "no"] = decide (k = "yes" ∨ k = "no") := by
  refine (inF_dec k ["yes", "no"]).trans ?_
  simp
theorem kGm (l : List (L2.Key × Str)) (k : Str) : kvGet (l.map fun p => (p.1, W.str p.2)) (.inr k) = (kG l k).map W.str := kG_map W.str l k
theorem z8 (hE : KEok E) : ∀ (n : Nat) (w : Mi.W), Thg n w → ∀ (k : Nat) (τ : Sto), Kl s r f l e g E τ → ZK (kindK E n w) τ (evF T F (k + 3 * n + 3) 8 [.ref s, w] τ) := by
  have int : ∀ (n : Nat) (i : Int) (k : Nat) (τ : Sto), ZK (kindK E n (.int i)) τ (evF T F (k + 3) 8 [.ref s, .int i] τ) := by
    intro n i k τ
    have hk : kindK E n (.int i) = if -32768 ≤ i ∧ i ≤ 32767 then some ("number" : Str) else none := by cases n <;> rfl
    have hn : numW (.int i) = (decide (-32768 ≤ i) && decide (i ≤ 32767)) := rfl
    have e1 := z1 (k + 1) (.int i) 0 trivial τ
    have e1' : evF T F (k + 2) 1 [.int i] τ = .ok (.bl (numW (.int i))) τ := e1
    have hcond : (ev T (evF T F (k + 2)) (.call 1 (.cons (.var 1) .nil))).e [some (.ref s), some (.int i)] τ = .ok (.bl (numW (.int i))) τ := by simp [e1']
    have hw := want_eq (k + 1) _ _ _ hcond
    have run : evF T F (k + 3) 8 [.ref s, .int i] τ = Mi.finish (seqR (wantR [some (.ref s), some (.int i)] (.bl (numW (.int i))) τ) (evS T (evF T F (k + 2)) (.cons (.ret (.con (.str ("number" : Str)))) .nil))) := by
      have hin : inF (.int i) [.str "yes", .str "no"] = false := rfl
      rw [u8, b8]
      rw [← hw]
      simp [in_tup, hin]
    rw [run, hk]
    by_cases c : -32768 ≤ i ∧ i ≤ 32767
    · rw [if_pos c, hn, decide_eq_true c.1, decide_eq_true c.2]
      exact ⟨τ, rfl, List.prefix_refl _⟩
    · rw [if_neg c]
      have : numW (.int i) = false := by
        rw [hn]
        by_cases c1 : -32768 ≤ i
        · rw [decide_eq_true c1, decide_eq_false (fun z => c ⟨c1, z⟩), Bool.and_false]
        · rw [decide_eq_false c1, Bool.false_and]
      rw [this]
      exact ⟨[some (.ref s), some (.int i)], τ, rfl, List.prefix_refl _⟩
  have str : ∀ (n : Nat) (x : Str) (k : Nat) (τ : Sto), Kl s r f l e g E τ → ZK (kindK E n (.str x)) τ (evF T F (k + 3) 8 [.ref s, .str x] τ) := by
    intro n x k τ h
    have hk : kindK E n (.str x) = if x = "yes" ∨ x = "no" then some ("truth" : Str) else kG E.seen x := by cases n <;> rfl
    have hin := in_yes x
    have he := h.e
    have hg := kGm E.seen x
    rw [hk]
    by_cases c : x = "yes" ∨ x = "no"
    · rw [if_pos c]
      rw [decide_eq_true c] at hin
      exact ⟨τ, by simp [u8, b8, in_tup, hin], List.prefix_refl _⟩
    · rw [if_neg c]
      rw [decide_eq_false c] at hin
      have hcond : (ev T (evF T F (k + 2)) (.cmp .In (.var 1) (.fld (.var 0) ("seen" : Str)))).e [some (.ref s), some (.str x)] τ = .ok (.bl ((kG E.seen x).map W.str).isSome) τ := by
        generalize hsm : E.seen.map (fun p => (p.1, W.str p.2)) = sm at *
        simp [h.s, in_ref, he, keyOf, hg]
      have hw := want_eq (k + 1) _ _ _ hcond
      have run : evF T F (k + 3) 8 [.ref s, .str x] τ = Mi.finish (seqR (seqR (wantR [some (.ref s), some (.str x)] (.bl ((kG E.seen x).map W.str).isSome) τ) (evS T (evF T F (k + 2)) (.cons (.ret (.ix (.fld (.var 0) ("seen" : Str)) (.var 1))) .nil))) (evS T (evF T F (k + 2)) (.cons (.ex (.call 2 (.cons (.call 1 (.cons (.var 1) .nil)) .nil))) (.cons (.ret (.con (.str ("number" : Str)))) .nil)))) := by
        rw [u8, b8]
        rw [← hw]
        simp [in_tup, hin]
      rw [run]
      cases hs : kG E.seen x with
      | none => exact ⟨[some (.ref s), some (.str x)], τ, rfl, List.prefix_refl _⟩
      | some kd =>
        rw [hs] at hg
        refine ⟨τ, ?_, List.prefix_refl _⟩
        generalize hsm : E.seen.map (fun p => (p.1, W.str p.2)) = sm at *
        simp [h.s, item_ref, he, keyOf, hg]
  intro n
  induction n with
  | zero =>
    intro w hw k τ h
    cases w with
    | int i => exact int 0 i k τ
    | str x => exact str 0 x k τ h
    | _ => exact hw.elim
  | succ n ih =>
    intro w hw k τ h
    cases w with
    | int i => exact int (n + 1) i (k + 3 * (n + 1)) τ
    | str x => exact str (n + 1) x (k + 3 * (n + 1)) τ h
    | tup xs =>
      have hlev : k + 3 * (n + 1) + 3 = (k + 3 * n + 2) + 4 := by omega
      rw [hlev]
      generalize hm : k + 3 * n + 2 = m at *
      have hx : ∀ x ∈ xs, (∀ kd, kindK E n x = some kd → PyData.strOk kd = true) ∧ ∀ j τ, Kl s r f l e g E τ → ZK (kindK E n x) τ (evF T F (m + j + 1) 8 [.ref s, x] τ) := fun x hx => ⟨fun kd e => kind_ok hE n x kd (hw.2 x hx) e, fun j τ hτ => by
        have := ih x (hw.2 x hx) (k + j) τ hτ
        rw [show k + j + 3 * n + 3 = m + j + 1 by omega] at this
        exact this⟩
      have hcond : ∀ b, b = strHead xs → (ev T (evF T F (m + 3)) (.conj (.cons (.cmp .Gt (.bi .len (.cons (.var 1) .nil)) (.con (.int 0))) (.cons (.isi (.ix (.var 1) (.con (.int 0))) .str) .nil)))).e [some (.ref s), some (.tup xs)] τ = .ok (.bl b) τ := by
        intro b hb
        subst hb
        cases xs with
        | nil => simp [strHead]
        | cons y t =>
          have hgt : (0 : Int) < (t.length : Int) + 1 := by omega
          cases y with
          | str z => simp [hgt, strHead]
          | int z => simp [hgt, strHead]
          | tup z => simp [hgt, strHead]
          | non => exact absurd (hw.2 _ List.mem_cons_self) (by cases n <;> exact id)
          | bl b => exact absurd (hw.2 _ List.mem_cons_self) (by cases n <;> exact id)
          | ref b => exact absurd (hw.2 _ List.mem_cons_self) (by cases n <;> exact id)
      have run : ∀ b, b = strHead xs → evF T F (m + 4) 8 [.ref s, .tup xs] τ = Mi.finish (seqR (seqR (wantR [some (.ref s), some (.tup xs)] (.bl b) τ) (evS T (evF T F (m + 3)) (.cons (.ret (.meth ("kind_of_deed" : Str) (.var 0) (.cons (.var 1) .nil))) .nil))) (evS T (evF T F (m + 3)) (.cons (.ife (.cmp .In (.var 1) (.tup (.cons (.con (.str ("yes" : Str))) (.cons (.con (.str ("no" : Str))) .nil)))) (.cons (.ret (.con (.str ("truth" : Str)))) .nil) .nil)
  (.cons (.ife (.isi (.var 1) .str) (.cons (.ex (.call 2 (.cons (.cmp .In (.var 1) (.fld (.var 0) ("seen" : Str))) .nil))) (.cons (.ret (.ix (.fld (.var 0) ("seen" : Str)) (.var 1))) .nil)) .nil)
  (.cons (.ex (.call 2 (.cons (.call 1 (.cons (.var 1) .nil)) .nil))) (.cons (.ret (.con (.str ("number" : Str)))) .nil)))))) := fun b hb => by
        have hw := want_eq (m + 2) _ _ _ (hcond b hb)
        rw [u8, b8, evS_cons, evS_ife]
        have h2 : (ev T (evF T F (m + 3)) (.isi (.var 1) .tuple)).t [some (.ref s), some (.tup xs)] τ = .ok true τ := by simp
        rw [h2, R.bind_ok, if_pos rfl, evS_cons, hw]
      have deed : ∀ (hd : Str) (t : List Mi.W), xs = .str hd :: t → ZK (deedK (kindK E n) E hd (.str hd :: t)) τ (evF T F (m + 3) 10 [.ref s, .tup (.str hd :: t)] τ) := by
        intro hd t ext
        subst ext
        have hh := (Thg.str (hw.2 (.str hd) List.mem_cons_self)).ok
        have hl : t.length ≤ 10000 := by have := hw.1; rw [List.length_cons] at this; omega
        have hn : ∀ x ∈ t, Thg n x := fun x hx => hw.2 x (List.mem_cons_of_mem _ hx)
        have hx' := fun x hx' => hx x (List.mem_cons_of_mem (W.str hd) hx')
        by_cases c1 : hd = "call"
        · subst c1; exact zcall hE t n hn hl hx' τ h
        by_cases c2 : hd = "new"
        · subst c2; exact znew t n hn τ h
        by_cases c3 : hd = "get"
        · subst c3; exact zget t n hn hx' τ h
        by_cases c4 : hd = "="
        · subst c4; exact zeq t n hn hx' τ h
        exact zsum hd hh c1 c2 c3 c4 t hx' τ h
      have bad : false = strHead xs → ZK none τ (evF T F (m + 4) 8 [.ref s, .tup xs] τ) := fun hb => by
        rw [run false hb]
        exact ⟨[some (.ref s), some (.tup xs)], τ, rfl, List.prefix_refl _⟩
      cases xs with
      | nil => exact bad rfl
      | cons y t =>
        cases y with
        | int i => exact bad rfl
        | tup z => exact bad rfl
        | str hd =>
          rw [run true rfl]
          have z := deed hd t rfl
          show ZK (deedK (kindK E n) E hd (.str hd :: t)) τ _
          cases hk : deedK (kindK E n) E hd (.str hd :: t) with
          | none =>
            rw [hk] at z
            obtain ⟨ρ, τ', e1, p1⟩ := z
            exact ⟨[some (.ref s), some (.tup (.str hd :: t))], τ', by simp [h.s, e1], p1⟩
          | some kd =>
            rw [hk] at z
            obtain ⟨τ', e1, p1⟩ := z
            exact ⟨τ', by simp [h.s, e1], p1⟩
        | non => exact absurd (hw.2 _ List.mem_cons_self) (by cases n <;> exact id)
        | bl b => exact absurd (hw.2 _ List.mem_cons_self) (by cases n <;> exact id)
        | ref b => exact absurd (hw.2 _ List.mem_cons_self) (by cases n <;> exact id)
    | _ => exact hw.elim
end
/-! statements: the state, variables -/
structure SE where
  lets : List Str
  seen : List (L2.Key × Str)
def kPut (l : List (L2.Key × Str)) (k v : Str) : List (L2.Key × Str) := if (l.any fun kv => decide (kv.1 = .inr k)) = true then l.map (fun kv => if kv.1 = .inr k then (kv.1, v) else kv) else l ++ [(.inr k, v)]
theorem kPut_map (l : List (L2.Key × Str)) (k v : Str) : kvPut (l.map fun p => (p.1, W.str p.2)) (.inr k) (.str v) = (kPut l k v).map fun p => (p.1, W.str p.2) := by
  unfold kvPut kPut
  have e : ((l.map fun p => (p.1, W.str p.2)).any fun kv => decide (kv.1 = .inr k)) = (l.any fun kv => decide (kv.1 = .inr k)) := by
    rw [List.any_map]
    rfl
  rw [e]
  split
  · rw [List.map_map, List.map_map]
    refine List.map_congr_left fun p _ => ?_
    show (if p.1 = .inr k then (p.1, W.str v) else (p.1, W.str p.2)) = _
    show _ = (fun q : L2.Key × Str => (q.1, W.str q.2)) (if p.1 = .inr k then (p.1, v) else p)
    split <;> rfl
  · rw [List.map_append]
    rfl
theorem kPut_get (l : List (L2.Key × Str)) (k v x : Str) : kG (kPut l k v) x = if x = k then some v else kG l x := by
  have h1 := kG_map W.str (kPut l k v) x
  have h2 := kG_map W.str l x
  have h3 := kvGet_put (l.map fun p => (p.1, W.str p.2)) (.inr k) (.inr x) (.str v)
  rw [kPut_map] at h3
  have h4 : kG ((kPut l k v).map fun p => (p.1, W.str p.2)) x = if (Sum.inr x : L2.Key) = Sum.inr k then some (W.str v) else kG (l.map fun p => (p.1, W.str p.2)) x := h3
  rw [h1, h2] at h4
  by_cases c : x = k
  · rw [if_pos c]
    rw [if_pos (by rw [c])] at h4
    cases e : kG (kPut l k v) x with
    | none => rw [e] at h4; cases h4
    | some y => rw [e] at h4; cases h4; rfl
  · rw [if_neg c]
    rw [if_neg (fun z => c (Sum.inr.inj z))] at h4
    cases e : kG (kPut l k v) x with
    | none =>
      rw [e] at h4
      cases e2 : kG l x with
      | none => rfl
      | some y => rw [e2] at h4; cases h4
    | some y =>
      rw [e] at h4
      cases e2 : kG l x with
      | none => rw [e2] at h4; cases h4
      | some z => rw [e2] at h4; cases h4; rfl
structure KB (B : Sto) (s r f : Nat) (Rc : List (L2.Key × Mi.W)) (Fn : List (L2.Key × (List Str × Str))) : Prop where
  hs : s < B.length
  rr : B[r]? = some (.dic Rc)
  rs : r ≠ s
  ff : ∃ fk, B[f]? = some (.dic fk) ∧ f ≠ s ∧ ∀ x, match kG Fn x with
    | some p => ∃ k, k ≠ s ∧ kG fk x = some (.tup [.ref k, .str p.2]) ∧ B[k]? = some (.lst (p.1.map W.str))
    | none => kG fk x = none
  ra : ∀ k w, kG Rc k = some w → ∃ fs, w = .tup fs ∧ fs.all flat = true
  fn : ∀ x p, kG Fn x = some p → (∀ k ∈ p.1, PyData.strOk k = true) ∧ PyData.strOk p.2 = true
structure KS (B : Sto) (s r f : Nat) (g : Mi.W) (l e : Nat) (σ : SE) (τ : Sto) : Prop where
  ss : τ[s]? = some (klO r f g l e)
  fix : ∀ i, i < B.length → i ≠ s → τ[i]? = B[i]?
  len : B.length ≤ τ.length
  ll : τ[l]? = some (.lst (σ.lets.map W.str))
  hl : B.length ≤ l
  ee : τ[e]? = some (.dic (σ.seen.map fun p => (p.1, W.str p.2)))
  he : B.length ≤ e
  ok : ∀ x k, kG σ.seen x = some k → PyData.strOk k = true
  sz : σ.lets.length ≤ 100000 ∧ σ.seen.length ≤ 100000
/-- all but s, l, e stays -/
structure Fr (s l e e' : Nat) (τ τ' : Sto) : Prop where
  k : ∀ i, i < τ.length → i ≠ s → i ≠ l → i ≠ e → τ'[i]? = τ[i]?
  e : e' = e ∨ τ.length ≤ e'
  n : τ.length ≤ τ'.length
section
variable {B : Sto} {s r f l e : Nat} {g : Mi.W} {Rc : List (L2.Key × Mi.W)} {Fn : List (L2.Key × (List Str × Str))} {σ : SE} {τ τ' : Sto}
theorem Fr.refl : Fr s l e e τ τ := ⟨fun _ _ _ _ _ => rfl, .inl rfl, Nat.le_refl _⟩
theorem Fr.pre (p : τ <+: τ') : Fr s l e e τ τ' := ⟨fun i hi _ _ _ => by
  obtain ⟨q, rfl⟩ := p
  exact List.getElem?_append_left hi, .inl rfl, p.length_le⟩
theorem Fr.trans {e1 e2 : Nat} {τ1 τ2 : Sto} (a : Fr s l e e1 τ τ1) (b : Fr s l e1 e2 τ1 τ2) : Fr s l e e2 τ τ2 := by
  refine ⟨fun i hi h1 h2 h3 => ?_, ?_, Nat.le_trans a.n b.n⟩
  · have hie : i ≠ e1 := by
      rcases a.e with z | z
      · rw [z]; exact h3
      · omega
    rw [b.k i (by have := a.n; omega) h1 h2 hie, a.k i hi h1 h2 h3]
  · rcases b.e with z | z
    · rw [z]; exact a.e
    · exact .inr (Nat.le_trans a.n z)
theorem KS.kl (b : KB B s r f Rc Fn) (h : KS B s r f g l e σ τ) : Kl s r f l e g ⟨Rc, Fn, σ.seen⟩ τ := by
  obtain ⟨fk, f1, f2, f3⟩ := b.ff
  refine ⟨h.ss, by rw [h.fix r (List.getElem?_eq_some_iff.mp b.rr).1 b.rs]; exact b.rr, ⟨fk, by rw [h.fix f (List.getElem?_eq_some_iff.mp f1).1 f2]; exact f1, fun x => ?_⟩, h.ee, b.ra⟩
  have := f3 x
  show match kG Fn x with
    | some p => ∃ k, kG fk x = some (.tup [.ref k, .str p.2]) ∧ τ[k]? = some (.lst (p.1.map W.str))
    | none => kG fk x = none
  split
  · rename_i p hp
    rw [hp] at this
    obtain ⟨k, k1, k2, k3⟩ := this
    exact ⟨k, k2, by rw [h.fix k (List.getElem?_eq_some_iff.mp k3).1 k1]; exact k3⟩
  · rename_i hp
    rw [hp] at this
    exact this
theorem KS.eok (b : KB B s r f Rc Fn) (h : KS B s r f g l e σ τ) : KEok ⟨Rc, Fn, σ.seen⟩ := ⟨h.ok, b.fn⟩
theorem KS.pre (h : KS B s r f g l e σ τ) (p : τ <+: τ') : KS B s r f g l e σ τ' := by
  refine ⟨pre_get p h.ss, fun i hi hs => ?_, Nat.le_trans h.len p.length_le, pre_get p h.ll, h.hl, pre_get p h.ee, h.he, h.ok, h.sz⟩
  rw [← h.fix i hi hs]
  obtain ⟨q, rfl⟩ := p
  exact List.getElem?_append_left (Nat.lt_of_lt_of_le hi h.len)
/-- what is below stays -/
def Fx (B : Sto) (s : Nat) (τ : Sto) : Prop := ∀ i, i < B.length → i ≠ s → τ[i]? = B[i]?
theorem KS.fx (h : KS B s r f g l e σ τ) (p : τ <+: τ') : Fx B s τ' := (h.pre p).fix
/-- a variable let -/
theorem KS.letv (b : KB B s r f Rc Fn) (h : KS B s r f g l e σ τ) (v kd : Str) (hk : PyData.strOk kd = true) (hz : σ.lets.length < 100000 ∧ σ.seen.length < 100000) :
    KS B s r f g l e ⟨σ.lets ++ [v], kPut σ.seen v kd⟩ ((τ.set l (.lst (σ.lets.map W.str ++ [.str v]))).set e (.dic (kvPut (σ.seen.map fun p => (p.1, W.str p.2)) (.inr v) (.str kd)))) ∧ Fr s l e e τ ((τ.set l (.lst (σ.lets.map W.str ++ [.str v]))).set e (.dic (kvPut (σ.seen.map fun p => (p.1, W.str p.2)) (.inr v) (.str kd)))) := by
  have nl : l ≠ s := by have := h.hl; have := b.hs; omega
  have ne : e ≠ s := by have := h.he; have := b.hs; omega
  have nle : l ≠ e := fun z => by
    have h1 := h.ll
    rw [z, h.ee] at h1
    cases h1
  have hl1 := (List.getElem?_eq_some_iff.mp h.ll).1
  have he1 := (List.getElem?_eq_some_iff.mp h.ee).1
  refine ⟨⟨by rw [List.getElem?_set_ne ne, List.getElem?_set_ne nl]; exact h.ss, fun i hi hs => ?_, by rw [List.length_set, List.length_set]; exact h.len, ?_, h.hl, ?_, h.he, fun x k hx => ?_, ?_⟩, fun i hi h1 h2 h3 => ?_, .inl rfl, by rw [List.length_set, List.length_set]; exact Nat.le_refl _⟩
  · rw [List.getElem?_set_ne (by have := h.he; omega), List.getElem?_set_ne (by have := h.hl; omega)]
    exact h.fix i hi hs
  · rw [List.getElem?_set_ne (Ne.symm nle), List.getElem?_set_self hl1]
    simp
  · rw [List.getElem?_set_self (by rw [List.length_set]; exact he1), kPut_map]
  · rw [kPut_get] at hx
    split at hx
    · cases hx; exact hk
    · exact h.ok x k hx
  · refine ⟨by rw [List.length_append]; exact hz.1, ?_⟩
    have := kvPut_len (σ.seen.map fun p => (p.1, W.str p.2)) (.inr v) (.str kd)
    rw [kPut_map, List.length_map, List.length_map] at this
    show (kPut σ.seen v kd).length ≤ _
    omega
  · rw [List.getElem?_set_ne (Ne.symm h3), List.getElem?_set_ne (Ne.symm h2)]
/-- the seen ones put back -/
theorem KS.back {sn : List (L2.Key × Str)} {o : Nat} (b : KB B s r f Rc Fn) (h : KS B s r f g l e σ τ) (ho : τ[o]? = some (.dic (sn.map fun p => (p.1, W.str p.2)))) (hB : B.length ≤ o) (ok : ∀ x k, kG sn x = some k → PyData.strOk k = true) (hz : sn.length ≤ 100000) :
    KS B s r f g l o ⟨σ.lets, sn⟩ (τ.set s (klO r f g l o)) := by
  have nl : l ≠ s := by have := h.hl; have := b.hs; omega
  have ne : o ≠ s := by have := b.hs; omega
  refine ⟨List.getElem?_set_self (List.getElem?_eq_some_iff.mp h.ss).1, fun i hi hs => ?_, by rw [List.length_set]; exact h.len, by rw [List.getElem?_set_ne (Ne.symm nl)]; exact h.ll, h.hl, by rw [List.getElem?_set_ne (Ne.symm ne)]; exact ho, hB, ok, h.sz.1, hz⟩
  rw [List.getElem?_set_ne (Ne.symm hs)]
  exact h.fix i hi hs
end
def varK (σ : SE) (h v kd : Str) : Option SE := if h = "put" then (if kG σ.seen v = some kd then some σ else none) else (if v ∈ σ.lets then none else some ⟨σ.lets ++ [v], kPut σ.seen v kd⟩)
def ZV (B : Sto) (s r f l e : Nat) (g : Mi.W) (τ : Sto) (o : Option SE) (x : R Mi.W) : Prop := match o with
  | none => ∃ ρ τ', x = .exn ⟨2, []⟩ ρ τ' ∧ Fx B s τ'
  | some σ' => ∃ τ', x = .ok .non τ' ∧ KS B s r f g l e σ' τ' ∧ Fr s l e e τ τ'
theorem put_ok : PyData.strOk ("put" : Str) = true := by decide +kernel
section
variable {B : Sto} {s r f l e : Nat} {g : Mi.W} {Rc : List (L2.Key × Mi.W)} {Fn : List (L2.Key × (List Str × Str))}
theorem z14 (b : KB B s r f Rc Fn) (k : Nat) (h v kd : Str) (hh : PyData.strOk h = true) (hv : PyData.strOk v = true) (hkd : PyData.strOk kd = true) (σ : SE) (τ : Sto) (hs : KS B s r f g l e σ τ) (hz : σ.lets.length < 100000 ∧ σ.seen.length < 100000) :
    ZV B s r f l e g τ (varK σ h v kd) (evF T F (k + 2) 14 [.ref s, .str h, .str v, .str kd] τ) := by
  have q1 : ∀ t : Sto, eqW t (.str h) (.str "put") = some (decide (h = "put")) := fun t => eq_dec hh put_ok
  have hg := kGm σ.seen v
  have he := hs.ee
  have hl := hs.ll
  unfold varK
  by_cases c : h = "put"
  · rw [if_pos c]
    have q1' : ∀ t : Sto, eqW t (.str h) (.str "put") = some true := fun t => by rw [q1, decide_eq_true c]
    have hcond : ∀ b, b = decide (kG σ.seen v = some kd) → (ev T (evF T F (k + 1)) (.conj (.cons (.cmp .In (.var 2) (.fld (.var 0) ("seen" : Str))) (.cons (.cmp .Eq (.ix (.fld (.var 0) ("seen" : Str)) (.var 2)) (.var 3)) .nil)))).e [some (.ref s), some (.str h), some (.str v), some (.str kd)] τ = .ok (.bl b) τ := fun b hb => by
      subst hb
      cases hq : kG σ.seen v with
      | none =>
        rw [hq] at hg
        generalize σ.seen.map (fun p => (p.1, W.str p.2)) = sm at *
        simp [hs.ss, in_ref, he, keyOf, hg]
      | some k2 =>
        rw [hq] at hg
        have h2 := hs.ok v k2 hq
        have heq : eqW τ (.str k2) (.str kd) = some (decide (k2 = kd)) := eq_dec h2 hkd
        generalize σ.seen.map (fun p => (p.1, W.str p.2)) = sm at *
        simp [hs.ss, in_ref, he, keyOf, hg, item_ref, heq]
    have run : ∀ b, b = decide (kG σ.seen v = some kd) → evF T F (k + 2) 14 [.ref s, .str h, .str v, .str kd] τ = Mi.finish (seqR (seqR (wantR [some (.ref s), some (.str h), some (.str v), some (.str kd)] (.bl b) τ) (evS T (evF T F (k + 1)) (.cons .retN .nil))) (evS T (evF T F (k + 1)) (.cons (.ex (.call 2 (.cons (.cmp .NotIn (.var 2) (.fld (.var 0) ("lets" : Str))) .nil))) (.cons (.ex (.bm .append (.fld (.var 0) ("lets" : Str)) (.cons (.var 2) .nil))) (.cons (.setI (.fld (.var 0) ("seen" : Str)) (.var 2) (.var 3)) .nil))))) := fun b hb => by
      rw [u14, b14, evS_cons, evS_ife]
      have h2 : (ev T (evF T F (k + 1)) (.cmp .Eq (.var 1) (.con (.str ("put" : Str))))).t [some (.ref s), some (.str h), some (.str v), some (.str kd)] τ = .ok true τ := by simp [q1']
      rw [h2, R.bind_ok, if_pos rfl, evS_cons, want_eq k _ _ _ (hcond b hb)]
    by_cases c2 : kG σ.seen v = some kd
    · rw [if_pos c2, run true (by rw [decide_eq_true c2])]
      exact ⟨τ, rfl, hs, .refl⟩
    · rw [if_neg c2, run false (by rw [decide_eq_false c2])]
      exact ⟨[some (.ref s), some (.str h), some (.str v), some (.str kd)], τ, rfl, hs.fix⟩
  · rw [if_neg c]
    have q1' : ∀ t : Sto, eqW t (.str h) (.str "put") = some false := fun t => by rw [q1, decide_eq_false c]
    have hall : (σ.lets.map W.str).all flat = true := List.all_eq_true.mpr fun x hx => by
      obtain ⟨y, _, rfl⟩ := List.mem_map.mp hx
      rfl
    have hin := inF_dec v σ.lets
    have hcond : (ev T (evF T F (k + 1)) (.cmp .NotIn (.var 2) (.fld (.var 0) ("lets" : Str)))).e [some (.ref s), some (.str h), some (.str v), some (.str kd)] τ = .ok (.bl (!decide (v ∈ σ.lets))) τ := by
      generalize σ.lets.map W.str = lm at *
      generalize decide (v ∈ σ.lets) = d at *
      have hinL : inL τ (.str v) (some (.lst lm)) = some d := by rw [inL_lst, if_pos ⟨rfl, hall⟩, hin]
      simp [hs.ss, in_ref, hl, hinL]
    have run : evF T F (k + 2) 14 [.ref s, .str h, .str v, .str kd] τ = Mi.finish (seqR (wantR [some (.ref s), some (.str h), some (.str v), some (.str kd)] (.bl (!decide (v ∈ σ.lets))) τ) (evS T (evF T F (k + 1)) (.cons (.ex (.bm .append (.fld (.var 0) ("lets" : Str)) (.cons (.var 2) .nil))) (.cons (.setI (.fld (.var 0) ("seen" : Str)) (.var 2) (.var 3)) .nil)))) := by
      rw [u14, b14, evS_cons, evS_ife]
      have h2 : (ev T (evF T F (k + 1)) (.cmp .Eq (.var 1) (.con (.str ("put" : Str))))).t [some (.ref s), some (.str h), some (.str v), some (.str kd)] τ = .ok false τ := by simp [q1']
      rw [h2, R.bind_ok, if_neg (by decide), evS_nil, seqR_nx, evS_cons, want_eq k _ _ _ hcond]
    rw [run]
    by_cases c2 : v ∈ σ.lets
    · rw [if_pos c2, decide_eq_true c2]
      exact ⟨[some (.ref s), some (.str h), some (.str v), some (.str kd)], τ, rfl, hs.fix⟩
    · rw [if_neg c2, decide_eq_false c2]
      obtain ⟨g1, g2⟩ := hs.letv b v kd hkd hz
      refine ⟨_, ?_, g1, g2⟩
      have hs1 : (τ.set l (.lst (σ.lets.map W.str ++ [.str v])))[s]? = some (klO r f g l e) := by
        rw [List.getElem?_set_ne (by have := hs.hl; have := b.hs; omega)]
        exact hs.ss
      have nle : l ≠ e := fun z => by
        have h1 := hs.ll
        rw [z, hs.ee] at h1
        cases h1
      have he1 : (τ.set l (.lst (σ.lets.map W.str ++ [.str v])))[e]? = some (.dic (σ.seen.map fun p => (p.1, W.str p.2))) := by
        rw [List.getElem?_set_ne nle]
        exact hs.ee
      have hset := setDic he1 (by rw [List.length_map]; exact Nat.lt_of_lt_of_le hz.2 (by decide)) (.str v) (.str kd) (k := .inr v) rfl
      obtain ⟨a1, a2⟩ := append_ok (.str v) hl (by rw [List.length_map]; exact Nat.lt_of_lt_of_le hz.1 (by decide))
      generalize σ.seen.map (fun p => (p.1, W.str p.2)) = sm at *
      generalize σ.lets.map W.str = lm at *
      generalize τ.set l (.lst (lm ++ [.str v])) = t1 at *
      simp [hs.ss, a1, a2, hs1, hset]
end
/-! deeds as statements -/
theorem set_ok : PyData.strOk ("set" : Str) = true := by decide +kernel
theorem do_ok : PyData.strOk ("do" : Str) = true := by decide +kernel
def deedS (Rc : List (L2.Key × Mi.W)) (Fn : List (L2.Key × (List Str × Str))) (N : Nat) (g : Str) (sn : List (L2.Key × Str)) (h : Str) (xs : List Mi.W) : Bool :=
  if h = "set" then match xs with
    | [a, fl, v] => decide (kindK ⟨Rc, Fn, sn⟩ N v = some ("number" : Str)) && fieldK (kindK ⟨Rc, Fn, sn⟩ N) ⟨Rc, Fn, sn⟩ a fl
    | _ => false
  else if h = "do" then match xs with
    | [a] => (kindK ⟨Rc, Fn, sn⟩ N a).isSome
    | _ => false
  else if h = "out" then wantK (kindK ⟨Rc, Fn, sn⟩ N) xs ["number"]
  else if h = "give" then wantK (kindK ⟨Rc, Fn, sn⟩ N) xs [g]
  else if h = "store" then wantK (kindK ⟨Rc, Fn, sn⟩ N) xs ["list", "number", "number"]
  else false
abbrev elseD : Mi.S := (.cons (.set 3 (.dic (.cons (.con (.str ("out" : Str))) (.cons (.con (.str ("give" : Str))) (.cons (.con (.str ("store" : Str))) .nil))) (.cons (.lst (.cons (.con (.str ("number" : Str))) .nil)) (.cons (.lst (.cons (.fld (.var 0) ("given" : Str)) .nil)) (.cons (.lst (.cons (.con (.str ("list" : Str))) (.cons (.con (.str ("number" : Str))) (.cons (.con (.str ("number" : Str))) .nil)))) .nil)))))
  (.cons (.ex (.call 2 (.cons (.cmp .In (.var 1) (.var 3)) .nil)))
  (.cons (.ex (.meth ("want_kinds" : Str) (.var 0) (.cons (.var 2) (.cons (.ix (.var 3) (.var 1)) .nil))))
  .nil)))
section
variable {s r f l e : Nat} {gv : Str} {Rc : List (L2.Key × Mi.W)} {Fn : List (L2.Key × (List Str × Str))} {sn : List (L2.Key × Str)} {N m : Nat}
theorem zelse (hg : PyData.strOk gv = true) (h : Str) (xs : List Mi.W) (hx : ∀ x ∈ xs, (∀ k, kindK ⟨Rc, Fn, sn⟩ N x = some k → PyData.strOk k = true) ∧ ∀ j τ, Kl s r f l e (.str gv) ⟨Rc, Fn, sn⟩ τ → ZK (kindK ⟨Rc, Fn, sn⟩ N x) τ (evF T F (m + j + 1) 8 [.ref s, x] τ)) (τ : Sto) (hk : Kl s r f l e (.str gv) ⟨Rc, Fn, sn⟩ τ) :
    ZB (if h = "out" then wantK (kindK ⟨Rc, Fn, sn⟩ N) xs ["number"] else if h = "give" then wantK (kindK ⟨Rc, Fn, sn⟩ N) xs [gv] else if h = "store" then wantK (kindK ⟨Rc, Fn, sn⟩ N) xs ["list", "number", "number"] else false) τ
      (Mi.finish (evS T (evF T F (m + 2)) elseD [some (.ref s), some (.str h), some (.tup xs), none] τ)) := by
  have d1 : mergeW [] (([.inr "out", .inr "give", .inr "store"] : List L2.Key).zip [.ref (τ.length + 1), .ref (τ.length + 2), .ref (τ.length + 3)]) = [(.inr "out", .ref (τ.length + 1)), (.inr "give", .ref (τ.length + 2)), (.inr "store", .ref (τ.length + 3))] := by rfl
  have hd : dispR τ.length [.inr "out", .inr "give", .inr "store"] [.ref (τ.length + 1), .ref (τ.length + 2), .ref (τ.length + 3)] (τ ++ [.dic [], .lst [.str "number"], .lst [.str gv], .lst [.str "list", .str "number", .str "number"]]) = .ok (.ref τ.length) (τ ++ [.dic [(.inr "out", .ref (τ.length + 1)), (.inr "give", .ref (τ.length + 2)), (.inr "store", .ref (τ.length + 3))], .lst [.str "number"], .lst [.str gv], .lst [.str "list", .str "number", .str "number"]]) := by
    rw [dispR_ok (at_off0 _ _) rfl, d1, List.set_append_right _ _ (Nat.le_refl _), Nat.sub_self]
    rfl
  have hs1 : ∀ t : Sto, (τ ++ t)[s]? = some (klO r f (.str gv) l e) := fun t => at_old hk.s
  have first : evS T (evF T F (m + 2)) (.set 3 (.dic (.cons (.con (.str ("out" : Str))) (.cons (.con (.str ("give" : Str))) (.cons (.con (.str ("store" : Str))) .nil))) (.cons (.lst (.cons (.con (.str ("number" : Str))) .nil)) (.cons (.lst (.cons (.fld (.var 0) ("given" : Str)) .nil)) (.cons (.lst (.cons (.con (.str ("list" : Str))) (.cons (.con (.str ("number" : Str))) (.cons (.con (.str ("number" : Str))) .nil)))) .nil))))) [some (.ref s), some (.str h), some (.tup xs), none] τ = .ok (.nx [some (.ref s), some (.str h), some (.tup xs), some (.ref τ.length)]) (τ ++ [.dic [(.inr "out", .ref (τ.length + 1)), (.inr "give", .ref (τ.length + 2)), (.inr "store", .ref (τ.length + 3))], .lst [.str "number"], .lst [.str gv], .lst [.str "list", .str "number", .str "number"]]) := by
    simp [ev_dicS, newL, ↓hs1, hd, Nat.add_assoc]
  generalize hD : [((.inr "out" : L2.Key), W.ref (τ.length + 1)), (.inr "give", .ref (τ.length + 2)), (.inr "store", .ref (τ.length + 3))] = kvs at *
  generalize hτ : τ ++ [AO.dic kvs, .lst [.str "number"], .lst [.str gv], .lst [.str "list", .str "number", .str "number"]] = t2 at *
  have p2 : τ <+: t2 := by rw [← hτ]; exact List.prefix_append _ _
  have g2 : t2[τ.length]? = some (.dic kvs) := by rw [← hτ]; exact at_off0 _ _
  have g3 : t2[τ.length + 1]? = some (.lst ((["number"] : List Str).map W.str)) := by rw [← hτ]; exact at_off _ _ 1
  have g4 : t2[τ.length + 2]? = some (.lst (([gv] : List Str).map W.str)) := by rw [← hτ]; exact at_off _ _ 2
  have g5 : t2[τ.length + 3]? = some (.lst ((["list", "number", "number"] : List Str).map W.str)) := by rw [← hτ]; exact at_off _ _ 3
  have hk2 := hk.pre p2
  have key : kvGet kvs (.inr h) = if h = "out" then some (.ref (τ.length + 1)) else if h = "give" then some (.ref (τ.length + 2)) else if h = "store" then some (.ref (τ.length + 3)) else none := by
    rw [← hD]
    simp only [kvGet_cons, Sum.inr.injEq]
    have e : ∀ a : Str, (a = h) = (h = a) := fun a => propext ⟨Eq.symm, Eq.symm⟩
    simp only [e]
    rfl
  have hcond : (ev T (evF T F (m + 2)) (.cmp .In (.var 1) (.var 3))).e [some (.ref s), some (.str h), some (.tup xs), some (.ref τ.length)] t2 = .ok (.bl (kvGet kvs (.inr h)).isSome) t2 := by
    simp [in_ref, g2, keyOf]
  have hw := want_eq (m + 1) _ _ _ hcond
  have go : ∀ (kl : Nat) (ks : List Str), kvGet kvs (.inr h) = some (.ref kl) → (∀ k ∈ ks, PyData.strOk k = true) → t2[kl]? = some (.lst (ks.map W.str)) → ZB (wantK (kindK ⟨Rc, Fn, sn⟩ N) xs ks) τ (Mi.finish (evS T (evF T F (m + 2)) elseD [some (.ref s), some (.str h), some (.tup xs), none] τ)) := by
    intro kl ks hkv hks hkl
    have z := z9 (m := m) (ko := kindK ⟨Rc, Fn, sn⟩ N) xs ks hks kl (fun x hx' => ⟨(hx x hx').1, fun τ hτ => (hx x hx').2 0 τ hτ⟩) t2 hk2 hkl
    unfold elseD
    rw [evS_cons, first, seqR_nx, evS_cons, hw, hkv]
    show ZB _ τ (Mi.finish (seqR (wantR _ (.bl true) t2) _))
    rw [wantR_t, seqR_nx]
    cases hwk : wantK (kindK ⟨Rc, Fn, sn⟩ N) xs ks with
    | true =>
      rw [hwk] at z
      obtain ⟨τ', e1, p1⟩ := z
      exact ⟨τ', by simp [hk2.s, item_ref, g2, keyOf, hkv, e1], p2.trans p1⟩
    | false =>
      rw [hwk] at z
      obtain ⟨ρ, τ', e1, p1⟩ := z
      exact ⟨[some (.ref s), some (.str h), some (.tup xs), some (.ref τ.length)], τ', by simp [hk2.s, item_ref, g2, keyOf, hkv, e1], p2.trans p1⟩
  by_cases c1 : h = "out"
  · rw [if_pos c1] at key ⊢
    exact go _ (["number"] : List Str) key (by simp [ok_number]) g3
  rw [if_neg c1] at key ⊢
  by_cases c2 : h = "give"
  · rw [if_pos c2] at key ⊢
    exact go _ [gv] key (by simp [hg]) g4
  rw [if_neg c2] at key ⊢
  by_cases c3 : h = "store"
  · rw [if_pos c3] at key ⊢
    exact go _ (["list", "number", "number"] : List Str) key (by simp [ok_number, ok_list]) g5
  rw [if_neg c3] at key ⊢
  unfold elseD
  rw [evS_cons, first, seqR_nx, evS_cons, hw, key]
  exact ⟨[some (.ref s), some (.str h), some (.tup xs), some (.ref τ.length)], t2, rfl, p2⟩
theorem z15 (hg : PyData.strOk gv = true) (h : Str) (hh : PyData.strOk h = true) (xs : List Mi.W) (hn : ∀ x ∈ xs, Thg N x) (hx : ∀ x ∈ xs, (∀ k, kindK ⟨Rc, Fn, sn⟩ N x = some k → PyData.strOk k = true) ∧ ∀ j τ, Kl s r f l e (.str gv) ⟨Rc, Fn, sn⟩ τ → ZK (kindK ⟨Rc, Fn, sn⟩ N x) τ (evF T F (m + j + 1) 8 [.ref s, x] τ)) (τ : Sto) (hk : Kl s r f l e (.str gv) ⟨Rc, Fn, sn⟩ τ) :
    ZB (deedS Rc Fn N gv sn h xs) τ (evF T F (m + 3) 15 [.ref s, .str h, .tup xs] τ) := by
  have q1 : ∀ t : Sto, eqW t (.str h) (.str "set") = some (decide (h = "set")) := fun t => eq_dec hh set_ok
  have q2 : ∀ t : Sto, eqW t (.str h) (.str "do") = some (decide (h = "do")) := fun t => eq_dec hh do_ok
  unfold deedS
  by_cases c1 : h = "set"
  · rw [if_pos c1]
    have q1' : ∀ t : Sto, eqW t (.str h) (.str "set") = some true := fun t => by rw [q1, decide_eq_true c1]
    have hw : ∀ b t1, (ev T (evF T F (m + 2)) (.conj (.cons (.cmp .Eq (.bi .len (.cons (.var 2) .nil)) (.con (.int 3))) (.cons (.cmp .Eq (.meth ("kind_of" : Str) (.var 0) (.cons (.ix (.var 2) (.con (.int 2))) .nil)) (.con (.str ("number" : Str)))) .nil)))).e [some (.ref s), some (.str h), some (.tup xs), none] τ = .ok (.bl b) t1 →
        evF T F (m + 3) 15 [.ref s, .str h, .tup xs] τ = Mi.finish (seqR (seqR (wantR [some (.ref s), some (.str h), some (.tup xs), none] (.bl b) t1) (evS T (evF T F (m + 2)) (.cons (.ex (.meth ("want_field" : Str) (.var 0) (.cons (.ix (.var 2) (.con (.int 0))) (.cons (.ix (.var 2) (.con (.int 1))) .nil)))) .nil))) (evS T (evF T F (m + 2)) .nil)) := fun b t1 hb => by
      rw [u15, b15, evS_cons, evS_ife]
      have h2 : (ev T (evF T F (m + 2)) (.cmp .Eq (.var 1) (.con (.str ("set" : Str))))).t [some (.ref s), some (.str h), some (.tup xs), none] τ = .ok true τ := by simp [q1']
      rw [h2, R.bind_ok, if_pos rfl, evS_cons, want_eq (m + 1) _ _ _ hb]
    have bad : (ev T (evF T F (m + 2)) (.conj (.cons (.cmp .Eq (.bi .len (.cons (.var 2) .nil)) (.con (.int 3))) (.cons (.cmp .Eq (.meth ("kind_of" : Str) (.var 0) (.cons (.ix (.var 2) (.con (.int 2))) .nil)) (.con (.str ("number" : Str)))) .nil)))).e [some (.ref s), some (.str h), some (.tup xs), none] τ = .ok (.bl false) τ → ZB false τ (evF T F (m + 3) 15 [.ref s, .str h, .tup xs] τ) := fun he => by
      rw [hw false τ he]
      exact ⟨[some (.ref s), some (.str h), some (.tup xs), none], τ, rfl, List.prefix_refl _⟩
    match xs, hn, hx, hw, bad with
    | [], _, _, _, bad => exact bad (by simp)
    | [_], _, _, _, bad => exact bad (by simp)
    | [_, _], _, _, _, bad => exact bad (by simp)
    | _ :: _ :: _ :: _ :: u, _, _, _, bad =>
      have hne : (((u.length : Int) + 1 + 1 + 1 + 1) == 3) = false := beq_eq_false_iff_ne.mpr (by omega)
      exact bad (by simp [hne])
    | [a, fl, v], hn, hx, hw, _ =>
      obtain ⟨okv, runv⟩ := hx v (by simp)
      have z1 := runv 1 τ hk
      show ZB (decide (kindK ⟨Rc, Fn, sn⟩ N v = some ("number" : Str)) && fieldK (kindK ⟨Rc, Fn, sn⟩ N) ⟨Rc, Fn, sn⟩ a fl) τ _
      cases hv : kindK ⟨Rc, Fn, sn⟩ N v with
      | none =>
        rw [hv] at z1
        obtain ⟨ρ, τ1, e1, p1⟩ := z1
        have e1' : evF T F (m + 2) 8 [.ref s, v] τ = .exn ⟨2, []⟩ ρ τ1 := e1
        refine ⟨[some (.ref s), some (.str h), some (.tup [a, fl, v]), none], τ1, ?_, p1⟩
        rw [u15, b15]
        simp [q1', hk.s, e1']
      | some kd =>
        rw [hv] at z1
        obtain ⟨τ1, e1, p1⟩ := z1
        have e1' : evF T F (m + 2) 8 [.ref s, v] τ = .ok (.str kd) τ1 := e1
        have heq : ∀ t : Sto, eqW t (.str kd) (.str "number") = some (decide (kd = "number")) := fun t => eq_dec (okv kd hv) ok_number
        have hk1 := hk.pre p1
        rw [hw (decide (kd = "number")) τ1 (by simp [hk.s, e1', heq])]
        by_cases q : kd = "number"
        · rw [decide_eq_true q, decide_eq_true (show some kd = some ("number" : Str) by rw [q]), Bool.true_and, wantR_t, seqR_nx]
          have z := z11 (m := m) (ko := kindK ⟨Rc, Fn, sn⟩ N) a fl N (hn fl (by simp)) ⟨(hx a (by simp)).1, fun τ hτ => (hx a (by simp)).2 0 τ hτ⟩ τ1 hk1
          cases hf : fieldK (kindK ⟨Rc, Fn, sn⟩ N) ⟨Rc, Fn, sn⟩ a fl with
          | true =>
            rw [hf] at z
            obtain ⟨τ2, e2, p2⟩ := z
            exact ⟨τ2, by simp [hk1.s, e2], p1.trans p2⟩
          | false =>
            rw [hf] at z
            obtain ⟨ρ, τ2, e2, p2⟩ := z
            exact ⟨[some (.ref s), some (.str h), some (.tup [a, fl, v]), none], τ2, by simp [hk1.s, e2], p1.trans p2⟩
        · rw [decide_eq_false q, decide_eq_false (show ¬ some kd = some ("number" : Str) from fun z => q (Option.some.inj z)), Bool.false_and]
          exact ⟨[some (.ref s), some (.str h), some (.tup [a, fl, v]), none], τ1, rfl, p1⟩
  rw [if_neg c1]
  have q1' : ∀ t : Sto, eqW t (.str h) (.str "set") = some false := fun t => by rw [q1, decide_eq_false c1]
  by_cases c2 : h = "do"
  · rw [if_pos c2]
    have q2' : ∀ t : Sto, eqW t (.str h) (.str "do") = some true := fun t => by rw [q2, decide_eq_true c2]
    match xs, hn, hx with
    | [], _, _ =>
      refine ⟨[some (.ref s), some (.str h), some (.tup []), none], τ, ?_, List.prefix_refl _⟩
      rw [u15, b15]
      simp [q1', q2', z2f]
    | y1 :: y2 :: u, _, _ =>
      have hne : (((u.length : Int) + 1 + 1) == 1) = false := beq_eq_false_iff_ne.mpr (by omega)
      refine ⟨[some (.ref s), some (.str h), some (.tup (y1 :: y2 :: u)), none], τ, ?_, List.prefix_refl _⟩
      rw [u15, b15]
      simp [q1', q2', z2f, hne]
    | [a], hn, hx =>
      have z1 := (hx a (by simp)).2 1 τ hk
      show ZB (kindK ⟨Rc, Fn, sn⟩ N a).isSome τ _
      cases hv : kindK ⟨Rc, Fn, sn⟩ N a with
      | none =>
        rw [hv] at z1
        obtain ⟨ρ, τ1, e1, p1⟩ := z1
        have e1' : evF T F (m + 2) 8 [.ref s, a] τ = .exn ⟨2, []⟩ ρ τ1 := e1
        refine ⟨[some (.ref s), some (.str h), some (.tup [a]), none], τ1, ?_, p1⟩
        rw [u15, b15]
        simp [q1', q2', z2t, hk.s, e1']
      | some kd =>
        rw [hv] at z1
        obtain ⟨τ1, e1, p1⟩ := z1
        have e1' : evF T F (m + 2) 8 [.ref s, a] τ = .ok (.str kd) τ1 := e1
        refine ⟨τ1, ?_, p1⟩
        rw [u15, b15]
        simp [q1', q2', z2t, hk.s, e1']
  rw [if_neg c2]
  have q2' : ∀ t : Sto, eqW t (.str h) (.str "do") = some false := fun t => by rw [q2, decide_eq_false c2]
  have z := zelse (m := m) hg h xs hx τ hk
  have run : evF T F (m + 3) 15 [.ref s, .str h, .tup xs] τ = Mi.finish (seqR (seqR (evS T (evF T F (m + 2)) elseD [some (.ref s), some (.str h), some (.tup xs), none] τ) (evS T (evF T F (m + 2)) .nil)) (evS T (evF T F (m + 2)) .nil)) := by
    rw [u15, b15, evS_cons, evS_ife]
    have h2 : (ev T (evF T F (m + 2)) (.cmp .Eq (.var 1) (.con (.str ("set" : Str))))).t [some (.ref s), some (.str h), some (.tup xs), none] τ = .ok false τ := by simp [q1']
    have h3 : (ev T (evF T F (m + 2)) (.cmp .Eq (.var 1) (.con (.str ("do" : Str))))).t [some (.ref s), some (.str h), some (.tup xs), none] τ = .ok false τ := by simp [q2']
    rw [h2, R.bind_ok, if_neg (by decide), evS_cons, evS_ife, h3, R.bind_ok, if_neg (by decide)]
  rw [run]
  have ends : ∀ x : R Fl, Mi.finish (seqR (seqR x (evS T (evF T F (m + 2)) .nil)) (evS T (evF T F (m + 2)) .nil)) = Mi.finish x := fun x => by
    cases x with
    | ok fl t => cases fl <;> rfl
    | exn _ _ _ => rfl
    | no => rfl
  rw [ends]
  exact z
end
/-! statements: the model, each kind of statement -/
inductive O3 (α : Type) where
  | stk
  | bad
  | ok (a : α)
def O3.bind {α β : Type} (o : O3 α) (f : α → O3 β) : O3 β := match o with
  | .stk => .stk
  | .bad => .bad
  | .ok a => f a
section
variable (Rc : List (L2.Key × Mi.W)) (Fn : List (L2.Key × (List Str × Str))) (N : Nat) (gv : Str)
def ifK (pk : SE → Mi.W → O3 (SE × Bool)) (σ : SE) (xs : List Mi.W) : O3 (SE × Bool) := match xs with
  | [c, a, b] => if kindK ⟨Rc, Fn, σ.seen⟩ N c = some ("truth" : Str) then (pk σ a).bind fun p => (pk p.1 b).bind fun q => .ok (q.1, q.2 && p.2) else .bad
  | _ => .bad
def whileK (pk : SE → Mi.W → O3 (SE × Bool)) (σ : SE) (xs : List Mi.W) : O3 (SE × Bool) := match xs with
  | [c, a] => if kindK ⟨Rc, Fn, σ.seen⟩ N c = some ("truth" : Str) then (pk σ a).bind fun p => .ok (p.1, false) else .bad
  | _ => .bad
def letK (σ : SE) (h : Str) (xs : List Mi.W) : O3 (SE × Bool) := match xs with
  | [v, x] => match v with
    | .str v => if isName v = true then (match kindK ⟨Rc, Fn, σ.seen⟩ N x with
      | none => .bad
      | some kd => if σ.lets.length < 100000 ∧ σ.seen.length < 100000 then (match varK σ h v kd with
        | none => .bad
        | some σ' => .ok (σ', false)) else .stk) else .bad
    | _ => .bad
  | _ => .bad
def failK (σ : SE) (xs : List Mi.W) : O3 (SE × Bool) := match xs with
  | [x] => if numW x = true then .ok (σ, true) else .bad
  | _ => .bad
def stmtK (pk : SE → Mi.W → O3 (SE × Bool)) (σ : SE) (h : Str) (xs : List Mi.W) : O3 (SE × Bool) :=
  if h = "if" then ifK Rc Fn N pk σ xs
  else if h = "while" then whileK Rc Fn N pk σ xs
  else if h = "let" ∨ h = "put" then letK Rc Fn N σ h xs
  else if h = "fail" then failK σ xs
  else if deedS Rc Fn N gv σ.seen h xs = true then .ok (σ, decide (h = "give")) else .bad
end
def ZF (B : Sto) (s r f l e : Nat) (g : Mi.W) (τ : Sto) (o : O3 (SE × Bool)) (x : R Fl) : Prop := match o with
  | .stk => True
  | .bad => ∃ ρ τ', x = .exn ⟨2, []⟩ ρ τ' ∧ Fx B s τ'
  | .ok p => ∃ e' τ', x = .ok (.rt (.bl p.2)) τ' ∧ KS B s r f g l e' p.1 τ' ∧ Fr s l e e' τ τ'
def ZP (B : Sto) (s r f l e : Nat) (g : Mi.W) (τ : Sto) (o : O3 (SE × Bool)) (x : R Mi.W) : Prop := match o with
  | .stk => True
  | .bad => ∃ ρ τ', x = .exn ⟨2, []⟩ ρ τ' ∧ Fx B s τ'
  | .ok p => ∃ e' τ', x = .ok (.bl p.2) τ' ∧ KS B s r f g l e' p.1 τ' ∧ Fr s l e e' τ τ'
theorem ZF.seq {B : Sto} {s r f l e : Nat} {g : Mi.W} {τ : Sto} {o : O3 (SE × Bool)} {x : R Fl} {y : Sl → Sto → R Fl} (h : ZF B s r f l e g τ o x) : ZF B s r f l e g τ o (seqR x y) := by
  cases o with
  | stk => trivial
  | bad => obtain ⟨ρ, τ', e1, p1⟩ := h; exact ⟨ρ, τ', by rw [e1]; rfl, p1⟩
  | ok p => obtain ⟨e', τ', e1, p1⟩ := h; exact ⟨e', τ', by rw [e1]; rfl, p1⟩
theorem ZF.fin {B : Sto} {s r f l e : Nat} {g : Mi.W} {τ : Sto} {o : O3 (SE × Bool)} {x : R Fl} (h : ZF B s r f l e g τ o x) : ZP B s r f l e g τ o (Mi.finish x) := by
  cases o with
  | stk => trivial
  | bad => obtain ⟨ρ, τ', e1, p1⟩ := h; exact ⟨ρ, τ', by rw [e1]; rfl, p1⟩
  | ok p => obtain ⟨e', τ', e1, p1⟩ := h; exact ⟨e', τ', by rw [e1]; rfl, p1⟩
theorem if_ok : PyData.strOk ("if" : Str) = true := by decide +kernel
theorem while_ok : PyData.strOk ("while" : Str) = true := by decide +kernel
theorem let_ok : PyData.strOk ("let" : Str) = true := by decide +kernel
theorem fail_ok : PyData.strOk ("fail" : Str) = true := by decide +kernel
theorem give_ok : PyData.strOk ("give" : Str) = true := by decide +kernel
abbrev ifC : Mi.E := .conj (.cons (.cmp .Eq (.bi .len (.cons (.var 1) .nil)) (.con (.int 4))) (.cons (.cmp .Eq (.meth ("kind_of" : Str) (.var 0) (.cons (.ix (.var 1) (.con (.int 1))) .nil)) (.con (.str ("truth" : Str)))) .nil))
abbrev ifB : Mi.S := (.cons (.ex (.call 2 (.cons ifC .nil)))
  (.cons (.set 3 (.meth ("look_at_part" : Str) (.var 0) (.cons (.ix (.var 1) (.con (.int 2))) .nil)))
  (.cons (.ret (.conj (.cons (.meth ("look_at_part" : Str) (.var 0) (.cons (.ix (.var 1) (.con (.int 3))) .nil)) (.cons (.var 3) .nil))))
  .nil)))
abbrev whileC : Mi.E := .conj (.cons (.cmp .Eq (.bi .len (.cons (.var 1) .nil)) (.con (.int 3))) (.cons (.cmp .Eq (.meth ("kind_of" : Str) (.var 0) (.cons (.ix (.var 1) (.con (.int 1))) .nil)) (.con (.str ("truth" : Str)))) .nil))
abbrev whileB : Mi.S := (.cons (.ex (.call 2 (.cons whileC .nil)))
  (.cons (.ex (.meth ("look_at_part" : Str) (.var 0) (.cons (.ix (.var 1) (.con (.int 2))) .nil)))
  (.cons (.ret (.con (.bl false)))
  .nil)))
abbrev letC : Mi.E := .conj (.cons (.cmp .Eq (.bi .len (.cons (.var 1) .nil)) (.con (.int 3))) (.cons (.call 0 (.cons (.ix (.var 1) (.con (.int 1))) .nil)) .nil))
abbrev letB : Mi.S := (.cons (.ex (.call 2 (.cons letC .nil)))
  (.cons (.ex (.meth ("look_at_variable" : Str) (.var 0) (.cons (.var 2) (.cons (.ix (.var 1) (.con (.int 1))) (.cons (.meth ("kind_of" : Str) (.var 0) (.cons (.ix (.var 1) (.con (.int 2))) .nil)) .nil)))))
  (.cons (.ret (.con (.bl false)))
  .nil)))
abbrev failC : Mi.E := .conj (.cons (.cmp .Eq (.bi .len (.cons (.var 1) .nil)) (.con (.int 2))) (.cons (.call 1 (.cons (.ix (.var 1) (.con (.int 1))) .nil)) .nil))
abbrev failB : Mi.S := (.cons (.ex (.call 2 (.cons failC .nil)))
  (.cons (.ret (.con (.bl true)))
  .nil))
section
variable {B : Sto} {s r f l e : Nat} {gv : Str} {Rc : List (L2.Key × Mi.W)} {Fn : List (L2.Key × (List Str × Str))} {N m : Nat} {pk : SE → Mi.W → O3 (SE × Bool)}
theorem zif (kb : KB B s r f Rc Fn) (h : Str) (xs : List Mi.W) (σ : SE) (τ : Sto) (hs : KS B s r f (.str gv) l e σ τ)
    (hx : ∀ x ∈ xs, (∀ k, kindK ⟨Rc, Fn, σ.seen⟩ N x = some k → PyData.strOk k = true) ∧ ∀ j τ, Kl s r f l e (.str gv) ⟨Rc, Fn, σ.seen⟩ τ → ZK (kindK ⟨Rc, Fn, σ.seen⟩ N x) τ (evF T F (m + j + 1) 8 [.ref s, x] τ))
    (hp : ∀ x ∈ xs, ∀ e σ τ, KS B s r f (.str gv) l e σ τ → ZP B s r f l e (.str gv) τ (pk σ x) (evF T F (m + 3) 12 [.ref s, x] τ)) :
    ZF B s r f l e (.str gv) τ (ifK Rc Fn N pk σ xs) (evS T (evF T F (m + 3)) ifB [some (.ref s), some (.tup (.str h :: xs)), some (.str h), none] τ) := by
  have bad : xs.length ≠ 3 → ZF B s r f l e (.str gv) τ .bad (evS T (evF T F (m + 3)) ifB [some (.ref s), some (.tup (.str h :: xs)), some (.str h), none] τ) := fun hne => by
    have he : (((xs.length : Int) + 1) == 4) = false := beq_eq_false_iff_ne.mpr (by omega)
    have hw := want_eq (m + 2) ifC [some (.ref s), some (.tup (.str h :: xs)), some (.str h), none] τ (b := false) (τ1 := τ) (by simp [he])
    unfold ifB
    rw [evS_cons, hw]
    exact ⟨_, τ, rfl, hs.fix⟩
  rcases xs with _ | ⟨c, _ | ⟨a, _ | ⟨b, _ | ⟨d, u⟩⟩⟩⟩
  · exact bad (by simp)
  · exact bad (by simp)
  · exact bad (by simp)
  · obtain ⟨okc, runc⟩ := hx c (by simp)
    have z1 := runc 2 τ (hs.kl kb)
    unfold ifK
    dsimp only
    cases hc : kindK ⟨Rc, Fn, σ.seen⟩ N c with
    | none =>
      rw [hc] at z1
      obtain ⟨ρ, τ1, e1, p1⟩ := z1
      have e1' : evF T F (m + 3) 8 [.ref s, c] τ = .exn ⟨2, []⟩ ρ τ1 := e1
      rw [if_neg (by intro z; cases z)]
      exact ⟨[some (.ref s), some (.tup [.str h, c, a, b]), some (.str h), none], τ1, by simp [hs.ss, e1'], hs.fx p1⟩
    | some kd =>
      rw [hc] at z1
      obtain ⟨τ1, e1, p1⟩ := z1
      have e1' : evF T F (m + 3) 8 [.ref s, c] τ = .ok (.str kd) τ1 := e1
      have heq : ∀ t : Sto, eqW t (.str kd) (.str "truth") = some (decide (kd = "truth")) := fun t => eq_dec (okc kd hc) ok_truth
      have hs1 := hs.pre p1
      have hw := want_eq (m + 2) ifC [some (.ref s), some (.tup [.str h, c, a, b]), some (.str h), none] τ (b := decide (kd = "truth")) (τ1 := τ1) (by simp [hs.ss, e1', heq])
      by_cases q : kd = "truth"
      · rw [if_pos (by rw [q])]
        rw [decide_eq_true q] at hw
        have z2 := hp a (by simp) e σ τ1 hs1
        cases ha : pk σ a with
        | stk => trivial
        | bad =>
          rw [ha] at z2
          obtain ⟨ρ, τ2, e2, f2⟩ := z2
          refine ⟨[some (.ref s), some (.tup [.str h, c, a, b]), some (.str h), none], τ2, ?_, f2⟩
          unfold ifB
          rw [evS_cons, hw]
          simp [hs1.ss, e2]
        | ok p =>
          rw [ha] at z2
          obtain ⟨e', τ2, e2, k2, r2⟩ := z2
          have z3 := hp b (by simp) e' p.1 τ2 k2
          show ZF B s r f l e (.str gv) τ ((pk p.1 b).bind fun q => .ok (q.1, q.2 && p.2)) _
          cases hb : pk p.1 b with
          | stk => trivial
          | bad =>
            rw [hb] at z3
            obtain ⟨ρ, τ3, e3, f3⟩ := z3
            refine ⟨[some (.ref s), some (.tup [.str h, c, a, b]), some (.str h), some (.bl p.2)], τ3, ?_, f3⟩
            unfold ifB
            rw [evS_cons, hw]
            simp [hs1.ss, e2, k2.ss, e3]
          | ok q =>
            rw [hb] at z3
            obtain ⟨e'', τ3, e3, k3, r3⟩ := z3
            refine ⟨e'', τ3, ?_, k3, (Fr.pre p1).trans (r2.trans r3)⟩
            unfold ifB
            rw [evS_cons, hw]
            obtain ⟨q1, q2⟩ := q
            cases q2 <;> simp [hs1.ss, e2, k2.ss, e3]
      · rw [if_neg (fun z => q (Option.some.inj z))]
        rw [decide_eq_false q] at hw
        refine ⟨[some (.ref s), some (.tup [.str h, c, a, b]), some (.str h), none], τ1, ?_, hs.fx p1⟩
        unfold ifB
        rw [evS_cons, hw]
        rfl
  · exact bad (by simp only [List.length_cons]; omega)
theorem zwhile (kb : KB B s r f Rc Fn) (h : Str) (xs : List Mi.W) (σ : SE) (τ : Sto) (hs : KS B s r f (.str gv) l e σ τ)
    (hx : ∀ x ∈ xs, (∀ k, kindK ⟨Rc, Fn, σ.seen⟩ N x = some k → PyData.strOk k = true) ∧ ∀ j τ, Kl s r f l e (.str gv) ⟨Rc, Fn, σ.seen⟩ τ → ZK (kindK ⟨Rc, Fn, σ.seen⟩ N x) τ (evF T F (m + j + 1) 8 [.ref s, x] τ))
    (hp : ∀ x ∈ xs, ∀ e σ τ, KS B s r f (.str gv) l e σ τ → ZP B s r f l e (.str gv) τ (pk σ x) (evF T F (m + 3) 12 [.ref s, x] τ)) :
    ZF B s r f l e (.str gv) τ (whileK Rc Fn N pk σ xs) (evS T (evF T F (m + 3)) whileB [some (.ref s), some (.tup (.str h :: xs)), some (.str h), none] τ) := by
  have bad : xs.length ≠ 2 → ZF B s r f l e (.str gv) τ .bad (evS T (evF T F (m + 3)) whileB [some (.ref s), some (.tup (.str h :: xs)), some (.str h), none] τ) := fun hne => by
    have he : (((xs.length : Int) + 1) == 3) = false := beq_eq_false_iff_ne.mpr (by omega)
    have hw := want_eq (m + 2) whileC [some (.ref s), some (.tup (.str h :: xs)), some (.str h), none] τ (b := false) (τ1 := τ) (by simp [he])
    unfold whileB
    rw [evS_cons, hw]
    exact ⟨_, τ, rfl, hs.fix⟩
  rcases xs with _ | ⟨c, _ | ⟨a, _ | ⟨d, u⟩⟩⟩
  · exact bad (by simp)
  · exact bad (by simp)
  · obtain ⟨okc, runc⟩ := hx c (by simp)
    have z1 := runc 2 τ (hs.kl kb)
    unfold whileK
    dsimp only
    cases hc : kindK ⟨Rc, Fn, σ.seen⟩ N c with
    | none =>
      rw [hc] at z1
      obtain ⟨ρ, τ1, e1, p1⟩ := z1
      have e1' : evF T F (m + 3) 8 [.ref s, c] τ = .exn ⟨2, []⟩ ρ τ1 := e1
      rw [if_neg (by intro z; cases z)]
      exact ⟨[some (.ref s), some (.tup [.str h, c, a]), some (.str h), none], τ1, by simp [hs.ss, e1'], hs.fx p1⟩
    | some kd =>
      rw [hc] at z1
      obtain ⟨τ1, e1, p1⟩ := z1
      have e1' : evF T F (m + 3) 8 [.ref s, c] τ = .ok (.str kd) τ1 := e1
      have heq : ∀ t : Sto, eqW t (.str kd) (.str "truth") = some (decide (kd = "truth")) := fun t => eq_dec (okc kd hc) ok_truth
      have hs1 := hs.pre p1
      have hw := want_eq (m + 2) whileC [some (.ref s), some (.tup [.str h, c, a]), some (.str h), none] τ (b := decide (kd = "truth")) (τ1 := τ1) (by simp [hs.ss, e1', heq])
      by_cases q : kd = "truth"
      · rw [if_pos (by rw [q])]
        rw [decide_eq_true q] at hw
        have z2 := hp a (by simp) e σ τ1 hs1
        cases ha : pk σ a with
        | stk => trivial
        | bad =>
          rw [ha] at z2
          obtain ⟨ρ, τ2, e2, f2⟩ := z2
          refine ⟨[some (.ref s), some (.tup [.str h, c, a]), some (.str h), none], τ2, ?_, f2⟩
          unfold whileB
          rw [evS_cons, hw]
          simp [hs1.ss, e2]
        | ok p =>
          rw [ha] at z2
          obtain ⟨e', τ2, e2, k2, r2⟩ := z2
          refine ⟨e', τ2, ?_, k2, (Fr.pre p1).trans r2⟩
          unfold whileB
          rw [evS_cons, hw]
          simp [hs1.ss, e2]
      · rw [if_neg (fun z => q (Option.some.inj z))]
        rw [decide_eq_false q] at hw
        refine ⟨[some (.ref s), some (.tup [.str h, c, a]), some (.str h), none], τ1, ?_, hs.fx p1⟩
        unfold whileB
        rw [evS_cons, hw]
        rfl
  · exact bad (by simp only [List.length_cons]; omega)
theorem zfail (h : Str) (xs : List Mi.W) (hn : ∀ x ∈ xs, Thg N x) (σ : SE) (τ : Sto) (hs : KS B s r f (.str gv) l e σ τ) :
    ZF B s r f l e (.str gv) τ (failK σ xs) (evS T (evF T F (m + 3)) failB [some (.ref s), some (.tup (.str h :: xs)), some (.str h), none] τ) := by
  have bad : xs.length ≠ 1 → ZF B s r f l e (.str gv) τ .bad (evS T (evF T F (m + 3)) failB [some (.ref s), some (.tup (.str h :: xs)), some (.str h), none] τ) := fun hne => by
    have he : (((xs.length : Int) + 1) == 2) = false := beq_eq_false_iff_ne.mpr (by omega)
    have hw := want_eq (m + 2) failC [some (.ref s), some (.tup (.str h :: xs)), some (.str h), none] τ (b := false) (τ1 := τ) (by simp [he])
    unfold failB
    rw [evS_cons, hw]
    exact ⟨_, τ, rfl, hs.fix⟩
  rcases xs with _ | ⟨x, _ | ⟨d, u⟩⟩
  · exact bad (by simp)
  · have z1 := z1 (m + 2) x N (hn x (by simp)) τ
    have hw := want_eq (m + 2) failC [some (.ref s), some (.tup [.str h, x]), some (.str h), none] τ (b := numW x) (τ1 := τ) (by simp [z1])
    unfold failK failB
    dsimp only
    rw [evS_cons, hw]
    cases numW x with
    | true => exact ⟨e, τ, by simp, hs, .refl⟩
    | false => exact ⟨_, τ, rfl, hs.fix⟩
  · exact bad (by simp only [List.length_cons]; omega)
theorem zlet (kb : KB B s r f Rc Fn) (h : Str) (hh : PyData.strOk h = true) (xs : List Mi.W) (hn : ∀ x ∈ xs, Thg N x) (σ : SE) (τ : Sto) (hs : KS B s r f (.str gv) l e σ τ)
    (hx : ∀ x ∈ xs, (∀ k, kindK ⟨Rc, Fn, σ.seen⟩ N x = some k → PyData.strOk k = true) ∧ ∀ j τ, Kl s r f l e (.str gv) ⟨Rc, Fn, σ.seen⟩ τ → ZK (kindK ⟨Rc, Fn, σ.seen⟩ N x) τ (evF T F (m + j + 1) 8 [.ref s, x] τ)) :
    ZF B s r f l e (.str gv) τ (letK Rc Fn N σ h xs) (evS T (evF T F (m + 3)) letB [some (.ref s), some (.tup (.str h :: xs)), some (.str h), none] τ) := by
  have bad : xs.length ≠ 2 → ZF B s r f l e (.str gv) τ .bad (evS T (evF T F (m + 3)) letB [some (.ref s), some (.tup (.str h :: xs)), some (.str h), none] τ) := fun hne => by
    have he : (((xs.length : Int) + 1) == 3) = false := beq_eq_false_iff_ne.mpr (by omega)
    have hw := want_eq (m + 2) letC [some (.ref s), some (.tup (.str h :: xs)), some (.str h), none] τ (b := false) (τ1 := τ) (by simp [he])
    unfold letB
    rw [evS_cons, hw]
    exact ⟨_, τ, rfl, hs.fix⟩
  rcases xs with _ | ⟨v, _ | ⟨x, _ | ⟨d, u⟩⟩⟩
  · exact bad (by simp)
  · exact bad (by simp)
  · obtain ⟨τ0, e0, p0⟩ := z0 (m + 2) v N (hn v (by simp)) τ
    have hs0 := hs.pre p0
    have hw := want_eq (m + 2) letC [some (.ref s), some (.tup [.str h, v, x]), some (.str h), none] τ (b := nameW v) (τ1 := τ0) (by simp [e0])
    have no : nameW v = false → ZF B s r f l e (.str gv) τ .bad (evS T (evF T F (m + 3)) letB [some (.ref s), some (.tup [.str h, v, x]), some (.str h), none] τ) := fun q => by
      rw [q] at hw
      unfold letB
      rw [evS_cons, hw]
      exact ⟨_, τ0, rfl, hs.fx p0⟩
    unfold letK
    dsimp only
    cases v with
    | str v =>
      dsimp only
      by_cases q : isName v = true
      · rw [if_pos q]
        have q' : nameW (.str v) = true := q
        rw [q'] at hw
        obtain ⟨okx, runx⟩ := hx x (by simp)
        have z1 := runx 2 τ0 (hs0.kl kb)
        cases hc : kindK ⟨Rc, Fn, σ.seen⟩ N x with
        | none =>
          rw [hc] at z1
          obtain ⟨ρ, τ1, e1, p1⟩ := z1
          have e1' : evF T F (m + 3) 8 [.ref s, x] τ0 = .exn ⟨2, []⟩ ρ τ1 := e1
          refine ⟨[some (.ref s), some (.tup [.str h, .str v, x]), some (.str h), none], τ1, ?_, hs0.fx p1⟩
          unfold letB
          rw [evS_cons, hw]
          simp [hs0.ss, e1']
        | some kd =>
          rw [hc] at z1
          obtain ⟨τ1, e1, p1⟩ := z1
          have e1' : evF T F (m + 3) 8 [.ref s, x] τ0 = .ok (.str kd) τ1 := e1
          have hs1 := hs0.pre p1
          dsimp only
          by_cases hz : σ.lets.length < 100000 ∧ σ.seen.length < 100000
          · rw [if_pos hz]
            have z2 := z14 (g := .str gv) kb (m + 1) h v kd hh (Thg.str (hn (.str v) (by simp))).ok (okx kd hc) σ τ1 hs1 hz
            cases hv : varK σ h v kd with
            | none =>
              rw [hv] at z2
              obtain ⟨ρ, τ2, e2, f2⟩ := z2
              refine ⟨[some (.ref s), some (.tup [.str h, .str v, x]), some (.str h), none], τ2, ?_, f2⟩
              unfold letB
              rw [evS_cons, hw]
              simp [hs0.ss, e1', e2]
            | some σ' =>
              rw [hv] at z2
              obtain ⟨τ2, e2, k2, r2⟩ := z2
              refine ⟨e, τ2, ?_, k2, ((Fr.pre p0).trans (.pre p1)).trans r2⟩
              unfold letB
              rw [evS_cons, hw]
              simp [hs0.ss, e1', e2]
          · rw [if_neg hz]
            trivial
      · rw [if_neg q]
        exact no (by cases t : isName v with
          | true => exact absurd t q
          | false => exact t)
    | int i => exact no rfl
    | tup z => exact no rfl
    | non => exact no rfl
    | bl z => exact no rfl
    | ref z => exact no rfl
  · exact bad (by simp only [List.length_cons]; omega)
/-- look_at_statement -/
theorem z13 (kb : KB B s r f Rc Fn) (hg : PyData.strOk gv = true) (h : Str) (hh : PyData.strOk h = true) (xs : List Mi.W) (hn : ∀ x ∈ xs, Thg N x) (σ : SE) (τ : Sto) (hs : KS B s r f (.str gv) l e σ τ)
    (hx : ∀ x ∈ xs, (∀ k, kindK ⟨Rc, Fn, σ.seen⟩ N x = some k → PyData.strOk k = true) ∧ ∀ j τ, Kl s r f l e (.str gv) ⟨Rc, Fn, σ.seen⟩ τ → ZK (kindK ⟨Rc, Fn, σ.seen⟩ N x) τ (evF T F (m + j + 1) 8 [.ref s, x] τ))
    (hp : ∀ x ∈ xs, ∀ e σ τ, KS B s r f (.str gv) l e σ τ → ZP B s r f l e (.str gv) τ (pk σ x) (evF T F (m + 3) 12 [.ref s, x] τ)) :
    ZP B s r f l e (.str gv) τ (stmtK Rc Fn N gv pk σ h xs) (evF T F (m + 4) 13 [.ref s, .tup (.str h :: xs)] τ) := by
  have q1 : ∀ t : Sto, eqW t (.str h) (.str "if") = some (decide (h = "if")) := fun t => eq_dec hh if_ok
  have q2 : ∀ t : Sto, eqW t (.str h) (.str "while") = some (decide (h = "while")) := fun t => eq_dec hh while_ok
  have q4 : ∀ t : Sto, eqW t (.str h) (.str "fail") = some (decide (h = "fail")) := fun t => eq_dec hh fail_ok
  have q5 : ∀ t : Sto, eqW t (.str h) (.str "give") = some (decide (h = "give")) := fun t => eq_dec hh give_ok
  have q3 : inF (.str h) [.str "let", .str "put"] = decide (h = "let" ∨ h = "put") := by
    have := inF_dec h [("let" : Str), ("put" : Str)]
    rw [show [W.str "let", W.str "put"] = [("let" : Str), ("put" : Str)].map W.str from rfl, this]
    simp
  have first : evS T (evF T F (m + 3)) (.set 2 (.ix (.var 1) (.con (.int 0)))) [some (.ref s), some (.tup (.str h :: xs)), none, none] τ = .ok (.nx [some (.ref s), some (.tup (.str h :: xs)), some (.str h), none]) τ := by simp
  have t1 : (ev T (evF T F (m + 3)) (.cmp .Eq (.var 2) (.con (.str ("if" : Str))))).t [some (.ref s), some (.tup (.str h :: xs)), some (.str h), none] τ = .ok (decide (h = "if")) τ := by simp [q1]
  have t2 : (ev T (evF T F (m + 3)) (.cmp .Eq (.var 2) (.con (.str ("while" : Str))))).t [some (.ref s), some (.tup (.str h :: xs)), some (.str h), none] τ = .ok (decide (h = "while")) τ := by simp [q2]
  have t3 : (ev T (evF T F (m + 3)) (.cmp .In (.var 2) (.tup (.cons (.con (.str ("let" : Str))) (.cons (.con (.str ("put" : Str))) .nil))))).t [some (.ref s), some (.tup (.str h :: xs)), some (.str h), none] τ = .ok (decide (h = "let" ∨ h = "put")) τ := by
    generalize decide (h = "let" ∨ h = "put") = d at *
    simp [in_tup, q3]
  have t4 : (ev T (evF T F (m + 3)) (.cmp .Eq (.var 2) (.con (.str ("fail" : Str))))).t [some (.ref s), some (.tup (.str h :: xs)), some (.str h), none] τ = .ok (decide (h = "fail")) τ := by simp [q4]
  rw [u13, b13, evS_cons, first, seqR_nx, evS_cons, evS_ife, t1, R.bind_ok]
  unfold stmtK
  by_cases c1 : h = "if"
  · rw [if_pos c1, if_pos (decide_eq_true c1)]
    exact (zif kb h xs σ τ hs hx hp).seq.fin
  rw [if_neg c1, if_neg (show ¬ decide (h = ("if" : Str)) = true by simp [c1]), evS_nil, seqR_nx, evS_cons, evS_ife, t2, R.bind_ok]
  by_cases c2 : h = "while"
  · rw [if_pos c2, if_pos (decide_eq_true c2)]
    exact (zwhile kb h xs σ τ hs hx hp).seq.fin
  rw [if_neg c2, if_neg (show ¬ decide (h = ("while" : Str)) = true by simp [c2]), evS_nil, seqR_nx, evS_cons, evS_ife, t3, R.bind_ok]
  by_cases c3 : h = "let" ∨ h = "put"
  · rw [if_pos c3, if_pos (decide_eq_true c3)]
    exact (zlet kb h hh xs hn σ τ hs hx).seq.fin
  rw [if_neg c3, if_neg (show ¬ decide (h = ("let" : Str) ∨ h = ("put" : Str)) = true by rw [decide_eq_false c3]; decide), evS_nil, seqR_nx, evS_cons, evS_ife, t4, R.bind_ok]
  by_cases c4 : h = "fail"
  · rw [if_pos c4, if_pos (decide_eq_true c4)]
    exact (zfail h xs hn σ τ hs).seq.fin
  rw [if_neg c4, if_neg (show ¬ decide (h = ("fail" : Str)) = true by simp [c4]), evS_nil, seqR_nx]
  have z := z15 (m := m) hg h hh xs hn hx τ (hs.kl kb)
  have hc : cut (.str h :: xs) (some 1) none = xs := cut_from _ 1 1 rfl
  cases hd : deedS Rc Fn N gv σ.seen h xs with
  | false =>
    rw [hd] at z
    obtain ⟨ρ, τ1, e1, p1⟩ := z
    rw [if_neg (by decide)]
    exact ⟨[some (.ref s), some (.tup (.str h :: xs)), some (.str h), none], τ1, by simp [hs.ss, hc, e1], hs.fx p1⟩
  | true =>
    rw [hd] at z
    obtain ⟨τ1, e1, p1⟩ := z
    rw [if_pos rfl]
    exact ⟨e, τ1, by simp [hs.ss, hc, e1, q5], hs.pre p1, .pre p1⟩
end
/-! parts -/
section
variable (Rc : List (L2.Key × Mi.W)) (Fn : List (L2.Key × (List Str × Str))) (N : Nat) (gv : Str)
def stsK (pk : SE → Mi.W → O3 (SE × Bool)) : List Mi.W → SE → Bool → O3 (SE × Bool)
  | [], σ, b => .ok (σ, b)
  | w :: ws, σ, b => match b with
    | true => .bad
    | false => match w with
      | .tup (.str h :: xs) => (stmtK Rc Fn N gv pk σ h xs).bind fun p => stsK pk ws p.1 p.2
      | _ => .bad
def partK : Nat → SE → Mi.W → O3 (SE × Bool)
  | 0, _, _ => .stk
  | n + 1, σ, .tup sts => (stsK Rc Fn N gv (partK n) sts σ false).bind fun p => .ok (⟨p.1.lets, σ.seen⟩, p.2)
  | _ + 1, _, _ => .bad
end
def headW (w : Mi.W) : Bool := match w with
  | .tup xs => strHead xs
  | _ => false
abbrev stC : Mi.E := .conj (.cons (.isi (.var 4) .tuple) (.cons (.cmp .Gt (.bi .len (.cons (.var 4) .nil)) (.con (.int 0))) (.cons (.isi (.ix (.var 4) (.con (.int 0))) .str) .nil)))
theorem head_cond {N : Nat} (C : Nat → List Mi.W → Sto → R Mi.W) (x0 x1 x2 x3 : Option Mi.W) (w : Mi.W) (hw : Thg N w) (τ : Sto) : (ev T C stC).e [x0, x1, x2, x3, some w] τ = .ok (.bl (headW w)) τ := by
  cases w with
  | int i => simp [headW]
  | str i => simp [headW]
  | tup xs =>
    cases xs with
    | nil => simp [headW, strHead]
    | cons y t =>
      have hgt : (0 : Int) < (t.length : Int) + 1 := by omega
      have hy := (Thg.tup hw).2 y List.mem_cons_self
      cases y with
      | str z => simp [hgt, headW, strHead]
      | int z => simp [hgt, headW, strHead]
      | tup z => simp [hgt, headW, strHead]
      | non => exact absurd hy (by cases N - 1 <;> exact id)
      | bl b => exact absurd hy (by cases N - 1 <;> exact id)
      | ref b => exact absurd hy (by cases N - 1 <;> exact id)
  | _ => cases N <;> exact hw.elim
section
variable {B : Sto} {s r f l : Nat} {gv : Str} {Rc : List (L2.Key × Mi.W)} {Fn : List (L2.Key × (List Str × Str))} {N m : Nat} {pk : SE → Mi.W → O3 (SE × Bool)}
theorem sts_loop (kb : KB B s r f Rc Fn) (hg : PyData.strOk gv = true) (x1 x2 : Option Mi.W) (hm : 3 * N + 2 ≤ m)
    (hp : ∀ x, Thg N x → ∀ e σ τ, KS B s r f (.str gv) l e σ τ → ZP B s r f l e (.str gv) τ (pk σ x) (evF T F (m + 3) 12 [.ref s, x] τ)) :
    ∀ (sts : List Mi.W), (∀ w ∈ sts, Thg N w) → ∀ (b : Bool) (x4 : Option Mi.W) (e : Nat) (σ : SE) (τ : Sto), KS B s r f (.str gv) l e σ τ →
    match stsK Rc Fn N gv pk sts σ b with
    | .stk => True
    | .bad => ∃ ρ τ', forL (.name 4) [] (evS T (evF T F (m + 4)) l12_1) sts [some (.ref s), x1, x2, some (.bl b), x4] τ = .exn ⟨2, []⟩ ρ τ' ∧ Fx B s τ'
    | .ok p => ∃ y4 e' τ', forL (.name 4) [] (evS T (evF T F (m + 4)) l12_1) sts [some (.ref s), x1, x2, some (.bl b), x4] τ = .ok (.nx [some (.ref s), x1, x2, some (.bl p.2), y4]) τ' ∧ KS B s r f (.str gv) l e' p.1 τ' ∧ Fr s l e e' τ τ' := by
  intro sts
  induction sts with
  | nil => exact fun _ b x4 e σ τ hs => ⟨x4, e, τ, forL_nil (fun q hq => by cases hq), hs, .refl⟩
  | cons w ws ih =>
    intro hn b x4 e σ τ hs
    have hw := hn w List.mem_cons_self
    have gs : It.ok [] τ := fun q hq => by cases hq
    have hf : forL (.name 4) [] (evS T (evF T F (m + 4)) l12_1) (w :: ws) [some (.ref s), x1, x2, some (.bl b), x4] τ = loopR (evS T (evF T F (m + 4)) l12_1 [some (.ref s), x1, x2, some (.bl b), some w] τ) (forL (.name 4) [] (evS T (evF T F (m + 4)) l12_1) ws) := forL_cons gs rfl
    rw [hf]
    have w1 := want_eq (m + 3) (.not (.var 3)) [some (.ref s), x1, x2, some (.bl b), some w] τ (b := !b) (τ1 := τ) (by cases b <;> simp)
    unfold l12_1
    rw [evS_cons, w1]
    cases b with
    | true => exact ⟨_, τ, rfl, hs.fix⟩
    | false =>
      show match stsK Rc Fn N gv pk (w :: ws) σ false with
        | .stk => True
        | .bad => ∃ ρ τ', loopR (seqR (wantR _ (.bl true) τ) _) _ = .exn ⟨2, []⟩ ρ τ' ∧ Fx B s τ'
        | .ok p => ∃ y4 e' τ', loopR (seqR (wantR _ (.bl true) τ) _) _ = .ok (.nx [some (.ref s), x1, x2, some (.bl p.2), y4]) τ' ∧ KS B s r f (.str gv) l e' p.1 τ' ∧ Fr s l e e' τ τ'
      have w2 := want_eq (m + 3) stC [some (.ref s), x1, x2, some (.bl false), some w] τ (b := headW w) (τ1 := τ) (head_cond _ _ _ _ _ w hw τ)
      rw [wantR_t, seqR_nx, evS_cons, w2]
      have no : headW w = false → ∃ ρ τ', loopR (seqR (wantR [some (.ref s), x1, x2, some (.bl false), some w] (.bl (headW w)) τ) (evS T (evF T F (m + 4)) (.cons (.set 3 (.meth ("look_at_statement" : Str) (.var 0) (.cons (.var 4) .nil))) .nil))) (forL (.name 4) [] (evS T (evF T F (m + 4)) l12_1) ws) = .exn ⟨2, []⟩ ρ τ' ∧ Fx B s τ' := fun q => by
        rw [q]
        exact ⟨_, τ, rfl, hs.fix⟩
      cases w with
      | int i => exact no rfl
      | str i => exact no rfl
      | tup ys =>
        cases ys with
        | nil => exact no rfl
        | cons y t =>
          cases y with
          | int i => exact no rfl
          | tup z => exact no rfl
          | non => exact no rfl
          | bl z => exact no rfl
          | ref z => exact no rfl
          | str h =>
            have ht := (Thg.tup hw).2
            have hh := (Thg.str (ht (.str h) List.mem_cons_self)).ok
            have hxN : ∀ x ∈ t, Thg N x := fun x hx => (ht x (List.mem_cons_of_mem _ hx)).mono (by omega)
            have hx : ∀ x ∈ t, (∀ k, kindK ⟨Rc, Fn, σ.seen⟩ N x = some k → PyData.strOk k = true) ∧ ∀ j τ, Kl s r f l e (.str gv) ⟨Rc, Fn, σ.seen⟩ τ → ZK (kindK ⟨Rc, Fn, σ.seen⟩ N x) τ (evF T F (m + j + 1) 8 [.ref s, x] τ) := fun x hx => ⟨fun kd e1 => kind_ok (hs.eok kb) N x kd (hxN x hx) e1, fun j τ hτ => by
              have := z8 (hs.eok kb) N x (hxN x hx) (m + j - (3 * N + 2)) τ hτ
              rw [show m + j - (3 * N + 2) + 3 * N + 3 = m + j + 1 by omega] at this
              exact this⟩
            have z := z13 (m := m) kb hg h hh t hxN σ τ hs hx (fun x hx => hp x (hxN x hx))
            show match (stmtK Rc Fn N gv pk σ h t).bind fun p => stsK Rc Fn N gv pk ws p.1 p.2 with
              | .stk => True
              | .bad => ∃ ρ τ', loopR (seqR (wantR _ (.bl true) τ) _) _ = .exn ⟨2, []⟩ ρ τ' ∧ Fx B s τ'
              | .ok p => ∃ y4 e' τ', loopR (seqR (wantR _ (.bl true) τ) _) _ = .ok (.nx [some (.ref s), x1, x2, some (.bl p.2), y4]) τ' ∧ KS B s r f (.str gv) l e' p.1 τ' ∧ Fr s l e e' τ τ'
            rw [wantR_t, seqR_nx]
            cases ho : stmtK Rc Fn N gv pk σ h t with
            | stk => trivial
            | bad =>
              rw [ho] at z
              obtain ⟨ρ, τ1, e1, f1⟩ := z
              exact ⟨[some (.ref s), x1, x2, some (.bl false), some (.tup (.str h :: t))], τ1, by simp [hs.ss, e1], f1⟩
            | ok p =>
              rw [ho] at z
              obtain ⟨e', τ1, e1, k1, r1⟩ := z
              have ih' := ih (fun w hw => hn w (List.mem_cons_of_mem _ hw)) p.2 (some (.tup (.str h :: t))) e' p.1 τ1 k1
              have hb : evS T (evF T F (m + 4)) (.cons (.set 3 (.meth ("look_at_statement" : Str) (.var 0) (.cons (.var 4) .nil))) .nil) [some (.ref s), x1, x2, some (.bl false), some (.tup (.str h :: t))] τ = .ok (.nx [some (.ref s), x1, x2, some (.bl p.2), some (.tup (.str h :: t))]) τ1 := by
                simp [hs.ss, e1]
              rw [hb, loopR_nx]
              show match stsK Rc Fn N gv pk ws p.1 p.2 with
                | .stk => True
                | .bad => _
                | .ok q => _
              cases hq : stsK Rc Fn N gv pk ws p.1 p.2 with
              | stk => trivial
              | bad => rw [hq] at ih'; exact ih'
              | ok q =>
                rw [hq] at ih'
                obtain ⟨y4, e'', τ2, e2, k2, r2⟩ := ih'
                exact ⟨y4, e'', τ2, e2, k2, r1.trans r2⟩
      | non => exact no rfl
      | bl z => exact no rfl
      | ref z => exact no rfl
/-- look_at_part -/
theorem z12 (kb : KB B s r f Rc Fn) (hg : PyData.strOk gv = true) : ∀ (n : Nat) (x : Mi.W), Thg N x → ∀ (k e : Nat) (σ : SE) (τ : Sto), KS B s r f (.str gv) l e σ τ →
    ZP B s r f l e (.str gv) τ (partK Rc Fn N gv n σ x) (evF T F (k + 3 * N + 5 + 2 * n) 12 [.ref s, x] τ) := by
  intro n
  induction n with
  | zero => exact fun _ _ _ _ _ _ _ => trivial
  | succ n ih =>
    intro x hx k e σ τ hs
    obtain ⟨m, hm⟩ : ∃ m, m = k + 3 * N + 2 + 2 * n := ⟨_, rfl⟩
    rw [show k + 3 * N + 5 + 2 * (n + 1) = m + 5 by omega, u12, b12]
    have w1 : ∀ b, (ev T (evF T F (m + 4)) (.isi (.var 1) .tuple)).e [some (.ref s), some x, none, none, none] τ = .ok (.bl b) τ → _ := fun b hb => want_eq (m + 3) (.isi (.var 1) .tuple) [some (.ref s), some x, none, none, none] τ (b := b) (τ1 := τ) hb
    have no : (ev T (evF T F (m + 4)) (.isi (.var 1) .tuple)).e [some (.ref s), some x, none, none, none] τ = .ok (.bl false) τ → ZP B s r f l e (.str gv) τ .bad (Mi.finish (evS T (evF T F (m + 4)) (.cons (.ex (.call 2 (.cons (.isi (.var 1) .tuple) .nil))) (.cons (.set 2 (.bi .dict (.cons (.fld (.var 0) ("seen" : Str)) .nil))) (.cons (.set 3 (.con (.bl false))) (.cons (.loop (.name 4) (.seq (.var 1)) l12_1) (.cons (.setF (.var 0) ("seen" : Str) (.var 2)) (.cons (.ret (.var 3)) .nil)))))) [some (.ref s), some x, none, none, none] τ)) := fun hb => by
      rw [evS_cons, w1 false hb]
      exact ⟨_, τ, rfl, hs.fix⟩
    cases x with
    | int i => exact no (by simp)
    | str i => exact no (by simp)
    | non => exact absurd hx (by cases N <;> exact id)
    | bl i => exact absurd hx (by cases N <;> exact id)
    | ref i => exact absurd hx (by cases N <;> exact id)
    | tup sts =>
      have hsts := (Thg.tup hx).2
      obtain ⟨D, hD⟩ : ∃ D, D = AO.dic (σ.seen.map fun p => (p.1, W.str p.2)) := ⟨_, rfl⟩
      have h1 : (ev T (evF T F (m + 4)) (.bi .dict (.cons (.fld (.var 0) ("seen" : Str)) .nil))).e [some (.ref s), some (.tup sts), none, none, none] τ = .ok (.ref τ.length) (τ ++ [D]) := by
        have he := hs.ee
        rw [← hD] at he
        simp [hs.ss, dict_ref, he]
        rw [hD]
        rfl
      have p0 : τ <+: τ ++ [D] := List.prefix_append _ _
      have hs0 := hs.pre p0
      have lp := sts_loop (m := m) (N := N) (pk := partK Rc Fn N gv n) kb hg (some (.tup sts)) (some (.ref τ.length)) (by omega) (fun x hx e σ τ hs => by
        have := ih x hx k e σ τ hs
        rw [show k + 3 * N + 5 + 2 * n = m + 3 by omega] at this
        exact this) sts (fun w hw => (hsts w hw).mono (by omega)) false none e σ (τ ++ [D]) hs0
      show ZP B s r f l e (.str gv) τ ((stsK Rc Fn N gv (partK Rc Fn N gv n) sts σ false).bind fun p => .ok (⟨p.1.lets, σ.seen⟩, p.2)) _
      have run : evS T (evF T F (m + 4)) (.cons (.ex (.call 2 (.cons (.isi (.var 1) .tuple) .nil))) (.cons (.set 2 (.bi .dict (.cons (.fld (.var 0) ("seen" : Str)) .nil))) (.cons (.set 3 (.con (.bl false))) (.cons (.loop (.name 4) (.seq (.var 1)) l12_1) (.cons (.setF (.var 0) ("seen" : Str) (.var 2)) (.cons (.ret (.var 3)) .nil)))))) [some (.ref s), some (.tup sts), none, none, none] τ = seqR (forL (.name 4) [] (evS T (evF T F (m + 4)) l12_1) sts [some (.ref s), some (.tup sts), some (.ref τ.length), some (.bl false), none] (τ ++ [D])) (evS T (evF T F (m + 4)) (.cons (.setF (.var 0) ("seen" : Str) (.var 2)) (.cons (.ret (.var 3)) .nil))) := by
        rw [evS_cons, w1 true (by simp), wantR_t, seqR_nx, evS_cons]
        have h2 : evS T (evF T F (m + 4)) (.set 2 (.bi .dict (.cons (.fld (.var 0) ("seen" : Str)) .nil))) [some (.ref s), some (.tup sts), none, none, none] τ = .ok (.nx [some (.ref s), some (.tup sts), some (.ref τ.length), none, none]) (τ ++ [D]) := by
          rw [evS_set, h1]
          rfl
        rw [h2, seqR_nx, evS_cons]
        have h3 : evS T (evF T F (m + 4)) (.set 3 (.con (.bl false))) [some (.ref s), some (.tup sts), some (.ref τ.length), none, none] (τ ++ [D]) = .ok (.nx [some (.ref s), some (.tup sts), some (.ref τ.length), some (.bl false), none]) (τ ++ [D]) := by simp
        rw [h3, seqR_nx, evS_cons, evS_loop]
        have h4 : (ev T (evF T F (m + 4)) (.seq (.var 1))).i [some (.ref s), some (.tup sts), some (.ref τ.length), some (.bl false), none] (τ ++ [D]) = .ok ⟨[], sts⟩ (τ ++ [D]) := by simp
        rw [h4, R.bind_ok]
      rw [run]
      cases ho : stsK Rc Fn N gv (partK Rc Fn N gv n) sts σ false with
      | stk => trivial
      | bad =>
        rw [ho] at lp
        obtain ⟨ρ, τ1, e1, f1⟩ := lp
        exact ⟨ρ, τ1, by rw [e1]; rfl, f1⟩
      | ok p =>
        rw [ho] at lp
        obtain ⟨y4, e', τ1, e1, k1, r1⟩ := lp
        have sl : s < τ.length := (List.getElem?_eq_some_iff.mp hs.ss).1
        have ll : l < τ.length := (List.getElem?_eq_some_iff.mp hs.ll).1
        have el : e < τ.length := (List.getElem?_eq_some_iff.mp hs.ee).1
        have ho1 : τ1[τ.length]? = some D := by
          rw [r1.k τ.length (by simp) (by omega) (by omega) (by omega)]
          exact at_end _ _
        have k2 := k1.back kb (sn := σ.seen) (o := τ.length) (by rw [ho1, hD]) hs.len hs.ok hs.sz.2
        refine ⟨τ.length, τ1.set s (klO r f (.str gv) l τ.length), ?_, k2, ?_⟩
        · rw [e1]
          simp [k1.ss]
        · have r2 := Fr.pre p0 (s := s) (l := l) (e := e) |>.trans r1
          refine ⟨fun i hi h1 h2 h3 => ?_, .inr (Nat.le_refl _), by rw [List.length_set]; exact r2.n⟩
          rw [List.getElem?_set_ne (Ne.symm h1)]
          exact r2.k i hi h1 h2 h3
end
/-! forms, unlike names, kinds -/
def moB (mo : Option Int) (n : Int) : Bool := match mo with
  | none => true
  | some b => decide (n ≤ b)
def formK (h : Str) (a : Int) (mo : Option Int) (w : Mi.W) : Bool := match w with
  | .tup (.str x :: xs) => decide (x = h) && (decide (a ≤ (xs.length : Int) + 1) && moB mo ((xs.length : Int) + 1))
  | _ => false
def moW (mo : Option Int) : Mi.W := match mo with
  | none => .non
  | some b => .int b
abbrev fm1 : Mi.E := .conj (.cons (.isi (.var 0) .tuple) (.cons (.cmp .Gt (.bi .len (.cons (.var 0) .nil)) (.con (.int 0))) (.cons (.cmp .Eq (.ix (.var 0) (.con (.int 0))) (.var 1)) (.cons (.isi (.ix (.var 0) (.con (.int 0))) .str) .nil))))
abbrev fm2 : Mi.E := .conj (.cons (.cmp .LtE (.var 2) (.bi .len (.cons (.var 0) .nil))) (.cons (.disj (.cons (.cmp .Is (.var 3) (.con .non)) (.cons (.cmp .LtE (.bi .len (.cons (.var 0) .nil)) (.var 3)) .nil))) .nil))
theorem z3 {N : Nat} (k : Nat) (w : Mi.W) (hw : Thg N w) (hN : N ≤ 50) (h : Str) (hh : PyData.strOk h = true) (a : Int) (mo : Option Int) (τ : Sto) : ZB (formK h a mo w) τ (evF T F (k + 2) 3 [w, .str h, .int a, moW mo] τ) := by
  have w1 : ∀ b, (ev T (evF T F (k + 1)) fm1).e [some w, some (.str h), some (.int a), some (moW mo)] τ = .ok (.bl b) τ → evS T (evF T F (k + 1)) (.ex (.call 2 (.cons fm1 .nil))) [some w, some (.str h), some (.int a), some (moW mo)] τ = wantR [some w, some (.str h), some (.int a), some (moW mo)] (.bl b) τ := fun b hb => want_eq k fm1 _ τ hb
  have no : (ev T (evF T F (k + 1)) fm1).e [some w, some (.str h), some (.int a), some (moW mo)] τ = .ok (.bl false) τ → ZB false τ (evF T F (k + 2) 3 [w, .str h, .int a, moW mo] τ) := fun hb => by
    rw [u3, b3, evS_cons, w1 false hb]
    exact ⟨_, τ, rfl, List.prefix_refl _⟩
  cases w with
  | int i => exact no (by simp)
  | str i => exact no (by simp)
  | tup xs =>
    cases xs with
    | nil => exact no (by simp)
    | cons y t =>
      have hgt : (0 : Int) < (t.length : Int) + 1 := by omega
      have hy := (Thg.tup hw).2 y List.mem_cons_self
      have heq : ∀ t : Sto, eqW t y (.str h) = some (isS y h) := fun t => eq_thg hy (by omega) hh
      cases y with
      | int z => exact no (by simp [hgt, heq, isS])
      | tup z => exact no (by simp [hgt, heq, isS])
      | str x =>
        have hx := (Thg.str hy).ok
        have heq' : ∀ t : Sto, eqW t (.str x) (.str h) = some (decide (x = h)) := fun t => eq_dec hx hh
        have c1 : (ev T (evF T F (k + 1)) fm1).e [some (.tup (.str x :: t)), some (.str h), some (.int a), some (moW mo)] τ = .ok (.bl (decide (x = h))) τ := by
          generalize decide (x = h) = d at *
          cases d <;> simp [hgt, heq']
        have c2 : (ev T (evF T F (k + 1)) fm2).e [some (.tup (.str x :: t)), some (.str h), some (.int a), some (moW mo)] τ = .ok (.bl (decide (a ≤ (t.length : Int) + 1) && moB mo ((t.length : Int) + 1))) τ := by
          cases mo with
          | none =>
            by_cases q : a ≤ (t.length : Int) + 1
            · simp [moW, moB, q]
            · simp [moW, moB, q]
          | some b =>
            by_cases q : a ≤ (t.length : Int) + 1
            · simp [moW, moB, q]
            · simp [moW, moB, q]
        show ZB (decide (x = h) && (decide (a ≤ (t.length : Int) + 1) && moB mo ((t.length : Int) + 1))) τ _
        generalize hd : (decide (a ≤ (t.length : Int) + 1) && moB mo ((t.length : Int) + 1)) = d2 at *
        have w2 := want_eq k fm2 _ τ c2
        rw [u3, b3, evS_cons, w1 _ c1]
        cases decide (x = h) with
        | false => exact ⟨_, τ, rfl, List.prefix_refl _⟩
        | true =>
          rw [wantR_t, seqR_nx, evS_cons, w2]
          cases d2 with
          | false => exact ⟨_, τ, rfl, List.prefix_refl _⟩
          | true => exact ⟨τ, rfl, List.prefix_refl _⟩
      | non => exact absurd hy (by cases N - 1 <;> exact id)
      | bl b => exact absurd hy (by cases N - 1 <;> exact id)
      | ref b => exact absurd hy (by cases N - 1 <;> exact id)
  | _ => cases N <;> exact hw.elim
def unlK : List Str → List Mi.W → Bool
  | _, [] => true
  | pre, w :: r => match w with
    | .str s => isName s && (!decide (s ∈ pre) && unlK (pre ++ [s]) r)
    | _ => false
theorem cut_to (xs : List Mi.W) (n : Nat) : cut xs none (some (n : Int)) = xs.take n := by
  unfold cut
  rw [HT.sIx_none, HT.sIx_nat, List.drop_zero, Nat.sub_zero]
  by_cases h : n ≤ xs.length
  · rw [Nat.min_eq_left h]
  · rw [Nat.min_eq_right (by omega), List.take_length, List.take_of_length_le (by omega)]
abbrev unC : Mi.E := .conj (.cons (.call 0 (.cons (.var 2) .nil)) (.cons (.cmp .NotIn (.var 2) (.slice (.var 0) .nil (.var 1))) .nil))
theorem un_loop {k N : Nat} (v : Mi.W) (gs : List (Nat × List Mi.W)) (τ0 : Sto) (all : List Mi.W) (hok : ∀ t, τ0 <+: t → It.ok gs t)
    (hin : ∀ (s : Str) (pre : List Str) (r : List Mi.W) (t : Sto), all = pre.map W.str ++ r → τ0 <+: t → ∃ t', (ev T (evF T F (k + 1)) (.cmp .NotIn (.var 2) (.slice (.var 0) .nil (.var 1)))).e [some v, some (.int (pre.length : Int)), some (.str s)] t = .ok (.bl (!decide (s ∈ pre))) t' ∧ t <+: t') :
    ∀ (r : List Mi.W) (pre : List Str), all = pre.map W.str ++ r → (∀ x ∈ r, Thg N x) → ∀ (o1 o2 : Option Mi.W) (τ : Sto), τ0 <+: τ →
    match unlK pre r with
    | false => ∃ ρ τ', forL (.tup [1, 2]) gs (evS T (evF T F (k + 1)) l4_1) ((r.zipIdx pre.length).map fun p => .tup [.int (p.2 : Int), p.1]) [some v, o1, o2] τ = .exn ⟨2, []⟩ ρ τ' ∧ τ <+: τ'
    | true => ∃ y1 y2 τ', forL (.tup [1, 2]) gs (evS T (evF T F (k + 1)) l4_1) ((r.zipIdx pre.length).map fun p => .tup [.int (p.2 : Int), p.1]) [some v, o1, o2] τ = .ok (.nx [some v, y1, y2]) τ' ∧ τ <+: τ' := by
  intro r
  induction r with
  | nil => exact fun pre _ _ o1 o2 τ h => ⟨o1, o2, τ, forL_nil (hok τ h), List.prefix_refl _⟩
  | cons x r ih =>
    intro pre hall hx o1 o2 τ h0
    have hx0 := hx x List.mem_cons_self
    have hf : forL (.tup [1, 2]) gs (evS T (evF T F (k + 1)) l4_1) (((x :: r).zipIdx pre.length).map fun p => .tup [.int (p.2 : Int), p.1]) [some v, o1, o2] τ = loopR (evS T (evF T F (k + 1)) l4_1 [some v, some (.int (pre.length : Int)), some x] τ) (forL (.tup [1, 2]) gs (evS T (evF T F (k + 1)) l4_1) ((r.zipIdx (pre.length + 1)).map fun p => .tup [.int (p.2 : Int), p.1])) := by
      rw [List.zipIdx_cons, List.map_cons]
      exact forL_cons (hok τ h0) rfl
    rw [hf]
    obtain ⟨τ1, e1, p1⟩ := z0 k x N hx0 τ
    have no : nameW x = false → ∃ ρ τ', loopR (evS T (evF T F (k + 1)) l4_1 [some v, some (.int (pre.length : Int)), some x] τ) (forL (.tup [1, 2]) gs (evS T (evF T F (k + 1)) l4_1) ((r.zipIdx (pre.length + 1)).map fun p => .tup [.int (p.2 : Int), p.1])) = .exn ⟨2, []⟩ ρ τ' ∧ τ <+: τ' := fun q => by
      have hw := want_eq k unC [some v, some (.int (pre.length : Int)), some x] τ (b := false) (τ1 := τ1) (by simp [e1, q])
      unfold l4_1
      rw [evS_cons, hw]
      exact ⟨_, τ1, rfl, p1⟩
    cases x with
    | int i => exact no rfl
    | tup i => exact no rfl
    | non => exact no rfl
    | bl i => exact no rfl
    | ref i => exact no rfl
    | str s =>
      show match isName s && (!decide (s ∈ pre) && unlK (pre ++ [s]) r) with
        | false => _
        | true => _
      have hnm : nameW (.str s) = isName s := rfl
      cases q : isName s with
      | false => exact no q
      | true =>
        obtain ⟨τ2, e2, p2⟩ := hin s pre (.str s :: r) τ1 hall (h0.trans p1)
        have hw := want_eq k unC [some v, some (.int (pre.length : Int)), some (.str s)] τ (b := !decide (s ∈ pre)) (τ1 := τ2) (by
          have e2' := e2
          simp only [ev_cmp] at e2' ⊢
          rw [ev_conj]
          simp [e1, hnm, q]
          first | exact e2 | simpa using e2)
        have hu : l4_1 = .cons (.ex (.call 2 (.cons unC .nil))) .nil := rfl
        rw [hu, evS_cons, hw]
        cases hd : decide (s ∈ pre) with
        | true => exact ⟨_, τ2, rfl, p1.trans p2⟩
        | false =>
          have ih' := ih (pre ++ [s]) (by rw [hall]; simp) (fun z hz => hx z (List.mem_cons_of_mem _ hz)) (some (.int (pre.length : Int))) (some (.str s)) τ2 (h0.trans (p1.trans p2))
          rw [List.length_append, show ([s] : List Str).length = 1 from rfl] at ih'
          show match unlK (pre ++ [s]) r with
            | false => _
            | true => _
          rw [← hu]
          cases hr : unlK (pre ++ [s]) r with
          | false =>
            rw [hr] at ih'
            obtain ⟨ρ, τ', e3, p3⟩ := ih'
            exact ⟨ρ, τ', e3, p1.trans (p2.trans p3)⟩
          | true =>
            rw [hr] at ih'
            obtain ⟨y1, y2, τ', e3, p3⟩ := ih'
            exact ⟨y1, y2, τ', e3, p1.trans (p2.trans p3)⟩
theorem all_strs (pre : List Str) : (pre.map W.str).all flat = true := List.all_eq_true.mpr fun x hx => by
  obtain ⟨y, _, rfl⟩ := List.mem_map.mp hx
  rfl
theorem take_pre (pre : List Str) (r : List Mi.W) : (pre.map W.str ++ r).take pre.length = pre.map W.str := by
  rw [List.take_append_of_le_length (by rw [List.length_map]; exact Nat.le_refl _)]
  exact List.take_of_length_le (by rw [List.length_map]; exact Nat.le_refl _)
theorem z4t {k N : Nat} (xs : List Mi.W) (hx : ∀ x ∈ xs, Thg N x) (τ : Sto) : ZB (unlK [] xs) τ (evF T F (k + 2) 4 [.tup xs] τ) := by
  have lp := un_loop (k := k) (N := N) (.tup xs) [] τ xs (fun t _ q hq => by cases hq) (fun s pre r t hall _ => ⟨t, by
    have h1 : cut xs none (some (pre.length : Int)) = pre.map W.str := by rw [cut_to, hall, take_pre]
    have h2 := all_strs pre
    have h3 := inF_dec s pre
    generalize pre.map W.str = pm at *
    generalize decide (s ∈ pre) = d at *
    simp [h1, in_tup, h2, h3], List.prefix_refl _⟩) xs [] rfl hx none none τ (List.prefix_refl _)
  have hit : (ev T (evF T F (k + 1)) (.enum (.var 0))).i [some (.tup xs), none, none] τ = .ok ⟨[], (xs.zipIdx 0).map fun p => .tup [.int (p.2 : Int), p.1]⟩ τ := by simp [enumI_eq]
  rw [u4, b4, evS_cons, evS_loop, hit, R.bind_ok]
  cases hu : unlK [] xs with
  | false =>
    rw [hu] at lp
    obtain ⟨ρ, τ', e1, p1⟩ := lp
    exact ⟨ρ, τ', by rw [show (0 : Nat) = ([] : List Str).length from rfl, e1]; rfl, p1⟩
  | true =>
    rw [hu] at lp
    obtain ⟨y1, y2, τ', e1, p1⟩ := lp
    exact ⟨τ', by rw [show (0 : Nat) = ([] : List Str).length from rfl, e1]; rfl, p1⟩
theorem z4l {k N : Nat} (xs : List Mi.W) (hx : ∀ x ∈ xs, Thg N x) (τ : Sto) (q : Nat) (hq : τ[q]? = some (.lst xs)) : ZB (unlK [] xs) τ (evF T F (k + 2) 4 [.ref q] τ) := by
  have lp := un_loop (k := k) (N := N) (.ref q) [(q, xs)] τ xs (fun t ht z hz => by cases List.mem_singleton.mp hz; exact seq_lst (pre_get ht hq)) (fun s pre r t hall ht => ⟨t ++ [.lst (pre.map W.str)], by
    have h0 := pre_get ht hq
    have h1 : cut xs none (some (pre.length : Int)) = pre.map W.str := by rw [cut_to, hall, take_pre]
    have h2 := all_strs pre
    have h3 := inF_dec s pre
    generalize pre.map W.str = pm at *
    generalize decide (s ∈ pre) = d at *
    have h4 : (t ++ [AO.lst pm])[t.length]? = some (.lst pm) := at_end _ _
    simp [slice_ref, h0, h1, newL, in_ref, h2, h3], List.prefix_append _ _⟩) xs [] rfl hx none none τ (List.prefix_refl _)
  have hit : (ev T (evF T F (k + 1)) (.enum (.var 0))).i [some (.ref q), none, none] τ = .ok ⟨[(q, xs)], (xs.zipIdx 0).map fun p => .tup [.int (p.2 : Int), p.1]⟩ τ := by simp [enumI_eq, srcW_ref, hq]
  rw [u4, b4, evS_cons, evS_loop, hit, R.bind_ok]
  cases hu : unlK [] xs with
  | false =>
    rw [hu] at lp
    obtain ⟨ρ, τ', e1, p1⟩ := lp
    exact ⟨ρ, τ', by rw [show (0 : Nat) = ([] : List Str).length from rfl, e1]; rfl, p1⟩
  | true =>
    rw [hu] at lp
    obtain ⟨y1, y2, τ', e1, p1⟩ := lp
    exact ⟨τ', by rw [show (0 : Nat) = ([] : List Str).length from rfl, e1]; rfl, p1⟩
theorem unl_strs : ∀ (xs : List Mi.W) (pre : List Str), unlK pre xs = true → ∃ ns : List Str, xs = ns.map W.str ∧ ∀ s ∈ ns, isName s = true
  | [], _, _ => ⟨[], rfl, fun _ h => by cases h⟩
  | w :: r, pre, h => by
    cases w with
    | str s =>
      have h' : (isName s && (!decide (s ∈ pre) && unlK (pre ++ [s]) r)) = true := h
      rw [Bool.and_eq_true, Bool.and_eq_true] at h'
      obtain ⟨ns, e, hn⟩ := unl_strs r _ h'.2.2
      exact ⟨s :: ns, by rw [e]; rfl, fun z hz => by
        rcases List.mem_cons.mp hz with c | c
        · rw [c]; exact h'.1
        · exact hn z c⟩
    | _ => exact absurd h (by intro z; cases z)
/-- is_kind -/
def isK (Rc : List (L2.Key × Mi.W)) (w : Mi.W) : Bool := match w with
  | .str s => decide (s ∈ [("number" : Str), ("truth" : Str), ("list" : Str)]) || (kG Rc s).isSome
  | _ => false
theorem z6 {k N s r f l e : Nat} {g : Mi.W} {Rc : List (L2.Key × Mi.W)} (w : Mi.W) (hw : Thg N w) (τ : Sto) (hs : τ[s]? = some (klO r f g l e)) (hr : τ[r]? = some (.dic Rc)) : evF T F (k + 1) 6 [.ref s, w] τ = .ok (.bl (isK Rc w)) τ := by
  cases w with
  | int i => simp [u6, b6, isK]
  | tup i => simp [u6, b6, isK]
  | str x =>
    have h3 := inF_dec x [("number" : Str), ("truth" : Str), ("list" : Str)]
    have h4 : ([("number" : Str), ("truth" : Str), ("list" : Str)]).map W.str = [.str "number", .str "truth", .str "list"] := rfl
    have hget : kvGet Rc (.inr x) = kG Rc x := rfl
    rw [h4] at h3
    show _ = R.ok (W.bl (decide (x ∈ [("number" : Str), ("truth" : Str), ("list" : Str)]) || (kG Rc x).isSome)) τ
    generalize decide (x ∈ [("number" : Str), ("truth" : Str), ("list" : Str)]) = d at *
    rw [u6, b6]
    cases d with
    | true => simp [in_tup, h3]
    | false => simp [in_tup, h3, hs, in_ref, hr, keyOf, hget]
  | _ => cases N <;> exact hw.elim
/-! begin -/
def puts : List (L2.Key × Str) → List Str → List Str → List (L2.Key × Str)
  | sn, n :: ns, k :: ks => puts (kPut sn n k) ns ks
  | sn, _, _ => sn
theorem kPut_len (l : List (L2.Key × Str)) (k v : Str) : (kPut l k v).length ≤ l.length + 1 := by
  have := kvPut_len (l.map fun p => (p.1, W.str p.2)) (.inr k) (.str v)
  rw [kPut_map, List.length_map, List.length_map] at this
  exact this
theorem puts_len : ∀ (ns ks : List Str) (sn : List (L2.Key × Str)), (puts sn ns ks).length ≤ sn.length + ns.length
  | [], _, sn => by simp [puts]
  | _ :: _, [], sn => by simp only [puts]; omega
  | n :: ns, k :: ks, sn => by
    have h1 := puts_len ns ks (kPut sn n k)
    have h2 := kPut_len sn n k
    show (puts (kPut sn n k) ns ks).length ≤ _
    rw [List.length_cons]
    omega
theorem puts_ok : ∀ (ns ks : List Str) (sn : List (L2.Key × Str)), (∀ x k, kG sn x = some k → PyData.strOk k = true) → (∀ k ∈ ks, PyData.strOk k = true) → ∀ x k, kG (puts sn ns ks) x = some k → PyData.strOk k = true
  | [], _, sn, h, _ => by simpa [puts] using h
  | _ :: _, [], sn, h, _ => by simpa [puts] using h
  | n :: ns, k :: ks, sn, h, hk => puts_ok ns ks (kPut sn n k) (fun x k' e => by
      rw [kPut_get] at e
      split at e
      · cases e; exact hk k List.mem_cons_self
      · exact h x k' e) fun z hz => hk z (List.mem_cons_of_mem _ hz)
theorem set_same {τ : Sto} {n : Nat} {o : AO} (h : τ[n]? = some o) : τ.set n o = τ := by
  refine List.ext_getElem? fun i => ?_
  by_cases c : i = n
  · subst c
    rw [List.getElem?_set_self (List.getElem?_eq_some_iff.mp h).1, h]
  · rw [List.getElem?_set_ne (Ne.symm c)]
theorem bg_loop {s r f l e : Nat} {g : Mi.W} {C : Nat → List Mi.W → Sto → R Mi.W} (L : List Mi.W) (x1 x2 : Option Mi.W) (hle : l ≠ e) (hse : s ≠ e) : ∀ (ns ks : List Str) (sn : List (L2.Key × Str)) (x3 x4 : Option Mi.W) (τ : Sto), τ[s]? = some (klO r f g l e) → τ[l]? = some (.lst L) → τ[e]? = some (.dic (sn.map fun p => (p.1, W.str p.2))) → sn.length + ns.length ≤ 100000 →
    ∃ y3 y4, forL (.tup [3, 4]) [(l, L)] (evS T C l7_1) (((ns.map W.str).zip (ks.map W.str)).map fun p => .tup [p.1, p.2]) [some (.ref s), x1, x2, x3, x4] τ = .ok (.nx [some (.ref s), x1, x2, y3, y4]) (τ.set e (.dic ((puts sn ns ks).map fun p => (p.1, W.str p.2)))) := by
  have fin : ∀ (sn : List (L2.Key × Str)) (x3 x4 : Option Mi.W) (τ : Sto), τ[l]? = some (.lst L) → τ[e]? = some (.dic (sn.map fun p => (p.1, W.str p.2))) → ∃ y3 y4, forL (.tup [3, 4]) [(l, L)] (evS T C l7_1) [] [some (.ref s), x1, x2, x3, x4] τ = .ok (.nx [some (.ref s), x1, x2, y3, y4]) (τ.set e (.dic (sn.map fun p => (p.1, W.str p.2)))) := fun sn x3 x4 τ hl he => by
    refine ⟨x3, x4, ?_⟩
    rw [forL_nil (fun q hq => by cases List.mem_singleton.mp hq; exact seq_lst hl), set_same he]
  intro ns
  induction ns with
  | nil =>
    intro ks sn x3 x4 τ _ hl he _
    cases ks <;> exact fin sn x3 x4 τ hl he
  | cons n ns ih =>
    intro ks sn x3 x4 τ hs hl he hz
    cases ks with
    | nil => exact fin sn x3 x4 τ hl he
    | cons k ks =>
      rw [List.length_cons] at hz
      have hset := setDic he (by rw [List.length_map]; exact Nat.lt_of_lt_of_le (show sn.length < 100001 by omega) (by decide)) (.str n) (.str k) (k := .inr n) rfl
      rw [kPut_map] at hset
      have e1 : e < τ.length := (List.getElem?_eq_some_iff.mp he).1
      obtain ⟨y3, y4, ih'⟩ := ih ks (kPut sn n k) (some (.str n)) (some (.str k)) (τ.set e (.dic ((kPut sn n k).map fun p => (p.1, W.str p.2)))) (by rw [List.getElem?_set_ne (Ne.symm hse)]; exact hs) (by rw [List.getElem?_set_ne (Ne.symm hle)]; exact hl) (List.getElem?_set_self e1) (by have := kPut_len sn n k; omega)
      refine ⟨y3, y4, ?_⟩
      have hf : forL (.tup [3, 4]) [(l, L)] (evS T C l7_1) ((((n :: ns).map W.str).zip ((k :: ks).map W.str)).map fun p => .tup [p.1, p.2]) [some (.ref s), x1, x2, x3, x4] τ = loopR (evS T C l7_1 [some (.ref s), x1, x2, some (.str n), some (.str k)] τ) (forL (.tup [3, 4]) [(l, L)] (evS T C l7_1) (((ns.map W.str).zip (ks.map W.str)).map fun p => .tup [p.1, p.2])) := by
        rw [List.map_cons, List.map_cons, List.zip_cons_cons, List.map_cons]
        exact forL_cons (fun q hq => by cases List.mem_singleton.mp hq; exact seq_lst hl) rfl
      have hb : evS T C l7_1 [some (.ref s), x1, x2, some (.str n), some (.str k)] τ = .ok (.nx [some (.ref s), x1, x2, some (.str n), some (.str k)]) (τ.set e (.dic ((kPut sn n k).map fun p => (p.1, W.str p.2)))) := by
        unfold l7_1
        generalize sn.map (fun p => (p.1, W.str p.2)) = sm at *
        simp [hs, hset]
      rw [hf, hb, loopR_nx, ih', List.set_set]
      rfl
theorem every_map (ns : List Str) : ∀ (n : Nat) (l : List Mi.W), l.length ≤ n → (∀ x ∈ everyO l, x ∈ l) ∧ (everyO l).length ≤ l.length
  | _, [], _ => ⟨fun _ h => h, Nat.le_refl _⟩
  | _, [a], _ => ⟨fun _ h => h, Nat.le_refl _⟩
  | 0, _ :: _ :: _, h => absurd h (by simp)
  | n + 1, a :: b :: r, h => by
    have ih := every_map ns n r (by simp only [List.length_cons] at h; omega)
    refine ⟨fun x hx => ?_, ?_⟩
    · rcases List.mem_cons.mp (show x ∈ a :: everyO r from hx) with c | c
      · rw [c]; exact List.mem_cons_self
      · exact List.mem_cons_of_mem _ (List.mem_cons_of_mem _ (ih.1 x c))
    · show (a :: everyO r).length ≤ _
      have := ih.2
      simp only [List.length_cons]
      omega
theorem every_mem {l : List Mi.W} {x : Mi.W} (h : x ∈ everyO l) : x ∈ l := (every_map [] l.length l (Nat.le_refl _)).1 x h
theorem every_len (l : List Mi.W) : (everyO l).length ≤ l.length := (every_map [] l.length l (Nat.le_refl _)).2
section
variable {s r f l e N k : Nat} {g : Mi.W} {Rc : List (L2.Key × Mi.W)} {Fn : List (L2.Key × (List Str × Str))}
/-- a function begun -/
theorem z7 (h nm : Mi.W) (ps body : List Mi.W) (gv : Str) (hps : ∀ x ∈ ps, Thg N x) (hpl : ps.length ≤ 8) (ks : List Str) (hks : everyO (ps.drop 1) = ks.map W.str) (hok : ∀ k ∈ ks, PyData.strOk k = true) (τ : Sto) (hs : τ[s]? = some (klO r f g l e)) :
    match unlK [] (everyO ps) with
    | false => ∃ ρ τ', evF T F (k + 3) 7 [.ref s, .tup (h :: nm :: .tup ps :: .str gv :: body)] τ = .exn ⟨2, []⟩ ρ τ' ∧ τ <+: τ'
    | true => ∃ (ns : List Str) (l' e' : Nat) (τ' : Sto), everyO ps = ns.map W.str ∧ evF T F (k + 3) 7 [.ref s, .tup (h :: nm :: .tup ps :: .str gv :: body)] τ = .ok .non τ' ∧ KS τ s r f (.str gv) l' e' ⟨ns, puts [] ns ks⟩ τ' := by
  have sl : s < τ.length := (List.getElem?_eq_some_iff.mp hs).1
  have p1 : τ <+: τ ++ [AO.lst (everyO ps)] := List.prefix_append _ _
  have hv : (τ ++ [AO.lst (everyO ps)])[τ.length]? = some (.lst (everyO ps)) := at_end _ _
  have z := z4l (k := k) (N := N) (everyO ps) (fun x hx => hps x (every_mem hx)) (τ ++ [AO.lst (everyO ps)]) τ.length hv
  have st1 : evS T (evF T F (k + 2)) (.set 2 (.bi .list (.cons (.every 0 (.ix (.var 1) (.con (.int 2)))) .nil))) [some (.ref s), some (.tup (h :: nm :: .tup ps :: .str gv :: body)), none, none, none] τ = .ok (.nx [some (.ref s), some (.tup (h :: nm :: .tup ps :: .str gv :: body)), some (.ref τ.length), none, none]) (τ ++ [AO.lst (everyO ps)]) := by simp [newL]
  rw [u7, b7, evS_cons, st1, seqR_nx, evS_cons]
  cases hu : unlK [] (everyO ps) with
  | false =>
    rw [hu] at z
    obtain ⟨ρ, τ2, e2, p2⟩ := z
    exact ⟨[some (.ref s), some (.tup (h :: nm :: .tup ps :: .str gv :: body)), some (.ref τ.length), none, none], τ2, by simp [e2], p1.trans p2⟩
  | true =>
    rw [hu] at z
    obtain ⟨τ2, e2, p2⟩ := z
    obtain ⟨ns, hns, _⟩ := unl_strs _ _ hu
    have hnl : ns.length ≤ 8 := by
      have := every_len ps
      rw [hns, List.length_map] at this
      omega
    have p12 := p1.trans p2
    have hs2 := pre_get p12 hs
    have hv2 := pre_get p2 hv
    have l2 : τ.length < τ2.length := (List.getElem?_eq_some_iff.mp hv2).1
    have st2 : evS T (evF T F (k + 2)) (.ex (.call 4 (.cons (.var 2) .nil))) [some (.ref s), some (.tup (h :: nm :: .tup ps :: .str gv :: body)), some (.ref τ.length), none, none] (τ ++ [AO.lst (everyO ps)]) = .ok (.nx [some (.ref s), some (.tup (h :: nm :: .tup ps :: .str gv :: body)), some (.ref τ.length), none, none]) τ2 := by simp [e2]
    rw [st2, seqR_nx, evS_cons]
    have s2l : s < τ2.length := by omega
    have st3 : evS T (evF T F (k + 2)) (.setF (.var 0) ("given" : Str) (.ix (.var 1) (.con (.int 3)))) [some (.ref s), some (.tup (h :: nm :: .tup ps :: .str gv :: body)), some (.ref τ.length), none, none] τ2 = .ok (.nx [some (.ref s), some (.tup (h :: nm :: .tup ps :: .str gv :: body)), some (.ref τ.length), none, none]) (τ2.set s (klO r f (.str gv) l e)) := by simp [hs2]
    have hs3 : (τ2.set s (klO r f (.str gv) l e))[s]? = some (klO r f (.str gv) l e) := List.getElem?_set_self s2l
    have st4 : evS T (evF T F (k + 2)) (.setF (.var 0) ("lets" : Str) (.var 2)) [some (.ref s), some (.tup (h :: nm :: .tup ps :: .str gv :: body)), some (.ref τ.length), none, none] (τ2.set s (klO r f (.str gv) l e)) = .ok (.nx [some (.ref s), some (.tup (h :: nm :: .tup ps :: .str gv :: body)), some (.ref τ.length), none, none]) (τ2.set s (klO r f (.str gv) τ.length e)) := by simp [hs3, List.set_set]
    rw [st3, seqR_nx, evS_cons, st4, seqR_nx, evS_cons]
    have hs4 : (τ2.set s (klO r f (.str gv) τ.length e) ++ [AO.dic []])[s]? = some (klO r f (.str gv) τ.length e) := at_old (List.getElem?_set_self s2l)
    have st5 : evS T (evF T F (k + 2)) (.setF (.var 0) ("seen" : Str) (.dic .nil .nil)) [some (.ref s), some (.tup (h :: nm :: .tup ps :: .str gv :: body)), some (.ref τ.length), none, none] (τ2.set s (klO r f (.str gv) τ.length e)) = .ok (.nx [some (.ref s), some (.tup (h :: nm :: .tup ps :: .str gv :: body)), some (.ref τ.length), none, none]) ((τ2.set s (klO r f (.str gv) τ.length e) ++ [AO.dic []]).set s (klO r f (.str gv) τ.length τ2.length)) := by
      simp [hs4]
    rw [st5, seqR_nx, evS_cons, evS_loop]
    obtain ⟨τ5, hτ5⟩ : ∃ t, t = (τ2.set s (klO r f (.str gv) τ.length e) ++ [AO.dic []]).set s (klO r f (.str gv) τ.length τ2.length) := ⟨_, rfl⟩
    rw [← hτ5]
    have len5 : τ5.length = τ2.length + 1 := by rw [hτ5]; simp
    have hs5 : τ5[s]? = some (klO r f (.str gv) τ.length τ2.length) := by
      rw [hτ5]
      exact List.getElem?_set_self (by simp; omega)
    have oth : ∀ i, i < τ2.length → i ≠ s → τ5[i]? = τ2[i]? := fun i hi hne => by
      rw [hτ5, List.getElem?_set_ne (Ne.symm hne), List.getElem?_append_left (by rw [List.length_set]; exact hi), List.getElem?_set_ne (Ne.symm hne)]
    have hl5 : τ5[τ.length]? = some (.lst (ns.map W.str)) := by
      rw [oth _ l2 (by omega), hv2, hns]
    have he5 : τ5[τ2.length]? = some (.dic (([] : List (L2.Key × Str)).map fun p => (p.1, W.str p.2))) := by
      rw [hτ5, List.getElem?_set_ne (by omega), List.getElem?_append_right (by rw [List.length_set]; exact Nat.le_refl _), List.length_set, Nat.sub_self]
      rfl
    have hit : (ev T (evF T F (k + 2)) (.zip (.cons (.var 2) (.cons (.every 1 (.ix (.var 1) (.con (.int 2)))) .nil)))).i [some (.ref s), some (.tup (h :: nm :: .tup ps :: .str gv :: body)), some (.ref τ.length), none, none] τ5 = .ok ⟨[(τ.length, ns.map W.str)], ((ns.map W.str).zip (ks.map W.str)).map fun p => .tup [p.1, p.2]⟩ τ5 := by
      generalize ns.map W.str = nm at *
      generalize ks.map W.str = km at *
      simp [zipI_eq2, srcW_ref, hl5, ← hks]
    rw [hit, R.bind_ok]
    obtain ⟨y3, y4, lp⟩ := bg_loop (C := evF T F (k + 2)) (ns.map W.str) (some (.tup (h :: nm :: .tup ps :: .str gv :: body))) (some (.ref τ.length)) (by omega) (by omega) ns ks [] none none τ5 hs5 hl5 he5 (by simp; omega)
    refine ⟨ns, τ.length, τ2.length, τ5.set τ2.length (.dic ((puts [] ns ks).map fun p => (p.1, W.str p.2))), hns, by rw [lp]; rfl, ?_⟩
    refine ⟨?_, fun i hi hne => ?_, by rw [List.length_set]; omega, ?_, Nat.le_refl _, ?_, by omega, puts_ok ns ks [] (fun x k hx => by cases hx) hok, ?_⟩
    · rw [List.getElem?_set_ne (by omega)]; exact hs5
    · rw [List.getElem?_set_ne (by omega), oth i (by omega) hne]
      obtain ⟨q, hq⟩ := p12
      rw [← hq]
      exact List.getElem?_append_left hi
    · rw [List.getElem?_set_ne (by omega)]; exact hl5
    · exact List.getElem?_set_self (by omega)
    · have := puts_len ns ks []
      rw [List.length_nil] at this
      exact ⟨by show ns.length ≤ _; omega, by show (puts [] ns ks).length ≤ _; omega⟩
end
/-! records and heads -/
def pl3 : List Str := [("number" : Str), ("truth" : Str), ("list" : Str)]
def recK (acc : List (L2.Key × Mi.W)) (w : Mi.W) : Option (List (L2.Key × Mi.W)) :=
  if formK "record" 3 (some 6) w = true then match w with
    | .tup (_ :: .str nm :: fs) => if (isName nm && (!decide (nm ∈ pl3) && !(kG acc nm).isSome)) = true then (if unlK [] fs = true then some (kvPut acc (.inr nm) (.tup fs)) else none) else none
    | _ => none
  else none
def recsK : List Mi.W → List (L2.Key × Mi.W) → Option (List (L2.Key × Mi.W))
  | [], acc => some acc
  | w :: r, acc => (recK acc w).bind (recsK r)
def RA (Rc : List (L2.Key × Mi.W)) : Prop := ∀ k w, kG Rc k = some w → ∃ fs, w = .tup fs ∧ fs.all flat = true
theorem RA.put {acc : List (L2.Key × Mi.W)} (h : RA acc) (nm : Str) (fs : List Mi.W) (hf : fs.all flat = true) : RA (kvPut acc (.inr nm) (.tup fs)) := by
  intro k w e
  have e' : kvGet (kvPut acc (.inr nm) (.tup fs)) (.inr k) = some w := e
  rw [kvGet_put] at e'
  split at e'
  · cases e'; exact ⟨fs, rfl, hf⟩
  · exact h k w e'
theorem unl_flat {xs : List Mi.W} (h : unlK [] xs = true) : xs.all flat = true := by
  obtain ⟨ns, e, _⟩ := unl_strs _ _ h
  rw [e]
  exact all_strs ns
theorem pre_set {τ0 τ : Sto} {d : Nat} {o : AO} (p : τ0 <+: τ) (h : τ0.length ≤ d) : τ0 <+: τ.set d o := by
  obtain ⟨q, rfl⟩ := p
  rw [List.set_append_right _ _ h]
  exact List.prefix_append _ _
theorem rec_ok : PyData.strOk ("record" : Str) = true := by decide +kernel
theorem fun_ok : PyData.strOk ("fun" : Str) = true := by decide +kernel
abbrev rcC : Mi.E := .conj (.cons (.call 0 (.cons (.ix (.var 2) (.con (.int 1))) .nil)) (.cons (.cmp .NotIn (.ix (.var 2) (.con (.int 1))) (.tup (.cons (.con (.str ("number" : Str))) (.cons (.con (.str ("truth" : Str))) (.cons (.con (.str ("list" : Str))) .nil))))) (.cons (.cmp .NotIn (.ix (.var 2) (.con (.int 1))) (.var 1)) .nil)))
theorem form_len {h : Str} {a : Int} {mo : Option Int} {w : Mi.W} (e : formK h a mo w = true) : ∃ xs, w = .tup (.str h :: xs) ∧ a ≤ (xs.length : Int) + 1 := by
  unfold formK at e
  split at e
  · rename_i x xs
    rw [Bool.and_eq_true, Bool.and_eq_true] at e
    refine ⟨xs, by rw [of_decide_eq_true e.1], of_decide_eq_true e.2.1⟩
  · cases e
section
variable {N m : Nat}
theorem rec_one (hN : N ≤ 50) (x0 : Option Mi.W) (d : Nat) (w : Mi.W) (hw : Thg N w) (acc : List (L2.Key × Mi.W)) (hz : acc.length < 100000) (τ0 τ : Sto) (hd : τ[d]? = some (.dic acc)) (h0 : τ0 <+: τ) (hdl : τ0.length ≤ d) :
    match recK acc w with
    | none => ∃ ρ τ', evS T (evF T F (m + 2)) l17_1 [x0, some (.ref d), some w] τ = .exn ⟨2, []⟩ ρ τ' ∧ τ0 <+: τ'
    | some acc' => ∃ τ', evS T (evF T F (m + 2)) l17_1 [x0, some (.ref d), some w] τ = .ok (.nx [x0, some (.ref d), some w]) τ' ∧ τ0 <+: τ' ∧ τ'[d]? = some (.dic acc') := by
  have z := z3 (k := m) w hw hN "record" rec_ok 3 (some 6) τ
  have hev : (ev T (evF T F (m + 2)) (.call 3 (.cons (.var 2) (.cons (.con (.str ("record" : Str))) (.cons (.con (.int 3)) (.cons (.op .Add (.con (.int 2)) (.con (.int 4))) .nil)))))).e [x0, some (.ref d), some w] τ = tail [x0, some (.ref d), some w] (evF T F (m + 2) 3 [w, .str "record", .int 3, .int 6] τ) := by simp
  unfold recK l17_1
  cases hf : formK "record" 3 (some 6) w with
  | false =>
    rw [hf] at z
    obtain ⟨ρ, τ1, e1, p1⟩ := z
    have e1' : evF T F (m + 2) 3 [w, .str "record", .int 3, .int 6] τ = .exn ⟨2, []⟩ ρ τ1 := e1
    rw [if_neg (by decide)]
    exact ⟨[x0, some (.ref d), some w], τ1, by rw [evS_cons, evS_ex, hev, e1']; rfl, h0.trans p1⟩
  | true =>
    rw [hf] at z
    obtain ⟨τ1, e1, p1⟩ := z
    have e1' : evF T F (m + 2) 3 [w, .str "record", .int 3, .int 6] τ = .ok .non τ1 := e1
    rw [if_pos rfl]
    have st1 : evS T (evF T F (m + 2)) (.ex (.call 3 (.cons (.var 2) (.cons (.con (.str ("record" : Str))) (.cons (.con (.int 3)) (.cons (.op .Add (.con (.int 2)) (.con (.int 4))) .nil)))))) [x0, some (.ref d), some w] τ = .ok (.nx [x0, some (.ref d), some w]) τ1 := by
      rw [evS_ex, hev, e1']
      rfl
    rw [evS_cons, st1, seqR_nx, evS_cons]
    obtain ⟨xs, rfl, hlen⟩ := form_len hf
    have hxs := (Thg.tup hw).2
    have hd1 := pre_get p1 hd
    rcases xs with _ | ⟨nm, fs⟩
    · exact absurd hlen (by decide)
    have hnm := hxs nm (by simp)
    obtain ⟨τ2, e2, p2⟩ := z0 (m + 1) nm (N - 1) hnm τ1
    have hd2 := pre_get p2 hd1
    have p12 := h0.trans (p1.trans p2)
    have no : nameW nm = false → ∃ ρ τ', seqR (evS T (evF T F (m + 2)) (.ex (.call 2 (.cons rcC .nil))) [x0, some (.ref d), some (.tup (.str "record" :: nm :: fs))] τ1) (evS T (evF T F (m + 2)) (.cons (.ex (.call 4 (.cons (.slice (.var 2) (.con (.int 2)) .nil) .nil))) (.cons (.setI (.var 1) (.ix (.var 2) (.con (.int 1))) (.slice (.var 2) (.con (.int 2)) .nil)) .nil))) = .exn ⟨2, []⟩ ρ τ' ∧ τ0 <+: τ' := fun q => by
      have hw := want_eq (m + 1) rcC [x0, some (.ref d), some (.tup (.str "record" :: nm :: fs))] τ1 (b := false) (τ1 := τ2) (by simp [e2, q])
      rw [hw]
      exact ⟨_, τ2, rfl, p12⟩
    cases nm with
    | int i => exact no rfl
    | tup i => exact no rfl
    | non => exact no rfl
    | bl i => exact no rfl
    | ref i => exact no rfl
    | str nm =>
      dsimp only
      have h3 := inF_dec nm pl3
      have h4 : pl3.map W.str = [.str "number", .str "truth", .str "list"] := rfl
      rw [h4] at h3
      have hq : nameW (.str nm) = isName nm := rfl
      have hget : kvGet acc (.inr nm) = kG acc nm := rfl
      have hw := want_eq (m + 1) rcC [x0, some (.ref d), some (.tup (.str "record" :: .str nm :: fs))] τ1 (b := isName nm && (!decide (nm ∈ pl3) && !(kG acc nm).isSome)) (τ1 := τ2) (by
        generalize decide (nm ∈ pl3) = dd at *
        cases q : isName nm with
        | false => simp [e2, hq, q]
        | true =>
          cases dd with
          | true => simp [e2, hq, q, in_tup, h3]
          | false => simp [e2, hq, q, in_tup, h3, in_ref, hd2, keyOf, hget])
      rw [hw]
      cases hb : (isName nm && (!decide (nm ∈ pl3) && !(kG acc nm).isSome)) with
      | false =>
        rw [if_neg (by decide)]
        exact ⟨_, τ2, rfl, p12⟩
      | true =>
        rw [if_pos rfl, wantR_t, seqR_nx, evS_cons]
        have hc : cut (.str "record" :: .str nm :: fs) (some 2) none = fs := cut_from _ 2 2 rfl
        have z2 := z4t (k := m) (N := N - 1) fs (fun x hx => hxs x (by simp [hx])) τ2
        cases hu : unlK [] fs with
        | false =>
          rw [hu] at z2
          obtain ⟨ρ, τ3, e3, p3⟩ := z2
          rw [if_neg (by decide)]
          exact ⟨[x0, some (.ref d), some (.tup (.str "record" :: .str nm :: fs))], τ3, by simp [hc, e3], p12.trans p3⟩
        | true =>
          rw [hu] at z2
          obtain ⟨τ3, e3, p3⟩ := z2
          rw [if_pos rfl]
          have hd3 := pre_get p3 hd2
          have hset := setDic hd3 (Nat.lt_of_lt_of_le hz (by decide)) (.str nm) (.tup fs) (k := .inr nm) rfl
          exact ⟨τ3.set d (.dic (kvPut acc (.inr nm) (.tup fs))), by simp [hc, e3, hset], pre_set (p12.trans p3) hdl, List.getElem?_set_self (List.getElem?_eq_some_iff.mp hd3).1⟩
theorem rec_loop (hN : N ≤ 50) (x0 : Option Mi.W) (d : Nat) (τ0 : Sto) (hdl : τ0.length ≤ d) : ∀ (ws : List Mi.W), (∀ w ∈ ws, Thg N w) → ∀ (x2 : Option Mi.W) (acc : List (L2.Key × Mi.W)) (τ : Sto), acc.length + ws.length < 100000 → τ[d]? = some (.dic acc) → τ0 <+: τ → RA acc →
    match recsK ws acc with
    | none => ∃ ρ τ', forL (.name 2) [] (evS T (evF T F (m + 2)) l17_1) ws [x0, some (.ref d), x2] τ = .exn ⟨2, []⟩ ρ τ' ∧ τ0 <+: τ'
    | some acc' => RA acc' ∧ ∃ y2 τ', forL (.name 2) [] (evS T (evF T F (m + 2)) l17_1) ws [x0, some (.ref d), x2] τ = .ok (.nx [x0, some (.ref d), y2]) τ' ∧ τ0 <+: τ' ∧ τ'[d]? = some (.dic acc') := by
  intro ws
  induction ws with
  | nil => exact fun _ x2 acc τ _ hd h0 ra => ⟨ra, x2, τ, forL_nil (fun q hq => by cases hq), h0, hd⟩
  | cons w ws ih =>
    intro hw x2 acc τ hz hd h0 ra
    rw [List.length_cons] at hz
    have o := rec_one (m := m) hN x0 d w (hw w List.mem_cons_self) acc (by omega) τ0 τ hd h0 hdl
    have hf : forL (.name 2) [] (evS T (evF T F (m + 2)) l17_1) (w :: ws) [x0, some (.ref d), x2] τ = loopR (evS T (evF T F (m + 2)) l17_1 [x0, some (.ref d), some w] τ) (forL (.name 2) [] (evS T (evF T F (m + 2)) l17_1) ws) := forL_cons (fun q hq => by cases hq) rfl
    rw [hf]
    show match (recK acc w).bind (recsK ws) with
      | none => _
      | some acc' => _
    cases hr : recK acc w with
    | none =>
      rw [hr] at o
      obtain ⟨ρ, τ', e1, p1⟩ := o
      exact ⟨ρ, τ', by rw [e1]; rfl, p1⟩
    | some a1 =>
      rw [hr] at o
      obtain ⟨τ1, e1, p1, d1⟩ := o
      have fact : a1.length ≤ acc.length + 1 ∧ RA a1 := by
        unfold recK at hr
        split at hr
        · split at hr
          · split at hr
            · split at hr
              · rename_i hu
                cases hr
                exact ⟨kvPut_len _ _ _, ra.put _ _ (unl_flat hu)⟩
              · cases hr
            · cases hr
          · cases hr
        · cases hr
      have ih' := ih (fun z hz => hw z (List.mem_cons_of_mem _ hz)) (some w) a1 τ1 (by omega) d1 p1 fact.2
      rw [e1, loopR_nx]
      exact ih'
/-- look_at_records -/
theorem z17 (hN : N ≤ 50) (ws : List Mi.W) (hw : ∀ w ∈ ws, Thg N w) (hl : ws.length ≤ 10000) (τ : Sto) :
    match recsK ws [] with
    | none => ∃ ρ τ', evF T F (m + 3) 17 [.tup ws] τ = .exn ⟨2, []⟩ ρ τ' ∧ τ <+: τ'
    | some Rc => RA Rc ∧ ∃ d τ', evF T F (m + 3) 17 [.tup ws] τ = .ok (.ref d) τ' ∧ τ <+: τ' ∧ τ'[d]? = some (.dic Rc) := by
  have lp := rec_loop (m := m) hN (some (.tup ws)) τ.length τ (Nat.le_refl _) ws hw none [] (τ ++ [.dic []]) (by simp; omega) (at_end _ _) (List.prefix_append _ _) (fun k w e => by cases e)
  have st1 : evS T (evF T F (m + 2)) (.set 1 (.dic .nil .nil)) [some (.tup ws), none, none] τ = .ok (.nx [some (.tup ws), some (.ref τ.length), none]) (τ ++ [.dic []]) := by simp
  have hit : (ev T (evF T F (m + 2)) (.seq (.var 0))).i [some (.tup ws), some (.ref τ.length), none] (τ ++ [AO.dic []]) = .ok ⟨[], ws⟩ (τ ++ [.dic []]) := by simp
  rw [u17, b17, evS_cons, st1, seqR_nx, evS_cons, evS_loop, hit, R.bind_ok]
  cases hr : recsK ws [] with
  | none =>
    rw [hr] at lp
    obtain ⟨ρ, τ', e1, p1⟩ := lp
    exact ⟨ρ, τ', by rw [e1]; rfl, p1⟩
  | some Rc =>
    rw [hr] at lp
    obtain ⟨ra, y2, τ', e1, p1, d1⟩ := lp
    exact ⟨ra, τ.length, τ', by rw [e1]; simp, p1, d1⟩
end
/-! heads of functions -/
def wstrs (xs : List Mi.W) : List Str := xs.filterMap fun w => match w with
  | .str s => some s
  | _ => none
def headK (Rc : List (L2.Key × Mi.W)) (Fn : List (L2.Key × (List Str × Str))) (w : Mi.W) : Option (List (L2.Key × (List Str × Str))) :=
  if formK "fun" 5 none w = true then match w with
    | .tup (_ :: .str nm :: .tup ps :: gk :: _) => if (isName nm && !(kG Fn nm).isSome) = true then (if ps.length % 2 = 0 ∧ ps.length ≤ 8 then (if (everyO (ps.drop 1) ++ [gk]).all (isK Rc) = true then (match gk with
      | .str g => some (Fn ++ [(.inr nm, (wstrs (everyO (ps.drop 1)), g))])
      | _ => none) else none) else none) else none
    | _ => none
  else none
def headsK (Rc : List (L2.Key × Mi.W)) : List Mi.W → List (L2.Key × (List Str × Str)) → Option (List (L2.Key × (List Str × Str)))
  | [], Fn => some Fn
  | w :: r, Fn => (headK Rc Fn w).bind (headsK Rc r)
theorem kinds_strs {Rc : List (L2.Key × Mi.W)} : ∀ {xs : List Mi.W}, xs.all (isK Rc) = true → xs = (wstrs xs).map W.str
  | [], _ => rfl
  | w :: r, h => by
    rw [List.all_cons, Bool.and_eq_true] at h
    have ih := kinds_strs h.2
    cases w with
    | str s =>
      show W.str s :: r = W.str s :: (wstrs r).map W.str
      rw [← ih]
    | _ => exact absurd h.1 (by intro z; cases z)
theorem kG_app {α : Type} (l : List (L2.Key × α)) (nm x : Str) (p : α) (h : kG l nm = none) : kG (l ++ [(.inr nm, p)]) x = if x = nm then some p else kG l x := by
  unfold kG at *
  rw [List.find?_append]
  by_cases c : x = nm
  · subst c
    rw [if_pos rfl]
    cases e : l.find? fun kv => decide (kv.1 = .inr x) with
    | some y => rw [e] at h; cases h
    | none => simp
  · rw [if_neg c]
    have : ([(Sum.inr nm, p)] : List (L2.Key × α)).find? (fun kv => decide (kv.1 = .inr x)) = none := by
      simp only [List.find?_cons, decide_eq_false (show ¬ (Sum.inr nm : L2.Key) = .inr x from fun z => c (Sum.inr.inj z).symm), List.find?_nil]
    rw [this, Option.or_none]
structure HS (τ0 : Sto) (s r f l e : Nat) (Rc : List (L2.Key × Mi.W)) (Fn : List (L2.Key × (List Str × Str))) (τ : Sto) : Prop where
  ss : τ[s]? = some (klO r f (.str "number") l e)
  rr : τ[r]? = some (.dic Rc)
  p : τ0 <+: τ
  rf : r ≠ f
  f0 : τ0.length ≤ f
  sf : s ≠ f
  kk : ∃ fk, τ[f]? = some (.dic fk) ∧ fk.length ≤ Fn.length ∧ ∀ x, match kG Fn x with
    | some p => ∃ k, k ≠ s ∧ k ≠ f ∧ kG fk x = some (.tup [.ref k, .str p.2]) ∧ τ[k]? = some (.lst (p.1.map W.str))
    | none => kG fk x = none
  fn : ∀ x p, kG Fn x = some p → (∀ k ∈ p.1, PyData.strOk k = true) ∧ PyData.strOk p.2 = true
theorem HS.pre {τ0 : Sto} {s r f l e : Nat} {Rc : List (L2.Key × Mi.W)} {Fn : List (L2.Key × (List Str × Str))} {τ τ' : Sto} (h : HS τ0 s r f l e Rc Fn τ) (p : τ <+: τ') : HS τ0 s r f l e Rc Fn τ' := by
  obtain ⟨fk, h1, h2, h3⟩ := h.kk
  refine ⟨pre_get p h.ss, pre_get p h.rr, h.p.trans p, h.rf, h.f0, h.sf, ⟨fk, pre_get p h1, h2, fun x => ?_⟩, h.fn⟩
  have := h3 x
  split at this
  · obtain ⟨k, k1, k2, k3, k4⟩ := this
    exact ⟨k, k1, k2, k3, pre_get p k4⟩
  · exact this
theorem HS.put {τ0 : Sto} {s r f l e : Nat} {Rc : List (L2.Key × Mi.W)} {Fn : List (L2.Key × (List Str × Str))} {τ : Sto} (h : HS τ0 s r f l e Rc Fn τ) (fk : List (L2.Key × Mi.W)) (hf : τ[f]? = some (.dic fk)) (nm : Str) (ks : List Str) (g : Str) (q : Nat) (hq : τ[q]? = some (.lst (ks.map W.str))) (hn : kG Fn nm = none) (hks : ∀ k ∈ ks, PyData.strOk k = true) (hg : PyData.strOk g = true) : HS τ0 s r f l e Rc (Fn ++ [(.inr nm, (ks, g))]) (τ.set f (.dic (kvPut fk (.inr nm) (.tup [.ref q, .str g])))) := by
  obtain ⟨fk', h1, h2, h3⟩ := h.kk
  rw [hf] at h1
  cases h1
  have hfl := (List.getElem?_eq_some_iff.mp hf).1
  have hqf : q ≠ f := fun z => by rw [z, hf] at hq; cases hq
  have hqs : q ≠ s := fun z => by rw [z, h.ss] at hq; cases hq
  refine ⟨by rw [List.getElem?_set_ne (Ne.symm h.sf)]; exact h.ss, by rw [List.getElem?_set_ne (Ne.symm h.rf)]; exact h.rr, pre_set h.p h.f0, h.rf, h.f0, h.sf, ⟨_, List.getElem?_set_self hfl, ?_, fun x => ?_⟩, fun x p hx => ?_⟩
  · have := kvPut_len fk (.inr nm) (.tup [.ref q, .str g])
    rw [List.length_append]
    show _ ≤ _ + 1
    omega
  · rw [kG_app _ _ _ _ hn]
    have hget : kG (kvPut fk (.inr nm) (.tup [.ref q, .str g])) x = if (Sum.inr x : L2.Key) = Sum.inr nm then some (.tup [.ref q, .str g]) else kG fk x := kvGet_put fk (.inr nm) (.inr x) _
    by_cases c : x = nm
    · rw [if_pos c]
      rw [if_pos (by rw [c])] at hget
      exact ⟨q, hqs, hqf, hget, by rw [List.getElem?_set_ne (Ne.symm hqf)]; exact hq⟩
    · rw [if_neg c]
      rw [if_neg (fun z => c (Sum.inr.inj z))] at hget
      have := h3 x
      split
      · rename_i p hp
        rw [hp] at this
        obtain ⟨k, k1, k2, k3, k4⟩ := this
        exact ⟨k, k1, k2, by rw [hget]; exact k3, by rw [List.getElem?_set_ne (Ne.symm k2)]; exact k4⟩
      · rename_i hp
        rw [hp] at this
        rw [hget]
        exact this
  · rw [kG_app _ _ _ _ hn] at hx
    split at hx
    · cases hx; exact ⟨hks, hg⟩
    · exact h.fn x p hx
section
variable {N m : Nat} {s r f l e : Nat} {g : Mi.W} {Rc : List (L2.Key × Mi.W)}
theorem kd_loop (gs : List (Nat × List Mi.W)) (x0 x1 x3 x4 : Option Mi.W) (τ : Sto) (hok : It.ok gs τ) (hs : τ[s]? = some (klO r f g l e)) (hr : τ[r]? = some (.dic Rc)) : ∀ (xs : List Mi.W), (∀ x ∈ xs, Thg N x) → ∀ (x5 : Option Mi.W),
    match xs.all (isK Rc) with
    | false => ∃ ρ, forL (.name 5) gs (evS T (evF T F (m + 2)) l18_1) xs [x0, x1, some (.ref s), x3, x4, x5] τ = .exn ⟨2, []⟩ ρ τ
    | true => ∃ y5, forL (.name 5) gs (evS T (evF T F (m + 2)) l18_1) xs [x0, x1, some (.ref s), x3, x4, x5] τ = .ok (.nx [x0, x1, some (.ref s), x3, x4, y5]) τ := by
  intro xs
  induction xs with
  | nil => exact fun _ x5 => ⟨x5, forL_nil hok⟩
  | cons x xs ih =>
    intro hx x5
    have z := z6 (k := m + 1) x (hx x List.mem_cons_self) τ hs hr
    have hf : forL (.name 5) gs (evS T (evF T F (m + 2)) l18_1) (x :: xs) [x0, x1, some (.ref s), x3, x4, x5] τ = loopR (evS T (evF T F (m + 2)) l18_1 [x0, x1, some (.ref s), x3, x4, some x] τ) (forL (.name 5) gs (evS T (evF T F (m + 2)) l18_1) xs) := forL_cons hok rfl
    have hw := want_eq (m + 1) (.meth ("is_kind" : Str) (.var 2) (.cons (.var 5) .nil)) [x0, x1, some (.ref s), x3, x4, some x] τ (b := isK Rc x) (τ1 := τ) (by simp [hs, z])
    have hb : evS T (evF T F (m + 2)) l18_1 [x0, x1, some (.ref s), x3, x4, some x] τ = seqR (wantR [x0, x1, some (.ref s), x3, x4, some x] (.bl (isK Rc x)) τ) (evS T (evF T F (m + 2)) .nil) := by
      unfold l18_1
      rw [evS_cons, hw]
    rw [hf, hb, List.all_cons]
    cases isK Rc x with
    | false => exact ⟨_, rfl⟩
    | true => exact ih (fun z hz => hx z (List.mem_cons_of_mem _ hz)) (some x)
abbrev hdC1 : Mi.E := .conj (.cons (.call 0 (.cons (.ix (.var 3) (.con (.int 1))) .nil)) (.cons (.cmp .NotIn (.ix (.var 3) (.con (.int 1))) (.fld (.var 2) ("functions" : Str))) (.cons (.isi (.ix (.var 3) (.con (.int 2))) .tuple) .nil)))
abbrev hdC2 : Mi.E := .conj (.cons (.cmp .Eq (.op .Mod (.bi .len (.cons (.ix (.var 3) (.con (.int 2))) .nil)) (.con (.int 2))) (.con (.int 0))) (.cons (.cmp .LtE (.bi .len (.cons (.ix (.var 3) (.con (.int 2))) .nil)) (.con (.int 8))) .nil))
theorem head_one (hN : N ≤ 50) (x0 x1 x4 x5 : Option Mi.W) (w : Mi.W) (hw : Thg N w) (Fn : List (L2.Key × (List Str × Str))) (hz : Fn.length < 100000) (τ0 τ : Sto) (h : HS τ0 s r f l e Rc Fn τ) :
    match headK Rc Fn w with
    | none => ∃ ρ τ', evS T (evF T F (m + 2)) l18_2 [x0, x1, some (.ref s), some w, x4, x5] τ = .exn ⟨2, []⟩ ρ τ' ∧ τ0 <+: τ'
    | some Fn' => ∃ y4 y5 τ', evS T (evF T F (m + 2)) l18_2 [x0, x1, some (.ref s), some w, x4, x5] τ = .ok (.nx [x0, x1, some (.ref s), some w, y4, y5]) τ' ∧ HS τ0 s r f l e Rc Fn' τ' := by
  have z := z3 (k := m) w hw hN "fun" fun_ok 5 none τ
  have hev : (ev T (evF T F (m + 2)) (.call 3 (.cons (.var 3) (.cons (.con (.str ("fun" : Str))) (.cons (.con (.int 5)) (.cons (.con .non) .nil)))))).e [x0, x1, some (.ref s), some w, x4, x5] τ = tail [x0, x1, some (.ref s), some w, x4, x5] (evF T F (m + 2) 3 [w, .str "fun", .int 5, .non] τ) := by simp
  unfold headK l18_2
  cases hf : formK "fun" 5 none w with
  | false =>
    rw [hf] at z
    obtain ⟨ρ, τ1, e1, p1⟩ := z
    have e1' : evF T F (m + 2) 3 [w, .str "fun", .int 5, .non] τ = .exn ⟨2, []⟩ ρ τ1 := e1
    rw [if_neg (by decide)]
    exact ⟨[x0, x1, some (.ref s), some w, x4, x5], τ1, by rw [evS_cons, evS_ex, hev, e1']; rfl, h.p.trans p1⟩
  | true =>
    rw [hf] at z
    obtain ⟨τ1, e1, p1⟩ := z
    have e1' : evF T F (m + 2) 3 [w, .str "fun", .int 5, .non] τ = .ok .non τ1 := e1
    rw [if_pos rfl]
    have st1 : evS T (evF T F (m + 2)) (.ex (.call 3 (.cons (.var 3) (.cons (.con (.str ("fun" : Str))) (.cons (.con (.int 5)) (.cons (.con .non) .nil)))))) [x0, x1, some (.ref s), some w, x4, x5] τ = .ok (.nx [x0, x1, some (.ref s), some w, x4, x5]) τ1 := by
      rw [evS_ex, hev, e1']
      rfl
    rw [evS_cons, st1, seqR_nx, evS_cons]
    obtain ⟨xs, rfl, hlen⟩ := form_len hf
    have hxs := (Thg.tup hw).2
    have h1 := h.pre p1
    rcases xs with _ | ⟨nm, _ | ⟨pw, _ | ⟨gk, body⟩⟩⟩
    · exact absurd hlen (by decide)
    · exact absurd hlen (by simp only [List.length_cons, List.length_nil]; omega)
    · exact absurd hlen (by simp only [List.length_cons, List.length_nil]; omega)
    obtain ⟨τ2, e2, p2⟩ := z0 (m + 1) nm (N - 1) (hxs nm (by simp)) τ1
    have h2 := h1.pre p2
    have no : (ev T (evF T F (m + 2)) hdC1).e [x0, x1, some (.ref s), some (.tup (.str "fun" :: nm :: pw :: gk :: body)), x4, x5] τ1 = .ok (.bl false) τ2 → ∀ rest, ∃ ρ τ', seqR (evS T (evF T F (m + 2)) (.ex (.call 2 (.cons hdC1 .nil))) [x0, x1, some (.ref s), some (.tup (.str "fun" :: nm :: pw :: gk :: body)), x4, x5] τ1) rest = .exn ⟨2, []⟩ ρ τ' ∧ τ0 <+: τ' := fun hb rest => by
      rw [want_eq (m + 1) hdC1 _ τ1 hb]
      exact ⟨_, τ2, rfl, h2.p⟩
    have non : nameW nm = false → (ev T (evF T F (m + 2)) hdC1).e [x0, x1, some (.ref s), some (.tup (.str "fun" :: nm :: pw :: gk :: body)), x4, x5] τ1 = .ok (.bl false) τ2 := fun q => by simp [e2, q]
    cases nm with
    | int i => exact no (non rfl) _
    | tup i => exact no (non rfl) _
    | non => exact no (non rfl) _
    | bl i => exact no (non rfl) _
    | ref i => exact no (non rfl) _
    | str nm =>
      have hq : nameW (.str nm) = isName nm := rfl
      obtain ⟨fk, k1, k2, k3⟩ := h2.kk
      have hfk : (kvGet fk (.inr nm)).isSome = (kG Fn nm).isSome := by
        have := k3 nm
        have hget : kvGet fk (.inr nm) = kG fk nm := rfl
        rw [hget]
        cases hk : kG Fn nm with
        | none => rw [hk] at this; rw [this]; rfl
        | some p => rw [hk] at this; obtain ⟨k, _, _, a, _⟩ := this; rw [a]; rfl
      have c1 : ∀ b, (∀ t, (ev T (evF T F (m + 2)) (.isi (.ix (.var 3) (.con (.int 2))) .tuple)).e [x0, x1, some (.ref s), some (.tup (.str "fun" :: .str nm :: pw :: gk :: body)), x4, x5] t = .ok (.bl b) t) → (ev T (evF T F (m + 2)) hdC1).e [x0, x1, some (.ref s), some (.tup (.str "fun" :: .str nm :: pw :: gk :: body)), x4, x5] τ1 = .ok (.bl ((isName nm && !(kG Fn nm).isSome) && b)) τ2 := fun b hb => by
        have hb' := hb τ2
        rw [← hfk]
        cases q : isName nm with
        | false => simp [e2, hq, q]
        | true =>
          cases q2 : (kvGet fk (.inr nm)).isSome with
          | true => simp [e2, hq, q, h2.ss, in_ref, k1, keyOf, q2]
          | false =>
            simp [e2, hq, q, h2.ss, in_ref, k1, keyOf, q2]
            simpa using hb'
      cases pw with
      | int i => exact no (by rw [c1 false (fun t => by simp), Bool.and_false]) _
      | str i => exact no (by rw [c1 false (fun t => by simp), Bool.and_false]) _
      | non => exact absurd (hxs .non (by simp)) (by cases N - 1 <;> exact id)
      | bl i => exact absurd (hxs (.bl i) (by simp)) (by cases N - 1 <;> exact id)
      | ref i => exact absurd (hxs (.ref i) (by simp)) (by cases N - 1 <;> exact id)
      | tup ps =>
        have c1' := c1 true (fun t => by simp)
        rw [Bool.and_true] at c1'
        have w1 := want_eq (m + 1) hdC1 _ τ1 c1'
        rw [w1]
        dsimp only
        cases hb : (isName nm && !(kG Fn nm).isSome) with
        | false =>
          rw [if_neg (by decide)]
          exact ⟨_, τ2, rfl, h2.p⟩
        | true =>
          rw [if_pos rfl, wantR_t, seqR_nx, evS_cons]
          have hkn : kG Fn nm = none := by
            rw [Bool.and_eq_true] at hb
            cases q : kG Fn nm with
            | none => rfl
            | some p => rw [q] at hb; exact absurd hb.2 (by simp)
          have hps := hxs (.tup ps) (by simp)
          have hgk := hxs gk (by simp)
          have c2 : (ev T (evF T F (m + 2)) hdC2).e [x0, x1, some (.ref s), some (.tup (.str "fun" :: .str nm :: .tup ps :: gk :: body)), x4, x5] τ2 = .ok (.bl (decide (ps.length % 2 = 0 ∧ ps.length ≤ 8))) τ2 := by
            by_cases q : ps.length % 2 = 0
            · have qi : (ps.length : Int) % 2 = 0 := by omega
              by_cases q2 : ps.length ≤ 8
              · have q2i : (ps.length : Int) ≤ 8 := by omega
                rw [decide_eq_true (show ps.length % 2 = 0 ∧ ps.length ≤ 8 from ⟨q, q2⟩)]
                simp [qi, q2i]
              · have q2i : ¬ (ps.length : Int) ≤ 8 := by omega
                rw [decide_eq_false (show ¬ (ps.length % 2 = 0 ∧ ps.length ≤ 8) from fun z => q2 z.2)]
                simp [qi, q2i]
            · have qi : ¬ (ps.length : Int) % 2 = 0 := by omega
              rw [decide_eq_false (show ¬ (ps.length % 2 = 0 ∧ ps.length ≤ 8) from fun z => q z.1)]
              simp [qi]
          have w2 := want_eq (m + 1) hdC2 _ τ2 c2
          rw [w2]
          by_cases hc : ps.length % 2 = 0 ∧ ps.length ≤ 8
          · rw [if_pos hc, decide_eq_true hc, wantR_t, seqR_nx, evS_cons]
            have hfu : ∀ t : Sto, (τ2 ++ t)[f]? = some (.dic fk) := fun t => at_old k1
            obtain ⟨KS, hKS⟩ : ∃ K, K = everyO (ps.drop 1) := ⟨_, rfl⟩
            have hkl : KS.length ≤ 8 := by
              have h1 := every_len (ps.drop 1)
              have h2 : (ps.drop 1).length ≤ ps.length := by rw [List.length_drop]; omega
              rw [hKS]; omega
            have st4 : evS T (evF T F (m + 2)) (.set 4 (.bi .list (.cons (.every 1 (.ix (.var 3) (.con (.int 2)))) .nil))) [x0, x1, some (.ref s), some (.tup (.str "fun" :: .str nm :: .tup ps :: gk :: body)), x4, x5] τ2 = .ok (.nx [x0, x1, some (.ref s), some (.tup (.str "fun" :: .str nm :: .tup ps :: gk :: body)), some (.ref τ2.length), x5]) (τ2 ++ [.lst KS]) := by
              rw [hKS]
              simp [newL]
            rw [st4, seqR_nx, evS_cons, evS_loop, ← hKS]
            have hit : (ev T (evF T F (m + 2)) (.seq (.op .Add (.var 4) (.lst (.cons (.ix (.var 3) (.con (.int 3))) .nil))))).i [x0, x1, some (.ref s), some (.tup (.str "fun" :: .str nm :: .tup ps :: gk :: body)), some (.ref τ2.length), x5] (τ2 ++ [.lst KS]) = .ok ⟨[(τ2.length + 2, KS ++ [gk])], KS ++ [gk]⟩ (τ2 ++ [.lst KS, .lst [gk], .lst (KS ++ [gk])]) := by
              have g1 : (τ2 ++ [AO.lst KS, .lst [gk]])[τ2.length]? = some (.lst KS) := at_off0 _ _
              have g2 : (τ2 ++ [AO.lst KS, .lst [gk]])[τ2.length + 1]? = some (.lst [gk]) := at_off _ _ 1
              have g3 : seqOf (τ2 ++ [AO.lst KS, .lst [gk], .lst (KS ++ [gk])]) (τ2.length + 2) = some (KS ++ [gk]) := seq_lst (at_off _ _ 2)
              have g4 := binop_lst g1 g2 (Nat.le_trans (show KS.length + 1 ≤ 9 by omega) (by decide))
              simp [newL, g4, seqI, g3]
            rw [hit, R.bind_ok]
            have p3 : τ2 <+: τ2 ++ [AO.lst KS, .lst [gk], .lst (KS ++ [gk])] := List.prefix_append _ _
            have h3 := h2.pre p3
            have hall : ∀ x ∈ KS ++ [gk], Thg (N - 1) x := fun x hx => by
              rcases List.mem_append.mp hx with c | c
              · rw [hKS] at c
                exact ((Thg.tup hps).2 x (List.mem_of_mem_drop (every_mem c))).mono (by omega)
              · cases List.mem_singleton.mp c
                exact hgk
            have lp := kd_loop (m := m) (N := N - 1) [(τ2.length + 2, KS ++ [gk])] x0 x1 (some (.tup (.str "fun" :: .str nm :: .tup ps :: gk :: body))) (some (.ref τ2.length)) (τ2 ++ [AO.lst KS, .lst [gk], .lst (KS ++ [gk])]) (fun q hq => by cases List.mem_singleton.mp hq; exact seq_lst (at_off _ _ 2)) h3.ss h3.rr (KS ++ [gk]) hall x5
            cases ha : (KS ++ [gk]).all (isK Rc) with
            | false =>
              rw [ha] at lp
              obtain ⟨ρ, e4⟩ := lp
              rw [if_neg (by decide)]
              exact ⟨ρ, τ2 ++ [AO.lst KS, .lst [gk], .lst (KS ++ [gk])], by rw [e4]; rfl, h3.p⟩
            | true =>
              rw [ha] at lp
              obtain ⟨y5, e4⟩ := lp
              rw [if_pos rfl, e4, seqR_nx]
              have ha2 := ha
              rw [List.all_append, Bool.and_eq_true] at ha2
              have hks := kinds_strs ha2.1
              cases gk with
              | str gg =>
                dsimp only
                have gl : (τ2 ++ [AO.lst KS, .lst [.str gg], .lst (KS ++ [.str gg])])[τ2.length]? = some (.lst ((wstrs KS).map W.str)) := by
                  rw [← hks]
                  exact at_off0 _ _
                have k1' : (τ2 ++ [AO.lst KS, .lst [.str gg], .lst (KS ++ [.str gg])])[f]? = some (.dic fk) := pre_get p3 k1
                have hset := setDic k1' (Nat.lt_of_lt_of_le (show fk.length < 100000 by omega) (by decide)) (.str nm) (.tup [.ref τ2.length, .str gg]) (k := .inr nm) rfl
                have hh := h3.put fk k1' nm (wstrs KS) gg τ2.length gl hkn (fun k hk => by
                  have : W.str k ∈ KS := by
                    rw [hks]
                    exact List.mem_map.mpr ⟨k, hk, rfl⟩
                  exact (Thg.str (hall _ (List.mem_append_left _ this))).ok) (Thg.str hgk).ok
                refine ⟨some (.ref τ2.length), y5, _, ?_, hh⟩
                have hs3 := h3.ss
                generalize τ2 ++ [AO.lst KS, .lst [.str gg], .lst (KS ++ [.str gg])] = t3 at *
                simp [hs3, hset]
              | int i => exact absurd ha2.2 (by simp [isK])
              | tup i => exact absurd ha2.2 (by simp [isK])
              | non => exact absurd ha2.2 (by simp [isK])
              | bl i => exact absurd ha2.2 (by simp [isK])
              | ref i => exact absurd ha2.2 (by simp [isK])
          · rw [if_neg hc, decide_eq_false hc]
            exact ⟨_, τ2, rfl, h2.p⟩
theorem head_loop (hN : N ≤ 50) (x0 x1 : Option Mi.W) (τ0 : Sto) : ∀ (ws : List Mi.W), (∀ w ∈ ws, Thg N w) → ∀ (x3 x4 x5 : Option Mi.W) (Fn : List (L2.Key × (List Str × Str))) (τ : Sto), Fn.length + ws.length < 100000 → HS τ0 s r f l e Rc Fn τ →
    match headsK Rc ws Fn with
    | none => ∃ ρ τ', forL (.name 3) [] (evS T (evF T F (m + 2)) l18_2) ws [x0, x1, some (.ref s), x3, x4, x5] τ = .exn ⟨2, []⟩ ρ τ' ∧ τ0 <+: τ'
    | some Fn' => ∃ y3 y4 y5 τ', forL (.name 3) [] (evS T (evF T F (m + 2)) l18_2) ws [x0, x1, some (.ref s), x3, x4, x5] τ = .ok (.nx [x0, x1, some (.ref s), y3, y4, y5]) τ' ∧ HS τ0 s r f l e Rc Fn' τ' := by
  intro ws
  induction ws with
  | nil => exact fun _ x3 x4 x5 Fn τ _ h => ⟨x3, x4, x5, τ, forL_nil (fun q hq => by cases hq), h⟩
  | cons w ws ih =>
    intro hw x3 x4 x5 Fn τ hz h
    rw [List.length_cons] at hz
    have o := head_one (m := m) hN x0 x1 x4 x5 w (hw w List.mem_cons_self) Fn (by omega) τ0 τ h
    have hf : forL (.name 3) [] (evS T (evF T F (m + 2)) l18_2) (w :: ws) [x0, x1, some (.ref s), x3, x4, x5] τ = loopR (evS T (evF T F (m + 2)) l18_2 [x0, x1, some (.ref s), some w, x4, x5] τ) (forL (.name 3) [] (evS T (evF T F (m + 2)) l18_2) ws) := forL_cons (fun q hq => by cases hq) rfl
    rw [hf]
    show match (headK Rc Fn w).bind (headsK Rc ws) with
      | none => _
      | some Fn' => _
    cases hr : headK Rc Fn w with
    | none =>
      rw [hr] at o
      obtain ⟨ρ, τ', e1, p1⟩ := o
      exact ⟨ρ, τ', by rw [e1]; rfl, p1⟩
    | some F1 =>
      rw [hr] at o
      obtain ⟨y4, y5, τ1, e1, h1⟩ := o
      have fact : F1.length ≤ Fn.length + 1 := by
        unfold headK at hr
        repeat' (split at hr <;> try (first | (cases hr; done) | (cases hr; simp; done)))
      have ih' := ih (fun z hz => hw z (List.mem_cons_of_mem _ hz)) (some w) y4 y5 F1 τ1 (by omega) h1
      rw [e1, loopR_nx]
      exact ih'
theorem off_set' (τ l : Sto) (k : Nat) (x : AO) : (τ ++ l).set (τ.length + k) x = τ ++ l.set k x := by
  rw [List.set_append_right _ _ (Nat.le_add_right _ _), Nat.add_sub_cancel_left]
theorem pw1 (a : Mi.W) : putW ("records" : Str) a [] = ([("records", a)] : List (Str × Mi.W)) := rfl
theorem pw2 (a b : Mi.W) : putW ("functions" : Str) b [("records", a)] = ([("records", a), ("functions", b)] : List (Str × Mi.W)) := rfl
theorem pw3 (a b c : Mi.W) : putW ("given" : Str) c [("records", a), ("functions", b)] = ([("records", a), ("functions", b), ("given", c)] : List (Str × Mi.W)) := rfl
theorem pw4 (a b c d : Mi.W) : putW ("lets" : Str) d [("records", a), ("functions", b), ("given", c)] = ([("records", a), ("functions", b), ("given", c), ("lets", d)] : List (Str × Mi.W)) := rfl
theorem pw5 (a b c d e : Mi.W) : putW ("seen" : Str) e [("records", a), ("functions", b), ("given", c), ("lets", d)] = ([("records", a), ("functions", b), ("given", c), ("lets", d), ("seen", e)] : List (Str × Mi.W)) := rfl
/-- look_at_heads -/
theorem z18 (hN : N ≤ 50) (ws : List Mi.W) (hw : ∀ w ∈ ws, Thg N w) (hl : ws.length ≤ 10000) (d : Nat) (τ : Sto) (hd : τ[d]? = some (.dic Rc)) :
    match headsK Rc ws [] with
    | none => ∃ ρ τ', evF T F (m + 3) 18 [.ref d, .tup ws] τ = .exn ⟨2, []⟩ ρ τ' ∧ τ <+: τ'
    | some Fn => ∃ s f l e τ', evF T F (m + 3) 18 [.ref d, .tup ws] τ = .ok (.ref s) τ' ∧ HS τ s d f l e Rc Fn τ' ∧ τ.length ≤ s := by
  have hdl := (List.getElem?_eq_some_iff.mp hd).1
  obtain ⟨τ1, hτ1⟩ : ∃ t : Sto, t = τ ++ [.dic [], klO d τ.length (.str "number") (τ.length + 2) (τ.length + 3), .lst [], .dic []] := ⟨_, rfl⟩
  have p1 : τ <+: τ1 := by rw [hτ1]; exact List.prefix_append _ _
  have st1 : evS T (evF T F (m + 2)) (.set 2 (.make 0 (.cons (.var 0) (.cons (.dic .nil .nil) .nil)))) [some (.ref d), some (.tup ws), none, none, none, none] τ = .ok (.nx [some (.ref d), some (.tup ws), some (.ref (τ.length + 1)), none, none, none]) τ1 := by
    rw [hτ1]
    simp [u5, b5, setF_ref, off_set', klO, pw1, pw2, pw3, pw4, pw5, newL]
  have h0 : HS τ (τ.length + 1) d τ.length (τ.length + 2) (τ.length + 3) Rc [] τ1 := by
    refine ⟨by rw [hτ1]; exact at_off _ _ 1, pre_get p1 hd, p1, by omega, Nat.le_refl _, by omega, ⟨[], by rw [hτ1]; exact at_off0 _ _, Nat.le_refl _, fun x => rfl⟩, fun x p hx => by cases hx⟩
  have lp := head_loop (m := m) hN (some (.ref d)) (some (.tup ws)) τ ws hw none none none [] τ1 (by simp; omega) h0
  have hit : (ev T (evF T F (m + 2)) (.seq (.var 1))).i [some (.ref d), some (.tup ws), some (.ref (τ.length + 1)), none, none, none] τ1 = .ok ⟨[], ws⟩ τ1 := by simp
  rw [u18, b18, evS_cons, st1, seqR_nx, evS_cons, evS_loop, hit, R.bind_ok]
  cases hr : headsK Rc ws [] with
  | none =>
    rw [hr] at lp
    obtain ⟨ρ, τ', e1, p1⟩ := lp
    exact ⟨ρ, τ', by rw [e1]; rfl, p1⟩
  | some Fn =>
    rw [hr] at lp
    obtain ⟨y3, y4, y5, τ', e1, h1⟩ := lp
    exact ⟨_, _, _, _, τ', by rw [e1]; simp, h1, by omega⟩
end
/-! the tree -/
section
variable (Rc : List (L2.Key × Mi.W)) (Fn : List (L2.Key × (List Str × Str))) (N : Nat)
def funK (w : Mi.W) : O3 Unit := match w with
  | .tup (_ :: _ :: .tup ps :: .str g :: body) => if unlK [] (everyO ps) = true then (partK Rc Fn N g N ⟨wstrs (everyO ps), puts [] (wstrs (everyO ps)) (wstrs (everyO (ps.drop 1)))⟩ (.tup body)).bind fun p => if p.2 = true then .ok () else .bad else .bad
  | _ => .bad
def funsK : List Mi.W → O3 Unit
  | [] => .ok ()
  | w :: r => (funK Rc Fn N w).bind fun _ => funsK r
end
def hdW (w : Mi.W) : Mi.W := match w with
  | .tup (y :: _) => y
  | _ => .non
def isRec (w : Mi.W) : Bool := isS (hdW w) "record"
def numB (k : Str) : Bool := decide (k = ("number" : Str))
def lookT (N : Nat) (w : Mi.W) : O3 Unit := match w with
  | .tup (.str h :: ws) => if h = "program" ∧ 1 ≤ ws.length then (match recsK (ws.take (ws.filter isRec).length) [] with
    | none => .bad
    | some Rc => match headsK Rc (ws.drop (ws.filter isRec).length) [] with
      | none => .bad
      | some Fn => match kG Fn "main" with
        | none => .bad
        | some p => if p.2 = "number" ∧ p.1.all numB = true then funsK Rc Fn N (ws.drop (ws.filter isRec).length) else .bad) else .bad
  | _ => .bad
def ZT (τ : Sto) (o : O3 Unit) (x : R Mi.W) : Prop := match o with
  | .stk => True
  | .bad => ∃ ρ τ', x = .exn ⟨2, []⟩ ρ τ' ∧ τ <+: τ'
  | .ok _ => ∃ τ', x = .ok .non τ' ∧ τ <+: τ'
theorem wstrs_map (ns : List Str) : wstrs (ns.map W.str) = ns := by
  induction ns with
  | nil => rfl
  | cons n r ih =>
    show n :: wstrs (r.map W.str) = n :: r
    rw [ih]
theorem thg_sub {N : Nat} {xs ys : List Mi.W} (h : Thg N (.tup xs)) (hm : ∀ y ∈ ys, y ∈ xs) (hl : ys.length ≤ xs.length) : Thg N (.tup ys) := by
  cases N with
  | zero => exact h.elim
  | succ n => exact ⟨Nat.le_trans hl h.1, fun y hy => h.2 y (hm y hy)⟩
theorem fx_pre {τ0 B τ : Sto} {s : Nat} (p : τ0 <+: B) (hs : τ0.length ≤ s) (h : Fx B s τ) (hl : B.length ≤ τ.length) : τ0 <+: τ := by
  obtain ⟨q, rfl⟩ := p
  refine List.prefix_iff_eq_take.mpr (List.ext_getElem? fun i => ?_)
  by_cases c : i < τ0.length
  · rw [List.getElem?_take_of_lt c, h i (by rw [List.length_append]; omega) (by omega), List.getElem?_append_left c]
  · rw [List.getElem?_eq_none (by omega), List.getElem?_eq_none (by rw [List.length_take]; omega)]
theorem fx_len {B τ : Sto} {s : Nat} (hs : s < B.length) (h : Fx B s τ) (h2 : s + 1 ≤ τ.length) : B.length ≤ τ.length := by
  by_cases c : B.length ≤ τ.length
  · exact c
  · have h3 := h (B.length - 1) (by omega)
    by_cases d : B.length - 1 = s
    · omega
    · have := h3 d
      rw [List.getElem?_eq_none (by omega)] at this
      exact absurd this.symm (by rw [List.getElem?_eq_getElem (by omega)]; intro z; cases z)
theorem KB.step {B τ : Sto} {s r f : Nat} {Rc : List (L2.Key × Mi.W)} {Fn : List (L2.Key × (List Str × Str))} (b : KB B s r f Rc Fn) (h : Fx B s τ) (hl : B.length ≤ τ.length) : KB τ s r f Rc Fn := by
  obtain ⟨fk, f1, f2, f3⟩ := b.ff
  refine ⟨Nat.lt_of_lt_of_le b.hs hl, by rw [h r (List.getElem?_eq_some_iff.mp b.rr).1 b.rs]; exact b.rr, b.rs, ⟨fk, by rw [h f (List.getElem?_eq_some_iff.mp f1).1 f2]; exact f1, f2, fun x => ?_⟩, b.ra, b.fn⟩
  have := f3 x
  split at this
  · obtain ⟨k, k1, k2, k3⟩ := this
    exact ⟨k, k1, k2, by rw [h k (List.getElem?_eq_some_iff.mp k3).1 k1]; exact k3⟩
  · exact this
theorem HS.kb {τ0 : Sto} {s r f l e : Nat} {Rc : List (L2.Key × Mi.W)} {Fn : List (L2.Key × (List Str × Str))} {τ : Sto} (h : HS τ0 s r f l e Rc Fn τ) (ra : RA Rc) : KB τ s r f Rc Fn := by
  obtain ⟨fk, f1, _, f3⟩ := h.kk
  refine ⟨(List.getElem?_eq_some_iff.mp h.ss).1, h.rr, fun z => ?_, ⟨fk, f1, Ne.symm h.sf, fun x => ?_⟩, ra, h.fn⟩
  · have := h.rr
    rw [z, h.ss] at this
    cases this
  · have := f3 x
    split
    · rename_i p hp
      rw [hp] at this
      obtain ⟨k, k1, _, k2, k3⟩ := this
      exact ⟨k, k1, k2, k3⟩
    · rename_i hp
      rw [hp] at this
      exact this
theorem head_shape {Rc : List (L2.Key × Mi.W)} {Fn Fn' : List (L2.Key × (List Str × Str))} {w : Mi.W} (h : headK Rc Fn w = some Fn') : ∃ a b ps g body, w = .tup (a :: b :: .tup ps :: .str g :: body) ∧ ps.length ≤ 8 ∧ (everyO (ps.drop 1)).all (isK Rc) = true := by
  unfold headK at h
  split at h
  · split at h
    · split at h
      · split at h
        · rename_i hl
          split at h
          · rename_i ha
            rw [List.all_append, Bool.and_eq_true] at ha
            split at h
            · exact ⟨_, _, _, _, _, rfl, hl.2, ha.1⟩
            · cases h
          · cases h
        · cases h
      · cases h
    · cases h
  · cases h
theorem heads_shape {Rc : List (L2.Key × Mi.W)} : ∀ (ws : List Mi.W) (Fn Fn' : List (L2.Key × (List Str × Str))), headsK Rc ws Fn = some Fn' → ∀ w ∈ ws, ∃ a b ps g body, w = .tup (a :: b :: .tup ps :: .str g :: body) ∧ ps.length ≤ 8 ∧ (everyO (ps.drop 1)).all (isK Rc) = true
  | [], _, _, _, w, hw => by cases hw
  | x :: r, Fn, Fn', h, w, hw => by
    have h' : (headK Rc Fn x).bind (headsK Rc r) = some Fn' := h
    cases e : headK Rc Fn x with
    | none => rw [e] at h'; cases h'
    | some F1 =>
      rw [e] at h'
      rcases List.mem_cons.mp hw with c | c
      · rw [c]; exact head_shape e
      · exact heads_shape r F1 Fn' h' w c
section
variable {N k : Nat} {s r f : Nat} {Rc : List (L2.Key × Mi.W)} {Fn : List (L2.Key × (List Str × Str))}
theorem fun_loop (τ0 : Sto) (hs0 : τ0.length ≤ s) (x0 x1 x2 x3 x4 x7 x8 x9 x10 x11 : Option Mi.W) : ∀ (ws : List Mi.W), (∀ w ∈ ws, Thg N w ∧ ∃ a b ps g body, w = .tup (a :: b :: .tup ps :: .str g :: body) ∧ ps.length ≤ 8 ∧ (everyO (ps.drop 1)).all (isK Rc) = true) → ∀ (x6 : Option Mi.W) (g : Mi.W) (l e : Nat) (τ : Sto), KB τ s r f Rc Fn → τ[s]? = some (klO r f g l e) → τ0 <+: τ →
    match funsK Rc Fn N ws with
    | .stk => True
    | .bad => ∃ ρ τ', forL (.name 6) [] (evS T (evF T F (k + 5 * N + 5)) l19_1) ws [x0, x1, x2, x3, x4, some (.ref s), x6, x7, x8, x9, x10, x11] τ = .exn ⟨2, []⟩ ρ τ' ∧ τ0 <+: τ'
    | .ok _ => ∃ y6 τ', forL (.name 6) [] (evS T (evF T F (k + 5 * N + 5)) l19_1) ws [x0, x1, x2, x3, x4, some (.ref s), x6, x7, x8, x9, x10, x11] τ = .ok (.nx [x0, x1, x2, x3, x4, some (.ref s), y6, x7, x8, x9, x10, x11]) τ' ∧ τ0 <+: τ' := by
  intro ws
  induction ws with
  | nil => exact fun _ x6 g l e τ _ _ h0 => ⟨x6, τ, forL_nil (fun q hq => by cases hq), h0⟩
  | cons w ws ih =>
    intro hw x6 g l e τ kb hs h0
    obtain ⟨hwN, a, b, ps, gv, body, rfl, hpl, hka⟩ := hw w List.mem_cons_self
    have hxs := (Thg.tup hwN).2
    have hps := (Thg.tup (hxs (.tup ps) (by simp))).2
    have hgv := (Thg.str (hxs (.str gv) (by simp))).ok
    have hks := kinds_strs hka
    have hbody : Thg N (.tup body) := thg_sub hwN (fun y hy => by simp [hy]) (by simp only [List.length_cons]; omega)
    have z := z7 (N := N - 1 - 1) (k := k + 5 * N + 2) a b ps body gv hps hpl (wstrs (everyO (ps.drop 1))) hks (fun q hq => by
      have : W.str q ∈ everyO (ps.drop 1) := by
        rw [hks]
        exact List.mem_map.mpr ⟨q, hq, rfl⟩
      exact (Thg.str (hps _ (List.mem_of_mem_drop (every_mem this)))).ok) τ hs
    have hf : forL (.name 6) [] (evS T (evF T F (k + 5 * N + 5)) l19_1) (.tup (a :: b :: .tup ps :: .str gv :: body) :: ws) [x0, x1, x2, x3, x4, some (.ref s), x6, x7, x8, x9, x10, x11] τ = loopR (evS T (evF T F (k + 5 * N + 5)) l19_1 [x0, x1, x2, x3, x4, some (.ref s), some (.tup (a :: b :: .tup ps :: .str gv :: body)), x7, x8, x9, x10, x11] τ) (forL (.name 6) [] (evS T (evF T F (k + 5 * N + 5)) l19_1) ws) := forL_cons (fun q hq => by cases hq) rfl
    rw [hf]
    show match (funK Rc Fn N (.tup (a :: b :: .tup ps :: .str gv :: body))).bind fun _ => funsK Rc Fn N ws with
      | .stk => True
      | .bad => _
      | .ok _ => _
    unfold funK
    dsimp only
    cases hu : unlK [] (everyO ps) with
    | false =>
      rw [hu] at z
      obtain ⟨ρ, τ1, e1, p1⟩ := z
      have e1' : evF T F (k + 5 * N + 5) 7 [.ref s, .tup (a :: b :: .tup ps :: .str gv :: body)] τ = .exn ⟨2, []⟩ ρ τ1 := e1
      rw [if_neg (by decide)]
      refine ⟨[x0, x1, x2, x3, x4, some (.ref s), some (.tup (a :: b :: .tup ps :: .str gv :: body)), x7, x8, x9, x10, x11], τ1, ?_, h0.trans p1⟩
      unfold l19_1
      simp [hs, e1']
    | true =>
      rw [hu] at z
      obtain ⟨ns, l', e', τ1, hns, e1, k1⟩ := z
      have e1' : evF T F (k + 5 * N + 5) 7 [.ref s, .tup (a :: b :: .tup ps :: .str gv :: body)] τ = .ok .non τ1 := e1
      rw [if_pos rfl, hns, wstrs_map]
      have z2 := z12 kb hgv N (.tup body) hbody k e' _ τ1 k1
      rw [show k + 3 * N + 5 + 2 * N = k + 5 * N + 5 by omega] at z2
      have hc : cut (a :: b :: .tup ps :: .str gv :: body) (some 4) none = body := cut_from _ 4 4 rfl
      have st1 : evS T (evF T F (k + 5 * N + 5)) (.ex (.meth ("begin" : Str) (.var 5) (.cons (.var 6) .nil))) [x0, x1, x2, x3, x4, some (.ref s), some (.tup (a :: b :: .tup ps :: .str gv :: body)), x7, x8, x9, x10, x11] τ = .ok (.nx [x0, x1, x2, x3, x4, some (.ref s), some (.tup (a :: b :: .tup ps :: .str gv :: body)), x7, x8, x9, x10, x11]) τ1 := by
        simp [hs, e1']
      have hl19 : l19_1 = .cons (.ex (.meth ("begin" : Str) (.var 5) (.cons (.var 6) .nil))) (.cons (.ex (.call 2 (.cons (.meth ("look_at_part" : Str) (.var 5) (.cons (.slice (.var 6) (.con (.int 4)) .nil) .nil)) .nil))) .nil) := rfl
      have run : evS T (evF T F (k + 5 * N + 5)) l19_1 [x0, x1, x2, x3, x4, some (.ref s), some (.tup (a :: b :: .tup ps :: .str gv :: body)), x7, x8, x9, x10, x11] τ = evS T (evF T F (k + 5 * N + 5)) (.cons (.ex (.call 2 (.cons (.meth ("look_at_part" : Str) (.var 5) (.cons (.slice (.var 6) (.con (.int 4)) .nil) .nil)) .nil))) .nil) [x0, x1, x2, x3, x4, some (.ref s), some (.tup (a :: b :: .tup ps :: .str gv :: body)), x7, x8, x9, x10, x11] τ1 := by
        rw [hl19, evS_cons, st1, seqR_nx]
      rw [run]
      cases ho : partK Rc Fn N gv N ⟨ns, puts [] ns (wstrs (everyO (ps.drop 1)))⟩ (.tup body) with
      | stk => trivial
      | bad =>
        rw [ho] at z2
        obtain ⟨ρ, τ2, e2, f2⟩ := z2
        have p2 : τ0 <+: τ2 := by
          obtain ⟨q, hq⟩ := h0
          refine List.prefix_iff_eq_take.mpr (List.ext_getElem? fun i => ?_)
          by_cases c : i < τ0.length
          · rw [List.getElem?_take_of_lt c, f2 i (by rw [← hq, List.length_append]; omega) (by omega), ← hq, List.getElem?_append_left c]
          · rw [List.getElem?_eq_none (by omega), List.getElem?_eq_none (by rw [List.length_take]; omega)]
        exact ⟨[x0, x1, x2, x3, x4, some (.ref s), some (.tup (a :: b :: .tup ps :: .str gv :: body)), x7, x8, x9, x10, x11], τ2, by simp [k1.ss, hc, e2], p2⟩
      | ok p =>
        rw [ho] at z2
        obtain ⟨e'', τ2, e2, k2, r2⟩ := z2
        have p2 : τ0 <+: τ2 := fx_pre h0 hs0 k2.fix k2.len
        have hw2 := want_eq (k + 5 * N + 4) (.meth ("look_at_part" : Str) (.var 5) (.cons (.slice (.var 6) (.con (.int 4)) .nil) .nil)) [x0, x1, x2, x3, x4, some (.ref s), some (.tup (a :: b :: .tup ps :: .str gv :: body)), x7, x8, x9, x10, x11] τ1 (b := p.2) (τ1 := τ2) (by simp [k1.ss, hc, e2])
        rw [evS_cons, hw2]
        show match (if p.2 = true then (O3.ok () : O3 Unit) else .bad).bind fun _ => funsK Rc Fn N ws with
          | .stk => True
          | .bad => _
          | .ok _ => _
        cases hp2 : p.2 with
        | false =>
          rw [if_neg (by decide)]
          exact ⟨_, τ2, rfl, p2⟩
        | true =>
          rw [if_pos rfl]
          exact ih (fun z hz => hw z (List.mem_cons_of_mem _ hz)) (some (.tup (a :: b :: .tup ps :: .str gv :: body))) (.str gv) l' e'' τ2 (kb.step k2.fix k2.len) k2.ss p2
end
/-! look_at_tree -/
theorem eq_non {τ : Sto} {x : Str} (hx : PyData.strOk x = true) : eqW τ .non (.str x) = some false := by
  have sx : SeqAt.shaped (.str x) = true := by
    unfold SeqAt.shaped
    have h1 : PyData.canLay0 (.str x) = PyData.strOk x := by simp only [PyData.canLay0]
    have h2 : decide (PyData.depth (.str x) ≤ 64) = true := decide_eq_true (by simp [PyData.depth])
    rw [h1, h2, hx, Bool.and_true]
  have sn : SeqAt.shaped .none = true := by
    unfold SeqAt.shaped
    have h1 : PyData.canLay0 .none = true := by simp only [PyData.canLay0]
    have h2 : decide (PyData.depth .none ≤ 64) = true := decide_eq_true (by simp [PyData.depth])
    rw [h1, h2, Bool.and_true]
  show (if SeqAt.shaped .none = true ∧ SeqAt.shaped (.str x) = true then some (PyData.eqv .none (.str x)) else none) = _
  rw [if_pos ⟨sn, sx⟩]
  simp only [PyData.eqv]
theorem eq_nones {τ : Sto} {n m : Nat} {cs : List Str} (h1 : τ[n]? = some (.lst (cs.map W.str))) (hc : ∀ c ∈ cs, PyData.strOk c = true) (h2 : τ[m]? = some (.lst [])) : eqW τ (.ref n) (.ref m) = some cs.isEmpty := by
  have hm : ∀ cs : List Str, mapO (toD τ 63) (cs.map W.str) = some (cs.map PyData.str) := by
    intro cs
    induction cs with
    | nil => rfl
    | cons c r ih =>
      rw [List.map_cons, mapO, ih]
      rfl
  have hl : ∀ cs : List Str, (∀ c ∈ cs, PyData.strOk c = true) → PyData.canLayAll0 (cs.map PyData.str) = true := by
    intro cs
    induction cs with
    | nil => intro _; simp only [List.map_nil, PyData.canLayAll0]
    | cons c r ih =>
      intro h
      simp only [List.map_cons, PyData.canLayAll0, PyData.canLay0, ih (fun d hd => h d (List.mem_cons_of_mem _ hd)), h c List.mem_cons_self, Bool.and_self]
  have hd : ∀ cs : List Str, PyData.depthAll (cs.map PyData.str) ≤ 1 := by
    intro cs
    induction cs with
    | nil => simp [PyData.depthAll]
    | cons c r ih =>
      simp only [List.map_cons, PyData.depthAll, PyData.depth]
      omega
  have sh : ∀ cs : List Str, (∀ c ∈ cs, PyData.strOk c = true) → SeqAt.shaped (.list (cs.map PyData.str)) = true := fun cs h => by
    unfold SeqAt.shaped
    have a1 : PyData.canLay0 (.list (cs.map PyData.str)) = true := by
      simp only [PyData.canLay0]
      exact hl cs h
    have a2 : PyData.depth (.list (cs.map PyData.str)) ≤ 64 := by
      have := hd cs
      simp only [PyData.depth]
      omega
    rw [a1, decide_eq_true a2, Bool.and_self]
  have e : ∀ {n : Nat} {zs : List Str}, τ[n]? = some (.lst (zs.map W.str)) → toD τ 64 (.ref n) = some (.list (zs.map PyData.str)) := fun {n zs} h => by
    show (match seqOf τ n with
      | some xs => (mapO (toD τ 63) xs).map PyData.list
      | none => none) = _
    rw [seq_lst h]
    show (mapO (toD τ 63) (zs.map W.str)).map PyData.list = _
    rw [hm]
    rfl
  unfold eqW
  rw [e h1, e (zs := []) h2]
  dsimp only
  rw [if_pos ⟨sh cs hc, sh [] (fun c h => nomatch h)⟩]
  cases cs with
  | nil => simp [PyData.eqv, PyData.eqvAll]
  | cons c r => simp [PyData.eqv, PyData.eqvAll]
theorem prog_ok : PyData.strOk ("program" : Str) = true := by decide +kernel
theorem cut_mid (a : Mi.W) (ws : List Mi.W) (n : Nat) (i : Int) (hi : i = 1 + (n : Int)) : cut (a :: ws) (some 1) (some i) = ws.take n := by
  subst hi
  unfold cut
  rw [show (some (1 : Int)) = some ((1 : Nat) : Int) from rfl, HT.sIx_nat, show (1 + (n : Int)) = ((n + 1 : Nat) : Int) by omega, HT.sIx_nat, List.length_cons, Nat.min_eq_left (show 1 ≤ ws.length + 1 by omega)]
  show ws.take (min (n + 1) (ws.length + 1) - 1) = _
  by_cases c : n ≤ ws.length
  · rw [Nat.min_eq_left (by omega), Nat.add_sub_cancel]
  · rw [Nat.min_eq_right (by omega), Nat.add_sub_cancel, List.take_length, List.take_of_length_le (by omega)]
abbrev trC : Mi.E := .conj (.cons (.isi (.var 0) .tuple) (.cons (.cmp .Gt (.bi .len (.cons (.var 0) .nil)) (.con (.int 1))) (.cons (.cmp .Eq (.ix (.var 0) (.con (.int 0))) (.con (.str ("program" : Str)))) .nil)))
abbrev trH : Mi.E := .lc (.name 9) (.seq (.slice (.var 0) (.con (.int 1)) .nil)) .nil (.ite (.conj (.cons (.isi (.var 9) .tuple) (.cons (.cmp .Gt (.bi .len (.cons (.var 9) .nil)) (.con (.int 0))) .nil))) (.ix (.var 9) (.con (.int 0))) (.con .non)) [9]
abbrev trM : Mi.E := .lc (.name 10) (.seq (.var 1)) (.cmp .Eq (.var 10) (.con (.str ("record" : Str)))) (.var 10) [10]
abbrev trK : Mi.E := .lc (.name 11) (.seq (.var 7)) (.cmp .NotEq (.var 11) (.con (.str ("number" : Str)))) (.var 11) [11]
abbrev trN : Mi.E := .conj (.cons (.cmp .Eq (.var 8) (.con (.str ("number" : Str)))) (.cons (.cmp .Eq trK (.lst .nil)) .nil))
section
variable {N k : Nat}
theorem tr_heads (C : Nat → List Mi.W → Sto → R Mi.W) (h : Str) (ws : List Mi.W) (hx : ∀ x ∈ ws, Thg N x) (hl : ws.length ≤ 10000) (τ : Sto) : (ev T C trH).e [some (.tup (.str h :: ws)), none, none, none, none, none, none, none, none, none, none, none] τ = .ok (.ref τ.length) (τ ++ [.lst (ws.map hdW)]) := by
  have hc : cut (.str h :: ws) (some 1) none = ws := cut_from _ 1 1 rfl
  have hi : (ev T C (.seq (.slice (.var 0) (.con (.int 1)) .nil))).i [some (.tup (.str h :: ws)), none, none, none, none, none, none, none, none, none, none, none] τ = .ok ⟨[], ws⟩ τ := by simp [hc]
  rw [ev_lc, hi, R.bind_ok]
  refine lcL_newM (fun q hq => by cases hq) hdW ws (fun x hx' => ⟨[some (.tup (.str h :: ws)), none, none, none, none, none, none, none, none, some x, none, none], rfl, fun t _ => ⟨rfl, ?_⟩⟩) (Nat.le_trans hl (by decide))
  cases x with
  | int i => simp [hdW]
  | str i => simp [hdW]
  | tup ys =>
    cases ys with
    | nil => simp [hdW]
    | cons y r =>
      have hgt : (0 : Int) < (r.length : Int) + 1 := by omega
      simp [hdW, hgt]
  | non => exact absurd (hx _ hx') (by cases N <;> exact id)
  | bl i => exact absurd (hx _ hx') (by cases N <;> exact id)
  | ref i => exact absurd (hx _ hx') (by cases N <;> exact id)
theorem tr_many (hN : N ≤ 50) (C : Nat → List Mi.W → Sto → R Mi.W) (x0 : Option Mi.W) (ws : List Mi.W) (hx : ∀ x ∈ ws, Thg N x) (hl : ws.length ≤ 10000) (q : Nat) (τ : Sto) (hq : τ[q]? = some (.lst (ws.map hdW))) : ∃ τ', (ev T C (.bi .len (.cons trM .nil))).e [x0, some (.ref q), none, none, none, none, none, none, none, none, none, none] τ = .ok (.int ((ws.filter isRec).length : Int)) τ' ∧ τ <+: τ' := by
  have hi : (ev T C (.seq (.var 1))).i [x0, some (.ref q), none, none, none, none, none, none, none, none, none, none] τ = .ok ⟨[(q, ws.map hdW)], ws.map hdW⟩ τ := by simp [seqI, seq_lst hq]
  have e1 : (ev T C trM).e [x0, some (.ref q), none, none, none, none, none, none, none, none, none, none] τ = .ok (.ref τ.length) (τ ++ [.lst (((ws.map hdW).filter fun y => isS y "record").map id)]) := by
    rw [ev_lc, hi, R.bind_ok]
    refine lcL_new (fun z hz => by cases List.mem_singleton.mp hz; exact seq_lst hq) (fun y => isS y "record") id (ws.map hdW) (fun y hy => ⟨[x0, some (.ref q), none, none, none, none, none, none, none, none, some y, none], rfl, fun t _ => ⟨?_, fun _ => by simp⟩⟩) (by rw [List.length_map]; exact Nat.le_trans hl (by decide))
    obtain ⟨x, hx', rfl⟩ := List.mem_map.mp hy
    have heq : eqW t (hdW x) (.str "record") = some (isS (hdW x) "record") := by
      have hxN := hx x hx'
      cases x with
      | int i => exact eq_non rec_ok
      | str i => exact eq_non rec_ok
      | tup ys =>
        cases ys with
        | nil => exact eq_non rec_ok
        | cons y r => exact eq_thg ((Thg.tup hxN).2 y List.mem_cons_self) (by omega) rec_ok
      | non => exact eq_non rec_ok
      | bl i => exact eq_non rec_ok
      | ref i => exact eq_non rec_ok
    generalize isS (hdW x) "record" = d at *
    generalize hdW x = y at *
    have hne : dicAt t y = none ∨ True := .inr trivial
    cases y with
    | ref n => exact absurd heq (by
        intro z
        have := List.mem_map.mp hy
        obtain ⟨x, hx', e⟩ := this
        have hxN := hx x hx'
        cases x with
        | tup ys =>
          cases ys with
          | nil => cases e
          | cons y r =>
            have hy := (Thg.tup hxN).2 y List.mem_cons_self
            have e' : y = .ref n := e
            rw [e'] at hy
            cases hM : N - 1 <;> (rw [hM] at hy; exact hy.elim)
        | _ => cases e)
    | _ => simp [heq]
  have hf : (((ws.map hdW).filter fun y => isS y "record").map id).length = (ws.filter isRec).length := by
    rw [List.map_id, List.filter_map, List.length_map]
    rfl
  generalize ((ws.map hdW).filter fun y => isS y "record").map id = ys at *
  have hg : (τ ++ [AO.lst ys])[τ.length]? = some (.lst ys) := at_end _ _
  have hlen := len_lst hg
  rw [← hf]
  refine ⟨τ ++ [.lst ys], ?_, List.prefix_append _ _⟩
  simp only [ev_bi, ev_cons_a, ev_nil_a, R.bind_ok, e1]
  exact hlen
theorem tr_kinds (C : Nat → List Mi.W → Sto → R Mi.W) (x0 x1 x2 x3 x4 x5 x6 x9 x10 x11 : Option Mi.W) (ks : List Str) (g : Str) (hks : ∀ k ∈ ks, PyData.strOk k = true) (hg : PyData.strOk g = true) (hl : ks.length ≤ 10000) (q : Nat) (τ : Sto) (hq : τ[q]? = some (.lst (ks.map W.str))) : ∃ τ', (ev T C trN).e [x0, x1, x2, x3, x4, x5, x6, some (.ref q), some (.str g), x9, x10, x11] τ = .ok (.bl (decide (g = "number" ∧ ks.all numB = true))) τ' ∧ τ <+: τ' := by
  have heq : ∀ t : Sto, eqW t (.str g) (.str "number") = some (decide (g = "number")) := fun t => eq_dec hg ok_number
  by_cases c : g = "number"
  · have hi : (ev T C (.seq (.var 7))).i [x0, x1, x2, x3, x4, x5, x6, some (.ref q), some (.str g), x9, x10, x11] τ = .ok ⟨[(q, ks.map W.str)], ks.map W.str⟩ τ := by simp [seqI, seq_lst hq]
    have e1 : (ev T C trK).e [x0, x1, x2, x3, x4, x5, x6, some (.ref q), some (.str g), x9, x10, x11] τ = .ok (.ref τ.length) (τ ++ [.lst ((ks.filter fun k => !numB k).map W.str)]) := by
      rw [ev_lc, hi, R.bind_ok]
      have := lcL_new (g := .name 11) (gs := [(q, ks.map W.str)]) (ρ := wipeS [x0, x1, x2, x3, x4, x5, x6, some (.ref q), some (.str g), x9, x10, x11] [11]) (test := (ev T C (.cmp .NotEq (.var 11) (.con (.str ("number" : Str))))).t) (elt := (ev T C (.var 11)).e) (τ0 := τ) (fun z hz => by cases List.mem_singleton.mp hz; exact seq_lst hq) (fun y => match y with
        | .str k => !numB k
        | _ => false) id (ks.map W.str) (fun y hy => by
          obtain ⟨k, hk, rfl⟩ := List.mem_map.mp hy
          refine ⟨[x0, x1, x2, x3, x4, x5, x6, some (.ref q), some (.str g), x9, x10, some (.str k)], rfl, fun t _ => ⟨?_, fun _ => by simp⟩⟩
          have h1 : eqW t (.str k) (.str "number") = some (numB k) := eq_dec (hks k hk) ok_number
          simp [h1]) (by rw [List.length_map]; exact Nat.le_trans hl (by decide))
      rw [this]
      congr 3
      rw [List.map_id, List.filter_map]
      rfl
    have h2 : eqW (τ ++ [AO.lst ((ks.filter fun k => !numB k).map W.str), .lst []]) (.ref τ.length) (.ref (τ.length + 1)) = some ((ks.filter fun k => !numB k).isEmpty) := eq_nones (at_off0 _ _) (fun k hk => hks k (List.mem_filter.mp hk).1) (at_off _ _ 1)
    have h3 : (ks.filter fun k => !numB k).isEmpty = ks.all numB := by
      rw [Bool.eq_iff_iff, List.isEmpty_iff, List.filter_eq_nil_iff, List.all_eq_true]
      exact ⟨fun h k hk => by simpa using h k hk, fun h k hk => by simp [h k hk]⟩
    refine ⟨τ ++ [.lst ((ks.filter fun k => !numB k).map W.str), .lst []], ?_, List.prefix_append _ _⟩
    rw [h3] at h2
    have hd : decide (g = "number" ∧ ks.all numB = true) = ks.all numB := by
      cases ks.all numB with
      | true => exact decide_eq_true ⟨c, rfl⟩
      | false => exact decide_eq_false fun z => by cases z.2
    rw [hd]
    have q1 : eqW τ (.str g) (.str "number") = some true := by rw [heq, decide_eq_true c]
    have e2 : (ev T C trK).e [x0, x1, x2, x3, x4, x5, x6, some (.ref q), some (.str g), x9, x10, x11] τ = .ok (.ref τ.length) (τ ++ [.lst ((ks.filter fun k => !numB k).map W.str)]) := e1
    generalize (ks.filter fun k => !numB k).map W.str = ys at *
    generalize ks.all numB = d at *
    unfold trN
    generalize hK : trK = K at *
    simp [q1, e2, newL, eqA_ref, h2]
  · have hd : decide (g = "number" ∧ ks.all numB = true) = false := decide_eq_false fun z => c z.1
    rw [hd]
    have q1 : eqW τ (.str g) (.str "number") = some false := by rw [heq, decide_eq_false c]
    exact ⟨τ, by simp [q1], List.prefix_refl _⟩
end
/-! look_at_tree, whole -/
theorem main_ok : PyData.strOk ("main" : Str) = true := by decide +kernel
theorem wstrs_len (xs : List Mi.W) : (wstrs xs).length ≤ xs.length := List.length_filterMap_le _ _
theorem heads_len {Rc : List (L2.Key × Mi.W)} : ∀ (ws : List Mi.W) (Fn Fn' : List (L2.Key × (List Str × Str))), headsK Rc ws Fn = some Fn' → (∀ x p, kG Fn x = some p → p.1.length ≤ 8) → ∀ x p, kG Fn' x = some p → p.1.length ≤ 8
  | [], Fn, Fn', h, hl => by cases h; exact hl
  | w :: r, Fn, Fn', h, hl => by
    have h' : (headK Rc Fn w).bind (headsK Rc r) = some Fn' := h
    cases e : headK Rc Fn w with
    | none => rw [e] at h'; cases h'
    | some F1 =>
      rw [e] at h'
      refine heads_len r F1 Fn' h' ?_
      unfold headK at e
      split at e
      · split at e
        · split at e
          · split at e
            · rename_i hn hz
              split at e
              · split at e
                · cases e
                  intro x p hx
                  rw [kG_app _ _ _ _ (by
                    rw [Bool.and_eq_true] at hn
                    cases q : kG Fn _ with
                    | none => rfl
                    | some p => rw [q] at hn; exact absurd hn.2 (by simp))] at hx
                  split at hx
                  · cases hx
                    have a1 := wstrs_len (everyO (List.drop 1 ‹List Mi.W›))
                    rename_i ps _ _ _ _ _ _ _
                    exact Nat.le_trans (wstrs_len _) (Nat.le_trans (every_len _) (by rw [List.length_drop]; omega))
                  · exact hl x p hx
                · cases e
              · cases e
            · cases e
          · cases e
        · cases e
      · cases e
section
variable {N k : Nat}
theorem z19 (hN : N ≤ 50) (w : Mi.W) (hw : Thg N w) (τ : Sto) : ZT τ (lookT N w) (evF T F (k + 5 * N + 6) 19 [w] τ) := by
  have w1 : ∀ b, (ev T (evF T F (k + 5 * N + 5)) trC).e [some w, none, none, none, none, none, none, none, none, none, none, none] τ = .ok (.bl b) τ → evS T (evF T F (k + 5 * N + 5)) (.ex (.call 2 (.cons trC .nil))) [some w, none, none, none, none, none, none, none, none, none, none, none] τ = wantR [some w, none, none, none, none, none, none, none, none, none, none, none] (.bl b) τ := fun b hb => want_eq (k + 5 * N + 4) trC _ τ hb
  have no : (ev T (evF T F (k + 5 * N + 5)) trC).e [some w, none, none, none, none, none, none, none, none, none, none, none] τ = .ok (.bl false) τ → ZT τ .bad (evF T F (k + 5 * N + 6) 19 [w] τ) := fun hb => by
    rw [u19, b19, evS_cons, w1 false hb]
    exact ⟨_, τ, rfl, List.prefix_refl _⟩
  cases w with
  | int i => exact no (by simp)
  | str i => exact no (by simp)
  | non => exact absurd hw (by cases N <;> exact id)
  | bl i => exact absurd hw (by cases N <;> exact id)
  | ref i => exact absurd hw (by cases N <;> exact id)
  | tup xs =>
    cases xs with
    | nil => exact no (by simp)
    | cons y ws =>
      have hxs := (Thg.tup hw).2
      have hxl := (Thg.tup hw).1
      have hy := hxs y List.mem_cons_self
      have heq : ∀ t : Sto, eqW t y (.str "program") = some (isS y "program") := fun t => eq_thg hy (by omega) prog_ok
      cases y with
      | int z =>
        refine no ?_
        by_cases q : (1 : Int) < (ws.length : Int) + 1
        · simp [q, heq, isS]
        · simp [q]
      | tup z =>
        refine no ?_
        by_cases q : (1 : Int) < (ws.length : Int) + 1
        · simp [q, heq, isS]
        · simp [q]
      | non => exact absurd hy (by cases N - 1 <;> exact id)
      | bl b => exact absurd hy (by cases N - 1 <;> exact id)
      | ref b => exact absurd hy (by cases N - 1 <;> exact id)
      | str h =>
        have heq' : ∀ t : Sto, eqW t (.str h) (.str "program") = some (decide (h = "program")) := fun t => eq_dec (Thg.str hy).ok prog_ok
        have c1 : (ev T (evF T F (k + 5 * N + 5)) trC).e [some (.tup (.str h :: ws)), none, none, none, none, none, none, none, none, none, none, none] τ = .ok (.bl (decide (h = "program" ∧ 1 ≤ ws.length))) τ := by
          by_cases q : (1 : Int) < (ws.length : Int) + 1
          · have hd : decide (h = "program" ∧ 1 ≤ ws.length) = decide (h = "program") := by
              by_cases c : h = "program"
              · rw [decide_eq_true c, decide_eq_true ⟨c, by omega⟩]
              · rw [decide_eq_false c, decide_eq_false fun z => c z.1]
            rw [hd]
            simp [q, heq']
          · rw [decide_eq_false (show ¬ (h = "program" ∧ 1 ≤ ws.length) from fun z => q (by omega))]
            simp [q]
        unfold lookT
        dsimp only
        by_cases cp : h = "program" ∧ 1 ≤ ws.length
        · rw [if_pos cp]
          rw [decide_eq_true cp] at c1
          have hwl : ws.length ≤ 10000 := by rw [List.length_cons] at hxl; omega
          have hws : ∀ x ∈ ws, Thg (N - 1) x := fun x hx => hxs x (List.mem_cons_of_mem _ hx)
          have e1 := tr_heads (N := N - 1) (evF T F (k + 5 * N + 5)) h ws hws hwl τ
          obtain ⟨τ2, e2, p2⟩ := tr_many (N := N - 1) (by omega) (evF T F (k + 5 * N + 5)) (some (.tup (.str h :: ws))) ws hws hwl τ.length (τ ++ [.lst (ws.map hdW)]) (at_end _ _)
          have p02 : τ <+: τ2 := (List.prefix_append _ _).trans p2
          generalize (ws.filter isRec).length = n at *
          have st1 : evS T (evF T F (k + 5 * N + 5)) (.set 1 trH) [some (.tup (.str h :: ws)), none, none, none, none, none, none, none, none, none, none, none] τ = .ok (.nx [some (.tup (.str h :: ws)), some (.ref τ.length), none, none, none, none, none, none, none, none, none, none]) (τ ++ [.lst (ws.map hdW)]) := by
            rw [evS_set, e1]
            rfl
          have st2 : evS T (evF T F (k + 5 * N + 5)) (.set 2 (.bi .len (.cons trM .nil))) [some (.tup (.str h :: ws)), some (.ref τ.length), none, none, none, none, none, none, none, none, none, none] (τ ++ [.lst (ws.map hdW)]) = .ok (.nx [some (.tup (.str h :: ws)), some (.ref τ.length), some (.int (n : Int)), none, none, none, none, none, none, none, none, none]) τ2 := by
            rw [evS_set, e2]
            rfl
          rw [u19, b19, evS_cons, w1 true c1, wantR_t, seqR_nx, evS_cons, st1, seqR_nx, evS_cons, st2, seqR_nx, evS_cons]
          have hc1 := cut_mid (.str h) ws n (1 + (n : Int)) rfl
          have hc2 : cut (.str h :: ws) (some (1 + (n : Int))) none = ws.drop n := cut_from (.str h :: ws) (n + 1) (1 + (n : Int)) (by omega)
          have zr := z17 (m := k + 5 * N + 2) (N := N - 1) (by omega) (ws.take n) (fun x hx => hws x (List.mem_of_mem_take hx)) (by rw [List.length_take]; omega) τ2
          have ev3 : (ev T (evF T F (k + 5 * N + 5)) (.call 17 (.cons (.slice (.var 0) (.con (.int 1)) (.op .Add (.con (.int 1)) (.var 2))) .nil))).e [some (.tup (.str h :: ws)), some (.ref τ.length), some (.int (n : Int)), none, none, none, none, none, none, none, none, none] τ2 = tail [some (.tup (.str h :: ws)), some (.ref τ.length), some (.int (n : Int)), none, none, none, none, none, none, none, none, none] (evF T F (k + 5 * N + 5) 17 [.tup (ws.take n)] τ2) := by simp [hc1]
          cases hr : recsK (ws.take n) [] with
          | none =>
            rw [hr] at zr
            obtain ⟨ρ, τ3, e3, p3⟩ := zr
            have e3' : evF T F (k + 5 * N + 5) 17 [.tup (ws.take n)] τ2 = .exn ⟨2, []⟩ ρ τ3 := e3
            exact ⟨[some (.tup (.str h :: ws)), some (.ref τ.length), some (.int (n : Int)), none, none, none, none, none, none, none, none, none], τ3, by rw [evS_set, ev3, e3']; rfl, p02.trans p3⟩
          | some Rc =>
            rw [hr] at zr
            obtain ⟨ra, d, τ3, e3, p3, d3⟩ := zr
            have e3' : evF T F (k + 5 * N + 5) 17 [.tup (ws.take n)] τ2 = .ok (.ref d) τ3 := e3
            have p03 := p02.trans p3
            have st3 : evS T (evF T F (k + 5 * N + 5)) (.set 3 (.call 17 (.cons (.slice (.var 0) (.con (.int 1)) (.op .Add (.con (.int 1)) (.var 2))) .nil))) [some (.tup (.str h :: ws)), some (.ref τ.length), some (.int (n : Int)), none, none, none, none, none, none, none, none, none] τ2 = .ok (.nx [some (.tup (.str h :: ws)), some (.ref τ.length), some (.int (n : Int)), some (.ref d), none, none, none, none, none, none, none, none]) τ3 := by
              rw [evS_set, ev3, e3']
              rfl
            have st4 : evS T (evF T F (k + 5 * N + 5)) (.set 4 (.slice (.var 0) (.op .Add (.con (.int 1)) (.var 2)) .nil)) [some (.tup (.str h :: ws)), some (.ref τ.length), some (.int (n : Int)), some (.ref d), none, none, none, none, none, none, none, none] τ3 = .ok (.nx [some (.tup (.str h :: ws)), some (.ref τ.length), some (.int (n : Int)), some (.ref d), some (.tup (ws.drop n)), none, none, none, none, none, none, none]) τ3 := by
              simp [hc2]
            rw [st3, seqR_nx, evS_cons, st4, seqR_nx, evS_cons]
            have hdr : ∀ x ∈ ws.drop n, Thg (N - 1) x := fun x hx => hws x (List.mem_of_mem_drop hx)
            have zh := z18 (m := k + 5 * N + 2) (N := N - 1) (by omega) (ws.drop n) hdr (by rw [List.length_drop]; omega) d τ3 d3
            have ev5 : (ev T (evF T F (k + 5 * N + 5)) (.call 18 (.cons (.var 3) (.cons (.var 4) .nil)))).e [some (.tup (.str h :: ws)), some (.ref τ.length), some (.int (n : Int)), some (.ref d), some (.tup (ws.drop n)), none, none, none, none, none, none, none] τ3 = tail [some (.tup (.str h :: ws)), some (.ref τ.length), some (.int (n : Int)), some (.ref d), some (.tup (ws.drop n)), none, none, none, none, none, none, none] (evF T F (k + 5 * N + 5) 18 [.ref d, .tup (ws.drop n)] τ3) := by simp
            dsimp only
            cases hh : headsK Rc (ws.drop n) [] with
            | none =>
              rw [hh] at zh
              obtain ⟨ρ, τ4, e4, p4⟩ := zh
              have e4' : evF T F (k + 5 * N + 5) 18 [.ref d, .tup (ws.drop n)] τ3 = .exn ⟨2, []⟩ ρ τ4 := e4
              exact ⟨[some (.tup (.str h :: ws)), some (.ref τ.length), some (.int (n : Int)), some (.ref d), some (.tup (ws.drop n)), none, none, none, none, none, none, none], τ4, by rw [evS_set, ev5, e4']; rfl, p03.trans p4⟩
            | some Fn =>
              rw [hh] at zh
              obtain ⟨s, f, l, e, τ4, e4, h4, hs4⟩ := zh
              have e4' : evF T F (k + 5 * N + 5) 18 [.ref d, .tup (ws.drop n)] τ3 = .ok (.ref s) τ4 := e4
              have p04 := p03.trans h4.p
              have st5 : evS T (evF T F (k + 5 * N + 5)) (.set 5 (.call 18 (.cons (.var 3) (.cons (.var 4) .nil)))) [some (.tup (.str h :: ws)), some (.ref τ.length), some (.int (n : Int)), some (.ref d), some (.tup (ws.drop n)), none, none, none, none, none, none, none] τ3 = .ok (.nx [some (.tup (.str h :: ws)), some (.ref τ.length), some (.int (n : Int)), some (.ref d), some (.tup (ws.drop n)), some (.ref s), none, none, none, none, none, none]) τ4 := by
                rw [evS_set, ev5, e4']
                rfl
              rw [st5, seqR_nx, evS_cons]
              obtain ⟨fk, k1, k2, k3⟩ := h4.kk
              have k3m := k3 "main"
              have hget : kvGet fk (.inr "main") = kG fk "main" := rfl
              have w6 : ∀ b, b = (kvGet fk (.inr "main")).isSome → evS T (evF T F (k + 5 * N + 5)) (.ex (.call 2 (.cons (.cmp .In (.con (.str ("main" : Str))) (.fld (.var 5) ("functions" : Str))) .nil))) [some (.tup (.str h :: ws)), some (.ref τ.length), some (.int (n : Int)), some (.ref d), some (.tup (ws.drop n)), some (.ref s), none, none, none, none, none, none] τ4 = wantR [some (.tup (.str h :: ws)), some (.ref τ.length), some (.int (n : Int)), some (.ref d), some (.tup (ws.drop n)), some (.ref s), none, none, none, none, none, none] (.bl b) τ4 := fun b hb => want_eq (k + 5 * N + 4) _ _ τ4 (by
                rw [hb]
                simp [h4.ss, in_ref, k1, keyOf])
              dsimp only
              cases hm : kG Fn "main" with
              | none =>
                rw [hm] at k3m
                rw [w6 false (by rw [hget, k3m]; rfl)]
                exact ⟨_, τ4, rfl, p04⟩
              | some p =>
                rw [hm] at k3m
                obtain ⟨q, q1, q2, q3, q4⟩ := k3m
                rw [w6 true (by rw [hget, q3]; rfl), wantR_t, seqR_nx, evS_cons]
                have st7 : evS T (evF T F (k + 5 * N + 5)) (.setT [7, 8] (.ix (.fld (.var 5) ("functions" : Str)) (.con (.str ("main" : Str))))) [some (.tup (.str h :: ws)), some (.ref τ.length), some (.int (n : Int)), some (.ref d), some (.tup (ws.drop n)), some (.ref s), none, none, none, none, none, none] τ4 = .ok (.nx [some (.tup (.str h :: ws)), some (.ref τ.length), some (.int (n : Int)), some (.ref d), some (.tup (ws.drop n)), some (.ref s), none, some (.ref q), some (.str p.2), none, none, none]) τ4 := by
                  have hg2 : kvGet fk (.inr "main") = some (.tup [.ref q, .str p.2]) := q3
                  simp [h4.ss, item_ref, k1, keyOf, hg2, putG]
                obtain ⟨o1, o2⟩ := h4.fn "main" p hm
                have hkl : p.1.length ≤ 10000 := by
                  have hsh := heads_len (ws.drop n) [] Fn hh (fun x p hx => by cases hx) "main" p hm
                  omega
                obtain ⟨τ5, e5, p5⟩ := tr_kinds (evF T F (k + 5 * N + 5)) (some (.tup (.str h :: ws))) (some (.ref τ.length)) (some (.int (n : Int))) (some (.ref d)) (some (.tup (ws.drop n))) (some (.ref s)) none none none none p.1 p.2 o1 o2 hkl q τ4 q4
                have w8 := want_eq (k + 5 * N + 4) trN _ τ4 e5
                rw [st7, seqR_nx, evS_cons, w8]
                dsimp only
                by_cases cg : p.2 = "number" ∧ p.1.all numB = true
                · rw [if_pos cg, decide_eq_true cg, wantR_t, seqR_nx, evS_cons, evS_loop]
                  have hit : (ev T (evF T F (k + 5 * N + 5)) (.seq (.var 4))).i [some (.tup (.str h :: ws)), some (.ref τ.length), some (.int (n : Int)), some (.ref d), some (.tup (ws.drop n)), some (.ref s), none, some (.ref q), some (.str p.2), none, none, none] τ5 = .ok ⟨[], ws.drop n⟩ τ5 := by simp
                  rw [hit, R.bind_ok]
                  have h5 := h4.pre p5
                  have hsl : τ.length ≤ s := Nat.le_trans p03.length_le hs4
                  have lp := fun_loop (k := k) (N := N) τ hsl (some (.tup (.str h :: ws))) (some (.ref τ.length)) (some (.int (n : Int))) (some (.ref d)) (some (.tup (ws.drop n))) (some (.ref q)) (some (.str p.2)) none none none (ws.drop n) (fun w hw => ⟨(hdr w hw).mono (by omega), heads_shape (ws.drop n) [] Fn hh w hw⟩) none (.str "number") l e τ5 (h5.kb ra) h5.ss (p04.trans p5)
                  cases hf : funsK Rc Fn N (ws.drop n) with
                  | stk => trivial
                  | bad =>
                    rw [hf] at lp
                    obtain ⟨ρ, τ6, e6, p6⟩ := lp
                    exact ⟨ρ, τ6, by rw [e6]; rfl, p6⟩
                  | ok u =>
                    rw [hf] at lp
                    obtain ⟨y6, τ6, e6, p6⟩ := lp
                    exact ⟨τ6, by rw [e6]; simp, p6⟩
                · rw [if_neg cg, decide_eq_false cg]
                  exact ⟨_, τ5, rfl, p04.trans p5⟩
        · rw [if_neg cp]
          rw [decide_eq_false cp] at c1
          exact no c1
end
/-! the law's lists -/
def wr25 : List Mi.W := [.tup [.str "record", .str "r"],
  .tup [.str "record", .str "r", .str "a", .str "b", .str "c", .str "d", .str "e"],
  .tup [.str "record", .str "r", .str "a", .str "b", .str "a"],
  .tup [.str "record", .str "r", .str "A"],
  .tup [.str "record", .str "list", .str "a"],
  .tup [.str "record", .str "number", .str "a"],
  .tup [.str "record", .str "truth", .str "a"],
  .tup [.str "record", .str "R", .str "a"],
  .tup [.str "record", .str "rr", .str "a"],
  .tup [.str "record", .str "yes", .str "a"],
  .tup [.str "record", .str "r", .str "no"],
  .tup [.str "record", .str "r", .int 1],
  .tup [.str "record", .int 1, .str "a"],
  .tup [.str "record", .str "r", .str "a", .str "abcdefghi"],
  .tup [.str "recor", .str "r", .str "a"],
  .tup [.str "record"],
  .tup [.str "record", .str "r", .tup [.str "a"]],
  .tup [.str "record", .str "abcdefghi", .str "a"],
  .tup []]
def rt25 : List Mi.W := [.tup [.str "record", .str "r", .str "a"],
  .tup [.str "record", .str "r", .str "a", .str "b", .str "c", .str "d"],
  .tup [.str "record", .str "main", .str "r"],
  .tup [.str "record", .str "abcdefgh", .str "r"]]
def wr26 : List Mi.W := [.tup [.str "fun", .str "f", .tup [.str "a"], .str "number", .tup [.str "give", .int 1]],
  .tup [.str "fun", .str "f", .tup [.str "a", .str "number", .str "a", .str "number"], .str "number", .tup [.str "give", .int 1]],
  .tup [.str "fun", .str "f", .tup [.str "a", .str "number", .str "b", .str "truth", .str "c", .str "list", .str "d", .str "number", .str "e", .str "number"], .str "number", .tup [.str "give", .int 1]],
  .tup [.str "fun", .str "f", .tup [.str "yes", .str "number"], .str "number", .tup [.str "give", .int 1]],
  .tup [.str "fun", .str "f", .tup [.str "a", .str "numbers"], .str "number", .tup [.str "give", .int 1]],
  .tup [.str "fun", .str "f", .tup [.str "number", .str "a"], .str "number", .tup [.str "give", .int 1]],
  .tup [.str "fun", .str "f", .tup [], .str "rec", .tup [.str "give", .int 1]],
  .tup [.str "fun", .str "f", .tup [], .str "number"],
  .tup [.str "fun", .str "main", .tup [], .str "number", .tup [.str "give", .int 1]],
  .tup [.str "fun", .str "g", .tup [], .str "number", .tup [.str "give", .int 1]],
  .tup [.str "fun", .str "F", .tup [], .str "number", .tup [.str "give", .int 1]],
  .tup [.str "fun", .str "f", .str "a", .str "number", .tup [.str "give", .int 1]],
  .tup [.str "fun", .str "f", .tup [], .tup [.str "give", .int 1]],
  .tup [.str "fun", .str "f", .tup [], .int 1, .tup [.str "give", .int 1]],
  .tup [.str "fun", .int 1, .tup [], .str "number", .tup [.str "give", .int 1]],
  .tup [.str "fun", .str "f", .tup [.int 1, .str "number"], .str "number", .tup [.str "give", .int 1]],
  .tup [.str "func", .str "f", .tup [], .str "number", .tup [.str "give", .int 1]],
  .tup [.str "fun"],
  .str "fun",
  .int 3,
  .tup [],
  .tup [.str "fun", .str "f", .tup [.str "b", .str "number", .str "A", .str "number"], .str "number", .tup [.str "give", .int 1]],
  .tup [.str "fun", .str "A", .tup [], .str "number", .tup [.str "give", .int 1]],
  .tup [.str "fun", .str "f", .tup [.str "b", .str "number", .str "a1", .str "number"], .str "number", .tup [.str "give", .int 1]],
  .tup [.str "fun", .str "a1", .tup [], .str "number", .tup [.str "give", .int 1]],
  .tup [.str "fun", .str "f", .tup [.str "b", .str "number", .str "abcdefghi", .str "number"], .str "number", .tup [.str "give", .int 1]],
  .tup [.str "fun", .str "abcdefghi", .tup [], .str "number", .tup [.str "give", .int 1]],
  .tup [.str "fun", .str "f", .tup [.str "b", .str "number", .str "no", .str "number"], .str "number", .tup [.str "give", .int 1]],
  .tup [.str "fun", .str "no", .tup [], .str "number", .tup [.str "give", .int 1]]]
def rt26 : List Mi.W := [.tup [.str "fun", .str "f", .tup [], .str "number", .tup [.str "give", .int 1]],
  .tup [.str "fun", .str "f", .tup [.str "a", .str "rr", .str "b", .str "truth", .str "c", .str "list", .str "d", .str "number"], .str "number", .tup [.str "give", .int 1]],
  .tup [.str "fun", .str "rr", .tup [.str "x", .str "list"], .str "rr", .tup [.str "give", .tup [.str "new", .str "rr"]]],
  .tup [.str "fun", .str "abcdefgh", .tup [], .str "list", .tup [.str "fail", .int 1]]]
def wr27 : List Mi.W := [.tup [.tup [.str "out", .int 1]],
  .tup [.tup [.str "while", .str "yes", .tup [.tup [.str "give", .int 1]]]],
  .tup [.tup [.str "if", .str "yes", .tup [.tup [.str "give", .int 1]], .tup []]],
  .tup [.tup [.str "if", .str "yes", .tup [], .tup [.tup [.str "give", .int 1]]]],
  .tup [],
  .tup [.tup [.str "give", .int 1], .tup [.str "give", .int 1]],
  .tup [.tup [.str "fail", .int 1], .tup [.str "out", .int 1]],
  .tup [.tup [.str "if", .str "yes", .tup [.tup [.str "give", .int 1]], .tup [.tup [.str "out", .int 1], .tup [.str "fail", .int 2]]], .tup [.str "give", .int 1]],
  .tup [.tup [.str "if", .str "yes", .tup [.tup [.str "give", .int 1], .tup [.str "out", .int 1]], .tup []], .tup [.str "give", .int 1]],
  .tup [.tup [.str "while", .str "no", .tup [.tup [.str "fail", .int 1], .tup [.str "fail", .int 1]]], .tup [.str "give", .int 1]],
  .tup [.tup [.str "if", .str "no", .tup [.tup [.str "give", .int 1]], .tup [.tup [.str "if", .str "yes", .tup [.tup [.str "give", .int 1]], .tup [.tup [.str "out", .int 1], .tup [.str "fail", .int 2]]], .tup [.str "out", .int 1]]], .tup [.str "give", .int 1]],
  .tup [.tup [.str "if", .str "no", .tup [.tup [.str "if", .str "yes", .tup [.tup [.str "give", .int 1]], .tup [.tup [.str "out", .int 1], .tup [.str "fail", .int 2]]]], .tup [.tup [.str "while", .str "yes", .tup [.tup [.str "give", .int 1]]]]]],
  .tup [.tup [.str "let", .str "x", .int 1]],
  .tup [.tup [.str "do", .int 1]]]
def rt27 : List Mi.W := [.tup [.tup [.str "give", .int 1]],
  .tup [.tup [.str "if", .str "yes", .tup [.tup [.str "give", .int 1]], .tup [.tup [.str "out", .int 1], .tup [.str "fail", .int 2]]]],
  .tup [.tup [.str "if", .str "yes", .tup [.tup [.str "if", .str "yes", .tup [.tup [.str "give", .int 1]], .tup [.tup [.str "out", .int 1], .tup [.str "fail", .int 2]]]], .tup [.tup [.str "if", .str "yes", .tup [.tup [.str "give", .int 1]], .tup [.tup [.str "out", .int 1], .tup [.str "fail", .int 2]]]]]],
  .tup [.tup [.str "while", .str "yes", .tup [.tup [.str "give", .int 1]]], .tup [.str "give", .int 1]],
  .tup [.tup [.str "fail", .int 0]],
  .tup [.tup [.str "if", .str "yes", .tup [.tup [.str "give", .int 1]], .tup []], .tup [.str "if", .str "yes", .tup [.tup [.str "give", .int 1]], .tup [.tup [.str "out", .int 1], .tup [.str "fail", .int 2]]]],
  .tup [.tup [.str "while", .str "no", .tup [.tup [.str "if", .str "yes", .tup [.tup [.str "give", .int 1]], .tup [.tup [.str "out", .int 1], .tup [.str "fail", .int 2]]]]], .tup [.str "if", .str "no", .tup [], .tup []], .tup [.str "give", .int 1]]]
def wr28 : List Mi.W := [.tup [.str "fun", .str "main", .tup [.str "a", .str "truth"], .str "number", .tup [.str "give", .int 1]],
  .tup [.str "fun", .str "main", .tup [.str "a", .str "number", .str "b", .str "rr"], .str "number", .tup [.str "give", .int 1]],
  .tup [.str "fun", .str "main", .tup [], .str "truth", .tup [.str "give", .str "yes"]],
  .tup [.str "fun", .str "mains", .tup [], .str "number", .tup [.str "give", .int 1]],
  .tup [.str "fun", .str "main", .tup [.str "a", .str "list"], .str "number", .tup [.str "give", .int 1]],
  .tup [.str "fun", .str "main", .tup [], .str "rr", .tup [.str "give", .tup [.str "new", .str "rr"]]]]
def rt28 : List Mi.W := [.tup [.str "fun", .str "main", .tup [], .str "number", .tup [.str "give", .int 1]],
  .tup [.str "fun", .str "main", .tup [.str "a", .str "number", .str "b", .str "number"], .str "number", .tup [.str "give", .str "b"]]]
def prs (r w : List Mi.W) : List (Mi.W × Bool) := r.map (fun x => (x, true)) ++ w.map (fun x => (x, false))
section
variable {C : Nat → List Mi.W → Sto → R Mi.W}
theorem new_step {i : Nat} {ρ : Sl} {τ0 τ : Sto} (L : Mi.E) (ws : List Mi.W) (p : τ0 <+: τ) (hL : ∀ t, (ev T C L).a ρ t = .ok ws t) (hz : ws.length ≤ 1000) : ∃ n' τ', (∀ rest, evS T C (.cons (.set i (.lst L)) rest) ρ τ = evS T C rest (ρ.set i (some (.ref n'))) τ') ∧ τ <+: τ' ∧ τ0 <+: τ' ∧ τ'[n']? = some (.lst ws) := by
  refine ⟨τ.length, τ ++ [.lst ws], fun rest => ?_, List.prefix_append _ _, p.trans (List.prefix_append _ _), at_end _ _⟩
  have h := hL τ
  have hz' : ws.length ≤ sizeLine := Nat.le_trans hz (by decide)
  rw [evS_cons, evS_set, ev_lst, h, R.bind_ok, if_pos hz']
  rfl
theorem add_step {i n : Nat} {ρ : Sl} {τ0 τ : Sto} {xs : List Mi.W} (L : Mi.E) (ws : List Mi.W) (hv : ρ[i]? = some (some (.ref n))) (p : τ0 <+: τ) (hn : τ[n]? = some (.lst xs)) (hL : ∀ t, (ev T C L).a ρ t = .ok ws t) (hz : xs.length + ws.length ≤ 1000) : ∃ n' τ', (∀ rest, evS T C (.cons (.set i (.op .Add (.var i) (.lst L))) rest) ρ τ = evS T C rest (ρ.set i (some (.ref n'))) τ') ∧ τ <+: τ' ∧ τ0 <+: τ' ∧ τ'[n']? = some (.lst (xs ++ ws)) := by
  refine ⟨τ.length + 1, τ ++ [.lst ws, .lst (xs ++ ws)], fun rest => ?_, List.prefix_append _ _, p.trans (List.prefix_append _ _), at_off _ _ 1⟩
  have h := hL τ
  have g1 : (τ ++ [AO.lst ws])[n]? = some (.lst xs) := at_old hn
  have g2 : (τ ++ [AO.lst ws])[τ.length]? = some (.lst ws) := at_end _ _
  have g3 := binop_lst g1 g2 (Nat.le_trans hz (by decide))
  have e : (ev T C (.op .Add (.var i) (.lst L))).e ρ τ = .ok (.ref (τ.length + 1)) (τ ++ [.lst ws, .lst (xs ++ ws)]) := by
    have hz' : ws.length ≤ sizeLine := Nat.le_trans (show ws.length ≤ 1000 by omega) (by decide)
    simp [hv, h, newL, g3, hz']
  rw [evS_cons, evS_set, e]
  rfl
abbrev pickE (s : Nat) (b : Bool) : Mi.S := .ret (.lst (.cons (.ix (.var s) (.op .Mod (.op .FloorDiv (.var 0) (.con (.int 2))) (.bi .len (.cons (.var s) .nil)))) (.cons (.con (.bl b)) .nil)))
abbrev pickS (r w : Nat) : Mi.S := .cons (.ife (.cmp .Eq (.op .Mod (.var 0) (.con (.int 2))) (.con (.int 0))) (.cons (pickE r true) .nil) .nil) (.cons (pickE w false) .nil)
theorem pickE_run {c : Int} {s n : Nat} {ρ : Sl} {τ : Sto} {xs : List Mi.W} (b : Bool) (h0 : ρ[0]? = some (some (.int c))) (hs : ρ[s]? = some (some (.ref n))) (hg : τ[n]? = some (.lst xs)) (hl : 0 < xs.length) : ∃ x, evS T C (pickE s b) ρ τ = .ok (.rt (.ref τ.length)) (τ ++ [.lst [x, .bl b]]) ∧ x ∈ xs := by
  have hp : (0 : Int) < (xs.length : Int) := by omega
  obtain ⟨x, hx, hm⟩ := atI_mem (xs := xs) (i := c / 2 % (xs.length : Int)) (Int.emod_nonneg _ (by omega)) (Int.emod_lt_of_pos _ hp)
  refine ⟨x, ?_, hm⟩
  have hlen : builtin .len [.ref n] τ = .ok (.int (xs.length : Int)) τ := len_lst hg
  have m1 : ∀ a : Int, Mi.binI .Mod a (xs.length : Int) = some (a % (xs.length : Int)) := fun a => binI_mod hp
  generalize (xs.length : Int) = xl at *
  simp [h0, hs, hlen, m1, item_ref, hg, hx, newL]
theorem pick_run {c : Int} {r w nr nw : Nat} {ρ : Sl} {τ : Sto} {rs ws : List Mi.W} (h0 : ρ[0]? = some (some (.int c))) (hr : ρ[r]? = some (some (.ref nr))) (hw : ρ[w]? = some (some (.ref nw))) (gr : τ[nr]? = some (.lst rs)) (gw : τ[nw]? = some (.lst ws)) (lr : 0 < rs.length) (lw : 0 < ws.length) : ∃ x b, evS T C (pickS r w) ρ τ = .ok (.rt (.ref τ.length)) (τ ++ [.lst [x, .bl b]]) ∧ (x, b) ∈ prs rs ws := by
  unfold pickS
  have t : (ev T C (.cmp .Eq (.op .Mod (.var 0) (.con (.int 2))) (.con (.int 0)))).t ρ τ = .ok (c % 2 == 0) τ := by simp [h0]
  rw [evS_cons, evS_ife, t, R.bind_ok]
  cases c % 2 == 0 with
  | true =>
    obtain ⟨x, e, m⟩ := pickE_run (C := C) true h0 hr gr lr
    refine ⟨x, true, ?_, List.mem_append_left _ (List.mem_map.mpr ⟨x, m, rfl⟩)⟩
    rw [if_pos rfl, evS_cons, e]
    rfl
  | false =>
    obtain ⟨x, e, m⟩ := pickE_run (C := C) false h0 hw gw lw
    refine ⟨x, false, ?_, List.mem_append_right _ (List.mem_map.mpr ⟨x, m, rfl⟩)⟩
    rw [if_neg (by decide), evS_nil, seqR_nx, evS_cons, e]
    rfl
end
theorem r25 (k : Nat) (c : Int) (τ : Sto) : ∃ D τ' x b, evF T F (k + 1) 25 [.int c] τ = .ok (.ref D) τ' ∧ τ <+: τ' ∧ τ'[D]? = some (.lst [x, .bl b]) ∧ (x, b) ∈ prs rt25 wr25 := by
  have p0 : τ <+: τ := List.prefix_refl _
  obtain ⟨n1, τ1, e1, q1, p1, h1⟩ := new_step (C := evF T F k) (i := 1) (ρ := [some (.int c), none, none]) (.cons (.tup (.cons (.con (.str ("record" : Str))) (.cons (.con (.str ("r" : Str))) .nil))) (.cons (.tup (.cons (.con (.str ("record" : Str))) (.cons (.con (.str ("r" : Str))) (.cons (.con (.str ("a" : Str))) (.cons (.con (.str ("b" : Str))) (.cons (.con (.str ("c" : Str))) (.cons (.con (.str ("d" : Str))) (.cons (.con (.str ("e" : Str))) .nil)))))))) .nil)) [.tup [.str "record", .str "r"], .tup [.str "record", .str "r", .str "a", .str "b", .str "c", .str "d", .str "e"]] p0 (fun t => by simp) (by decide)
  have e1' : ∀ rest, evS T (evF T F k) _ _ _ = evS T (evF T F k) rest [some (.int c), some (.ref n1), none] τ1 := e1
  obtain ⟨n2, τ2, e2, q2, p2, h2⟩ := add_step (C := evF T F k) (i := 1) (ρ := [some (.int c), some (.ref n1), none]) (.cons (.tup (.cons (.con (.str ("record" : Str))) (.cons (.con (.str ("r" : Str))) (.cons (.con (.str ("a" : Str))) (.cons (.con (.str ("b" : Str))) (.cons (.con (.str ("a" : Str))) .nil)))))) (.cons (.tup (.cons (.con (.str ("record" : Str))) (.cons (.con (.str ("r" : Str))) (.cons (.con (.str ("A" : Str))) .nil)))) .nil)) [.tup [.str "record", .str "r", .str "a", .str "b", .str "a"], .tup [.str "record", .str "r", .str "A"]] rfl p1 h1 (fun t => by simp) (by decide)
  have e2' : ∀ rest, evS T (evF T F k) _ _ _ = evS T (evF T F k) rest [some (.int c), some (.ref n2), none] τ2 := e2
  obtain ⟨n3, τ3, e3, q3, p3, h3⟩ := add_step (C := evF T F k) (i := 1) (ρ := [some (.int c), some (.ref n2), none]) (.cons (.tup (.cons (.con (.str ("record" : Str))) (.cons (.con (.str ("list" : Str))) (.cons (.con (.str ("a" : Str))) .nil)))) (.cons (.tup (.cons (.con (.str ("record" : Str))) (.cons (.con (.str ("number" : Str))) (.cons (.con (.str ("a" : Str))) .nil)))) .nil)) [.tup [.str "record", .str "list", .str "a"], .tup [.str "record", .str "number", .str "a"]] rfl p2 h2 (fun t => by simp) (by decide)
  have e3' : ∀ rest, evS T (evF T F k) _ _ _ = evS T (evF T F k) rest [some (.int c), some (.ref n3), none] τ3 := e3
  obtain ⟨n4, τ4, e4, q4, p4, h4⟩ := add_step (C := evF T F k) (i := 1) (ρ := [some (.int c), some (.ref n3), none]) (.cons (.tup (.cons (.con (.str ("record" : Str))) (.cons (.con (.str ("truth" : Str))) (.cons (.con (.str ("a" : Str))) .nil)))) (.cons (.tup (.cons (.con (.str ("record" : Str))) (.cons (.con (.str ("R" : Str))) (.cons (.con (.str ("a" : Str))) .nil)))) .nil)) [.tup [.str "record", .str "truth", .str "a"], .tup [.str "record", .str "R", .str "a"]] rfl p3 h3 (fun t => by simp) (by decide)
  have e4' : ∀ rest, evS T (evF T F k) _ _ _ = evS T (evF T F k) rest [some (.int c), some (.ref n4), none] τ4 := e4
  obtain ⟨n5, τ5, e5, q5, p5, h5⟩ := add_step (C := evF T F k) (i := 1) (ρ := [some (.int c), some (.ref n4), none]) (.cons (.tup (.cons (.con (.str ("record" : Str))) (.cons (.con (.str ("rr" : Str))) (.cons (.con (.str ("a" : Str))) .nil)))) (.cons (.tup (.cons (.con (.str ("record" : Str))) (.cons (.con (.str ("yes" : Str))) (.cons (.con (.str ("a" : Str))) .nil)))) (.cons (.tup (.cons (.con (.str ("record" : Str))) (.cons (.con (.str ("r" : Str))) (.cons (.con (.str ("no" : Str))) .nil)))) .nil))) [.tup [.str "record", .str "rr", .str "a"], .tup [.str "record", .str "yes", .str "a"], .tup [.str "record", .str "r", .str "no"]] rfl p4 h4 (fun t => by simp) (by decide)
  have e5' : ∀ rest, evS T (evF T F k) _ _ _ = evS T (evF T F k) rest [some (.int c), some (.ref n5), none] τ5 := e5
  obtain ⟨n6, τ6, e6, q6, p6, h6⟩ := add_step (C := evF T F k) (i := 1) (ρ := [some (.int c), some (.ref n5), none]) (.cons (.tup (.cons (.con (.str ("record" : Str))) (.cons (.con (.str ("r" : Str))) (.cons (.con (.int 1)) .nil)))) (.cons (.tup (.cons (.con (.str ("record" : Str))) (.cons (.con (.int 1)) (.cons (.con (.str ("a" : Str))) .nil)))) (.cons (.tup (.cons (.con (.str ("record" : Str))) (.cons (.con (.str ("r" : Str))) (.cons (.con (.str ("a" : Str))) (.cons (.con (.str ("abcdefghi" : Str))) .nil))))) .nil))) [.tup [.str "record", .str "r", .int 1], .tup [.str "record", .int 1, .str "a"], .tup [.str "record", .str "r", .str "a", .str "abcdefghi"]] rfl p5 h5 (fun t => by simp) (by decide)
  have e6' : ∀ rest, evS T (evF T F k) _ _ _ = evS T (evF T F k) rest [some (.int c), some (.ref n6), none] τ6 := e6
  obtain ⟨n7, τ7, e7, q7, p7, h7⟩ := add_step (C := evF T F k) (i := 1) (ρ := [some (.int c), some (.ref n6), none]) (.cons (.tup (.cons (.con (.str ("recor" : Str))) (.cons (.con (.str ("r" : Str))) (.cons (.con (.str ("a" : Str))) .nil)))) (.cons (.tup (.cons (.con (.str ("record" : Str))) .nil)) (.cons (.tup (.cons (.con (.str ("record" : Str))) (.cons (.con (.str ("r" : Str))) (.cons (.tup (.cons (.con (.str ("a" : Str))) .nil)) .nil)))) (.cons (.tup (.cons (.con (.str ("record" : Str))) (.cons (.con (.str ("abcdefghi" : Str))) (.cons (.con (.str ("a" : Str))) .nil)))) (.cons (.tup .nil) .nil))))) [.tup [.str "recor", .str "r", .str "a"], .tup [.str "record"], .tup [.str "record", .str "r", .tup [.str "a"]], .tup [.str "record", .str "abcdefghi", .str "a"], .tup []] rfl p6 h6 (fun t => by simp) (by decide)
  have e7' : ∀ rest, evS T (evF T F k) _ _ _ = evS T (evF T F k) rest [some (.int c), some (.ref n7), none] τ7 := e7
  obtain ⟨n8, τ8, e8, q8, p8, h8⟩ := new_step (C := evF T F k) (i := 2) (ρ := [some (.int c), some (.ref n7), none]) (.cons (.tup (.cons (.con (.str ("record" : Str))) (.cons (.con (.str ("r" : Str))) (.cons (.con (.str ("a" : Str))) .nil)))) (.cons (.tup (.cons (.con (.str ("record" : Str))) (.cons (.con (.str ("r" : Str))) (.cons (.con (.str ("a" : Str))) (.cons (.con (.str ("b" : Str))) (.cons (.con (.str ("c" : Str))) (.cons (.con (.str ("d" : Str))) .nil))))))) .nil)) [.tup [.str "record", .str "r", .str "a"], .tup [.str "record", .str "r", .str "a", .str "b", .str "c", .str "d"]] p7 (fun t => by simp) (by decide)
  have e8' : ∀ rest, evS T (evF T F k) _ _ _ = evS T (evF T F k) rest [some (.int c), some (.ref n7), some (.ref n8)] τ8 := e8
  have h7_8 := pre_get q8 h7
  obtain ⟨n9, τ9, e9, q9, p9, h9⟩ := add_step (C := evF T F k) (i := 2) (ρ := [some (.int c), some (.ref n7), some (.ref n8)]) (.cons (.tup (.cons (.con (.str ("record" : Str))) (.cons (.con (.str ("main" : Str))) (.cons (.con (.str ("r" : Str))) .nil)))) (.cons (.tup (.cons (.con (.str ("record" : Str))) (.cons (.con (.str ("abcdefgh" : Str))) (.cons (.con (.str ("r" : Str))) .nil)))) .nil)) [.tup [.str "record", .str "main", .str "r"], .tup [.str "record", .str "abcdefgh", .str "r"]] rfl p8 h8 (fun t => by simp) (by decide)
  have e9' : ∀ rest, evS T (evF T F k) _ _ _ = evS T (evF T F k) rest [some (.int c), some (.ref n7), some (.ref n9)] τ9 := e9
  have h7_8_9 := pre_get q9 h7_8
  have hw : _ = some (AO.lst wr25) := h7_8_9
  have hr : _ = some (AO.lst rt25) := h9
  obtain ⟨x, b, e, m⟩ := pick_run (C := evF T F k) (c := c) (r := 2) (w := 1) (ρ := [some (.int c), some (.ref n7), some (.ref n9)]) rfl rfl rfl hr hw (by decide) (by decide)
  refine ⟨τ9.length, τ9 ++ [.lst [x, .bl b]], x, b, ?_, p9.trans (List.prefix_append _ _), at_end _ _, m⟩
  have e' := congrArg Mi.finish e
  rw [u25, b25]
  rw [e1']
  rw [e2']
  rw [e3']
  rw [e4']
  rw [e5']
  rw [e6']
  rw [e7']
  rw [e8']
  rw [e9']
  exact e'
theorem r26 (k : Nat) (c : Int) (τ : Sto) : ∃ D τ' x b, evF T F (k + 1) 26 [.int c] τ = .ok (.ref D) τ' ∧ τ <+: τ' ∧ τ'[D]? = some (.lst [x, .bl b]) ∧ (x, b) ∈ prs rt26 wr26 := by
  have p0 : τ <+: τ := List.prefix_refl _
  have c1 : ∀ t rest, evS T (evF T F k) (.cons (.set 1 (.tup (.cons (.con (.str ("give" : Str))) (.cons (.con (.int 1)) .nil)))) rest) [some (.int c), none, none, none, none, none] t = evS T (evF T F k) rest [some (.int c), some (.tup [.str "give", .int 1]), none, none, none, none] t := fun t rest => by
    rw [evS_cons]
    simp
  obtain ⟨n1, τ1, e1, q1, p1, h1⟩ := new_step (C := evF T F k) (i := 2) (ρ := [some (.int c), some (.tup [.str "give", .int 1]), none, none, none, none]) (.cons (.tup (.cons (.con (.str ("fun" : Str))) (.cons (.con (.str ("f" : Str))) (.cons (.tup (.cons (.con (.str ("a" : Str))) .nil)) (.cons (.con (.str ("number" : Str))) (.cons (.var 1) .nil)))))) (.cons (.tup (.cons (.con (.str ("fun" : Str))) (.cons (.con (.str ("f" : Str))) (.cons (.tup (.cons (.con (.str ("a" : Str))) (.cons (.con (.str ("number" : Str))) (.cons (.con (.str ("a" : Str))) (.cons (.con (.str ("number" : Str))) .nil))))) (.cons (.con (.str ("number" : Str))) (.cons (.var 1) .nil)))))) .nil)) [.tup [.str "fun", .str "f", .tup [.str "a"], .str "number", .tup [.str "give", .int 1]], .tup [.str "fun", .str "f", .tup [.str "a", .str "number", .str "a", .str "number"], .str "number", .tup [.str "give", .int 1]]] p0 (fun t => by simp) (by decide)
  have e1' : ∀ rest, evS T (evF T F k) _ _ _ = evS T (evF T F k) rest [some (.int c), some (.tup [.str "give", .int 1]), some (.ref n1), none, none, none] τ1 := e1
  have c3 : ∀ t rest, evS T (evF T F k) (.cons (.set 3 (.tup (.cons (.con (.str ("a" : Str))) (.cons (.con (.str ("number" : Str))) (.cons (.con (.str ("b" : Str))) (.cons (.con (.str ("truth" : Str))) (.cons (.con (.str ("c" : Str))) (.cons (.con (.str ("list" : Str))) (.cons (.con (.str ("d" : Str))) (.cons (.con (.str ("number" : Str))) (.cons (.con (.str ("e" : Str))) (.cons (.con (.str ("number" : Str))) .nil)))))))))))) rest) [some (.int c), some (.tup [.str "give", .int 1]), some (.ref n1), none, none, none] t = evS T (evF T F k) rest [some (.int c), some (.tup [.str "give", .int 1]), some (.ref n1), some (.tup [.str "a", .str "number", .str "b", .str "truth", .str "c", .str "list", .str "d", .str "number", .str "e", .str "number"]), none, none] t := fun t rest => by
    rw [evS_cons]
    simp
  obtain ⟨n2, τ2, e2, q2, p2, h2⟩ := add_step (C := evF T F k) (i := 2) (ρ := [some (.int c), some (.tup [.str "give", .int 1]), some (.ref n1), some (.tup [.str "a", .str "number", .str "b", .str "truth", .str "c", .str "list", .str "d", .str "number", .str "e", .str "number"]), none, none]) (.cons (.tup (.cons (.con (.str ("fun" : Str))) (.cons (.con (.str ("f" : Str))) (.cons (.var 3) (.cons (.con (.str ("number" : Str))) (.cons (.var 1) .nil)))))) .nil) [.tup [.str "fun", .str "f", .tup [.str "a", .str "number", .str "b", .str "truth", .str "c", .str "list", .str "d", .str "number", .str "e", .str "number"], .str "number", .tup [.str "give", .int 1]]] rfl p1 h1 (fun t => by simp) (by decide)
  have e2' : ∀ rest, evS T (evF T F k) _ _ _ = evS T (evF T F k) rest [some (.int c), some (.tup [.str "give", .int 1]), some (.ref n2), some (.tup [.str "a", .str "number", .str "b", .str "truth", .str "c", .str "list", .str "d", .str "number", .str "e", .str "number"]), none, none] τ2 := e2
  obtain ⟨n3, τ3, e3, q3, p3, h3⟩ := add_step (C := evF T F k) (i := 2) (ρ := [some (.int c), some (.tup [.str "give", .int 1]), some (.ref n2), some (.tup [.str "a", .str "number", .str "b", .str "truth", .str "c", .str "list", .str "d", .str "number", .str "e", .str "number"]), none, none]) (.cons (.tup (.cons (.con (.str ("fun" : Str))) (.cons (.con (.str ("f" : Str))) (.cons (.tup (.cons (.con (.str ("yes" : Str))) (.cons (.con (.str ("number" : Str))) .nil))) (.cons (.con (.str ("number" : Str))) (.cons (.var 1) .nil)))))) .nil) [.tup [.str "fun", .str "f", .tup [.str "yes", .str "number"], .str "number", .tup [.str "give", .int 1]]] rfl p2 h2 (fun t => by simp) (by decide)
  have e3' : ∀ rest, evS T (evF T F k) _ _ _ = evS T (evF T F k) rest [some (.int c), some (.tup [.str "give", .int 1]), some (.ref n3), some (.tup [.str "a", .str "number", .str "b", .str "truth", .str "c", .str "list", .str "d", .str "number", .str "e", .str "number"]), none, none] τ3 := e3
  obtain ⟨n4, τ4, e4, q4, p4, h4⟩ := add_step (C := evF T F k) (i := 2) (ρ := [some (.int c), some (.tup [.str "give", .int 1]), some (.ref n3), some (.tup [.str "a", .str "number", .str "b", .str "truth", .str "c", .str "list", .str "d", .str "number", .str "e", .str "number"]), none, none]) (.cons (.tup (.cons (.con (.str ("fun" : Str))) (.cons (.con (.str ("f" : Str))) (.cons (.tup (.cons (.con (.str ("a" : Str))) (.cons (.con (.str ("numbers" : Str))) .nil))) (.cons (.con (.str ("number" : Str))) (.cons (.var 1) .nil)))))) .nil) [.tup [.str "fun", .str "f", .tup [.str "a", .str "numbers"], .str "number", .tup [.str "give", .int 1]]] rfl p3 h3 (fun t => by simp) (by decide)
  have e4' : ∀ rest, evS T (evF T F k) _ _ _ = evS T (evF T F k) rest [some (.int c), some (.tup [.str "give", .int 1]), some (.ref n4), some (.tup [.str "a", .str "number", .str "b", .str "truth", .str "c", .str "list", .str "d", .str "number", .str "e", .str "number"]), none, none] τ4 := e4
  obtain ⟨n5, τ5, e5, q5, p5, h5⟩ := add_step (C := evF T F k) (i := 2) (ρ := [some (.int c), some (.tup [.str "give", .int 1]), some (.ref n4), some (.tup [.str "a", .str "number", .str "b", .str "truth", .str "c", .str "list", .str "d", .str "number", .str "e", .str "number"]), none, none]) (.cons (.tup (.cons (.con (.str ("fun" : Str))) (.cons (.con (.str ("f" : Str))) (.cons (.tup (.cons (.con (.str ("number" : Str))) (.cons (.con (.str ("a" : Str))) .nil))) (.cons (.con (.str ("number" : Str))) (.cons (.var 1) .nil)))))) (.cons (.tup (.cons (.con (.str ("fun" : Str))) (.cons (.con (.str ("f" : Str))) (.cons (.tup .nil) (.cons (.con (.str ("rec" : Str))) (.cons (.var 1) .nil)))))) .nil)) [.tup [.str "fun", .str "f", .tup [.str "number", .str "a"], .str "number", .tup [.str "give", .int 1]], .tup [.str "fun", .str "f", .tup [], .str "rec", .tup [.str "give", .int 1]]] rfl p4 h4 (fun t => by simp) (by decide)
  have e5' : ∀ rest, evS T (evF T F k) _ _ _ = evS T (evF T F k) rest [some (.int c), some (.tup [.str "give", .int 1]), some (.ref n5), some (.tup [.str "a", .str "number", .str "b", .str "truth", .str "c", .str "list", .str "d", .str "number", .str "e", .str "number"]), none, none] τ5 := e5
  obtain ⟨n6, τ6, e6, q6, p6, h6⟩ := add_step (C := evF T F k) (i := 2) (ρ := [some (.int c), some (.tup [.str "give", .int 1]), some (.ref n5), some (.tup [.str "a", .str "number", .str "b", .str "truth", .str "c", .str "list", .str "d", .str "number", .str "e", .str "number"]), none, none]) (.cons (.tup (.cons (.con (.str ("fun" : Str))) (.cons (.con (.str ("f" : Str))) (.cons (.tup .nil) (.cons (.con (.str ("number" : Str))) .nil))))) .nil) [.tup [.str "fun", .str "f", .tup [], .str "number"]] rfl p5 h5 (fun t => by simp) (by decide)
  have e6' : ∀ rest, evS T (evF T F k) _ _ _ = evS T (evF T F k) rest [some (.int c), some (.tup [.str "give", .int 1]), some (.ref n6), some (.tup [.str "a", .str "number", .str "b", .str "truth", .str "c", .str "list", .str "d", .str "number", .str "e", .str "number"]), none, none] τ6 := e6
  obtain ⟨n7, τ7, e7, q7, p7, h7⟩ := add_step (C := evF T F k) (i := 2) (ρ := [some (.int c), some (.tup [.str "give", .int 1]), some (.ref n6), some (.tup [.str "a", .str "number", .str "b", .str "truth", .str "c", .str "list", .str "d", .str "number", .str "e", .str "number"]), none, none]) (.cons (.tup (.cons (.con (.str ("fun" : Str))) (.cons (.con (.str ("main" : Str))) (.cons (.tup .nil) (.cons (.con (.str ("number" : Str))) (.cons (.var 1) .nil)))))) (.cons (.tup (.cons (.con (.str ("fun" : Str))) (.cons (.con (.str ("g" : Str))) (.cons (.tup .nil) (.cons (.con (.str ("number" : Str))) (.cons (.var 1) .nil)))))) .nil)) [.tup [.str "fun", .str "main", .tup [], .str "number", .tup [.str "give", .int 1]], .tup [.str "fun", .str "g", .tup [], .str "number", .tup [.str "give", .int 1]]] rfl p6 h6 (fun t => by simp) (by decide)
  have e7' : ∀ rest, evS T (evF T F k) _ _ _ = evS T (evF T F k) rest [some (.int c), some (.tup [.str "give", .int 1]), some (.ref n7), some (.tup [.str "a", .str "number", .str "b", .str "truth", .str "c", .str "list", .str "d", .str "number", .str "e", .str "number"]), none, none] τ7 := e7
  obtain ⟨n8, τ8, e8, q8, p8, h8⟩ := add_step (C := evF T F k) (i := 2) (ρ := [some (.int c), some (.tup [.str "give", .int 1]), some (.ref n7), some (.tup [.str "a", .str "number", .str "b", .str "truth", .str "c", .str "list", .str "d", .str "number", .str "e", .str "number"]), none, none]) (.cons (.tup (.cons (.con (.str ("fun" : Str))) (.cons (.con (.str ("F" : Str))) (.cons (.tup .nil) (.cons (.con (.str ("number" : Str))) (.cons (.var 1) .nil)))))) .nil) [.tup [.str "fun", .str "F", .tup [], .str "number", .tup [.str "give", .int 1]]] rfl p7 h7 (fun t => by simp) (by decide)
  have e8' : ∀ rest, evS T (evF T F k) _ _ _ = evS T (evF T F k) rest [some (.int c), some (.tup [.str "give", .int 1]), some (.ref n8), some (.tup [.str "a", .str "number", .str "b", .str "truth", .str "c", .str "list", .str "d", .str "number", .str "e", .str "number"]), none, none] τ8 := e8
  obtain ⟨n9, τ9, e9, q9, p9, h9⟩ := add_step (C := evF T F k) (i := 2) (ρ := [some (.int c), some (.tup [.str "give", .int 1]), some (.ref n8), some (.tup [.str "a", .str "number", .str "b", .str "truth", .str "c", .str "list", .str "d", .str "number", .str "e", .str "number"]), none, none]) (.cons (.tup (.cons (.con (.str ("fun" : Str))) (.cons (.con (.str ("f" : Str))) (.cons (.con (.str ("a" : Str))) (.cons (.con (.str ("number" : Str))) (.cons (.var 1) .nil)))))) (.cons (.tup (.cons (.con (.str ("fun" : Str))) (.cons (.con (.str ("f" : Str))) (.cons (.tup .nil) (.cons (.var 1) .nil))))) .nil)) [.tup [.str "fun", .str "f", .str "a", .str "number", .tup [.str "give", .int 1]], .tup [.str "fun", .str "f", .tup [], .tup [.str "give", .int 1]]] rfl p8 h8 (fun t => by simp) (by decide)
  have e9' : ∀ rest, evS T (evF T F k) _ _ _ = evS T (evF T F k) rest [some (.int c), some (.tup [.str "give", .int 1]), some (.ref n9), some (.tup [.str "a", .str "number", .str "b", .str "truth", .str "c", .str "list", .str "d", .str "number", .str "e", .str "number"]), none, none] τ9 := e9
  obtain ⟨n10, τ10, e10, q10, p10, h10⟩ := add_step (C := evF T F k) (i := 2) (ρ := [some (.int c), some (.tup [.str "give", .int 1]), some (.ref n9), some (.tup [.str "a", .str "number", .str "b", .str "truth", .str "c", .str "list", .str "d", .str "number", .str "e", .str "number"]), none, none]) (.cons (.tup (.cons (.con (.str ("fun" : Str))) (.cons (.con (.str ("f" : Str))) (.cons (.tup .nil) (.cons (.con (.int 1)) (.cons (.var 1) .nil)))))) (.cons (.tup (.cons (.con (.str ("fun" : Str))) (.cons (.con (.int 1)) (.cons (.tup .nil) (.cons (.con (.str ("number" : Str))) (.cons (.var 1) .nil)))))) .nil)) [.tup [.str "fun", .str "f", .tup [], .int 1, .tup [.str "give", .int 1]], .tup [.str "fun", .int 1, .tup [], .str "number", .tup [.str "give", .int 1]]] rfl p9 h9 (fun t => by simp) (by decide)
  have e10' : ∀ rest, evS T (evF T F k) _ _ _ = evS T (evF T F k) rest [some (.int c), some (.tup [.str "give", .int 1]), some (.ref n10), some (.tup [.str "a", .str "number", .str "b", .str "truth", .str "c", .str "list", .str "d", .str "number", .str "e", .str "number"]), none, none] τ10 := e10
  obtain ⟨n11, τ11, e11, q11, p11, h11⟩ := add_step (C := evF T F k) (i := 2) (ρ := [some (.int c), some (.tup [.str "give", .int 1]), some (.ref n10), some (.tup [.str "a", .str "number", .str "b", .str "truth", .str "c", .str "list", .str "d", .str "number", .str "e", .str "number"]), none, none]) (.cons (.tup (.cons (.con (.str ("fun" : Str))) (.cons (.con (.str ("f" : Str))) (.cons (.tup (.cons (.con (.int 1)) (.cons (.con (.str ("number" : Str))) .nil))) (.cons (.con (.str ("number" : Str))) (.cons (.var 1) .nil)))))) (.cons (.tup (.cons (.con (.str ("func" : Str))) (.cons (.con (.str ("f" : Str))) (.cons (.tup .nil) (.cons (.con (.str ("number" : Str))) (.cons (.var 1) .nil)))))) (.cons (.tup (.cons (.con (.str ("fun" : Str))) .nil)) .nil))) [.tup [.str "fun", .str "f", .tup [.int 1, .str "number"], .str "number", .tup [.str "give", .int 1]], .tup [.str "func", .str "f", .tup [], .str "number", .tup [.str "give", .int 1]], .tup [.str "fun"]] rfl p10 h10 (fun t => by simp) (by decide)
  have e11' : ∀ rest, evS T (evF T F k) _ _ _ = evS T (evF T F k) rest [some (.int c), some (.tup [.str "give", .int 1]), some (.ref n11), some (.tup [.str "a", .str "number", .str "b", .str "truth", .str "c", .str "list", .str "d", .str "number", .str "e", .str "number"]), none, none] τ11 := e11
  obtain ⟨n12, τ12, e12, q12, p12, h12⟩ := add_step (C := evF T F k) (i := 2) (ρ := [some (.int c), some (.tup [.str "give", .int 1]), some (.ref n11), some (.tup [.str "a", .str "number", .str "b", .str "truth", .str "c", .str "list", .str "d", .str "number", .str "e", .str "number"]), none, none]) (.cons (.con (.str ("fun" : Str))) (.cons (.con (.int 3)) (.cons (.tup .nil) .nil))) [.str "fun", .int 3, .tup []] rfl p11 h11 (fun t => by simp) (by decide)
  have e12' : ∀ rest, evS T (evF T F k) _ _ _ = evS T (evF T F k) rest [some (.int c), some (.tup [.str "give", .int 1]), some (.ref n12), some (.tup [.str "a", .str "number", .str "b", .str "truth", .str "c", .str "list", .str "d", .str "number", .str "e", .str "number"]), none, none] τ12 := e12
  --LOOP 13 ['A', 'a1', 'abcdefghi', 'no']
  have wl : (τ12 ++ [AO.lst [.str "A", .str "a1", .str "abcdefghi", .str "no"]])[τ12.length]? = some (.lst [.str "A", .str "a1", .str "abcdefghi", .str "no"]) := at_end _ _
  have w0 : τ12 <+: τ12 ++ [AO.lst [.str "A", .str "a1", .str "abcdefghi", .str "no"]] := List.prefix_append _ _
  have g0 := pre_get w0 h12
  have pw0 := p12.trans w0
  obtain ⟨m1, t1, f1, w1, pw1, g1⟩ := add_step (C := evF T F k) (i := 2) (ρ := [some (.int c), some (.tup [.str "give", .int 1]), some (.ref n12), some (.tup [.str "a", .str "number", .str "b", .str "truth", .str "c", .str "list", .str "d", .str "number", .str "e", .str "number"]), some (.str "A"), none]) (.cons (.tup (.cons (.con (.str ("fun" : Str))) (.cons (.con (.str ("f" : Str))) (.cons (.tup (.cons (.con (.str ("b" : Str))) (.cons (.con (.str ("number" : Str))) (.cons (.var 4) (.cons (.con (.str ("number" : Str))) .nil))))) (.cons (.con (.str ("number" : Str))) (.cons (.var 1) .nil)))))) (.cons (.tup (.cons (.con (.str ("fun" : Str))) (.cons (.var 4) (.cons (.tup .nil) (.cons (.con (.str ("number" : Str))) (.cons (.var 1) .nil)))))) .nil)) [.tup [.str "fun", .str "f", .tup [.str "b", .str "number", .str "A", .str "number"], .str "number", .tup [.str "give", .int 1]], .tup [.str "fun", .str "A", .tup [], .str "number", .tup [.str "give", .int 1]]] rfl pw0 g0 (fun t => by simp) (by decide)
  have f1' : ∀ rest, evS T (evF T F k) _ _ _ = evS T (evF T F k) rest [some (.int c), some (.tup [.str "give", .int 1]), some (.ref m1), some (.tup [.str "a", .str "number", .str "b", .str "truth", .str "c", .str "list", .str "d", .str "number", .str "e", .str "number"]), some (.str "A"), none] t1 := f1
  obtain ⟨m2, t2, f2, w2, pw2, g2⟩ := add_step (C := evF T F k) (i := 2) (ρ := [some (.int c), some (.tup [.str "give", .int 1]), some (.ref m1), some (.tup [.str "a", .str "number", .str "b", .str "truth", .str "c", .str "list", .str "d", .str "number", .str "e", .str "number"]), some (.str "a1"), none]) (.cons (.tup (.cons (.con (.str ("fun" : Str))) (.cons (.con (.str ("f" : Str))) (.cons (.tup (.cons (.con (.str ("b" : Str))) (.cons (.con (.str ("number" : Str))) (.cons (.var 4) (.cons (.con (.str ("number" : Str))) .nil))))) (.cons (.con (.str ("number" : Str))) (.cons (.var 1) .nil)))))) (.cons (.tup (.cons (.con (.str ("fun" : Str))) (.cons (.var 4) (.cons (.tup .nil) (.cons (.con (.str ("number" : Str))) (.cons (.var 1) .nil)))))) .nil)) [.tup [.str "fun", .str "f", .tup [.str "b", .str "number", .str "a1", .str "number"], .str "number", .tup [.str "give", .int 1]], .tup [.str "fun", .str "a1", .tup [], .str "number", .tup [.str "give", .int 1]]] rfl pw1 g1 (fun t => by simp) (by decide)
  have f2' : ∀ rest, evS T (evF T F k) _ _ _ = evS T (evF T F k) rest [some (.int c), some (.tup [.str "give", .int 1]), some (.ref m2), some (.tup [.str "a", .str "number", .str "b", .str "truth", .str "c", .str "list", .str "d", .str "number", .str "e", .str "number"]), some (.str "a1"), none] t2 := f2
  obtain ⟨m3, t3, f3, w3, pw3, g3⟩ := add_step (C := evF T F k) (i := 2) (ρ := [some (.int c), some (.tup [.str "give", .int 1]), some (.ref m2), some (.tup [.str "a", .str "number", .str "b", .str "truth", .str "c", .str "list", .str "d", .str "number", .str "e", .str "number"]), some (.str "abcdefghi"), none]) (.cons (.tup (.cons (.con (.str ("fun" : Str))) (.cons (.con (.str ("f" : Str))) (.cons (.tup (.cons (.con (.str ("b" : Str))) (.cons (.con (.str ("number" : Str))) (.cons (.var 4) (.cons (.con (.str ("number" : Str))) .nil))))) (.cons (.con (.str ("number" : Str))) (.cons (.var 1) .nil)))))) (.cons (.tup (.cons (.con (.str ("fun" : Str))) (.cons (.var 4) (.cons (.tup .nil) (.cons (.con (.str ("number" : Str))) (.cons (.var 1) .nil)))))) .nil)) [.tup [.str "fun", .str "f", .tup [.str "b", .str "number", .str "abcdefghi", .str "number"], .str "number", .tup [.str "give", .int 1]], .tup [.str "fun", .str "abcdefghi", .tup [], .str "number", .tup [.str "give", .int 1]]] rfl pw2 g2 (fun t => by simp) (by decide)
  have f3' : ∀ rest, evS T (evF T F k) _ _ _ = evS T (evF T F k) rest [some (.int c), some (.tup [.str "give", .int 1]), some (.ref m3), some (.tup [.str "a", .str "number", .str "b", .str "truth", .str "c", .str "list", .str "d", .str "number", .str "e", .str "number"]), some (.str "abcdefghi"), none] t3 := f3
  obtain ⟨m4, t4, f4, w4, pw4, g4⟩ := add_step (C := evF T F k) (i := 2) (ρ := [some (.int c), some (.tup [.str "give", .int 1]), some (.ref m3), some (.tup [.str "a", .str "number", .str "b", .str "truth", .str "c", .str "list", .str "d", .str "number", .str "e", .str "number"]), some (.str "no"), none]) (.cons (.tup (.cons (.con (.str ("fun" : Str))) (.cons (.con (.str ("f" : Str))) (.cons (.tup (.cons (.con (.str ("b" : Str))) (.cons (.con (.str ("number" : Str))) (.cons (.var 4) (.cons (.con (.str ("number" : Str))) .nil))))) (.cons (.con (.str ("number" : Str))) (.cons (.var 1) .nil)))))) (.cons (.tup (.cons (.con (.str ("fun" : Str))) (.cons (.var 4) (.cons (.tup .nil) (.cons (.con (.str ("number" : Str))) (.cons (.var 1) .nil)))))) .nil)) [.tup [.str "fun", .str "f", .tup [.str "b", .str "number", .str "no", .str "number"], .str "number", .tup [.str "give", .int 1]], .tup [.str "fun", .str "no", .tup [], .str "number", .tup [.str "give", .int 1]]] rfl pw3 g3 (fun t => by simp) (by decide)
  have f4' : ∀ rest, evS T (evF T F k) _ _ _ = evS T (evF T F k) rest [some (.int c), some (.tup [.str "give", .int 1]), some (.ref m4), some (.tup [.str "a", .str "number", .str "b", .str "truth", .str "c", .str "list", .str "d", .str "number", .str "e", .str "number"]), some (.str "no"), none] t4 := f4
  have wl1 := pre_get w1 wl
  have wl2 := pre_get w2 wl1
  have wl3 := pre_get w3 wl2
  have wl4 := pre_get w4 wl3
  have lp : ∀ rest, evS T (evF T F k) (.cons (.loop (.name 4) (.seq (.lst (.cons (.con (.str ("A" : Str))) (.cons (.con (.str ("a1" : Str))) (.cons (.con (.str ("abcdefghi" : Str))) (.cons (.con (.str ("no" : Str))) .nil)))))) l26_1) rest) [some (.int c), some (.tup [.str "give", .int 1]), some (.ref n12), some (.tup [.str "a", .str "number", .str "b", .str "truth", .str "c", .str "list", .str "d", .str "number", .str "e", .str "number"]), none, none] τ12 = evS T (evF T F k) rest [some (.int c), some (.tup [.str "give", .int 1]), some (.ref m4), some (.tup [.str "a", .str "number", .str "b", .str "truth", .str "c", .str "list", .str "d", .str "number", .str "e", .str "number"]), some (.str "no"), none] t4 := fun rest => by
    rw [evS_cons, evS_loop]
    have hit : (ev T (evF T F k) (.seq (.lst (.cons (.con (.str ("A" : Str))) (.cons (.con (.str ("a1" : Str))) (.cons (.con (.str ("abcdefghi" : Str))) (.cons (.con (.str ("no" : Str))) .nil))))))).i [some (.int c), some (.tup [.str "give", .int 1]), some (.ref n12), some (.tup [.str "a", .str "number", .str "b", .str "truth", .str "c", .str "list", .str "d", .str "number", .str "e", .str "number"]), none, none] τ12 = .ok ⟨[(τ12.length, [.str "A", .str "a1", .str "abcdefghi", .str "no"])], [.str "A", .str "a1", .str "abcdefghi", .str "no"]⟩ (τ12 ++ [AO.lst [.str "A", .str "a1", .str "abcdefghi", .str "no"]]) := by
      simp [newL, seqI, seq_lst wl]
    have u1 : ∀ ρ t, evS T (evF T F k) l26_1 ρ t = evS T (evF T F k) (.cons (.set 2 (.op .Add (.var 2) (.lst (.cons (.tup (.cons (.con (.str ("fun" : Str))) (.cons (.con (.str ("f" : Str))) (.cons (.tup (.cons (.con (.str ("b" : Str))) (.cons (.con (.str ("number" : Str))) (.cons (.var 4) (.cons (.con (.str ("number" : Str))) .nil))))) (.cons (.con (.str ("number" : Str))) (.cons (.var 1) .nil)))))) (.cons (.tup (.cons (.con (.str ("fun" : Str))) (.cons (.var 4) (.cons (.tup .nil) (.cons (.con (.str ("number" : Str))) (.cons (.var 1) .nil)))))) .nil))))) .nil) ρ t := fun ρ t => rfl
    have v1 : forL (.name 4) [(τ12.length, [.str "A", .str "a1", .str "abcdefghi", .str "no"])] (evS T (evF T F k) l26_1) [.str "A", .str "a1", .str "abcdefghi", .str "no"] [some (.int c), some (.tup [.str "give", .int 1]), some (.ref n12), some (.tup [.str "a", .str "number", .str "b", .str "truth", .str "c", .str "list", .str "d", .str "number", .str "e", .str "number"]), none, none] (τ12 ++ [AO.lst [.str "A", .str "a1", .str "abcdefghi", .str "no"]]) = forL (.name 4) [(τ12.length, [.str "A", .str "a1", .str "abcdefghi", .str "no"])] (evS T (evF T F k) l26_1) [.str "a1", .str "abcdefghi", .str "no"] [some (.int c), some (.tup [.str "give", .int 1]), some (.ref m1), some (.tup [.str "a", .str "number", .str "b", .str "truth", .str "c", .str "list", .str "d", .str "number", .str "e", .str "number"]), some (.str "A"), none] t1 := by
      have a : forL (.name 4) [(τ12.length, [.str "A", .str "a1", .str "abcdefghi", .str "no"])] (evS T (evF T F k) l26_1) [.str "A", .str "a1", .str "abcdefghi", .str "no"] [some (.int c), some (.tup [.str "give", .int 1]), some (.ref n12), some (.tup [.str "a", .str "number", .str "b", .str "truth", .str "c", .str "list", .str "d", .str "number", .str "e", .str "number"]), none, none] (τ12 ++ [AO.lst [.str "A", .str "a1", .str "abcdefghi", .str "no"]]) = loopR (evS T (evF T F k) l26_1 [some (.int c), some (.tup [.str "give", .int 1]), some (.ref n12), some (.tup [.str "a", .str "number", .str "b", .str "truth", .str "c", .str "list", .str "d", .str "number", .str "e", .str "number"]), some (.str "A"), none] (τ12 ++ [AO.lst [.str "A", .str "a1", .str "abcdefghi", .str "no"]])) (forL (.name 4) [(τ12.length, [.str "A", .str "a1", .str "abcdefghi", .str "no"])] (evS T (evF T F k) l26_1) [.str "a1", .str "abcdefghi", .str "no"]) := forL_cons (fun q hq => by cases List.mem_singleton.mp hq; exact seq_lst wl) rfl
      rw [a, u1]
      have b := f1' .nil
      rw [evS_nil] at b
      rw [b]
      rfl
    have v2 : forL (.name 4) [(τ12.length, [.str "A", .str "a1", .str "abcdefghi", .str "no"])] (evS T (evF T F k) l26_1) [.str "a1", .str "abcdefghi", .str "no"] [some (.int c), some (.tup [.str "give", .int 1]), some (.ref m1), some (.tup [.str "a", .str "number", .str "b", .str "truth", .str "c", .str "list", .str "d", .str "number", .str "e", .str "number"]), some (.str "A"), none] t1 = forL (.name 4) [(τ12.length, [.str "A", .str "a1", .str "abcdefghi", .str "no"])] (evS T (evF T F k) l26_1) [.str "abcdefghi", .str "no"] [some (.int c), some (.tup [.str "give", .int 1]), some (.ref m2), some (.tup [.str "a", .str "number", .str "b", .str "truth", .str "c", .str "list", .str "d", .str "number", .str "e", .str "number"]), some (.str "a1"), none] t2 := by
      have a : forL (.name 4) [(τ12.length, [.str "A", .str "a1", .str "abcdefghi", .str "no"])] (evS T (evF T F k) l26_1) [.str "a1", .str "abcdefghi", .str "no"] [some (.int c), some (.tup [.str "give", .int 1]), some (.ref m1), some (.tup [.str "a", .str "number", .str "b", .str "truth", .str "c", .str "list", .str "d", .str "number", .str "e", .str "number"]), some (.str "A"), none] t1 = loopR (evS T (evF T F k) l26_1 [some (.int c), some (.tup [.str "give", .int 1]), some (.ref m1), some (.tup [.str "a", .str "number", .str "b", .str "truth", .str "c", .str "list", .str "d", .str "number", .str "e", .str "number"]), some (.str "a1"), none] t1) (forL (.name 4) [(τ12.length, [.str "A", .str "a1", .str "abcdefghi", .str "no"])] (evS T (evF T F k) l26_1) [.str "abcdefghi", .str "no"]) := forL_cons (fun q hq => by cases List.mem_singleton.mp hq; exact seq_lst wl1) rfl
      rw [a, u1]
      have b := f2' .nil
      rw [evS_nil] at b
      rw [b]
      rfl
    have v3 : forL (.name 4) [(τ12.length, [.str "A", .str "a1", .str "abcdefghi", .str "no"])] (evS T (evF T F k) l26_1) [.str "abcdefghi", .str "no"] [some (.int c), some (.tup [.str "give", .int 1]), some (.ref m2), some (.tup [.str "a", .str "number", .str "b", .str "truth", .str "c", .str "list", .str "d", .str "number", .str "e", .str "number"]), some (.str "a1"), none] t2 = forL (.name 4) [(τ12.length, [.str "A", .str "a1", .str "abcdefghi", .str "no"])] (evS T (evF T F k) l26_1) [.str "no"] [some (.int c), some (.tup [.str "give", .int 1]), some (.ref m3), some (.tup [.str "a", .str "number", .str "b", .str "truth", .str "c", .str "list", .str "d", .str "number", .str "e", .str "number"]), some (.str "abcdefghi"), none] t3 := by
      have a : forL (.name 4) [(τ12.length, [.str "A", .str "a1", .str "abcdefghi", .str "no"])] (evS T (evF T F k) l26_1) [.str "abcdefghi", .str "no"] [some (.int c), some (.tup [.str "give", .int 1]), some (.ref m2), some (.tup [.str "a", .str "number", .str "b", .str "truth", .str "c", .str "list", .str "d", .str "number", .str "e", .str "number"]), some (.str "a1"), none] t2 = loopR (evS T (evF T F k) l26_1 [some (.int c), some (.tup [.str "give", .int 1]), some (.ref m2), some (.tup [.str "a", .str "number", .str "b", .str "truth", .str "c", .str "list", .str "d", .str "number", .str "e", .str "number"]), some (.str "abcdefghi"), none] t2) (forL (.name 4) [(τ12.length, [.str "A", .str "a1", .str "abcdefghi", .str "no"])] (evS T (evF T F k) l26_1) [.str "no"]) := forL_cons (fun q hq => by cases List.mem_singleton.mp hq; exact seq_lst wl2) rfl
      rw [a, u1]
      have b := f3' .nil
      rw [evS_nil] at b
      rw [b]
      rfl
    have v4 : forL (.name 4) [(τ12.length, [.str "A", .str "a1", .str "abcdefghi", .str "no"])] (evS T (evF T F k) l26_1) [.str "no"] [some (.int c), some (.tup [.str "give", .int 1]), some (.ref m3), some (.tup [.str "a", .str "number", .str "b", .str "truth", .str "c", .str "list", .str "d", .str "number", .str "e", .str "number"]), some (.str "abcdefghi"), none] t3 = forL (.name 4) [(τ12.length, [.str "A", .str "a1", .str "abcdefghi", .str "no"])] (evS T (evF T F k) l26_1) [] [some (.int c), some (.tup [.str "give", .int 1]), some (.ref m4), some (.tup [.str "a", .str "number", .str "b", .str "truth", .str "c", .str "list", .str "d", .str "number", .str "e", .str "number"]), some (.str "no"), none] t4 := by
      have a : forL (.name 4) [(τ12.length, [.str "A", .str "a1", .str "abcdefghi", .str "no"])] (evS T (evF T F k) l26_1) [.str "no"] [some (.int c), some (.tup [.str "give", .int 1]), some (.ref m3), some (.tup [.str "a", .str "number", .str "b", .str "truth", .str "c", .str "list", .str "d", .str "number", .str "e", .str "number"]), some (.str "abcdefghi"), none] t3 = loopR (evS T (evF T F k) l26_1 [some (.int c), some (.tup [.str "give", .int 1]), some (.ref m3), some (.tup [.str "a", .str "number", .str "b", .str "truth", .str "c", .str "list", .str "d", .str "number", .str "e", .str "number"]), some (.str "no"), none] t3) (forL (.name 4) [(τ12.length, [.str "A", .str "a1", .str "abcdefghi", .str "no"])] (evS T (evF T F k) l26_1) []) := forL_cons (fun q hq => by cases List.mem_singleton.mp hq; exact seq_lst wl3) rfl
      rw [a, u1]
      have b := f4' .nil
      rw [evS_nil] at b
      rw [b]
      rfl
    rw [hit, R.bind_ok]
    refine (congrArg (fun x => seqR x _) (v1.trans (v2.trans (v3.trans (v4.trans (forL_nil (fun q hq => by cases List.mem_singleton.mp hq; exact seq_lst wl4))))))).trans ?_
    rfl
  have qq := w0.trans (w1.trans (w2.trans (w3.trans w4)))
  obtain ⟨τ13, hτ13⟩ : ∃ t, t = t4 := ⟨_, rfl⟩
  rw [← hτ13] at qq g4 pw4 lp
  obtain ⟨n14, τ14, e14, q14, p14, h14⟩ := new_step (C := evF T F k) (i := 5) (ρ := [some (.int c), some (.tup [.str "give", .int 1]), some (.ref m4), some (.tup [.str "a", .str "number", .str "b", .str "truth", .str "c", .str "list", .str "d", .str "number", .str "e", .str "number"]), some (.str "no"), none]) (.cons (.tup (.cons (.con (.str ("fun" : Str))) (.cons (.con (.str ("f" : Str))) (.cons (.tup .nil) (.cons (.con (.str ("number" : Str))) (.cons (.var 1) .nil)))))) .nil) [.tup [.str "fun", .str "f", .tup [], .str "number", .tup [.str "give", .int 1]]] pw4 (fun t => by simp) (by decide)
  have e14' : ∀ rest, evS T (evF T F k) _ _ _ = evS T (evF T F k) rest [some (.int c), some (.tup [.str "give", .int 1]), some (.ref m4), some (.tup [.str "a", .str "number", .str "b", .str "truth", .str "c", .str "list", .str "d", .str "number", .str "e", .str "number"]), some (.str "no"), some (.ref n14)] τ14 := e14
  have g4_14 := pre_get q14 g4
  obtain ⟨n15, τ15, e15, q15, p15, h15⟩ := add_step (C := evF T F k) (i := 5) (ρ := [some (.int c), some (.tup [.str "give", .int 1]), some (.ref m4), some (.tup [.str "a", .str "number", .str "b", .str "truth", .str "c", .str "list", .str "d", .str "number", .str "e", .str "number"]), some (.str "no"), some (.ref n14)]) (.cons (.tup (.cons (.con (.str ("fun" : Str))) (.cons (.con (.str ("f" : Str))) (.cons (.tup (.cons (.con (.str ("a" : Str))) (.cons (.con (.str ("rr" : Str))) (.cons (.con (.str ("b" : Str))) (.cons (.con (.str ("truth" : Str))) (.cons (.con (.str ("c" : Str))) (.cons (.con (.str ("list" : Str))) (.cons (.con (.str ("d" : Str))) (.cons (.con (.str ("number" : Str))) .nil))))))))) (.cons (.con (.str ("number" : Str))) (.cons (.var 1) .nil)))))) .nil) [.tup [.str "fun", .str "f", .tup [.str "a", .str "rr", .str "b", .str "truth", .str "c", .str "list", .str "d", .str "number"], .str "number", .tup [.str "give", .int 1]]] rfl p14 h14 (fun t => by simp) (by decide)
  have e15' : ∀ rest, evS T (evF T F k) _ _ _ = evS T (evF T F k) rest [some (.int c), some (.tup [.str "give", .int 1]), some (.ref m4), some (.tup [.str "a", .str "number", .str "b", .str "truth", .str "c", .str "list", .str "d", .str "number", .str "e", .str "number"]), some (.str "no"), some (.ref n15)] τ15 := e15
  have g4_14_15 := pre_get q15 g4_14
  obtain ⟨n16, τ16, e16, q16, p16, h16⟩ := add_step (C := evF T F k) (i := 5) (ρ := [some (.int c), some (.tup [.str "give", .int 1]), some (.ref m4), some (.tup [.str "a", .str "number", .str "b", .str "truth", .str "c", .str "list", .str "d", .str "number", .str "e", .str "number"]), some (.str "no"), some (.ref n15)]) (.cons (.tup (.cons (.con (.str ("fun" : Str))) (.cons (.con (.str ("rr" : Str))) (.cons (.tup (.cons (.con (.str ("x" : Str))) (.cons (.con (.str ("list" : Str))) .nil))) (.cons (.con (.str ("rr" : Str))) (.cons (.tup (.cons (.con (.str ("give" : Str))) (.cons (.tup (.cons (.con (.str ("new" : Str))) (.cons (.con (.str ("rr" : Str))) .nil))) .nil))) .nil)))))) .nil) [.tup [.str "fun", .str "rr", .tup [.str "x", .str "list"], .str "rr", .tup [.str "give", .tup [.str "new", .str "rr"]]]] rfl p15 h15 (fun t => by simp) (by decide)
  have e16' : ∀ rest, evS T (evF T F k) _ _ _ = evS T (evF T F k) rest [some (.int c), some (.tup [.str "give", .int 1]), some (.ref m4), some (.tup [.str "a", .str "number", .str "b", .str "truth", .str "c", .str "list", .str "d", .str "number", .str "e", .str "number"]), some (.str "no"), some (.ref n16)] τ16 := e16
  have g4_14_15_16 := pre_get q16 g4_14_15
  obtain ⟨n17, τ17, e17, q17, p17, h17⟩ := add_step (C := evF T F k) (i := 5) (ρ := [some (.int c), some (.tup [.str "give", .int 1]), some (.ref m4), some (.tup [.str "a", .str "number", .str "b", .str "truth", .str "c", .str "list", .str "d", .str "number", .str "e", .str "number"]), some (.str "no"), some (.ref n16)]) (.cons (.tup (.cons (.con (.str ("fun" : Str))) (.cons (.con (.str ("abcdefgh" : Str))) (.cons (.tup .nil) (.cons (.con (.str ("list" : Str))) (.cons (.tup (.cons (.con (.str ("fail" : Str))) (.cons (.con (.int 1)) .nil))) .nil)))))) .nil) [.tup [.str "fun", .str "abcdefgh", .tup [], .str "list", .tup [.str "fail", .int 1]]] rfl p16 h16 (fun t => by simp) (by decide)
  have e17' : ∀ rest, evS T (evF T F k) _ _ _ = evS T (evF T F k) rest [some (.int c), some (.tup [.str "give", .int 1]), some (.ref m4), some (.tup [.str "a", .str "number", .str "b", .str "truth", .str "c", .str "list", .str "d", .str "number", .str "e", .str "number"]), some (.str "no"), some (.ref n17)] τ17 := e17
  have g4_14_15_16_17 := pre_get q17 g4_14_15_16
  have hw : _ = some (AO.lst wr26) := g4_14_15_16_17
  have hr : _ = some (AO.lst rt26) := h17
  obtain ⟨x, b, e, m⟩ := pick_run (C := evF T F k) (c := c) (r := 5) (w := 2) (ρ := [some (.int c), some (.tup [.str "give", .int 1]), some (.ref m4), some (.tup [.str "a", .str "number", .str "b", .str "truth", .str "c", .str "list", .str "d", .str "number", .str "e", .str "number"]), some (.str "no"), some (.ref n17)]) rfl rfl rfl hr hw (by decide) (by decide)
  refine ⟨τ17.length, τ17 ++ [.lst [x, .bl b]], x, b, ?_, p17.trans (List.prefix_append _ _), at_end _ _, m⟩
  have e' := congrArg Mi.finish e
  rw [u26, b26]
  rw [c1]
  rw [e1']
  rw [c3]
  rw [e2']
  rw [e3']
  rw [e4']
  rw [e5']
  rw [e6']
  rw [e7']
  rw [e8']
  rw [e9']
  rw [e10']
  rw [e11']
  rw [e12']
  rw [lp]
  rw [e14']
  rw [e15']
  rw [e16']
  rw [e17']
  exact e'
theorem r27 (k : Nat) (c : Int) (τ : Sto) : ∃ D τ' x b, evF T F (k + 1) 27 [.int c] τ = .ok (.ref D) τ' ∧ τ <+: τ' ∧ τ'[D]? = some (.lst [x, .bl b]) ∧ (x, b) ∈ prs rt27 wr27 := by
  have p0 : τ <+: τ := List.prefix_refl _
  have c1 : ∀ t rest, evS T (evF T F k) (.cons (.set 1 (.tup (.cons (.con (.str ("give" : Str))) (.cons (.con (.int 1)) .nil)))) rest) [some (.int c), none, none, none, none] t = evS T (evF T F k) rest [some (.int c), some (.tup [.str "give", .int 1]), none, none, none] t := fun t rest => by
    rw [evS_cons]
    simp
  have c2 : ∀ t rest, evS T (evF T F k) (.cons (.set 2 (.tup (.cons (.con (.str ("if" : Str))) (.cons (.con (.str ("yes" : Str))) (.cons (.tup (.cons (.var 1) .nil)) (.cons (.tup (.cons (.tup (.cons (.con (.str ("out" : Str))) (.cons (.con (.int 1)) .nil))) (.cons (.tup (.cons (.con (.str ("fail" : Str))) (.cons (.con (.int 2)) .nil))) .nil))) .nil)))))) rest) [some (.int c), some (.tup [.str "give", .int 1]), none, none, none] t = evS T (evF T F k) rest [some (.int c), some (.tup [.str "give", .int 1]), some (.tup [.str "if", .str "yes", .tup [.tup [.str "give", .int 1]], .tup [.tup [.str "out", .int 1], .tup [.str "fail", .int 2]]]), none, none] t := fun t rest => by
    rw [evS_cons]
    simp
  obtain ⟨n1, τ1, e1, q1, p1, h1⟩ := new_step (C := evF T F k) (i := 3) (ρ := [some (.int c), some (.tup [.str "give", .int 1]), some (.tup [.str "if", .str "yes", .tup [.tup [.str "give", .int 1]], .tup [.tup [.str "out", .int 1], .tup [.str "fail", .int 2]]]), none, none]) (.cons (.tup (.cons (.tup (.cons (.con (.str ("out" : Str))) (.cons (.con (.int 1)) .nil))) .nil)) (.cons (.tup (.cons (.tup (.cons (.con (.str ("while" : Str))) (.cons (.con (.str ("yes" : Str))) (.cons (.tup (.cons (.var 1) .nil)) .nil)))) .nil)) (.cons (.tup (.cons (.tup (.cons (.con (.str ("if" : Str))) (.cons (.con (.str ("yes" : Str))) (.cons (.tup (.cons (.var 1) .nil)) (.cons (.tup .nil) .nil))))) .nil)) .nil))) [.tup [.tup [.str "out", .int 1]], .tup [.tup [.str "while", .str "yes", .tup [.tup [.str "give", .int 1]]]], .tup [.tup [.str "if", .str "yes", .tup [.tup [.str "give", .int 1]], .tup []]]] p0 (fun t => by simp) (by decide)
  have e1' : ∀ rest, evS T (evF T F k) _ _ _ = evS T (evF T F k) rest [some (.int c), some (.tup [.str "give", .int 1]), some (.tup [.str "if", .str "yes", .tup [.tup [.str "give", .int 1]], .tup [.tup [.str "out", .int 1], .tup [.str "fail", .int 2]]]), some (.ref n1), none] τ1 := e1
  obtain ⟨n2, τ2, e2, q2, p2, h2⟩ := add_step (C := evF T F k) (i := 3) (ρ := [some (.int c), some (.tup [.str "give", .int 1]), some (.tup [.str "if", .str "yes", .tup [.tup [.str "give", .int 1]], .tup [.tup [.str "out", .int 1], .tup [.str "fail", .int 2]]]), some (.ref n1), none]) (.cons (.tup (.cons (.tup (.cons (.con (.str ("if" : Str))) (.cons (.con (.str ("yes" : Str))) (.cons (.tup .nil) (.cons (.tup (.cons (.var 1) .nil)) .nil))))) .nil)) (.cons (.tup .nil) .nil)) [.tup [.tup [.str "if", .str "yes", .tup [], .tup [.tup [.str "give", .int 1]]]], .tup []] rfl p1 h1 (fun t => by simp) (by decide)
  have e2' : ∀ rest, evS T (evF T F k) _ _ _ = evS T (evF T F k) rest [some (.int c), some (.tup [.str "give", .int 1]), some (.tup [.str "if", .str "yes", .tup [.tup [.str "give", .int 1]], .tup [.tup [.str "out", .int 1], .tup [.str "fail", .int 2]]]), some (.ref n2), none] τ2 := e2
  obtain ⟨n3, τ3, e3, q3, p3, h3⟩ := add_step (C := evF T F k) (i := 3) (ρ := [some (.int c), some (.tup [.str "give", .int 1]), some (.tup [.str "if", .str "yes", .tup [.tup [.str "give", .int 1]], .tup [.tup [.str "out", .int 1], .tup [.str "fail", .int 2]]]), some (.ref n2), none]) (.cons (.tup (.cons (.var 1) (.cons (.var 1) .nil))) (.cons (.tup (.cons (.tup (.cons (.con (.str ("fail" : Str))) (.cons (.con (.int 1)) .nil))) (.cons (.tup (.cons (.con (.str ("out" : Str))) (.cons (.con (.int 1)) .nil))) .nil))) .nil)) [.tup [.tup [.str "give", .int 1], .tup [.str "give", .int 1]], .tup [.tup [.str "fail", .int 1], .tup [.str "out", .int 1]]] rfl p2 h2 (fun t => by simp) (by decide)
  have e3' : ∀ rest, evS T (evF T F k) _ _ _ = evS T (evF T F k) rest [some (.int c), some (.tup [.str "give", .int 1]), some (.tup [.str "if", .str "yes", .tup [.tup [.str "give", .int 1]], .tup [.tup [.str "out", .int 1], .tup [.str "fail", .int 2]]]), some (.ref n3), none] τ3 := e3
  obtain ⟨n4, τ4, e4, q4, p4, h4⟩ := add_step (C := evF T F k) (i := 3) (ρ := [some (.int c), some (.tup [.str "give", .int 1]), some (.tup [.str "if", .str "yes", .tup [.tup [.str "give", .int 1]], .tup [.tup [.str "out", .int 1], .tup [.str "fail", .int 2]]]), some (.ref n3), none]) (.cons (.tup (.cons (.var 2) (.cons (.var 1) .nil))) (.cons (.tup (.cons (.tup (.cons (.con (.str ("if" : Str))) (.cons (.con (.str ("yes" : Str))) (.cons (.tup (.cons (.var 1) (.cons (.tup (.cons (.con (.str ("out" : Str))) (.cons (.con (.int 1)) .nil))) .nil))) (.cons (.tup .nil) .nil))))) (.cons (.var 1) .nil))) .nil)) [.tup [.tup [.str "if", .str "yes", .tup [.tup [.str "give", .int 1]], .tup [.tup [.str "out", .int 1], .tup [.str "fail", .int 2]]], .tup [.str "give", .int 1]], .tup [.tup [.str "if", .str "yes", .tup [.tup [.str "give", .int 1], .tup [.str "out", .int 1]], .tup []], .tup [.str "give", .int 1]]] rfl p3 h3 (fun t => by simp) (by decide)
  have e4' : ∀ rest, evS T (evF T F k) _ _ _ = evS T (evF T F k) rest [some (.int c), some (.tup [.str "give", .int 1]), some (.tup [.str "if", .str "yes", .tup [.tup [.str "give", .int 1]], .tup [.tup [.str "out", .int 1], .tup [.str "fail", .int 2]]]), some (.ref n4), none] τ4 := e4
  obtain ⟨n5, τ5, e5, q5, p5, h5⟩ := add_step (C := evF T F k) (i := 3) (ρ := [some (.int c), some (.tup [.str "give", .int 1]), some (.tup [.str "if", .str "yes", .tup [.tup [.str "give", .int 1]], .tup [.tup [.str "out", .int 1], .tup [.str "fail", .int 2]]]), some (.ref n4), none]) (.cons (.tup (.cons (.tup (.cons (.con (.str ("while" : Str))) (.cons (.con (.str ("no" : Str))) (.cons (.tup (.cons (.tup (.cons (.con (.str ("fail" : Str))) (.cons (.con (.int 1)) .nil))) (.cons (.tup (.cons (.con (.str ("fail" : Str))) (.cons (.con (.int 1)) .nil))) .nil))) .nil)))) (.cons (.var 1) .nil))) .nil) [.tup [.tup [.str "while", .str "no", .tup [.tup [.str "fail", .int 1], .tup [.str "fail", .int 1]]], .tup [.str "give", .int 1]]] rfl p4 h4 (fun t => by simp) (by decide)
  have e5' : ∀ rest, evS T (evF T F k) _ _ _ = evS T (evF T F k) rest [some (.int c), some (.tup [.str "give", .int 1]), some (.tup [.str "if", .str "yes", .tup [.tup [.str "give", .int 1]], .tup [.tup [.str "out", .int 1], .tup [.str "fail", .int 2]]]), some (.ref n5), none] τ5 := e5
  obtain ⟨n6, τ6, e6, q6, p6, h6⟩ := add_step (C := evF T F k) (i := 3) (ρ := [some (.int c), some (.tup [.str "give", .int 1]), some (.tup [.str "if", .str "yes", .tup [.tup [.str "give", .int 1]], .tup [.tup [.str "out", .int 1], .tup [.str "fail", .int 2]]]), some (.ref n5), none]) (.cons (.tup (.cons (.tup (.cons (.con (.str ("if" : Str))) (.cons (.con (.str ("no" : Str))) (.cons (.tup (.cons (.var 1) .nil)) (.cons (.tup (.cons (.var 2) (.cons (.tup (.cons (.con (.str ("out" : Str))) (.cons (.con (.int 1)) .nil))) .nil))) .nil))))) (.cons (.var 1) .nil))) .nil) [.tup [.tup [.str "if", .str "no", .tup [.tup [.str "give", .int 1]], .tup [.tup [.str "if", .str "yes", .tup [.tup [.str "give", .int 1]], .tup [.tup [.str "out", .int 1], .tup [.str "fail", .int 2]]], .tup [.str "out", .int 1]]], .tup [.str "give", .int 1]]] rfl p5 h5 (fun t => by simp) (by decide)
  have e6' : ∀ rest, evS T (evF T F k) _ _ _ = evS T (evF T F k) rest [some (.int c), some (.tup [.str "give", .int 1]), some (.tup [.str "if", .str "yes", .tup [.tup [.str "give", .int 1]], .tup [.tup [.str "out", .int 1], .tup [.str "fail", .int 2]]]), some (.ref n6), none] τ6 := e6
  obtain ⟨n7, τ7, e7, q7, p7, h7⟩ := add_step (C := evF T F k) (i := 3) (ρ := [some (.int c), some (.tup [.str "give", .int 1]), some (.tup [.str "if", .str "yes", .tup [.tup [.str "give", .int 1]], .tup [.tup [.str "out", .int 1], .tup [.str "fail", .int 2]]]), some (.ref n6), none]) (.cons (.tup (.cons (.tup (.cons (.con (.str ("if" : Str))) (.cons (.con (.str ("no" : Str))) (.cons (.tup (.cons (.var 2) .nil)) (.cons (.tup (.cons (.tup (.cons (.con (.str ("while" : Str))) (.cons (.con (.str ("yes" : Str))) (.cons (.tup (.cons (.var 1) .nil)) .nil)))) .nil)) .nil))))) .nil)) (.cons (.tup (.cons (.tup (.cons (.con (.str ("let" : Str))) (.cons (.con (.str ("x" : Str))) (.cons (.con (.int 1)) .nil)))) .nil)) (.cons (.tup (.cons (.tup (.cons (.con (.str ("do" : Str))) (.cons (.con (.int 1)) .nil))) .nil)) .nil))) [.tup [.tup [.str "if", .str "no", .tup [.tup [.str "if", .str "yes", .tup [.tup [.str "give", .int 1]], .tup [.tup [.str "out", .int 1], .tup [.str "fail", .int 2]]]], .tup [.tup [.str "while", .str "yes", .tup [.tup [.str "give", .int 1]]]]]], .tup [.tup [.str "let", .str "x", .int 1]], .tup [.tup [.str "do", .int 1]]] rfl p6 h6 (fun t => by simp) (by decide)
  have e7' : ∀ rest, evS T (evF T F k) _ _ _ = evS T (evF T F k) rest [some (.int c), some (.tup [.str "give", .int 1]), some (.tup [.str "if", .str "yes", .tup [.tup [.str "give", .int 1]], .tup [.tup [.str "out", .int 1], .tup [.str "fail", .int 2]]]), some (.ref n7), none] τ7 := e7
  obtain ⟨n8, τ8, e8, q8, p8, h8⟩ := new_step (C := evF T F k) (i := 4) (ρ := [some (.int c), some (.tup [.str "give", .int 1]), some (.tup [.str "if", .str "yes", .tup [.tup [.str "give", .int 1]], .tup [.tup [.str "out", .int 1], .tup [.str "fail", .int 2]]]), some (.ref n7), none]) (.cons (.tup (.cons (.var 1) .nil)) (.cons (.tup (.cons (.var 2) .nil)) (.cons (.tup (.cons (.tup (.cons (.con (.str ("if" : Str))) (.cons (.con (.str ("yes" : Str))) (.cons (.tup (.cons (.var 2) .nil)) (.cons (.tup (.cons (.var 2) .nil)) .nil))))) .nil)) .nil))) [.tup [.tup [.str "give", .int 1]], .tup [.tup [.str "if", .str "yes", .tup [.tup [.str "give", .int 1]], .tup [.tup [.str "out", .int 1], .tup [.str "fail", .int 2]]]], .tup [.tup [.str "if", .str "yes", .tup [.tup [.str "if", .str "yes", .tup [.tup [.str "give", .int 1]], .tup [.tup [.str "out", .int 1], .tup [.str "fail", .int 2]]]], .tup [.tup [.str "if", .str "yes", .tup [.tup [.str "give", .int 1]], .tup [.tup [.str "out", .int 1], .tup [.str "fail", .int 2]]]]]]] p7 (fun t => by simp) (by decide)
  have e8' : ∀ rest, evS T (evF T F k) _ _ _ = evS T (evF T F k) rest [some (.int c), some (.tup [.str "give", .int 1]), some (.tup [.str "if", .str "yes", .tup [.tup [.str "give", .int 1]], .tup [.tup [.str "out", .int 1], .tup [.str "fail", .int 2]]]), some (.ref n7), some (.ref n8)] τ8 := e8
  have h7_8 := pre_get q8 h7
  obtain ⟨n9, τ9, e9, q9, p9, h9⟩ := add_step (C := evF T F k) (i := 4) (ρ := [some (.int c), some (.tup [.str "give", .int 1]), some (.tup [.str "if", .str "yes", .tup [.tup [.str "give", .int 1]], .tup [.tup [.str "out", .int 1], .tup [.str "fail", .int 2]]]), some (.ref n7), some (.ref n8)]) (.cons (.tup (.cons (.tup (.cons (.con (.str ("while" : Str))) (.cons (.con (.str ("yes" : Str))) (.cons (.tup (.cons (.var 1) .nil)) .nil)))) (.cons (.var 1) .nil))) (.cons (.tup (.cons (.tup (.cons (.con (.str ("fail" : Str))) (.cons (.con (.int 0)) .nil))) .nil)) .nil)) [.tup [.tup [.str "while", .str "yes", .tup [.tup [.str "give", .int 1]]], .tup [.str "give", .int 1]], .tup [.tup [.str "fail", .int 0]]] rfl p8 h8 (fun t => by simp) (by decide)
  have e9' : ∀ rest, evS T (evF T F k) _ _ _ = evS T (evF T F k) rest [some (.int c), some (.tup [.str "give", .int 1]), some (.tup [.str "if", .str "yes", .tup [.tup [.str "give", .int 1]], .tup [.tup [.str "out", .int 1], .tup [.str "fail", .int 2]]]), some (.ref n7), some (.ref n9)] τ9 := e9
  have h7_8_9 := pre_get q9 h7_8
  obtain ⟨n10, τ10, e10, q10, p10, h10⟩ := add_step (C := evF T F k) (i := 4) (ρ := [some (.int c), some (.tup [.str "give", .int 1]), some (.tup [.str "if", .str "yes", .tup [.tup [.str "give", .int 1]], .tup [.tup [.str "out", .int 1], .tup [.str "fail", .int 2]]]), some (.ref n7), some (.ref n9)]) (.cons (.tup (.cons (.tup (.cons (.con (.str ("if" : Str))) (.cons (.con (.str ("yes" : Str))) (.cons (.tup (.cons (.var 1) .nil)) (.cons (.tup .nil) .nil))))) (.cons (.var 2) .nil))) (.cons (.tup (.cons (.tup (.cons (.con (.str ("while" : Str))) (.cons (.con (.str ("no" : Str))) (.cons (.tup (.cons (.var 2) .nil)) .nil)))) (.cons (.tup (.cons (.con (.str ("if" : Str))) (.cons (.con (.str ("no" : Str))) (.cons (.tup .nil) (.cons (.tup .nil) .nil))))) (.cons (.var 1) .nil)))) .nil)) [.tup [.tup [.str "if", .str "yes", .tup [.tup [.str "give", .int 1]], .tup []], .tup [.str "if", .str "yes", .tup [.tup [.str "give", .int 1]], .tup [.tup [.str "out", .int 1], .tup [.str "fail", .int 2]]]], .tup [.tup [.str "while", .str "no", .tup [.tup [.str "if", .str "yes", .tup [.tup [.str "give", .int 1]], .tup [.tup [.str "out", .int 1], .tup [.str "fail", .int 2]]]]], .tup [.str "if", .str "no", .tup [], .tup []], .tup [.str "give", .int 1]]] rfl p9 h9 (fun t => by simp) (by decide)
  have e10' : ∀ rest, evS T (evF T F k) _ _ _ = evS T (evF T F k) rest [some (.int c), some (.tup [.str "give", .int 1]), some (.tup [.str "if", .str "yes", .tup [.tup [.str "give", .int 1]], .tup [.tup [.str "out", .int 1], .tup [.str "fail", .int 2]]]), some (.ref n7), some (.ref n10)] τ10 := e10
  have h7_8_9_10 := pre_get q10 h7_8_9
  have hw : _ = some (AO.lst wr27) := h7_8_9_10
  have hr : _ = some (AO.lst rt27) := h10
  obtain ⟨x, b, e, m⟩ := pick_run (C := evF T F k) (c := c) (r := 4) (w := 3) (ρ := [some (.int c), some (.tup [.str "give", .int 1]), some (.tup [.str "if", .str "yes", .tup [.tup [.str "give", .int 1]], .tup [.tup [.str "out", .int 1], .tup [.str "fail", .int 2]]]), some (.ref n7), some (.ref n10)]) rfl rfl rfl hr hw (by decide) (by decide)
  refine ⟨τ10.length, τ10 ++ [.lst [x, .bl b]], x, b, ?_, p10.trans (List.prefix_append _ _), at_end _ _, m⟩
  have e' := congrArg Mi.finish e
  rw [u27, b27]
  rw [c1]
  rw [c2]
  rw [e1']
  rw [e2']
  rw [e3']
  rw [e4']
  rw [e5']
  rw [e6']
  rw [e7']
  rw [e8']
  rw [e9']
  rw [e10']
  exact e'
theorem r28 (k : Nat) (c : Int) (τ : Sto) : ∃ D τ' x b, evF T F (k + 1) 28 [.int c] τ = .ok (.ref D) τ' ∧ τ <+: τ' ∧ τ'[D]? = some (.lst [x, .bl b]) ∧ (x, b) ∈ prs rt28 wr28 := by
  have p0 : τ <+: τ := List.prefix_refl _
  have c1 : ∀ t rest, evS T (evF T F k) (.cons (.set 1 (.tup (.cons (.con (.str ("give" : Str))) (.cons (.con (.int 1)) .nil)))) rest) [some (.int c), none, none, none] t = evS T (evF T F k) rest [some (.int c), some (.tup [.str "give", .int 1]), none, none] t := fun t rest => by
    rw [evS_cons]
    simp
  obtain ⟨n1, τ1, e1, q1, p1, h1⟩ := new_step (C := evF T F k) (i := 2) (ρ := [some (.int c), some (.tup [.str "give", .int 1]), none, none]) (.cons (.tup (.cons (.con (.str ("fun" : Str))) (.cons (.con (.str ("main" : Str))) (.cons (.tup (.cons (.con (.str ("a" : Str))) (.cons (.con (.str ("truth" : Str))) .nil))) (.cons (.con (.str ("number" : Str))) (.cons (.var 1) .nil)))))) .nil) [.tup [.str "fun", .str "main", .tup [.str "a", .str "truth"], .str "number", .tup [.str "give", .int 1]]] p0 (fun t => by simp) (by decide)
  have e1' : ∀ rest, evS T (evF T F k) _ _ _ = evS T (evF T F k) rest [some (.int c), some (.tup [.str "give", .int 1]), some (.ref n1), none] τ1 := e1
  obtain ⟨n2, τ2, e2, q2, p2, h2⟩ := add_step (C := evF T F k) (i := 2) (ρ := [some (.int c), some (.tup [.str "give", .int 1]), some (.ref n1), none]) (.cons (.tup (.cons (.con (.str ("fun" : Str))) (.cons (.con (.str ("main" : Str))) (.cons (.tup (.cons (.con (.str ("a" : Str))) (.cons (.con (.str ("number" : Str))) (.cons (.con (.str ("b" : Str))) (.cons (.con (.str ("rr" : Str))) .nil))))) (.cons (.con (.str ("number" : Str))) (.cons (.var 1) .nil)))))) .nil) [.tup [.str "fun", .str "main", .tup [.str "a", .str "number", .str "b", .str "rr"], .str "number", .tup [.str "give", .int 1]]] rfl p1 h1 (fun t => by simp) (by decide)
  have e2' : ∀ rest, evS T (evF T F k) _ _ _ = evS T (evF T F k) rest [some (.int c), some (.tup [.str "give", .int 1]), some (.ref n2), none] τ2 := e2
  obtain ⟨n3, τ3, e3, q3, p3, h3⟩ := add_step (C := evF T F k) (i := 2) (ρ := [some (.int c), some (.tup [.str "give", .int 1]), some (.ref n2), none]) (.cons (.tup (.cons (.con (.str ("fun" : Str))) (.cons (.con (.str ("main" : Str))) (.cons (.tup .nil) (.cons (.con (.str ("truth" : Str))) (.cons (.tup (.cons (.con (.str ("give" : Str))) (.cons (.con (.str ("yes" : Str))) .nil))) .nil)))))) (.cons (.tup (.cons (.con (.str ("fun" : Str))) (.cons (.con (.str ("mains" : Str))) (.cons (.tup .nil) (.cons (.con (.str ("number" : Str))) (.cons (.var 1) .nil)))))) .nil)) [.tup [.str "fun", .str "main", .tup [], .str "truth", .tup [.str "give", .str "yes"]], .tup [.str "fun", .str "mains", .tup [], .str "number", .tup [.str "give", .int 1]]] rfl p2 h2 (fun t => by simp) (by decide)
  have e3' : ∀ rest, evS T (evF T F k) _ _ _ = evS T (evF T F k) rest [some (.int c), some (.tup [.str "give", .int 1]), some (.ref n3), none] τ3 := e3
  obtain ⟨n4, τ4, e4, q4, p4, h4⟩ := add_step (C := evF T F k) (i := 2) (ρ := [some (.int c), some (.tup [.str "give", .int 1]), some (.ref n3), none]) (.cons (.tup (.cons (.con (.str ("fun" : Str))) (.cons (.con (.str ("main" : Str))) (.cons (.tup (.cons (.con (.str ("a" : Str))) (.cons (.con (.str ("list" : Str))) .nil))) (.cons (.con (.str ("number" : Str))) (.cons (.var 1) .nil)))))) .nil) [.tup [.str "fun", .str "main", .tup [.str "a", .str "list"], .str "number", .tup [.str "give", .int 1]]] rfl p3 h3 (fun t => by simp) (by decide)
  have e4' : ∀ rest, evS T (evF T F k) _ _ _ = evS T (evF T F k) rest [some (.int c), some (.tup [.str "give", .int 1]), some (.ref n4), none] τ4 := e4
  obtain ⟨n5, τ5, e5, q5, p5, h5⟩ := add_step (C := evF T F k) (i := 2) (ρ := [some (.int c), some (.tup [.str "give", .int 1]), some (.ref n4), none]) (.cons (.tup (.cons (.con (.str ("fun" : Str))) (.cons (.con (.str ("main" : Str))) (.cons (.tup .nil) (.cons (.con (.str ("rr" : Str))) (.cons (.tup (.cons (.con (.str ("give" : Str))) (.cons (.tup (.cons (.con (.str ("new" : Str))) (.cons (.con (.str ("rr" : Str))) .nil))) .nil))) .nil)))))) .nil) [.tup [.str "fun", .str "main", .tup [], .str "rr", .tup [.str "give", .tup [.str "new", .str "rr"]]]] rfl p4 h4 (fun t => by simp) (by decide)
  have e5' : ∀ rest, evS T (evF T F k) _ _ _ = evS T (evF T F k) rest [some (.int c), some (.tup [.str "give", .int 1]), some (.ref n5), none] τ5 := e5
  obtain ⟨n6, τ6, e6, q6, p6, h6⟩ := new_step (C := evF T F k) (i := 3) (ρ := [some (.int c), some (.tup [.str "give", .int 1]), some (.ref n5), none]) (.cons (.tup (.cons (.con (.str ("fun" : Str))) (.cons (.con (.str ("main" : Str))) (.cons (.tup .nil) (.cons (.con (.str ("number" : Str))) (.cons (.var 1) .nil)))))) .nil) [.tup [.str "fun", .str "main", .tup [], .str "number", .tup [.str "give", .int 1]]] p5 (fun t => by simp) (by decide)
  have e6' : ∀ rest, evS T (evF T F k) _ _ _ = evS T (evF T F k) rest [some (.int c), some (.tup [.str "give", .int 1]), some (.ref n5), some (.ref n6)] τ6 := e6
  have h5_6 := pre_get q6 h5
  obtain ⟨n7, τ7, e7, q7, p7, h7⟩ := add_step (C := evF T F k) (i := 3) (ρ := [some (.int c), some (.tup [.str "give", .int 1]), some (.ref n5), some (.ref n6)]) (.cons (.tup (.cons (.con (.str ("fun" : Str))) (.cons (.con (.str ("main" : Str))) (.cons (.tup (.cons (.con (.str ("a" : Str))) (.cons (.con (.str ("number" : Str))) (.cons (.con (.str ("b" : Str))) (.cons (.con (.str ("number" : Str))) .nil))))) (.cons (.con (.str ("number" : Str))) (.cons (.tup (.cons (.con (.str ("give" : Str))) (.cons (.con (.str ("b" : Str))) .nil))) .nil)))))) .nil) [.tup [.str "fun", .str "main", .tup [.str "a", .str "number", .str "b", .str "number"], .str "number", .tup [.str "give", .str "b"]]] rfl p6 h6 (fun t => by simp) (by decide)
  have e7' : ∀ rest, evS T (evF T F k) _ _ _ = evS T (evF T F k) rest [some (.int c), some (.tup [.str "give", .int 1]), some (.ref n5), some (.ref n7)] τ7 := e7
  have h5_6_7 := pre_get q7 h5_6
  have hw : _ = some (AO.lst wr28) := h5_6_7
  have hr : _ = some (AO.lst rt28) := h7
  obtain ⟨x, b, e, m⟩ := pick_run (C := evF T F k) (c := c) (r := 3) (w := 2) (ρ := [some (.int c), some (.tup [.str "give", .int 1]), some (.ref n5), some (.ref n7)]) rfl rfl rfl hr hw (by decide) (by decide)
  refine ⟨τ7.length, τ7 ++ [.lst [x, .bl b]], x, b, ?_, p7.trans (List.prefix_append _ _), at_end _ _, m⟩
  have e' := congrArg Mi.finish e
  rw [u28, b28]
  rw [c1]
  rw [e1']
  rw [e2']
  rw [e3']
  rw [e4']
  rw [e5']
  rw [e6']
  rw [e7']
  exact e'
/-! the law's trees -/
def plain29 : List Mi.W := [.tup [.str "fun", .str "g", .tup [.str "p", .str "rr"], .str "truth", .tup [.str "give", .str "no"]]]
def main29 : List Mi.W := [.tup [.str "fun", .str "main", .tup [], .str "number", .tup [.str "give", .int 0]]]
def other29 : List Mi.W := [.tup [.str "record", .str "rr", .str "f"]]
def rs29 : List Mi.W := [.tup [.str "record", .str "rs", .str "a"]]
def arr (main more : List Mi.W) (a : Nat) : List Mi.W := match a with
  | 0 => main ++ plain29 ++ more
  | 1 => more ++ main ++ plain29
  | _ => plain29 ++ more ++ main
def ar4 (main more : List Mi.W) (a : Nat) : List Mi.W := match a with
  | 0 => main ++ more ++ plain29
  | _ => main ++ plain29 ++ more
def ord (rs : List Mi.W) (o : Nat) : List Mi.W := match o with
  | 0 => rs ++ other29
  | _ => other29 ++ rs
def mkT (rs fns : List Mi.W) (o : Nat) : Mi.W := .tup ([.str "program"] ++ ord rs o ++ fns)
def C6 : Mi.S := (.cons (.set 4 (.tup (.cons (.tup (.cons (.con (.str ("record" : Str))) (.cons (.con (.str ("rr" : Str))) (.cons (.con (.str ("f" : Str))) .nil)))) .nil))) (.cons (.set 5 (.ix (.lst (.cons (.op .Add (.var 6) (.var 4)) (.cons (.op .Add (.var 4) (.var 6)) .nil))) (.op .Mod (.op .FloorDiv (.var 0) (.con (.int 7680))) (.con (.int 2))))) (.cons (.ret (.lst (.cons (.op .Add (.op .Add (.tup (.cons (.con (.str ("program" : Str))) .nil)) (.var 5)) (.var 3)) (.cons (.var 9) .nil)))) .nil)))
abbrev S3 : Mi.S := (.set 2 (.tup (.cons (.tup (.cons (.con (.str ("fun" : Str))) (.cons (.con (.str ("g" : Str))) (.cons (.tup (.cons (.con (.str ("p" : Str))) (.cons (.con (.str ("rr" : Str))) .nil))) (.cons (.con (.str ("truth" : Str))) (.cons (.tup (.cons (.con (.str ("give" : Str))) (.cons (.con (.str ("no" : Str))) .nil))) .nil)))))) .nil)))
abbrev S5 : Mi.S := (.ife (.cmp .Eq (.var 1) (.con (.int 4))) (.cons (.set 10 (.op .Mod (.op .FloorDiv (.var 0) (.con (.int 2560))) (.con (.int 2)))) (.cons (.set 3 (.op .Add (.op .Add (.op .Add (.var 7) (.slice (.var 2) .nil (.var 10))) (.var 8)) (.slice (.var 2) (.var 10) .nil))) .nil)) .nil)
abbrev S6 : Mi.S := (.set 4 (.tup (.cons (.tup (.cons (.con (.str ("record" : Str))) (.cons (.con (.str ("rr" : Str))) (.cons (.con (.str ("f" : Str))) .nil)))) .nil)))
abbrev L4 : Mi.E := (.lst (.cons (.op .Add (.op .Add (.var 7) (.var 2)) (.var 8)) (.cons (.op .Add (.op .Add (.var 8) (.var 7)) (.var 2)) (.cons (.op .Add (.op .Add (.var 2) (.var 8)) (.var 7)) .nil))))
abbrev I4 : Mi.E := (.op .Mod (.op .FloorDiv (.var 0) (.con (.int 2560))) (.con (.int 3)))
abbrev L7 : Mi.E := (.lst (.cons (.op .Add (.var 6) (.var 4)) (.cons (.op .Add (.var 4) (.var 6)) .nil)))
abbrev I7 : Mi.E := (.op .Mod (.op .FloorDiv (.var 0) (.con (.int 7680))) (.con (.int 2)))
def c29 : Mi.S := .cons S3 (.cons (.set 3 (.ix L4 I4)) (.cons S5 C6))
theorem atI3 (x y z : Mi.W) : L2.atI [x, y, z] 0 = some x ∧ L2.atI [x, y, z] 1 = some y ∧ L2.atI [x, y, z] 2 = some z := ⟨rfl, rfl, rfl⟩
theorem atI2 (x y : Mi.W) : L2.atI [x, y] 0 = some x ∧ L2.atI [x, y] 1 = some y := ⟨rfl, rfl⟩
theorem cutA (x : Mi.W) : cut [x] none (some 0) = [] ∧ cut [x] (some 0) none = [x] ∧ cut [x] none (some 1) = [x] ∧ cut [x] (some 1) none = [] := by
  refine ⟨?_, ?_, ?_, ?_⟩ <;> simp [cut, HT.sIx]
section
variable {C : Nat → List Mi.W → Sto → R Mi.W}
theorem end29 (c way : Int) (rs main more XX : List Mi.W) (b : Bool) (lr lx : Nat) (h1 : rs.length = lr) (h2 : XX.length = lx) (hlr : lr = 0 ∨ lr = 1) (hlx : lx = 2 ∨ lx = 3) (o10 o11 o12 : Option Mi.W) (τ : Sto) : ∃ D τ' o, evS T C C6 [some (.int c), some (.int way), some (.tup plain29), some (.tup XX), none, none, some (.tup rs), some (.tup main), some (.tup more), some (.bl b), o10, o11, o12] τ = .ok (.rt (.ref D)) τ' ∧ τ <+: τ' ∧ τ'[D]? = some (.lst [mkT rs XX o, .bl b]) ∧ o < 2 := by
  obtain ⟨o, ho, g2⟩ : ∃ o, o < 2 ∧ L2.atI [W.tup (ord rs 0), W.tup (ord rs 1)] (c / 7680 % 2) = some (W.tup (ord rs o)) := by
    have eo : c / 7680 % 2 = 0 ∨ c / 7680 % 2 = 1 := by omega
    rcases eo with eo | eo
    · exact ⟨0, by decide, by rw [eo]; rfl⟩
    · exact ⟨1, by decide, by rw [eo]; rfl⟩
  have t6 : ∀ rest, evS T C (.cons S6 rest) [some (.int c), some (.int way), some (.tup plain29), some (.tup XX), none, none, some (.tup rs), some (.tup main), some (.tup more), some (.bl b), o10, o11, o12] τ = evS T C rest [some (.int c), some (.int way), some (.tup plain29), some (.tup XX), some (.tup other29), none, some (.tup rs), some (.tup main), some (.tup more), some (.bl b), o10, o11, o12] τ := fun rest => by
    rw [evS_cons]
    simp [other29]
  have e7 : (ev T C L7).e [some (.int c), some (.int way), some (.tup plain29), some (.tup XX), some (.tup other29), none, some (.tup rs), some (.tup main), some (.tup more), some (.bl b), o10, o11, o12] τ = .ok (.ref τ.length) (τ ++ [.lst [W.tup (ord rs 0), W.tup (ord rs 1)]]) := by
    rcases hlr with rfl | rfl <;> simp [newL, ord, other29, h1]
  have i7 : (ev T C (.ix L7 I7)).e [some (.int c), some (.int way), some (.tup plain29), some (.tup XX), some (.tup other29), none, some (.tup rs), some (.tup main), some (.tup more), some (.bl b), o10, o11, o12] τ = .ok (.tup (ord rs o)) (τ ++ [.lst [W.tup (ord rs 0), W.tup (ord rs 1)]]) := by
    rw [ev_ix, e7, R.bind_ok]
    simp [item_ref, g2]
  have lo : (ord rs o).length = lr + 1 := by
    match o, ho with
    | 0, _ => simp [ord, other29, h1] <;> omega
    | 1, _ => simp [ord, other29, h1] <;> omega
  have t7 : ∀ rest, evS T C (.cons (.set 5 (.ix L7 I7)) rest) [some (.int c), some (.int way), some (.tup plain29), some (.tup XX), some (.tup other29), none, some (.tup rs), some (.tup main), some (.tup more), some (.bl b), o10, o11, o12] τ = evS T C rest [some (.int c), some (.int way), some (.tup plain29), some (.tup XX), some (.tup other29), some (.tup (ord rs o)), some (.tup rs), some (.tup main), some (.tup more), some (.bl b), o10, o11, o12] (τ ++ [.lst [W.tup (ord rs 0), W.tup (ord rs 1)]]) := fun rest => by
    rw [evS_cons, evS_set, i7]
    rfl
  refine ⟨(τ ++ [AO.lst [W.tup (ord rs 0), W.tup (ord rs 1)]]).length, (τ ++ [.lst [W.tup (ord rs 0), W.tup (ord rs 1)]]) ++ [.lst [mkT rs XX o, .bl b]], o, ?_, (List.prefix_append _ _).trans (List.prefix_append _ _), at_end _ _, ho⟩
  unfold C6
  rw [t6, t7]
  unfold mkT
  generalize ord rs o = YY at *
  generalize τ ++ [AO.lst [W.tup (ord rs 0), W.tup (ord rs 1)]] = τ7 at *
  rcases hlr with rfl | rfl <;> rcases hlx with rfl | rfl <;> simp [newL, lo, h2]
theorem tail29 (c way : Int) (rs main more : List Mi.W) (b : Bool) (lr lm : Nat) (h1 : rs.length = lr) (h2 : main.length = 1) (h3 : more.length = lm) (hlr : lr = 0 ∨ lr = 1) (hlm : lm = 0 ∨ lm = 1) (o10 o11 o12 : Option Mi.W) (hw : (way == 4) = false) (τ : Sto) : ∃ D τ' w, evS T C c29 [some (.int c), some (.int way), none, none, none, none, some (.tup rs), some (.tup main), some (.tup more), some (.bl b), o10, o11, o12] τ = .ok (.rt (.ref D)) τ' ∧ τ <+: τ' ∧ τ'[D]? = some (.lst [w, .bl b]) ∧ ∃ a, a < 3 ∧ ∃ o, o < 2 ∧ w = mkT rs (arr main more a) o := by
  obtain ⟨a, ha, g1⟩ : ∃ a, a < 3 ∧ L2.atI [W.tup (arr main more 0), W.tup (arr main more 1), W.tup (arr main more 2)] (c / 2560 % 3) = some (W.tup (arr main more a)) := by
    have ea : c / 2560 % 3 = 0 ∨ c / 2560 % 3 = 1 ∨ c / 2560 % 3 = 2 := by omega
    rcases ea with ea | ea | ea
    · exact ⟨0, by decide, by rw [ea]; rfl⟩
    · exact ⟨1, by decide, by rw [ea]; rfl⟩
    · exact ⟨2, by decide, by rw [ea]; rfl⟩
  have t3 : ∀ rest, evS T C (.cons S3 rest) [some (.int c), some (.int way), none, none, none, none, some (.tup rs), some (.tup main), some (.tup more), some (.bl b), o10, o11, o12] τ = evS T C rest [some (.int c), some (.int way), some (.tup plain29), none, none, none, some (.tup rs), some (.tup main), some (.tup more), some (.bl b), o10, o11, o12] τ := fun rest => by
    rw [evS_cons]
    simp [plain29]
  have e4 : (ev T C L4).e [some (.int c), some (.int way), some (.tup plain29), none, none, none, some (.tup rs), some (.tup main), some (.tup more), some (.bl b), o10, o11, o12] τ = .ok (.ref τ.length) (τ ++ [.lst [W.tup (arr main more 0), W.tup (arr main more 1), W.tup (arr main more 2)]]) := by
    rcases hlm with rfl | rfl <;> simp [newL, arr, plain29, h2, h3]
  have i4 : (ev T C (.ix L4 I4)).e [some (.int c), some (.int way), some (.tup plain29), none, none, none, some (.tup rs), some (.tup main), some (.tup more), some (.bl b), o10, o11, o12] τ = .ok (.tup (arr main more a)) (τ ++ [.lst [W.tup (arr main more 0), W.tup (arr main more 1), W.tup (arr main more 2)]]) := by
    rw [ev_ix, e4, R.bind_ok]
    simp [item_ref, g1]
  have t4 : ∀ rest, evS T C (.cons (.set 3 (.ix L4 I4)) rest) [some (.int c), some (.int way), some (.tup plain29), none, none, none, some (.tup rs), some (.tup main), some (.tup more), some (.bl b), o10, o11, o12] τ = evS T C rest [some (.int c), some (.int way), some (.tup plain29), some (.tup (arr main more a)), none, none, some (.tup rs), some (.tup main), some (.tup more), some (.bl b), o10, o11, o12] (τ ++ [.lst [W.tup (arr main more 0), W.tup (arr main more 1), W.tup (arr main more 2)]]) := fun rest => by
    rw [evS_cons, evS_set, i4]
    rfl
  have la : (arr main more a).length = 2 + lm := by
    match a, ha with
    | 0, _ => simp [arr, plain29, h2, h3] <;> omega
    | 1, _ => simp [arr, plain29, h2, h3] <;> omega
    | 2, _ => simp [arr, plain29, h2, h3] <;> omega
  generalize hX : arr main more a = XX at *
  obtain ⟨τ4, hτ4⟩ : ∃ t, t = τ ++ [AO.lst [W.tup (arr main more 0), W.tup (arr main more 1), W.tup (arr main more 2)]] := ⟨_, rfl⟩
  have p4 : τ <+: τ4 := by rw [hτ4]; exact List.prefix_append _ _
  rw [← hτ4] at t4
  have t5 : ∀ rest, evS T C (.cons S5 rest) [some (.int c), some (.int way), some (.tup plain29), some (.tup XX), none, none, some (.tup rs), some (.tup main), some (.tup more), some (.bl b), o10, o11, o12] τ4 = evS T C rest [some (.int c), some (.int way), some (.tup plain29), some (.tup XX), none, none, some (.tup rs), some (.tup main), some (.tup more), some (.bl b), o10, o11, o12] τ4 := fun rest => by
    rw [evS_cons, evS_ife]
    have h : (ev T C (.cmp .Eq (.var 1) (.con (.int 4)))).t [some (.int c), some (.int way), some (.tup plain29), some (.tup XX), none, none, some (.tup rs), some (.tup main), some (.tup more), some (.bl b), o10, o11, o12] τ4 = .ok false τ4 := by simp [hw]
    rw [h, R.bind_ok, if_neg (by decide), evS_nil, seqR_nx]
  obtain ⟨D, τ', o, e, p, g, ho⟩ := end29 (C := C) c way rs main more XX b lr (2 + lm) h1 la hlr (by omega) o10 o11 o12 τ4
  refine ⟨D, τ', _, ?_, p4.trans p, g, a, ha, o, ho, by rw [hX]⟩
  unfold c29
  rw [t3, t4, t5]
  exact e
end
/-! a tree drawn -/
abbrev S0 : Mi.S := (.set 1 (.op .Mod (.var 0) (.con (.int 5))))
abbrev S1 : Mi.S := (.setT [6, 7, 8, 9] (.lst (.cons (.tup .nil) (.cons (.tup (.cons (.tup (.cons (.con (.str ("fun" : Str))) (.cons (.con (.str ("main" : Str))) (.cons (.tup .nil) (.cons (.con (.str ("number" : Str))) (.cons (.tup (.cons (.con (.str ("give" : Str))) (.cons (.con (.int 0)) .nil))) .nil)))))) .nil)) (.cons (.tup .nil) (.cons (.con (.bl true)) .nil))))))
abbrev S2 : Mi.S := (.ife (.cmp .Eq (.var 1) (.con (.int 0))) (.cons (.setT [11, 9] (.call 25 (.cons (.op .FloorDiv (.var 0) (.con (.int 5))) .nil))) (.cons (.set 6 (.tup (.cons (.var 11) .nil))) .nil)) (.cons (.ife (.cmp .Eq (.var 1) (.con (.int 1))) (.cons (.setT [11, 9] (.call 26 (.cons (.op .FloorDiv (.var 0) (.con (.int 5))) .nil))) (.cons (.set 8 (.tup (.cons (.var 11) .nil))) .nil)) (.cons (.ife (.cmp .Eq (.var 1) (.con (.int 2))) (.cons (.setT [12, 9] (.call 27 (.cons (.op .FloorDiv (.var 0) (.con (.int 5))) .nil))) (.cons (.set 8 (.tup (.cons (.op .Add (.tup (.cons (.con (.str ("fun" : Str))) (.cons (.con (.str ("f" : Str))) (.cons (.tup .nil) (.cons (.con (.str ("number" : Str))) .nil))))) (.var 12)) .nil))) .nil)) (.cons (.ife (.cmp .Eq (.var 1) (.con (.int 3))) (.cons (.setT [11, 9] (.call 28 (.cons (.op .FloorDiv (.var 0) (.con (.int 5))) .nil))) (.cons (.set 7 (.tup (.cons (.var 11) .nil))) .nil)) (.cons (.setT [8, 9] (.lst (.cons (.tup (.cons (.tup (.cons (.con (.str ("record" : Str))) (.cons (.con (.str ("rs" : Str))) (.cons (.con (.str ("a" : Str))) .nil)))) .nil)) (.cons (.con (.bl false)) .nil)))) .nil)) .nil)) .nil)) .nil))
def fun29 (x : Mi.W) : List Mi.W := match x with
  | .tup ys => [.tup ([.str "fun", .str "f", .tup [], .str "number"] ++ ys)]
  | _ => []
def Tr (w : Mi.W) (b : Bool) : Prop := ∃ o, o < 2 ∧ ((∃ a, a < 3 ∧ ∃ p ∈ prs rt25 wr25, w = mkT [p.1] (arr main29 [] a) o ∧ b = p.2) ∨ (∃ a, a < 3 ∧ ∃ p ∈ prs rt26 wr26, w = mkT [] (arr main29 [p.1] a) o ∧ b = p.2) ∨ (∃ a, a < 3 ∧ ∃ p ∈ prs rt27 wr27, w = mkT [] (arr main29 (fun29 p.1) a) o ∧ b = p.2) ∨ (∃ a, a < 3 ∧ ∃ p ∈ prs rt28 wr28, w = mkT [] (arr [p.1] [] a) o ∧ b = p.2) ∨ (∃ a, a < 2 ∧ w = mkT [] (ar4 main29 rs29 a) o ∧ b = false))
theorem all_tup : ∀ p ∈ prs rt27 wr27, ∃ ys, p.1 = .tup ys ∧ ys.length ≤ 10 := by
  have h : (prs rt27 wr27).all (fun p => match p.1 with
    | .tup ys => decide (ys.length ≤ 10)
    | _ => false) = true := by decide +kernel
  intro p hp
  have := List.all_eq_true.mp h p hp
  split at this
  · rename_i ys e
    exact ⟨ys, e, of_decide_eq_true this⟩
  · cases this
section
variable {k : Nat}
theorem start29 (c : Int) (τ : Sto) : ∃ τ', (∀ rest, evS T (evF T F (k + 1)) (.cons S0 (.cons S1 rest)) [some (.int c), none, none, none, none, none, none, none, none, none, none, none, none] τ = evS T (evF T F (k + 1)) rest [some (.int c), some (.int (c % 5)), none, none, none, none, some (.tup []), some (.tup main29), some (.tup []), some (.bl true), none, none, none] τ') ∧ τ <+: τ' := by
  refine ⟨τ ++ [.lst [.tup [], .tup main29, .tup [], .bl true]], fun rest => ?_, List.prefix_append _ _⟩
  have u : ∀ ρ is, putT (τ ++ [.lst [.tup [], .tup main29, .tup [], .bl true]]) is (.ref τ.length) ρ = putG (.tup is) (.tup [.tup [], .tup main29, .tup [], .bl true]) ρ := fun ρ is => putT_lst ρ _ (at_end _ _)
  unfold main29 at *
  have t0 : evS T (evF T F (k + 1)) S0 [some (.int c), none, none, none, none, none, none, none, none, none, none, none, none] τ = .ok (.nx [some (.int c), some (.int (c % 5)), none, none, none, none, none, none, none, none, none, none, none]) τ := by simp
  have t1 : evS T (evF T F (k + 1)) S1 [some (.int c), some (.int (c % 5)), none, none, none, none, none, none, none, none, none, none, none] τ = .ok (.nx [some (.int c), some (.int (c % 5)), none, none, none, none, some (.tup []), some (.tup [.tup [.str "fun", .str "main", .tup [], .str "number", .tup [.str "give", .int 0]]]), some (.tup []), some (.bl true), none, none, none]) (τ ++ [.lst [.tup [], .tup [.tup [.str "fun", .str "main", .tup [], .str "number", .tup [.str "give", .int 0]]], .tup [], .bl true]]) := by
    simp [newL, u, putG]
  rw [evS_cons, t0, seqR_nx, evS_cons, t1, seqR_nx]
theorem way4 (c : Int) (τ : Sto) : ∃ D τ' w, evS T (evF T F (k + 1)) (.cons S2 c29) [some (.int c), some (.int 4), none, none, none, none, some (.tup []), some (.tup main29), some (.tup []), some (.bl true), none, none, none] τ = .ok (.rt (.ref D)) τ' ∧ τ <+: τ' ∧ τ'[D]? = some (.lst [w, .bl false]) ∧ Tr w false := by
  have u : ∀ ρ is, putT (τ ++ [.lst [.tup rs29, .bl false]]) is (.ref τ.length) ρ = putG (.tup is) (.tup [.tup rs29, .bl false]) ρ := fun ρ is => putT_lst ρ _ (at_end _ _)
  have t2 : ∀ rest, evS T (evF T F (k + 1)) (.cons S2 rest) [some (.int c), some (.int 4), none, none, none, none, some (.tup []), some (.tup main29), some (.tup []), some (.bl true), none, none, none] τ = evS T (evF T F (k + 1)) rest [some (.int c), some (.int 4), none, none, none, none, some (.tup []), some (.tup main29), some (.tup rs29), some (.bl false), none, none, none] (τ ++ [.lst [.tup rs29, .bl false]]) := fun rest => by
    rw [evS_cons]
    unfold rs29 at *
    simp [newL, u, putG]
  obtain ⟨τ2, hτ2⟩ : ∃ t, t = τ ++ [AO.lst [.tup rs29, .bl false]] := ⟨_, rfl⟩
  have p2 : τ <+: τ2 := by rw [hτ2]; exact List.prefix_append _ _
  rw [← hτ2] at t2
  obtain ⟨a, ha, g1⟩ : ∃ a, a < 3 ∧ L2.atI [W.tup (arr main29 rs29 0), W.tup (arr main29 rs29 1), W.tup (arr main29 rs29 2)] (c / 2560 % 3) = some (W.tup (arr main29 rs29 a)) := by
    have ea : c / 2560 % 3 = 0 ∨ c / 2560 % 3 = 1 ∨ c / 2560 % 3 = 2 := by omega
    rcases ea with ea | ea | ea
    · exact ⟨0, by decide, by rw [ea]; rfl⟩
    · exact ⟨1, by decide, by rw [ea]; rfl⟩
    · exact ⟨2, by decide, by rw [ea]; rfl⟩
  have t3 : ∀ rest, evS T (evF T F (k + 1)) (.cons S3 rest) [some (.int c), some (.int 4), none, none, none, none, some (.tup []), some (.tup main29), some (.tup rs29), some (.bl false), none, none, none] τ2 = evS T (evF T F (k + 1)) rest [some (.int c), some (.int 4), some (.tup plain29), none, none, none, some (.tup []), some (.tup main29), some (.tup rs29), some (.bl false), none, none, none] τ2 := fun rest => by
    rw [evS_cons]
    simp [plain29]
  have e4 : (ev T (evF T F (k + 1)) L4).e [some (.int c), some (.int 4), some (.tup plain29), none, none, none, some (.tup []), some (.tup main29), some (.tup rs29), some (.bl false), none, none, none] τ2 = .ok (.ref τ2.length) (τ2 ++ [.lst [W.tup (arr main29 rs29 0), W.tup (arr main29 rs29 1), W.tup (arr main29 rs29 2)]]) := by
    simp [newL, arr, plain29, main29, rs29]
  have i4 : (ev T (evF T F (k + 1)) (.ix L4 I4)).e [some (.int c), some (.int 4), some (.tup plain29), none, none, none, some (.tup []), some (.tup main29), some (.tup rs29), some (.bl false), none, none, none] τ2 = .ok (.tup (arr main29 rs29 a)) (τ2 ++ [.lst [W.tup (arr main29 rs29 0), W.tup (arr main29 rs29 1), W.tup (arr main29 rs29 2)]]) := by
    rw [ev_ix, e4, R.bind_ok]
    simp [item_ref, g1]
  have t4 : ∀ rest, evS T (evF T F (k + 1)) (.cons (.set 3 (.ix L4 I4)) rest) [some (.int c), some (.int 4), some (.tup plain29), none, none, none, some (.tup []), some (.tup main29), some (.tup rs29), some (.bl false), none, none, none] τ2 = evS T (evF T F (k + 1)) rest [some (.int c), some (.int 4), some (.tup plain29), some (.tup (arr main29 rs29 a)), none, none, some (.tup []), some (.tup main29), some (.tup rs29), some (.bl false), none, none, none] (τ2 ++ [.lst [W.tup (arr main29 rs29 0), W.tup (arr main29 rs29 1), W.tup (arr main29 rs29 2)]]) := fun rest => by
    rw [evS_cons, evS_set, i4]
    rfl
  obtain ⟨τ4, hτ4⟩ : ∃ t, t = τ2 ++ [AO.lst [W.tup (arr main29 rs29 0), W.tup (arr main29 rs29 1), W.tup (arr main29 rs29 2)]] := ⟨_, rfl⟩
  have p4 : τ2 <+: τ4 := by rw [hτ4]; exact List.prefix_append _ _
  rw [← hτ4] at t4
  obtain ⟨q, hq, t5⟩ : ∃ q, q < 2 ∧ ∀ rest, evS T (evF T F (k + 1)) (.cons S5 rest) [some (.int c), some (.int 4), some (.tup plain29), some (.tup (arr main29 rs29 a)), none, none, some (.tup []), some (.tup main29), some (.tup rs29), some (.bl false), none, none, none] τ4 = evS T (evF T F (k + 1)) rest [some (.int c), some (.int 4), some (.tup plain29), some (.tup (ar4 main29 rs29 q)), none, none, some (.tup []), some (.tup main29), some (.tup rs29), some (.bl false), some (.int (c / 2560 % 2)), none, none] τ4 := by
    have eq : c / 2560 % 2 = 0 ∨ c / 2560 % 2 = 1 := by omega
    obtain ⟨q1, q2, q3, q4⟩ := cutA (.tup [.str "fun", .str "g", .tup [.str "p", .str "rr"], .str "truth", .tup [.str "give", .str "no"]])
    generalize arr main29 rs29 a = XX at *
    rcases eq with eq | eq
    · refine ⟨0, by decide, fun rest => ?_⟩
      rw [evS_cons]
      simp [eq, plain29, main29, rs29, ar4, q1, q2]
    · refine ⟨1, by decide, fun rest => ?_⟩
      rw [evS_cons]
      simp [eq, plain29, main29, rs29, ar4, q3, q4]
  have hlen : (ar4 main29 rs29 q).length = 3 := by
    match q, hq with
    | 0, _ => rfl
    | 1, _ => rfl
  obtain ⟨D, τ', o, e, p, g, ho⟩ := end29 (C := evF T F (k + 1)) c 4 [] main29 rs29 (ar4 main29 rs29 q) false 0 3 rfl hlen (.inl rfl) (.inr rfl) (some (.int (c / 2560 % 2))) none none τ4
  refine ⟨D, τ', _, ?_, p2.trans (p4.trans p), g, o, ho, .inr (.inr (.inr (.inr ⟨q, hq, rfl, rfl⟩)))⟩
  unfold c29
  rw [t2, t3, t4, t5]
  exact e
theorem way0 (c : Int) (τ : Sto) : ∃ D τ' w b, evS T (evF T F (k + 1)) (.cons S2 c29) [some (.int c), some (.int 0), none, none, none, none, some (.tup []), some (.tup main29), some (.tup []), some (.bl true), none, none, none] τ = .ok (.rt (.ref D)) τ' ∧ τ <+: τ' ∧ τ'[D]? = some (.lst [w, .bl b]) ∧ Tr w b := by
  obtain ⟨D1, τ1, x, b, e1, p1, g1, hm⟩ := r25 k (c / 5) τ
  have u : ∀ ρ is, putT τ1 is (.ref D1) ρ = putG (.tup is) (.tup [x, .bl b]) ρ := fun ρ is => putT_lst ρ _ g1
  have t2 : ∀ rest, evS T (evF T F (k + 1)) (.cons S2 rest) [some (.int c), some (.int 0), none, none, none, none, some (.tup []), some (.tup main29), some (.tup []), some (.bl true), none, none, none] τ = evS T (evF T F (k + 1)) rest [some (.int c), some (.int 0), none, none, none, none, some (.tup [x]), some (.tup main29), some (.tup []), some (.bl b), none, some x, none] τ1 := fun rest => by
    rw [evS_cons]
    generalize main29 = mm
    simp [e1, u, putG]
  obtain ⟨D, τ', w, e, p, g, a, ha, o, ho, hw⟩ := tail29 (C := evF T F (k + 1)) c 0 [x] (main29) ([]) b 1 0 rfl rfl rfl (.inr rfl) (.inl rfl) none (some x) none rfl τ1
  refine ⟨D, τ', w, b, by rw [t2]; exact e, p1.trans p, g, o, ho, .inl ⟨a, ha, (x, b), hm, hw, rfl⟩⟩
theorem way1 (c : Int) (τ : Sto) : ∃ D τ' w b, evS T (evF T F (k + 1)) (.cons S2 c29) [some (.int c), some (.int 1), none, none, none, none, some (.tup []), some (.tup main29), some (.tup []), some (.bl true), none, none, none] τ = .ok (.rt (.ref D)) τ' ∧ τ <+: τ' ∧ τ'[D]? = some (.lst [w, .bl b]) ∧ Tr w b := by
  obtain ⟨D1, τ1, x, b, e1, p1, g1, hm⟩ := r26 k (c / 5) τ
  have u : ∀ ρ is, putT τ1 is (.ref D1) ρ = putG (.tup is) (.tup [x, .bl b]) ρ := fun ρ is => putT_lst ρ _ g1
  have t2 : ∀ rest, evS T (evF T F (k + 1)) (.cons S2 rest) [some (.int c), some (.int 1), none, none, none, none, some (.tup []), some (.tup main29), some (.tup []), some (.bl true), none, none, none] τ = evS T (evF T F (k + 1)) rest [some (.int c), some (.int 1), none, none, none, none, some (.tup []), some (.tup main29), some (.tup [x]), some (.bl b), none, some x, none] τ1 := fun rest => by
    rw [evS_cons]
    generalize main29 = mm
    simp [e1, u, putG]
  obtain ⟨D, τ', w, e, p, g, a, ha, o, ho, hw⟩ := tail29 (C := evF T F (k + 1)) c 1 [] (main29) ([x]) b 0 1 rfl rfl rfl (.inl rfl) (.inr rfl) none (some x) none rfl τ1
  refine ⟨D, τ', w, b, by rw [t2]; exact e, p1.trans p, g, o, ho, .inr (.inl ⟨a, ha, (x, b), hm, hw, rfl⟩)⟩
theorem way2 (c : Int) (τ : Sto) : ∃ D τ' w b, evS T (evF T F (k + 1)) (.cons S2 c29) [some (.int c), some (.int 2), none, none, none, none, some (.tup []), some (.tup main29), some (.tup []), some (.bl true), none, none, none] τ = .ok (.rt (.ref D)) τ' ∧ τ <+: τ' ∧ τ'[D]? = some (.lst [w, .bl b]) ∧ Tr w b := by
  obtain ⟨D1, τ1, x, b, e1, p1, g1, hm⟩ := r27 k (c / 5) τ
  have u : ∀ ρ is, putT τ1 is (.ref D1) ρ = putG (.tup is) (.tup [x, .bl b]) ρ := fun ρ is => putT_lst ρ _ g1
  obtain ⟨ys, hys, hyl⟩ := all_tup (x, b) hm
  have hys' : x = .tup ys := hys
  subst hys'
  have hz : 4 + ys.length ≤ sizeLine := Nat.le_trans (show _ ≤ 14 by omega) (by decide)
  have t2 : ∀ rest, evS T (evF T F (k + 1)) (.cons S2 rest) [some (.int c), some (.int 2), none, none, none, none, some (.tup []), some (.tup main29), some (.tup []), some (.bl true), none, none, none] τ = evS T (evF T F (k + 1)) rest [some (.int c), some (.int 2), none, none, none, none, some (.tup []), some (.tup main29), some (.tup (fun29 (.tup ys))), some (.bl b), none, none, some (.tup ys)] τ1 := fun rest => by
    rw [evS_cons]
    generalize main29 = mm
    simp [e1, u, putG, fun29, hz]
  obtain ⟨D, τ', w, e, p, g, a, ha, o, ho, hw⟩ := tail29 (C := evF T F (k + 1)) c 2 [] (main29) (fun29 (.tup ys)) b 0 1 rfl rfl rfl (.inl rfl) (.inr rfl) none none (some (.tup ys)) rfl τ1
  refine ⟨D, τ', w, b, by rw [t2]; exact e, p1.trans p, g, o, ho, .inr (.inr (.inl ⟨a, ha, ((.tup ys), b), hm, hw, rfl⟩))⟩
theorem way3 (c : Int) (τ : Sto) : ∃ D τ' w b, evS T (evF T F (k + 1)) (.cons S2 c29) [some (.int c), some (.int 3), none, none, none, none, some (.tup []), some (.tup main29), some (.tup []), some (.bl true), none, none, none] τ = .ok (.rt (.ref D)) τ' ∧ τ <+: τ' ∧ τ'[D]? = some (.lst [w, .bl b]) ∧ Tr w b := by
  obtain ⟨D1, τ1, x, b, e1, p1, g1, hm⟩ := r28 k (c / 5) τ
  have u : ∀ ρ is, putT τ1 is (.ref D1) ρ = putG (.tup is) (.tup [x, .bl b]) ρ := fun ρ is => putT_lst ρ _ g1
  have t2 : ∀ rest, evS T (evF T F (k + 1)) (.cons S2 rest) [some (.int c), some (.int 3), none, none, none, none, some (.tup []), some (.tup main29), some (.tup []), some (.bl true), none, none, none] τ = evS T (evF T F (k + 1)) rest [some (.int c), some (.int 3), none, none, none, none, some (.tup []), some (.tup [x]), some (.tup []), some (.bl b), none, some x, none] τ1 := fun rest => by
    rw [evS_cons]
    generalize main29 = mm
    simp [e1, u, putG]
  obtain ⟨D, τ', w, e, p, g, a, ha, o, ho, hw⟩ := tail29 (C := evF T F (k + 1)) c 3 [] ([x]) ([]) b 0 0 rfl rfl rfl (.inl rfl) (.inl rfl) none (some x) none rfl τ1
  refine ⟨D, τ', w, b, by rw [t2]; exact e, p1.trans p, g, o, ho, .inr (.inr (.inr (.inl ⟨a, ha, (x, b), hm, hw, rfl⟩)))⟩
theorem r29 (c : Int) (τ : Sto) : ∃ D τ' w b, evF T F (k + 2) 29 [.int c] τ = .ok (.ref D) τ' ∧ τ <+: τ' ∧ τ'[D]? = some (.lst [w, .bl b]) ∧ Tr w b := by
  obtain ⟨τ1, s1, p1⟩ := start29 (k := k) c τ
  have hb : b29 = .cons S0 (.cons S1 (.cons S2 c29)) := rfl
  have run : evF T F (k + 2) 29 [.int c] τ = Mi.finish (evS T (evF T F (k + 1)) (.cons S2 c29) [some (.int c), some (.int (c % 5)), none, none, none, none, some (.tup []), some (.tup main29), some (.tup []), some (.bl true), none, none, none] τ1) := by
    rw [u29, hb, s1]
  have hc : c % 5 = 0 ∨ c % 5 = 1 ∨ c % 5 = 2 ∨ c % 5 = 3 ∨ c % 5 = 4 := by omega
  have fin : (∃ D τ' w b, evS T (evF T F (k + 1)) (.cons S2 c29) [some (.int c), some (.int (c % 5)), none, none, none, none, some (.tup []), some (.tup main29), some (.tup []), some (.bl true), none, none, none] τ1 = .ok (.rt (.ref D)) τ' ∧ τ1 <+: τ' ∧ τ'[D]? = some (.lst [w, .bl b]) ∧ Tr w b) → ∃ D τ' w b, evF T F (k + 2) 29 [.int c] τ = .ok (.ref D) τ' ∧ τ <+: τ' ∧ τ'[D]? = some (.lst [w, .bl b]) ∧ Tr w b := fun ⟨D, τ', w, b, e, p, g, ht⟩ => ⟨D, τ', w, b, by rw [run, e]; rfl, p1.trans p, g, ht⟩
  refine fin ?_
  rcases hc with h | h | h | h | h <;> rw [h]
  · exact way0 c τ1
  · exact way1 c τ1
  · exact way2 c τ1
  · exact way3 c τ1
  · obtain ⟨D, τ', w, e, p, g, ht⟩ := way4 (k := k) c τ1
    exact ⟨D, τ', w, false, e, p, g, ht⟩
end
/-! the trees, looked at -/
def thgB : Nat → Mi.W → Bool
  | _, .int _ => true
  | _, .str s => s.cps.toList.all (fun c => decide (c < 128)) && decide (s.length ≤ 10000)
  | n + 1, .tup xs => decide (xs.length ≤ 10000) && xs.all (thgB n)
  | _, _ => false
theorem thgB_ok : ∀ {n : Nat} {w : Mi.W}, thgB n w = true → Thg n w
  | n, .int _, _ => by cases n <;> trivial
  | n, .str s, h => by
    have h' : (s.cps.toList.all (fun c => decide (c < 128)) && decide (s.length ≤ 10000)) = true := by cases n <;> exact h
    rw [Bool.and_eq_true] at h'
    exact Thg.ofStr ⟨fun c hc => of_decide_eq_true (List.all_eq_true.mp h'.1 c hc), of_decide_eq_true h'.2⟩
  | n + 1, .tup xs, h => by
    have h' : (decide (xs.length ≤ 10000) && xs.all (thgB n)) = true := h
    rw [Bool.and_eq_true] at h'
    exact ⟨of_decide_eq_true h'.1, fun x hx => thgB_ok (List.all_eq_true.mp h'.2 x hx)⟩
  | 0, .tup _, h => by cases h
  | n, .non, h => by cases n <;> cases h
  | n, .bl _, h => by cases n <;> cases h
  | n, .ref _, h => by cases n <;> cases h
def okO (o : O3 Unit) (b : Bool) : Bool := match o, b with
  | .ok _, true => true
  | .bad, false => true
  | _, _ => false
def okW (w : Mi.W) (b : Bool) : Bool := thgB 8 w && okO (lookT 8 w) b
theorem chk25 : (prs rt25 wr25).all (fun p => [0, 1].all fun o => [0, 1, 2].all fun a => okW (mkT [p.1] (arr main29 [] a) o) p.2) = true := by decide +kernel
theorem chk26 : (prs rt26 wr26).all (fun p => [0, 1].all fun o => [0, 1, 2].all fun a => okW (mkT [] (arr main29 [p.1] a) o) p.2) = true := by decide +kernel
theorem chk27 : (prs rt27 wr27).all (fun p => [0, 1].all fun o => [0, 1, 2].all fun a => okW (mkT [] (arr main29 (fun29 p.1) a) o) p.2) = true := by decide +kernel
theorem chk28 : (prs rt28 wr28).all (fun p => [0, 1].all fun o => [0, 1, 2].all fun a => okW (mkT [] (arr [p.1] [] a) o) p.2) = true := by decide +kernel
theorem chk4 : ([0, 1].all fun o => [0, 1].all fun a => okW (mkT [] (ar4 main29 rs29 a) o) false) = true := by decide +kernel
theorem in3 {a : Nat} (h : a < 3) : a ∈ [0, 1, 2] := by
  match a, h with
  | 0, _ => decide
  | 1, _ => decide
  | 2, _ => decide
theorem in2 {a : Nat} (h : a < 2) : a ∈ [0, 1] := by
  match a, h with
  | 0, _ => decide
  | 1, _ => decide
theorem tr_ok {w : Mi.W} {b : Bool} (h : Tr w b) : Thg 8 w ∧ okO (lookT 8 w) b = true := by
  have key : okW w b = true → Thg 8 w ∧ okO (lookT 8 w) b = true := fun h => by
    unfold okW at h
    rw [Bool.and_eq_true] at h
    exact ⟨thgB_ok h.1, h.2⟩
  refine key ?_
  obtain ⟨o, ho, h⟩ := h
  have ho' := in2 ho
  rcases h with ⟨a, ha, p, hp, rfl, rfl⟩ | ⟨a, ha, p, hp, rfl, rfl⟩ | ⟨a, ha, p, hp, rfl, rfl⟩ | ⟨a, ha, p, hp, rfl, rfl⟩ | ⟨a, ha, rfl, rfl⟩
  · exact List.all_eq_true.mp (List.all_eq_true.mp (List.all_eq_true.mp chk25 p hp) o ho') a (in3 ha)
  · exact List.all_eq_true.mp (List.all_eq_true.mp (List.all_eq_true.mp chk26 p hp) o ho') a (in3 ha)
  · exact List.all_eq_true.mp (List.all_eq_true.mp (List.all_eq_true.mp chk27 p hp) o ho') a (in3 ha)
  · exact List.all_eq_true.mp (List.all_eq_true.mp (List.all_eq_true.mp chk28 p hp) o ho') a (in3 ha)
  · exact List.all_eq_true.mp (List.all_eq_true.mp chk4 o ho') a (in2 ha)
/-! the law -/
def depth : Nat := 60
theorem r5 (k : Nat) (n : Int) (ns : List Int) (τ : Sto) (h : τ[0]? = some (.frz ns)) (h0 : 0 ≤ n) (hb : n < 4096) : ∃ i, evF T F (k + 1) 20 [.ref 0, .int n] τ = .ok (.int i) τ := by
  rw [u20, b20, evS_cons, evS_ife]
  by_cases c : n < ns.length
  · obtain ⟨i, g⟩ : ∃ i, L2.atI (ns.map Mi.W.int) n = some (.int i) := by
      obtain ⟨m, rfl⟩ := Int.eq_ofNat_of_zero_le h0
      exact ⟨_, L2.atI_nat (by rw [List.getElem?_map, List.getElem?_eq_getElem (by omega)]; rfl)⟩
    refine ⟨i, ?_⟩
    simp only [ev_cmp_t, ev_cmp, ev_var, List.getElem?_cons_zero, List.getElem?_cons_succ, getV_some, R.bind_ok, ev_bi, ev_cons_a, ev_nil_a, len_frz h, cmp_lt, Option.map_some, lift_some, dT_ok, truth_bl, decide_eq_true c, if_true, evS_cons, evS_ret, ev_ix, item_frz h, g, seqR_rt, finish_rt]
  · have m1 : ∀ b : Int, Mi.binI .Mult 733 b = some (733 * b) := fun b => binI_mul_l (by decide) (by decide)
    have m2 : ∀ b : Int, Mi.binI .Mult b n = some (b * n) := fun b => binI_mul_r (by omega) (by omega)
    have m3 : ∀ b : Int, Mi.binI .Mult 2 b = some (2 * b) := fun b => binI_mul_l (by decide) (by decide)
    have m4 : ∀ a b : Int, Mi.binI .Mult (a % 99991) b = some (a % 99991 * b) := fun a b => binI_mul_l (by omega) (by omega)
    have m5 : ∀ a : Int, Mi.binI .Mod a 99991 = some (a % 99991) := fun a => binI_mod (by decide)
    by_cases z : (0 : Int) < ns.length
    · obtain ⟨i, g⟩ : ∃ i, L2.atI (ns.map Mi.W.int) (0 : Int) = some (.int i) := ⟨_, L2.atI_nat (j := 0) (by rw [List.getElem?_map, List.getElem?_eq_getElem (by omega)]; rfl)⟩
      simp only [ev_cmp_t, ev_cmp, ev_var, List.getElem?_cons_zero, List.getElem?_cons_succ, getV_some, R.bind_ok, ev_bi, ev_cons_a, ev_nil_a, len_frz h, cmp_lt, cmp_gt, Option.map_some, lift_some, dT_ok, truth_bl, decide_eq_false c, decide_eq_true z, if_true, Bool.false_eq_true, if_false, evS_cons, evS_nil, evS_set, evS_ife, evS_ret, ev_op, ev_con, ev_ix, item_frz h, g, seqR_rt, seqR_nx, finish_rt, binop_int, binI_add, m1, m2, m3, m4, m5, List.set_cons_zero, List.set_cons_succ]
      exact ⟨_, rfl⟩
    · simp only [ev_cmp_t, ev_cmp, ev_var, List.getElem?_cons_zero, List.getElem?_cons_succ, getV_some, R.bind_ok, ev_bi, ev_cons_a, ev_nil_a, len_frz h, cmp_lt, cmp_gt, Option.map_some, lift_some, dT_ok, truth_bl, decide_eq_false c, decide_eq_false z, if_true, Bool.false_eq_true, if_false, evS_cons, evS_nil, evS_set, evS_ife, evS_ret, ev_op, ev_con, ev_ix, seqR_rt, seqR_nx, finish_rt, binop_int, binI_add, m1, m2, m3, m4, m5, List.set_cons_zero, List.set_cons_succ]
      exact ⟨_, rfl⟩
def ans (b : Bool) : List Mi.W := if b = true then [] else [.str "NoTree"]
theorem eq_ans {τ : Sto} {n m : Nat} {b : Bool} (h1 : τ[n]? = some (.lst (ans b))) (h2 : τ[m]? = some (.lst (ans b))) : eqW τ (.ref n) (.ref m) = some true := by
  cases b with
  | true =>
    have h1' : τ[n]? = some (.lst []) := h1
    have h2' : τ[m]? = some (.lst []) := h2
    have e1 : toD τ 64 (.ref n) = some (.list []) := by
      show (match seqOf τ n with
        | some xs => (mapO (toD τ 63) xs).map PyData.list
        | none => none) = _
      rw [seq_lst h1']
      rfl
    have e2 : toD τ 64 (.ref m) = some (.list []) := by
      show (match seqOf τ m with
        | some xs => (mapO (toD τ 63) xs).map PyData.list
        | none => none) = _
      rw [seq_lst h2']
      rfl
    unfold eqW
    rw [e1, e2]
    decide +kernel
  | false =>
    have h1' : τ[n]? = some (.lst [.str "NoTree"]) := h1
    have h2' : τ[m]? = some (.lst [.str "NoTree"]) := h2
    have e1 : toD τ 64 (.ref n) = some (.list [.str "NoTree"]) := by
      show (match seqOf τ n with
        | some xs => (mapO (toD τ 63) xs).map PyData.list
        | none => none) = _
      rw [seq_lst h1']
      rfl
    have e2 : toD τ 64 (.ref m) = some (.list [.str "NoTree"]) := by
      show (match seqOf τ m with
        | some xs => (mapO (toD τ 63) xs).map PyData.list
        | none => none) = _
      rw [seq_lst h2']
      rfl
    unfold eqW
    rw [e1, e2]
    decide +kernel
theorem eqA_ans {τ : Sto} {n m : Nat} {b : Bool} (h1 : τ[n]? = some (.lst (ans b))) (h2 : τ[m]? = some (.lst (ans b))) : eqA τ (.ref n) (.ref m) = some true := by
  rw [eqA_ref, h1, h2, eqL_lst, eq_ans h1 h2]
theorem r24 (k : Nat) (w : Mi.W) (b : Bool) (hw : Thg 8 w) (hb : okO (lookT 8 w) b = true) (τ : Sto) : ∃ D τ', evF T F (k + 47) 24 [w] τ = .ok (.ref D) τ' ∧ τ <+: τ' ∧ τ'[D]? = some (.lst (ans b)) := by
  have z := z19 (k := k) (N := 8) (by decide) w hw (τ ++ [.lst []])
  cases ho : lookT 8 w with
  | stk => rw [ho] at hb; cases b <;> cases hb
  | bad =>
    rw [ho] at hb z
    cases b with
    | true => cases hb
    | false =>
      obtain ⟨ρ, τ', e, p⟩ := z
      have e' : evF T F (k + 46) 19 [w] (τ ++ [.lst []]) = .exn ⟨2, []⟩ ρ τ' := e
      refine ⟨τ'.length, τ' ++ [.lst [.str "NoTree"]], ?_, ((List.prefix_append _ _).trans p).trans (List.prefix_append _ _), at_end _ _⟩
      rw [u24, b24]
      simp [newL, e']
  | ok v =>
    rw [ho] at hb z
    cases b with
    | false => cases hb
    | true =>
      obtain ⟨τ', e, p⟩ := z
      have e' : evF T F (k + 46) 19 [w] (τ ++ [.lst []]) = .ok .non τ' := e
      refine ⟨τ.length, τ', ?_, (List.prefix_append _ _).trans p, pre_get p (at_end _ _)⟩
      rw [u24, b24]
      simp [newL, e']
/-- a number of the script -/
theorem turn30 (c : Int) (x0 x2 x3 : Option Mi.W) (τ : Sto) : ∃ y2 y3 τ', evS T (evF T F 59) l30_1 [x0, some (.int c), x2, x3] τ = .ok (.nx [x0, some (.int c), y2, y3]) τ' ∧ τ <+: τ' := by
  obtain ⟨D, τ1, w, b, e1, p1, g1, ht⟩ := r29 (k := 57) c τ
  have e1' : evF T F 59 29 [.int c] τ = .ok (.ref D) τ1 := e1
  obtain ⟨hw, ho⟩ := tr_ok ht
  obtain ⟨E, τ2, e2, p2, g2⟩ := r24 12 w b hw ho τ1
  have e2' : evF T F 59 24 [w] τ1 = .ok (.ref E) τ2 := e2
  have u : ∀ ρ is, putT τ1 is (.ref D) ρ = putG (.tup is) (.tup [w, .bl b]) ρ := fun ρ is => putT_lst ρ _ g1
  obtain ⟨τ3, hτ3⟩ : ∃ t, t = τ2 ++ [AO.lst [.str "NoTree"], .lst [], .lst [.ref τ2.length, .ref (τ2.length + 1)]] := ⟨_, rfl⟩
  have p3 : τ2 <+: τ3 := by rw [hτ3]; exact List.prefix_append _ _
  have hE : τ3[E]? = some (.lst (ans b)) := pre_get p3 g2
  have h0 : τ3[τ2.length]? = some (.lst (ans false)) := by rw [hτ3]; exact at_off0 _ _
  have h1 : τ3[τ2.length + 1]? = some (.lst (ans true)) := by rw [hτ3]; exact at_off _ _ 1
  have h2 : τ3[τ2.length + 2]? = some (.lst [.ref τ2.length, .ref (τ2.length + 1)]) := by rw [hτ3]; exact at_off _ _ 2
  have ai0 : L2.atI [W.ref τ2.length, W.ref (τ2.length + 1)] 0 = some (W.ref τ2.length) := rfl
  have ai1 : L2.atI [W.ref τ2.length, W.ref (τ2.length + 1)] 1 = some (W.ref (τ2.length + 1)) := rfl
  refine ⟨some w, some (.bl b), τ3, ?_, p1.trans (p2.trans p3)⟩
  unfold l30_1
  cases b with
  | true =>
    have hq : eqA τ3 (.ref E) (.ref (τ2.length + 1)) = some true := eqA_ans hE h1
    simp [e1', u, putG, e2', newL, Nat.add_assoc]
    rw [← hτ3]
    simp [item_ref, h2, ai1, hq]
  | false =>
    have hq : eqA τ3 (.ref E) (.ref τ2.length) = some true := eqA_ans hE h0
    simp [e1', u, putG, e2', newL, Nat.add_assoc]
    rw [← hτ3]
    simp [item_ref, h2, ai0, hq]
theorem lw (ns : List Int) (hl : ns.length ≤ 63) : ∃ τ, evF T F depth 30 [.ref 0] [.frz ns] = .ok (.bl true) τ := by
  have hz0 : ([AO.frz ns] : Sto)[0]? = some (.frz ns) := rfl
  obtain ⟨c0, f0⟩ := r5 58 0 ns [.frz ns] hz0 (by decide) (by decide)
  obtain ⟨c1, f1⟩ := r5 58 1 ns [.frz ns] hz0 (by decide) (by decide)
  have f0' : evF T F 59 20 [.ref 0, .int 0] [.frz ns] = .ok (.int c0) [.frz ns] := f0
  have f1' : evF T F 59 20 [.ref 0, .int 1] [.frz ns] = .ok (.int c1) [.frz ns] := f1
  have hcut : ∀ x ∈ cut (ns.map W.int) (some 2) (some 16), ∃ i : Int, x = .int i := fun x hx => by
    obtain ⟨i, _, rfl⟩ := List.mem_map.mp (cut_mem hx)
    exact ⟨i, rfl⟩
  have hcl : (cut (ns.map W.int) (some 2) (some 16)).length ≤ 63 := Nat.le_trans (cut_len _ _ _) (by rw [List.length_map]; exact hl)
  have hadd : 1 + 1 + (cut (ns.map W.int) (some 2) (some 16)).length ≤ sizeLine := Nat.le_trans (show _ ≤ 66 by omega) (by decide)
  have hadd2 : 2 + (cut (ns.map W.int) (some 2) (some 16)).length ≤ sizeLine := Nat.le_trans (show _ ≤ 66 by omega) (by decide)
  generalize hcs : cut (ns.map W.int) (some 2) (some 16) = cs at *
  obtain ⟨s2, hs2⟩ : ∃ t : Sto, t = [AO.frz ns, .lst [.int c0, .int c1], .lst cs, .lst (W.int c0 :: W.int c1 :: cs)] := ⟨_, rfl⟩
  have hgs : ∀ t : Sto, s2 <+: t → It.ok [(3, W.int c0 :: W.int c1 :: cs)] t := fun t p => pre_ok p (fun q hq => by
    cases List.mem_singleton.mp hq
    rw [hs2]
    exact seq_lst rfl)
  obtain ⟨ρ', s3, e7, ⟨y1, y2, y3, rfl⟩, p7⟩ := forL_inv (g := .name 1) (gs := [(3, W.int c0 :: W.int c1 :: cs)]) (body := evS T (evF T F 59) l30_1) (Inv := fun ρ t => (∃ y1 y2 y3, ρ = [some (.ref 0), y1, y2, y3]) ∧ s2 <+: t)
    (fun ρ t h => hgs t h.2) (W.int c0 :: W.int c1 :: cs) (fun x hx ρ t ⟨⟨y1, y2, y3, e⟩, p⟩ => by
      subst e
      obtain ⟨i, rfl⟩ : ∃ i : Int, x = .int i := by
        rcases List.mem_cons.mp hx with z | z
        · exact ⟨c0, z⟩
        · rcases List.mem_cons.mp z with z | z
          · exact ⟨c1, z⟩
          · exact hcut x z
      obtain ⟨z2, z3, t', g1, g2⟩ := turn30 i (some (.ref 0)) y2 y3 t
      exact ⟨_, rfl, _, t', g1, ⟨some (.int i), z2, z3, rfl⟩, p.trans g2⟩) [some (.ref 0), none, none, none] s2 ⟨⟨none, none, none, rfl⟩, List.prefix_refl _⟩
  refine ⟨s3, ?_⟩
  rw [depth, u30, b30, evS_cons, evS_loop]
  have hit : (ev T (evF T F 59) (.seq (.op .Add (.lst (.cons (.call 20 (.cons (.var 0) (.cons (.con (.int 0)) .nil))) (.cons (.call 20 (.cons (.var 0) (.cons (.con (.int 1)) .nil))) .nil))) (.slice (.var 0) (.con (.int 2)) (.con (.int 16)))))).i [some (.ref 0), none, none, none] [.frz ns] = .ok ⟨[(3, W.int c0 :: W.int c1 :: cs)], W.int c0 :: W.int c1 :: cs⟩ s2 := by
    rw [hs2]
    simp [f0', f1', newL, slice_ref, hcs, add_ref, hadd, hadd2, seqI_eq]
  rw [hit, R.bind_ok, e7, seqR_nx]
  simp
theorem run_law : ∀ ns : List Int, ns.length ≤ 63 → (∀ z ∈ ns, Builtin.Int.intBits z ≤ 1048576) → ∃ τ, evF T F depth 30 [.ref 0] [.frz ns] = .ok (.bl true) τ := fun ns hl _ => lw ns hl
end L_k08

namespace L_k08
open PySem PySem.Spec PyProof.Rows L2 Mi
def topS (i : Nat) : Stmt := PySem.Challenge.pw_passpapers_k08_heads_and_ends.main.body.getD i (.Pass ⟨0, 0, 0, 0⟩)
abbrev s0 : Stmt := topS 12 -- is_name(thing, strange, sign)
abbrev s1 : Stmt := topS 13 -- is_number(thing)
abbrev s2 : Stmt := topS 14 -- want(truth)
abbrev s3 : Stmt := topS 15 -- want_form(thing, head, fewest, most)
abbrev s4 : Stmt := topS 16 -- want_unlike(names, at, name)
abbrev s5 : Stmt := inClass (topS 17) 0 -- __init__(self, records, functions)
abbrev s6 : Stmt := inClass (topS 17) 1 -- is_kind(self, thing)
abbrev s7 : Stmt := inClass (topS 17) 2 -- begin(self, function, variables, name, kind)
abbrev s8 : Stmt := inClass (topS 17) 3 -- kind_of(self, thing)
abbrev s9 : Stmt := inClass (topS 17) 4 -- want_kinds(self, things, kinds, thing, kind)
abbrev s10 : Stmt := inClass (topS 17) 5 -- kind_of_deed(self, thing, head, kind, kinds, given)
abbrev s11 : Stmt := inClass (topS 17) 6 -- want_field(self, thing, field, kind)
abbrev s12 : Stmt := inClass (topS 17) 7 -- look_at_part(self, statements, outer, ends, statement)
abbrev s13 : Stmt := inClass (topS 17) 8 -- look_at_statement(self, statement, head, first)
abbrev s14 : Stmt := inClass (topS 17) 9 -- look_at_variable(self, head, name, kind)
abbrev s15 : Stmt := inClass (topS 17) 10 -- look_at_deed(self, head, things, kinds)
abbrev s16 : Stmt := topS 18 -- kinds_of_sum(head, told)
abbrev s17 : Stmt := topS 19 -- look_at_records(things, records, thing)
abbrev s18 : Stmt := topS 20 -- look_at_heads(records, things, look, thing, kinds, kind)
abbrev s19 : Stmt := topS 21 -- look_at_tree(thing, heads, many, records, functions, look, function, kinds, given, one, head, kind)
abbrev s20 : Stmt := topS 23 -- _law_cell(_law_script, _law_k, _law_spare)
abbrev s24 : Stmt := topS 27 -- _law_refused(_law_tree_here, _law_kinds_here, _law_e)
abbrev s25 : Stmt := topS 28 -- _law_records(_law_cell_here, _law_wrong, _law_right)
abbrev s26 : Stmt := topS 29 -- _law_functions(_law_cell_here, _law_end, _law_wrong, _law_five, _law_word, _law_right)
abbrev s27 : Stmt := topS 30 -- _law_ends(_law_cell_here, _law_give, _law_both, _law_wrong, _law_right)
abbrev s28 : Stmt := topS 31 -- _law_mains(_law_cell_here, _law_give, _law_wrong, _law_right)
abbrev s29 : Stmt := topS 32 -- _law_tree(_law_cell_here, _law_way, _law_plain, _law_functions_here, _law_other, _law_records_here, _law_record, _law_main, _law_more, _law_fine, _law_at, _law_one, _law_some)
abbrev s30 : Stmt := topS 33 -- law(_law_script, _law_cell_here, _law_tree_here, _law_fine)
abbrev n0 : List Str := ["thing", "strange", "sign"]
theorem sc0 : FnScope n0 ["thing"] (defScope s0) := ⟨rfl, rfl, rfl, by decide +kernel, rfl, by decide +kernel, by decide +kernel⟩
abbrev n1 : List Str := ["thing"]
theorem sc1 : FnScope n1 ["thing"] (defScope s1) := ⟨rfl, rfl, rfl, by decide +kernel, rfl, by decide +kernel, by decide +kernel⟩
abbrev n2 : List Str := ["truth"]
theorem sc2 : FnScope n2 ["truth"] (defScope s2) := ⟨rfl, rfl, rfl, by decide +kernel, rfl, by decide +kernel, by decide +kernel⟩
abbrev n3 : List Str := ["thing", "head", "fewest", "most"]
theorem sc3 : FnScope n3 ["thing", "head", "fewest", "most"] (defScope s3) := ⟨rfl, rfl, rfl, by decide +kernel, rfl, by decide +kernel, by decide +kernel⟩
abbrev n4 : List Str := ["names", "at", "name"]
theorem sc4 : FnScope n4 ["names"] (defScope s4) := ⟨rfl, rfl, rfl, by decide +kernel, rfl, by decide +kernel, by decide +kernel⟩
abbrev n5 : List Str := ["self", "records", "functions"]
theorem sc5 : FnScope n5 ["self", "records", "functions"] (defScope s5) := ⟨rfl, rfl, rfl, by decide +kernel, rfl, by decide +kernel, by decide +kernel⟩
abbrev n6 : List Str := ["self", "thing"]
theorem sc6 : FnScope n6 ["self", "thing"] (defScope s6) := ⟨rfl, rfl, rfl, by decide +kernel, rfl, by decide +kernel, by decide +kernel⟩
abbrev n7 : List Str := ["self", "function", "variables", "name", "kind"]
theorem sc7 : FnScope n7 ["self", "function"] (defScope s7) := ⟨rfl, rfl, rfl, by decide +kernel, rfl, by decide +kernel, by decide +kernel⟩
abbrev n8 : List Str := ["self", "thing"]
theorem sc8 : FnScope n8 ["self", "thing"] (defScope s8) := ⟨rfl, rfl, rfl, by decide +kernel, rfl, by decide +kernel, by decide +kernel⟩
abbrev n9 : List Str := ["self", "things", "kinds", "thing", "kind"]
theorem sc9 : FnScope n9 ["self", "things", "kinds"] (defScope s9) := ⟨rfl, rfl, rfl, by decide +kernel, rfl, by decide +kernel, by decide +kernel⟩
abbrev n10 : List Str := ["self", "thing", "head", "kind", "kinds", "given"]
theorem sc10 : FnScope n10 ["self", "thing"] (defScope s10) := ⟨rfl, rfl, rfl, by decide +kernel, rfl, by decide +kernel, by decide +kernel⟩
abbrev n11 : List Str := ["self", "thing", "field", "kind"]
theorem sc11 : FnScope n11 ["self", "thing", "field"] (defScope s11) := ⟨rfl, rfl, rfl, by decide +kernel, rfl, by decide +kernel, by decide +kernel⟩
abbrev n12 : List Str := ["self", "statements", "outer", "ends", "statement"]
theorem sc12 : FnScope n12 ["self", "statements"] (defScope s12) := ⟨rfl, rfl, rfl, by decide +kernel, rfl, by decide +kernel, by decide +kernel⟩
abbrev n13 : List Str := ["self", "statement", "head", "first"]
theorem sc13 : FnScope n13 ["self", "statement"] (defScope s13) := ⟨rfl, rfl, rfl, by decide +kernel, rfl, by decide +kernel, by decide +kernel⟩
abbrev n14 : List Str := ["self", "head", "name", "kind"]
theorem sc14 : FnScope n14 ["self", "head", "name", "kind"] (defScope s14) := ⟨rfl, rfl, rfl, by decide +kernel, rfl, by decide +kernel, by decide +kernel⟩
abbrev n15 : List Str := ["self", "head", "things", "kinds"]
theorem sc15 : FnScope n15 ["self", "head", "things"] (defScope s15) := ⟨rfl, rfl, rfl, by decide +kernel, rfl, by decide +kernel, by decide +kernel⟩
abbrev n16 : List Str := ["head", "told"]
theorem sc16 : FnScope n16 ["head"] (defScope s16) := ⟨rfl, rfl, rfl, by decide +kernel, rfl, by decide +kernel, by decide +kernel⟩
abbrev n17 : List Str := ["things", "records", "thing"]
theorem sc17 : FnScope n17 ["things"] (defScope s17) := ⟨rfl, rfl, rfl, by decide +kernel, rfl, by decide +kernel, by decide +kernel⟩
abbrev n18 : List Str := ["records", "things", "look", "thing", "kinds", "kind"]
theorem sc18 : FnScope n18 ["records", "things"] (defScope s18) := ⟨rfl, rfl, rfl, by decide +kernel, rfl, by decide +kernel, by decide +kernel⟩
abbrev n19 : List Str := ["thing", "heads", "many", "records", "functions", "look", "function", "kinds", "given", "one", "head", "kind"]
theorem sc19 : FnScope n19 ["thing"] (defScope s19) := ⟨rfl, rfl, rfl, by decide +kernel, rfl, by decide +kernel, by decide +kernel⟩
abbrev n20 : List Str := ["_law_script", "_law_k", "_law_spare"]
theorem sc20 : FnScope n20 ["_law_script", "_law_k"] (defScope s20) := ⟨rfl, rfl, rfl, by decide +kernel, rfl, by decide +kernel, by decide +kernel⟩
abbrev n24 : List Str := ["_law_tree_here", "_law_kinds_here", "_law_e"]
theorem sc24 : FnScope n24 ["_law_tree_here"] (defScope s24) := ⟨rfl, rfl, rfl, by decide +kernel, rfl, by decide +kernel, by decide +kernel⟩
abbrev n25 : List Str := ["_law_cell_here", "_law_wrong", "_law_right"]
theorem sc25 : FnScope n25 ["_law_cell_here"] (defScope s25) := ⟨rfl, rfl, rfl, by decide +kernel, rfl, by decide +kernel, by decide +kernel⟩
abbrev n26 : List Str := ["_law_cell_here", "_law_end", "_law_wrong", "_law_five", "_law_word", "_law_right"]
theorem sc26 : FnScope n26 ["_law_cell_here"] (defScope s26) := ⟨rfl, rfl, rfl, by decide +kernel, rfl, by decide +kernel, by decide +kernel⟩
abbrev n27 : List Str := ["_law_cell_here", "_law_give", "_law_both", "_law_wrong", "_law_right"]
theorem sc27 : FnScope n27 ["_law_cell_here"] (defScope s27) := ⟨rfl, rfl, rfl, by decide +kernel, rfl, by decide +kernel, by decide +kernel⟩
abbrev n28 : List Str := ["_law_cell_here", "_law_give", "_law_wrong", "_law_right"]
theorem sc28 : FnScope n28 ["_law_cell_here"] (defScope s28) := ⟨rfl, rfl, rfl, by decide +kernel, rfl, by decide +kernel, by decide +kernel⟩
abbrev n29 : List Str := ["_law_cell_here", "_law_way", "_law_plain", "_law_functions_here", "_law_other", "_law_records_here", "_law_record", "_law_main", "_law_more", "_law_fine", "_law_at", "_law_one", "_law_some"]
theorem sc29 : FnScope n29 ["_law_cell_here"] (defScope s29) := ⟨rfl, rfl, rfl, by decide +kernel, rfl, by decide +kernel, by decide +kernel⟩
abbrev n30 : List Str := ["_law_script", "_law_cell_here", "_law_tree_here", "_law_fine"]
theorem sc30 : FnScope n30 ["_law_script"] (defScope s30) := ⟨rfl, rfl, rfl, by decide +kernel, rfl, by decide +kernel, by decide +kernel⟩
abbrev fnT : List (Str × Nat) := [("is_name", 0), ("is_number", 1), ("want", 2), ("want_form", 3), ("want_unlike", 4), ("kinds_of_sum", 16), ("look_at_records", 17), ("look_at_heads", 18), ("look_at_tree", 19), ("_law_cell", 20), ("_law_refused", 24), ("_law_records", 25), ("_law_functions", 26), ("_law_ends", 27), ("_law_mains", 28), ("_law_tree", 29), ("law", 30)]
abbrev conT : List (Str × W) := [("LEAST", (.int (-32768))), ("MOST", (.int 32767)), ("LETTERS", (.str ("abcdefghijklmnopqrstuvwxyz" : Str))), ("MOST_FIELDS", (.int 4))]
abbrev biT : List Str := ["bool", "dict", "enumerate", "int", "isinstance", "len", "list", "max", "range", "str", "tuple", "zip"]
abbrev xcT : List (Str × Nat) := [("NoTree", 2)]
abbrev clT : List (Str × Nat) := [("KindLook", 0)]
abbrev tcT : List (Str × Nat) := [("PassError", 0)]
abbrev kfT : List Str := ["_law_kinds"]
def G : Gt := ⟨look fnT, look clT, look conT, fun x => decide (x ∈ biT), look xcT, look tcT, fun x => decide (x ∈ kfT)⟩
abbrev s23 : Stmt := topS 26
theorem sck : FnScope ["_law_e", "_law_some"] ["_law_e"] (defScope s23) := ⟨rfl, rfl, rfl, by decide +kernel, rfl, by decide +kernel, by decide +kernel⟩
theorem ck0 : (chkS G ⟨n0, defScope s0, (defScope s0).names⟩ b0).b (defBody s0) = true := by decide +kernel
theorem ck1 : (chkS G ⟨n1, defScope s1, (defScope s1).names⟩ b1).b (defBody s1) = true := by decide +kernel
theorem ck2 : (chkS G ⟨n2, defScope s2, (defScope s2).names⟩ b2).b (defBody s2) = true := by decide +kernel
theorem ck3 : (chkS G ⟨n3, defScope s3, (defScope s3).names⟩ b3).b (defBody s3) = true := by decide +kernel
theorem ck4 : (chkS G ⟨n4, defScope s4, (defScope s4).names⟩ b4).b (defBody s4) = true := by decide +kernel
theorem ck5 : (chkS G ⟨n5, defScope s5, (defScope s5).names⟩ b5).b (defBody s5) = true := by decide +kernel
theorem ck6 : (chkS G ⟨n6, defScope s6, (defScope s6).names⟩ b6).b (defBody s6) = true := by decide +kernel
theorem ck7 : (chkS G ⟨n7, defScope s7, (defScope s7).names⟩ b7).b (defBody s7) = true := by decide +kernel
theorem ck8 : (chkS G ⟨n8, defScope s8, (defScope s8).names⟩ b8).b (defBody s8) = true := by decide +kernel
theorem ck9 : (chkS G ⟨n9, defScope s9, (defScope s9).names⟩ b9).b (defBody s9) = true := by decide +kernel
theorem ck10 : (chkS G ⟨n10, defScope s10, (defScope s10).names⟩ b10).b (defBody s10) = true := by decide +kernel
theorem ck11 : (chkS G ⟨n11, defScope s11, (defScope s11).names⟩ b11).b (defBody s11) = true := by decide +kernel
theorem ck12 : (chkS G ⟨n12, defScope s12, (defScope s12).names⟩ b12).b (defBody s12) = true := by decide +kernel
theorem ck13 : (chkS G ⟨n13, defScope s13, (defScope s13).names⟩ b13).b (defBody s13) = true := by decide +kernel
theorem ck14 : (chkS G ⟨n14, defScope s14, (defScope s14).names⟩ b14).b (defBody s14) = true := by decide +kernel
theorem ck15 : (chkS G ⟨n15, defScope s15, (defScope s15).names⟩ b15).b (defBody s15) = true := by decide +kernel
theorem ck16 : (chkS G ⟨n16, defScope s16, (defScope s16).names⟩ b16).b (defBody s16) = true := by decide +kernel
theorem ck17 : (chkS G ⟨n17, defScope s17, (defScope s17).names⟩ b17).b (defBody s17) = true := by decide +kernel
theorem ck18 : (chkS G ⟨n18, defScope s18, (defScope s18).names⟩ b18).b (defBody s18) = true := by decide +kernel
theorem ck19 : (chkS G ⟨n19, defScope s19, (defScope s19).names⟩ b19).b (defBody s19) = true := by decide +kernel
theorem ck20 : (chkS G ⟨n20, defScope s20, (defScope s20).names⟩ b20).b (defBody s20) = true := by decide +kernel
theorem ck24 : (chkS G ⟨n24, defScope s24, (defScope s24).names⟩ b24).b (defBody s24) = true := by decide +kernel
theorem ck25 : (chkS G ⟨n25, defScope s25, (defScope s25).names⟩ b25).b (defBody s25) = true := by decide +kernel
theorem ck26 : (chkS G ⟨n26, defScope s26, (defScope s26).names⟩ b26).b (defBody s26) = true := by decide +kernel
theorem ck27 : (chkS G ⟨n27, defScope s27, (defScope s27).names⟩ b27).b (defBody s27) = true := by decide +kernel
theorem ck28 : (chkS G ⟨n28, defScope s28, (defScope s28).names⟩ b28).b (defBody s28) = true := by decide +kernel
theorem ck29 : (chkS G ⟨n29, defScope s29, (defScope s29).names⟩ b29).b (defBody s29) = true := by decide +kernel
theorem ck30 : (chkS G ⟨n30, defScope s30, (defScope s30).names⟩ b30).b (defBody s30) = true := by decide +kernel
theorem all_mk {l : PySem.W.OpenLaw} {w : World} {K : PySem.W.Frag} {h : Heap} {mg : Str → Option Value} {fa : Addr} (n : Nat) (X : K.In h) (Gm : h.Ns mainGlobals mg) (hfa : mg "law" = some (.ref fa))
    {C0 : Addr} (cn0 : PySem.W.nsIn K mainGlobals "KindLook" = some (some (.ref C0))) (cl0 : Cls K C0) (mk0 : PySem.W.makesIn K C0 = true) (kc0 : PySem.W.keepIn K (.ref C0) = true)
    (na0_0 : PySem.W.findIn K (.ref C0) "functions" = some none)
    (na0_1 : PySem.W.findIn K (.ref C0) "given" = some none)
    (na0_2 : PySem.W.findIn K (.ref C0) "lets" = some none)
    (na0_3 : PySem.W.findIn K (.ref C0) "records" = some none)
    (na0_4 : PySem.W.findIn K (.ref C0) "seen" = some none)
    {f0 : Addr} (m0 : PySem.W.nsIn K mainGlobals "is_name" = some (some (.ref f0))) (a0 : FnAt K "is_name" "is_name" s0 f0)
    {f1 : Addr} (m1 : PySem.W.nsIn K mainGlobals "is_number" = some (some (.ref f1))) (a1 : FnAt K "is_number" "is_number" s1 f1)
    {f2 : Addr} (m2 : PySem.W.nsIn K mainGlobals "want" = some (some (.ref f2))) (a2 : FnAt K "want" "want" s2 f2)
    {f3 : Addr} (m3 : PySem.W.nsIn K mainGlobals "want_form" = some (some (.ref f3))) (a3 : FnAt K "want_form" "want_form" s3 f3)
    {f4 : Addr} (m4 : PySem.W.nsIn K mainGlobals "want_unlike" = some (some (.ref f4))) (a4 : FnAt K "want_unlike" "want_unlike" s4 f4)
    {f5 : Addr} (m5 : PySem.W.findIn K (.ref C0) "__init__" = some (some (.ref f5))) (i5 : PySem.W.isFn K (.ref f5) = true) (a5 : FnAt K "__init__" "KindLook.__init__" s5 f5)
    {f6 : Addr} (m6 : PySem.W.findIn K (.ref C0) "is_kind" = some (some (.ref f6))) (i6 : PySem.W.isFn K (.ref f6) = true) (a6 : FnAt K "is_kind" "KindLook.is_kind" s6 f6)
    {f7 : Addr} (m7 : PySem.W.findIn K (.ref C0) "begin" = some (some (.ref f7))) (i7 : PySem.W.isFn K (.ref f7) = true) (a7 : FnAt K "begin" "KindLook.begin" s7 f7)
    {f8 : Addr} (m8 : PySem.W.findIn K (.ref C0) "kind_of" = some (some (.ref f8))) (i8 : PySem.W.isFn K (.ref f8) = true) (a8 : FnAt K "kind_of" "KindLook.kind_of" s8 f8)
    {f9 : Addr} (m9 : PySem.W.findIn K (.ref C0) "want_kinds" = some (some (.ref f9))) (i9 : PySem.W.isFn K (.ref f9) = true) (a9 : FnAt K "want_kinds" "KindLook.want_kinds" s9 f9)
    {f10 : Addr} (m10 : PySem.W.findIn K (.ref C0) "kind_of_deed" = some (some (.ref f10))) (i10 : PySem.W.isFn K (.ref f10) = true) (a10 : FnAt K "kind_of_deed" "KindLook.kind_of_deed" s10 f10)
    {f11 : Addr} (m11 : PySem.W.findIn K (.ref C0) "want_field" = some (some (.ref f11))) (i11 : PySem.W.isFn K (.ref f11) = true) (a11 : FnAt K "want_field" "KindLook.want_field" s11 f11)
    {f12 : Addr} (m12 : PySem.W.findIn K (.ref C0) "look_at_part" = some (some (.ref f12))) (i12 : PySem.W.isFn K (.ref f12) = true) (a12 : FnAt K "look_at_part" "KindLook.look_at_part" s12 f12)
    {f13 : Addr} (m13 : PySem.W.findIn K (.ref C0) "look_at_statement" = some (some (.ref f13))) (i13 : PySem.W.isFn K (.ref f13) = true) (a13 : FnAt K "look_at_statement" "KindLook.look_at_statement" s13 f13)
    {f14 : Addr} (m14 : PySem.W.findIn K (.ref C0) "look_at_variable" = some (some (.ref f14))) (i14 : PySem.W.isFn K (.ref f14) = true) (a14 : FnAt K "look_at_variable" "KindLook.look_at_variable" s14 f14)
    {f15 : Addr} (m15 : PySem.W.findIn K (.ref C0) "look_at_deed" = some (some (.ref f15))) (i15 : PySem.W.isFn K (.ref f15) = true) (a15 : FnAt K "look_at_deed" "KindLook.look_at_deed" s15 f15)
    {f16 : Addr} (m16 : PySem.W.nsIn K mainGlobals "kinds_of_sum" = some (some (.ref f16))) (a16 : FnAt K "kinds_of_sum" "kinds_of_sum" s16 f16)
    {f17 : Addr} (m17 : PySem.W.nsIn K mainGlobals "look_at_records" = some (some (.ref f17))) (a17 : FnAt K "look_at_records" "look_at_records" s17 f17)
    {f18 : Addr} (m18 : PySem.W.nsIn K mainGlobals "look_at_heads" = some (some (.ref f18))) (a18 : FnAt K "look_at_heads" "look_at_heads" s18 f18)
    {f19 : Addr} (m19 : PySem.W.nsIn K mainGlobals "look_at_tree" = some (some (.ref f19))) (a19 : FnAt K "look_at_tree" "look_at_tree" s19 f19)
    {f20 : Addr} (m20 : PySem.W.nsIn K mainGlobals "_law_cell" = some (some (.ref f20))) (a20 : FnAt K "_law_cell" "_law_cell" s20 f20)
    {f24 : Addr} (m24 : PySem.W.nsIn K mainGlobals "_law_refused" = some (some (.ref f24))) (a24 : FnAt K "_law_refused" "_law_refused" s24 f24)
    {f25 : Addr} (m25 : PySem.W.nsIn K mainGlobals "_law_records" = some (some (.ref f25))) (a25 : FnAt K "_law_records" "_law_records" s25 f25)
    {f26 : Addr} (m26 : PySem.W.nsIn K mainGlobals "_law_functions" = some (some (.ref f26))) (a26 : FnAt K "_law_functions" "_law_functions" s26 f26)
    {f27 : Addr} (m27 : PySem.W.nsIn K mainGlobals "_law_ends" = some (some (.ref f27))) (a27 : FnAt K "_law_ends" "_law_ends" s27 f27)
    {f28 : Addr} (m28 : PySem.W.nsIn K mainGlobals "_law_mains" = some (some (.ref f28))) (a28 : FnAt K "_law_mains" "_law_mains" s28 f28)
    {f29 : Addr} (m29 : PySem.W.nsIn K mainGlobals "_law_tree" = some (some (.ref f29))) (a29 : FnAt K "_law_tree" "_law_tree" s29 f29)
    {f30 : Addr} (m30 : PySem.W.nsIn K mainGlobals "law" = some (some (.ref f30))) (a30 : FnAt K "law" "law" s30 f30)
    {c0 : Value} (k0 : PySem.W.nsIn K mainGlobals "LEAST" = some (some c0)) (q0 : ∃ v, RelV v c0 ∧ ∀ μ H, RV K μ H (.int (-32768)) v)
    {c1 : Value} (k1 : PySem.W.nsIn K mainGlobals "MOST" = some (some c1)) (q1 : ∃ v, RelV v c1 ∧ ∀ μ H, RV K μ H (.int 32767) v)
    {c2 : Value} (k2 : PySem.W.nsIn K mainGlobals "LETTERS" = some (some c2)) (q2 : ∃ v, RelV v c2 ∧ ∀ μ H, RV K μ H (.str ("abcdefghijklmnopqrstuvwxyz" : Str)) v)
    {c3 : Value} (k3 : PySem.W.nsIn K mainGlobals "MOST_FIELDS" = some (some c3)) (q3 : ∃ v, RelV v c3 ∧ ∀ μ H, RV K μ H (.int 4) v)
    (z0 : PySem.W.nsIn K mainGlobals "bool" = some none)
    (z1 : PySem.W.nsIn K mainGlobals "dict" = some none)
    (z2 : PySem.W.nsIn K mainGlobals "enumerate" = some none)
    (z3 : PySem.W.nsIn K mainGlobals "int" = some none)
    (z4 : PySem.W.nsIn K mainGlobals "isinstance" = some none)
    (z5 : PySem.W.nsIn K mainGlobals "len" = some none)
    (z6 : PySem.W.nsIn K mainGlobals "list" = some none)
    (z7 : PySem.W.nsIn K mainGlobals "max" = some none)
    (z8 : PySem.W.nsIn K mainGlobals "range" = some none)
    (z9 : PySem.W.nsIn K mainGlobals "str" = some none)
    (z10 : PySem.W.nsIn K mainGlobals "tuple" = some none)
    (z11 : PySem.W.nsIn K mainGlobals "zip" = some none)
    {x0 : Addr} (xm0 : PySem.W.nsIn K mainGlobals "NoTree" = some (some (.ref x0))) (xk0 : PySem.W.keepIn K (.ref x0) = true) (xe0 : PySem.W.excIn K x0 [.type "ValueError", .type "Exception", .type "BaseException", .type "object"] "ValueError.__new__" = true) (xs0 : PySem.W.subIn K (.ref x0) (.type "BaseException") = some true) (xt0 : PySem.W.typeIn K (.ref x0) = some (.type "type"))
    {f23 : Addr} (m23 : PySem.W.nsIn K mainGlobals "_law_kinds" = some (some (.ref f23))) (a23 : FnAt K "_law_kinds" "_law_kinds" s23 f23)
    (zv : PySem.W.nsIn K mainGlobals "ValueError" = some none) (zi : PySem.W.nsIn K mainGlobals "isinstance" = some none)
    {kNoMachine : Addr} (nNoMachine : PySem.W.nsIn K mainGlobals "NoMachine" = some (some (.ref kNoMachine)))
    {kNoMiddle : Addr} (nNoMiddle : PySem.W.nsIn K mainGlobals "NoMiddle" = some (some (.ref kNoMiddle)))
    {kNoPass : Addr} (nNoPass : PySem.W.nsIn K mainGlobals "NoPass" = some (some (.ref kNoPass)))
    {kNoText : Addr} (nNoText : PySem.W.nsIn K mainGlobals "NoText" = some (some (.ref kNoText)))
    {kNoTree : Addr} (nNoTree : PySem.W.nsIn K mainGlobals "NoTree" = some (some (.ref kNoTree)))
    (hn : PySem.W.specialIn K (.builtin "object.__class__") "__get__" = some (some (.builtin "getset_descriptor.__get__"))) (ht : PySem.W.takesIn K (.builtin "object.__class__") = some true)
    (ga0 : PySem.W.findIn K (.ref x0) "__getattribute__" = some (some (.builtin "BaseException.__getattribute__"))) (gt0 : PySem.W.findIn K (.ref x0) "__getattr__" = some none) (xh0 : PySem.W.hasDictIn K x0 = true) (hc0 : PySem.W.findIn K (.ref x0) "__class__" = some (some (.builtin "object.__class__"))) (hm0 : PySem.W.mroIn K x0 (.type "object") = some true)
    (su0NoMachine : PySem.W.subIn K (.ref x0) (.ref kNoMachine) = some false)
    (ne0NoMachine : (Value.ref x0 == Value.ref kNoMachine) = false)
    (su0NoMiddle : PySem.W.subIn K (.ref x0) (.ref kNoMiddle) = some false)
    (ne0NoMiddle : (Value.ref x0 == Value.ref kNoMiddle) = false)
    (su0NoPass : PySem.W.subIn K (.ref x0) (.ref kNoPass) = some false)
    (ne0NoPass : (Value.ref x0 == Value.ref kNoPass) = false)
    (su0NoText : PySem.W.subIn K (.ref x0) (.ref kNoText) = some false)
    (ne0NoText : (Value.ref x0 == Value.ref kNoText) = false)
    (su0NoTree : PySem.W.subIn K (.ref x0) (.ref kNoTree) = some true)
    (iv0 : PySem.W.subIn K (.ref x0) (.type "ValueError") = some true)
    (hdNoMachine : PySem.W.hasDictIn K kNoMachine = true) (tyNoMachine : PySem.W.typeIn K (.ref kNoMachine) = some (.type "type"))
    (hdNoMiddle : PySem.W.hasDictIn K kNoMiddle = true) (tyNoMiddle : PySem.W.typeIn K (.ref kNoMiddle) = some (.type "type"))
    (hdNoPass : PySem.W.hasDictIn K kNoPass = true) (tyNoPass : PySem.W.typeIn K (.ref kNoPass) = some (.type "type"))
    (hdNoText : PySem.W.hasDictIn K kNoText = true) (tyNoText : PySem.W.typeIn K (.ref kNoText) = some (.type "type"))
    (hdNoTree : PySem.W.hasDictIn K kNoTree = true) (tyNoTree : PySem.W.typeIn K (.ref kNoTree) = some (.type "type"))
    {y0 : Addr} (ym0 : PySem.W.nsIn K mainGlobals "PassError" = some (some (.ref y0))) (yb0 : PySem.W.subIn K (.ref y0) (.type "BaseException") = some true) (yd0 : PySem.W.hasDictIn K y0 = true) (yt0 : PySem.W.typeIn K (.ref y0) = some (.type "type"))
    (ys0_0 : PySem.W.subIn K (.ref x0) (.ref y0) = some true)
    (run : ∀ ns : List Int, ns.length ≤ 63 → (∀ z ∈ ns, Builtin.Int.intBits z ≤ 1048576) → ∃ τ, evF T F n 30 [.ref 0] [.frz ns] = .ok (.bl true) τ)
    : LamX.LawAtS l w K (L2N.CX l.prog w) (2 * n) 63 "_law_script" mg fa h := by
  obtain rfl : f30 = fa := by
    have e := (PySem.W.mg_of X Gm m30).symm.trans hfa
    cases e; rfl
  have d0 : DefOk G K ⟨1, 3, b0⟩ f0 := defOk_of (N := n0) a0 (fun _ _ _ _ _ _ us hl => match us, hl with | [_], _ => rfl) sc0 rfl rfl ck0
  have d1 : DefOk G K ⟨1, 1, b1⟩ f1 := defOk_of (N := n1) a1 (fun _ _ _ _ _ _ us hl => match us, hl with | [_], _ => rfl) sc1 rfl rfl ck1
  have d2 : DefOk G K ⟨1, 1, b2⟩ f2 := defOk_of (N := n2) a2 (fun _ _ _ _ _ _ us hl => match us, hl with | [_], _ => rfl) sc2 rfl rfl ck2
  have d3 : DefOk G K ⟨4, 4, b3⟩ f3 := defOk_of (N := n3) a3 (fun _ _ _ _ _ _ us hl => match us, hl with | [_, _, _, _], _ => rfl) sc3 rfl rfl ck3
  have d4 : DefOk G K ⟨1, 3, b4⟩ f4 := defOk_of (N := n4) a4 (fun _ _ _ _ _ _ us hl => match us, hl with | [_], _ => rfl) sc4 rfl rfl ck4
  have d5 : DefOk G K ⟨3, 3, b5⟩ f5 := defOk_of (N := n5) a5 (fun _ _ _ _ _ _ us hl => match us, hl with | [_, _, _], _ => rfl) sc5 rfl rfl ck5
  have d6 : DefOk G K ⟨2, 2, b6⟩ f6 := defOk_of (N := n6) a6 (fun _ _ _ _ _ _ us hl => match us, hl with | [_, _], _ => rfl) sc6 rfl rfl ck6
  have d7 : DefOk G K ⟨2, 5, b7⟩ f7 := defOk_of (N := n7) a7 (fun _ _ _ _ _ _ us hl => match us, hl with | [_, _], _ => rfl) sc7 rfl rfl ck7
  have d8 : DefOk G K ⟨2, 2, b8⟩ f8 := defOk_of (N := n8) a8 (fun _ _ _ _ _ _ us hl => match us, hl with | [_, _], _ => rfl) sc8 rfl rfl ck8
  have d9 : DefOk G K ⟨3, 5, b9⟩ f9 := defOk_of (N := n9) a9 (fun _ _ _ _ _ _ us hl => match us, hl with | [_, _, _], _ => rfl) sc9 rfl rfl ck9
  have d10 : DefOk G K ⟨2, 6, b10⟩ f10 := defOk_of (N := n10) a10 (fun _ _ _ _ _ _ us hl => match us, hl with | [_, _], _ => rfl) sc10 rfl rfl ck10
  have d11 : DefOk G K ⟨3, 4, b11⟩ f11 := defOk_of (N := n11) a11 (fun _ _ _ _ _ _ us hl => match us, hl with | [_, _, _], _ => rfl) sc11 rfl rfl ck11
  have d12 : DefOk G K ⟨2, 5, b12⟩ f12 := defOk_of (N := n12) a12 (fun _ _ _ _ _ _ us hl => match us, hl with | [_, _], _ => rfl) sc12 rfl rfl ck12
  have d13 : DefOk G K ⟨2, 4, b13⟩ f13 := defOk_of (N := n13) a13 (fun _ _ _ _ _ _ us hl => match us, hl with | [_, _], _ => rfl) sc13 rfl rfl ck13
  have d14 : DefOk G K ⟨4, 4, b14⟩ f14 := defOk_of (N := n14) a14 (fun _ _ _ _ _ _ us hl => match us, hl with | [_, _, _, _], _ => rfl) sc14 rfl rfl ck14
  have d15 : DefOk G K ⟨3, 4, b15⟩ f15 := defOk_of (N := n15) a15 (fun _ _ _ _ _ _ us hl => match us, hl with | [_, _, _], _ => rfl) sc15 rfl rfl ck15
  have d16 : DefOk G K ⟨1, 2, b16⟩ f16 := defOk_of (N := n16) a16 (fun _ _ _ _ _ _ us hl => match us, hl with | [_], _ => rfl) sc16 rfl rfl ck16
  have d17 : DefOk G K ⟨1, 3, b17⟩ f17 := defOk_of (N := n17) a17 (fun _ _ _ _ _ _ us hl => match us, hl with | [_], _ => rfl) sc17 rfl rfl ck17
  have d18 : DefOk G K ⟨2, 6, b18⟩ f18 := defOk_of (N := n18) a18 (fun _ _ _ _ _ _ us hl => match us, hl with | [_, _], _ => rfl) sc18 rfl rfl ck18
  have d19 : DefOk G K ⟨1, 12, b19⟩ f19 := defOk_of (N := n19) a19 (fun _ _ _ _ _ _ us hl => match us, hl with | [_], _ => rfl) sc19 rfl rfl ck19
  have d20 : DefOk G K ⟨2, 3, b20⟩ f20 := defOk_of (N := n20) a20 (fun _ _ _ _ _ _ us hl => match us, hl with | [_, _], _ => rfl) sc20 rfl rfl ck20
  have d24 : DefOk G K ⟨1, 3, b24⟩ f24 := defOk_of (N := n24) a24 (fun _ _ _ _ _ _ us hl => match us, hl with | [_], _ => rfl) sc24 rfl rfl ck24
  have d25 : DefOk G K ⟨1, 3, b25⟩ f25 := defOk_of (N := n25) a25 (fun _ _ _ _ _ _ us hl => match us, hl with | [_], _ => rfl) sc25 rfl rfl ck25
  have d26 : DefOk G K ⟨1, 6, b26⟩ f26 := defOk_of (N := n26) a26 (fun _ _ _ _ _ _ us hl => match us, hl with | [_], _ => rfl) sc26 rfl rfl ck26
  have d27 : DefOk G K ⟨1, 5, b27⟩ f27 := defOk_of (N := n27) a27 (fun _ _ _ _ _ _ us hl => match us, hl with | [_], _ => rfl) sc27 rfl rfl ck27
  have d28 : DefOk G K ⟨1, 4, b28⟩ f28 := defOk_of (N := n28) a28 (fun _ _ _ _ _ _ us hl => match us, hl with | [_], _ => rfl) sc28 rfl rfl ck28
  have d29 : DefOk G K ⟨1, 13, b29⟩ f29 := defOk_of (N := n29) a29 (fun _ _ _ _ _ _ us hl => match us, hl with | [_], _ => rfl) sc29 rfl rfl ck29
  have d30 : DefOk G K ⟨1, 4, b30⟩ f30 := defOk_of (N := n30) a30 (fun _ _ _ _ _ _ us hl => match us, hl with | [_], _ => rfl) sc30 rfl rfl ck30
  let B : Bs := ⟨K, fun c => if c = 0 then C0 else 0, fun c => if c = 2 then x0 else if c = 0 then y0 else 0⟩
  have L : Lay G T F B mg := by
    refine ⟨fun x f e => ?_, fun x u e _ => ?_, fun x e => ?_, fun x c e => ?_, fun c m f e => ?_, fun c f e => ?_, fun x c e => ?_, fun x c e => ?_, fun x e => ?_⟩
    · have hm := look_mem (l := fnT) e
      simp only [List.mem_cons, List.not_mem_nil, or_false, Prod.mk.injEq] at hm
      rcases hm with ⟨rfl, rfl⟩ | ⟨rfl, rfl⟩ | ⟨rfl, rfl⟩ | ⟨rfl, rfl⟩ | ⟨rfl, rfl⟩ | ⟨rfl, rfl⟩ | ⟨rfl, rfl⟩ | ⟨rfl, rfl⟩ | ⟨rfl, rfl⟩ | ⟨rfl, rfl⟩ | ⟨rfl, rfl⟩ | ⟨rfl, rfl⟩ | ⟨rfl, rfl⟩ | ⟨rfl, rfl⟩ | ⟨rfl, rfl⟩ | ⟨rfl, rfl⟩ | ⟨rfl, rfl⟩
      · exact ⟨_, _, PySem.W.mg_of X Gm m0, rfl, d0⟩
      · exact ⟨_, _, PySem.W.mg_of X Gm m1, rfl, d1⟩
      · exact ⟨_, _, PySem.W.mg_of X Gm m2, rfl, d2⟩
      · exact ⟨_, _, PySem.W.mg_of X Gm m3, rfl, d3⟩
      · exact ⟨_, _, PySem.W.mg_of X Gm m4, rfl, d4⟩
      · exact ⟨_, _, PySem.W.mg_of X Gm m16, rfl, d16⟩
      · exact ⟨_, _, PySem.W.mg_of X Gm m17, rfl, d17⟩
      · exact ⟨_, _, PySem.W.mg_of X Gm m18, rfl, d18⟩
      · exact ⟨_, _, PySem.W.mg_of X Gm m19, rfl, d19⟩
      · exact ⟨_, _, PySem.W.mg_of X Gm m20, rfl, d20⟩
      · exact ⟨_, _, PySem.W.mg_of X Gm m24, rfl, d24⟩
      · exact ⟨_, _, PySem.W.mg_of X Gm m25, rfl, d25⟩
      · exact ⟨_, _, PySem.W.mg_of X Gm m26, rfl, d26⟩
      · exact ⟨_, _, PySem.W.mg_of X Gm m27, rfl, d27⟩
      · exact ⟨_, _, PySem.W.mg_of X Gm m28, rfl, d28⟩
      · exact ⟨_, _, PySem.W.mg_of X Gm m29, rfl, d29⟩
      · exact ⟨_, _, PySem.W.mg_of X Gm m30, rfl, d30⟩
    · have hm := look_mem (l := conT) (x := x) e
      simp only [List.mem_cons, List.not_mem_nil, or_false, Prod.mk.injEq] at hm
      rcases hm with ⟨rfl, rfl⟩ | ⟨rfl, rfl⟩ | ⟨rfl, rfl⟩ | ⟨rfl, rfl⟩
      · obtain ⟨v, h1, h2⟩ := q0; exact ⟨v, _, PySem.W.mg_of X Gm k0, h1, h2⟩
      · obtain ⟨v, h1, h2⟩ := q1; exact ⟨v, _, PySem.W.mg_of X Gm k1, h1, h2⟩
      · obtain ⟨v, h1, h2⟩ := q2; exact ⟨v, _, PySem.W.mg_of X Gm k2, h1, h2⟩
      · obtain ⟨v, h1, h2⟩ := q3; exact ⟨v, _, PySem.W.mg_of X Gm k3, h1, h2⟩
    · have hm : x ∈ biT := of_decide_eq_true e
      simp only [List.mem_cons, List.not_mem_nil, or_false] at hm
      rcases hm with rfl | rfl | rfl | rfl | rfl | rfl | rfl | rfl | rfl | rfl | rfl | rfl
      · exact PySem.W.mg_none_of X Gm z0
      · exact PySem.W.mg_none_of X Gm z1
      · exact PySem.W.mg_none_of X Gm z2
      · exact PySem.W.mg_none_of X Gm z3
      · exact PySem.W.mg_none_of X Gm z4
      · exact PySem.W.mg_none_of X Gm z5
      · exact PySem.W.mg_none_of X Gm z6
      · exact PySem.W.mg_none_of X Gm z7
      · exact PySem.W.mg_none_of X Gm z8
      · exact PySem.W.mg_none_of X Gm z9
      · exact PySem.W.mg_none_of X Gm z10
      · exact PySem.W.mg_none_of X Gm z11
    · have hm := look_mem (l := clT) (x := x) e
      simp only [List.mem_cons, List.not_mem_nil, or_false, Prod.mk.injEq] at hm
      rcases hm with ⟨rfl, rfl⟩
      · exact ⟨PySem.W.mg_of X Gm cn0, kc0⟩
    · have hm := Mi.find_mem (l := mT) (c := c) (m := m) e
      simp only [mT, List.mem_cons, List.not_mem_nil, or_false, Prod.mk.injEq] at hm
      rcases hm with ⟨⟨rfl, rfl⟩, rfl⟩ | ⟨⟨rfl, rfl⟩, rfl⟩ | ⟨⟨rfl, rfl⟩, rfl⟩ | ⟨⟨rfl, rfl⟩, rfl⟩ | ⟨⟨rfl, rfl⟩, rfl⟩ | ⟨⟨rfl, rfl⟩, rfl⟩ | ⟨⟨rfl, rfl⟩, rfl⟩ | ⟨⟨rfl, rfl⟩, rfl⟩ | ⟨⟨rfl, rfl⟩, rfl⟩ | ⟨⟨rfl, rfl⟩, rfl⟩ | ⟨⟨rfl, rfl⟩, rfl⟩
      · exact ⟨_, _, cl0, ⟨m5, i5, a5.kp⟩, mk0, kc0, rfl, d5⟩
      · exact ⟨_, _, cl0, ⟨m6, i6, a6.kp⟩, mk0, kc0, rfl, d6⟩
      · exact ⟨_, _, cl0, ⟨m7, i7, a7.kp⟩, mk0, kc0, rfl, d7⟩
      · exact ⟨_, _, cl0, ⟨m8, i8, a8.kp⟩, mk0, kc0, rfl, d8⟩
      · exact ⟨_, _, cl0, ⟨m9, i9, a9.kp⟩, mk0, kc0, rfl, d9⟩
      · exact ⟨_, _, cl0, ⟨m10, i10, a10.kp⟩, mk0, kc0, rfl, d10⟩
      · exact ⟨_, _, cl0, ⟨m11, i11, a11.kp⟩, mk0, kc0, rfl, d11⟩
      · exact ⟨_, _, cl0, ⟨m12, i12, a12.kp⟩, mk0, kc0, rfl, d12⟩
      · exact ⟨_, _, cl0, ⟨m13, i13, a13.kp⟩, mk0, kc0, rfl, d13⟩
      · exact ⟨_, _, cl0, ⟨m14, i14, a14.kp⟩, mk0, kc0, rfl, d14⟩
      · exact ⟨_, _, cl0, ⟨m15, i15, a15.kp⟩, mk0, kc0, rfl, d15⟩
    · have hm : (c, f) ∈ aT := of_decide_eq_true e
      simp only [aT, List.mem_cons, List.not_mem_nil, or_false, Prod.mk.injEq] at hm
      rcases hm with ⟨rfl, rfl⟩ | ⟨rfl, rfl⟩ | ⟨rfl, rfl⟩ | ⟨rfl, rfl⟩ | ⟨rfl, rfl⟩
      · exact ⟨cl0, na0_0⟩
      · exact ⟨cl0, na0_1⟩
      · exact ⟨cl0, na0_2⟩
      · exact ⟨cl0, na0_3⟩
      · exact ⟨cl0, na0_4⟩
    · have hm := look_mem (l := xcT) (x := x) e
      simp only [List.mem_cons, List.not_mem_nil, or_false, Prod.mk.injEq] at hm
      rcases hm with ⟨rfl, rfl⟩
      · exact ⟨PySem.W.mg_of X Gm xm0, xk0, ⟨_, _, _, _, PySem.F.excBase_ValueError, xe0⟩, xs0, xt0⟩
    · have hm := look_mem (l := tcT) (x := x) e
      simp only [List.mem_cons, List.not_mem_nil, or_false, Prod.mk.injEq] at hm
      rcases hm with ⟨rfl, rfl⟩
      · refine ⟨PySem.W.mg_of X Gm ym0, fun c2 hr => ?_⟩
        have hm2 : c2 ∈ rsT := of_decide_eq_true hr
        simp only [rsT, List.mem_cons, List.not_mem_nil, or_false] at hm2
        rcases hm2 with rfl
        · exact PySem.W.exm_ref yb0 yd0 yt0 ys0_0
    · have hm : x ∈ kfT := of_decide_eq_true e
      simp only [List.mem_cons, List.not_mem_nil, or_false] at hm
      subst hm
      obtain ⟨fd, h1, h2⟩ := kf_of (T := T) (B := B) (mg := mg) a23 (fun _ _ _ _ _ _ us hl => match us, hl with | [_], _ => rfl) sck (by decide +kernel) (by decide +kernel) (by decide +kernel) (by decide +kernel) (by decide +kernel) (by decide +kernel) (PySem.W.mg_none_of X Gm zi) (PySem.W.mg_none_of X Gm zv) (PySem.W.mg_of X Gm nNoMachine) (PySem.W.mg_of X Gm nNoMiddle) (PySem.W.mg_of X Gm nNoPass) (PySem.W.mg_of X Gm nNoText) (PySem.W.mg_of X Gm nNoTree) (fun c hr => by
        have hm2 : c ∈ rsT := of_decide_eq_true hr
        simp only [rsT, List.mem_cons, List.not_mem_nil, or_false] at hm2
        rcases hm2 with rfl
        · exact ⟨⟨ga0, gt0, xs0, xh0, hc0, hn, ht, hm0⟩, kitAny3 (kitOne_ref hdNoMachine tyNoMachine su0NoMachine (fun _ => ne0NoMachine)) (kitOne_ref hdNoMiddle tyNoMiddle su0NoMiddle (fun _ => ne0NoMiddle)) (kitOne_ref hdNoPass tyNoPass su0NoPass (fun _ => ne0NoPass)), ⟨_, _, (kitOne_ref hdNoText tyNoText su0NoText (fun _ => ne0NoText)), (kitOne_ref hdNoTree tyNoTree su0NoTree (fun q => nomatch q)), rfl⟩, kitOne_ty iv0⟩)
      exact ⟨_, fd, _, PySem.W.mg_of X Gm m23, a23.kp, h1, h2⟩
  obtain ⟨fd, hb, hF⟩ := (law_end (B := B) (d := ⟨1, 4, b30⟩) (n := n) (f := 30) L rfl a30 (fun _ _ _ _ _ _ us hl => match us, hl with | [_], _ => rfl) sc30 rfl rfl ck30 : ∃ fd : FuncData, (∀ (s : Shared) (u : Value), BindsTo s fd ⟨[u], []⟩ [("_law_script", u)]) ∧ ∀ base : Heap, B.K.In base → base.Ns mainGlobals mg → FnOk l.prog w B.K mg base (L2N.CX l.prog w) (2 * n) _ fd ["_law_script"] (spF (evF T F n) B 30 1))
  exact ⟨fd, [], _, fun p hp => (nomatch hp), fun p hp => (nomatch hp), fun p hp => (nomatch hp), hb, fun H a ns hl hz _ s => law_sp (B := B) (f := 30) (P := fun ns => ns.length ≤ 63 ∧ ∀ z ∈ ns, Builtin.Int.intBits z ≤ 1048576) (fun ns hp => run ns hp.1 hp.2) H a ns ⟨hl, hz⟩ s, fun base h1 h2 _ => hF base h1 h2⟩
end L_k08
open PySem PySem.W PyProof.Rows
set_option maxHeartbeats 0 in
theorem PySem.Challenge.cw_passpapers_k08_heads_and_ends_holds : PySem.Challenge.rw_passpapers_k08_heads_and_ends.Holds := by
  w_on; o_law; k_head; (case hw => w_witness2)
  k_fill
  refine LamX.walk_ofTs (l := PySem.Challenge.rw_passpapers_k08_heads_and_ends) (n := 63) (k := 2 * L_k08.depth) (x := "_law_script") (CX := fun w => L2N.CX PySem.Challenge.rw_passpapers_k08_heads_and_ends.prog w) rfl (by decide) rfl ⟨rfl, by decide, by decide⟩ (fun w h Y => PySem.W.kIn_of Y) ?F (fun w H s e s' h => Mi.law_cx _ w H s e s' h)
  case F =>
    intro w mg fa h _ KX G hmg
    refine' L_k08.all_mk L_k08.depth KX G hmg ?cn0 ⟨?pg0, ?hd0, ?po0, ?sa0⟩ ?mk0 ?kc0 ?na0_0 ?na0_1 ?na0_2 ?na0_3 ?na0_4 ?m0 (Mi.fnAt ?l0 ?c0 ?p0) ?m1 (Mi.fnAt ?l1 ?c1 ?p1) ?m2 (Mi.fnAt ?l2 ?c2 ?p2) ?m3 (Mi.fnAt ?l3 ?c3 ?p3) ?m4 (Mi.fnAt ?l4 ?c4 ?p4) ?m5 ?i5 (Mi.fnAt ?l5 ?c5 ?p5) ?m6 ?i6 (Mi.fnAt ?l6 ?c6 ?p6) ?m7 ?i7 (Mi.fnAt ?l7 ?c7 ?p7) ?m8 ?i8 (Mi.fnAt ?l8 ?c8 ?p8) ?m9 ?i9 (Mi.fnAt ?l9 ?c9 ?p9) ?m10 ?i10 (Mi.fnAt ?l10 ?c10 ?p10) ?m11 ?i11 (Mi.fnAt ?l11 ?c11 ?p11) ?m12 ?i12 (Mi.fnAt ?l12 ?c12 ?p12) ?m13 ?i13 (Mi.fnAt ?l13 ?c13 ?p13) ?m14 ?i14 (Mi.fnAt ?l14 ?c14 ?p14) ?m15 ?i15 (Mi.fnAt ?l15 ?c15 ?p15) ?m16 (Mi.fnAt ?l16 ?c16 ?p16) ?m17 (Mi.fnAt ?l17 ?c17 ?p17) ?m18 (Mi.fnAt ?l18 ?c18 ?p18) ?m19 (Mi.fnAt ?l19 ?c19 ?p19) ?m20 (Mi.fnAt ?l20 ?c20 ?p20) ?m24 (Mi.fnAt ?l24 ?c24 ?p24) ?m25 (Mi.fnAt ?l25 ?c25 ?p25) ?m26 (Mi.fnAt ?l26 ?c26 ?p26) ?m27 (Mi.fnAt ?l27 ?c27 ?p27) ?m28 (Mi.fnAt ?l28 ?c28 ?p28) ?m29 (Mi.fnAt ?l29 ?c29 ?p29) ?m30 (Mi.fnAt ?l30 ?c30 ?p30) ?k0 ?q0 ?k1 ?q1 ?k2 ?q2 ?k3 ?q3 ?z0 ?z1 ?z2 ?z3 ?z4 ?z5 ?z6 ?z7 ?z8 ?z9 ?z10 ?z11 ?xm0 ?xk0 ?xe0 ?xs0 ?xt0 ?m23 (Mi.fnAt ?l23 ?c23 ?p23) ?zv ?zi ?nNoMachine ?nNoMiddle ?nNoPass ?nNoText ?nNoTree ?hn ?ht ?ga0 ?gt0 ?xh0 ?hc0 ?hm0 ?su0NoMachine ?ne0NoMachine ?su0NoMiddle ?ne0NoMiddle ?su0NoPass ?ne0NoPass ?su0NoText ?ne0NoText ?su0NoTree ?iv0 ?hdNoMachine ?tyNoMachine ?hdNoMiddle ?tyNoMiddle ?hdNoPass ?tyNoPass ?hdNoText ?tyNoText ?hdNoTree ?tyNoTree ?ym0 ?yb0 ?yd0 ?yt0 ?ys0_0 L_k08.run_law
    (case cn0 => k_is); (case pg0 => k_is); (case hd0 => k_is); (case po0 => k_is); (case sa0 => k_is); (case mk0 => k_is); (case kc0 => k_is); (case na0_0 => k_is); (case na0_1 => k_is); (case na0_2 => k_is); (case na0_3 => k_is); (case na0_4 => k_is); (case m0 => k_is); (case l0 => k_is); (case c0 => k_is); (case p0 => k_is); (case m1 => k_is); (case l1 => k_is); (case c1 => k_is); (case p1 => k_is); (case m2 => k_is); (case l2 => k_is); (case c2 => k_is); (case p2 => k_is); (case m3 => k_is); (case l3 => k_is); (case c3 => k_is); (case p3 => k_is); (case m4 => k_is); (case l4 => k_is); (case c4 => k_is); (case p4 => k_is); (case m5 => k_is); (case i5 => k_is); (case l5 => k_is); (case c5 => k_is); (case p5 => k_is); (case m6 => k_is); (case i6 => k_is); (case l6 => k_is); (case c6 => k_is); (case p6 => k_is); (case m7 => k_is); (case i7 => k_is); (case l7 => k_is); (case c7 => k_is); (case p7 => k_is); (case m8 => k_is); (case i8 => k_is); (case l8 => k_is); (case c8 => k_is); (case p8 => k_is); (case m9 => k_is); (case i9 => k_is); (case l9 => k_is); (case c9 => k_is); (case p9 => k_is); (case m10 => k_is); (case i10 => k_is); (case l10 => k_is); (case c10 => k_is); (case p10 => k_is); (case m11 => k_is); (case i11 => k_is); (case l11 => k_is); (case c11 => k_is); (case p11 => k_is); (case m12 => k_is); (case i12 => k_is); (case l12 => k_is); (case c12 => k_is); (case p12 => k_is); (case m13 => k_is); (case i13 => k_is); (case l13 => k_is); (case c13 => k_is); (case p13 => k_is); (case m14 => k_is); (case i14 => k_is); (case l14 => k_is); (case c14 => k_is); (case p14 => k_is); (case m15 => k_is); (case i15 => k_is); (case l15 => k_is); (case c15 => k_is); (case p15 => k_is); (case m16 => k_is); (case l16 => k_is); (case c16 => k_is); (case p16 => k_is); (case m17 => k_is); (case l17 => k_is); (case c17 => k_is); (case p17 => k_is); (case m18 => k_is); (case l18 => k_is); (case c18 => k_is); (case p18 => k_is); (case m19 => k_is); (case l19 => k_is); (case c19 => k_is); (case p19 => k_is); (case m20 => k_is); (case l20 => k_is); (case c20 => k_is); (case p20 => k_is); (case m24 => k_is); (case l24 => k_is); (case c24 => k_is); (case p24 => k_is); (case m25 => k_is); (case l25 => k_is); (case c25 => k_is); (case p25 => k_is); (case m26 => k_is); (case l26 => k_is); (case c26 => k_is); (case p26 => k_is); (case m27 => k_is); (case l27 => k_is); (case c27 => k_is); (case p27 => k_is); (case m28 => k_is); (case l28 => k_is); (case c28 => k_is); (case p28 => k_is); (case m29 => k_is); (case l29 => k_is); (case c29 => k_is); (case p29 => k_is); (case m30 => k_is); (case l30 => k_is); (case c30 => k_is); (case p30 => k_is); (case k0 => k_is); (case q0 => exact ⟨.int _, ⟨_, rfl⟩, fun _ _ => .int _⟩); (case k1 => k_is); (case q1 => exact ⟨.int _, ⟨_, rfl⟩, fun _ _ => .int _⟩); (case k2 => k_is); (case q2 => exact ⟨.str _, ⟨_, rfl⟩, fun _ _ => .str _⟩); (case k3 => k_is); (case q3 => exact ⟨.int _, ⟨_, rfl⟩, fun _ _ => .int _⟩); (case z0 => k_is); (case z1 => k_is); (case z2 => k_is); (case z3 => k_is); (case z4 => k_is); (case z5 => k_is); (case z6 => k_is); (case z7 => k_is); (case z8 => k_is); (case z9 => k_is); (case z10 => k_is); (case z11 => k_is); (case xm0 => k_is); (case xk0 => k_is); (case xe0 => k_exc); (case xs0 => k_is); (case xt0 => k_is); (case m23 => k_is); (case l23 => k_is); (case c23 => k_is); (case p23 => k_is); (case zv => k_is); (case zi => k_is); (case nNoMachine => k_is); (case nNoMiddle => k_is); (case nNoPass => k_is); (case nNoText => k_is); (case nNoTree => k_is); (case hn => k_is); (case ht => k_is); (case ga0 => k_is); (case gt0 => k_is); (case xh0 => k_is); (case hc0 => k_is); (case hm0 => k_is); (case su0NoMachine => k_is); (case ne0NoMachine => decide +kernel); (case su0NoMiddle => k_is); (case ne0NoMiddle => decide +kernel); (case su0NoPass => k_is); (case ne0NoPass => decide +kernel); (case su0NoText => k_is); (case ne0NoText => decide +kernel); (case su0NoTree => k_is); (case iv0 => k_is); (case hdNoMachine => k_is); (case tyNoMachine => k_is); (case hdNoMiddle => k_is); (case tyNoMiddle => k_is); (case hdNoPass => k_is); (case tyNoPass => k_is); (case hdNoText => k_is); (case tyNoText => k_is); (case hdNoTree => k_is); (case tyNoTree => k_is); (case ym0 => k_is); (case yb0 => k_is); (case yd0 => k_is); (case yt0 => k_is); (case ys0_0 => k_is)

