import PyProof.Rows.All
import Wide.All
import OpenK.AllK
import Wide.FinOn
import PySem.Challenge.RW_nt0440_01
set_option Elab.async false
set_option linter.all false

/-! text M1 -/
section
set_option bootstrap.genMatcherCode false
set_option backward.match.sparseCases false
open PySem
set_option genSizeOf false
set_option genInjectivity false
namespace Mine

/-- values of the mini language -/
inductive V where
  | none
  | bool (b : Bool)
  | int (i : Int)
  | str (x : Str)
  | bytes (b : List UInt8)
  | tuple (l : List V)
  | list (l : List V)

inductive Exc where
  | san
  | epd (at_ : Int)
  | book (at_ : Int)

inductive R (α : Type) where
  | stuck
  | exc (x : Exc)
  | ok (a : α)

namespace R
noncomputable def bind {α β : Type} : R α → (α → R β) → R β
  | stuck, _ => stuck
  | exc x, _ => exc x
  | ok a, f => f a
noncomputable def ofOpt {α : Type} : Option α → R α
  | some a => ok a
  | .none => stuck
@[simp] theorem bind_ok {α β : Type} (a : α) (f : α → R β) : (ok a).bind f = f a := rfl
@[simp] theorem bind_exc {α β : Type} (x : Exc) (f : α → R β) : (exc x : R α).bind f = exc x := rfl
@[simp] theorem bind_stuck {α β : Type} (f : α → R β) : (stuck : R α).bind f = stuck := rfl
@[simp] theorem ofOpt_some {α : Type} (a : α) : ofOpt (some a) = ok a := rfl
@[simp] theorem ofOpt_none {α : Type} : ofOpt (.none : Option α) = stuck := rfl
end R

inductive Op where
  | add | sub | mul | fdiv | mod | pow | shl | shr | band | bor

inductive E where
  | const (v : V)
  | glob (v : V)
  | var (i : Nat)
  | bin (o : Op) (a b : E)
  | neg (a : E)
  | cmp (o : CmpOp) (a b : E)
  | cmp2 (o p : CmpOp) (a b c : E)
  | bop (isAnd : Bool) (es : List E)
  | not (a : E)
  | ite (c a b : E)
  | idx (a i : E)
  | slice (a : E) (lo hi : Option E)
  | tup (es : List E)
  | lst (es : List E)
  | call (f : Nat) (args : List E)
  | len (a : E)
  | min2 (a b : E)
  | max1 (a : E)
  | sorted (a : E)
  | toList (a : E)
  | toBytes (a : E)
  | find (a b : E)
  | comp (elt iter : E) (nt : Nat) (tupled : Bool) (cond : Option E) (free : List Nat)
  | inDict (i : Nat) (a b : E)
  | getDict (i : Nat) (a b : E)

inductive Tgt where
  | one (i : Nat)
  | many (is : List Nat)

inductive S where
  | assign (i : Nat) (e : E)
  | assignComp (i : Nat) (e : E)
  | assignOwn (i : Nat) (es : List E)
  | assignDict (i : Nat)
  | assignTup (is : List Nat) (e : E)
  | aug (i : Nat) (o : Op) (e : E)
  | append (i : Nat) (e : E)
  | setIdx (i : Nat) (k e : E)
  | setDict (i : Nat) (a b e : E)
  | forR (i : Nat) (args : List E) (body : List S)
  | forV (t : Tgt) (it : E) (body : List S)
  | while (c : E) (body : List S)
  | ite (c : E) (a b : List S)
  | ret (e : E)
  | expr (e : E)
  | raiseBook (e : E)
  | raiseSan (e : E)
  | raiseEpd (i : Nat)
  | tryBook (e : E) (i : Nat)
  | trySolved (e : E)
  | stuck

inductive Slot where
  | unb
  | val (v : V)
  | own (l : List V)
  | dict (kvs : List ((Int × Int) × Int))

noncomputable abbrev Env := List Slot

structure Fn where
  slots : Nat
  body : List S

inductive Flow where
  | next
  | ret (v : V)

/-- the size that the mini language lets anything have -/
noncomputable def cap : Nat := 65536

mutual
noncomputable def V.toP : V → PyData
  | .none => .none
  | .bool b => .bool b
  | .int i => .int i
  | .str x => .str x
  | .bytes _ => .none
  | .tuple l => .tuple (V.toPs l)
  | .list l => .list (V.toPs l)
noncomputable def V.toPs : List V → List PyData
  | [] => []
  | v :: r => V.toP v :: V.toPs r
end

noncomputable def V.ok : Nat → V → Bool
  | _, .none => true
  | _, .bool _ => true
  | _, .int _ => true
  | _, .str x => PyData.strOk x
  | n + 1, .tuple l => l.all (V.ok n)
  | n + 1, .list l => l.all (V.ok n)
  | _, _ => false

/-- nothing within is a list -/
noncomputable def V.flat : Nat → V → Bool
  | _, .none => true
  | _, .bool _ => true
  | _, .int _ => true
  | _, .str _ => true
  | _, .bytes _ => true
  | n + 1, .tuple l => l.all (V.flat n)
  | _, _ => false

noncomputable def eqV (a b : V) : Option Bool := if a.ok 8 && b.ok 8 then some (PyData.eqv a.toP b.toP) else .none

noncomputable def truthV : V → Option Bool
  | .none => some false
  | .bool b => some b
  | .int i => some (i != 0)
  | .list l => some (!l.isEmpty)
  | _ => .none

noncomputable def small (i : Int) : Bool := decide (i.natAbs < 4294967296)
noncomputable def mid (i : Int) : Bool := decide (0 ≤ i) && decide (i < 2 ^ 128)

noncomputable def V.asInt : V → Option Int
  | .int i => some i
  | _ => .none
noncomputable def V.asStr : V → Option Str
  | .str x => some x
  | _ => .none
noncomputable def V.asBytes : V → Option (List UInt8)
  | .bytes x => some x
  | _ => .none
noncomputable def V.asTup : V → Option (List V)
  | .tuple x => some x
  | _ => .none
noncomputable def V.asList : V → Option (List V)
  | .list x => some x
  | _ => .none
/-- an operation on two ints -/
noncomputable def int2 {α : Type} (f : Int → Int → Option α) (a b : V) : Option α := a.asInt.bind fun x => b.asInt.bind fun y => f x y

noncomputable def addV (a b : V) : Option V := match a with
  | .int x => b.asInt.bind fun y => some (.int (x + y))
  | .str x => b.asStr.bind fun y => if x.length + y.length ≤ cap then some (.str (x ++ y)) else .none
  | .list l => b.asList.bind fun m => if l.length + m.length ≤ cap then some (.list (l ++ m)) else .none
  | .tuple l => b.asTup.bind fun m => if l.length + m.length ≤ cap ∧ l.isEmpty = false ∧ m.isEmpty = false then some (.tuple (l ++ m)) else .none
  | .bytes l => b.asBytes.bind fun m => if l.length + m.length ≤ cap then some (.bytes (l ++ m)) else .none
  | _ => .none
noncomputable def opV : Op → Int → Int → Option V
  | .add, a, b => some (.int (a + b))
  | .sub, a, b => some (.int (a - b))
  | .mul, a, b => if small a && small b then some (.int (a * b)) else .none
  | .fdiv, a, b => if decide (0 < b) && small b then some (.int (a.fdiv b)) else .none
  | .mod, a, b => if decide (0 < b) && small b then some (.int (a.fmod b)) else .none
  | .pow, a, b => if small a && decide (0 ≤ b) && decide (b ≤ 3) then some (.int (a ^ b.toNat)) else .none
  | .shl, a, b => if decide (0 ≤ a) && decide (a < 2 ^ 64) && decide (0 ≤ b) && decide (b ≤ 64) then some (.int (a * 2 ^ b.toNat)) else .none
  | .shr, a, b => if mid a && decide (0 ≤ b) && decide (b ≤ 64) then some (.int (a.fdiv (2 ^ b.toNat))) else .none
  | .band, a, b => if mid a && mid b then some (.int ((a.toNat &&& b.toNat : Nat) : Int)) else .none
  | .bor, a, b => if mid a && mid b then some (.int ((a.toNat ||| b.toNat : Nat) : Int)) else .none
noncomputable def binV (o : Op) (a b : V) : Option V := match o with
  | .add => addV a b
  | o => int2 (opV o) a b

noncomputable def ints? : List V → Option (List Int)
  | [] => some []
  | .int i :: r => (ints? r).map (i :: ·)
  | _ :: _ => .none

/-- the order of two lists of ints -/
noncomputable def ltInts : List Int → List Int → Bool
  | [], [] => false
  | [], _ :: _ => true
  | _ :: _, [] => false
  | a :: as, b :: bs => if a == b then ltInts as bs else decide (a < b)

noncomputable def isNone : V → Bool
  | .none => true
  | _ => false
noncomputable def ltLs (l m : List V) : Option Bool := (ints? l).bind fun l => (ints? m).bind fun m => some (ltInts l m)
noncomputable def ltV (a b : V) : Option Bool := match a with
  | .int x => b.asInt.bind fun y => some (decide (x < y))
  | .tuple l => b.asTup.bind fun m => ltLs l m
  | .list l => b.asList.bind fun m => ltLs l m
  | _ => .none
noncomputable def gtV (a b : V) : Option Bool := match a with
  | .int x => b.asInt.bind fun y => some (decide (y < x))
  | .list l => b.asList.bind fun m => ltLs m l
  | _ => .none
noncomputable def inV (a b : V) : Option Bool := match b with
  | .str y => a.asStr.bind fun x => some (Txt.contains y x)
  | .list l => if a.ok 8 && (V.list l).ok 8 then some (l.any fun y => PyData.eqv y.toP a.toP) else .none
  | _ => .none
noncomputable def cmpV (o : CmpOp) (a b : V) : Option Bool :=
  match o with
  | .Eq => eqV a b
  | .NotEq => (eqV a b).map (!·)
  | .Lt => ltV a b
  | .LtE => int2 (fun x y => some (decide (x ≤ y))) a b
  | .Gt => gtV a b
  | .GtE => int2 (fun x y => some (decide (y ≤ x))) a b
  | .In => inV a b
  | .Is => if isNone b then some (isNone a) else .none
  | .IsNot => if isNone b then some (!isNone a) else .none
  | _ => .none
end Mine
end

/-! text M2 -/
section
set_option bootstrap.genMatcherCode false
set_option backward.match.sparseCases false
open PySem
namespace Mine

noncomputable def idxNat (k : Int) (n : Nat) : Option Nat :=
  if 0 ≤ k then (if k < n then some k.toNat else .none) else (if -(n : Int) ≤ k then some (k + n).toNat else .none)

noncomputable def idxV (a i : V) : Option V := i.asInt.bind fun k => if small k then (match a with
    | .list l => (idxNat k l.length).bind fun j => l[j]?
    | .tuple l => (idxNat k l.length).bind fun j => l[j]?
    | .bytes l => if 0 ≤ k ∧ l.length ≤ cap then (l[k.toNat]?).map fun b => .int (b.toNat : Int) else .none
    | .str x => if decide (0 ≤ k) && decide (k < x.length) then (x.cps[k.toNat]?).map fun c => .str ⟨#[c]⟩ else .none
    | _ => .none) else .none

noncomputable def sliceL {α : Type} (l : List α) (lo hi : Option Int) : Option (List α) :=
  match lo, hi with
  | .none, .none => some l
  | some a, .none => if 0 ≤ a then some (l.drop a.toNat) else .none
  | .none, some b => if 0 ≤ b then some (l.take b.toNat) else .none
  | some a, some b => if decide (0 ≤ a) && decide (0 ≤ b) then some ((l.take b.toNat).drop a.toNat) else .none

noncomputable def boundV : Option V → Option (Option Int)
  | .none => some .none
  | some v => v.asInt.bind fun i => if small i then some (some i) else .none

noncomputable def sliceV (a : V) (lo hi : Option V) : Option V :=
  match boundV lo, boundV hi with
  | some lo, some hi => (match a with
      | .list l => if l.length ≤ cap then (sliceL l lo hi).map .list else .none
      | .tuple l => (match lo, hi with
          | some a, .none => if decide (1 ≤ a) && decide (a ≤ l.length) && decide (l.length ≤ cap) then some (.tuple (l.drop a.toNat)) else .none
          | .none, some b => if decide (0 ≤ b) && decide (b < l.length) && decide (l.length ≤ cap) then some (.tuple (l.take b.toNat)) else .none
          | _, _ => .none)
      | .str x => if x.length ≤ cap then some (.str (Txt.slice x lo hi)) else .none
      | _ => .none)
  | _, _ => .none

noncomputable def lenV : V → Option V
  | .list l => if l.length ≤ cap then some (.int l.length) else .none
  | .bytes l => if l.length ≤ cap then some (.int l.length) else .none
  | .str x => if x.length ≤ cap then some (.int x.length) else .none
  | _ => .none

noncomputable def minV : V → V → Option V := int2 fun a b => some (.int (if b < a then b else a))

noncomputable def maxInts : List Int → Option Int
  | [] => .none
  | a :: r => some (r.foldl (fun m x => if m < x then x else m) a)

noncomputable def maxV (v : V) : Option V := v.asList.bind fun l => if l.length ≤ 63 then (ints? l).bind fun l => (maxInts l).map .int else .none

noncomputable def bytesOf : List V → Option (List UInt8)
  | [] => some []
  | v :: r => v.asInt.bind fun i => if decide (0 ≤ i) && decide (i < 256) then (bytesOf r).map (UInt8.ofNat i.toNat :: ·) else .none

noncomputable def toBytesV (v : V) : Option V := v.asList.bind fun l => if l.length ≤ cap then (bytesOf l).map .bytes else .none

noncomputable def toListV (v : V) : Option V := v.asBytes.bind fun l => if l.length ≤ cap then some (.list (l.map fun b => .int (b.toNat : Int))) else .none

noncomputable def findV (x y : V) : Option V := x.asStr.bind fun x => y.asStr.bind fun y => if decide (x.length ≤ cap) && decide (y.length = 1) then some (.int (Txt.find x y)) else .none

/-- rows of a sort: tuples of ints, all of one length 3 -/
noncomputable def row3 (v : V) : Option (Int × Int × Int) := v.asTup.bind fun l => match l with
  | [a, b, c] => a.asInt.bind fun a => b.asInt.bind fun b => c.asInt.bind fun c => some (a, b, c)
  | _ => .none
noncomputable def rows3 : List V → Option (List (Int × Int × Int))
  | [] => some []
  | v :: r => (row3 v).bind fun x => (rows3 r).map (x :: ·)

noncomputable def lt3 (x y : Int × Int × Int) : Bool := ltInts [x.1, x.2.1, x.2.2] [y.1, y.2.1, y.2.2]

/-- the run of a sort's tree of questions; it asks of the first n alone -/
noncomputable def runKas {α : Type} (n : Nat) (cmp : Nat → Nat → Bool) : PySem.W.KasT α → Option α
  | .ret a => some a
  | .ask i j k => if i < n ∧ j < n then runKas n cmp (k (cmp i j)) else .none

noncomputable def sortV : V → Option V
  | .list l => if l.length < 60 then (rows3 l).bind fun rs =>
      if l.length < 2 then some (.list l) else
        (runKas l.length (fun i j => lt3 (rs.getD i (0, 0, 0)) (rs.getD j (0, 0, 0))) (PySem.W.kas_sort l.length)).map fun p => .list (p.toList.map fun i => l.getD i .none)
      else .none
  | _ => .none

noncomputable def pairKey : V → V → Option (Int × Int) := int2 fun a b => some (a, b)

noncomputable def Slot.isOwn : Slot → Bool
  | .own _ => true
  | .dict _ => true
  | _ => false
noncomputable def noOwn (σ : Env) : Bool := !σ.any Slot.isOwn

noncomputable def slotV : Slot → Option V
  | .val v => some v
  | .own l => some (.list l)
  | _ => .none
noncomputable def dictAt (σ : Env) (i : Nat) : Option (List ((Int × Int) × Int)) := match σ[i]? with
  | some (.dict d) => some d
  | _ => .none
noncomputable def ownAt (σ : Env) (i : Nat) : Option (List V) := match σ[i]? with
  | some (.own l) => some l
  | _ => .none

noncomputable def setVals : Env → List Nat → List V → Env
  | σ, i :: is, v :: vs => setVals (σ.set i (.val v)) is vs
  | σ, _, _ => σ

noncomputable def bindTgt (σ : Env) (t : Tgt) (v : V) : Option Env :=
  match t, v with
  | .one i, v => if v.flat 8 || noOwn σ then some (σ.set i (.val v)) else .none
  | .many is, .tuple l => if l.length == is.length && (l.all (V.flat 8) || noOwn σ) then some (setVals σ is l) else .none
  | _, _ => .none

noncomputable def rangeInts (a b c : Int) : Option (List V) :=
  if decide (0 < c) && small a && small b && small c then
    some ((List.range (Builtin.Range.rangeSize a b c).toNat).map fun (k : Nat) => V.int (a + (k : Int) * c)) else .none
noncomputable def rangeV : List V → Option (List V)
  | [b] => b.asInt.bind fun b => rangeInts 0 b 1
  | [a, b] => a.asInt.bind fun a => b.asInt.bind fun b => rangeInts a b 1
  | [a, b, c] => a.asInt.bind fun a => b.asInt.bind fun b => c.asInt.bind fun c => rangeInts a b c
  | _ => .none

noncomputable def compL (f : V → R (Option V)) : List V → R (List V)
  | [] => .ok []
  | v :: r => (f v).bind fun o => (compL f r).bind fun l => .ok (match o with | some x => x :: l | .none => l)

noncomputable def forL (f : Env → V → R (Env × Flow)) : List V → Env → R (Env × Flow)
  | [], σ => .ok (σ, .next)
  | v :: r, σ => (f σ v).bind fun p => match p.2 with
    | .ret w => .ok (p.1, .ret w)
    | .next => forL f r p.1

noncomputable def whileL (c : Env → R Bool) (f : Env → R (Env × Flow)) : Nat → Env → R (Env × Flow)
  | 0, _ => .stuck
  | k + 1, σ => (c σ).bind fun b => if b then (f σ).bind fun p => (match p.2 with
      | .ret w => .ok (p.1, .ret w)
      | .next => whileL c f k p.1) else .ok (σ, .next)
end Mine
end

/-! text M2b -/
section
set_option bootstrap.genMatcherCode false
set_option backward.match.sparseCases false
open PySem
namespace Mine
/-- no fault leaves here -/
noncomputable def R.calm {α : Type} : R α → R α
  | .exc _ => .stuck
  | r => r

noncomputable def isStr : V → Bool
  | .str _ => true
  | _ => false

noncomputable def truV : V → Option Bool
  | .list l => if l.length ≤ cap then truthV (.list l) else .none
  | v => truthV v

noncomputable def freshE : E → Bool
  | .lst _ => true
  | .sorted _ => true
  | _ => false

noncomputable def tryB (σ : Env) (i : Nat) : R V → R (Env × Flow)
  | .ok .none => .ok (σ, .next)
  | .exc (.book a) => .ok (σ.set i (.val (.int a)), .next)
  | _ => .stuck
noncomputable def tryS (σ : Env) : R V → R (Env × Flow)
  | .ok v => .ok (σ, .ret v)
  | .exc .san => .ok (σ, .ret (.str "san"))
  | .exc (.epd a) => .ok (σ, .ret (if a = -1 then .str "epd" else .none))
  | _ => .stuck
noncomputable def varOf : E → Option Nat
  | .var j => some j
  | _ => .none
/-- what a loop over a name runs over -/
noncomputable def iterAt (σ : Env) (j : Nat) : Option (List V × Env) := match σ[j]? with
  | some (.val (.list l)) => some (l, σ)
  | some (.own l) => some (l, σ.set j (.val (.list l)))
  | _ => .none

noncomputable def compEnv (σ : Env) (free : List Nat) (nt : Nat) (tupled : Bool) (v : V) : Option Env :=
  let fs := free.map fun i => σ.getD i .unb
  if tupled then (match v with
    | .tuple l => if l.length == nt then some (l.map .val ++ fs) else .none
    | _ => .none)
  else if nt == 1 then some (.val v :: fs) else .none

noncomputable def shortStr : V → Bool
  | .str x => decide (x.length ≤ 1000)
  | _ => false

section
variable (FT : Nat → Option Fn)

mutual
noncomputable def evE : Nat → Env → E → R V
  | 0, _, _ => .stuck
  | n + 1, σ, e => match e with
    | .const v => .ok v
    | .glob v => .ok v
    | .var i => R.ofOpt ((σ[i]?).bind slotV)
    | .bin o a b => (evE n σ a).bind fun x => (evE n σ b).bind fun y => R.ofOpt (binV o x y)
    | .neg a => (evE n σ a).bind fun x => match x with | .int i => .ok (.int (-i)) | _ => .stuck
    | .cmp o a b => (evE n σ a).bind fun x => (evE n σ b).bind fun y => R.ofOpt ((cmpV o x y).map .bool)
    | .cmp2 o p a b c => (evE n σ a).bind fun x => (evE n σ b).bind fun y => (R.ofOpt (cmpV o x y)).bind fun t =>
        if t then (evE n σ c).bind fun z => R.ofOpt ((cmpV p y z).map .bool) else .ok (.bool false)
    | .bop k es => evB n σ k es
    | .not _ => .stuck
    | .ite c a b => (evT n σ c).bind fun t => if t then evE n σ a else evE n σ b
    | .idx a i => (evE n σ a).bind fun x => (evE n σ i).bind fun y => R.ofOpt (idxV x y)
    | .slice a lo hi => (evE n σ a).bind fun x => (evO n σ lo).bind fun l => (evO n σ hi).bind fun h => R.ofOpt (sliceV x l h)
    | .tup es => (evEs n σ es).bind fun vs => if vs.length ≤ cap then .ok (.tuple vs) else .stuck
    | .lst es => (evEs n σ es).bind fun vs => if vs.length ≤ cap then .ok (.list vs) else .stuck
    | .call f args => (evEs n σ args).bind fun vs => evC n f vs
    | .len a => (evE n σ a).bind fun x => R.ofOpt (lenV x)
    | .min2 a b => (evE n σ a).bind fun x => (evE n σ b).bind fun y => R.ofOpt (minV x y)
    | .max1 a => (evE n σ a).bind fun x => R.ofOpt (maxV x)
    | .sorted a => (evE n σ a).bind fun x => R.ofOpt (sortV x)
    | .toList a => (evE n σ a).bind fun x => R.ofOpt (toListV x)
    | .toBytes a => (evE n σ a).bind fun x => R.ofOpt (toBytesV x)
    | .find a b => (evE n σ a).bind fun x => if isStr x then (evE n σ b).bind fun y => R.ofOpt (findV x y) else .stuck
    | .comp elt iter nt tupled cond free => (evE n σ iter).bind fun x => (R.ofOpt x.asList).bind fun l => if l.length ≤ cap then
            (compL (fun v => R.calm ((R.ofOpt (compEnv σ free nt tupled v)).bind fun σ' => (match cond with
              | .none => R.ok true
              | some c => evT n σ' c).bind fun t => if t then (evE n σ' elt).bind fun w => if w.flat 8 then .ok (some w) else .stuck else .ok .none)) l).bind fun r => .ok (.list r)
          else .stuck
    | .inDict _ _ _ => .stuck
    | .getDict i a b => (R.ofOpt (dictAt σ i)).bind fun d => (evE n σ a).bind fun x => (evE n σ b).bind fun y => R.ofOpt ((pairKey x y).bind fun k => (d.lookup k).map .int)
noncomputable def evEs : Nat → Env → List E → R (List V)
  | 0, _, _ => .stuck
  | _ + 1, _, [] => .ok []
  | n + 1, σ, e :: es => (evE n σ e).bind fun v => (evEs n σ es).bind fun vs => .ok (v :: vs)
noncomputable def evO : Nat → Env → Option E → R (Option V)
  | 0, _, _ => .stuck
  | _ + 1, _, .none => .ok .none
  | n + 1, σ, some e => (evE n σ e).bind fun v => .ok (some v)
/-- 'and' (true), 'or' (false), for a value -/
noncomputable def evB : Nat → Env → Bool → List E → R V
  | 0, _, _, _ => .stuck
  | _ + 1, _, _, [] => .stuck
  | n + 1, σ, _, [e] => evE n σ e
  | n + 1, σ, k, e :: es => (evE n σ e).bind fun v => (R.ofOpt (truV v)).bind fun t => if t == k then evB n σ k es else .ok v
noncomputable def evT : Nat → Env → E → R Bool
  | 0, _, _ => .stuck
  | n + 1, σ, e => match e with
    | .not a => (evT n σ a).bind fun t => .ok (!t)
    | .bop k es => evTs n σ k es
    | .ite c a b => (evT n σ c).bind fun t => if t then evT n σ a else evT n σ b
    | .cmp o a b => (evE n σ a).bind fun x => (evE n σ b).bind fun y => R.ofOpt (cmpV o x y)
    | .cmp2 o p a b c => (evE n σ a).bind fun x => (evE n σ b).bind fun y => (R.ofOpt (cmpV o x y)).bind fun t =>
        if t then (evE n σ c).bind fun z => R.ofOpt (cmpV p y z) else .ok false
    | .inDict i a b => (evE n σ a).bind fun x => (evE n σ b).bind fun y => R.ofOpt ((dictAt σ i).bind fun d => (pairKey x y).map fun k => (d.lookup k).isSome)
    | e => (evE n σ e).bind fun v => R.ofOpt (truV v)
noncomputable def evTs : Nat → Env → Bool → List E → R Bool
  | 0, _, _, _ => .stuck
  | _ + 1, _, k, [] => .ok k
  | n + 1, σ, k, e :: es => (evT n σ e).bind fun t => if t == k then evTs n σ k es else .ok t
noncomputable def evC : Nat → Nat → List V → R V
  | 0, _, _ => .stuck
  | n + 1, f, vs => match FT f with
    | .none => .stuck
    | some fn => (exSs n (vs.map .val ++ List.replicate (fn.slots - vs.length) .unb) fn.body).bind fun p => .ok (match p.2 with | .ret v => v | .next => .none)
noncomputable def exS : Nat → Env → S → R (Env × Flow)
  | 0, _, _ => .stuck
  | n + 1, σ, s => match s with
    | .assign i e => (evE n σ e).bind fun v => if v.flat 8 || noOwn σ then .ok (σ.set i (.val v), .next) else .stuck
    | .assignComp i e => (evE n σ e).bind fun v => (R.ofOpt v.asList).bind fun l => if l.all (V.flat 8) then .ok (σ.set i (.val (.list l)), .next) else .stuck
    | .assignOwn i es => (evEs n σ es).bind fun vs => if vs.all (V.flat 8) && decide (vs.length ≤ cap) then .ok (σ.set i (.own vs), .next) else .stuck
    | .assignDict i => .ok (σ.set i (.dict []), .next)
    | .assignTup is e => (evE n σ e).bind fun v => (R.ofOpt (bindTgt σ (.many is) v)).bind fun σ' => .ok (σ', .next)
    | .aug i o e => (R.ofOpt ((σ[i]?).bind slotV)).bind fun x => (evE n σ e).bind fun y => (R.ofOpt (binV o x y)).bind fun z => match z with
        | .int _ => .ok (σ.set i (.val z), .next)
        | .bytes _ => .ok (σ.set i (.val z), .next)
        | _ => .stuck
    | .append i e => (R.ofOpt (ownAt σ i)).bind fun l => (evE n σ e).bind fun v => if v.flat 8 && decide (l.length < cap) then .ok (σ.set i (.own (l ++ [v])), .next) else .stuck
    | .setIdx i k e => (evE n σ e).bind fun v => (R.ofOpt (ownAt σ i)).bind fun l => (evE n σ k).bind fun kv => match kv with
        | .int j => if v.flat 8 && decide (0 ≤ j) && decide (j < l.length) && small j then .ok (σ.set i (.own (l.set j.toNat v)), .next) else .stuck
        | _ => .stuck
    | .setDict i a b e => (evE n σ e).bind fun v => (R.ofOpt (dictAt σ i)).bind fun d => (evE n σ a).bind fun x => (evE n σ b).bind fun y => match pairKey x y, v with
        | some k, .int z => if (d.lookup k).isNone && decide (d.length < cap) then .ok (σ.set i (.dict (d ++ [(k, z)])), .next) else .stuck
        | _, _ => .stuck
    | .forR i args body => (evEs n σ args).bind fun vs => (R.ofOpt (rangeV vs)).bind fun l => forL (fun σ v => exSs n (σ.set i (.val v)) body) l σ
    | .forV t it body => match varOf it with
        | some j => (R.ofOpt (iterAt σ j)).bind fun p => forL (fun σ v => (R.ofOpt (bindTgt σ t v)).bind fun σ' => exSs n σ' body) p.1 p.2
        | .none => (evE n σ it).bind fun x => (R.ofOpt x.asList).bind fun l => if (freshE it && l.all (V.flat 8)) || noOwn σ then forL (fun σ v => (R.ofOpt (bindTgt σ t v)).bind fun σ' => exSs n σ' body) l σ else .stuck
    | .while c body => whileL (fun σ => R.calm (evT n σ c)) (fun σ => R.calm (exSs n σ body)) 64 σ
    | .ite c a b => (evT n σ c).bind fun t => if t then exSs n σ a else exSs n σ b
    | .ret e => (evE n σ e).bind fun v => .ok (σ, .ret v)
    | .expr _ => .stuck
    | .raiseBook e => (evE n σ e).bind fun v => match v with | .int a => .exc (.book a) | _ => .stuck
    | .raiseSan e => (evE n σ e).bind fun v => if shortStr v then .exc .san else .stuck
    | .raiseEpd i => (R.ofOpt ((σ[i]?).bind slotV)).bind fun v => if shortStr v then .exc (.epd (-1)) else .stuck
    | .tryBook e i => tryB σ i (evE n σ e)
    | .trySolved e => tryS σ (evE n σ e)
    | .stuck => .stuck
noncomputable def exSs : Nat → Env → List S → R (Env × Flow)
  | 0, _, _ => .stuck
  | _ + 1, σ, [] => .ok (σ, .next)
  | n + 1, σ, s :: ss => (exS n σ s).bind fun p => match p.2 with
    | .next => exSs n p.1 ss
    | .ret v => .ok (p.1, .ret v)
end
end
end Mine
end

/-! text M3 -/
section
set_option bootstrap.genMatcherCode false
set_option backward.match.sparseCases false
open PySem
namespace Mine
/-- kind_of: piece -/
noncomputable def b_kind_of : List S := [
  .ret (.bin .band (.var 0) (.const (.int 7)))]
/-- is_piece: number -/
noncomputable def b_is_piece : List S := [
  .ret (.bop true [(.cmp2 .Lt .Lt (.const (.int 0)) (.var 0) (.const (.int 15))), (.cmp .NotEq (.var 0) (.const (.int 7))), (.cmp .NotEq (.var 0) (.const (.int 8)))])]
/-- letter_of: piece -/
noncomputable def b_letter_of : List S := [
  .ite (.bop true [(.cmp .NotEq (.var 0) (.glob (.int 0))), (.not (.call 1 [(.var 0)]))]) [.stuck] [],
  .ret (.idx (.glob (.str (Str.ofString ".PNBRQK..pnbrqk"))) (.var 0))]
/-- move_from: move -/
noncomputable def b_move_from : List S := [
  .ret (.bin .band (.bin .shr (.var 0) (.const (.int 6))) (.const (.int 63)))]
/-- move_to: move -/
noncomputable def b_move_to : List S := [
  .ret (.bin .band (.var 0) (.const (.int 63)))]
/-- move_special: move -/
noncomputable def b_move_special : List S := [
  .ret (.bin .band (.bin .shr (.var 0) (.const (.int 14))) (.const (.int 3)))]
/-- move_promo: move -/
noncomputable def b_move_promo : List S := [
  .ite (.cmp .NotEq (.bin .band (.bin .shr (.var 0) (.const (.int 14))) (.const (.int 3))) (.glob (.int 1))) [.ret (.glob (.int 0))] [],
  .ret (.bin .add (.bin .band (.bin .shr (.var 0) (.const (.int 12))) (.const (.int 3))) (.glob (.int 2)))]
/-- put_number: number size octets at -/
noncomputable def b_put_number : List S := [
  .assignOwn 2 [],
  .forR 3 [(.var 1)] [.append 2 (.bin .band (.bin .shr (.var 0) (.bin .mul (.const (.int 8)) (.bin .sub (.bin .sub (.var 1) (.const (.int 1))) (.var 3)))) (.const (.int 255)))],
  .ret (.toBytes (.var 2))]
/-- get_number: octets at size number place -/
noncomputable def b_get_number : List S := [
  .assign 3 (.const (.int 0)),
  .forR 4 [(.var 1), (.bin .add (.var 1) (.var 2))] [.assign 3 (.bin .bor (.bin .shl (.var 3) (.const (.int 8))) (.idx (.var 0) (.var 4)))],
  .ret (.var 3)]
/-- pack_entry: key move weight learn fields sizes out at -/
noncomputable def b_pack_entry : List S := [
  .assign 4 (.lst [(.var 0), (.var 1), (.var 2), (.var 3)]),
  .assign 5 (.lst [(.const (.int 8)), (.const (.int 2)), (.const (.int 2)), (.const (.int 4))]),
  .assign 6 (.const (.bytes [])),
  .forR 7 [(.const (.int 4))] [.ite (.bop false [(.cmp .Lt (.idx (.var 4) (.var 7)) (.const (.int 0))), (.cmp .GtE (.idx (.var 4) (.var 7)) (.bin .shl (.const (.int 1)) (.bin .mul (.const (.int 8)) (.idx (.var 5) (.var 7)))))]) [.stuck] [], .aug 6 .add (.call 7 [(.idx (.var 4) (.var 7)), (.idx (.var 5) (.var 7))])],
  .ret (.var 6)]
/-- unpack_entry: octets at key move -/
noncomputable def b_unpack_entry : List S := [
  .ite (.bop false [(.cmp .Lt (.var 1) (.const (.int 0))), (.cmp .NotEq (.bin .mod (.var 1) (.glob (.int 16))) (.const (.int 0))), (.cmp .Gt (.bin .add (.var 1) (.glob (.int 16))) (.len (.var 0)))]) [.stuck] [],
  .assign 2 (.call 8 [(.var 0), (.var 1), (.const (.int 8))]),
  .assign 3 (.call 8 [(.var 0), (.bin .add (.var 1) (.const (.int 8))), (.const (.int 2))]),
  .ret (.tup [(.var 2), (.var 3), (.call 8 [(.var 0), (.bin .add (.var 1) (.const (.int 10))), (.const (.int 2))]), (.call 8 [(.var 0), (.bin .add (.var 1) (.const (.int 12))), (.const (.int 4))])])]
/-- merge_entries: entries places out key move weight learn place old -/
noncomputable def b_merge_entries : List S := [
  .assignDict 1,
  .assignOwn 2 [],
  .forV (.many [3, 4, 5, 6]) (.var 0) [.ite (.inDict 1 (.var 3) (.var 4)) [.assign 7 (.getDict 1 (.var 3) (.var 4)), .assign 8 (.idx (.var 2) (.var 7)), .setIdx 2 (.var 7) (.tup [(.var 3), (.var 4), (.min2 (.bin .add (.idx (.var 8) (.const (.int 2))) (.var 5)) (.glob (.int 65535))), (.idx (.var 8) (.const (.int 3)))])] [.setDict 1 (.var 3) (.var 4) (.len (.var 2)), .append 2 (.tup [(.var 3), (.var 4), (.var 5), (.var 6)])]],
  .ret (.var 2)]
/-- make_book: entries rows place out row key move weight learn -/
noncomputable def b_make_book : List S := [
  .assignOwn 1 [],
  .forR 2 [(.len (.var 0))] [.append 1 (.tup [(.idx (.idx (.var 0) (.var 2)) (.const (.int 0))), (.neg (.idx (.idx (.var 0) (.var 2)) (.const (.int 2)))), (.var 2)])],
  .assign 3 (.const (.bytes [])),
  .forV (.one 4) (.sorted (.var 1)) [.assignTup [5, 6, 7, 8] (.idx (.var 0) (.idx (.var 4) (.const (.int 2)))), .aug 3 .add (.call 9 [(.var 5), (.var 6), (.var 7), (.var 8)])],
  .ret (.var 3)]
/-- key_at: octets place -/
noncomputable def b_key_at : List S := [
  .ret (.call 8 [(.var 0), (.bin .mul (.var 1) (.glob (.int 16))), (.const (.int 8))])]
/-- first_entry: octets key low high middle -/
noncomputable def b_first_entry : List S := [
  .assign 2 (.const (.int 0)),
  .assign 3 (.bin .fdiv (.len (.var 0)) (.glob (.int 16))),
  .while (.cmp .Lt (.var 2) (.var 3)) [.assign 4 (.bin .fdiv (.bin .add (.var 2) (.var 3)) (.const (.int 2))), .ite (.cmp .Lt (.call 13 [(.var 0), (.var 4)]) (.var 1)) [.assign 2 (.bin .add (.var 4) (.const (.int 1)))] [.assign 3 (.var 4)]],
  .ret (.var 2)]
/-- find_entries: octets key out place entry -/
noncomputable def b_find_entries : List S := [
  .ite (.cmp .NotEq (.bin .mod (.len (.var 0)) (.glob (.int 16))) (.const (.int 0))) [.stuck] [],
  .assignOwn 2 [],
  .assign 3 (.call 14 [(.var 0), (.var 1)]),
  .while (.bop true [(.cmp .Lt (.var 3) (.bin .fdiv (.len (.var 0)) (.glob (.int 16)))), (.cmp .Eq (.call 13 [(.var 0), (.var 3)]) (.var 1))]) [.assign 4 (.call 10 [(.var 0), (.bin .mul (.var 3) (.glob (.int 16)))]), .append 2 (.tup [(.idx (.var 4) (.const (.int 1))), (.idx (.var 4) (.const (.int 2))), (.idx (.var 4) (.const (.int 3)))]), .aug 3 .add (.const (.int 1))],
  .ret (.var 2)]
/-- check_book: octets last at entry row -/
noncomputable def b_check_book : List S := [
  .ite (.cmp .NotEq (.bin .mod (.len (.var 0)) (.glob (.int 16))) (.const (.int 0))) [.raiseBook (.len (.var 0))] [],
  .assign 1 (.tup [(.neg (.const (.int 1))), (.const (.int 0))]),
  .forR 2 [(.const (.int 0)), (.len (.var 0)), (.glob (.int 16))] [.assign 3 (.call 10 [(.var 0), (.var 2)]), .assign 4 (.tup [(.idx (.var 3) (.const (.int 0))), (.neg (.idx (.var 3) (.const (.int 2))))]), .ite (.cmp .Lt (.var 4) (.var 1)) [.raiseBook (.var 2)] [], .assign 1 (.var 4)]]
/-- best_entry: entries best weight entry -/
noncomputable def b_best_entry : List S := [
  .assign 1 (.glob (.int 0)),
  .assign 2 (.const (.int 0)),
  .forV (.one 3) (.var 0) [.ite (.cmp .Gt (.idx (.var 3) (.const (.int 1))) (.var 2)) [.assign 1 (.idx (.var 3) (.const (.int 0))), .assign 2 (.idx (.var 3) (.const (.int 1)))] []],
  .ret (.var 1)]
/-- file_of: files square -/
noncomputable def b_file_of : List S := [
  .ret (.bin .mod (.var 1) (.var 0))]
/-- rank_of: files square -/
noncomputable def b_rank_of : List S := [
  .ret (.bin .fdiv (.var 1) (.var 0))]
/-- read_square: files ranks text file rank -/
noncomputable def b_read_square : List S := [
  .ite (.cmp .NotEq (.len (.var 2)) (.const (.int 2))) [.ret (.neg (.const (.int 1)))] [],
  .assign 3 (.find (.glob (.str (Str.ofString "abcdefgh"))) (.idx (.var 2) (.const (.int 0)))),
  .assign 4 (.find (.glob (.str (Str.ofString "12345678"))) (.idx (.var 2) (.const (.int 1)))),
  .ite (.bop false [(.cmp .Lt (.var 3) (.const (.int 0))), (.cmp .GtE (.var 3) (.var 0)), (.cmp .Lt (.var 4) (.const (.int 0))), (.cmp .GtE (.var 4) (.var 1))]) [.ret (.neg (.const (.int 1)))] [],
  .ret (.bin .add (.bin .mul (.var 4) (.var 0)) (.var 3))]
/-- takes: board move -/
noncomputable def b_takes : List S := [
  .ret (.bop false [(.cmp .NotEq (.idx (.var 0) (.call 4 [(.var 1)])) (.glob (.int 0))), (.cmp .Eq (.call 5 [(.var 1)]) (.glob (.int 2)))])]
/-- kind_by_letter: letter letters kind -/
noncomputable def b_kind_by_letter : List S := [
  .forV (.one 2) (.lst [(.glob (.int 2)), (.glob (.int 3)), (.glob (.int 4)), (.glob (.int 5)), (.glob (.int 6))]) [.ite (.bop true [(.cmp .Eq (.call 2 [(.var 2)]) (.var 0)), (.cmp .In (.var 0) (.var 1))]) [.ret (.var 2)] []],
  .ret (.glob (.int 0))]
/-- cut_sign: text -/
noncomputable def b_cut_sign : List S := [
  .ite (.bop false [(.cmp .Eq (.slice (.var 0) (some (.neg (.const (.int 1)))) .none) (.const (.str (Str.ofString "+")))), (.cmp .Eq (.slice (.var 0) (some (.neg (.const (.int 1)))) .none) (.const (.str (Str.ofString "#"))))]) [.ret (.tup [(.slice (.var 0) .none (some (.neg (.const (.int 1))))), (.slice (.var 0) (some (.neg (.const (.int 1)))) .none)])] [],
  .ret (.tup [(.var 0), (.const (.str (Str.ofString "")))])]
/-- cut_origin: rest file rank -/
noncomputable def b_cut_origin : List S := [
  .assign 1 (.neg (.const (.int 1))),
  .assign 2 (.neg (.const (.int 1))),
  .ite (.bop true [(.cmp .NotEq (.slice (.var 0) .none (some (.const (.int 1)))) (.const (.str (Str.ofString "")))), (.cmp .In (.idx (.var 0) (.const (.int 0))) (.const (.str (Str.ofString "abcdefgh"))))]) [.assign 1 (.find (.const (.str (Str.ofString "abcdefgh"))) (.idx (.var 0) (.const (.int 0)))), .assign 0 (.slice (.var 0) (some (.const (.int 1))) .none)] [],
  .ite (.bop true [(.cmp .NotEq (.slice (.var 0) .none (some (.const (.int 1)))) (.const (.str (Str.ofString "")))), (.cmp .In (.idx (.var 0) (.const (.int 0))) (.const (.str (Str.ofString "12345678"))))]) [.assign 2 (.find (.const (.str (Str.ofString "12345678"))) (.idx (.var 0) (.const (.int 0)))), .assign 0 (.slice (.var 0) (some (.const (.int 1))) .none)] [],
  .ite (.cmp .NotEq (.var 0) (.const (.str (Str.ofString "")))) [.ret (.const .none)] [],
  .ret (.tup [(.var 1), (.var 2)])]
/-- split_san: text files ranks body kind promo goal rest cross origin -/
noncomputable def b_split_san : List S := [
  .assign 3 (.var 0),
  .assign 4 (.call 22 [(.slice (.var 3) .none (some (.const (.int 1)))), (.const (.str (Str.ofString "NBRQK")))]),
  .assign 5 (.glob (.int 0)),
  .ite (.cmp .NotEq (.var 4) (.glob (.int 0))) [.assign 3 (.slice (.var 3) (some (.const (.int 1))) .none)] [.assign 4 (.glob (.int 1)), .assign 5 (.call 22 [(.slice (.var 3) (some (.neg (.const (.int 1)))) .none), (.const (.str (Str.ofString "NBRQ")))]), .ite (.cmp .NotEq (.var 5) (.glob (.int 0))) [.assign 3 (.slice (.var 3) .none (some (.neg (.const (.int 1))))), .ite (.cmp .Eq (.slice (.var 3) (some (.neg (.const (.int 1)))) .none) (.const (.str (Str.ofString "=")))) [.assign 3 (.slice (.var 3) .none (some (.neg (.const (.int 1)))))] []] []],
  .assign 6 (.call 20 [(.var 1), (.var 2), (.slice (.var 3) (some (.neg (.const (.int 2)))) .none)]),
  .ite (.cmp .Lt (.var 6) (.const (.int 0))) [.stuck] [],
  .assign 7 (.slice (.var 3) .none (some (.neg (.const (.int 2))))),
  .assign 8 (.cmp .Eq (.slice (.var 7) (some (.neg (.const (.int 1)))) .none) (.const (.str (Str.ofString "x")))),
  .ite (.var 8) [.assign 7 (.slice (.var 7) .none (some (.neg (.const (.int 1)))))] [],
  .assign 9 (.call 24 [(.var 7)]),
  .ite (.cmp .Is (.var 9) (.const .none)) [.stuck] [],
  .ite (.bop true [(.cmp .Eq (.var 4) (.glob (.int 1))), (.var 8), (.cmp .Lt (.idx (.var 9) (.const (.int 0))) (.const (.int 0)))]) [.stuck] [],
  .ret (.tup [(.var 4), (.idx (.var 9) (.const (.int 0))), (.idx (.var 9) (.const (.int 1))), (.var 8), (.var 6), (.var 5)])]
/-- fits: files board move asked kind file rank cross goal promo origin -/
noncomputable def b_fits : List S := [
  .assignTup [4, 5, 6, 7, 8, 9] (.var 3),
  .assign 10 (.call 3 [(.var 2)]),
  .ite (.bop false [(.cmp .Eq (.call 5 [(.var 2)]) (.glob (.int 3))), (.cmp .NotEq (.call 4 [(.var 2)]) (.var 8)), (.cmp .NotEq (.call 6 [(.var 2)]) (.var 9))]) [.ret (.const (.bool false))] [],
  .ite (.bop false [(.cmp .NotEq (.call 0 [(.idx (.var 1) (.var 10))]) (.var 4)), (.cmp .NotEq (.call 21 [(.var 1), (.var 2)]) (.var 7))]) [.ret (.const (.bool false))] [],
  .ite (.bop true [(.cmp .GtE (.var 5) (.const (.int 0))), (.cmp .NotEq (.call 18 [(.var 0), (.var 10)]) (.var 5))]) [.ret (.const (.bool false))] [],
  .ret (.bop false [(.cmp .Lt (.var 6) (.const (.int 0))), (.cmp .Eq (.call 19 [(.var 0), (.var 10)]) (.var 6))])]
/-- meant_by: files ranks board moves body out move asked -/
noncomputable def b_meant_by : List S := [
  .assignOwn 5 [],
  .ite (.bop false [(.cmp .Eq (.var 4) (.glob (.str (Str.ofString "O-O")))), (.cmp .Eq (.var 4) (.glob (.str (Str.ofString "O-O-O"))))]) [.stuck] [],
  .assign 7 (.call 25 [(.var 4), (.var 0), (.var 1)]),
  .forV (.one 6) (.var 3) [.ite (.call 26 [(.var 0), (.var 2), (.var 6), (.var 7)]) [.append 5 (.var 6)] []],
  .ret (.var 5)]
/-- pick_san: files ranks board moves text body sign found -/
noncomputable def b_pick_san : List S := [
  .assignTup [5, 6] (.call 23 [(.var 4)]),
  .assign 7 (.call 27 [(.var 0), (.var 1), (.var 2), (.var 3), (.var 5)]),
  .ite (.cmp .Eq (.var 7) (.lst [])) [.raiseSan (.var 4)] [],
  .ite (.cmp .Gt (.len (.var 7)) (.const (.int 1))) [.stuck] [],
  .ret (.tup [(.idx (.var 7) (.const (.int 0))), (.var 6)])]
/-- operands_of: operations opcode name operands -/
noncomputable def b_operands_of : List S := [
  .forV (.many [2, 3]) (.var 0) [.ite (.cmp .Eq (.var 2) (.var 1)) [.ret (.var 3)] []],
  .ret (.const .none)]
/-- named_moves: files ranks board moves operations opcode operands named kind value -/
noncomputable def b_named_moves : List S := [
  .assign 6 (.call 29 [(.var 4), (.var 5)]),
  .assignOwn 7 [],
  .ite (.cmp .IsNot (.var 6) (.const .none)) [.forV (.many [8, 9]) (.var 6) [.ite (.cmp .NotEq (.var 8) (.glob (.int 2))) [.raiseEpd 5] [], .append 7 (.idx (.call 28 [(.var 0), (.var 1), (.var 2), (.var 3), (.var 9)]) (.const (.int 0)))]] [],
  .ret (.var 7)]
/-- is_solved: files ranks board moves operations move -/
noncomputable def b_is_solved : List S := [
  .ite (.bop false [(.cmp .Eq (.var 5) (.glob (.int 0))), (.cmp .In (.var 5) (.call 30 [(.var 0), (.var 1), (.var 2), (.var 3), (.var 4), (.const (.str (Str.ofString "am")))]))]) [.ret (.const (.bool false))] [],
  .ite (.cmp .Is (.call 29 [(.var 4), (.const (.str (Str.ofString "bm")))]) (.const .none)) [.ret (.const (.bool true))] [],
  .ret (.cmp .In (.var 5) (.call 30 [(.var 0), (.var 1), (.var 2), (.var 3), (.var 4), (.const (.str (Str.ofString "bm")))]))]
/-- _law_moves:  -/
noncomputable def b_law_moves : List S := [
  .ret (.lst [(.tup [(.const (.str (Str.ofString "Ra2"))), (.const (.int 4))]), (.tup [(.const (.str (Str.ofString "Rxa4"))), (.const (.int 12))]), (.tup [(.const (.str (Str.ofString "Na3"))), (.const (.int 72))]), (.tup [(.const (.str (Str.ofString "Nc3"))), (.const (.int 74))]), (.tup [(.const (.str (Str.ofString "Nd2"))), (.const (.int 71))]), (.tup [(.const (.str (Str.ofString "cxd3"))), (.const (.int 395))]), (.tup [(.const (.str (Str.ofString "c3"))), (.const (.int 394))]), (.tup [(.const (.str (Str.ofString "Kd2"))), (.const (.int 199))])])]
/-- _law_values: n values k place -/
noncomputable def b_law_values : List S := [
  .assignOwn 1 [],
  .forR 2 [(.bin .mod (.var 0) (.const (.int 4)))] [.assign 3 (.bin .mod (.bin .fdiv (.bin .fdiv (.var 0) (.const (.int 4))) (.bin .pow (.const (.int 11)) (.var 2))) (.const (.int 11))), .ite (.cmp .Lt (.var 3) (.const (.int 8))) [.append 1 (.tup [(.glob (.int 2)), (.bin .add (.idx (.idx (.call 32 []) (.var 3)) (.const (.int 0))) (.idx (.lst [(.const (.str (Str.ofString ""))), (.const (.str (Str.ofString "+")))]) (.bin .mod (.var 2) (.const (.int 2)))))])] [.append 1 (.idx (.lst [(.tup [(.glob (.int 2)), (.const (.str (Str.ofString "Rd4")))]), (.tup [(.glob (.int 1)), (.const (.int 4))]), (.tup [(.glob (.int 0)), (.const (.str (Str.ofString "Ra2")))])]) (.bin .sub (.var 3) (.const (.int 8))))]],
  .ret (.var 1)]
/-- _law_named: values out kind value hits -/
noncomputable def b_law_named : List S := [
  .assignOwn 1 [],
  .forV (.many [2, 3]) (.var 0) [.ite (.cmp .NotEq (.var 2) (.glob (.int 2))) [.ret (.bin .add (.var 1) (.lst [(.const (.str (Str.ofString "epd")))]))] [], .assignComp 4 (.comp (.var 1) (.call 32 []) 2 true (some (.bop false [(.cmp .Eq (.var 0) (.var 2)), (.cmp .Eq (.bin .add (.var 0) (.const (.str (Str.ofString "+")))) (.var 2))])) [3]), .ite (.cmp .Eq (.var 4) (.lst [])) [.ret (.bin .add (.var 1) (.lst [(.const (.str (Str.ofString "san")))]))] [], .append 1 (.idx (.var 4) (.const (.int 0)))],
  .ret (.var 1)]
/-- _law_verdict: has_avoid avoid has_best best move named -/
noncomputable def b_law_verdict : List S := [
  .ite (.cmp .Eq (.var 4) (.const (.int 0))) [.ret (.const (.bool false))] [],
  .assign 5 (.ite (.var 0) (.call 34 [(.var 1)]) (.lst [])),
  .ite (.bop true [(.cmp .NotEq (.var 5) (.lst [])), (.cmp .In (.idx (.var 5) (.neg (.const (.int 1)))) (.lst [(.const (.str (Str.ofString "epd"))), (.const (.str (Str.ofString "san")))]))]) [.ret (.idx (.var 5) (.neg (.const (.int 1))))] [],
  .ite (.cmp .In (.var 4) (.var 5)) [.ret (.const (.bool false))] [],
  .ite (.not (.var 2)) [.ret (.const (.bool true))] [],
  .assign 5 (.call 34 [(.var 3)]),
  .ite (.bop true [(.cmp .NotEq (.var 5) (.lst [])), (.cmp .In (.idx (.var 5) (.neg (.const (.int 1)))) (.lst [(.const (.str (Str.ofString "epd"))), (.const (.str (Str.ofString "san")))]))]) [.ret (.idx (.var 5) (.neg (.const (.int 1))))] [],
  .ret (.cmp .In (.var 4) (.var 5))]
/-- _law_merged: entries out entry place i -/
noncomputable def b_law_merged : List S := [
  .assignOwn 1 [],
  .forV (.one 2) (.var 0) [.assign 3 (.neg (.const (.int 1))), .forR 4 [(.len (.var 1))] [.ite (.cmp .Eq (.slice (.idx (.var 1) (.var 4)) .none (some (.const (.int 2)))) (.slice (.var 2) .none (some (.const (.int 2))))) [.assign 3 (.var 4)] []], .ite (.cmp .Lt (.var 3) (.const (.int 0))) [.append 1 (.var 2)] [.setIdx 1 (.var 3) (.bin .add (.slice (.var 2) .none (some (.const (.int 2)))) (.tup [(.min2 (.const (.int 65535)) (.bin .add (.idx (.idx (.var 1) (.var 3)) (.const (.int 2))) (.idx (.var 2) (.const (.int 2))))), (.idx (.idx (.var 1) (.var 3)) (.const (.int 3)))]))]],
  .ret (.var 1)]
/-- _law_blame: octets at old new -/
noncomputable def b_law_blame : List S := [
  .ite (.bin .mod (.len (.var 0)) (.const (.int 16))) [.ret (.len (.var 0))] [],
  .forR 1 [(.const (.int 16)), (.len (.var 0)), (.const (.int 16))] [.assign 2 (.slice (.var 0) (some (.bin .sub (.var 1) (.const (.int 16)))) (some (.var 1))), .assign 3 (.slice (.var 0) (some (.var 1)) (some (.bin .add (.var 1) (.const (.int 16))))), .ite (.bop false [(.cmp .Lt (.slice (.var 3) .none (some (.const (.int 8)))) (.slice (.var 2) .none (some (.const (.int 8))))), (.bop true [(.cmp .Eq (.slice (.var 3) .none (some (.const (.int 8)))) (.slice (.var 2) .none (some (.const (.int 8))))), (.cmp .Gt (.slice (.var 3) (some (.const (.int 10))) (some (.const (.int 12)))) (.slice (.var 2) (some (.const (.int 10))) (some (.const (.int 12)))))])]) [.ret (.var 1)] []],
  .ret (.neg (.const (.int 1)))]
/-- _law_bend: octets n place -/
noncomputable def b_law_bend : List S := [
  .ite (.bop false [(.cmp .Eq (.bin .mod (.var 1) (.const (.int 3))) (.const (.int 0))), (.cmp .Eq (.var 0) (.lst []))]) [.ret (.var 0)] [],
  .assign 2 (.bin .mod (.bin .fdiv (.var 1) (.const (.int 3))) (.len (.var 0))),
  .ite (.cmp .Eq (.bin .mod (.var 1) (.const (.int 3))) (.const (.int 1))) [.ret (.slice (.var 0) .none (some (.bin .sub (.len (.var 0)) (.bin .mod (.var 2) (.const (.int 17))))))] [],
  .ret (.bin .add (.bin .add (.slice (.var 0) .none (some (.var 2))) (.lst [(.bin .mod (.bin .fdiv (.bin .fdiv (.var 1) (.const (.int 3))) (.len (.var 0))) (.const (.int 256)))])) (.slice (.var 0) (some (.bin .add (.var 2) (.const (.int 1)))) .none))]
/-- _law_best: entries out entry -/
noncomputable def b_law_best : List S := [
  .assign 1 (.const (.int 0)),
  .forV (.one 2) (.var 0) [.ite (.bop true [(.cmp .Gt (.idx (.var 2) (.const (.int 2))) (.const (.int 0))), (.cmp .Eq (.idx (.var 2) (.const (.int 2))) (.max1 (.comp (.idx (.var 0) (.const (.int 2))) (.var 0) 1 false .none []))), (.cmp .Eq (.var 1) (.const (.int 0)))]) [.assign 1 (.idx (.var 2) (.const (.int 1)))] []],
  .ret (.var 1)]
/-- _law_solved: operations move -/
noncomputable def b_law_solved : List S := [
  .trySolved (.call 31 [(.const (.int 4)), (.const (.int 4)), (.glob (.list [(.int 4), (.int 2), (.int 0), (.int 6), (.int 0), (.int 0), (.int 1), (.int 0), (.int 0), (.int 0), (.int 0), (.int 10), (.int 12), (.int 0), (.int 0), (.int 0)])), (.comp (.var 1) (.call 32 []) 2 true .none []), (.var 0), (.var 1)])]
/-- law: script s first has_avoid has_best avoid best operations entries merged book octets blamed tried key move -/
noncomputable def b_law : List S := [
  .assign 1 (.slice (.var 0) .none (some (.const (.int 12)))),
  .assign 2 (.ite (.var 1) (.idx (.var 1) (.const (.int 0))) (.const (.int 0))),
  .assign 3 (.cmp .Eq (.bin .mod (.var 2) (.const (.int 2))) (.const (.int 0))),
  .assign 4 (.cmp .Lt (.bin .mod (.bin .fdiv (.var 2) (.const (.int 2))) (.const (.int 3))) (.const (.int 2))),
  .assign 5 (.call 33 [(.bin .fdiv (.var 2) (.const (.int 6)))]),
  .assign 6 (.call 33 [(.bin .fdiv (.bin .fdiv (.var 2) (.const (.int 6))) (.const (.int 5324)))]),
  .assign 7 (.lst [(.tup [(.const (.str (Str.ofString "id"))), (.lst [(.tup [(.glob (.int 0)), (.const (.str (Str.ofString "a test")))])])])]),
  .ite (.var 3) [.assign 7 (.bin .add (.var 7) (.lst [(.tup [(.const (.str (Str.ofString "am"))), (.var 5)])]))] [],
  .ite (.var 4) [.assign 7 (.bin .add (.lst [(.tup [(.const (.str (Str.ofString "bm"))), (.var 6)])]) (.var 7))] [],
  .assignComp 8 (.comp (.tup [(.bin .mod (.var 0) (.const (.int 3))), (.idx (.idx (.call 32 []) (.bin .mod (.bin .fdiv (.var 0) (.const (.int 3))) (.const (.int 8)))) (.const (.int 1))), (.bin .mod (.bin .fdiv (.var 0) (.const (.int 24))) (.const (.int 40000))), (.bin .mod (.bin .fdiv (.var 0) (.const (.int 7))) (.const (.int 100)))]) (.slice (.var 1) (some (.const (.int 2))) .none) 1 false .none []),
  .assign 9 (.call 11 [(.var 8)]),
  .ite (.cmp .NotEq (.var 9) (.call 36 [(.var 8)])) [.ret (.const (.bool false))] [],
  .assign 10 (.call 12 [(.var 9)]),
  .assign 11 (.call 38 [(.toList (.var 10)), (.ite (.cmp .Gt (.len (.var 1)) (.const (.int 1))) (.idx (.var 1) (.const (.int 1))) (.const (.int 0)))]),
  .assign 12 (.neg (.const (.int 1))),
  .tryBook (.call 16 [(.toBytes (.var 11))]) 12,
  .ite (.cmp .NotEq (.var 12) (.call 37 [(.var 11)])) [.ret (.const (.bool false))] [],
  .assignOwn 13 [(.idx (.idx (.call 32 []) (.bin .mod (.bin .fdiv (.var 2) (.const (.int 7))) (.const (.int 8)))) (.const (.int 1))), (.call 17 [(.comp (.slice (.var 0) (some (.const (.int 1))) .none) (.var 9) 1 false .none [])])],
  .ite (.cmp .NotEq (.idx (.var 13) (.const (.int 1))) (.call 39 [(.var 9)])) [.ret (.const (.bool false))] [],
  .forV (.one 14) (.lst [(.const (.int 0)), (.const (.int 1)), (.const (.int 2))]) [.append 13 (.call 17 [(.call 15 [(.var 10), (.var 14)])]), .ite (.cmp .NotEq (.idx (.var 13) (.neg (.const (.int 1)))) (.call 39 [(.comp (.var 0) (.var 9) 1 false (some (.cmp .Eq (.idx (.var 0) (.const (.int 0))) (.var 1))) [14])])) [.ret (.const (.bool false))] []],
  .forV (.one 15) (.var 13) [.ite (.cmp .NotEq (.call 40 [(.var 7), (.var 15)]) (.call 35 [(.var 3), (.var 5), (.var 4), (.var 6), (.var 15)])) [.ret (.const (.bool false))] []],
  .ret (.const (.bool true))]
noncomputable def FT : Nat → Option Fn
  | 0 => some ⟨1, b_kind_of⟩
  | 1 => some ⟨1, b_is_piece⟩
  | 2 => some ⟨1, b_letter_of⟩
  | 3 => some ⟨1, b_move_from⟩
  | 4 => some ⟨1, b_move_to⟩
  | 5 => some ⟨1, b_move_special⟩
  | 6 => some ⟨1, b_move_promo⟩
  | 7 => some ⟨4, b_put_number⟩
  | 8 => some ⟨5, b_get_number⟩
  | 9 => some ⟨8, b_pack_entry⟩
  | 10 => some ⟨4, b_unpack_entry⟩
  | 11 => some ⟨9, b_merge_entries⟩
  | 12 => some ⟨9, b_make_book⟩
  | 13 => some ⟨2, b_key_at⟩
  | 14 => some ⟨5, b_first_entry⟩
  | 15 => some ⟨5, b_find_entries⟩
  | 16 => some ⟨5, b_check_book⟩
  | 17 => some ⟨4, b_best_entry⟩
  | 18 => some ⟨2, b_file_of⟩
  | 19 => some ⟨2, b_rank_of⟩
  | 20 => some ⟨5, b_read_square⟩
  | 21 => some ⟨2, b_takes⟩
  | 22 => some ⟨3, b_kind_by_letter⟩
  | 23 => some ⟨1, b_cut_sign⟩
  | 24 => some ⟨3, b_cut_origin⟩
  | 25 => some ⟨10, b_split_san⟩
  | 26 => some ⟨11, b_fits⟩
  | 27 => some ⟨8, b_meant_by⟩
  | 28 => some ⟨8, b_pick_san⟩
  | 29 => some ⟨4, b_operands_of⟩
  | 30 => some ⟨10, b_named_moves⟩
  | 31 => some ⟨6, b_is_solved⟩
  | 32 => some ⟨0, b_law_moves⟩
  | 33 => some ⟨4, b_law_values⟩
  | 34 => some ⟨5, b_law_named⟩
  | 35 => some ⟨6, b_law_verdict⟩
  | 36 => some ⟨5, b_law_merged⟩
  | 37 => some ⟨4, b_law_blame⟩
  | 38 => some ⟨3, b_law_bend⟩
  | 39 => some ⟨3, b_law_best⟩
  | 40 => some ⟨2, b_law_solved⟩
  | 41 => some ⟨16, b_law⟩
  | _ => .none
end Mine
end

/-! text Q1 -/
section
set_option bootstrap.genMatcherCode false
set_option backward.match.sparseCases false
open PySem
set_option maxRecDepth 100000
set_option maxHeartbeats 2000000
namespace Mine.Q

theorem flat_int {n : Nat} {i : Int} : V.flat n (.int i) = true := by cases n <;> rfl
theorem flat_str {n : Nat} {i : Str} : V.flat n (.str i) = true := by cases n <;> rfl
theorem flat_bytes {n : Nat} {i : List UInt8} : V.flat n (.bytes i) = true := by cases n <;> rfl
theorem flat_bool {n : Nat} {i : Bool} : V.flat n (.bool i) = true := by cases n <;> rfl
theorem flat_none {n : Nat} : V.flat n .none = true := by cases n <;> rfl
theorem flat_tup {n : Nat} {l : List V} : V.flat (n + 1) (.tuple l) = l.all (V.flat n) := rfl

/-! operations on values, as rules -/
section
variable {a b : Int}
theorem small_of (h1 : -4294967296 < a) (h2 : a < 4294967296) : small a = true := by
  unfold small; simp; lia
theorem mid_of (h1 : 0 ≤ a) (h2 : a < 2 ^ 128) : mid a = true := by
  unfold mid; simp; lia
theorem bin_add : binV .add (.int a) (.int b) = some (.int (a + b)) := rfl
theorem bin_sub : binV .sub (.int a) (.int b) = some (.int (a - b)) := rfl
theorem bin_mul (ha : small a = true) (hb : small b = true) : binV .mul (.int a) (.int b) = some (.int (a * b)) := by
  show (if _ then _ else _) = _; rw [if_pos (by simp [ha, hb])]
theorem bin_fdiv (ha : 0 < b) (hb : small b = true) : binV .fdiv (.int a) (.int b) = some (.int (a / b)) := by
  show (if _ then _ else _) = _; rw [if_pos (by simp [ha, hb]), Int.fdiv_eq_ediv_of_nonneg _ (by lia)]
theorem bin_mod (ha : 0 < b) (hb : small b = true) : binV .mod (.int a) (.int b) = some (.int (a % b)) := by
  show (if _ then _ else _) = _; rw [if_pos (by simp [ha, hb]), Int.fmod_eq_emod_of_nonneg _ (by lia)]
theorem bin_shl (h0 : 0 ≤ a) (h1 : a < 2 ^ 64) (h2 : 0 ≤ b) (h3 : b ≤ 64) : binV .shl (.int a) (.int b) = some (.int (a * 2 ^ b.toNat)) := by
  show (if _ then _ else _) = _; rw [if_pos (by simp only [Bool.and_eq_true, decide_eq_true_eq]; exact ⟨⟨⟨h0, h1⟩, h2⟩, h3⟩)]
theorem bin_shr (h0 : 0 ≤ a) (h1 : a < 2 ^ 128) (h2 : 0 ≤ b) (h3 : b ≤ 64) : binV .shr (.int a) (.int b) = some (.int (a / 2 ^ b.toNat)) := by
  show (if _ then _ else _) = _
  rw [if_pos (by simp only [Bool.and_eq_true, decide_eq_true_eq]; exact ⟨⟨mid_of h0 h1, h2⟩, h3⟩), Int.fdiv_eq_ediv_of_nonneg _ (by have : (0:Int) < 2 ^ b.toNat := Int.pow_pos (by decide); lia)]
theorem bin_band (h0 : 0 ≤ a) (h1 : a < 2 ^ 128) (h2 : 0 ≤ b) (h3 : b < 2 ^ 128) : binV .band (.int a) (.int b) = some (.int ((a.toNat &&& b.toNat : Nat) : Int)) := by
  show (if _ then _ else _) = _; rw [if_pos (by rw [mid_of h0 h1, mid_of h2 h3]; rfl)]
theorem bin_bor (h0 : 0 ≤ a) (h1 : a < 2 ^ 128) (h2 : 0 ≤ b) (h3 : b < 2 ^ 128) : binV .bor (.int a) (.int b) = some (.int ((a.toNat ||| b.toNat : Nat) : Int)) := by
  show (if _ then _ else _) = _; rw [if_pos (by rw [mid_of h0 h1, mid_of h2 h3]; rfl)]
theorem bin_addL {l m : List V} (h : l.length + m.length ≤ 65536) : binV .add (.list l) (.list m) = some (.list (l ++ m)) := by
  exact if_pos h
theorem bin_addT {l m : List V} (h : l.length + m.length ≤ 65536) (h1 : l.isEmpty = false) (h2 : m.isEmpty = false) : binV .add (.tuple l) (.tuple m) = some (.tuple (l ++ m)) := by
  exact if_pos ⟨h, h1, h2⟩
theorem bin_addB {l m : List UInt8} (h : l.length + m.length ≤ 65536) : binV .add (.bytes l) (.bytes m) = some (.bytes (l ++ m)) := by
  exact if_pos h
theorem cmp_eq : cmpV .Eq (.int a) (.int b) = some (a == b) := rfl
theorem cmp_ne : cmpV .NotEq (.int a) (.int b) = some (!(a == b)) := rfl
theorem cmp_lt : cmpV .Lt (.int a) (.int b) = some (decide (a < b)) := rfl
theorem cmp_le : cmpV .LtE (.int a) (.int b) = some (decide (a ≤ b)) := rfl
theorem cmp_gt : cmpV .Gt (.int a) (.int b) = some (decide (b < a)) := rfl
theorem cmp_ge : cmpV .GtE (.int a) (.int b) = some (decide (b ≤ a)) := rfl
theorem idx_list {l : List V} {x : V} (h0 : 0 ≤ a) (h1 : l.length ≤ 65536) (h : l[a.toNat]? = some x) : idxV (.list l) (.int a) = some x := by
  have := (List.getElem?_eq_some_iff.mp h).1
  show (if small a = true then (idxNat a l.length).bind fun j => l[j]? else none) = _
  rw [if_pos (small_of (by lia) (by lia)), idxNat, if_pos h0, if_pos (show a < l.length by lia), Option.bind_some, h]
theorem idx_last {l : List V} (h1 : l.length ≤ 65536) (h : l ≠ []) : idxV (.list l) (.int (-1)) = l.getLast? := by
  have hl : 0 < l.length := List.length_pos_iff.mpr h
  show (if small (-1) = true then (idxNat (-1) l.length).bind fun j => l[j]? else none) = _
  rw [if_pos (by decide), idxNat, if_neg (show ¬ (0 : Int) ≤ -1 by lia), if_pos (show -(l.length : Int) ≤ -1 by lia), Option.bind_some,
    show (-1 + (l.length : Int)).toNat = l.length - 1 by lia, List.getLast?_eq_getElem?]
theorem idx_bytes {l : List UInt8} {x : UInt8} (h0 : 0 ≤ a) (h1 : l.length ≤ 65536) (h : l[a.toNat]? = some x) : idxV (.bytes l) (.int a) = some (.int (x.toNat : Int)) := by
  have := (List.getElem?_eq_some_iff.mp h).1
  show (if small a = true then (if 0 ≤ a ∧ l.length ≤ cap then (l[a.toNat]?).map fun b => V.int (b.toNat : Int) else none) else none) = _
  rw [if_pos (small_of (by lia) (by lia)), if_pos ⟨h0, h1⟩, h]; rfl
theorem len_list {l : List V} (h : l.length ≤ 65536) : lenV (.list l) = some (.int l.length) := by exact if_pos h
theorem len_bytes {l : List UInt8} (h : l.length ≤ 65536) : lenV (.bytes l) = some (.int l.length) := by exact if_pos h
theorem truV_list {l : List V} (h : l.length ≤ 65536) : truV (.list l) = some (!l.isEmpty) := by exact if_pos h
end

/-! expressions, as rules -/
section
variable {n : Nat} {σ : Env} {a b c : E} {x y z : V} {ex : Exc} {es : List E} {vs : List V} {o : Op} {t u : Bool}
theorem e_bin (h1 : evE FT n σ a = .ok x) (h2 : evE FT n σ b = .ok y) (h3 : binV o x y = some z) : evE FT (n + 1) σ (.bin o a b) = .ok z := by
  show (evE FT n σ a).bind _ = _; rw [h1, R.bind_ok, h2, R.bind_ok, h3]; rfl
theorem e_idx (h1 : evE FT n σ a = .ok x) (h2 : evE FT n σ b = .ok y) (h3 : idxV x y = some z) : evE FT (n + 1) σ (.idx a b) = .ok z := by
  show (evE FT n σ a).bind _ = _; rw [h1, R.bind_ok, h2, R.bind_ok, h3]; rfl
theorem e_cmp {k : CmpOp} (h1 : evE FT n σ a = .ok x) (h2 : evE FT n σ b = .ok y) (h3 : cmpV k x y = some t) : evE FT (n + 1) σ (.cmp k a b) = .ok (.bool t) := by
  show (evE FT n σ a).bind _ = _; rw [h1, R.bind_ok, h2, R.bind_ok, h3]; rfl
theorem t_cmp {k : CmpOp} (h1 : evE FT n σ a = .ok x) (h2 : evE FT n σ b = .ok y) (h3 : cmpV k x y = some t) : evT FT (n + 1) σ (.cmp k a b) = .ok t := by
  show (evE FT n σ a).bind _ = _; rw [h1, R.bind_ok, h2, R.bind_ok, h3]; rfl
theorem e_neg {i : Int} (h1 : evE FT n σ a = .ok (.int i)) : evE FT (n + 1) σ (.neg a) = .ok (.int (-i)) := by
  show (evE FT n σ a).bind _ = _; rw [h1]; rfl
theorem e_len (h1 : evE FT n σ a = .ok x) (h3 : lenV x = some z) : evE FT (n + 1) σ (.len a) = .ok z := by
  show (evE FT n σ a).bind _ = _; rw [h1, R.bind_ok, h3]; rfl
theorem e_toList (h1 : evE FT n σ a = .ok x) (h3 : toListV x = some z) : evE FT (n + 1) σ (.toList a) = .ok z := by
  show (evE FT n σ a).bind _ = _; rw [h1, R.bind_ok, h3]; rfl
theorem e_toBytes (h1 : evE FT n σ a = .ok x) (h3 : toBytesV x = some z) : evE FT (n + 1) σ (.toBytes a) = .ok z := by
  show (evE FT n σ a).bind _ = _; rw [h1, R.bind_ok, h3]; rfl
theorem e_sorted (h1 : evE FT n σ a = .ok x) (h3 : sortV x = some z) : evE FT (n + 1) σ (.sorted a) = .ok z := by
  show (evE FT n σ a).bind _ = _; rw [h1, R.bind_ok, h3]; rfl
theorem e_max1 (h1 : evE FT n σ a = .ok x) (h3 : maxV x = some z) : evE FT (n + 1) σ (.max1 a) = .ok z := by
  show (evE FT n σ a).bind _ = _; rw [h1, R.bind_ok, h3]; rfl
theorem e_tup (h : evEs FT n σ es = .ok vs) (hl : vs.length ≤ 65536) : evE FT (n + 1) σ (.tup es) = .ok (.tuple vs) := by
  show (evEs FT n σ es).bind _ = _; rw [h]; exact if_pos hl
theorem e_lst (h : evEs FT n σ es = .ok vs) (hl : vs.length ≤ 65536) : evE FT (n + 1) σ (.lst es) = .ok (.list vs) := by
  show (evEs FT n σ es).bind _ = _; rw [h]; exact if_pos hl
theorem e_call {f : Nat} {r : R V} (h : evEs FT n σ es = .ok vs) (k : evC FT n f vs = r) : evE FT (n + 1) σ (.call f es) = r := by
  show (evEs FT n σ es).bind _ = _; rw [h]; exact k
theorem es_nil : evEs FT (n + 1) σ [] = .ok [] := rfl
theorem es_cons (h1 : evE FT n σ a = .ok x) (h2 : evEs FT n σ es = .ok vs) : evEs FT (n + 1) σ (a :: es) = .ok (x :: vs) := by
  show (evE FT n σ a).bind _ = _; rw [h1, R.bind_ok, h2]; rfl
theorem e_slice {lo hi : Option E} {l h : Option V} (h1 : evE FT n σ a = .ok x) (h2 : evO FT n σ lo = .ok l) (h3 : evO FT n σ hi = .ok h) (h4 : sliceV x l h = some z) : evE FT (n + 1) σ (.slice a lo hi) = .ok z := by
  show (evE FT n σ a).bind _ = _; rw [h1, R.bind_ok, h2, R.bind_ok, h3, R.bind_ok, h4]; rfl
theorem o_none : evO FT (n + 1) σ .none = .ok .none := rfl
theorem o_some (h : evE FT n σ a = .ok x) : evO FT (n + 1) σ (some a) = .ok (some x) := by
  show (evE FT n σ a).bind _ = _; rw [h]; rfl
theorem t_val {e : E} (he : evT FT (n + 1) σ e = (evE FT n σ e).bind fun v => R.ofOpt (truV v)) (h1 : evE FT n σ e = .ok x) (h2 : truV x = some t) : evT FT (n + 1) σ e = .ok t := by
  rw [he, h1, R.bind_ok, h2]; rfl
theorem t_or : evT FT (n + 1) σ (.bop t es) = evTs FT n σ t es := rfl
theorem ts_nil : evTs FT (n + 1) σ t [] = .ok t := rfl
theorem ts_go (h1 : evT FT n σ a = .ok t) (h2 : evTs FT n σ t es = .ok u) : evTs FT (n + 1) σ t (a :: es) = .ok u := by
  show (evT FT n σ a).bind _ = _
  rw [h1, R.bind_ok, if_pos (by simp)]; exact h2
theorem ts_stop (h1 : evT FT n σ a = .ok (!t)) : evTs FT (n + 1) σ t (a :: es) = .ok (!t) := by
  show (evT FT n σ a).bind _ = _
  rw [h1, R.bind_ok, if_neg (by simp)]
theorem e_ite {r : R V} (h1 : evT FT n σ c = .ok t) (h2 : (if t then evE FT n σ a else evE FT n σ b) = r) : evE FT (n + 1) σ (.ite c a b) = r := by
  show (evT FT n σ c).bind _ = _; rw [h1]; exact h2
end

/-! statements, as rules -/
noncomputable def flV : Flow → V
  | .ret v => v
  | .next => .none
section
variable {n : Nat} {σ σ' : Env} {s : S} {ss : List S} {v : V} {x : Exc} {e : E} {es : List E} {i : Nat} {fl : Flow} {r : R (Env × Flow)}
theorem ss_nil : exSs FT (n + 1) σ [] = .ok (σ, .next) := rfl
theorem ss_next (h : exS FT n σ s = .ok (σ', .next)) (k : exSs FT n σ' ss = r) : exSs FT (n + 1) σ (s :: ss) = r := by
  show (exS FT n σ s).bind _ = _; rw [h]; exact k
theorem ss_ret (h : exS FT n σ s = .ok (σ', .ret v)) : exSs FT (n + 1) σ (s :: ss) = .ok (σ', .ret v) := by
  show (exS FT n σ s).bind _ = _; rw [h]; rfl
theorem ss_exc (h : exS FT n σ s = .exc x) : exSs FT (n + 1) σ (s :: ss) = .exc x := by
  show (exS FT n σ s).bind _ = _; rw [h]; rfl
theorem s_assign (h : evE FT n σ e = .ok v) (hv : (v.flat 8 || noOwn σ) = true) : exS FT (n + 1) σ (.assign i e) = .ok (σ.set i (.val v), .next) := by
  show (evE FT n σ e).bind _ = _; rw [h]; exact if_pos hv
theorem s_assignComp {l : List V} (h : evE FT n σ e = .ok (.list l)) (hv : l.all (V.flat 8) = true) : exS FT (n + 1) σ (.assignComp i e) = .ok (σ.set i (.val (.list l)), .next) := by
  show (evE FT n σ e).bind _ = _; rw [h]; exact if_pos hv
theorem s_assignOwn {l : List V} (h : evEs FT n σ es = .ok l) (hv : l.all (V.flat 8) = true) (hl : l.length ≤ 65536) : exS FT (n + 1) σ (.assignOwn i es) = .ok (σ.set i (.own l), .next) := by
  show (evEs FT n σ es).bind _ = _; rw [h]; exact if_pos (by rw [hv]; exact decide_eq_true hl)
theorem s_aug {x y z : V} (h1 : (σ[i]?).bind slotV = some x) (h : evE FT n σ e = .ok y) (h2 : binV .add x y = some z) (hz : (∃ a, z = .int a) ∨ ∃ a, z = .bytes a) : exS FT (n + 1) σ (.aug i .add e) = .ok (σ.set i (.val z), .next) := by
  show (R.ofOpt _).bind _ = _
  rw [h1, R.ofOpt_some, R.bind_ok, h, R.bind_ok, h2]
  rcases hz with ⟨a, rfl⟩ | ⟨a, rfl⟩ <;> rfl
theorem s_append {l : List V} (h1 : ownAt σ i = some l) (h : evE FT n σ e = .ok v) (hv : v.flat 8 = true) (hl : l.length < 65536) : exS FT (n + 1) σ (.append i e) = .ok (σ.set i (.own (l ++ [v])), .next) := by
  show (R.ofOpt _).bind _ = _
  rw [h1, R.ofOpt_some, R.bind_ok, h, R.bind_ok]
  exact if_pos (by rw [hv]; exact decide_eq_true hl)
theorem s_setIdx {l : List V} {k : E} {j : Int} (h1 : ownAt σ i = some l) (h : evE FT n σ e = .ok v) (hk : evE FT n σ k = .ok (.int j)) (hv : v.flat 8 = true) (h0 : 0 ≤ j) (hj : j < l.length) (hs : l.length ≤ 65536) : exS FT (n + 1) σ (.setIdx i k e) = .ok (σ.set i (.own (l.set j.toNat v)), .next) := by
  show (evE FT n σ e).bind _ = _
  rw [h, R.bind_ok, h1, R.ofOpt_some, R.bind_ok, hk, R.bind_ok]
  exact if_pos (by rw [hv, small_of (by lia) (by lia)]; simp [h0, hj])
theorem s_assignTup {is : List Nat} (h : evE FT n σ e = .ok v) (hb : bindTgt σ (.many is) v = some σ') : exS FT (n + 1) σ (.assignTup is e) = .ok (σ', .next) := by
  show (evE FT n σ e).bind _ = _; rw [h, R.bind_ok, hb]; rfl
theorem s_ret (h : evE FT n σ e = .ok v) : exS FT (n + 1) σ (.ret e) = .ok (σ, .ret v) := by
  show (evE FT n σ e).bind _ = _; rw [h]; rfl
theorem s_retX (h : evE FT n σ e = .exc x) : exS FT (n + 1) σ (.ret e) = .exc x := by
  show (evE FT n σ e).bind _ = _; rw [h]; rfl
theorem s_ite {c : E} {a b : List S} {t : Bool} (h : evT FT n σ c = .ok t) (k : (if t then exSs FT n σ a else exSs FT n σ b) = r) : exS FT (n + 1) σ (.ite c a b) = r := by
  show (evT FT n σ c).bind _ = _; rw [h]; exact k
theorem s_iteT {c : E} {a b : List S} (h : evT FT n σ c = .ok true) (k : exSs FT n σ a = r) : exS FT (n + 1) σ (.ite c a b) = r := s_ite h k
theorem s_iteF {c : E} {a b : List S} (h : evT FT n σ c = .ok false) (k : exSs FT n σ b = r) : exS FT (n + 1) σ (.ite c a b) = r := s_ite h k
theorem s_forR {args : List E} {body : List S} {vs l : List V} (h : evEs FT n σ args = .ok vs) (hr : rangeV vs = some l) (k : forL (fun σ v => exSs FT n (σ.set i (.val v)) body) l σ = r) : exS FT (n + 1) σ (.forR i args body) = r := by
  show (evEs FT n σ args).bind _ = _; rw [h, R.bind_ok, hr]; exact k
theorem s_forIter {t : Tgt} {j : Nat} {body : List S} {l : List V} (h : iterAt σ j = some (l, σ')) (k : forL (fun σ v => (R.ofOpt (bindTgt σ t v)).bind fun σ' => exSs FT n σ' body) l σ' = r) : exS FT (n + 1) σ (.forV t (.var j) body) = r := by
  show (R.ofOpt (iterAt σ j)).bind _ = _; rw [h]; exact k
theorem s_forVar {t : Tgt} {j : Nat} {body : List S} {l : List V} (h : σ[j]? = some (.val (.list l))) (k : forL (fun σ v => (R.ofOpt (bindTgt σ t v)).bind fun σ' => exSs FT n σ' body) l σ = r) : exS FT (n + 1) σ (.forV t (.var j) body) = r :=
  s_forIter (by unfold iterAt; rw [h]) k
theorem s_forOwn {t : Tgt} {j : Nat} {body : List S} {l : List V} (h : σ[j]? = some (.own l)) (k : forL (fun σ v => (R.ofOpt (bindTgt σ t v)).bind fun σ' => exSs FT n σ' body) l (σ.set j (.val (.list l))) = r) : exS FT (n + 1) σ (.forV t (.var j) body) = r :=
  s_forIter (by unfold iterAt; rw [h]) k
theorem c_call {f : Nat} {vs : List V} {fn : Fn} (hf : FT f = some fn) (h : exSs FT n (vs.map .val ++ List.replicate (fn.slots - vs.length) .unb) fn.body = .ok (σ', fl)) : evC FT (n + 1) f vs = .ok (flV fl) := by
  show (match FT f with | .none => R.stuck | some fn => _) = _
  rw [hf]
  show (exSs FT n _ fn.body).bind _ = _
  rw [h]; cases fl <;> rfl
theorem c_ret {f : Nat} {vs : List V} {fn : Fn} (hf : FT f = some fn) (h : exSs FT n (vs.map .val ++ List.replicate (fn.slots - vs.length) .unb) fn.body = .ok (σ', .ret v)) : evC FT (n + 1) f vs = .ok v := c_call hf h
theorem c_exc {f : Nat} {vs : List V} {fn : Fn} (hf : FT f = some fn) (h : exSs FT n (vs.map .val ++ List.replicate (fn.slots - vs.length) .unb) fn.body = .exc x) : evC FT (n + 1) f vs = .exc x := by
  show (match FT f with | .none => R.stuck | some fn => _) = _
  rw [hf]
  show (exSs FT n _ fn.body).bind _ = _
  rw [h]; rfl
end
theorem forL_nil {f : Env → V → R (Env × Flow)} {σ : Env} : forL f [] σ = .ok (σ, .next) := rfl
theorem forL_next {f : Env → V → R (Env × Flow)} {σ σ' : Env} {v : V} {l : List V} {r : R (Env × Flow)} (h : f σ v = .ok (σ', .next)) (k : forL f l σ' = r) : forL f (v :: l) σ = r := by
  show (f σ v).bind _ = _; rw [h]; exact k
theorem forL_ret {f : Env → V → R (Env × Flow)} {σ σ' : Env} {v w : V} {l : List V} (h : f σ v = .ok (σ', .ret w)) : forL f (v :: l) σ = .ok (σ', .ret w) := by
  show (f σ v).bind _ = _; rw [h]; rfl
theorem forL_exc {f : Env → V → R (Env × Flow)} {σ : Env} {v : V} {x : Exc} {l : List V} (h : f σ v = .exc x) : forL f (v :: l) σ = .exc x := by
  show (f σ v).bind _ = _; rw [h]; rfl

theorem or_byte (x : Nat) (b : UInt8) : x * 256 ||| b.toNat = x * 256 + b.toNat := by
  have h : b.toNat < 2 ^ 8 := b.toNat_lt
  have := Nat.shiftLeft_add_eq_or_of_lt h x
  rw [Nat.shiftLeft_eq] at this
  exact this.symm

/-- the ints from a on -/
noncomputable def rng (a : Int) (m : Nat) : List V := (List.range m).map fun (k : Nat) => V.int (a + (k : Int))
theorem rng_zero (a : Int) : rng a 0 = [] := by simp [rng]
theorem rng_succ (a : Int) (m : Nat) : rng a (m + 1) = .int a :: rng (a + 1) m := by
  unfold rng
  rw [List.range_succ_eq_map, List.map_cons, List.map_map]
  congr 1
  · simp
  · refine List.map_congr_left fun k _ => ?_
    show V.int (a + ((k + 1 : Nat) : Int)) = V.int (a + 1 + (k : Int))
    rw [Int.natCast_add]; congr 1; lia
theorem range_two {a b : Int} (h1 : -4294967296 < a) (h2 : a < 4294967296) (h3 : -4294967296 < b) (h4 : b < 4294967296) : rangeV [.int a, .int b] = some (rng a (b - a).toNat) := by
  show (if _ then _ else _) = _
  rw [if_pos (by rw [small_of h1 h2, small_of h3 h4]; rfl)]
  unfold rng
  have : (Builtin.Range.rangeSize a b 1).toNat = (b - a).toNat := by
    unfold Builtin.Range.rangeSize
    rw [if_pos (by decide)]
    split <;> lia
  rw [this]
  congr 1
  refine List.map_congr_left fun k _ => ?_
  rw [Int.mul_one]
theorem range_one {b : Int} (h3 : -4294967296 < b) (h4 : b < 4294967296) : rangeV [.int b] = some (rng 0 b.toNat) := by
  have := range_two (a := 0) (b := b) (by lia) (by lia) h3 h4
  rw [Int.sub_zero] at this
  exact this

/-! get_number -/
noncomputable def beFrom (num : Nat) (l : List UInt8) : Nat := l.foldl (fun n b => n * 256 + b.toNat) num
noncomputable def be (l : List UInt8) : Nat := beFrom 0 l

theorem ev_get (n : Nat) (bs : List UInt8) (a s p num z u y : Int) (sl : Slot) (e1 : binV .shl (.int num) (.int 8) = some (.int z)) (e2 : idxV (.bytes bs) (.int p) = some (.int u)) (e3 : binV .bor (.int z) (.int u) = some (.int y)) :
    exSs FT (n + 5) (([.val (.bytes bs), .val (.int a), .val (.int s), .val (.int num), sl] : Env).set 4 (.val (.int p))) [.assign 3 (.bin .bor (.bin .shl (.var 3) (.const (.int 8))) (.idx (.var 0) (.var 4)))] = .ok ([.val (.bytes bs), .val (.int a), .val (.int s), .val (.int y), .val (.int p)], .next) :=
  ss_next (s_assign (v := .int y) (e_bin (e_bin rfl rfl e1) (e_idx rfl rfl e2) e3) rfl) ss_nil
theorem step_get (n : Nat) (bs : List UInt8) (a s : Int) (num : Nat) (p : Int) (sl : Slot) (b : UInt8) (h1 : num < 72057594037927936) (hp : 0 ≤ p) (hl : bs.length ≤ 1000) (hb : bs[p.toNat]? = some b) :
    exSs FT (n + 5) (([.val (.bytes bs), .val (.int a), .val (.int s), .val (.int num), sl] : Env).set 4 (.val (.int p))) [.assign 3 (.bin .bor (.bin .shl (.var 3) (.const (.int 8))) (.idx (.var 0) (.var 4)))] =
      .ok ([.val (.bytes bs), .val (.int a), .val (.int s), .val (.int ((num * 256 + b.toNat : Nat) : Int)), .val (.int p)], .next) := by
  have e1 : binV .shl (.int num) (.int 8) = some (.int (num * 256)) := bin_shl (a := num) (b := 8) (by lia) (by lia) (by decide) (by decide)
  have e2 := idx_bytes (l := bs) hp (by lia) hb
  have hb8 := b.toNat_lt
  have e3 := bin_bor (a := num * 256) (b := b.toNat) (by lia) (by lia) (by lia) (by lia)
  have e4 : ((((num : Int) * 256).toNat ||| (b.toNat : Int).toNat : Nat) : Int) = (num * 256 + b.toNat : Nat) := by
    have : ((num : Int) * 256).toNat = num * 256 := by lia
    rw [this, Int.toNat_natCast, or_byte]
  rw [e4] at e3
  exact ev_get n bs a s p num _ _ _ sl e1 e2 e3

theorem p7 : (256 : Nat) ^ 7 = 72057594037927936 := by decide
theorem loop_get (n : Nat) (bs : List UInt8) (a0 s : Int) (hl : bs.length ≤ 1000) : ∀ (m a j num : Nat) (sl : Slot), a + m ≤ bs.length → num < 256 ^ j → j + m ≤ 8 →
    ∃ sl', forL (fun σ v => exSs FT (n + 5) (σ.set 4 (.val v)) [.assign 3 (.bin .bor (.bin .shl (.var 3) (.const (.int 8))) (.idx (.var 0) (.var 4)))]) (rng a m) [.val (.bytes bs), .val (.int a0), .val (.int s), .val (.int num), sl] =
      .ok ([.val (.bytes bs), .val (.int a0), .val (.int s), .val (.int (beFrom num ((bs.drop a).take m) : Nat)), sl'], .next) := by
  intro m
  induction m with
  | zero => intro a j num sl _ _ _; exact ⟨sl, by simp [rng_zero, forL, beFrom]⟩
  | succ m ih =>
    intro a j num sl h1 h2 h3
    have ha : a < bs.length := by lia
    have h7 : 256 ^ j ≤ 256 ^ 7 := Nat.pow_le_pow_right (by decide) (show j ≤ 7 by lia)
    have h56 : num < 72057594037927936 := Nat.lt_of_lt_of_le h2 (p7 ▸ h7)
    have hs := step_get n bs a0 s num a sl bs[a] h56 (by lia) hl (by simp [ha])
    have hb8 := bs[a].toNat_lt
    obtain ⟨sl', e⟩ := ih (a + 1) (j + 1) (num * 256 + bs[a].toNat) (.val (.int a)) (by lia) (by rw [Nat.pow_succ]; lia) (by lia)
    refine ⟨sl', ?_⟩
    rw [rng_succ]
    simp only [forL]
    rw [hs, R.bind_ok]
    simp only
    rw [show ((a : Int) + 1) = ((a + 1 : Nat) : Int) by lia, e]
    have : (bs.drop a).take (m + 1) = bs[a] :: (bs.drop (a + 1)).take m := by
      rw [List.drop_eq_getElem_cons ha, List.take_succ_cons]
    rw [this]
    rfl

theorem get_number {n : Nat} {bs : List UInt8} {a s : Nat} (hl : bs.length ≤ 1000) (h : a + s ≤ bs.length) (hs : s ≤ 8) : evC FT (n + 9) 8 [.bytes bs, .int a, .int s] = .ok (.int (be ((bs.drop a).take s) : Nat)) := by
  obtain ⟨sl', e⟩ := loop_get n bs a s hl s a 0 0 .unb h (by decide) (by lia)
  have e1 := range_two (a := a) (b := a + s) (by lia) (by lia) (by lia) (by lia)
  rw [show ((a : Int) + s - a).toNat = s by lia] at e1
  refine c_ret rfl (ss_next (s_assign (v := .int 0) rfl rfl) (ss_next (s_forR (vs := [.int a, .int (a + s)]) rfl e1 e) (ss_ret (s_ret rfl))))
end Mine.Q
end

/-! text Q2 -/
section
set_option bootstrap.genMatcherCode false
set_option backward.match.sparseCases false
open PySem
set_option maxRecDepth 100000
set_option maxHeartbeats 2000000
namespace Mine.Q
noncomputable abbrev Q4 := Int × Int × Int × Int
noncomputable def qv (e : Q4) : V := .tuple [.int e.1, .int e.2.1, .int e.2.2.1, .int e.2.2.2]
noncomputable def keyEq (e o : Q4) : Bool := o.1 == e.1 && (o.2.1 == e.2.1 && true)
noncomputable def top (a : Int) : Int := if 65535 < a then 65535 else a
noncomputable def mput (out : List Q4) (e : Q4) (j : Nat) : List Q4 := out.set j (e.1, e.2.1, top ((out.getD j (0, 0, 0, 0)).2.2.1 + e.2.2.1), (out.getD j (0, 0, 0, 0)).2.2.2)
noncomputable def mstep (out : List Q4) (e : Q4) : List Q4 := match out.findIdx? (keyEq e) with
  | some j => mput out e j
  | none => out ++ [e]
noncomputable def mrg (es : List Q4) : List Q4 := es.foldl mstep []

theorem qv_flat (e : Q4) : V.flat 8 (qv e) = true := by
  show [V.int e.1, .int e.2.1, .int e.2.2.1, .int e.2.2.2].all (V.flat 7) = true
  simp [flat_int]

/-! merge_entries -/
noncomputable def envM (es out : List Q4) (d : List ((Int × Int) × Int)) (k m w l p o : Slot) : Env := [.val (.list (es.map qv)), .dict d, .own (out.map qv), k, m, w, l, p, o]

theorem step_new (n : Nat) (es out : List Q4) (d) (e : Q4) (k m w l p o : Slot) (h : d.lookup (e.1, e.2.1) = none) (hd : d.length < 65536) (ho : out.length < 65536) :
    (R.ofOpt (bindTgt (envM es out d k m w l p o) (.many [3, 4, 5, 6]) (qv e))).bind (fun σ' => exSs FT (n + 20) σ' [.ite (.inDict 1 (.var 3) (.var 4)) [.assign 7 (.getDict 1 (.var 3) (.var 4)), .assign 8 (.idx (.var 2) (.var 7)), .setIdx 2 (.var 7) (.tup [(.var 3), (.var 4), (.min2 (.bin .add (.idx (.var 8) (.const (.int 2))) (.var 5)) (.glob (.int 65535))), (.idx (.var 8) (.const (.int 3)))])] [.setDict 1 (.var 3) (.var 4) (.len (.var 2)), .append 2 (.tup [(.var 3), (.var 4), (.var 5), (.var 6)])]]) =
      .ok (envM es (out ++ [e]) (d ++ [((e.1, e.2.1), (out.length : Int))]) (.val (.int e.1)) (.val (.int e.2.1)) (.val (.int e.2.2.1)) (.val (.int e.2.2.2)) p o, .next) := by
  obtain ⟨ek, em, ew, el⟩ := e
  have hb : bindTgt (envM es out d k m w l p o) (.many [3, 4, 5, 6]) (qv (ek, em, ew, el)) = some (envM es out d (.val (.int ek)) (.val (.int em)) (.val (.int ew)) (.val (.int el)) p o) := rfl
  rw [hb, R.ofOpt_some, R.bind_ok]
  have hc : evT FT (n + 18) (envM es out d (.val (.int ek)) (.val (.int em)) (.val (.int ew)) (.val (.int el)) p o) (.inDict 1 (.var 3) (.var 4)) = .ok false := by
    show R.ofOpt (some ((d.lookup (ek, em)).isSome)) = _
    rw [h]; rfl
  have hl : lenV (.list (out.map qv)) = some (.int out.length) := by rw [len_list (by simp; lia)]; simp
  refine ss_next (s_iteF hc (ss_next (σ' := envM es out (d ++ [((ek, em), (out.length : Int))]) (.val (.int ek)) (.val (.int em)) (.val (.int ew)) (.val (.int el)) p o) ?_ (ss_next (s_append (l := out.map qv) (v := qv (ek, em, ew, el)) rfl rfl (qv_flat _) (by simpa using ho)) (by rw [ss_nil])))) ?_
  · show (R.ofOpt (lenV (.list (out.map qv)))).bind _ = _
    rw [hl]
    show (if (d.lookup (ek, em)).isNone && decide (d.length < cap) then _ else R.stuck) = _
    rw [h]; exact if_pos (decide_eq_true hd)
  · rw [ss_nil]
    show R.ok (envM es out _ _ _ _ _ p o |>.set 2 _, _) = _
    unfold envM
    simp

theorem getElem_qv {out : List Q4} {j : Nat} (h : j < out.length) : (out.map qv)[j]? = some (qv (out.getD j (0, 0, 0, 0))) := by
  rw [List.getElem?_map, List.getElem?_eq_getElem h]
  simp [h]

theorem step_old (n : Nat) (es out : List Q4) (d) (e : Q4) (j : Nat) (k m w l p o : Slot) (h : d.lookup (e.1, e.2.1) = some (j : Int)) (hj : j < out.length) (ho : out.length < 65536) :
    (R.ofOpt (bindTgt (envM es out d k m w l p o) (.many [3, 4, 5, 6]) (qv e))).bind (fun σ' => exSs FT (n + 20) σ' [.ite (.inDict 1 (.var 3) (.var 4)) [.assign 7 (.getDict 1 (.var 3) (.var 4)), .assign 8 (.idx (.var 2) (.var 7)), .setIdx 2 (.var 7) (.tup [(.var 3), (.var 4), (.min2 (.bin .add (.idx (.var 8) (.const (.int 2))) (.var 5)) (.glob (.int 65535))), (.idx (.var 8) (.const (.int 3)))])] [.setDict 1 (.var 3) (.var 4) (.len (.var 2)), .append 2 (.tup [(.var 3), (.var 4), (.var 5), (.var 6)])]]) =
      .ok (envM es (mput out e j) d (.val (.int e.1)) (.val (.int e.2.1)) (.val (.int e.2.2.1)) (.val (.int e.2.2.2)) (.val (.int j)) (.val (qv (out.getD j (0, 0, 0, 0)))), .next) := by
  obtain ⟨ek, em, ew, el⟩ := e
  have hb : bindTgt (envM es out d k m w l p o) (.many [3, 4, 5, 6]) (qv (ek, em, ew, el)) = some (envM es out d (.val (.int ek)) (.val (.int em)) (.val (.int ew)) (.val (.int el)) p o) := rfl
  rw [hb, R.ofOpt_some, R.bind_ok]
  have hc : evT FT (n + 18) (envM es out d (.val (.int ek)) (.val (.int em)) (.val (.int ew)) (.val (.int el)) p o) (.inDict 1 (.var 3) (.var 4)) = .ok true := by
    show R.ofOpt (some ((d.lookup (ek, em)).isSome)) = _
    rw [h]; rfl
  have hi : idxV (.list (out.map qv)) (.int j) = some (qv (out.getD j (0, 0, 0, 0))) := idx_list (by lia) (by simp; lia) (by rw [Int.toNat_natCast]; exact getElem_qv hj)
  refine ss_next (s_iteT hc (ss_next (σ' := envM es out d (.val (.int ek)) (.val (.int em)) (.val (.int ew)) (.val (.int el)) (.val (.int j)) o) (s_assign (v := .int j) ?_ rfl)
    (ss_next (σ' := envM es out d (.val (.int ek)) (.val (.int em)) (.val (.int ew)) (.val (.int el)) (.val (.int j)) (.val (qv (out.getD j (0, 0, 0, 0))))) (s_assign (v := qv (out.getD j (0, 0, 0, 0))) ?_ (by rw [qv_flat]; rfl))
      (ss_next (s_setIdx (l := out.map qv) (j := j) (v := qv (ek, em, top ((out.getD j (0, 0, 0, 0)).2.2.1 + ew), (out.getD j (0, 0, 0, 0)).2.2.2)) rfl ?_ rfl (qv_flat _) (by lia) (by simpa using hj) (by simp; lia)) (by rw [ss_nil]))))) ?_
  · show (R.ofOpt ((d.lookup (ek, em)).map V.int)) = _
    rw [h]; rfl
  · show R.ofOpt (idxV (.list (out.map qv)) (.int j)) = _
    rw [hi]; rfl
  · rfl
  · rw [ss_nil]
    unfold envM mput
    simp [List.map_set]

noncomputable def DictOk (out : List Q4) (d : List ((Int × Int) × Int)) : Prop := ∀ e : Q4, d.lookup (e.1, e.2.1) = (out.findIdx? (keyEq e)).map fun j => (j : Int)

theorem keyEq_self (e : Q4) : keyEq e e = true := by simp [keyEq]
theorem keyEq_key {e o : Q4} : keyEq e o = true ↔ (o.1, o.2.1) = (e.1, e.2.1) := by simp [keyEq]

theorem dict_new {out : List Q4} {d} {e : Q4} (h : DictOk out d) : DictOk (out ++ [e]) (d ++ [((e.1, e.2.1), (out.length : Int))]) := by
  intro e'
  rw [List.lookup_append, h e', List.findIdx?_append]
  cases hf : out.findIdx? (keyEq e') with
  | some j => simp
  | none =>
    simp only [Option.map_none, Option.none_or, List.lookup_cons, List.lookup_nil, List.findIdx?_cons, List.findIdx?_nil]
    by_cases q : keyEq e' e = true
    · rw [q]
      have := keyEq_key.mp q
      rw [show ((e'.1, e'.2.1) == (e.1, e.2.1)) = true from by rw [this]; simp]
      simp
    · rw [Bool.not_eq_true] at q
      rw [q]
      have : ((e'.1, e'.2.1) == (e.1, e.2.1)) = false := by
        rw [beq_eq_false_iff_ne]
        intro z
        rw [keyEq_key.mpr z.symm] at q; cases q
      rw [this]
      simp

theorem getD_of {out : List Q4} {j : Nat} (h : j < out.length) : out.getD j (0, 0, 0, 0) = out[j] := by simp [h]

theorem dict_old {out : List Q4} {d} {e : Q4} {j : Nat} (h : DictOk out d) (hj : out.findIdx? (keyEq e) = some j) : DictOk (mput out e j) d := by
  intro e'
  rw [h e']
  obtain ⟨hl, hk, _⟩ := List.findIdx?_eq_some_iff_getElem.mp hj
  have : out.map (keyEq e') = (mput out e j).map (keyEq e') := by
    unfold mput
    rw [List.map_set]
    refine (List.ext_getElem (by simp) fun i h1 h2 => ?_)
    rw [List.getElem_set]
    split
    · rename_i q
      subst q
      rw [List.getElem_map]
      have := keyEq_key.mp hk
      simp only [keyEq]
      have e1 := congrArg Prod.fst this
      have e2 := congrArg Prod.snd this
      simp only at e1 e2
      rw [e1, e2]
    · rfl
  have f : ∀ l : List Q4, l.findIdx? (keyEq e') = (l.map (keyEq e')).findIdx? id := fun l => by rw [List.findIdx?_map]; rfl
  rw [f out, this, ← f]

theorem merge_loop (n : Nat) (es₀ : List Q4) : ∀ (es out : List Q4) (d) (k m w l p o : Slot), DictOk out d → d.length ≤ out.length → out.length + es.length < 60000 →
    ∃ d' k' m' w' l' p' o', forL (fun σ v => (R.ofOpt (bindTgt σ (.many [3, 4, 5, 6]) v)).bind fun σ' => exSs FT (n + 20) σ' [.ite (.inDict 1 (.var 3) (.var 4)) [.assign 7 (.getDict 1 (.var 3) (.var 4)), .assign 8 (.idx (.var 2) (.var 7)), .setIdx 2 (.var 7) (.tup [(.var 3), (.var 4), (.min2 (.bin .add (.idx (.var 8) (.const (.int 2))) (.var 5)) (.glob (.int 65535))), (.idx (.var 8) (.const (.int 3)))])] [.setDict 1 (.var 3) (.var 4) (.len (.var 2)), .append 2 (.tup [(.var 3), (.var 4), (.var 5), (.var 6)])]]) (es.map qv) (envM es₀ out d k m w l p o) =
      .ok (envM es₀ (es.foldl mstep out) d' k' m' w' l' p' o', .next) := by
  intro es
  induction es with
  | nil => intro out d k m w l p o _ _ _; exact ⟨d, k, m, w, l, p, o, rfl⟩
  | cons e es ih =>
    intro out d k m w l p o hd hl hs
    simp only [List.length_cons] at hs
    cases hf : out.findIdx? (keyEq e) with
    | none =>
      obtain ⟨d', k', m', w', l', p', o', h⟩ := ih (out ++ [e]) _ (.val (.int e.1)) (.val (.int e.2.1)) (.val (.int e.2.2.1)) (.val (.int e.2.2.2)) p o (dict_new hd) (by simp; lia) (by simp; lia)
      refine ⟨d', k', m', w', l', p', o', forL_next (step_new n es₀ out d e k m w l p o (by rw [hd e, hf]; rfl) (by lia) (by lia)) ?_⟩
      rw [h, List.foldl_cons, mstep, hf]
    | some j =>
      have hj := (List.findIdx?_eq_some_iff_getElem.mp hf).1
      obtain ⟨d', k', m', w', l', p', o', h⟩ := ih (mput out e j) d (.val (.int e.1)) (.val (.int e.2.1)) (.val (.int e.2.2.1)) (.val (.int e.2.2.2)) (.val (.int j)) (.val (qv (out.getD j (0, 0, 0, 0)))) (dict_old hd hf) (by unfold mput; simpa using hl) (by unfold mput; simp; lia)
      refine ⟨d', k', m', w', l', p', o', forL_next (step_old n es₀ out d e j k m w l p o (by rw [hd e, hf]; rfl) hj (by lia)) ?_⟩
      rw [h, List.foldl_cons, mstep, hf]

theorem merge_entries (n : Nat) (es : List Q4) (h : es.length < 60000) : evC FT (n + 25) 11 [.list (es.map qv)] = .ok (.list ((mrg es).map qv)) := by
  obtain ⟨d', k', m', w', l', p', o', e⟩ := merge_loop n es es [] [] .unb .unb .unb .unb .unb .unb (fun e => rfl) (Nat.le_refl _) (by simpa using h)
  exact c_ret rfl (ss_next (σ' := [.val (.list (es.map qv)), .dict [], .unb, .unb, .unb, .unb, .unb, .unb, .unb]) rfl (ss_next (σ' := envM es [] [] .unb .unb .unb .unb .unb .unb) (s_assignOwn (l := []) rfl rfl (by decide)) (ss_next (s_forVar (n := n + 20) rfl e) (ss_ret (s_ret rfl)))))
end Mine.Q
end

/-! text Q3 -/
section
set_option bootstrap.genMatcherCode false
set_option backward.match.sparseCases false
open PySem
set_option maxRecDepth 100000
set_option maxHeartbeats 2000000
namespace Mine.Q

theorem bind_one_ok {σ : Env} {i : Nat} {v : V} (hv : v.flat 8 = true) : bindTgt σ (.one i) v = some (σ.set i (.val v)) := if_pos (by rw [hv]; rfl)

theorem ev_put (n : Nat) (x0 s4 : Slot) (L : List V) (a b c d k m w l j : Int) (hi : idxV (.list L) (.int j) = some (qv (a, b, c, d))) :
    evE FT (n + 20) [x0, .own L, .val (qv (k, m, w, l)), .val (.int j), s4] (.bin .add (.slice (.var 2) .none (some (.const (.int 2)))) (.tup [(.min2 (.const (.int 65535)) (.bin .add (.idx (.idx (.var 1) (.var 3)) (.const (.int 2))) (.idx (.var 2) (.const (.int 2))))), (.idx (.idx (.var 1) (.var 3)) (.const (.int 3)))])) =
      .ok (qv (k, m, top (c + w), d)) := by
  have h1 : ∀ q : Nat, evE FT (q + 2) [x0, .own L, .val (qv (k, m, w, l)), .val (.int j), s4] (.idx (.var 1) (.var 3)) = .ok (qv (a, b, c, d)) := fun q => e_idx rfl rfl hi
  refine e_bin (x := .tuple [.int k, .int m]) (y := .tuple [.int (top (c + w)), .int d]) rfl (e_tup (es_cons ?_ (es_cons (e_idx (h1 _) rfl rfl) es_nil)) (by simp)) rfl
  show (R.bind (R.ok (V.int 65535)) fun x => R.bind (evE FT (n + 16) _ _) _) = _
  rw [R.bind_ok, e_bin (e_idx (h1 _) rfl rfl) rfl rfl]
  show R.ok (V.int (if c + w < 65535 then c + w else 65535)) = _
  congr 2
  unfold top
  split <;> split <;> lia

/-! _law_merged -/
noncomputable def envL (es out : List Q4) (e : Q4) (p : Int) (i : Slot) : Env := [.val (.list (es.map qv)), .own (out.map qv), .val (qv e), .val (.int p), i]

noncomputable def inB : List S := [.ite (.cmp .Eq (.slice (.idx (.var 1) (.var 4)) .none (some (.const (.int 2)))) (.slice (.var 2) .none (some (.const (.int 2))))) [.assign 3 (.var 4)] []]

theorem step_in (n : Nat) (es out : List Q4) (e : Q4) (p : Int) (i : Nat) (sl : Slot) (h : i < out.length) (ho : out.length < 65536) :
    exSs FT (n + 20) ((envL es out e p sl).set 4 (.val (.int i))) inB = .ok (envL es out e (if keyEq e (out.getD i (0, 0, 0, 0)) then (i : Int) else p) (.val (.int i)), .next) := by
  have hi : idxV (.list (out.map qv)) (.int i) = some (qv (out.getD i (0, 0, 0, 0))) := idx_list (by lia) (by simp; lia) (by rw [Int.toNat_natCast]; exact getElem_qv h)
  generalize out.getD i (0, 0, 0, 0) = o at hi ⊢
  have hc : evT FT (n + 18) (envL es out e p (.val (.int i))) (.cmp .Eq (.slice (.idx (.var 1) (.var 4)) .none (some (.const (.int 2)))) (.slice (.var 2) .none (some (.const (.int 2))))) = .ok (keyEq e o) := by
    show (R.bind (R.bind (R.ofOpt (idxV (.list (out.map qv)) (.int i))) _) _) = _
    rw [hi]
    rfl
  cases q : keyEq e o with
  | true => exact ss_next (σ' := envL es out e i (.val (.int i))) (s_iteT (hc.trans (by rw [q])) (ss_next (s_assign (v := .int i) rfl rfl) rfl)) rfl
  | false => exact ss_next (σ' := envL es out e p (.val (.int i))) (s_iteF (hc.trans (by rw [q])) rfl) rfl

noncomputable def lastM (key : Nat → Bool) : Nat → Nat → Int → Int
  | _, 0, p => p
  | a, m + 1, p => lastM key (a + 1) m (if key a then (a : Int) else p)
theorem lastM_none {key : Nat → Bool} : ∀ (m a : Nat) (p : Int), (∀ i, a ≤ i → i < a + m → key i = false) → lastM key a m p = p
  | 0, _, _, _ => rfl
  | m + 1, a, p, h => by
    unfold lastM
    rw [h a (Nat.le_refl _) (by lia)]
    exact lastM_none m (a + 1) p fun i h1 h2 => h i (by lia) (by lia)
theorem lastM_some {key : Nat → Bool} {j : Nat} : ∀ (m a : Nat) (p : Int), a ≤ j → j < a + m → key j = true → (∀ i, a ≤ i → i < a + m → key i = true → i = j) → lastM key a m p = j
  | 0, a, p, h1, h2, _, _ => by lia
  | m + 1, a, p, h1, h2, hk, hu => by
    unfold lastM
    by_cases q : a = j
    · subst q
      rw [if_pos hk]
      refine lastM_none m (a + 1) _ fun i h3 h4 => ?_
      cases z : key i with
      | false => rfl
      | true => have := hu i (by lia) (by lia) z; lia
    · exact lastM_some m (a + 1) _ (by lia) (by lia) hk fun i h3 h4 => hu i (by lia) (by lia)

theorem in_loop (n : Nat) (es out : List Q4) (e : Q4) (ho : out.length < 65536) : ∀ (m a : Nat) (p : Int) (sl : Slot), a + m ≤ out.length →
    ∃ sl', forL (fun σ v => exSs FT (n + 20) (σ.set 4 (.val v)) inB) (rng a m) (envL es out e p sl) = .ok (envL es out e (lastM (fun i => keyEq e (out.getD i (0, 0, 0, 0))) a m p) sl', .next) := by
  intro m
  induction m with
  | zero => intro a p sl _; exact ⟨sl, by rw [rng_zero]; rfl⟩
  | succ m ih =>
    intro a p sl h
    obtain ⟨sl', e1⟩ := ih (a + 1) (if keyEq e (out.getD a (0, 0, 0, 0)) then (a : Int) else p) (.val (.int a)) (by lia)
    refine ⟨sl', ?_⟩
    rw [rng_succ]
    refine forL_next (step_in n es out e p a sl (by lia) ho) ?_
    rw [show ((a : Int) + 1) = ((a + 1 : Nat) : Int) by lia, e1]
    rfl

theorem mput_len {out : List Q4} {e : Q4} {j : Nat} : (mput out e j).length = out.length := by unfold mput; simp
noncomputable def keyOf (o : Q4) : Int × Int := (o.1, o.2.1)
noncomputable def Distinct (out : List Q4) : Prop := (out.map keyOf).Nodup
theorem distinct_nil : Distinct [] := List.nodup_nil
theorem keyEq_of {e o : Q4} : keyEq e o = true ↔ keyOf o = keyOf e := keyEq_key
theorem mput_keys {out : List Q4} {e : Q4} {j : Nat} (hl : j < out.length) (hk : keyEq e out[j] = true) : (mput out e j).map keyOf = out.map keyOf := by
  unfold mput
  rw [List.map_set]
  refine (List.ext_getElem (by simp) fun i h1 h2 => ?_)
  rw [List.getElem_set]
  split
  · rename_i q
    subst q
    rw [List.getElem_map]
    exact (keyEq_of.mp hk).symm
  · rfl
theorem distinct_step {out : List Q4} (h : Distinct out) (e : Q4) : Distinct (mstep out e) := by
  unfold mstep
  split
  · rename_i j hj
    obtain ⟨hl, hk, _⟩ := List.findIdx?_eq_some_iff_getElem.mp hj
    unfold Distinct
    rw [mput_keys hl hk]; exact h
  · rename_i hn
    unfold Distinct
    rw [List.map_append, List.nodup_append]
    refine ⟨h, by simp, fun a ha b hb => ?_⟩
    obtain ⟨o, ho, rfl⟩ := List.mem_map.mp ha
    simp at hb
    subst hb
    intro q
    have := List.findIdx?_eq_none_iff.mp hn o ho
    rw [keyEq_of.mpr q] at this; cases this
theorem distinct_inj {out : List Q4} (h : Distinct out) {i j : Nat} (hi : i < out.length) (hj : j < out.length) (e : keyOf out[i] = keyOf out[j]) : i = j := by
  have h1 : i < (out.map keyOf).length := by simpa using hi
  have h2 : j < (out.map keyOf).length := by simpa using hj
  refine (List.getElem_inj (h₀ := h1) (h₁ := h2) h).mp ?_
  rw [List.getElem_map, List.getElem_map]; exact e

theorem step_law (n : Nat) (es out : List Q4) (e : Q4) (s2 s3 s4 : Slot) (hd : Distinct out) (ho : out.length < 60000) :
    ∃ p' s4', (R.ofOpt (bindTgt [.val (.list (es.map qv)), .own (out.map qv), s2, s3, s4] (.one 2) (qv e))).bind (fun σ' => exSs FT (n + 30) σ' [.assign 3 (.neg (.const (.int 1))), .forR 4 [(.len (.var 1))] inB, .ite (.cmp .Lt (.var 3) (.const (.int 0))) [.append 1 (.var 2)] [.setIdx 1 (.var 3) (.bin .add (.slice (.var 2) .none (some (.const (.int 2)))) (.tup [(.min2 (.const (.int 65535)) (.bin .add (.idx (.idx (.var 1) (.var 3)) (.const (.int 2))) (.idx (.var 2) (.const (.int 2))))), (.idx (.idx (.var 1) (.var 3)) (.const (.int 3)))]))]]) =
      .ok (envL es (mstep out e) e p' s4', .next) := by
  have hb : bindTgt [.val (.list (es.map qv)), .own (out.map qv), s2, s3, s4] (.one 2) (qv e) = some [.val (.list (es.map qv)), .own (out.map qv), .val (qv e), s3, s4] := by
    exact bind_one_ok (qv_flat e)
  rw [hb, R.ofOpt_some, R.bind_ok]
  obtain ⟨s4', hin⟩ := in_loop (n + 7) es out e (by lia) out.length 0 (-1) s4 (by lia)
  have hr : rangeV [.int (out.length : Int)] = some (rng 0 out.length) := by
    rw [range_one (by lia) (by lia), Int.toNat_natCast]
  have hlen : evEs FT (n + 27) (envL es out e (-1) s4) [.len (.var 1)] = .ok [.int (out.length : Int)] := by
    show (R.bind (R.ofOpt (lenV (.list (out.map qv)))) _) = _
    rw [len_list (by simp; lia), List.length_map]; rfl
  cases hf : out.findIdx? (keyEq e) with
  | none =>
    have hl : lastM (fun i => keyEq e (out.getD i (0, 0, 0, 0))) 0 out.length (-1) = -1 := lastM_none _ _ _ fun i _ hi => by
      have hi' : i < out.length := by lia
      rw [getD_of hi']
      exact List.findIdx?_eq_none_iff.mp hf _ (List.getElem_mem _)
    rw [hl] at hin
    refine ⟨-1, s4', ?_⟩
    have hm : mstep out e = out ++ [e] := by unfold mstep; rw [hf]
    rw [hm]
    refine ss_next (σ' := envL es out e (-1) s4) (s_assign (v := .int (-1)) rfl rfl) (ss_next (σ' := envL es out e (-1) s4') (s_forR hlen hr hin) (ss_next (σ' := envL es (out ++ [e]) e (-1) s4') (s_iteT rfl (ss_next (s_append (l := out.map qv) (v := qv e) rfl rfl (qv_flat _) (by simp; lia)) ?_)) (by rw [ss_nil])))
    rw [ss_nil]
    unfold envL
    simp
  | some j =>
    obtain ⟨hj, hk, _⟩ := List.findIdx?_eq_some_iff_getElem.mp hf
    have hl : lastM (fun i => keyEq e (out.getD i (0, 0, 0, 0))) 0 out.length (-1) = j := lastM_some _ _ _ (Nat.zero_le _) (by lia) (by rw [getD_of hj]; exact hk) fun i _ hi hki => by
      have hi' : i < out.length := by lia
      rw [getD_of hi'] at hki
      exact distinct_inj hd hi' hj ((keyEq_of.mp hki).trans (keyEq_of.mp hk).symm)
    rw [hl] at hin
    refine ⟨j, s4', ?_⟩
    have hm : mstep out e = mput out e j := by unfold mstep; rw [hf]
    rw [hm]
    have hi : idxV (.list (out.map qv)) (.int j) = some (qv (out.getD j (0, 0, 0, 0))) := idx_list (by lia) (by simp; lia) (by rw [Int.toNat_natCast]; exact getElem_qv hj)
    refine ss_next (σ' := envL es out e (-1) s4) (s_assign (v := .int (-1)) rfl rfl) (ss_next (σ' := envL es out e j s4') (s_forR hlen hr hin) (ss_next (σ' := envL es (mput out e j) e j s4') (s_iteF ?_ (ss_next (s_setIdx (l := out.map qv) (j := j) (v := qv (e.1, e.2.1, top ((out.getD j (0, 0, 0, 0)).2.2.1 + e.2.2.1), (out.getD j (0, 0, 0, 0)).2.2.2)) rfl ?_ rfl (qv_flat _) (by lia) (by simpa using hj) (by simp; lia)) ?_)) (by rw [ss_nil])))
    · show R.ofOpt (some (decide ((j : Int) < 0))) = _
      rw [decide_eq_false (by lia)]; rfl
    · exact ev_put _ _ _ _ _ _ _ _ _ _ _ _ _ hi
    · rw [ss_nil]
      unfold envL mput
      simp [List.map_set]

noncomputable def lawB : List S := [.assign 3 (.neg (.const (.int 1))), .forR 4 [(.len (.var 1))] inB, .ite (.cmp .Lt (.var 3) (.const (.int 0))) [.append 1 (.var 2)] [.setIdx 1 (.var 3) (.bin .add (.slice (.var 2) .none (some (.const (.int 2)))) (.tup [(.min2 (.const (.int 65535)) (.bin .add (.idx (.idx (.var 1) (.var 3)) (.const (.int 2))) (.idx (.var 2) (.const (.int 2))))), (.idx (.idx (.var 1) (.var 3)) (.const (.int 3)))]))]]

theorem law_loop (n : Nat) (es₀ : List Q4) : ∀ (es out : List Q4) (s2 s3 s4 : Slot), Distinct out → out.length + es.length < 60000 →
    ∃ t2 t3 t4, forL (fun σ v => (R.ofOpt (bindTgt σ (.one 2) v)).bind fun σ' => exSs FT (n + 30) σ' lawB) (es.map qv) [.val (.list (es₀.map qv)), .own (out.map qv), s2, s3, s4] = .ok ([.val (.list (es₀.map qv)), .own ((es.foldl mstep out).map qv), t2, t3, t4], .next) := by
  intro es
  induction es with
  | nil => intro out s2 s3 s4 _ _; exact ⟨s2, s3, s4, rfl⟩
  | cons e es ih =>
    intro out s2 s3 s4 hd hs
    simp only [List.length_cons] at hs
    obtain ⟨p', s4', h⟩ := step_law n es₀ out e s2 s3 s4 hd (by lia)
    have hlen : (mstep out e).length ≤ out.length + 1 := by
      unfold mstep
      split
      · rw [mput_len]; lia
      · simp
    obtain ⟨t2, t3, t4, h2⟩ := ih (mstep out e) (.val (qv e)) (.val (.int p')) s4' (distinct_step hd e) (by lia)
    exact ⟨t2, t3, t4, forL_next h h2⟩

theorem law_merged (n : Nat) (es : List Q4) (h : es.length < 60000) : evC FT (n + 35) 36 [.list (es.map qv)] = .ok (.list ((mrg es).map qv)) := by
  obtain ⟨t2, t3, t4, e⟩ := law_loop n es es [] .unb .unb .unb distinct_nil (by simpa using h)
  exact c_ret rfl (ss_next (σ' := [.val (.list (es.map qv)), .own [], .unb, .unb, .unb]) (s_assignOwn (l := []) rfl rfl (by decide)) (ss_next (s_forVar (n := n + 31) rfl e) (ss_ret (s_ret rfl))))

theorem mrg_distinct (es : List Q4) : Distinct (mrg es) := by
  unfold mrg
  suffices h : ∀ (es out : List Q4), Distinct out → Distinct (es.foldl mstep out) from h es [] distinct_nil
  intro es
  induction es with
  | nil => intro out h; exact h
  | cons e es ih => intro out h; exact ih _ (distinct_step h e)
end Mine.Q
end

/-! text Q4 -/
section
set_option bootstrap.genMatcherCode false
set_option backward.match.sparseCases false
open PySem
set_option maxRecDepth 100000
set_option maxHeartbeats 2000000
namespace Mine.Q

/-! comprehensions -/
theorem compL_map {f : V → R (Option V)} {g : V → V} : ∀ {l : List V}, (∀ v ∈ l, f v = .ok (some (g v))) → compL f l = .ok (l.map g)
  | [], _ => rfl
  | v :: l, h => by
    show (f v).bind _ = _
    rw [h v (.head _), R.bind_ok, compL_map (l := l) fun w hw => h w (.tail _ hw)]; rfl
theorem compL_filter {f : V → R (Option V)} {g : V → V} {p : V → Bool} : ∀ {l : List V}, (∀ v ∈ l, f v = .ok (if p v then some (g v) else none)) → compL f l = .ok ((l.filter p).map g)
  | [], _ => rfl
  | v :: l, h => by
    show (f v).bind _ = _
    rw [h v (.head _), R.bind_ok, compL_filter (l := l) fun w hw => h w (.tail _ hw), R.bind_ok, List.filter_cons]
    cases p v <;> rfl
section
variable {n : Nat} {σ : Env} {elt iter c : E} {nt : Nat} {tupled : Bool} {free : List Nat} {l : List V} {g : V → V}
theorem e_comp (h1 : evE FT n σ iter = .ok (.list l)) (hl : l.length ≤ 65536) (h : ∀ v ∈ l, ∃ σ', compEnv σ free nt tupled v = some σ' ∧ evE FT n σ' elt = .ok (g v) ∧ (g v).flat 8 = true) :
    evE FT (n + 1) σ (.comp elt iter nt tupled .none free) = .ok (.list (l.map g)) := by
  show (evE FT n σ iter).bind _ = _
  rw [h1, R.bind_ok]
  refine (if_pos hl).trans ?_
  rw [compL_map (g := g) fun v hv => ?_]
  · rfl
  · obtain ⟨σ', a, b, d⟩ := h v hv
    rw [a]
    show R.calm ((evE FT n σ' elt).bind _) = _
    rw [b, R.bind_ok, if_pos d]; rfl
theorem e_compF {p : V → Bool} (h1 : evE FT n σ iter = .ok (.list l)) (hl : l.length ≤ 65536) (h : ∀ v ∈ l, ∃ σ', compEnv σ free nt tupled v = some σ' ∧ evT FT n σ' c = .ok (p v) ∧ evE FT n σ' elt = .ok (g v) ∧ (g v).flat 8 = true) :
    evE FT (n + 1) σ (.comp elt iter nt tupled (some c) free) = .ok (.list ((l.filter p).map g)) := by
  show (evE FT n σ iter).bind _ = _
  rw [h1, R.bind_ok]
  refine (if_pos hl).trans ?_
  rw [compL_filter (g := g) (p := p) fun v hv => ?_]
  · rfl
  · obtain ⟨σ', a, b, d, e⟩ := h v hv
    rw [a]
    show R.calm ((evT FT n σ' c).bind _) = _
    rw [b, R.bind_ok]
    cases p v with
    | false => rfl
    | true => rw [if_pos rfl, d, R.bind_ok, if_pos e]; rfl
end

/-! the best move -/
noncomputable abbrev T3 := Int × Int × Int
noncomputable def tv (t : T3) : V := .tuple [.int t.1, .int t.2.1, .int t.2.2]
theorem tv_flat (t : T3) : V.flat 8 (tv t) = true := by
  show [V.int t.1, .int t.2.1, .int t.2.2].all (V.flat 7) = true
  simp [flat_int]
noncomputable def bst (a : Int × Int) (t : T3) : Int × Int := if a.2 < t.2.1 then (t.1, t.2.1) else a
noncomputable def best3 (ts : List T3) : Int := (ts.foldl bst (0, 0)).1

noncomputable def bestB : List S := [.ite (.cmp .Gt (.idx (.var 3) (.const (.int 1))) (.var 2)) [.assign 1 (.idx (.var 3) (.const (.int 0))), .assign 2 (.idx (.var 3) (.const (.int 1)))] []]
theorem best_loop (n : Nat) (L : V) : ∀ (ts : List T3) (a : Int × Int) (s : Slot), ∃ s', forL (fun σ v => (R.ofOpt (bindTgt σ (.one 3) v)).bind fun σ' => exSs FT (n + 10) σ' bestB) (ts.map tv) [.val L, .val (.int a.1), .val (.int a.2), s] =
    .ok ([.val L, .val (.int (ts.foldl bst a).1), .val (.int (ts.foldl bst a).2), s'], .next) := by
  intro ts
  induction ts with
  | nil => intro a s; exact ⟨s, rfl⟩
  | cons t ts ih =>
    intro a s
    obtain ⟨s', h⟩ := ih (bst a t) (.val (tv t))
    refine ⟨s', forL_next ?_ h⟩
    rw [bind_one_ok (tv_flat t), R.ofOpt_some, R.bind_ok]
    have hc : evT FT (n + 8) [.val L, .val (.int a.1), .val (.int a.2), .val (tv t)] (.cmp .Gt (.idx (.var 3) (.const (.int 1))) (.var 2)) = .ok (decide (a.2 < t.2.1)) := t_cmp (x := .int t.2.1) rfl rfl rfl
    unfold bst
    by_cases q : a.2 < t.2.1
    · rw [if_pos q]
      rw [decide_eq_true q] at hc
      exact ss_next (s_iteT hc (ss_next (s_assign (v := .int t.1) rfl rfl) (ss_next (s_assign (v := .int t.2.1) rfl rfl) rfl))) rfl
    · rw [if_neg q]
      rw [decide_eq_false q] at hc
      exact ss_next (s_iteF hc rfl) rfl
theorem best_entry (n : Nat) (ts : List T3) : evC FT (n + 15) 17 [.list (ts.map tv)] = .ok (.int (best3 ts)) := by
  obtain ⟨s', h⟩ := best_loop n (.list (ts.map tv)) ts (0, 0) .unb
  exact c_ret rfl (ss_next (s_assign (v := .int 0) rfl rfl) (ss_next (s_assign (v := .int 0) rfl rfl) (ss_next (s_forVar (n := n + 10) rfl h) (ss_ret (s_ret rfl)))))

/-- the law's best -/
noncomputable def lst (mx : Int) (o : Int) (e : Q4) : Int := if 0 < e.2.2.1 ∧ e.2.2.1 = mx ∧ o = 0 then e.2.1 else o
noncomputable def wts (es : List Q4) : List Int := es.map (·.2.2.1)
noncomputable def lbest (es : List Q4) : Int := es.foldl (lst ((maxInts (wts es)).getD 0)) 0

theorem ints_map {α : Type} (f : α → Int) : ∀ l : List α, ints? (l.map fun a => .int (f a)) = some (l.map f)
  | [] => rfl
  | a :: l => by
    show (ints? _).map _ = _
    rw [ints_map f l]; rfl

noncomputable def lbestB : List S := [.ite (.bop true [(.cmp .Gt (.idx (.var 2) (.const (.int 2))) (.const (.int 0))), (.cmp .Eq (.idx (.var 2) (.const (.int 2))) (.max1 (.comp (.idx (.var 0) (.const (.int 2))) (.var 0) 1 false .none []))), (.cmp .Eq (.var 1) (.const (.int 0)))]) [.assign 1 (.idx (.var 2) (.const (.int 1)))] []]
theorem lbest_loop (n : Nat) (es₀ : List Q4) (mx : Int) (hl : es₀.length ≤ 63) (hm : maxInts (wts es₀) = some mx) : ∀ (es : List Q4) (o : Int) (s : Slot), ∃ s', forL (fun σ v => (R.ofOpt (bindTgt σ (.one 2) v)).bind fun σ' => exSs FT (n + 20) σ' lbestB) (es.map qv) [.val (.list (es₀.map qv)), .val (.int o), s] =
    .ok ([.val (.list (es₀.map qv)), .val (.int (es.foldl (lst mx) o)), s'], .next) := by
  intro es
  induction es with
  | nil => intro o s; exact ⟨s, rfl⟩
  | cons e es ih =>
    intro o s
    obtain ⟨s', h⟩ := ih (lst mx o e) (.val (qv e))
    refine ⟨s', forL_next ?_ h⟩
    rw [bind_one_ok (qv_flat e), R.ofOpt_some, R.bind_ok]
    show exSs FT (n + 20) [.val (.list (es₀.map qv)), .val (.int o), .val (qv e)] lbestB = _
    have hw : ∀ q, evE FT (q + 2) [.val (.list (es₀.map qv)), .val (.int o), .val (qv e)] (.idx (.var 2) (.const (.int 2))) = .ok (.int e.2.2.1) := fun q => rfl
    have hcomp : ∀ q, evE FT (q + 4) [.val (.list (es₀.map qv)), .val (.int o), .val (qv e)] (.max1 (.comp (.idx (.var 0) (.const (.int 2))) (.var 0) 1 false .none [])) = .ok (.int mx) := fun q => by
      refine e_max1 (x := .list ((es₀.map qv).map fun v => match v with | .tuple [_, _, w, _] => w | _ => .none)) (e_comp rfl (by simp; lia) fun v hv => ?_) ?_
      · obtain ⟨e', _, rfl⟩ := List.mem_map.mp hv
        exact ⟨_, rfl, rfl, flat_int⟩
      · rw [List.map_map]
        have : ((fun v => match v with | .tuple [_, _, w, _] => w | _ => .none) ∘ qv) = fun e : Q4 => V.int e.2.2.1 := rfl
        rw [this]
        refine (if_pos (by simpa using hl)).trans ?_
        rw [ints_map (fun e : Q4 => e.2.2.1) es₀]
        show (maxInts (wts es₀)).map _ = _
        rw [hm]; rfl
    have hc : evT FT (n + 18) [.val (.list (es₀.map qv)), .val (.int o), .val (qv e)] (.bop true [(.cmp .Gt (.idx (.var 2) (.const (.int 2))) (.const (.int 0))), (.cmp .Eq (.idx (.var 2) (.const (.int 2))) (.max1 (.comp (.idx (.var 0) (.const (.int 2))) (.var 0) 1 false .none []))), (.cmp .Eq (.var 1) (.const (.int 0)))]) = .ok (decide (0 < e.2.2.1 ∧ e.2.2.1 = mx ∧ o = 0)) := by
      rw [t_or]
      have c1 : ∀ q, evT FT (q + 4) [.val (.list (es₀.map qv)), .val (.int o), .val (qv e)] (.cmp .Gt (.idx (.var 2) (.const (.int 2))) (.const (.int 0))) = .ok (decide (0 < e.2.2.1)) := fun q => t_cmp (hw _) rfl rfl
      have c2 : ∀ q, evT FT (q + 6) [.val (.list (es₀.map qv)), .val (.int o), .val (qv e)] (.cmp .Eq (.idx (.var 2) (.const (.int 2))) (.max1 (.comp (.idx (.var 0) (.const (.int 2))) (.var 0) 1 false .none []))) = .ok (e.2.2.1 == mx) := fun q => t_cmp (hw _) (hcomp _) rfl
      have c3 : ∀ q, evT FT (q + 4) [.val (.list (es₀.map qv)), .val (.int o), .val (qv e)] (.cmp .Eq (.var 1) (.const (.int 0))) = .ok (o == 0) := fun q => t_cmp (x := .int o) rfl rfl rfl
      by_cases q1 : 0 < e.2.2.1
      · refine (ts_go (u := decide (0 < e.2.2.1 ∧ e.2.2.1 = mx ∧ o = 0)) ((c1 _).trans (by rw [decide_eq_true q1])) ?_)
        by_cases q2 : e.2.2.1 = mx
        · refine (ts_go ((c2 _).trans (by rw [beq_iff_eq.mpr q2])) ?_)
          by_cases q3 : o = 0
          · rw [decide_eq_true ⟨q1, q2, q3⟩]
            exact ts_go ((c3 _).trans (by rw [beq_iff_eq.mpr q3])) ts_nil
          · rw [decide_eq_false (fun z => q3 z.2.2)]
            exact ts_stop (t := true) ((c3 _).trans (by rw [beq_eq_false_iff_ne.mpr q3]; rfl))
        · rw [decide_eq_false (fun z => q2 z.2.1)]
          exact ts_stop (t := true) ((c2 _).trans (by rw [beq_eq_false_iff_ne.mpr q2]; rfl))
      · rw [decide_eq_false (fun z => q1 z.1)]
        exact ts_stop (t := true) ((c1 _).trans (by rw [decide_eq_false q1]; rfl))
    unfold lst
    by_cases q : 0 < e.2.2.1 ∧ e.2.2.1 = mx ∧ o = 0
    · rw [if_pos q]
      rw [decide_eq_true q] at hc
      exact ss_next (s_iteT hc (ss_next (s_assign (v := .int e.2.1) rfl rfl) rfl)) rfl
    · rw [if_neg q]
      rw [decide_eq_false q] at hc
      exact ss_next (s_iteF hc rfl) rfl

theorem law_best (n : Nat) (es : List Q4) (hl : es.length ≤ 63) : evC FT (n + 25) 39 [.list (es.map qv)] = .ok (.int (lbest es)) := by
  have key : ∃ s', forL (fun σ v => (R.ofOpt (bindTgt σ (.one 2) v)).bind fun σ' => exSs FT (n + 21) σ' lbestB) (es.map qv) [.val (.list (es.map qv)), .val (.int 0), .unb] = .ok ([.val (.list (es.map qv)), .val (.int (lbest es)), s'], .next) := by
    cases es with
    | nil => exact ⟨.unb, rfl⟩
    | cons e es =>
      obtain ⟨mx, hm⟩ : ∃ mx, maxInts (wts (e :: es)) = some mx := ⟨_, rfl⟩
      obtain ⟨s', h⟩ := lbest_loop (n + 1) (e :: es) mx hl hm (e :: es) 0 .unb
      refine ⟨s', h.trans ?_⟩
      unfold lbest
      rw [hm]; rfl
  obtain ⟨s', h⟩ := key
  exact c_ret rfl (ss_next (s_assign (v := .int 0) rfl rfl) (ss_next (s_forVar (n := n + 21) rfl h) (ss_ret (s_ret rfl))))
end Mine.Q
end

/-! text Q5 -/
section
set_option bootstrap.genMatcherCode false
set_option backward.match.sparseCases false
open PySem PySem.W PyProof.Rows
set_option maxRecDepth 100000
set_option maxHeartbeats 2000000
namespace Mine.Q

theorem runKas_bind {α β : Type} (n : Nat) (cmp : Nat → Nat → Bool) (f : α → KasT β) : ∀ t : KasT α, runKas n cmp (t.bind f) = (runKas n cmp t).bind fun a => runKas n cmp (f a)
  | .ret _ => rfl
  | .ask i j k => by
    show (if i < n ∧ j < n then runKas n cmp ((k (cmp i j)).bind f) else none) = Option.bind (if i < n ∧ j < n then runKas n cmp (k (cmp i j)) else none) _
    split
    · exact runKas_bind n cmp f (k (cmp i j))
    · rfl
theorem runKas_ask {α : Type} {n i j : Nat} {cmp : Nat → Nat → Bool} {k : Bool → KasT α} (hi : i < n) (hj : j < n) : runKas n cmp (.ask i j k) = runKas n cmp (k (cmp i j)) := if_pos ⟨hi, hj⟩

section
variable {N : Nat} {lt : Nat → Nat → Bool}
noncomputable def Ok (N : Nat) (p : Array Nat) : Prop := p.Perm (List.range N).toArray
noncomputable abbrev gt (p : Array Nat) (k : Nat) : Nat := p.getD k 0

structure Ord (N : Nat) (lt : Nat → Nat → Bool) : Prop where
  tr : ∀ i j k, i < N → j < N → k < N → lt i j = true → lt j k = true → lt i k = true
  ir : ∀ i, lt i i = false
  tot : ∀ i j, i < N → j < N → i ≠ j → lt i j = false → lt j i = true

theorem Ok.size {p : Array Nat} (h : Ok N p) : p.size = N := by
  have := h.size_eq
  simpa using this
theorem gt_eq {p : Array Nat} {k : Nat} (h : k < p.size) : p[k]? = some (gt p k) := by
  simp [gt, Array.getD, h]
theorem Ok.bd {p : Array Nat} (h : Ok N p) {k : Nat} (hk : k < N) : gt p k < N := by
  have hs := h.size
  have : gt p k ∈ p := by
    have := gt_eq (p := p) (k := k) (by lia)
    exact Array.mem_of_getElem? this
  have := h.mem_iff.mp this
  simpa using this
theorem Ok.inj {p : Array Nat} (h : Ok N p) {i j : Nat} (hi : i < N) (hj : j < N) (e : gt p i = gt p j) : i = j := by
  have hs := h.size
  have nd : p.toList.Nodup := by
    have : p.toList.Perm (List.range N) := by simpa using h.toList
    exact this.nodup_iff.mpr List.nodup_range
  have h1 := gt_eq (p := p) (k := i) (by lia)
  have h2 := gt_eq (p := p) (k := j) (by lia)
  rw [← Array.getElem?_toList] at h1 h2
  obtain ⟨a1, e1⟩ := List.getElem?_eq_some_iff.mp h1
  obtain ⟨a2, e2⟩ := List.getElem?_eq_some_iff.mp h2
  exact (List.getElem_inj nd).mp (e1.trans (e.trans e2.symm))

noncomputable def Asc (lt : Nat → Nat → Bool) (p : Array Nat) (m : Nat) : Prop := ∀ k, k + 1 < m → lt (gt p k) (gt p (k + 1)) = true
noncomputable def Desc (lt : Nat → Nat → Bool) (p : Array Nat) (m : Nat) : Prop := ∀ k, k + 1 < m → lt (gt p (k + 1)) (gt p k) = true

theorem Asc.pair (O : Ord N lt) {p : Array Nat} (h : Ok N p) {m : Nat} (hm : m ≤ N) (a : Asc lt p m) : ∀ d i, i + d + 1 < m → lt (gt p i) (gt p (i + d + 1)) = true := by
  intro d
  induction d with
  | zero => intro i hi; exact a i hi
  | succ d ih =>
    intro i hi
    exact O.tr _ _ _ (h.bd (by omega)) (h.bd (by omega)) (h.bd (by omega)) (ih i (by omega)) (a (i + d + 1) (by omega))
theorem Asc.to (O : Ord N lt) {p : Array Nat} (h : Ok N p) {m i j : Nat} (hm : m ≤ N) (a : Asc lt p m) (hij : i < j) (hj : j < m) : lt (gt p i) (gt p j) = true := by
  obtain ⟨d, rfl⟩ := Nat.exists_eq_add_of_lt hij
  exact a.pair O h hm d i hj

theorem asc_run (O : Ord N lt) {p : Array Nat} (h : Ok N p) : ∀ (f n : Nat), 1 ≤ n → n + f ≤ N → Asc lt p n → ∃ m, runKas N lt (kas_asc p f n) = some m ∧ n ≤ m ∧ m ≤ n + f ∧ Asc lt p m ∧ (m = n + f ∨ lt (gt p m) (gt p (m - 1)) = true)
  | 0, n, _, _, a => ⟨n, rfl, Nat.le_refl _, Nat.le_refl _, a, .inl rfl⟩
  | f + 1, n, h1, h2, a => by
    unfold kas_asc
    rw [runKas_ask (h.bd (by lia)) (h.bd (by lia))]
    cases q : lt (p.getD n 0) (p.getD (n - 1) 0) with
    | true => exact ⟨n, rfl, Nat.le_refl _, by lia, a, .inr q⟩
    | false =>
      rw [if_neg Bool.false_ne_true]
      have hne : gt p n ≠ gt p (n - 1) := fun e => by have := h.inj (by lia) (by lia) e; lia
      have hl := O.tot _ _ (h.bd (by lia)) (h.bd (by lia)) hne q
      obtain ⟨m, e1, e2, e3, e4, e5⟩ := asc_run O h f (n + 1) (by lia) (by lia) (fun k hk => by
        by_cases z : k + 1 = n
        · have : k = n - 1 := by lia
          rw [z, this]; exact hl
        · exact a k (by lia))
      exact ⟨m, e1, by lia, by lia, e4, e5.imp (fun z => by lia) id⟩

theorem desc_run (O : Ord N lt) {p : Array Nat} (h : Ok N p) : ∀ (f n : Nat), 1 ≤ n → n + f ≤ N → Desc lt p n → ∃ m, runKas N lt (kas_desc f p n 0) = some (p, m, 0) ∧ n ≤ m ∧ m ≤ n + f ∧ Desc lt p m
  | 0, n, _, _, a => ⟨n, rfl, Nat.le_refl _, Nat.le_refl _, a⟩
  | f + 1, n, h1, h2, a => by
    unfold kas_desc
    rw [runKas_ask (h.bd (by lia)) (h.bd (by lia))]
    cases q : lt (p.getD n 0) (p.getD (n - 1) 0) with
    | true =>
      rw [if_pos rfl, if_neg (by lia)]
      obtain ⟨m, e1, e2, e3, e4⟩ := desc_run O h f (n + 1) (by lia) (by lia) (fun k hk => by
        by_cases z : k + 1 = n
        · have : k = n - 1 := by lia
          rw [z, this]; exact q
        · exact a k (by lia))
      exact ⟨m, e1, by lia, by lia, e4⟩
    | false =>
      rw [if_neg Bool.false_ne_true, runKas_ask (h.bd (by lia)) (h.bd (by lia))]
      have hne : gt p n ≠ gt p (n - 1) := fun e => by have := h.inj (by lia) (by lia) e; lia
      have hl := O.tot _ _ (h.bd (by lia)) (h.bd (by lia)) hne q
      rw [show lt (p.getD (n - 1) 0) (p.getD n 0) = true from hl, if_pos rfl]
      exact ⟨n, rfl, Nat.le_refl _, by lia, a⟩

theorem rev_ok {p : Array Nat} (h : Ok N p) (m : Nat) : Ok N (kas_rev p 0 m) := (mirror_perm _ _ _ _).trans h
theorem rev_asc {p : Array Nat} (h : Ok N p) {m : Nat} (hm : m ≤ N) (a : Desc lt p m) : Asc lt (kas_rev p 0 m) m := by
  have hs := h.size
  have hg : ∀ k, k < m → gt (kas_rev p 0 m) k = gt p (m - 1 - k) := fun k hk => by
    have e1 := gt_eq (p := kas_rev p 0 m) (k := k) (by rw [(rev_ok h m).size]; lia)
    have e2 := getElem?_mirror_all (xs := p) (i := 0) (j := m) (by lia) k
    rw [if_pos ⟨Nat.zero_le _, hk⟩] at e2
    have e3 := gt_eq (p := p) (k := m - 1 - k) (by lia)
    rw [show 0 + m - 1 - k = m - 1 - k by lia] at e2
    have : (kas_rev p 0 m)[k]? = p[m - 1 - k]? := e2
    rw [e1, e3] at this
    exact Option.some.inj this
  intro k hk
  rw [hg k (by lia), hg (k + 1) (by lia)]
  have := a (m - 1 - (k + 1)) (by lia)
  rw [show m - 1 - (k + 1) + 1 = m - 1 - k by lia] at this
  exact this

theorem count_run (O : Ord N lt) {p : Array Nat} (h : Ok N p) (hN : 2 ≤ N) : ∃ m p', runKas N lt (kas_count N p) = some (m, p') ∧ 1 ≤ m ∧ m ≤ N ∧ Ok N p' ∧ Asc lt p' m := by
  obtain ⟨m, e1, e2, e3, e4, e5⟩ := asc_run O h (N - 1) 1 (by lia) (by lia) (fun k hk => by lia)
  unfold kas_count
  rw [runKas_bind, e1, Option.bind_some]
  by_cases q : m = N
  · rw [if_pos (by rw [q]; simp)]
    exact ⟨m, p, rfl, by lia, by lia, h, e4⟩
  · rw [if_neg (by simpa using q)]
    by_cases q1 : m > 1
    · rw [if_pos q1, runKas_ask (h.bd (by lia)) (h.bd (by lia)), show lt (p.getD 0 0) (p.getD (m - 1) 0) = true from e4.to O h (by lia) (by lia) (by lia), if_pos rfl]
      exact ⟨m, p, rfl, by lia, by lia, h, e4⟩
    · rw [if_neg q1]
      have hm1 : m = 1 := by lia
      subst hm1
      have hd : lt (gt p 1) (gt p 0) = true := e5.resolve_left (by lia)
      unfold kas_descPart
      rw [runKas_bind]
      obtain ⟨m, d1, d2, d3, d4⟩ := desc_run O h (N - (1 + 1)) (1 + 1) (by lia) (by lia) (fun k hk => by
        have : k = 0 := by lia
        subst this; exact hd)
      rw [d1, Option.bind_some, if_neg (by show ¬ (0 > 0); lia)]
      unfold kas_tail3
      have h' := rev_ok h m
      obtain ⟨m', f1, f2, f3, f4, _⟩ := asc_run O h' (N - m) m (by lia) (by lia) (rev_asc h (by lia) d4)
      refine ⟨m', kas_rev p 0 m, ?_, by lia, by lia, h', f4⟩
      show runKas N lt ((kas_asc (kas_rev p 0 m) (N - m) m).bind _) = _
      rw [runKas_bind, f1]; rfl

theorem place_run (O : Ord N lt) {p : Array Nat} (h : Ok N p) {k : Nat} (hk : k < N) (a : Asc lt p k) : ∀ (f l r : Nat), l ≤ r → r ≤ k → r - l ≤ f → (∀ i, i < l → lt (gt p i) (gt p k) = true) → (∀ i, r ≤ i → i < k → lt (gt p k) (gt p i) = true) →
    ∃ d, runKas N lt (kas_place p k f l r) = some d ∧ d ≤ k ∧ (∀ i, i < d → lt (gt p i) (gt p k) = true) ∧ (∀ i, d ≤ i → i < k → lt (gt p k) (gt p i) = true)
  | 0, l, r, h1, h2, h3, h4, h5 => ⟨l, rfl, by lia, h4, fun i hi => h5 i (by lia)⟩
  | f + 1, l, r, h1, h2, h3, h4, h5 => by
    unfold kas_place
    by_cases q : l ≥ r
    · rw [if_pos q]
      exact ⟨l, rfl, by lia, h4, fun i hi => h5 i (by lia)⟩
    · rw [if_neg q, runKas_ask (h.bd hk) (h.bd (by lia))]
      have hmk : (l + r) / 2 < k := by lia
      cases c : lt (p.getD k 0) (p.getD ((l + r) / 2) 0) with
      | true =>
        rw [if_pos rfl]
        refine place_run O h hk a f l ((l + r) / 2) (by lia) (by lia) (by lia) h4 fun i hi hik => ?_
        by_cases z : i = (l + r) / 2
        · subst z; exact c
        · exact O.tr _ _ _ (h.bd hk) (h.bd (by lia)) (h.bd (by lia)) c (a.to O h (by lia) (by lia) hik)
      | false =>
        rw [if_neg Bool.false_ne_true]
        have hne : gt p k ≠ gt p ((l + r) / 2) := fun e => by have := h.inj hk (by lia) e; lia
        have hl := O.tot _ _ (h.bd hk) (h.bd (by lia)) hne c
        refine place_run O h hk a f ((l + r) / 2 + 1) r (by lia) h2 (by lia) (fun i hi => ?_) h5
        by_cases z : i = (l + r) / 2
        · subst z; exact hl
        · exact O.tr _ _ _ (h.bd (by lia)) (h.bd (by lia)) (h.bd hk) (a.to O h (by lia) (show i < (l + r) / 2 by lia) (by lia)) hl

theorem bub_ok {p : Array Nat} (h : Ok N p) (k d : Nat) : Ok N (bubble p k d) := (bubble_perm _ _ _).trans h
theorem bub_get {p : Array Nat} (h : Ok N p) {k d j : Nat} (hk : k < N) (hd : d ≤ k) (hj : j < N) : gt (bubble p k (k - d)) j = if j = d then gt p k else if d < j ∧ j ≤ k then gt p (j - 1) else gt p j := by
  have hs := h.size
  have e1 := gt_eq (p := bubble p k (k - d)) (k := j) (by rw [(bub_ok h _ _).size]; omega)
  have e2 := getElem?_bubble (xs := p) (src := k) (by omega) (k - d) (by omega) j
  rw [show k - (k - d) = d by omega] at e2
  rw [e1] at e2
  split at e2
  · rename_i z
    rw [if_pos z]
    rw [gt_eq (by omega)] at e2
    exact Option.some.inj e2
  · rename_i z
    rw [if_neg z]
    split at e2
    · rename_i z2
      rw [if_pos z2]
      rw [gt_eq (by omega)] at e2
      exact Option.some.inj e2
    · rename_i z2
      rw [if_neg z2]
      rw [gt_eq (by omega)] at e2
      exact Option.some.inj e2

theorem bin_run (O : Ord N lt) : ∀ (f : Nat) (p : Array Nat) (k : Nat), Ok N p → k + f ≤ N → Asc lt p k → ∃ p', runKas N lt (kas_bin f p k) = some p' ∧ Ok N p' ∧ Asc lt p' (k + f)
  | 0, p, k, h, _, a => ⟨p, rfl, h, a⟩
  | f + 1, p, k, h, h1, a => by
    unfold kas_bin
    rw [runKas_bind]
    obtain ⟨d, e1, e2, e3, e4⟩ := place_run O h (by lia) a k 0 k (Nat.zero_le _) (Nat.le_refl _) (by lia) (fun i hi => by lia) (fun i hi hik => by lia)
    rw [e1, Option.bind_some]
    have asc : Asc lt (bubble p k (k - d)) (k + 1) := by
      intro j hj
      rw [bub_get h (by lia) e2 (by lia), bub_get h (by lia) e2 (by lia)]
      by_cases q : j = d
      · subst q
        rw [if_pos rfl, if_neg (by lia), if_pos (by lia)]
        exact e4 (j + 1 - 1) (by lia) (by lia)
      · rw [if_neg q]
        by_cases q2 : d < j ∧ j ≤ k
        · rw [if_pos q2, if_neg (by lia), if_pos (by lia)]
          exact a.to O h (by lia) (by lia) (by lia)
        · rw [if_neg q2]
          by_cases q3 : j + 1 = d
          · rw [if_pos q3]
            exact e3 j (by lia)
          · rw [if_neg q3, if_neg (by lia)]
            exact a j (by lia)
    obtain ⟨p', f1, f2, f3⟩ := bin_run O f (bubble p k (k - d)) (k + 1) (bub_ok h _ _) (by lia) asc
    exact ⟨p', f1, f2, by rw [show k + (f + 1) = k + 1 + f by lia]; exact f3⟩

theorem sort_run (O : Ord N lt) (hN : 2 ≤ N) : ∃ p, runKas N lt (kas_sort N) = some p ∧ p.toList.Perm (List.range N) ∧ p.toList.Pairwise (fun i j => lt i j = true) := by
  obtain ⟨m, p, e1, e2, e3, e4, e5⟩ := count_run O (Array.Perm.refl _ : Ok N (List.range N).toArray) hN
  unfold kas_sort
  rw [runKas_bind, e1, Option.bind_some]
  have fin : ∀ p : Array Nat, Ok N p → Asc lt p N → p.toList.Perm (List.range N) ∧ p.toList.Pairwise (fun i j => lt i j = true) := fun p h a => by
    refine ⟨by simpa using h.toList, ?_⟩
    rw [List.pairwise_iff_getElem]
    intro i j hi hj hij
    have hs := h.size
    simp at hi hj
    have := a.to O h (Nat.le_refl _) hij (by lia)
    have g1 := gt_eq (p := p) (k := i) (by lia)
    have g2 := gt_eq (p := p) (k := j) (by lia)
    rw [← Array.getElem?_toList] at g1 g2
    obtain ⟨_, g1⟩ := List.getElem?_eq_some_iff.mp g1
    obtain ⟨_, g2⟩ := List.getElem?_eq_some_iff.mp g2
    rw [g1, g2]; exact this
  by_cases q : m < N
  · rw [if_pos q]
    obtain ⟨p', f1, f2, f3⟩ := bin_run O (N - max m 1) p (max m 1) e4 (by lia) (by rw [Nat.max_eq_left e2]; exact e5)
    obtain ⟨g1, g2⟩ := fin p' f2 (by rw [show max m 1 + (N - max m 1) = N by lia] at f3; exact f3)
    exact ⟨p', f1, g1, g2⟩
  · rw [if_neg q]
    have : m = N := by lia
    subst this
    obtain ⟨g1, g2⟩ := fin p e4 e5
    exact ⟨p, rfl, g1, g2⟩
end
end Mine.Q
end

/-! text Q6 -/
section
set_option bootstrap.genMatcherCode false
set_option backward.match.sparseCases false
open PySem
set_option maxRecDepth 100000
set_option maxHeartbeats 2000000
namespace Mine.Q

/-! the book's octets -/
noncomputable def slc (bs : List UInt8) (a s : Nat) : List UInt8 := (bs.drop a).take s
noncomputable def num (bs : List UInt8) (a s : Nat) : Nat := be (slc bs a s)

theorem get_num {n : Nat} {bs : List UInt8} {a s : Int} (ha : 0 ≤ a) (hs : 0 ≤ s) (hl : bs.length ≤ 1000) (h : a + s ≤ bs.length) (h8 : s ≤ 8) : evC FT (n + 9) 8 [.bytes bs, .int a, .int s] = .ok (.int (num bs a.toNat s.toNat : Nat)) := by
  have := get_number (n := n) (bs := bs) (a := a.toNat) (s := s.toNat) hl (by lia) (by lia)
  rw [Int.toNat_of_nonneg ha, Int.toNat_of_nonneg hs] at this
  exact this

noncomputable def unpacked (bs : List UInt8) (a : Nat) : V := .tuple [.int (num bs a 8 : Nat), .int (num bs (a + 8) 2 : Nat), .int (num bs (a + 10) 2 : Nat), .int (num bs (a + 12) 4 : Nat)]

theorem unpack_entry (n : Nat) {bs : List UInt8} {a : Nat} (hl : bs.length ≤ 1000) (h : a + 16 ≤ bs.length) (hm : a % 16 = 0) : evC FT (n + 30) 10 [.bytes bs, .int a] = .ok (unpacked bs a) := by
  have hlen : lenV (.bytes bs) = some (.int bs.length) := len_bytes (by lia)
  have hc : evT FT (n + 27) [.val (.bytes bs), .val (.int a), .unb, .unb] (.bop false [(.cmp .Lt (.var 1) (.const (.int 0))), (.cmp .NotEq (.bin .mod (.var 1) (.glob (.int 16))) (.const (.int 0))), (.cmp .Gt (.bin .add (.var 1) (.glob (.int 16))) (.len (.var 0)))]) = .ok false := by
    rw [t_or]
    refine ts_go (t_cmp (x := .int a) (y := .int 0) rfl rfl (by rw [cmp_lt, decide_eq_false (by lia)])) (ts_go (t_cmp (x := .int (a % 16)) (y := .int 0) (e_bin (x := .int a) (y := .int 16) rfl rfl (bin_mod (by decide) (by decide))) rfl ?_) (ts_go (t_cmp (x := .int (a + 16)) (y := .int bs.length) rfl (e_len rfl hlen) (by rw [cmp_gt, decide_eq_false (by lia)])) ts_nil))
    rw [cmp_ne, show ((a : Int) % 16) = 0 by lia]; rfl
  have g : ∀ (q b s : Nat), b + s ≤ 16 → s ≤ 8 → evC FT (q + 9) 8 [.bytes bs, .int (a + b : Int), .int (s : Int)] = .ok (.int (num bs (a + b) s : Nat)) := fun q b s h1 h2 => by
    have := get_num (n := q) (bs := bs) (a := (a + b : Int)) (s := s) (by lia) (by lia) hl (by lia) (by lia)
    rw [show (a + b : Int).toNat = a + b by lia, Int.toNat_natCast] at this
    exact this
  have g0 : ∀ q, evC FT (q + 9) 8 [.bytes bs, .int (a : Int), .int 8] = .ok (.int (num bs a 8 : Nat)) := fun q => by
    have := g q 0 8 (by lia) (by lia)
    rw [show (a + (0 : Nat) : Int) = a by lia] at this
    exact this
  refine c_ret rfl (ss_next (s_iteF hc rfl) (ss_next (s_assign (v := .int (num bs a 8 : Nat)) (e_call (vs := [.bytes bs, .int a, .int 8]) rfl (g0 (n + 16))) rfl) (ss_next (s_assign (v := .int (num bs (a + 8) 2 : Nat)) (e_call (vs := [.bytes bs, .int (a + 8), .int 2]) rfl (g (n + 15) 8 2 (by lia) (by lia))) rfl)
    (ss_ret (s_ret (e_tup (vs := [.int (num bs a 8 : Nat), .int (num bs (a + 8) 2 : Nat), .int (num bs (a + 10) 2 : Nat), .int (num bs (a + 12) 4 : Nat)]) ?_ (by simp)))))))
  exact es_cons rfl (es_cons rfl (es_cons (e_call (vs := [.bytes bs, .int (a + 10), .int 2]) rfl (g (n + 10) 10 2 (by lia) (by lia))) (es_cons (e_call (vs := [.bytes bs, .int (a + 12), .int 4]) rfl (g (n + 9) 12 4 (by lia) (by lia))) es_nil)))

theorem key_at (n : Nat) {bs : List UInt8} {i : Nat} (hl : bs.length ≤ 1000) (h : i * 16 + 8 ≤ bs.length) : evC FT (n + 15) 13 [.bytes bs, .int i] = .ok (.int (num bs (i * 16) 8 : Nat)) := by
  have e1 : binV .mul (.int (i : Int)) (.int 16) = some (.int (i * 16)) := bin_mul (small_of (by lia) (by lia)) (by decide)
  have g := get_num (n := n + 3) (bs := bs) (a := (i * 16 : Int)) (s := 8) (by lia) (by lia) hl (by lia) (by lia)
  rw [show (i * 16 : Int).toNat = i * 16 by lia, show (8 : Int).toNat = 8 from rfl] at g
  exact c_ret rfl (ss_ret (s_ret (e_call (vs := [.bytes bs, .int (i * 16), .int 8]) (es_cons rfl (es_cons (e_bin rfl rfl e1) (es_cons rfl es_nil))) g)))

/-! check_book -/
/-- the row of a block is below that of the one before -/
noncomputable def bad (bs : List UInt8) (a b : Nat) : Bool := decide (num bs b 8 < num bs a 8 ∨ (num bs b 8 = num bs a 8 ∧ num bs (a + 10) 2 < num bs (b + 10) 2))
/-- the first bad block among m of them from i on -/
noncomputable def seek (bs : List UInt8) : Nat → Nat → Int
  | _, 0 => -1
  | i, m + 1 => if bad bs (16 * (i - 1)) (16 * i) then (16 * i : Nat) else seek bs (i + 1) m
noncomputable def blame (bs : List UInt8) : Int := if bs.length % 16 = 0 then seek bs 1 (bs.length / 16 - 1) else bs.length
theorem range_three {a b : Int} (h1 : -4294967296 < a) (h2 : a < 4294967296) (h3 : -4294967296 < b) (h4 : b < 4294967296) {m : Nat} (hm : b = a + 16 * m) : rangeV [.int a, .int b, .int 16] = some ((List.range m).map fun (k : Nat) => V.int (a + (k : Int) * 16)) := by
  show (if _ then _ else _) = _
  rw [if_pos (by rw [small_of h1 h2, small_of h3 h4]; rfl)]
  have : (Builtin.Range.rangeSize a b 16).toNat = m := by
    unfold Builtin.Range.rangeSize
    rw [if_pos (by decide)]
    split <;> lia
  rw [this]
noncomputable def rng16 (i : Nat) (m : Nat) : List V := (List.range m).map fun (k : Nat) => V.int (16 * i + (k : Int) * 16)
theorem rng16_succ (i m : Nat) : rng16 i (m + 1) = .int ((16 * i : Nat) : Int) :: rng16 (i + 1) m := by
  unfold rng16
  rw [List.range_succ_eq_map, List.map_cons, List.map_map]
  have h1 : V.int (16 * i + ((0 : Nat) : Int) * 16) = .int ((16 * i : Nat) : Int) := by congr 1
  rw [h1]
  refine congrArg _ (List.map_congr_left fun k _ => ?_)
  show V.int (16 * i + ((k + 1 : Nat) : Int) * 16) = V.int (16 * ((i + 1 : Nat) : Int) + (k : Int) * 16)
  congr 1; lia

noncomputable def chkB : List S := [.assign 3 (.call 10 [(.var 0), (.var 2)]), .assign 4 (.tup [(.idx (.var 3) (.const (.int 0))), (.neg (.idx (.var 3) (.const (.int 2))))]), .ite (.cmp .Lt (.var 4) (.var 1)) [.raiseBook (.var 2)] [], .assign 1 (.var 4)]
noncomputable def rowV (bs : List UInt8) (a : Nat) : V := .tuple [.int (num bs a 8 : Nat), .int (-(num bs (a + 10) 2 : Nat))]
theorem chk_step (n : Nat) {bs : List UInt8} {a : Nat} (x y : Int) (s2 s3 s4 : Slot) (hl : bs.length ≤ 1000) (h : a + 16 ≤ bs.length) (hm : a % 16 = 0) :
    exSs FT (n + 40) (([.val (.bytes bs), .val (.tuple [.int x, .int y]), s2, s3, s4] : Env).set 2 (.val (.int a))) chkB =
      if ltInts [(num bs a 8 : Nat), -(num bs (a + 10) 2 : Nat)] [x, y] then .exc (.book a) else .ok ([.val (.bytes bs), .val (rowV bs a), .val (.int a), .val (unpacked bs a), .val (rowV bs a)], .next) := by
  have hu := unpack_entry (n + 8) hl h hm
  have hc : evT FT (n + 36) [.val (.bytes bs), .val (.tuple [.int x, .int y]), .val (.int a), .val (unpacked bs a), .val (rowV bs a)] (.cmp .Lt (.var 4) (.var 1)) = .ok (ltInts [(num bs a 8 : Nat), -(num bs (a + 10) 2 : Nat)] [x, y]) := rfl
  refine ss_next (s_assign (v := unpacked bs a) (e_call (vs := [.bytes bs, .int a]) rfl hu) (by
    show ([V.int _, .int _, .int _, .int _].all (V.flat 7) || _) = true
    simp [flat_int])) (ss_next (s_assign (v := rowV bs a) rfl (by
    show ([V.int _, .int _].all (V.flat 7) || _) = true
    simp [flat_int])) ?_)
  cases q : ltInts [(num bs a 8 : Nat), -(num bs (a + 10) 2 : Nat)] [x, y] with
  | true =>
    rw [q] at hc
    rw [if_pos rfl]
    exact ss_exc (s_iteT hc (ss_exc rfl))
  | false =>
    rw [q] at hc
    rw [if_neg Bool.false_ne_true]
    exact ss_next (s_iteF hc rfl) (ss_next (s_assign (v := rowV bs a) rfl (by
      show ([V.int _, .int _].all (V.flat 7) || _) = true
      simp [flat_int])) rfl)

theorem lt_rows (bs : List UInt8) (a b : Nat) : ltInts [((num bs b 8 : Nat) : Int), -(num bs (b + 10) 2 : Nat)] [((num bs a 8 : Nat) : Int), -(num bs (a + 10) 2 : Nat)] = bad bs a b := by
  unfold bad
  generalize num bs b 8 = x1
  generalize num bs (b + 10) 2 = x2
  generalize num bs a 8 = y1
  generalize num bs (a + 10) 2 = y2
  show (if (x1 : Int) == y1 then (if (-(x2 : Int)) == -(y2 : Int) then false else decide (-(x2 : Int) < -(y2 : Int))) else decide ((x1 : Int) < y1)) = _
  by_cases h1 : x1 = y1
  · rw [if_pos (by simp [h1])]
    by_cases h2 : x2 = y2
    · rw [if_pos (by simp [h2]), eq_comm, decide_eq_false (by lia)]
    · rw [if_neg (by simp; lia), decide_eq_decide]; lia
  · rw [if_neg (by simp; lia), decide_eq_decide]; lia

theorem chk_loop (n : Nat) {bs : List UInt8} (hl : bs.length ≤ 1000) : ∀ (m i : Nat) (s2 s3 s4 : Slot), 1 ≤ i → 16 * (i + m) ≤ bs.length →
    if seek bs i m = -1 then ∃ σ', forL (fun σ v => exSs FT (n + 40) (σ.set 2 (.val v)) chkB) (rng16 i m) [.val (.bytes bs), .val (rowV bs (16 * (i - 1))), s2, s3, s4] = .ok (σ', .next)
    else forL (fun σ v => exSs FT (n + 40) (σ.set 2 (.val v)) chkB) (rng16 i m) [.val (.bytes bs), .val (rowV bs (16 * (i - 1))), s2, s3, s4] = .exc (.book (seek bs i m)) := by
  intro m
  induction m with
  | zero => intro i s2 s3 s4 _ _; exact ⟨_, rfl⟩
  | succ m ih =>
    intro i s2 s3 s4 h1 h2
    have st := chk_step n (bs := bs) (a := 16 * i) (num bs (16 * (i - 1)) 8 : Nat) (-(num bs (16 * (i - 1) + 10) 2 : Nat)) s2 s3 s4 hl (by lia) (by lia)
    rw [lt_rows] at st
    rw [rng16_succ]
    unfold seek
    cases q : bad bs (16 * (i - 1)) (16 * i) with
    | true =>
      rw [q, if_pos rfl] at st
      rw [if_pos rfl, if_neg (by lia)]
      exact forL_exc st
    | false =>
      rw [q, if_neg Bool.false_ne_true] at st
      rw [if_neg Bool.false_ne_true]
      have := ih (i + 1) (.val (.int (16 * i : Nat))) (.val (unpacked bs (16 * i))) (.val (rowV bs (16 * i))) (by lia) (by lia)
      rw [show i + 1 - 1 = i by lia] at this
      split at this
      · rename_i z
        rw [if_pos z]
        obtain ⟨σ', e⟩ := this
        exact ⟨σ', forL_next st e⟩
      · rename_i z
        rw [if_neg z]
        exact forL_next st this

theorem check_book (n : Nat) {bs : List UInt8} (hl : bs.length ≤ 1000) : evC FT (n + 50) 16 [.bytes bs] = if blame bs = -1 then .ok .none else .exc (.book (blame bs)) := by
  have hlen : lenV (.bytes bs) = some (.int bs.length) := len_bytes (by lia)
  have hmod : ∀ q, evE FT (q + 4) [.val (.bytes bs), .unb, .unb, .unb, .unb] (.bin .mod (.len (.var 0)) (.glob (.int 16))) = .ok (.int (bs.length % 16 : Nat)) := fun q => e_bin (x := .int bs.length) (y := .int 16) (e_len rfl hlen) rfl (by
    rw [bin_mod (by decide) (by decide)]; simp)
  have hc : ∀ q, evT FT (q + 6) [.val (.bytes bs), .unb, .unb, .unb, .unb] (.cmp .NotEq (.bin .mod (.len (.var 0)) (.glob (.int 16))) (.const (.int 0))) = .ok (!(((bs.length % 16 : Nat) : Int) == 0)) := fun q => t_cmp (hmod _) rfl rfl
  unfold blame
  by_cases q : bs.length % 16 = 0
  · rw [if_pos q]
    have hc0 : ∀ q, evT FT (q + 6) [.val (.bytes bs), .unb, .unb, .unb, .unb] (.cmp .NotEq (.bin .mod (.len (.var 0)) (.glob (.int 16))) (.const (.int 0))) = .ok false := fun r => (hc r).trans (by rw [q]; rfl)
    have hr : rangeV [.int 0, .int bs.length, .int 16] = some (rng16 0 (bs.length / 16)) := by
      rw [range_three (m := bs.length / 16) (by lia) (by lia) (by lia) (by lia) (by lia)]
      rfl
    have ha : evEs FT (n + 45) [.val (.bytes bs), .val (.tuple [.int (-1), .int 0]), .unb, .unb, .unb] [(.const (.int 0)), (.len (.var 0)), (.glob (.int 16))] = .ok [.int 0, .int bs.length, .int 16] := es_cons rfl (es_cons (e_len rfl hlen) (es_cons rfl es_nil))
    by_cases z : bs.length / 16 = 0
    · rw [z] at hr ⊢
      rw [show seek bs 1 (0 - 1) = -1 from rfl, if_pos rfl]
      exact c_call (fl := .next) rfl (ss_next (s_iteF (hc0 _) rfl) (ss_next (s_assign (v := .tuple [.int (-1), .int 0]) rfl rfl) (ss_next (s_forR (n := n + 45) ha hr rfl) rfl)))
    · obtain ⟨m, hm⟩ : ∃ m, bs.length / 16 = m + 1 := ⟨bs.length / 16 - 1, by lia⟩
      have st := chk_step (n + 5) (bs := bs) (a := 0) (-1) 0 .unb .unb .unb hl (by lia) (by lia)
      have hneg : ltInts [(num bs 0 8 : Nat), -(num bs (0 + 10) 2 : Nat)] [-1, 0] = false := by
        show (if ((num bs 0 8 : Nat) : Int) == -1 then _ else decide (((num bs 0 8 : Nat) : Int) < -1)) = false
        rw [if_neg (by simp), decide_eq_false (by lia)]
      rw [hneg, if_neg Bool.false_ne_true] at st
      have lp := chk_loop (n + 5) hl m 1 (.val (.int (0 : Nat))) (.val (unpacked bs 0)) (.val (rowV bs 0)) (Nat.le_refl _) (by lia)
      rw [hm] at hr ⊢
      rw [show m + 1 - 1 = m by lia]
      rw [rng16_succ] at hr
      split at lp
      · rename_i y
        rw [if_pos y]
        obtain ⟨σ', e⟩ := lp
        exact c_call (fl := .next) rfl (ss_next (s_iteF (hc0 _) rfl) (ss_next (s_assign (v := .tuple [.int (-1), .int 0]) rfl rfl) (ss_next (s_forR (n := n + 45) ha hr (forL_next st e)) rfl)))
      · rename_i y
        rw [if_neg y]
        exact c_exc rfl (ss_next (s_iteF (hc0 _) rfl) (ss_next (s_assign (v := .tuple [.int (-1), .int 0]) rfl rfl) (ss_exc (s_forR (n := n + 45) ha hr (forL_next st lp)))))
  · rw [if_neg q, if_neg (by lia)]
    have hc1 : ∀ q, evT FT (q + 6) [.val (.bytes bs), .unb, .unb, .unb, .unb] (.cmp .NotEq (.bin .mod (.len (.var 0)) (.glob (.int 16))) (.const (.int 0))) = .ok true := fun r => (hc r).trans (by
      rw [show (((bs.length % 16 : Nat) : Int) == 0) = false from by simp; lia]; rfl)
    refine c_exc rfl (ss_exc (s_iteT (hc1 _) (ss_exc ?_)))
    show (evE FT _ _ (.len (.var 0))).bind _ = _
    rw [e_len (x := .bytes bs) rfl hlen]; rfl
end Mine.Q
end

/-! text Q7 -/
section
set_option bootstrap.genMatcherCode false
set_option backward.match.sparseCases false
open PySem
set_option maxRecDepth 100000
set_option maxHeartbeats 2000000
namespace Mine.Q

noncomputable def bi (b : UInt8) : V := .int (b.toNat : Int)
noncomputable def bz (b : UInt8) : Int := (b.toNat : Int)

theorem beFrom_eq : ∀ (x : List UInt8) (p : Nat), beFrom p x = p * 256 ^ x.length + be x
  | [], p => by simp [beFrom, be]
  | a :: x, p => by
    show beFrom (p * 256 + a.toNat) x = p * 256 ^ (x.length + 1) + beFrom (0 * 256 + a.toNat) x
    rw [beFrom_eq x (p * 256 + a.toNat), beFrom_eq x (0 * 256 + a.toNat), Nat.pow_succ, Nat.zero_mul, Nat.zero_add, Nat.add_mul, Nat.mul_assoc p, Nat.mul_comm 256]
    lia
theorem be_cons (a : UInt8) (x : List UInt8) : be (a :: x) = a.toNat * 256 ^ x.length + be x := by
  show beFrom (0 * 256 + a.toNat) x = _
  rw [beFrom_eq]; simp
theorem be_bound : ∀ x : List UInt8, be x < 256 ^ x.length
  | [] => by simp [be, beFrom]
  | a :: x => by
    rw [be_cons, List.length_cons, Nat.pow_succ]
    have h1 := be_bound x
    have h2 : a.toNat < 256 := a.toNat_lt
    have : a.toNat * 256 ^ x.length + 256 ^ x.length ≤ 256 * 256 ^ x.length := by
      have := Nat.mul_le_mul_right (256 ^ x.length) (show a.toNat + 1 ≤ 256 by lia)
      rw [Nat.add_mul, Nat.one_mul] at this; exact this
    rw [Nat.mul_comm _ 256]
    lia
theorem be_order : ∀ x y : List UInt8, x.length = y.length → ltInts (x.map bz) (y.map bz) = decide (be x < be y) ∧ ((x.map bz = y.map bz) ↔ be x = be y)
  | [], [], _ => by simp [ltInts, be, beFrom]
  | a :: x, b :: y, h => by
    have hl : x.length = y.length := by simpa using h
    obtain ⟨h1, h2⟩ := be_order x y hl
    have bx := be_bound x
    have by_ := be_bound y
    rw [be_cons, be_cons, hl]
    rw [hl] at bx
    have e1 : ltInts ((a :: x).map bz) ((b :: y).map bz) = if (bz a == bz b) then ltInts (x.map bz) (y.map bz) else decide (bz a < bz b) := rfl
    rw [e1]
    generalize 256 ^ y.length = q at bx by_
    by_cases hab : a.toNat = b.toNat
    · rw [if_pos (by simp [bz, hab]), h1, hab]
      refine ⟨by rw [decide_eq_decide]; lia, ?_⟩
      simp only [List.map_cons, List.cons.injEq]
      constructor
      · rintro ⟨_, z⟩; rw [h2.mp z]
      · intro z; exact ⟨by simp [bz, hab], h2.mpr (by lia)⟩
    · rw [if_neg (by simp [bz]; lia)]
      have key : (a.toNat < b.toNat → a.toNat * q + be x < b.toNat * q + be y) ∧ (b.toNat < a.toNat → b.toNat * q + be y < a.toNat * q + be x) := by
        constructor
        · intro z
          have := Nat.mul_le_mul_right q (show a.toNat + 1 ≤ b.toNat by lia)
          rw [Nat.add_mul, Nat.one_mul] at this; lia
        · intro z
          have := Nat.mul_le_mul_right q (show b.toNat + 1 ≤ a.toNat by lia)
          rw [Nat.add_mul, Nat.one_mul] at this; lia
      constructor
      · rw [decide_eq_decide]
        unfold bz
        rcases Nat.lt_or_gt_of_ne hab with z | z
        · have := key.1 z; constructor <;> intro _ <;> lia
        · have := key.2 z; constructor <;> intro _ <;> lia
      · simp only [List.map_cons, List.cons.injEq]
        constructor
        · rintro ⟨z, _⟩; unfold bz at z; lia
        · intro z
          rcases Nat.lt_or_gt_of_ne hab with w | w
          · have := key.1 w; lia
          · have := key.2 w; lia

theorem ints_bi : ∀ l : List UInt8, ints? (l.map bi) = some (l.map bz) := fun l => ints_map' l
where ints_map' : ∀ l : List UInt8, ints? (l.map bi) = some (l.map bz)
  | [] => rfl
  | a :: l => by
    show (ints? (l.map bi)).map _ = _
    rw [ints_map' l]; rfl
theorem ok_bi (l : List UInt8) : V.ok 8 (.list (l.map bi)) = true := by
  show (l.map bi).all (V.ok 7) = true
  rw [List.all_map, List.all_eq_true]
  intro x _; rfl
theorem toPs_bi : ∀ l : List UInt8, V.toPs (l.map bi) = l.map fun b => PyData.int (bz b)
  | [] => rfl
  | a :: l => by
    show PyData.int (bz a) :: V.toPs (l.map bi) = _
    rw [toPs_bi l]; rfl
theorem eqvAll_ints : ∀ x y : List Int, PyData.eqvAll (x.map .int) (y.map .int) = decide (x = y)
  | [], [] => rfl
  | [], _ :: _ => rfl
  | _ :: _, [] => rfl
  | a :: x, b :: y => by
    show ((a == b) && PyData.eqvAll (x.map .int) (y.map .int)) = _
    rw [eqvAll_ints x y]
    by_cases h1 : a = b
    · by_cases h2 : x = y
      · simp [h1, h2]
      · simp [h1, h2]
    · simp [h1]
theorem eq_bi (x y : List UInt8) (h : x.length = y.length) : cmpV .Eq (.list (x.map bi)) (.list (y.map bi)) = some (decide (be x = be y)) := by
  show (if V.ok 8 (.list (x.map bi)) && V.ok 8 (.list (y.map bi)) then some (PyData.eqvAll (V.toPs (x.map bi)) (V.toPs (y.map bi))) else none) = _
  rw [if_pos (by rw [ok_bi, ok_bi]; rfl), toPs_bi, toPs_bi]
  have : ∀ l : List UInt8, (l.map fun b => PyData.int (bz b)) = (l.map bz).map .int := fun l => by rw [List.map_map]; rfl
  rw [this, this, eqvAll_ints, decide_eq_decide.mpr (be_order x y h).2]
theorem lt_bi (x y : List UInt8) (h : x.length = y.length) : cmpV .Lt (.list (x.map bi)) (.list (y.map bi)) = some (decide (be x < be y)) := by
  show ltLs (x.map bi) (y.map bi) = _
  unfold ltLs
  rw [ints_bi, ints_bi]
  show some (ltInts _ _) = _
  rw [(be_order x y h).1]
theorem gt_bi (x y : List UInt8) (h : x.length = y.length) : cmpV .Gt (.list (x.map bi)) (.list (y.map bi)) = some (decide (be y < be x)) := by
  show ltLs (y.map bi) (x.map bi) = _
  unfold ltLs
  rw [ints_bi, ints_bi]
  show some (ltInts _ _) = _
  rw [(be_order y x h.symm).1]

theorem slc_len {bs : List UInt8} {a s : Nat} (h : a + s ≤ bs.length) : (slc bs a s).length = s := by unfold slc; simp; lia
theorem slc_take {bs : List UInt8} {a s t : Nat} (h : t ≤ s) : (slc bs a s).take t = slc bs a t := by unfold slc; rw [List.take_take, Nat.min_eq_left h]
theorem slc_sub {bs : List UInt8} {a s b t : Nat} (h : b + t ≤ s) : ((slc bs a s).take (b + t)).drop b = slc bs (a + b) t := by
  rw [slc_take h]; unfold slc
  rw [List.drop_take, List.drop_drop, Nat.add_sub_cancel_left]
theorem slice_two {l : List V} {a b : Nat} (h : l.length ≤ 65536) (ha : a ≤ 65536) (hb : b ≤ 65536) : sliceV (.list l) (some (.int a)) (some (.int b)) = some (.list ((l.take b).drop a)) := by
  have e1 : boundV (some (.int (a : Int))) = some (some (a : Int)) := if_pos (small_of (by lia) (by lia))
  have e2 : boundV (some (.int (b : Int))) = some (some (b : Int)) := if_pos (small_of (by lia) (by lia))
  unfold sliceV
  rw [e1, e2]
  show (if l.length ≤ cap then (sliceL l (some (a : Int)) (some (b : Int))).map V.list else none) = _
  rw [if_pos (show l.length ≤ cap from h)]
  show (if (decide (0 ≤ (a : Int)) && decide (0 ≤ (b : Int))) = true then some ((l.take (b : Int).toNat).drop (a : Int).toNat) else none).map V.list = _
  rw [if_pos (by simp), Int.toNat_natCast, Int.toNat_natCast]; rfl
theorem slice_to {l : List V} {b : Nat} (h : l.length ≤ 65536) (hb : b ≤ 65536) : sliceV (.list l) none (some (.int b)) = some (.list (l.take b)) := by
  have e2 : boundV (some (.int (b : Int))) = some (some (b : Int)) := if_pos (small_of (by lia) (by lia))
  unfold sliceV
  rw [e2]
  show (if l.length ≤ cap then (sliceL l none (some (b : Int))).map V.list else none) = _
  rw [if_pos (show l.length ≤ cap from h)]
  show (if 0 ≤ (b : Int) then some (l.take (b : Int).toNat) else none).map V.list = _
  rw [if_pos (by lia), Int.toNat_natCast]; rfl
theorem slice_from {l : List V} {a : Nat} (h : l.length ≤ 65536) (ha : a ≤ 65536) : sliceV (.list l) (some (.int a)) none = some (.list (l.drop a)) := by
  have e2 : boundV (some (.int (a : Int))) = some (some (a : Int)) := if_pos (small_of (by lia) (by lia))
  unfold sliceV
  rw [e2]
  show (if l.length ≤ cap then (sliceL l (some (a : Int)) none).map V.list else none) = _
  rw [if_pos (show l.length ≤ cap from h)]
  show (if 0 ≤ (a : Int) then some (l.drop (a : Int).toNat) else none).map V.list = _
  rw [if_pos (by lia), Int.toNat_natCast]; rfl

/-! _law_blame -/
noncomputable def blB : List S := [.assign 2 (.slice (.var 0) (some (.bin .sub (.var 1) (.const (.int 16)))) (some (.var 1))), .assign 3 (.slice (.var 0) (some (.var 1)) (some (.bin .add (.var 1) (.const (.int 16))))), .ite (.bop false [(.cmp .Lt (.slice (.var 3) .none (some (.const (.int 8)))) (.slice (.var 2) .none (some (.const (.int 8))))), (.bop true [(.cmp .Eq (.slice (.var 3) .none (some (.const (.int 8)))) (.slice (.var 2) .none (some (.const (.int 8))))), (.cmp .Gt (.slice (.var 3) (some (.const (.int 10))) (some (.const (.int 12)))) (.slice (.var 2) (some (.const (.int 10))) (some (.const (.int 12)))))])]) [.ret (.var 1)] []]

noncomputable def envB (bs : List UInt8) (a : Nat) : Env := [.val (.list (bs.map bi)), .val (.int a), .val (.list ((slc bs (a - 16) 16).map bi)), .val (.list ((slc bs a 16).map bi))]

theorem flat_bi (l : List UInt8) : (V.list (l.map bi)).flat 8 = false := rfl

theorem bl_cond (n : Nat) {bs : List UInt8} {a : Nat} (hl : bs.length ≤ 1000) (h0 : 16 ≤ a) (h : a + 16 ≤ bs.length) :
    evT FT (n + 20) (envB bs a) (.bop false [(.cmp .Lt (.slice (.var 3) .none (some (.const (.int 8)))) (.slice (.var 2) .none (some (.const (.int 8))))), (.bop true [(.cmp .Eq (.slice (.var 3) .none (some (.const (.int 8)))) (.slice (.var 2) .none (some (.const (.int 8))))), (.cmp .Gt (.slice (.var 3) (some (.const (.int 10))) (some (.const (.int 12)))) (.slice (.var 2) (some (.const (.int 10))) (some (.const (.int 12)))))])]) = .ok (bad bs (a - 16) a) := by
  have l1 := slc_len (bs := bs) (a := a - 16) (s := 16) (by lia)
  have l2 := slc_len (bs := bs) (a := a) (s := 16) (by lia)
  have p : ∀ (q : Nat) (b : Nat) (v : Nat), (envB bs a)[v]? = some (.val (.list ((slc bs b 16).map bi))) → (slc bs b 16).length = 16 → evE FT (q + 5) (envB bs a) (.slice (.var v) .none (some (.const (.int 8)))) = .ok (.list ((slc bs b 8).map bi)) := fun q b v e hb => by
    refine e_slice (l := none) (h := some (.int 8)) (x := .list ((slc bs b 16).map bi)) ?_ o_none (o_some rfl) ?_
    · show R.ofOpt (((envB bs a)[v]?).bind slotV) = _
      rw [e]; rfl
    · refine (slice_to (b := 8) (by rw [List.length_map, hb]; lia) (by lia)).trans ?_
      rw [← List.map_take, slc_take (by lia)]
  have r : ∀ (q : Nat) (b : Nat) (v : Nat), (envB bs a)[v]? = some (.val (.list ((slc bs b 16).map bi))) → (slc bs b 16).length = 16 → evE FT (q + 5) (envB bs a) (.slice (.var v) (some (.const (.int 10))) (some (.const (.int 12)))) = .ok (.list ((slc bs (b + 10) 2).map bi)) := fun q b v e hb => by
    refine e_slice (l := some (.int 10)) (h := some (.int 12)) (x := .list ((slc bs b 16).map bi)) ?_ (o_some rfl) (o_some rfl) ?_
    · show R.ofOpt (((envB bs a)[v]?).bind slotV) = _
      rw [e]; rfl
    · refine (slice_two (a := 10) (b := 12) (by rw [List.length_map, hb]; lia) (by lia) (by lia)).trans ?_
      rw [← List.map_take, ← List.map_drop, show 12 = 10 + 2 from rfl, slc_sub (by lia)]
  have k1 := slc_len (bs := bs) (a := a - 16) (s := 8) (by lia)
  have k2 := slc_len (bs := bs) (a := a) (s := 8) (by lia)
  have w1 := slc_len (bs := bs) (a := a - 16 + 10) (s := 2) (by lia)
  have w2 := slc_len (bs := bs) (a := a + 10) (s := 2) (by lia)
  have c1 : ∀ q, evT FT (q + 6) (envB bs a) (.cmp .Lt (.slice (.var 3) .none (some (.const (.int 8)))) (.slice (.var 2) .none (some (.const (.int 8))))) = .ok (decide (num bs a 8 < num bs (a - 16) 8)) := fun q => t_cmp (p _ a 3 rfl l2) (p _ (a - 16) 2 rfl l1) (lt_bi _ _ (by rw [k1, k2]))
  have c2 : ∀ q, evT FT (q + 6) (envB bs a) (.cmp .Eq (.slice (.var 3) .none (some (.const (.int 8)))) (.slice (.var 2) .none (some (.const (.int 8))))) = .ok (decide (num bs a 8 = num bs (a - 16) 8)) := fun q => t_cmp (p _ a 3 rfl l2) (p _ (a - 16) 2 rfl l1) (eq_bi _ _ (by rw [k1, k2]))
  have c3 : ∀ q, evT FT (q + 6) (envB bs a) (.cmp .Gt (.slice (.var 3) (some (.const (.int 10))) (some (.const (.int 12)))) (.slice (.var 2) (some (.const (.int 10))) (some (.const (.int 12))))) = .ok (decide (num bs (a - 16 + 10) 2 < num bs (a + 10) 2)) := fun q => t_cmp (r _ a 3 rfl l2) (r _ (a - 16) 2 rfl l1) (gt_bi _ _ (by rw [w1, w2]))
  rw [t_or]
  unfold bad
  by_cases q1 : num bs a 8 < num bs (a - 16) 8
  · rw [decide_eq_true (.inl q1)]
    exact ts_stop (t := false) ((c1 _).trans (by rw [decide_eq_true q1]; rfl))
  · refine ts_go ((c1 _).trans (by rw [decide_eq_false q1])) ?_
    by_cases q2 : num bs a 8 = num bs (a - 16) 8
    · by_cases q3 : num bs (a - 16 + 10) 2 < num bs (a + 10) 2
      · rw [decide_eq_true (.inr ⟨q2, q3⟩)]
        exact ts_stop (t := false) (t_or.trans (ts_go ((c2 _).trans (by rw [decide_eq_true q2])) (ts_go ((c3 _).trans (by rw [decide_eq_true q3])) ts_nil)))
      · rw [decide_eq_false (fun z => z.elim q1 fun y => q3 y.2)]
        exact ts_go (t_or.trans (ts_go ((c2 _).trans (by rw [decide_eq_true q2])) (ts_stop (t := true) ((c3 _).trans (by rw [decide_eq_false q3]; rfl))))) ts_nil
    · rw [decide_eq_false (fun z => z.elim q1 fun y => q2 y.1)]
      exact ts_go (t_or.trans (ts_stop (t := true) ((c2 _).trans (by rw [decide_eq_false q2]; rfl)))) ts_nil

theorem bl_step (n : Nat) {bs : List UInt8} {a : Nat} (s1 s2 s3 : Slot) (hs2 : s2.isOwn = false) (hs3 : s3.isOwn = false) (hl : bs.length ≤ 1000) (h0 : 16 ≤ a) (h : a + 16 ≤ bs.length) :
    exSs FT (n + 30) (([.val (.list (bs.map bi)), s1, s2, s3] : Env).set 1 (.val (.int a))) blB = .ok (envB bs a, if bad bs (a - 16) a then .ret (.int a) else .next) := by
  have hv : ∀ (q x : Nat) (t2 t3 : Slot), x + 16 ≤ bs.length → ∀ lo hi : E, evE FT (q + 2) [.val (.list (bs.map bi)), .val (.int a), t2, t3] lo = .ok (.int x) → evE FT (q + 2) [.val (.list (bs.map bi)), .val (.int a), t2, t3] hi = .ok (.int (x + 16 : Nat)) →
      evE FT (q + 4) [.val (.list (bs.map bi)), .val (.int a), t2, t3] (.slice (.var 0) (some lo) (some hi)) = .ok (.list ((slc bs x 16).map bi)) := fun q x t2 t3 hx lo hi e1 e2 => by
    refine e_slice (x := .list (bs.map bi)) rfl (o_some e1) (o_some e2) ?_
    rw [slice_two (by simp; lia) (by lia) (by lia), ← List.map_take, ← List.map_drop]
    unfold slc
    rw [List.drop_take, Nat.add_sub_cancel_left]
  have no2 : ∀ t2 : Slot, t2.isOwn = false → noOwn [.val (.list (bs.map bi)), .val (.int a), t2, s3] = true := fun t2 ht => by
    show (!(false || (false || (t2.isOwn || (s3.isOwn || false))))) = true
    rw [ht, hs3]; rfl
  refine ss_next (σ' := [.val (.list (bs.map bi)), .val (.int a), .val (.list ((slc bs (a - 16) 16).map bi)), s3]) (s_assign (hv _ (a - 16) s2 s3 (by lia) _ _ ?_ ?_) (by rw [flat_bi]; exact no2 s2 hs2)) (ss_next (σ' := envB bs a) (s_assign (hv _ a _ s3 h _ _ rfl ?_) (by rw [flat_bi]; exact no2 _ rfl)) ?_)
  · show R.ok (V.int ((a : Int) - 16)) = _
    rw [show (a : Int) - 16 = ((a - 16 : Nat) : Int) by lia]
  · rw [show ((a - 16 + 16 : Nat) : Int) = a by lia]; rfl
  · show R.ok (V.int ((a : Int) + 16)) = _
    rw [show (a : Int) + 16 = ((a + 16 : Nat) : Int) by lia]
  · have hc := bl_cond (n + 6) hl h0 h
    cases q : bad bs (a - 16) a with
    | true =>
      rw [q] at hc
      exact ss_ret (s_iteT hc (ss_ret (s_ret rfl)))
    | false =>
      rw [q] at hc
      exact ss_next (s_iteF hc rfl) rfl

theorem bl_loop (n : Nat) {bs : List UInt8} (hl : bs.length ≤ 1000) : ∀ (m i : Nat) (s1 s2 s3 : Slot), s2.isOwn = false → s3.isOwn = false → 1 ≤ i → 16 * (i + m) ≤ bs.length →
    ∃ σ', forL (fun σ v => exSs FT (n + 30) (σ.set 1 (.val v)) blB) (rng16 i m) [.val (.list (bs.map bi)), s1, s2, s3] = .ok (σ', if seek bs i m = -1 then .next else .ret (.int (seek bs i m))) := by
  intro m
  induction m with
  | zero => intro i s1 s2 s3 _ _ _ _; exact ⟨_, rfl⟩
  | succ m ih =>
    intro i s1 s2 s3 h2 h3 h1 hh
    have st := bl_step n (bs := bs) (a := 16 * i) s1 s2 s3 h2 h3 hl (by lia) (by lia)
    rw [rng16_succ]
    unfold seek
    rw [show 16 * i - 16 = 16 * (i - 1) by lia] at st
    cases q : bad bs (16 * (i - 1)) (16 * i) with
    | true =>
      rw [q, if_pos rfl] at st
      rw [if_pos rfl, if_neg (by lia)]
      exact ⟨_, forL_ret st⟩
    | false =>
      rw [q, if_neg Bool.false_ne_true] at st
      rw [if_neg Bool.false_ne_true]
      obtain ⟨σ', e⟩ := ih (i + 1) (.val (.int (16 * i : Nat))) (.val (.list ((slc bs (16 * i - 16) 16).map bi))) (.val (.list ((slc bs (16 * i) 16).map bi))) rfl rfl (by lia) (by lia)
      exact ⟨σ', forL_next st e⟩

theorem law_blame (n : Nat) {bs : List UInt8} (hl : bs.length ≤ 1000) : evC FT (n + 40) 37 [.list (bs.map bi)] = .ok (.int (blame bs)) := by
  have hlen : lenV (.list (bs.map bi)) = some (.int bs.length) := by rw [len_list (by simp; lia), List.length_map]
  have hc : evT FT (n + 37) [.val (.list (bs.map bi)), .unb, .unb, .unb] (.bin .mod (.len (.var 0)) (.const (.int 16))) = .ok (((bs.length % 16 : Nat) : Int) != 0) := t_val (x := .int (bs.length % 16 : Nat)) rfl (e_bin (x := .int bs.length) (y := .int 16) (e_len rfl hlen) rfl (by
    rw [bin_mod (by decide) (by decide)]; simp)) rfl
  unfold blame
  by_cases q : bs.length % 16 = 0
  · rw [if_pos q]
    rw [q] at hc
    by_cases z : bs.length < 16
    · have hr : rangeV [.int 16, .int bs.length, .int 16] = some [] := by
        have : bs.length = 0 := by lia
        rw [this]; rfl
      have : bs.length / 16 - 1 = 0 := by lia
      rw [this]
      exact c_ret rfl (ss_next (s_iteF hc rfl) (ss_next (s_forR (n := n + 36) (vs := [.int 16, .int bs.length, .int 16]) (es_cons rfl (es_cons (e_len rfl hlen) (es_cons rfl es_nil))) hr rfl) (ss_ret (s_ret rfl))))
    · have hr : rangeV [.int 16, .int bs.length, .int 16] = some (rng16 1 (bs.length / 16 - 1)) := by
        rw [range_three (m := bs.length / 16 - 1) (by lia) (by lia) (by lia) (by lia) (by lia)]
        rfl
      obtain ⟨σ', e⟩ := bl_loop (n + 6) hl (bs.length / 16 - 1) 1 .unb .unb .unb rfl rfl (Nat.le_refl _) (by lia)
      have ha : evEs FT (n + 36) [.val (.list (bs.map bi)), .unb, .unb, .unb] [(.const (.int 16)), (.len (.var 0)), (.const (.int 16))] = .ok [.int 16, .int bs.length, .int 16] := es_cons rfl (es_cons (e_len rfl hlen) (es_cons rfl es_nil))
      by_cases y : seek bs 1 (bs.length / 16 - 1) = -1
      · rw [if_pos y] at e
        rw [y]
        exact c_ret rfl (ss_next (s_iteF hc rfl) (ss_next (s_forR (n := n + 36) ha hr e) (ss_ret (s_ret rfl))))
      · rw [if_neg y] at e
        exact c_ret rfl (ss_next (s_iteF hc rfl) (ss_ret (s_forR (n := n + 36) ha hr e)))
  · rw [if_neg q]
    rw [show (((bs.length % 16 : Nat) : Int) != 0) = true from by simp; lia] at hc
    exact c_ret rfl (ss_ret (s_iteT hc (ss_ret (s_ret (e_len rfl hlen)))))
end Mine.Q
end

/-! text Q8 -/
section
set_option bootstrap.genMatcherCode false
set_option backward.match.sparseCases false
open PySem PySem.W
set_option maxRecDepth 100000
set_option maxHeartbeats 2000000
namespace Mine.Q

/-! put_number, pack_entry -/
noncomputable def put (x s : Nat) : List UInt8 := (List.range s).map fun i => UInt8.ofNat (x / 2 ^ (8 * (s - 1 - i)) % 256)
theorem put_len (x s : Nat) : (put x s).length = s := by simp [put]
theorem put_succ (x s : Nat) : put x (s + 1) = put (x / 256) s ++ [UInt8.ofNat (x % 256)] := by
  unfold put
  rw [List.range_succ, List.map_append]
  congr 1
  · refine List.map_congr_left fun i hi => ?_
    have hi : i < s := by simpa using hi
    rw [show 8 * (s + 1 - 1 - i) = 8 + 8 * (s - 1 - i) by lia, Nat.pow_add, ← Nat.div_div_eq_div_mul]
  · simp
theorem be_snoc (l : List UInt8) (b : UInt8) : be (l ++ [b]) = be l * 256 + b.toNat := by
  unfold be beFrom
  rw [List.foldl_append]; rfl
theorem be_put : ∀ (s x : Nat), be (put x s) = x % 256 ^ s
  | 0, x => by simp [put, be, beFrom, Nat.mod_one]
  | s + 1, x => by
    rw [put_succ, be_snoc, be_put s]
    have h : (UInt8.ofNat (x % 256)).toNat = x % 256 := by simp
    rw [h, Nat.pow_succ, Nat.mul_comm (256 ^ s) 256, Nat.mod_mul, Nat.mul_comm 256]
    lia

theorem and_255 (x : Nat) : x &&& 255 = x % 256 := Nat.and_two_pow_sub_one_eq_mod x 8
theorem bytesOf_nats : ∀ l : List Nat, (∀ x ∈ l, x < 256) → bytesOf (l.map fun (x : Nat) => V.int (x : Int)) = some (l.map UInt8.ofNat)
  | [], _ => rfl
  | x :: l, h => by
    have hx := h x (.head _)
    show (if (decide (0 ≤ (x : Int)) && decide ((x : Int) < 256)) = true then (bytesOf (l.map fun (x : Nat) => V.int (x : Int))).map (UInt8.ofNat (x : Int).toNat :: ·) else none) = _
    rw [if_pos (by simp; lia), bytesOf_nats l fun y hy => h y (.tail _ hy)]
    simp

noncomputable def putB : List S := [.append 2 (.bin .band (.bin .shr (.var 0) (.bin .mul (.const (.int 8)) (.bin .sub (.bin .sub (.var 1) (.const (.int 1))) (.var 3)))) (.const (.int 255)))]
noncomputable def digs (x s a m : Nat) : List Nat := (List.range m).map fun i => x / 2 ^ (8 * (s - 1 - (a + i))) % 256
theorem digs_succ (x s a m : Nat) : digs x s a (m + 1) = x / 2 ^ (8 * (s - 1 - a)) % 256 :: digs x s (a + 1) m := by
  unfold digs
  rw [List.range_succ_eq_map, List.map_cons, List.map_map]
  congr 1
  refine List.map_congr_left fun i _ => ?_
  show x / 2 ^ (8 * (s - 1 - (a + (i + 1)))) % 256 = _
  rw [show a + (i + 1) = a + 1 + i by lia]

theorem put_step (n : Nat) (x s a : Nat) (l : List V) (s3 : Slot) (hx : x < 2 ^ 64) (hs : s ≤ 8) (ha : a < s) (hl : l.length < 1000) :
    exSs FT (n + 20) (([.val (.int x), .val (.int s), .own l, s3] : Env).set 3 (.val (.int a))) putB = .ok ([.val (.int x), .val (.int s), .own (l ++ [.int ((x / 2 ^ (8 * (s - 1 - a)) % 256 : Nat) : Int)]), .val (.int a)], .next) := by
  have e1 : binV .mul (.int 8) (.int ((s : Int) - 1 - a)) = some (.int (8 * ((s : Int) - 1 - a))) := bin_mul (by decide) (small_of (by lia) (by lia))
  have e2 : binV .shr (.int (x : Int)) (.int (8 * ((s : Int) - 1 - a))) = some (.int ((x / 2 ^ (8 * (s - 1 - a)) : Nat) : Int)) := by
    rw [bin_shr (by lia) (by lia) (by lia) (by lia)]
    congr 2
    rw [show (8 * ((s : Int) - 1 - a)).toNat = 8 * (s - 1 - a) by lia]
    simp
  have hle : x / 2 ^ (8 * (s - 1 - a)) ≤ x := Nat.div_le_self _ _
  have e3 : binV .band (.int ((x / 2 ^ (8 * (s - 1 - a)) : Nat) : Int)) (.int 255) = some (.int ((x / 2 ^ (8 * (s - 1 - a)) % 256 : Nat) : Int)) := by
    generalize x / 2 ^ (8 * (s - 1 - a)) = y at hle ⊢
    rw [bin_band (by lia) (by lia) (by lia) (by lia), Int.toNat_natCast]
    exact congrArg (fun z : Nat => some (V.int (z : Int))) (and_255 y)
  generalize ((x / 2 ^ (8 * (s - 1 - a)) % 256 : Nat) : Int) = z at e3 ⊢
  generalize ((x / 2 ^ (8 * (s - 1 - a)) : Nat) : Int) = y at e2 e3
  exact ss_next (s_append (l := l) (v := .int z) rfl (e_bin (e_bin (x := .int x) rfl (e_bin (x := .int 8) (y := .int ((s : Int) - 1 - a)) rfl rfl e1) e2) rfl e3) rfl (by lia)) rfl

theorem put_loop (n : Nat) (x s : Nat) (hx : x < 2 ^ 64) (hs : s ≤ 8) : ∀ (m a : Nat) (l : List V) (s3 : Slot), a + m = s → l.length + m < 1000 →
    ∃ s3', forL (fun σ v => exSs FT (n + 20) (σ.set 3 (.val v)) putB) (rng a m) [.val (.int x), .val (.int s), .own l, s3] = .ok ([.val (.int x), .val (.int s), .own (l ++ (digs x s a m).map fun (d : Nat) => V.int (d : Int)), s3'], .next) := by
  intro m
  induction m with
  | zero => intro a l s3 _ _; exact ⟨s3, by rw [rng_zero]; simp [digs, forL]⟩
  | succ m ih =>
    intro a l s3 h1 h2
    obtain ⟨s3', e⟩ := ih (a + 1) (l ++ [.int ((x / 2 ^ (8 * (s - 1 - a)) % 256 : Nat) : Int)]) (.val (.int a)) (by lia) (by simp; lia)
    refine ⟨s3', ?_⟩
    rw [rng_succ]
    refine forL_next (put_step n x s a l s3 hx hs (by lia) (by lia)) ?_
    rw [show ((a : Int) + 1) = ((a + 1 : Nat) : Int) by lia, e, digs_succ]
    simp

theorem put_number (n : Nat) (x s : Nat) (hx : x < 2 ^ 64) (hs : s ≤ 8) : evC FT (n + 25) 7 [.int x, .int s] = .ok (.bytes (put x s)) := by
  obtain ⟨s3', e⟩ := put_loop (n + 1) x s hx hs s 0 [] .unb (by lia) (by simp; lia)
  have hr : rangeV [.int (s : Int)] = some (rng 0 s) := by rw [range_one (by lia) (by lia), Int.toNat_natCast]
  refine c_ret rfl (ss_next (s_assignOwn (l := []) rfl rfl (by decide)) (ss_next (s_forR (n := n + 21) (vs := [.int s]) rfl hr e) (ss_ret (s_ret (e_toBytes rfl ?_)))))
  refine (if_pos (show _ ≤ 65536 by simp [digs]; lia)).trans ?_
  rw [List.nil_append, bytesOf_nats _ fun y hy => ?_]
  · show some (V.bytes ((digs x s 0 s).map UInt8.ofNat)) = _
    congr 2
    unfold digs put
    rw [List.map_map]
    refine List.map_congr_left fun i _ => ?_
    show UInt8.ofNat (x / 2 ^ (8 * (s - 1 - (0 + i))) % 256) = _
    rw [Nat.zero_add]
  · obtain ⟨i, _, rfl⟩ := List.mem_map.mp hy
    exact Nat.mod_lt _ (by decide)

/-- an entry that fits its fields -/
structure Fit (e : Q4) : Prop where
  k0 : 0 ≤ e.1
  k1 : e.1 < 3
  m0 : 0 < e.2.1
  m1 : e.2.1 < 65536
  w0 : 0 ≤ e.2.2.1
  w1 : e.2.2.1 ≤ 65535
  l0 : 0 ≤ e.2.2.2
  l1 : e.2.2.2 < 65536
noncomputable def pack (e : Q4) : List UInt8 := put e.1.toNat 8 ++ put e.2.1.toNat 2 ++ put e.2.2.1.toNat 2 ++ put e.2.2.2.toNat 4
theorem pack_len (e : Q4) : (pack e).length = 16 := by simp [pack, put_len]

noncomputable def packB : List S := [.ite (.bop false [(.cmp .Lt (.idx (.var 4) (.var 7)) (.const (.int 0))), (.cmp .GtE (.idx (.var 4) (.var 7)) (.bin .shl (.const (.int 1)) (.bin .mul (.const (.int 8)) (.idx (.var 5) (.var 7)))))]) [.stuck] [], .aug 6 .add (.call 7 [(.idx (.var 4) (.var 7)), (.idx (.var 5) (.var 7))])]
noncomputable def envP (k m w l : V) (o : List UInt8) (s : Slot) : Env := [.val k, .val m, .val w, .val l, .val (.list [k, m, w, l]), .val (.list [.int 8, .int 2, .int 2, .int 4]), .val (.bytes o), s]
theorem pack_step (n : Nat) (k m w l : V) (o : List UInt8) (s : Slot) (a : Int) (x y : Nat) (h1 : idxV (.list [k, m, w, l]) (.int a) = some (.int (x : Int))) (h2 : idxV (.list [.int 8, .int 2, .int 2, .int 4]) (.int a) = some (.int (y : Int))) (hy : y ≤ 8) (hx : x < 2 ^ 64) (hxy : (x : Int) < 2 ^ (8 * y)) (ho : o.length < 1000) :
    exSs FT (n + 40) ((envP k m w l o s).set 7 (.val (.int a))) packB = .ok (envP k m w l (o ++ put x y) (.val (.int a)), .next) := by
  have i1 : ∀ q, evE FT (q + 2) (envP k m w l o (.val (.int a))) (.idx (.var 4) (.var 7)) = .ok (.int x) := fun q => e_idx (x := .list [k, m, w, l]) rfl rfl h1
  have i2 : ∀ q, evE FT (q + 2) (envP k m w l o (.val (.int a))) (.idx (.var 5) (.var 7)) = .ok (.int y) := fun q => e_idx (x := .list [.int 8, .int 2, .int 2, .int 4]) rfl rfl h2
  have e1 : binV .mul (.int 8) (.int (y : Int)) = some (.int (8 * y)) := bin_mul (by decide) (small_of (by lia) (by lia))
  have e2 : binV .shl (.int 1) (.int (8 * (y : Int))) = some (.int (2 ^ (8 * y))) := by
    rw [bin_shl (by decide) (by decide) (by lia) (by lia), show (8 * (y : Int)).toNat = 8 * y by lia, Int.one_mul]
  have hc : evT FT (n + 38) (envP k m w l o (.val (.int a))) (.bop false [(.cmp .Lt (.idx (.var 4) (.var 7)) (.const (.int 0))), (.cmp .GtE (.idx (.var 4) (.var 7)) (.bin .shl (.const (.int 1)) (.bin .mul (.const (.int 8)) (.idx (.var 5) (.var 7)))))]) = .ok false := by
    rw [t_or]
    refine ts_go (t_cmp (i1 _) rfl (by rw [cmp_lt, decide_eq_false (by lia)])) (ts_go (t_cmp (i1 _) (e_bin rfl (e_bin rfl (i2 _) e1) e2) ?_) ts_nil)
    rw [cmp_ge, decide_eq_false (by lia)]
  exact ss_next (s_iteF hc rfl) (ss_next (s_aug (x := .bytes o) rfl (e_call (es_cons (i1 _) (es_cons (i2 _) es_nil)) (put_number (n + 10) x y hx hy)) (bin_addB (by rw [put_len]; lia)) (.inr ⟨_, rfl⟩)) rfl)

theorem pack_entry (n : Nat) (e : Q4) (h : Fit e) : evC FT (n + 50) 9 [.int e.1, .int e.2.1, .int e.2.2.1, .int e.2.2.2] = .ok (.bytes (pack e)) := by
  obtain ⟨k, m, w, l⟩ := e
  obtain ⟨k0, k1, m0, m1, w0, w1, l0, l1⟩ := h
  dsimp only at *
  obtain ⟨k, rfl⟩ := Int.eq_ofNat_of_zero_le k0
  obtain ⟨m, rfl⟩ := Int.eq_ofNat_of_zero_le (Int.le_of_lt m0)
  obtain ⟨w, rfl⟩ := Int.eq_ofNat_of_zero_le w0
  obtain ⟨l, rfl⟩ := Int.eq_ofNat_of_zero_le l0
  have p0 := pack_step (n + 4) (.int k) (.int m) (.int w) (.int l) [] .unb 0 k 8 rfl rfl (by lia) (by lia) (by lia) (by simp)
  have p1 := pack_step (n + 4) (.int k) (.int m) (.int w) (.int l) (put k 8) (.val (.int 0)) 1 m 2 rfl rfl (by lia) (by lia) (by lia) (by rw [put_len]; lia)
  have p2 := pack_step (n + 4) (.int k) (.int m) (.int w) (.int l) (put k 8 ++ put m 2) (.val (.int 1)) 2 w 2 rfl rfl (by lia) (by lia) (by lia) (by simp [put_len])
  have p3 := pack_step (n + 4) (.int k) (.int m) (.int w) (.int l) (put k 8 ++ put m 2 ++ put w 2) (.val (.int 2)) 3 l 4 rfl rfl (by lia) (by lia) (by lia) (by simp [put_len])
  have hr : rangeV [.int 4] = some [.int 0, .int 1, .int 2, .int 3] := rfl
  exact c_ret rfl (ss_next (s_assign (v := .list [.int k, .int m, .int w, .int l]) rfl rfl) (ss_next (s_assign (v := .list [.int 8, .int 2, .int 2, .int 4]) rfl rfl) (ss_next (s_assign (v := .bytes []) rfl rfl) (ss_next (s_forR (n := n + 44) (vs := [.int 4]) rfl hr (forL_next p0 (forL_next p1 (forL_next p2 (forL_next p3 rfl))))) (ss_ret (s_ret rfl))))))

/-! make_book -/
noncomputable abbrev R3 := Int × Int × Int
noncomputable def rv (r : R3) : V := .tuple [.int r.1, .int r.2.1, .int r.2.2]
theorem rv_flat (r : R3) : V.flat 8 (rv r) = true := by
  show [V.int r.1, .int r.2.1, .int r.2.2].all (V.flat 7) = true
  simp [flat_int]
noncomputable abbrev z4 : Q4 := (0, 0, 0, 0)
noncomputable def rowOf (es : List Q4) (i : Nat) : R3 := ((es.getD i z4).1, -(es.getD i z4).2.2.1, (i : Int))
theorem lt3_iff (x y : R3) : lt3 x y = true ↔ (x.1 < y.1 ∨ (x.1 = y.1 ∧ (x.2.1 < y.2.1 ∨ (x.2.1 = y.2.1 ∧ x.2.2 < y.2.2)))) := by
  obtain ⟨a, b, c⟩ := x
  obtain ⟨d, e, f⟩ := y
  show (if a == d then (if b == e then (if c == f then false else decide (c < f)) else decide (b < e)) else decide (a < d)) = true ↔ _
  by_cases h1 : a = d
  · rw [if_pos (by simp [h1])]
    by_cases h2 : b = e
    · rw [if_pos (by simp [h2])]
      by_cases h3 : c = f
      · rw [if_pos (by simp [h3])]; simp [h1, h2, h3]
      · rw [if_neg (by simp [h3])]; simp [h1, h2]
    · rw [if_neg (by simp [h2])]; simp [h1, h2]
  · rw [if_neg (by simp [h1])]; simp [h1]

noncomputable def below (es : List Q4) (i j : Nat) : Bool := lt3 (((List.range es.length).map (rowOf es)).getD i (0, 0, 0)) (((List.range es.length).map (rowOf es)).getD j (0, 0, 0))
theorem row_getD {es : List Q4} {i : Nat} (h : i < es.length) : ((List.range es.length).map (rowOf es)).getD i (0, 0, 0) = rowOf es i := by simp [h]
theorem below_eq {es : List Q4} {i j : Nat} (hi : i < es.length) (hj : j < es.length) : below es i j = lt3 (rowOf es i) (rowOf es j) := by unfold below; rw [row_getD hi, row_getD hj]
theorem lex_tr {a b c d e f g h i : Int} (h1 : a < d ∨ a = d ∧ (b < e ∨ b = e ∧ c < f)) (h2 : d < g ∨ d = g ∧ (e < h ∨ e = h ∧ f < i)) : a < g ∨ a = g ∧ (b < h ∨ b = h ∧ c < i) := by
  rcases h1 with h1 | ⟨rfl, h1⟩
  · exact .inl (h2.elim (Int.lt_trans h1) fun h2 => h2.1 ▸ h1)
  · rcases h2 with h2 | ⟨rfl, h2⟩
    · exact .inl h2
    · refine .inr ⟨rfl, ?_⟩
      rcases h1 with h1 | ⟨rfl, h1⟩
      · exact .inl (h2.elim (Int.lt_trans h1) fun h2 => h2.1 ▸ h1)
      · exact h2.elim .inl fun h2 => .inr ⟨h2.1, Int.lt_trans h1 h2.2⟩
theorem lex_ir {a b c : Int} (h : a < a ∨ a = a ∧ (b < b ∨ b = b ∧ c < c)) : False :=
  h.elim (Int.lt_irrefl _) fun h => h.2.elim (Int.lt_irrefl _) fun h => Int.lt_irrefl _ h.2
theorem lex_tot {a b c d e f : Int} (hne : c ≠ f) (h : ¬ (a < d ∨ a = d ∧ (b < e ∨ b = e ∧ c < f))) : d < a ∨ d = a ∧ (e < b ∨ e = b ∧ f < c) := by
  rcases Int.lt_trichotomy a d with q | rfl | q
  · exact (h (.inl q)).elim
  · refine .inr ⟨rfl, ?_⟩
    rcases Int.lt_trichotomy b e with q | rfl | q
    · exact (h (.inr ⟨rfl, .inl q⟩)).elim
    · exact .inr ⟨rfl, (Int.lt_or_gt_of_ne hne).resolve_left fun q => h (.inr ⟨rfl, .inr ⟨rfl, q⟩⟩)⟩
    · exact .inl q
  · exact .inl q
theorem below_ord (es : List Q4) : Ord es.length (below es) where
  tr i j k hi hj hk h1 h2 := by
    rw [below_eq hi hj, lt3_iff] at h1
    rw [below_eq hj hk, lt3_iff] at h2
    rw [below_eq hi hk, lt3_iff]
    exact lex_tr h1 h2
  ir i := by
    unfold below
    generalize ((List.range es.length).map (rowOf es)).getD i (0, 0, 0) = r
    cases h : lt3 r r with
    | false => rfl
    | true => exact (lex_ir ((lt3_iff _ _).mp h)).elim
  tot i j hi hj hne h := by
    rw [below_eq hj hi, lt3_iff]
    have h' : ¬ (lt3 (rowOf es i) (rowOf es j) = true) := by rw [← below_eq hi hj, h]; exact Bool.false_ne_true
    rw [lt3_iff] at h'
    exact lex_tot (fun (e : (i : Int) = j) => hne (Int.ofNat.inj e)) h'

/-- the places of the entries in the book's order -/
structure Order (es : List Q4) (idx : List Nat) : Prop where
  perm : idx.Perm (List.range es.length)
  sorted : idx.Pairwise fun i j => lt3 (rowOf es i) (rowOf es j) = true

theorem rows3_map : ∀ l : List R3, rows3 (l.map rv) = some l
  | [] => rfl
  | r :: l => by
    show (rows3 (l.map rv)).map _ = _
    rw [rows3_map l]; rfl

theorem sort_ok (es : List Q4) (h : es.length < 60) : ∃ idx, Order es idx ∧ sortV (.list ((List.range es.length).map fun i => rv (rowOf es i))) = some (.list (idx.map fun i => rv (rowOf es i))) := by
  have hm : ((List.range es.length).map fun i => rv (rowOf es i)) = ((List.range es.length).map (rowOf es)).map rv := by rw [List.map_map]; rfl
  have hlen : ((List.range es.length).map fun i => rv (rowOf es i)).length = es.length := by simp
  by_cases h2 : es.length < 2
  · refine ⟨List.range es.length, ⟨List.Perm.refl _, ?_⟩, ?_⟩
    · rcases Nat.lt_or_ge es.length 1 with z | z
      · rw [show es.length = 0 by lia]; exact List.Pairwise.nil
      · rw [show es.length = 1 by lia]; exact List.pairwise_singleton _ _
    · show (if _ then _ else _) = _
      rw [if_pos (by rw [hlen]; exact h), hm, rows3_map, Option.bind_some, if_pos (by simpa using h2)]
  · obtain ⟨p, e1, e2, e3⟩ := sort_run (below_ord es) (by lia)
    have hlt : ∀ i ∈ p.toList, i < es.length := fun i hi => by simpa using e2.mem_iff.mp hi
    refine ⟨p.toList, ⟨e2, ?_⟩, ?_⟩
    · refine e3.imp_of_mem fun {i j} hi hj hb => ?_
      rw [← below_eq (hlt i hi) (hlt j hj)]; exact hb
    · show (if _ then _ else _) = _
      rw [if_pos (by rw [hlen]; exact h), hm, rows3_map, Option.bind_some, if_neg (by simpa using h2)]
      have hr : (((List.range es.length).map (rowOf es)).map rv).length = es.length := by simp
      rw [hr]
      show (runKas es.length (below es) (kas_sort es.length)).map _ = _
      rw [e1]
      show some (V.list _) = _
      congr 2
      refine List.map_congr_left fun i hi => ?_
      have := hlt i hi
      simp [this]

theorem s_forE {n : Nat} {σ : Env} {t : Tgt} {e : E} {body : List S} {l : List V} {r : R (Env × Flow)} (he : varOf e = none) (h : evE FT n σ e = .ok (.list l)) (hf : ((freshE e && l.all (V.flat 8)) || noOwn σ) = true)
    (k : forL (fun σ v => (R.ofOpt (bindTgt σ t v)).bind fun σ' => exSs FT n σ' body) l σ = r) : exS FT (n + 1) σ (.forV t e body) = r := by
  show (match varOf e with | some j => _ | .none => (evE FT n σ e).bind _) = _
  rw [he]
  show (evE FT n σ e).bind _ = _
  rw [h]
  exact (if_pos hf).trans k

noncomputable def mkB1 : List S := [.append 1 (.tup [(.idx (.idx (.var 0) (.var 2)) (.const (.int 0))), (.neg (.idx (.idx (.var 0) (.var 2)) (.const (.int 2)))), (.var 2)])]
theorem mk_loop1 (n : Nat) (es : List Q4) (hes : es.length < 60) : ∀ (m a : Nat) (s2 : Slot), a + m = es.length →
    ∃ s2', forL (fun σ v => exSs FT (n + 20) (σ.set 2 (.val v)) mkB1) (rng a m) [.val (.list (es.map qv)), .own ((List.range a).map fun i => rv (rowOf es i)), s2, .unb, .unb, .unb, .unb, .unb, .unb] =
      .ok ([.val (.list (es.map qv)), .own ((List.range es.length).map fun i => rv (rowOf es i)), s2', .unb, .unb, .unb, .unb, .unb, .unb], .next) := by
  intro m
  induction m with
  | zero => intro a s2 h; exact ⟨s2, by rw [rng_zero, ← h]; rfl⟩
  | succ m ih =>
    intro a s2 h
    obtain ⟨s2', e⟩ := ih (a + 1) (.val (.int a)) (by lia)
    refine ⟨s2', ?_⟩
    rw [rng_succ]
    have hi : idxV (.list (es.map qv)) (.int a) = some (qv (es.getD a z4)) := idx_list (by lia) (by simp; lia) (by rw [Int.toNat_natCast]; exact getElem_qv (by lia))
    have hx : ∀ q (L : List V), evE FT (q + 2) [.val (.list (es.map qv)), .own L, .val (.int a), .unb, .unb, .unb, .unb, .unb, .unb] (.idx (.var 0) (.var 2)) = .ok (qv (es.getD a z4)) := fun q L => e_idx rfl rfl hi
    refine forL_next (σ' := [.val (.list (es.map qv)), .own ((List.range (a + 1)).map fun i => rv (rowOf es i)), .val (.int a), .unb, .unb, .unb, .unb, .unb, .unb]) ?_ ?_
    · refine ss_next (s_append (l := (List.range a).map fun i => rv (rowOf es i)) (v := rv (rowOf es a)) rfl (e_tup (vs := [.int (es.getD a z4).1, .int (-(es.getD a z4).2.2.1), .int a]) (es_cons (e_idx (hx _ _) rfl rfl) (es_cons (e_neg (e_idx (hx _ _) rfl rfl)) (es_cons rfl es_nil))) (by simp)) (rv_flat _) (by simp; lia)) ?_
      rw [ss_nil, List.range_succ, List.map_append]; rfl
    · rw [show ((a : Int) + 1) = ((a + 1 : Nat) : Int) by lia, e]

noncomputable def mkB2 : List S := [.assignTup [5, 6, 7, 8] (.idx (.var 0) (.idx (.var 4) (.const (.int 2)))), .aug 3 .add (.call 9 [(.var 5), (.var 6), (.var 7), (.var 8)])]
noncomputable def bookOf' (es : List Q4) (idx : List Nat) : List UInt8 := (idx.map fun i => pack (es.getD i z4)).flatten
theorem mk_loop2 (n : Nat) (es : List Q4) (L : List V) (hes : es.length < 60) (hfit : ∀ e ∈ es, Fit e) : ∀ (idx : List Nat) (o : List UInt8) (s2 s4 s5 s6 s7 s8 : Slot), (∀ i ∈ idx, i < es.length) → o.length + 16 * idx.length < 65000 →
    ∃ t4 t5 t6 t7 t8, forL (fun σ v => (R.ofOpt (bindTgt σ (.one 4) v)).bind fun σ' => exSs FT (n + 60) σ' mkB2) (idx.map fun i => rv (rowOf es i)) [.val (.list (es.map qv)), .own L, s2, .val (.bytes o), s4, s5, s6, s7, s8] =
      .ok ([.val (.list (es.map qv)), .own L, s2, .val (.bytes (o ++ bookOf' es idx)), t4, t5, t6, t7, t8], .next) := by
  intro idx
  induction idx with
  | nil => intro o s2 s4 s5 s6 s7 s8 _ _; exact ⟨s4, s5, s6, s7, s8, by simp [forL, bookOf']⟩
  | cons i idx ih =>
    intro o s2 s4 s5 s6 s7 s8 hlt hlen
    simp only [List.length_cons] at hlen
    have hi := hlt i (.head _)
    have hx : idxV (.list (es.map qv)) (.int i) = some (qv (es.getD i z4)) := idx_list (by lia) (by simp; lia) (by rw [Int.toNat_natCast]; exact getElem_qv hi)
    have hf : Fit (es.getD i z4) := by rw [getD_of hi]; exact hfit _ (List.getElem_mem _)
    have hp := pack_entry (n + 6) (es.getD i z4) hf
    have hpl := pack_len (es.getD i z4)
    obtain ⟨t4, t5, t6, t7, t8, e⟩ := ih (o ++ pack (es.getD i z4)) s2 (.val (rv (rowOf es i))) (.val (.int (es.getD i z4).1)) (.val (.int (es.getD i z4).2.1)) (.val (.int (es.getD i z4).2.2.1)) (.val (.int (es.getD i z4).2.2.2)) (fun j hj => hlt j (.tail _ hj)) (by rw [List.length_append, hpl]; lia)
    refine ⟨t4, t5, t6, t7, t8, forL_next (σ' := [.val (.list (es.map qv)), .own L, s2, .val (.bytes (o ++ pack (es.getD i z4))), .val (rv (rowOf es i)), .val (.int (es.getD i z4).1), .val (.int (es.getD i z4).2.1), .val (.int (es.getD i z4).2.2.1), .val (.int (es.getD i z4).2.2.2)]) ?_ ?_⟩
    · rw [bind_one_ok (rv_flat _), R.ofOpt_some, R.bind_ok]
      refine ss_next (s_assignTup (v := qv (es.getD i z4)) (e_idx (x := .list (es.map qv)) (y := .int i) rfl (e_idx (x := rv (rowOf es i)) rfl rfl rfl) hx) rfl) (ss_next (s_aug (x := .bytes o) rfl (e_call (vs := [.int (es.getD i z4).1, .int (es.getD i z4).2.1, .int (es.getD i z4).2.2.1, .int (es.getD i z4).2.2.2]) rfl hp) (bin_addB (by rw [hpl]; lia)) (.inr ⟨_, rfl⟩)) rfl)
    · rw [e]
      simp [bookOf']

theorem make_book (n : Nat) (es : List Q4) (hes : es.length < 60) (hfit : ∀ e ∈ es, Fit e) : ∃ idx, Order es idx ∧ evC FT (n + 70) 12 [.list (es.map qv)] = .ok (.bytes (bookOf' es idx)) := by
  obtain ⟨idx, ho, hs⟩ := sort_ok es hes
  refine ⟨idx, ho, ?_⟩
  have hil : idx.length = es.length := by simpa using ho.perm.length_eq
  obtain ⟨s2', e1⟩ := mk_loop1 (n + 46) es hes es.length 0 .unb (by lia)
  obtain ⟨t4, t5, t6, t7, t8, e2⟩ := mk_loop2 (n + 4) es ((List.range es.length).map fun i => rv (rowOf es i)) hes hfit idx [] s2' .unb .unb .unb .unb .unb (fun i hi => by simpa using ho.perm.mem_iff.mp hi) (by simp; lia)
  have hr : rangeV [.int (es.length : Int)] = some (rng 0 es.length) := by rw [range_one (by lia) (by lia), Int.toNat_natCast]
  have hlen : lenV (.list (es.map qv)) = some (.int es.length) := by rw [len_list (by simp; lia), List.length_map]
  have hfl : ((idx.map fun i => rv (rowOf es i)).all (V.flat 8)) = true := by
    rw [List.all_map, List.all_eq_true]
    intro i _; exact rv_flat _
  rw [List.nil_append] at e2
  exact c_ret rfl (ss_next (s_assignOwn (l := []) rfl rfl (by decide)) (ss_next (s_forR (n := n + 66) (vs := [.int es.length]) (es_cons (e_len rfl hlen) es_nil) hr e1) (ss_next (s_assign (v := .bytes []) rfl rfl) (ss_next (s_forE (n := n + 64) rfl (e_sorted (x := .list ((List.range es.length).map fun i => rv (rowOf es i))) rfl hs) (by rw [hfl]; rfl) e2) (ss_ret (s_ret rfl))))))
end Mine.Q
end

/-! text Q9 -/
section
set_option bootstrap.genMatcherCode false
set_option backward.match.sparseCases false
open PySem PySem.W
set_option maxRecDepth 100000
set_option maxHeartbeats 2000000
namespace Mine.Q

/-! the heaviest, the first of equals -/
noncomputable def tri (e : Q4) : T3 := (e.2.1, e.2.2.1, e.2.2.2)
noncomputable abbrev wt (e : Q4) : Int := e.2.2.1

theorem foldmax : ∀ (r : List Int) (a : Int), a ≤ r.foldl (fun m x => if m < x then x else m) a ∧ (∀ x ∈ r, x ≤ r.foldl (fun m x => if m < x then x else m) a) ∧ (r.foldl (fun m x => if m < x then x else m) a = a ∨ r.foldl (fun m x => if m < x then x else m) a ∈ r)
  | [], a => ⟨Int.le_refl _, nofun, .inl rfl⟩
  | b :: r, a => by
    obtain ⟨h1, h2, h3⟩ := foldmax r (if a < b then b else a)
    simp only [List.foldl_cons]
    have hab : a ≤ (if a < b then b else a) ∧ b ≤ (if a < b then b else a) := by split <;> omega
    refine ⟨by omega, fun x hx => ?_, ?_⟩
    · rcases List.mem_cons.mp hx with rfl | hx
      · omega
      · exact h2 x hx
    · rcases h3 with h3 | h3
      · rw [h3]
        split
        · exact .inr (.head _)
        · exact .inl rfl
      · exact .inr (.tail _ h3)

noncomputable def mx (g : List Q4) : Int := (maxInts (wts g)).getD 0
theorem mx_spec {g : List Q4} (h : g ≠ []) : (∀ e ∈ g, wt e ≤ mx g) ∧ ∃ e ∈ g, wt e = mx g := by
  cases g with
  | nil => exact (h rfl).elim
  | cons a g =>
    obtain ⟨h1, h2, h3⟩ := foldmax (wts g) (wt a)
    have hm : mx (a :: g) = (wts g).foldl (fun m x => if m < x then x else m) (wt a) := rfl
    rw [hm]
    refine ⟨fun e he => ?_, ?_⟩
    · rcases List.mem_cons.mp he with rfl | he
      · exact h1
      · exact h2 _ (List.mem_map.mpr ⟨e, he, rfl⟩)
    · rcases h3 with h3 | h3
      · exact ⟨a, .head _, h3.symm⟩
      · obtain ⟨e, he, q⟩ := List.mem_map.mp h3
        exact ⟨e, .tail _ he, q⟩

noncomputable def fst0 (o : Option Q4) : Int := match o with | some e => e.2.1 | none => 0
theorem lst_fix (m : Int) : ∀ (g : List Q4) (o : Int), o ≠ 0 → g.foldl (lst m) o = o
  | [], _, _ => rfl
  | e :: g, o, h => by
    rw [List.foldl_cons, show lst m o e = o from if_neg fun z => h z.2.2]
    exact lst_fix m g o h
theorem lst_find (m : Int) : ∀ (g : List Q4), (∀ e ∈ g, e.2.1 ≠ 0) → g.foldl (lst m) 0 = fst0 (g.find? fun e => decide (0 < wt e ∧ wt e = m))
  | [], _ => rfl
  | e :: g, h => by
    rw [List.foldl_cons, List.find?_cons]
    by_cases q : 0 < wt e ∧ wt e = m
    · rw [show lst m 0 e = e.2.1 from if_pos ⟨q.1, q.2, rfl⟩, decide_eq_true q]
      exact lst_fix m g _ (h e (.head _))
    · rw [show lst m 0 e = 0 from if_neg fun z => q ⟨z.1, z.2.1⟩, decide_eq_false q]
      exact lst_find m g fun e' he => h e' (.tail _ he)
theorem lbest_find (g : List Q4) (h : ∀ e ∈ g, e.2.1 ≠ 0) : lbest g = fst0 (g.find? fun e => decide (0 < wt e ∧ wt e = mx g)) := lst_find _ g h

theorem bst_find (M : Int) : ∀ (g : List Q4) (b w : Int), w ≤ M → (∀ e ∈ g, wt e ≤ M) → (w = M ∨ ∃ e ∈ g, wt e = M) → ((g.map tri).foldl bst (b, w)).1 = if w = M then b else fst0 (g.find? fun e => decide (wt e = M))
  | [], b, w, h1, _, h3 => by
    rcases h3 with h3 | ⟨e, he, _⟩
    · rw [if_pos h3]; rfl
    · cases he
  | e :: g, b, w, h1, h2, h3 => by
    have he := h2 e (.head _)
    rw [List.map_cons, List.foldl_cons, List.find?_cons]
    by_cases q : w < wt e
    · rw [show bst (b, w) (tri e) = (e.2.1, wt e) from if_pos q, bst_find M g _ _ he (fun e' h => h2 e' (.tail _ h)) (by
        rcases h3 with h3 | ⟨e', h, z⟩
        · lia
        · rcases List.mem_cons.mp h with rfl | h
          · exact .inl z
          · exact .inr ⟨e', h, z⟩), if_neg (show ¬ w = M by lia)]
      by_cases z : wt e = M
      · rw [if_pos z, decide_eq_true z]; rfl
      · rw [if_neg z, decide_eq_false z]
    · rw [show bst (b, w) (tri e) = (b, w) from if_neg q, bst_find M g b w h1 (fun e' h => h2 e' (.tail _ h)) (by
        rcases h3 with h3 | ⟨e', h, z⟩
        · exact .inl h3
        · rcases List.mem_cons.mp h with rfl | h
          · exact .inl (by lia)
          · exact .inr ⟨e', h, z⟩)]
      by_cases z : w = M
      · rw [if_pos z, if_pos z]
      · rw [if_neg z, if_neg z, decide_eq_false (show ¬ wt e = M by lia)]

theorem find_congr' {α : Type} {p q : α → Bool} : ∀ {l : List α}, (∀ a ∈ l, p a = q a) → l.find? p = l.find? q
  | [], _ => rfl
  | a :: l, h => by
    rw [List.find?_cons, List.find?_cons, h a (.head _), find_congr' fun b hb => h b (.tail _ hb)]

theorem best_eq (g : List Q4) (hf : ∀ e ∈ g, Fit e) : best3 (g.map tri) = lbest g := by
  rw [lbest_find g fun e he => by have := (hf e he).m0; lia]
  by_cases hg : g = []
  · subst hg; rfl
  obtain ⟨h1, e, he, hm⟩ := mx_spec hg
  have h0 : 0 ≤ mx g := by have := (hf e he).w0; show 0 ≤ mx g; rw [← hm]; exact this
  unfold best3
  rw [bst_find (mx g) g 0 0 h0 h1 (.inr ⟨e, he, hm⟩)]
  by_cases z : 0 = mx g
  · rw [if_pos z]
    have : (g.find? fun e => decide (0 < wt e ∧ wt e = mx g)) = none := List.find?_eq_none.mpr fun e' _ => by
      simp only [decide_eq_true_eq]; lia
    rw [this]; rfl
  · rw [if_neg z]
    congr 1
    refine find_congr' fun e' _ => ?_
    rw [decide_eq_decide]; lia

/-- the first of a sorted group is the law's -/
theorem group_best (es : List Q4) (hf : ∀ e ∈ es, Fit e) (X J : List Nat) (hp : J.Perm X) (hX : X.Pairwise (· < ·)) (hlt : ∀ i ∈ X, i < es.length)
    (hJ : J.Pairwise fun i j => (wt (es.getD j z4) < wt (es.getD i z4) ∨ (wt (es.getD i z4) = wt (es.getD j z4) ∧ i < j))) :
    lbest (J.map fun i => es.getD i z4) = lbest (X.map fun i => es.getD i z4) := by
  cases J with
  | nil => rw [hp.nil_eq]
  | cons i0 J =>
    have hi0X : i0 ∈ X := hp.mem_iff.mp (.head _)
    have hfX : ∀ i ∈ X, Fit (es.getD i z4) := fun i hi => by rw [getD_of (hlt i hi)]; exact hf _ (List.getElem_mem _)
    have hfJ : ∀ i ∈ i0 :: J, Fit (es.getD i z4) := fun i hi => hfX i (hp.mem_iff.mp hi)
    have hmax : ∀ i ∈ i0 :: J, wt (es.getD i z4) ≤ wt (es.getD i0 z4) := fun i hi => by
      rcases List.mem_cons.mp hi with rfl | hi
      · exact Int.le_refl _
      · have := (List.pairwise_cons.mp hJ).1 i hi
        lia
    have m1 : mx ((i0 :: J).map fun i => es.getD i z4) = wt (es.getD i0 z4) := by
      obtain ⟨a, e, he, hm⟩ := mx_spec (g := (i0 :: J).map fun i => es.getD i z4) (by simp)
      have b := a (es.getD i0 z4) (by simp)
      obtain ⟨i, hi, rfl⟩ := List.mem_map.mp he
      have := hmax i hi
      lia
    have m2 : mx (X.map fun i => es.getD i z4) = wt (es.getD i0 z4) := by
      obtain ⟨a, e, he, hm⟩ := mx_spec (g := X.map fun i => es.getD i z4) (by intro q; rw [List.map_eq_nil_iff] at q; rw [q] at hi0X; cases hi0X)
      have b := a (es.getD i0 z4) (List.mem_map.mpr ⟨i0, hi0X, rfl⟩)
      obtain ⟨i, hi, rfl⟩ := List.mem_map.mp he
      have := hmax i (hp.mem_iff.mpr hi)
      lia
    rw [lbest_find _ (fun e he => by obtain ⟨i, hi, rfl⟩ := List.mem_map.mp he; have := (hfJ i hi).m0; lia), lbest_find _ (fun e he => by obtain ⟨i, hi, rfl⟩ := List.mem_map.mp he; have := (hfX i hi).m0; lia), m1, m2]
    rw [List.find?_map, List.find?_map]
    congr 1
    have hw0 := (hfX i0 hi0X).w0
    by_cases z : 0 < wt (es.getD i0 z4)
    · have f1 : (i0 :: J).find? ((fun e => decide (0 < wt e ∧ wt e = wt (es.getD i0 z4))) ∘ fun i => es.getD i z4) = some i0 := by
        rw [List.find?_cons]
        show (match decide (0 < wt (es.getD i0 z4) ∧ wt (es.getD i0 z4) = wt (es.getD i0 z4)) with | true => some i0 | false => _) = _
        rw [decide_eq_true ⟨z, rfl⟩]
      have f2 : X.find? ((fun e => decide (0 < wt e ∧ wt e = wt (es.getD i0 z4))) ∘ fun i => es.getD i z4) = some i0 := by
        cases q : X.find? ((fun e => decide (0 < wt e ∧ wt e = wt (es.getD i0 z4))) ∘ fun i => es.getD i z4) with
        | none =>
          exact (List.find?_eq_none.mp q i0 hi0X (decide_eq_true ⟨z, rfl⟩)).elim
        | some j =>
          obtain ⟨hj, as, bs, hX', has⟩ := List.find?_eq_some_iff_append.mp q
          have hjX : j ∈ X := by rw [hX']; simp
          have hj' : 0 < wt (es.getD j z4) ∧ wt (es.getD j z4) = wt (es.getD i0 z4) := of_decide_eq_true hj
          by_cases e : j = i0
          · rw [e]
          · exfalso
            have hjJ : j ∈ J := by
              rcases List.mem_cons.mp (hp.mem_iff.mpr hjX) with h | h
              · exact (e h).elim
              · exact h
            have hlt2 : i0 < j := by
              have := (List.pairwise_cons.mp hJ).1 j hjJ
              lia
            have : i0 ∈ as := by
              rw [hX'] at hi0X hX
              rcases List.mem_append.mp hi0X with h | h
              · exact h
              · rcases List.mem_cons.mp h with h | h
                · exact (e h.symm).elim
                · have := (List.pairwise_cons.mp (List.pairwise_append.mp hX).2.1).1 i0 h
                  lia
            have h5 := has i0 this
            rw [show ((fun e => decide (0 < wt e ∧ wt e = wt (es.getD i0 z4))) ∘ fun i => es.getD i z4) i0 = true from decide_eq_true ⟨z, rfl⟩] at h5
            cases h5
      rw [f1, f2]
    · have no : ∀ l : List Nat, l.find? ((fun e => decide (0 < wt e ∧ wt e = wt (es.getD i0 z4))) ∘ fun i => es.getD i z4) = none := fun l => List.find?_eq_none.mpr fun i _ => by
        simp only [Function.comp, decide_eq_true_eq]; lia
      rw [no, no]
end Mine.Q
end

/-! text Q10 -/
section
set_option bootstrap.genMatcherCode false
set_option backward.match.sparseCases false
open PySem PySem.W
set_option maxRecDepth 100000
set_option maxHeartbeats 2000000
namespace Mine.Q

/-! the book read back -/
theorem slc_flat : ∀ (L : List (List UInt8)) (j a t : Nat), (∀ b ∈ L, b.length = 16) → j < L.length → a + t ≤ 16 → slc L.flatten (16 * j + a) t = slc (L.getD j []) a t
  | [], j, _, _, _, h, _ => by simp at h
  | b :: L, 0, a, t, hb, _, h => by
    have := hb b (.head _)
    unfold slc
    show ((b ++ L.flatten).drop (0 + a)).take t = (b.drop a).take t
    rw [Nat.zero_add, List.drop_append_of_le_length (by lia), List.take_append_of_le_length (by simp; lia)]
  | b :: L, j + 1, a, t, hb, hj, h => by
    have := hb b (.head _)
    have ih := slc_flat L j a t (fun c hc => hb c (.tail _ hc)) (by simpa using hj) h
    rw [show (b :: L).getD (j + 1) [] = L.getD j [] from rfl, ← ih]
    unfold slc
    show ((b ++ L.flatten).drop (16 * (j + 1) + a)).take t = _
    rw [show 16 * (j + 1) + a = b.length + (16 * j + a) by lia, List.drop_append, List.drop_of_length_le (by lia), List.nil_append, Nat.add_sub_cancel_left]

section
variable {es : List Q4} {idx : List Nat}
noncomputable abbrev en (es : List Q4) (idx : List Nat) (j : Nat) : Q4 := es.getD (idx.getD j 0) z4

theorem book_len : (bookOf' es idx).length = 16 * idx.length := by
  unfold bookOf'
  induction idx with
  | nil => rfl
  | cons i idx ih => rw [List.map_cons, List.flatten_cons, List.length_append, ih, pack_len, List.length_cons]; lia
theorem book_slc {j a t : Nat} (hj : j < idx.length) (h : a + t ≤ 16) : slc (bookOf' es idx) (16 * j + a) t = slc (pack (en es idx j)) a t := by
  unfold bookOf'
  rw [slc_flat _ _ _ _ (fun b hb => by obtain ⟨i, _, rfl⟩ := List.mem_map.mp hb; exact pack_len _) (by simpa using hj) h]
  congr 1
  simp [hj]
theorem pow8 : (256 : Nat) ^ 8 = 18446744073709551616 := by decide
theorem pow4 : (256 : Nat) ^ 4 = 4294967296 := by decide
theorem pow2 : (256 : Nat) ^ 2 = 65536 := by decide
theorem pack_num {e : Q4} (h : Fit e) : be (slc (pack e) 0 8) = e.1.toNat ∧ be (slc (pack e) 8 2) = e.2.1.toNat ∧ be (slc (pack e) 10 2) = e.2.2.1.toNat ∧ be (slc (pack e) 12 4) = e.2.2.2.toNat := by
  obtain ⟨k0, k1, m0, m1, w0, w1, l0, l1⟩ := h
  have a1 : slc (pack e) 0 8 = put e.1.toNat 8 := by
    unfold slc pack
    rw [List.drop_zero, List.append_assoc, List.append_assoc, List.take_append_of_le_length (by rw [put_len]; lia), List.take_of_length_le (by rw [put_len]; lia)]
  have a2 : slc (pack e) 8 2 = put e.2.1.toNat 2 := by
    unfold slc pack
    rw [List.append_assoc, List.append_assoc, List.drop_append, List.drop_of_length_le (by rw [put_len]; lia), put_len, List.nil_append, show 8 - 8 = 0 from rfl, List.drop_zero, List.take_append_of_le_length (by rw [put_len]; lia), List.take_of_length_le (by rw [put_len]; lia)]
  have a3 : slc (pack e) 10 2 = put e.2.2.1.toNat 2 := by
    unfold slc pack
    rw [List.append_assoc, List.drop_append, List.drop_of_length_le (by simp [put_len]), List.length_append, put_len, put_len, List.nil_append, show 10 - (8 + 2) = 0 from rfl, List.drop_zero, List.take_append_of_le_length (by rw [put_len]; lia), List.take_of_length_le (by rw [put_len]; lia)]
  have a4 : slc (pack e) 12 4 = put e.2.2.2.toNat 4 := by
    unfold slc pack
    rw [List.drop_append, List.drop_of_length_le (by simp [put_len]), List.length_append, List.length_append, put_len, put_len, put_len, List.nil_append, show 12 - (8 + 2 + 2) = 0 from rfl, List.drop_zero, List.take_of_length_le (by rw [put_len]; lia)]
  rw [a1, a2, a3, a4, be_put, be_put, be_put, be_put, pow8, pow4, pow2]
  exact ⟨Nat.mod_eq_of_lt (by lia), Nat.mod_eq_of_lt (by lia), Nat.mod_eq_of_lt (by lia), Nat.mod_eq_of_lt (by lia)⟩

/-- a book of fit entries -/
structure Bk (es : List Q4) (idx : List Nat) : Prop where
  few : idx.length < 60
  fit : ∀ i ∈ idx, Fit (es.getD i z4)
  asc : idx.Pairwise fun i j => (es.getD i z4).1 ≤ (es.getD j z4).1

theorem Bk.fitj (B : Bk es idx) {j : Nat} (hj : j < idx.length) : Fit (en es idx j) := by
  have : idx.getD j 0 = idx[j] := by simp [hj]
  unfold en; rw [this]; exact B.fit _ (List.getElem_mem _)
theorem Bk.num0 (B : Bk es idx) {j : Nat} (hj : j < idx.length) : ((num (bookOf' es idx) (j * 16) 8 : Nat) : Int) = (en es idx j).1 := by
  have f := B.fitj hj
  have := f.k0
  unfold num
  rw [show j * 16 = 16 * j + 0 by lia, book_slc hj (by lia), (pack_num f).1]
  lia
theorem Bk.unp (B : Bk es idx) {j : Nat} (hj : j < idx.length) : unpacked (bookOf' es idx) (j * 16) = qv (en es idx j) := by
  have f := B.fitj hj
  obtain ⟨k0, k1, m0, m1, w0, w1, l0, l1⟩ := id f
  obtain ⟨p1, p2, p3, p4⟩ := pack_num f
  have n0 := B.num0 hj
  have n1 : ((num (bookOf' es idx) (j * 16 + 8) 2 : Nat) : Int) = (en es idx j).2.1 := by
    unfold num
    rw [show j * 16 + 8 = 16 * j + 8 by lia, book_slc hj (by lia), p2]; lia
  have n2 : ((num (bookOf' es idx) (j * 16 + 10) 2 : Nat) : Int) = (en es idx j).2.2.1 := by
    unfold num
    rw [show j * 16 + 10 = 16 * j + 10 by lia, book_slc hj (by lia), p3]; lia
  have n3 : ((num (bookOf' es idx) (j * 16 + 12) 4 : Nat) : Int) = (en es idx j).2.2.2 := by
    unfold num
    rw [show j * 16 + 12 = 16 * j + 12 by lia, book_slc hj (by lia), p4]; lia
  unfold unpacked
  rw [n0, n1, n2, n3]; rfl
theorem Bk.mono (B : Bk es idx) {i j : Nat} (hij : i ≤ j) (hj : j < idx.length) : (en es idx i).1 ≤ (en es idx j).1 := by
  rcases Nat.lt_or_eq_of_le hij with h | rfl
  · have := List.pairwise_iff_getElem.mp B.asc i j (by lia) hj h
    have e1 : idx.getD i 0 = idx[i] := by simp [show i < idx.length by lia]
    have e2 : idx.getD j 0 = idx[j] := by simp [hj]
    unfold en; rw [e1, e2]; exact this
  · exact Int.le_refl _

/-! first_entry -/
theorem w_go {c : Env → R Bool} {f : Env → R (Env × Flow)} {k : Nat} {σ σ' : Env} {r : R (Env × Flow)} (h1 : c σ = .ok true) (h2 : f σ = .ok (σ', .next)) (h3 : whileL c f k σ' = r) : whileL c f (k + 1) σ = r := by
  show (c σ).bind _ = _
  rw [h1, R.bind_ok, if_pos rfl, h2]; exact h3
theorem w_end {c : Env → R Bool} {f : Env → R (Env × Flow)} {k : Nat} {σ : Env} (h1 : c σ = .ok false) : whileL c f (k + 1) σ = .ok (σ, .next) := by
  show (c σ).bind _ = _
  rw [h1]; rfl
theorem calm_ok {α : Type} {r : R α} {a : α} (h : r = .ok a) : R.calm r = .ok a := by rw [h]; rfl
theorem s_while {n : Nat} {σ : Env} {c : E} {body : List S} {r : R (Env × Flow)} (h : whileL (fun σ => R.calm (evT FT n σ c)) (fun σ => R.calm (exSs FT n σ body)) 64 σ = r) : exS FT (n + 1) σ (.while c body) = r := h

noncomputable def feB : List S := [.assign 4 (.bin .fdiv (.bin .add (.var 2) (.var 3)) (.const (.int 2))), .ite (.cmp .Lt (.call 13 [(.var 0), (.var 4)]) (.var 1)) [.assign 2 (.bin .add (.var 4) (.const (.int 1)))] [.assign 3 (.var 4)]]
noncomputable def envF (bs : List UInt8) (key : Int) (low high : Nat) (mid : Slot) : Env := [.val (.bytes bs), .val (.int key), .val (.int low), .val (.int high), mid]

theorem fe_loop (n : Nat) (B : Bk es idx) (key : Int) : ∀ (F low high : Nat) (mid : Slot), low ≤ high → high ≤ idx.length → high - low < F → (∀ j, j < low → (en es idx j).1 < key) → (∀ j, high ≤ j → j < idx.length → ¬ (en es idx j).1 < key) →
    ∃ lo mid', whileL (fun σ => R.calm (evT FT (n + 30) σ (.cmp .Lt (.var 2) (.var 3)))) (fun σ => R.calm (exSs FT (n + 30) σ feB)) F (envF (bookOf' es idx) key low high mid) = .ok (envF (bookOf' es idx) key lo lo mid', .next) ∧ lo ≤ idx.length ∧ (∀ j, j < lo → (en es idx j).1 < key) ∧ (∀ j, lo ≤ j → j < idx.length → ¬ (en es idx j).1 < key)
  | 0, _, _, _, _, _, h, _, _ => by lia
  | F + 1, low, high, mid, h1, h2, h3, h4, h5 => by
    have hc : evT FT (n + 30) (envF (bookOf' es idx) key low high mid) (.cmp .Lt (.var 2) (.var 3)) = .ok (decide ((low : Int) < high)) := t_cmp (x := .int low) (y := .int high) rfl rfl rfl
    have hbl : (bookOf' es idx).length ≤ 1000 := by rw [book_len]; have := B.few; lia
    by_cases q : low < high
    · rw [decide_eq_true (by lia)] at hc
      have hm : binV .fdiv (.int ((low : Int) + high)) (.int 2) = some (.int (((low + high) / 2 : Nat) : Int)) := by
        rw [bin_fdiv (by decide) (by decide)]; congr 2
      have hmid : (low + high) / 2 < idx.length := by lia
      have hk := key_at (n + 11) (bs := bookOf' es idx) (i := (low + high) / 2) hbl (by rw [book_len]; lia)
      rw [B.num0 hmid] at hk
      have hcond : evT FT (n + 28) (envF (bookOf' es idx) key low high (.val (.int (((low + high) / 2 : Nat) : Int)))) (.cmp .Lt (.call 13 [(.var 0), (.var 4)]) (.var 1)) = .ok (decide ((en es idx ((low + high) / 2)).1 < key)) :=
        t_cmp (x := .int (en es idx ((low + high) / 2)).1) (y := .int key) (e_call (vs := [.bytes (bookOf' es idx), .int (((low + high) / 2 : Nat) : Int)]) rfl hk) rfl rfl
      by_cases q2 : (en es idx ((low + high) / 2)).1 < key
      · rw [decide_eq_true q2] at hcond
        obtain ⟨lo, mid', e, r⟩ := fe_loop n B key F ((low + high) / 2 + 1) high (.val (.int (((low + high) / 2 : Nat) : Int))) (by lia) h2 (by lia) (fun j hj => by
          have := B.mono (show j ≤ (low + high) / 2 by lia) hmid
          lia) h5
        refine ⟨lo, mid', w_go (calm_ok hc) (calm_ok (ss_next (s_assign (v := .int (((low + high) / 2 : Nat) : Int)) (e_bin (x := .int ((low : Int) + high)) (y := .int 2) rfl rfl hm) rfl) (ss_next (s_iteT hcond (ss_next (s_assign (v := .int (((low + high) / 2 + 1 : Nat) : Int)) ?_ rfl) rfl)) rfl))) e, r⟩
        show R.ok (V.int ((((low + high) / 2 : Nat) : Int) + 1)) = _
        rfl
      · rw [decide_eq_false q2] at hcond
        obtain ⟨lo, mid', e, r⟩ := fe_loop n B key F low ((low + high) / 2) (.val (.int (((low + high) / 2 : Nat) : Int))) (by lia) (by lia) (by lia) h4 (fun j hj hjl => by
          have := B.mono hj hjl
          lia)
        exact ⟨lo, mid', w_go (calm_ok hc) (calm_ok (ss_next (s_assign (v := .int (((low + high) / 2 : Nat) : Int)) (e_bin (x := .int ((low : Int) + high)) (y := .int 2) rfl rfl hm) rfl) (ss_next (s_iteF hcond (ss_next (s_assign (v := .int (((low + high) / 2 : Nat) : Int)) rfl rfl) rfl)) rfl))) e, r⟩
    · rw [decide_eq_false (by lia)] at hc
      have : high = low := by lia
      subst this
      exact ⟨high, mid, w_end (calm_ok hc), h2, h4, h5⟩

theorem first_entry (n : Nat) (B : Bk es idx) (key : Int) : ∃ lo : Nat, evC FT (n + 40) 14 [.bytes (bookOf' es idx), .int key] = .ok (.int lo) ∧ lo ≤ idx.length ∧ (∀ j, j < lo → (en es idx j).1 < key) ∧ (∀ j, lo ≤ j → j < idx.length → ¬ (en es idx j).1 < key) := by
  have hbl : (bookOf' es idx).length ≤ 1000 := by rw [book_len]; have := B.few; lia
  have hfew := B.few
  obtain ⟨lo, mid', e, r⟩ := fe_loop (n + 5) B key 64 0 idx.length .unb (Nat.zero_le _) (Nat.le_refl _) (by lia) (fun j hj => by lia) (fun j h1 h2 => by lia)
  refine ⟨lo, c_ret rfl (ss_next (s_assign (v := .int 0) rfl rfl) (ss_next (σ' := envF (bookOf' es idx) key 0 idx.length .unb) (s_assign (v := .int idx.length) (e_bin (x := .int (bookOf' es idx).length) (y := .int 16) (e_len rfl (len_bytes (by lia))) rfl ?_) rfl) (ss_next (s_while (n := n + 35) e) (ss_ret (s_ret rfl))))), r⟩
  rw [bin_fdiv (by decide) (by decide), book_len]
  congr 2; lia

/-! find_entries -/
noncomputable def fiB : List S := [.assign 4 (.call 10 [(.var 0), (.bin .mul (.var 3) (.glob (.int 16)))]), .append 2 (.tup [(.idx (.var 4) (.const (.int 1))), (.idx (.var 4) (.const (.int 2))), (.idx (.var 4) (.const (.int 3)))]), .aug 3 .add (.const (.int 1))]
noncomputable def fiC : E := .bop true [(.cmp .Lt (.var 3) (.bin .fdiv (.len (.var 0)) (.glob (.int 16)))), (.cmp .Eq (.call 13 [(.var 0), (.var 3)]) (.var 1))]
noncomputable def envG (bs : List UInt8) (key : Int) (out : List T3) (place : Nat) (e : Slot) : Env := [.val (.bytes bs), .val (.int key), .own (out.map tv), .val (.int place), e]
noncomputable def isKey (es : List Q4) (key : Int) (i : Nat) : Bool := (es.getD i z4).1 == key

theorem fi_cond (n : Nat) (B : Bk es idx) (key : Int) (out : List T3) (place : Nat) (s : Slot) (hp : place ≤ idx.length) :
    evT FT (n + 30) (envG (bookOf' es idx) key out place s) fiC = .ok (decide (place < idx.length ∧ isKey es key (idx.getD place 0) = true)) := by
  have hbl : (bookOf' es idx).length ≤ 1000 := by rw [book_len]; have := B.few; lia
  have hd : ∀ q, evE FT (q + 4) (envG (bookOf' es idx) key out place s) (.bin .fdiv (.len (.var 0)) (.glob (.int 16))) = .ok (.int idx.length) := fun q => by
    refine e_bin (x := .int (bookOf' es idx).length) (y := .int 16) (e_len rfl (len_bytes (by lia))) rfl ?_
    rw [bin_fdiv (by decide) (by decide), book_len]
    congr 2; lia
  have c1 : ∀ q, evT FT (q + 6) (envG (bookOf' es idx) key out place s) (.cmp .Lt (.var 3) (.bin .fdiv (.len (.var 0)) (.glob (.int 16)))) = .ok (decide ((place : Int) < idx.length)) := fun q => t_cmp (x := .int place) rfl (hd _) rfl
  unfold fiC
  rw [t_or]
  by_cases q : place < idx.length
  · refine ts_go ((c1 _).trans (by rw [decide_eq_true (by lia)])) ?_
    have hk := key_at (n + 11) (bs := bookOf' es idx) (i := place) hbl (by rw [book_len]; lia)
    rw [B.num0 q] at hk
    have c2 : evT FT (n + 28) (envG (bookOf' es idx) key out place s) (.cmp .Eq (.call 13 [(.var 0), (.var 3)]) (.var 1)) = .ok (isKey es key (idx.getD place 0)) :=
      t_cmp (x := .int (en es idx place).1) (y := .int key) (e_call (n := n + 26) (vs := [.bytes (bookOf' es idx), .int place]) rfl hk) rfl rfl
    cases z : isKey es key (idx.getD place 0) with
    | true =>
      rw [z] at c2
      rw [decide_eq_true ⟨q, rfl⟩]
      exact ts_go c2 ts_nil
    | false =>
      rw [z] at c2
      rw [decide_eq_false (fun y => Bool.false_ne_true y.2)]
      exact ts_stop (t := true) c2
  · rw [decide_eq_false (fun y => q y.1)]
    exact ts_stop (t := true) ((c1 _).trans (by rw [decide_eq_false (by lia)]; rfl))

theorem fi_loop (n : Nat) (B : Bk es idx) (key : Int) : ∀ (rest : List Nat) (place : Nat) (out : List T3) (s : Slot) (F : Nat), idx.drop place = rest → place ≤ idx.length → rest.length < F → out.length + rest.length < 1000 →
    ∃ place' s', whileL (fun σ => R.calm (evT FT (n + 50) σ fiC)) (fun σ => R.calm (exSs FT (n + 50) σ fiB)) F (envG (bookOf' es idx) key out place s) =
      .ok (envG (bookOf' es idx) key (out ++ (rest.takeWhile (isKey es key)).map fun i => tri (es.getD i z4)) place' s', .next) := by
  intro rest
  induction rest with
  | nil =>
    intro place out s F h hp hF _
    have hpl : idx.length ≤ place := by
      have := congrArg List.length h
      simp at this; lia
    obtain ⟨F, rfl⟩ : ∃ k, F = k + 1 := ⟨F - 1, by lia⟩
    refine ⟨place, s, ?_⟩
    have hc := fi_cond (n + 20) B key out place s hp
    rw [decide_eq_false (fun y => by lia)] at hc
    rw [w_end (calm_ok hc)]
    simp
  | cons i rest ih =>
    intro place out s F h hp hF hlen
    have hpl : place < idx.length := by
      have := congrArg List.length h
      simp at this; lia
    obtain ⟨F, rfl⟩ : ∃ k, F = k + 1 := ⟨F - 1, by lia⟩
    have hi : idx.getD place 0 = i ∧ idx.drop (place + 1) = rest := by
      rw [List.drop_eq_getElem_cons hpl] at h
      injection h with h1 h2
      exact ⟨by simp [hpl, h1], h2⟩
    have hc := fi_cond (n + 20) B key out place s hp
    rw [hi.1] at hc
    simp only [List.length_cons] at hF hlen
    cases z : isKey es key i with
    | false =>
      rw [z, decide_eq_false (fun y => Bool.false_ne_true y.2)] at hc
      refine ⟨place, s, ?_⟩
      rw [w_end (calm_ok hc), List.takeWhile_cons, z]
      simp
    | true =>
      rw [z, decide_eq_true ⟨hpl, rfl⟩] at hc
      have hbl : (bookOf' es idx).length ≤ 1000 := by rw [book_len]; have := B.few; lia
      have hu := unpack_entry (n + 17) (bs := bookOf' es idx) (a := place * 16) hbl (by rw [book_len]; lia) (by lia)
      rw [B.unp hpl] at hu
      have hen : en es idx place = es.getD i z4 := by unfold en; rw [hi.1]
      rw [hen] at hu
      have hfew := B.few
      have e1 : binV .mul (.int (place : Int)) (.int 16) = some (.int ((place * 16 : Nat) : Int)) := by
        rw [bin_mul (small_of (by lia) (by lia)) (by decide)]; congr 2
      obtain ⟨place', s', e⟩ := ih (place + 1) (out ++ [tri (es.getD i z4)]) (.val (qv (es.getD i z4))) F hi.2 (by lia) (by lia) (by simp; lia)
      refine ⟨place', s', w_go (σ' := envG (bookOf' es idx) key (out ++ [tri (es.getD i z4)]) (place + 1) (.val (qv (es.getD i z4)))) (calm_ok hc) (calm_ok (ss_next (s_assign (v := qv (es.getD i z4)) (e_call (n := n + 47) (vs := [.bytes (bookOf' es idx), .int ((place * 16 : Nat) : Int)]) (es_cons rfl (es_cons (e_bin (x := .int place) (y := .int 16) rfl rfl e1) es_nil)) hu) (by rw [qv_flat]; rfl)) (ss_next (σ' := envG (bookOf' es idx) key (out ++ [tri (es.getD i z4)]) place (.val (qv (es.getD i z4)))) ?_ (ss_next (s_aug (x := .int place) (y := .int 1) (z := .int ((place + 1 : Nat) : Int)) rfl rfl rfl (.inl ⟨_, rfl⟩)) rfl)))) ?_⟩
      · refine (s_append (l := out.map tv) (v := tv (tri (es.getD i z4))) rfl rfl (tv_flat _) (by simp; lia)).trans ?_
        unfold envG
        simp
      · rw [e, List.takeWhile_cons, z]
        simp

theorem tw_filter (key : Int) : ∀ (l : List Nat), l.Pairwise (fun i j => (es.getD i z4).1 ≤ (es.getD j z4).1) → (∀ i ∈ l, key ≤ (es.getD i z4).1) → l.takeWhile (isKey es key) = l.filter (isKey es key)
  | [], _, _ => rfl
  | i :: l, hp, hk => by
    rw [List.takeWhile_cons, List.filter_cons]
    cases z : isKey es key i with
    | true =>
      simp only [if_true]
      rw [tw_filter key l (List.pairwise_cons.mp hp).2 fun j hj => hk j (.tail _ hj)]
    | false =>
      simp only [Bool.false_eq_true, if_false]
      symm
      rw [List.filter_eq_nil_iff]
      intro j hj
      have h1 := hk i (.head _)
      have h2 := (List.pairwise_cons.mp hp).1 j hj
      have h3 : (es.getD i z4).1 ≠ key := fun e => by
        unfold isKey at z
        rw [beq_eq_false_iff_ne] at z; exact z e
      unfold isKey
      rw [beq_iff_eq]; lia

theorem find_entries (n : Nat) (B : Bk es idx) (key : Int) : evC FT (n + 60) 15 [.bytes (bookOf' es idx), .int key] = .ok (.list (((idx.filter (isKey es key)).map fun i => tri (es.getD i z4)).map tv)) := by
  have hbl : (bookOf' es idx).length ≤ 1000 := by rw [book_len]; have := B.few; lia
  have hfew := B.few
  obtain ⟨lo, e1, hlo, hl1, hl2⟩ := first_entry (n + 14) B key
  obtain ⟨place', s', e2⟩ := fi_loop (n + 5) B key (idx.drop lo) lo [] .unb 64 rfl hlo (by simp; lia) (by simp; lia)
  have hcut : (idx.drop lo).takeWhile (isKey es key) = idx.filter (isKey es key) := by
    rw [tw_filter key (idx.drop lo) (B.asc.sublist (List.drop_sublist _ _)) fun i hi => ?_]
    · have h0 : (idx.take lo).filter (isKey es key) = [] := by
        rw [List.filter_eq_nil_iff]
        intro i hi
        obtain ⟨j, hj, rfl⟩ := List.mem_iff_getElem.mp hi
        have hj' : j < lo ∧ j < idx.length := by simp at hj; lia
        have := hl1 j hj'.1
        unfold en at this
        have e3 : idx.getD j 0 = idx[j]'hj'.2 := by simp [hj'.2]
        rw [e3] at this
        rw [List.getElem_take]
        unfold isKey
        rw [beq_iff_eq]; lia
      conv => rhs; rw [← List.take_append_drop lo idx, List.filter_append, h0, List.nil_append]
    · obtain ⟨j, hj, rfl⟩ := List.mem_iff_getElem.mp hi
      have hj' : lo + j < idx.length := by simp at hj; lia
      have := hl2 (lo + j) (by lia) hj'
      unfold en at this
      have e3 : idx.getD (lo + j) 0 = idx[lo + j] := by simp [hj']
      rw [e3] at this
      rw [List.getElem_drop]; lia
  rw [hcut, List.nil_append] at e2
  have hc : evT FT (n + 57) [.val (.bytes (bookOf' es idx)), .val (.int key), .unb, .unb, .unb] (.cmp .NotEq (.bin .mod (.len (.var 0)) (.glob (.int 16))) (.const (.int 0))) = .ok false := by
    refine t_cmp (x := .int 0) (y := .int 0) (e_bin (x := .int (bookOf' es idx).length) (y := .int 16) (e_len rfl (len_bytes (by lia))) rfl ?_) rfl rfl
    rw [bin_mod (by decide) (by decide), book_len]
    congr 2; lia
  exact c_ret rfl (ss_next (s_iteF hc rfl) (ss_next (s_assignOwn (l := []) rfl rfl (by decide)) (ss_next (s_assign (v := .int lo) (e_call (n := n + 54) (vs := [.bytes (bookOf' es idx), .int key]) rfl e1) rfl) (ss_next (s_while (n := n + 55) e2) (ss_ret (s_ret rfl))))))
end
end Mine.Q
end

/-! text Q11 -/
section
set_option bootstrap.genMatcherCode false
set_option backward.match.sparseCases false
open PySem
set_option maxRecDepth 100000
set_option maxHeartbeats 2000000
set_option Elab.async false
namespace Mine.Q

/-! the words of the law -/
noncomputable def lmoves : List V := [.int 4, .int 12, .int 72, .int 74, .int 71, .int 395, .int 394, .int 199]
noncomputable def board : V := .list [(.int 4), (.int 2), (.int 0), (.int 6), (.int 0), (.int 0), (.int 1), (.int 0), (.int 0), (.int 0), (.int 0), (.int 10), (.int 12), (.int 0), (.int 0), (.int 0)]
noncomputable def tx (i : Nat) (p : Bool) : Str := match i, p with
  | 0, false => "Ra2" | 0, true => "Ra2+"
  | 1, false => "Rxa4" | 1, true => "Rxa4+"
  | 2, false => "Na3" | 2, true => "Na3+"
  | 3, false => "Nc3" | 3, true => "Nc3+"
  | 4, false => "Nd2" | 4, true => "Nd2+"
  | 5, false => "cxd3" | 5, true => "cxd3+"
  | 6, false => "c3" | 6, true => "c3+"
  | _, false => "Kd2" | _, true => "Kd2+"
noncomputable def nmv (i : Nat) : Int := match i with
  | 0 => 4 | 1 => 12 | 2 => 72 | 3 => 74 | 4 => 71 | 5 => 395 | 6 => 394 | _ => 199

inductive Wd where
  | mv (i : Nat) (p : Bool) (h : i < 8)
  | bad
  | num
  | quo
noncomputable def wv : Wd → V
  | .mv i p _ => .tuple [.int 2, .str (tx i p)]
  | .bad => .tuple [.int 2, .str "Rd4"]
  | .num => .tuple [.int 1, .int 4]
  | .quo => .tuple [.int 0, .str "Ra2"]
theorem wv_flat (w : Wd) : V.flat 8 (wv w) = true := by
  cases w <;> rfl

theorem eight {P : Nat → Prop} (h0 : P 0) (h1 : P 1) (h2 : P 2) (h3 : P 3) (h4 : P 4) (h5 : P 5) (h6 : P 6) (h7 : P 7) {i : Nat} (h : i < 8) : P i := by
  rcases (show i = 0 ∨ i = 1 ∨ i = 2 ∨ i = 3 ∨ i = 4 ∨ i = 5 ∨ i = 6 ∨ i = 7 by lia) with rfl | rfl | rfl | rfl | rfl | rfl | rfl | rfl <;> assumption

noncomputable def pickIs (n i : Nat) (p : Bool) : Prop := ∃ s, evC FT (n + 50) 28 [.int 4, .int 4, board, .list lmoves, .str (tx i p)] = .ok (.tuple [.int (nmv i), s])
theorem pick_mv (n : Nat) {i : Nat} (h : i < 8) (p : Bool) : pickIs n i p := by
  cases p
  · exact eight (P := fun i => pickIs n i false) ⟨.str "", by kernel_rfl⟩ ⟨.str "", by kernel_rfl⟩ ⟨.str "", by kernel_rfl⟩ ⟨.str "", by kernel_rfl⟩ ⟨.str "", by kernel_rfl⟩ ⟨.str "", by kernel_rfl⟩ ⟨.str "", by kernel_rfl⟩ ⟨.str "", by kernel_rfl⟩ h
  · exact eight (P := fun i => pickIs n i true) ⟨.str "+", by kernel_rfl⟩ ⟨.str "+", by kernel_rfl⟩ ⟨.str "+", by kernel_rfl⟩ ⟨.str "+", by kernel_rfl⟩ ⟨.str "+", by kernel_rfl⟩ ⟨.str "+", by kernel_rfl⟩ ⟨.str "+", by kernel_rfl⟩ ⟨.str "+", by kernel_rfl⟩ h
theorem pick_bad (n : Nat) : evC FT (n + 50) 28 [.int 4, .int 4, board, .list lmoves, .str "Rd4"] = .exc .san := by kernel_rfl

noncomputable def hitsE : E := .comp (.var 1) (.call 32 []) 2 true (some (.bop false [(.cmp .Eq (.var 0) (.var 2)), (.cmp .Eq (.bin .add (.var 0) (.const (.str (Str.ofString "+")))) (.var 2))])) [3]
noncomputable def hitsIs (n : Nat) (a b c e : Slot) (i : Nat) (p : Bool) : Prop := evE FT (n + 20) [a, b, c, .val (.str (tx i p)), e] hitsE = .ok (.list [.int (nmv i)])
theorem hits_mv (n : Nat) (a b c e : Slot) {i : Nat} (h : i < 8) (p : Bool) : hitsIs n a b c e i p := by
  cases p
  · exact eight (P := fun i => hitsIs n a b c e i false) (by unfold hitsIs; kernel_rfl) (by unfold hitsIs; kernel_rfl) (by unfold hitsIs; kernel_rfl) (by unfold hitsIs; kernel_rfl) (by unfold hitsIs; kernel_rfl) (by unfold hitsIs; kernel_rfl) (by unfold hitsIs; kernel_rfl) (by unfold hitsIs; kernel_rfl) h
  · exact eight (P := fun i => hitsIs n a b c e i true) (by unfold hitsIs; kernel_rfl) (by unfold hitsIs; kernel_rfl) (by unfold hitsIs; kernel_rfl) (by unfold hitsIs; kernel_rfl) (by unfold hitsIs; kernel_rfl) (by unfold hitsIs; kernel_rfl) (by unfold hitsIs; kernel_rfl) (by unfold hitsIs; kernel_rfl) h
theorem hits_bad (n : Nat) (a b c e : Slot) : evE FT (n + 20) [a, b, c, .val (.str "Rd4"), e] hitsE = .ok (.list []) := by kernel_rfl

/-! _law_values -/
noncomputable def loE : E := .tup [(.glob (.int 2)), (.bin .add (.idx (.idx (.call 32 []) (.var 3)) (.const (.int 0))) (.idx (.lst [(.const (.str (Str.ofString ""))), (.const (.str (Str.ofString "+")))]) (.bin .mod (.var 2) (.const (.int 2)))))]
noncomputable def hiE : E := .idx (.lst [(.tup [(.glob (.int 2)), (.const (.str (Str.ofString "Rd4")))]), (.tup [(.glob (.int 1)), (.const (.int 4))]), (.tup [(.glob (.int 0)), (.const (.str (Str.ofString "Ra2")))])]) (.bin .sub (.var 3) (.const (.int 8)))
noncomputable def loIs (n : Nat) (a b : Slot) (k : Int) (p : Bool) (i : Nat) : Prop := evE FT (n + 30) [a, b, .val (.int k), .val (.int i)] loE = .ok (.tuple [.int 2, .str (tx i p)])
theorem lo_all (n : Nat) (a b : Slot) {k : Nat} (hk : k < 3) {i : Nat} (h : i < 8) : loIs n a b k (k == 1) i := by
  rcases (show k = 0 ∨ k = 1 ∨ k = 2 by lia) with rfl | rfl | rfl
  · exact eight (P := fun i => loIs n a b 0 false i) (by unfold loIs; kernel_rfl) (by unfold loIs; kernel_rfl) (by unfold loIs; kernel_rfl) (by unfold loIs; kernel_rfl) (by unfold loIs; kernel_rfl) (by unfold loIs; kernel_rfl) (by unfold loIs; kernel_rfl) (by unfold loIs; kernel_rfl) h
  · exact eight (P := fun i => loIs n a b 1 true i) (by unfold loIs; kernel_rfl) (by unfold loIs; kernel_rfl) (by unfold loIs; kernel_rfl) (by unfold loIs; kernel_rfl) (by unfold loIs; kernel_rfl) (by unfold loIs; kernel_rfl) (by unfold loIs; kernel_rfl) (by unfold loIs; kernel_rfl) h
  · exact eight (P := fun i => loIs n a b 2 false i) (by unfold loIs; kernel_rfl) (by unfold loIs; kernel_rfl) (by unfold loIs; kernel_rfl) (by unfold loIs; kernel_rfl) (by unfold loIs; kernel_rfl) (by unfold loIs; kernel_rfl) (by unfold loIs; kernel_rfl) (by unfold loIs; kernel_rfl) h
theorem hi_8 (n : Nat) (a b c : Slot) : evE FT (n + 30) [a, b, c, .val (.int 8)] hiE = .ok (wv .bad) := by kernel_rfl
theorem hi_9 (n : Nat) (a b c : Slot) : evE FT (n + 30) [a, b, c, .val (.int 9)] hiE = .ok (wv .num) := by kernel_rfl
theorem hi_10 (n : Nat) (a b c : Slot) : evE FT (n + 30) [a, b, c, .val (.int 10)] hiE = .ok (wv .quo) := by kernel_rfl

noncomputable def valB : List S := [.assign 3 (.bin .mod (.bin .fdiv (.bin .fdiv (.var 0) (.const (.int 4))) (.bin .pow (.const (.int 11)) (.var 2))) (.const (.int 11))), .ite (.cmp .Lt (.var 3) (.const (.int 8))) [.append 1 loE] [.append 1 hiE]]
theorem val_step (n : Nat) (N : Int) (ws : List Wd) (s3 : Slot) {k : Nat} (hk : k < 3) (s2 : Slot) (hl : ws.length < 1000) :
    ∃ w p, exSs FT (n + 50) (([.val (.int N), .own (ws.map wv), s2, s3] : Env).set 2 (.val (.int k))) valB = .ok ([.val (.int N), .own ((ws ++ [w]).map wv), .val (.int k), .val (.int p)], .next) := by
  have hpow : ∃ q : Int, binV .pow (.int 11) (.int (k : Int)) = some (.int q) ∧ 0 < q ∧ q < 2000 := by
    rcases (show k = 0 ∨ k = 1 ∨ k = 2 by lia) with rfl | rfl | rfl
    · exact ⟨1, rfl, by decide, by decide⟩
    · exact ⟨11, rfl, by decide, by decide⟩
    · exact ⟨121, rfl, by decide, by decide⟩
  obtain ⟨q, hq, hq0, hq1⟩ := hpow
  obtain ⟨p, hp⟩ : ∃ p : Nat, N / 4 / q % 11 = p := ⟨(N / 4 / q % 11).toNat, by lia⟩
  have hp11 : p < 11 := by lia
  have e1 : evE FT (n + 48) [.val (.int N), .own (ws.map wv), .val (.int k), s3] (.bin .mod (.bin .fdiv (.bin .fdiv (.var 0) (.const (.int 4))) (.bin .pow (.const (.int 11)) (.var 2))) (.const (.int 11))) = .ok (.int p) := by
    refine e_bin (x := .int (N / 4 / q)) (y := .int 11) (e_bin (x := .int (N / 4)) (y := .int q) (e_bin (x := .int N) (y := .int 4) rfl rfl (bin_fdiv (by decide) (by decide))) (e_bin (x := .int 11) (y := .int k) rfl rfl hq) (bin_fdiv hq0 (small_of (by lia) (by lia)))) rfl ?_
    rw [bin_mod (by decide) (by decide), hp]
  have hc : evT FT (n + 47) [.val (.int N), .own (ws.map wv), .val (.int k), .val (.int p)] (.cmp .Lt (.var 3) (.const (.int 8))) = .ok (decide ((p : Int) < 8)) := t_cmp (x := .int p) (y := .int 8) rfl rfl rfl
  have app : ∀ (w : Wd) (e : E), evE FT (n + 45) [.val (.int N), .own (ws.map wv), .val (.int k), .val (.int p)] e = .ok (wv w) → exSs FT (n + 47) [.val (.int N), .own (ws.map wv), .val (.int k), .val (.int p)] [.append 1 e] = .ok ([.val (.int N), .own ((ws ++ [w]).map wv), .val (.int k), .val (.int p)], .next) := fun w e he => by
    refine ss_next (s_append (l := ws.map wv) (v := wv w) rfl he (wv_flat w) (by simp; lia)) ?_
    rw [ss_nil]; simp
  have fin : ∀ (w : Wd) (t : Bool), decide ((p : Int) < 8) = t → (if t then exSs FT (n + 47) [.val (.int N), .own (ws.map wv), .val (.int k), .val (.int p)] [.append 1 loE] else exSs FT (n + 47) [.val (.int N), .own (ws.map wv), .val (.int k), .val (.int p)] [.append 1 hiE]) = .ok ([.val (.int N), .own ((ws ++ [w]).map wv), .val (.int k), .val (.int p)], .next) →
      ∃ w p, exSs FT (n + 50) (([.val (.int N), .own (ws.map wv), s2, s3] : Env).set 2 (.val (.int k))) valB = .ok ([.val (.int N), .own ((ws ++ [w]).map wv), .val (.int k), .val (.int p)], .next) := fun w t ht h => by
    rw [ht] at hc
    exact ⟨w, p, ss_next (s_assign (v := .int p) e1 rfl) (ss_next (s_ite hc h) rfl)⟩
  by_cases h8 : p < 8
  · refine fin (.mv p (k == 1) h8) true (decide_eq_true (by lia)) ?_
    rw [if_pos rfl]
    exact app _ _ (lo_all (n + 15) _ _ hk h8)
  · rcases (show p = 8 ∨ p = 9 ∨ p = 10 by lia) with rfl | rfl | rfl
    · exact fin .bad false rfl (app _ _ (hi_8 (n + 15) _ _ _))
    · exact fin .num false rfl (app _ _ (hi_9 (n + 15) _ _ _))
    · exact fin .quo false rfl (app _ _ (hi_10 (n + 15) _ _ _))

theorem val_loop (n : Nat) (N : Int) : ∀ (m a : Nat) (ws : List Wd) (s2 s3 : Slot), a + m ≤ 3 → ws.length + m < 1000 → ∃ (ws' : List Wd) (s2' s3' : Slot), ws'.length = ws.length + m ∧ forL (fun σ v => exSs FT (n + 50) (σ.set 2 (.val v)) valB) (rng a m) [.val (.int N), .own (ws.map wv), s2, s3] = .ok ([.val (.int N), .own (ws'.map wv), s2', s3'], .next) := by
  intro m
  induction m with
  | zero => intro a ws s2 s3 _ _; exact ⟨ws, s2, s3, rfl, by rw [rng_zero]; rfl⟩
  | succ m ih =>
    intro a ws s2 s3 h1 h2
    obtain ⟨w, p, st⟩ := val_step n N ws s3 (k := a) (by lia) s2 (by lia)
    obtain ⟨ws', s2', s3', hl, e⟩ := ih (a + 1) (ws ++ [w]) (.val (.int a)) (.val (.int p)) (by lia) (by simp; lia)
    refine ⟨ws', s2', s3', by rw [hl]; simp; lia, ?_⟩
    rw [rng_succ]
    refine forL_next st ?_
    rw [show ((a : Int) + 1) = ((a + 1 : Nat) : Int) by lia]
    exact e
theorem law_values (n : Nat) (N : Int) : ∃ ws : List Wd, ws.length ≤ 3 ∧ evC FT (n + 60) 33 [.int N] = .ok (.list (ws.map wv)) := by
  obtain ⟨m, hm⟩ : ∃ m : Nat, N % 4 = m := ⟨(N % 4).toNat, by lia⟩
  obtain ⟨ws', s2', s3', hl, e⟩ := val_loop (n + 6) N m 0 [] .unb .unb (by lia) (by simp; lia)
  have hr : rangeV [.int (m : Int)] = some (rng 0 m) := by rw [range_one (by lia) (by lia), Int.toNat_natCast]
  refine ⟨ws', by simp at hl; lia, c_ret rfl (ss_next (s_assignOwn (l := []) rfl rfl (by decide)) (ss_next (s_forR (n := n + 56) (vs := [.int m]) (es_cons (e_bin (x := .int N) (y := .int 4) rfl rfl ?_) es_nil) hr e) (ss_ret (s_ret rfl))))⟩
  rw [bin_mod (by decide) (by decide), hm]
end Mine.Q
end

/-! text Q12 -/
section
set_option bootstrap.genMatcherCode false
set_option backward.match.sparseCases false
open PySem
set_option maxRecDepth 100000
set_option maxHeartbeats 2000000
set_option Elab.async false
namespace Mine.Q

/-! what the values name -/
noncomputable def res : List Wd → List Int → R (List Int)
  | [], out => .ok out
  | .mv i _ _ :: ws, out => res ws (out ++ [nmv i])
  | .bad :: _, _ => .exc .san
  | .num :: _, _ => .exc (.epd (-1))
  | .quo :: _, _ => .exc (.epd (-1))
noncomputable def iv (i : Int) : V := .int i

theorem s_raiseEpd {n i : Nat} {σ : Env} {v : V} (h : (σ[i]?).bind slotV = some v) (hs : shortStr v = true) : exS FT (n + 1) σ (.raiseEpd i) = .exc (.epd (-1)) := by
  show (R.ofOpt _).bind _ = _
  rw [h, R.ofOpt_some, R.bind_ok]
  exact if_pos hs
theorem s_appendX {n i : Nat} {σ : Env} {e : E} {l : List V} {x : Exc} (h1 : ownAt σ i = some l) (h : evE FT n σ e = .exc x) : exS FT (n + 1) σ (.append i e) = .exc x := by
  show (R.ofOpt _).bind _ = _
  rw [h1, R.ofOpt_some, R.bind_ok, h]; rfl
theorem e_idxX {n : Nat} {σ : Env} {a b : E} {x : Exc} (h : evE FT n σ a = .exc x) : evE FT (n + 1) σ (.idx a b) = .exc x := by
  show (evE FT n σ a).bind _ = _
  rw [h]; rfl

/-! named_moves -/
noncomputable def nmB : List S := [.ite (.cmp .NotEq (.var 8) (.glob (.int 2))) [.raiseEpd 5] [], .append 7 (.idx (.call 28 [(.var 0), (.var 1), (.var 2), (.var 3), (.var 9)]) (.const (.int 0)))]
noncomputable def envN (ops : V) (op : Str) (X : V) (out : List Int) (k v : Slot) : Env := [.val (.int 4), .val (.int 4), .val board, .val (.list lmoves), .val ops, .val (.str op), .val X, .own (out.map iv), k, v]
theorem nm_loop (n : Nat) (ops X : V) (op : Str) (hop : op.length ≤ 1000) : ∀ (ws : List Wd) (out : List Int) (k v : Slot), out.length + ws.length < 1000 →
    match res ws out with
    | .ok o => ∃ k' v', forL (fun σ v => (R.ofOpt (bindTgt σ (.many [8, 9]) v)).bind fun σ' => exSs FT (n + 60) σ' nmB) (ws.map wv) (envN ops op X out k v) = .ok (envN ops op X o k' v', .next)
    | .exc x => forL (fun σ v => (R.ofOpt (bindTgt σ (.many [8, 9]) v)).bind fun σ' => exSs FT (n + 60) σ' nmB) (ws.map wv) (envN ops op X out k v) = .exc x
    | .stuck => False := by
  intro ws
  induction ws with
  | nil => intro out k v _; exact ⟨k, v, rfl⟩
  | cons w ws ih =>
    intro out k v hl
    simp only [List.length_cons] at hl
    have hss : shortStr (.str op) = true := decide_eq_true hop
    have raise : ∀ (q : Nat) (a b : Slot), exS FT (q + 1) (envN ops op X out a b) (.raiseEpd 5) = .exc (.epd (-1)) := fun q a b => s_raiseEpd (v := .str op) rfl hss
    cases w with
    | mv i p h =>
      obtain ⟨s, hp⟩ := pick_mv (n + 6) h p
      have st : (R.ofOpt (bindTgt (envN ops op X out k v) (.many [8, 9]) (wv (.mv i p h)))).bind (fun σ' => exSs FT (n + 60) σ' nmB) = .ok (envN ops op X (out ++ [nmv i]) (.val (.int 2)) (.val (.str (tx i p))), .next) := by
        show exSs FT (n + 60) (envN ops op X out (.val (.int 2)) (.val (.str (tx i p)))) nmB = _
        refine ss_next (σ' := envN ops op X out (.val (.int 2)) (.val (.str (tx i p)))) (s_iteF rfl rfl) (ss_next (s_append (l := out.map iv) (v := .int (nmv i)) rfl (e_idx (x := .tuple [.int (nmv i), s]) (y := .int 0) (e_call (vs := [.int 4, .int 4, board, .list lmoves, .str (tx i p)]) rfl hp) rfl rfl) rfl (by simp; lia)) ?_)
        rw [ss_nil]
        unfold envN
        simp [iv]
      have := ih (out ++ [nmv i]) (.val (.int 2)) (.val (.str (tx i p))) (by simp; lia)
      show match res ws (out ++ [nmv i]) with | .ok o => _ | .exc x => _ | .stuck => False
      cases q : res ws (out ++ [nmv i]) with
      | ok o =>
        rw [q] at this
        obtain ⟨k', v', e⟩ := this
        exact ⟨k', v', forL_next st e⟩
      | exc x =>
        rw [q] at this
        exact forL_next st this
      | stuck => rw [q] at this; exact this
    | bad =>
      refine forL_exc ?_
      show exSs FT (n + 60) (envN ops op X out (.val (.int 2)) (.val (.str "Rd4"))) nmB = _
      refine ss_next (σ' := envN ops op X out (.val (.int 2)) (.val (.str "Rd4"))) (s_iteF rfl rfl) (ss_exc (s_appendX (l := out.map iv) rfl (e_idxX (e_call (vs := [.int 4, .int 4, board, .list lmoves, .str "Rd4"]) rfl (pick_bad (n + 6))))))
    | num =>
      refine forL_exc ?_
      show exSs FT (n + 60) (envN ops op X out (.val (.int 1)) (.val (.int 4))) nmB = _
      exact ss_exc (s_iteT rfl (ss_exc (raise _ _ _)))
    | quo =>
      refine forL_exc ?_
      show exSs FT (n + 60) (envN ops op X out (.val (.int 0)) (.val (.str "Ra2"))) nmB = _
      exact ss_exc (s_iteT rfl (ss_exc (raise _ _ _)))

noncomputable def mapR (r : R (List Int)) : R V := match r with | .ok o => .ok (.list (o.map iv)) | .exc x => .exc x | .stuck => .stuck
theorem named_some (n : Nat) (ops : V) (op : Str) (ws : List Wd) (hop : op.length ≤ 1000) (hl : ws.length < 1000) (h : ∀ q, evC FT (q + 20) 29 [ops, .str op] = .ok (.list (ws.map wv))) :
    evC FT (n + 70) 30 [.int 4, .int 4, board, .list lmoves, ops, .str op] = mapR (res ws []) := by
  have lp := nm_loop (n + 3) ops (.list (ws.map wv)) op hop ws [] .unb .unb (by simp; omega)
  have h1 : evE FT (n + 67) [.val (.int 4), .val (.int 4), .val board, .val (.list lmoves), .val ops, .val (.str op), .unb, .unb, .unb, .unb] (.call 29 [(.var 4), (.var 5)]) = .ok (.list (ws.map wv)) := e_call (vs := [ops, .str op]) rfl (h (n + 46))
  have a1 : exS FT (n + 68) [.val (.int 4), .val (.int 4), .val board, .val (.list lmoves), .val ops, .val (.str op), .unb, .unb, .unb, .unb] (.assign 6 (.call 29 [(.var 4), (.var 5)])) = .ok ([.val (.int 4), .val (.int 4), .val board, .val (.list lmoves), .val ops, .val (.str op), .val (.list (ws.map wv)), .unb, .unb, .unb], .next) := s_assign h1 (by show (false || true) = true; rfl)
  have hc : evT FT (n + 65) (envN ops op (.list (ws.map wv)) [] .unb .unb) (.cmp .IsNot (.var 6) (.const .none)) = .ok true := rfl
  cases q : res ws [] with
  | ok o =>
    rw [q] at lp
    obtain ⟨k', v', e⟩ := lp
    exact c_ret rfl (ss_next a1 (ss_next (σ' := envN ops op (.list (ws.map wv)) [] .unb .unb) (s_assignOwn (l := []) rfl rfl (by decide)) (ss_next (s_iteT hc (ss_next (s_forVar (n := n + 63) rfl e) rfl)) (ss_ret (s_ret rfl)))))
  | exc x =>
    rw [q] at lp
    exact c_exc rfl (ss_next a1 (ss_next (σ' := envN ops op (.list (ws.map wv)) [] .unb .unb) (s_assignOwn (l := []) rfl rfl (by decide)) (ss_exc (s_iteT hc (ss_exc (s_forVar (n := n + 63) rfl lp))))))
  | stuck => rw [q] at lp; exact lp.elim
theorem named_none (n : Nat) (ops : V) (op : Str) (h : ∀ q, evC FT (q + 20) 29 [ops, .str op] = .ok .none) :
    evC FT (n + 70) 30 [.int 4, .int 4, board, .list lmoves, ops, .str op] = .ok (.list []) := by
  have h1 : evE FT (n + 67) [.val (.int 4), .val (.int 4), .val board, .val (.list lmoves), .val ops, .val (.str op), .unb, .unb, .unb, .unb] (.call 29 [(.var 4), (.var 5)]) = .ok .none := e_call (vs := [ops, .str op]) rfl (h (n + 46))
  have hc : evT FT (n + 65) (envN ops op .none [] .unb .unb) (.cmp .IsNot (.var 6) (.const .none)) = .ok false := rfl
  exact c_ret rfl (ss_next (s_assign h1 rfl) (ss_next (σ' := envN ops op .none [] .unb .unb) (s_assignOwn (l := []) rfl rfl (by decide)) (ss_next (s_iteF hc rfl) (ss_ret (s_ret rfl)))))

theorem ok_iv (l : List Int) : V.ok 8 (.list (l.map iv)) = true := by
  show (l.map iv).all (V.ok 7) = true
  rw [List.all_map, List.all_eq_true]
  intro x _; rfl
theorem in_iv (m : Int) (l : List Int) : cmpV .In (.int m) (.list (l.map iv)) = some (l.any fun y => y == m) := by
  show (if V.ok 8 (.int m) && V.ok 8 (.list (l.map iv)) then some ((l.map iv).any fun y => PyData.eqv y.toP (V.int m).toP) else none) = _
  rw [if_pos (by rw [ok_iv]; rfl), List.any_map]
  rfl

/-- what is_solved says -/
noncomputable def sol (m : Int) (A : R (List Int)) (B : Option (R (List Int))) : R Bool :=
  if m = 0 then .ok false else A.bind fun la => if la.any (fun y => y == m) then .ok false else match B with
    | none => .ok true
    | some rb => rb.bind fun lb => .ok (lb.any fun y => y == m)

noncomputable def mapB (r : R Bool) : R V := match r with | .ok o => .ok (.bool o) | .exc x => .exc x | .stuck => .stuck

theorem is_solved (n : Nat) (ops : V) (m : Int) (A : R (List Int)) (B : Option (R (List Int)))
    (hAs : A ≠ .stuck) (hBs : ∀ rb, B = some rb → rb ≠ .stuck) (hA : ∀ q, evC FT (q + 70) 30 [.int 4, .int 4, board, .list lmoves, ops, .str "am"] = mapR A)
    (hB : match B with
      | none => ∀ q, evC FT (q + 20) 29 [ops, .str "bm"] = .ok .none
      | some rb => (∃ l, ∀ q, evC FT (q + 20) 29 [ops, .str "bm"] = .ok (.list l)) ∧ ∀ q, evC FT (q + 70) 30 [.int 4, .int 4, board, .list lmoves, ops, .str "bm"] = mapR rb) :
    evC FT (n + 80) 31 [.int 4, .int 4, board, .list lmoves, ops, .int m] = mapB (sol m A B) := by
  have eA : ∀ q, evE FT (q + 71) [.val (.int 4), .val (.int 4), .val board, .val (.list lmoves), .val ops, .val (.int m)] (.call 30 [(.var 0), (.var 1), (.var 2), (.var 3), (.var 4), (.const (.str (Str.ofString "am")))]) = mapR A := fun q => e_call (vs := [.int 4, .int 4, board, .list lmoves, ops, .str "am"]) rfl (hA q)
  have c1 : ∀ q, evT FT (q + 3) [.val (.int 4), .val (.int 4), .val board, .val (.list lmoves), .val ops, .val (.int m)] (.cmp .Eq (.var 5) (.glob (.int 0))) = .ok (m == 0) := fun q => t_cmp (x := .int m) rfl rfl rfl
  have c2 : ∀ q, evT FT (q + 72) [.val (.int 4), .val (.int 4), .val board, .val (.list lmoves), .val ops, .val (.int m)] (.cmp .In (.var 5) (.call 30 [(.var 0), (.var 1), (.var 2), (.var 3), (.var 4), (.const (.str (Str.ofString "am")))])) = A.bind fun la => .ok (la.any fun y => y == m) := fun q => by
    show (R.bind (R.ok (V.int m)) fun x => R.bind (evE FT (q + 71) _ _) _) = _
    rw [R.bind_ok, eA]
    cases A with
    | ok la =>
      show R.ofOpt (cmpV .In (.int m) (.list (la.map iv))) = _
      rw [in_iv]; rfl
    | exc x => rfl
    | stuck => rfl
  unfold sol
  by_cases q0 : m = 0
  · rw [if_pos q0]
    have hc : evT FT (n + 77) [.val (.int 4), .val (.int 4), .val board, .val (.list lmoves), .val ops, .val (.int m)] (.bop false [(.cmp .Eq (.var 5) (.glob (.int 0))), (.cmp .In (.var 5) (.call 30 [(.var 0), (.var 1), (.var 2), (.var 3), (.var 4), (.const (.str (Str.ofString "am")))]))]) = .ok true := by
      rw [t_or]; exact ts_stop (t := false) ((c1 _).trans (by rw [q0]; rfl))
    exact c_ret rfl (ss_ret (s_iteT hc (ss_ret (s_ret rfl))))
  · rw [if_neg q0]
    have hcg : evT FT (n + 77) [.val (.int 4), .val (.int 4), .val board, .val (.list lmoves), .val ops, .val (.int m)] (.bop false [(.cmp .Eq (.var 5) (.glob (.int 0))), (.cmp .In (.var 5) (.call 30 [(.var 0), (.var 1), (.var 2), (.var 3), (.var 4), (.const (.str (Str.ofString "am")))]))]) = A.bind fun la => .ok (la.any fun y => y == m) := by
      rw [t_or]
      show (evT FT (n + 75) _ _).bind _ = _
      rw [c1, R.bind_ok, if_pos (by simp [q0])]
      show (evT FT (n + 74) _ _).bind _ = _
      rw [c2 (n + 2)]
      cases A with
      | ok la =>
        simp only [R.bind_ok]
        cases la.any (fun y => y == m) <;> rfl
      | exc x => rfl
      | stuck => rfl
    have ifS : ∀ (a b : List S), exS FT (n + 78) [.val (.int 4), .val (.int 4), .val board, .val (.list lmoves), .val ops, .val (.int m)] (.ite (.bop false [(.cmp .Eq (.var 5) (.glob (.int 0))), (.cmp .In (.var 5) (.call 30 [(.var 0), (.var 1), (.var 2), (.var 3), (.var 4), (.const (.str (Str.ofString "am")))]))]) a b) = (A.bind fun la => .ok (la.any fun y => y == m)).bind fun t => if t then exSs FT (n + 77) _ a else exSs FT (n + 77) _ b := fun a b => by
      show (evT FT (n + 77) _ _).bind _ = _
      rw [hcg]
    cases A with
    | stuck => exact (hAs rfl).elim
    | exc x =>
      exact c_exc rfl (ss_exc (ifS _ _))
    | ok la =>
      simp only [R.bind_ok] at ifS ⊢
      cases q1 : la.any (fun y => y == m) with
      | true =>
        rw [q1] at ifS
        exact c_ret rfl (ss_ret ((ifS _ _).trans (ss_ret (s_ret rfl))))
      | false =>
        rw [q1] at ifS
        have go : ∀ {r : R (Env × Flow)} (ss : List S) (a b : List S), b = [] → exSs FT (n + 78) [.val (.int 4), .val (.int 4), .val board, .val (.list lmoves), .val ops, .val (.int m)] ss = r → exSs FT (n + 79) [.val (.int 4), .val (.int 4), .val board, .val (.list lmoves), .val ops, .val (.int m)] (.ite (.bop false [(.cmp .Eq (.var 5) (.glob (.int 0))), (.cmp .In (.var 5) (.call 30 [(.var 0), (.var 1), (.var 2), (.var 3), (.var 4), (.const (.str (Str.ofString "am")))]))]) a b :: ss) = r := fun ss a b hb k => by
          subst hb
          exact ss_next (ifS _ _) k
        cases B with
        | none =>
          have hn : evT FT (n + 76) [.val (.int 4), .val (.int 4), .val board, .val (.list lmoves), .val ops, .val (.int m)] (.cmp .Is (.call 29 [(.var 4), (.const (.str (Str.ofString "bm")))]) (.const .none)) = .ok true := t_cmp (x := .none) (y := .none) (e_call (vs := [ops, .str "bm"]) rfl (hB (n + 54))) rfl rfl
          exact c_ret rfl (go _ _ _ rfl (ss_ret (s_iteT hn (ss_ret (s_ret rfl)))))
        | some rb =>
          obtain ⟨⟨l, hl⟩, hb⟩ := hB
          have hn : evT FT (n + 76) [.val (.int 4), .val (.int 4), .val board, .val (.list lmoves), .val ops, .val (.int m)] (.cmp .Is (.call 29 [(.var 4), (.const (.str (Str.ofString "bm")))]) (.const .none)) = .ok false := t_cmp (x := .list l) (y := .none) (e_call (vs := [ops, .str "bm"]) rfl (hl (n + 54))) rfl rfl
          have eB : evE FT (n + 75) [.val (.int 4), .val (.int 4), .val board, .val (.list lmoves), .val ops, .val (.int m)] (.cmp .In (.var 5) (.call 30 [(.var 0), (.var 1), (.var 2), (.var 3), (.var 4), (.const (.str (Str.ofString "bm")))])) = mapB (rb.bind fun lb => .ok (lb.any fun y => y == m)) := by
            show (R.bind (R.ok (V.int m)) fun x => R.bind (evE FT (n + 74) _ _) _) = _
            rw [R.bind_ok, e_call (n := n + 73) (vs := [.int 4, .int 4, board, .list lmoves, ops, .str "bm"]) rfl (hb (n + 3))]
            cases rb with
            | ok lb =>
              show R.ofOpt ((cmpV .In (.int m) (.list (lb.map iv))).map V.bool) = _
              rw [in_iv]; rfl
            | exc x => rfl
            | stuck => rfl
          cases rb with
          | ok lb => exact c_ret rfl (go _ _ _ rfl (ss_next (s_iteF hn rfl) (ss_ret (s_ret eB))))
          | exc x => exact c_exc rfl (go _ _ _ rfl (ss_next (s_iteF hn rfl) (ss_exc (s_retX eB))))
          | stuck => exact (hBs _ rfl rfl).elim
end Mine.Q
end

/-! text Q13 -/
section
set_option bootstrap.genMatcherCode false
set_option backward.match.sparseCases false
open PySem
set_option maxRecDepth 100000
set_option maxHeartbeats 2000000
set_option Elab.async false
namespace Mine.Q

noncomputable def tagOf : Exc → Str
  | .san => "san"
  | .epd _ => "epd"
  | .book _ => "x"
/-- what the law's _law_named gives for what named_moves would -/
noncomputable def Tl (r : R (List Int)) (v : V) : Prop := match r with
  | .ok o => v = .list (o.map iv)
  | .exc x => (∃ o : List Int, v = .list (o.map iv ++ [.str (tagOf x)]) ∧ o.length < 1000) ∧ (tagOf x = "san" ∨ tagOf x = "epd")
  | .stuck => False

/-- what is named ahead of the first fault -/
noncomputable def fo : List Wd → List Int → List Int
  | .mv i _ _ :: ws, out => fo ws (out ++ [nmv i])
  | _, out => out
theorem fo_len : ∀ (ws : List Wd) (o : List Int), (fo ws o).length ≤ o.length + ws.length
  | [], o => Nat.le_refl _
  | .mv i p h :: ws, o => by have := fo_len ws (o ++ [nmv i]); simp at this ⊢; show (fo ws (o ++ [nmv i])).length ≤ _; lia
  | .bad :: ws, o => Nat.le_add_right _ _
  | .num :: ws, o => Nat.le_add_right _ _
  | .quo :: ws, o => Nat.le_add_right _ _
noncomputable def nlB : List S := [.ite (.cmp .NotEq (.var 2) (.glob (.int 2))) [.ret (.bin .add (.var 1) (.lst [(.const (.str (Str.ofString "epd")))]))] [], .assignComp 4 hitsE, .ite (.cmp .Eq (.var 4) (.lst [])) [.ret (.bin .add (.var 1) (.lst [(.const (.str (Str.ofString "san")))]))] [], .append 1 (.idx (.var 4) (.const (.int 0)))]
theorem nl_loop (n : Nat) (L : V) : ∀ (ws : List Wd) (out : List Int) (s2 s3 s4 : Slot), out.length + ws.length < 1000 →
    match res ws out with
    | .ok o => ∃ t2 t3 t4, forL (fun σ v => (R.ofOpt (bindTgt σ (.many [2, 3]) v)).bind fun σ' => exSs FT (n + 40) σ' nlB) (ws.map wv) [.val L, .own (out.map iv), s2, s3, s4] = .ok ([.val L, .own (o.map iv), t2, t3, t4], .next)
    | .exc x => ∃ σ', forL (fun σ v => (R.ofOpt (bindTgt σ (.many [2, 3]) v)).bind fun σ' => exSs FT (n + 40) σ' nlB) (ws.map wv) [.val L, .own (out.map iv), s2, s3, s4] = .ok (σ', .ret (.list ((fo ws out).map iv ++ [.str (tagOf x)]))) ∧ (tagOf x = "san" ∨ tagOf x = "epd")
    | .stuck => False := by
  intro ws
  induction ws with
  | nil => intro out s2 s3 s4 _; exact ⟨s2, s3, s4, rfl⟩
  | cons w ws ih =>
    intro out s2 s3 s4 hl
    simp only [List.length_cons] at hl
    have addE : ∀ (q : Nat) (a b c : Slot) (x : Str), evE FT (q + 5) [.val L, .own (out.map iv), a, b, c] (.bin .add (.var 1) (.lst [(.const (.str x))])) = .ok (.list (out.map iv ++ [.str x])) := fun q a b c x => e_bin (x := .list (out.map iv)) (y := .list [.str x]) rfl rfl (bin_addL (by simp; lia))
    cases w with
    | mv i p h =>
      have hh := hits_mv (n + 17) (.val L) (.own (out.map iv)) (.val (.int 2)) s4 h p
      have st : (R.ofOpt (bindTgt [.val L, .own (out.map iv), s2, s3, s4] (.many [2, 3]) (wv (.mv i p h)))).bind (fun σ' => exSs FT (n + 40) σ' nlB) = .ok ([.val L, .own ((out ++ [nmv i]).map iv), .val (.int 2), .val (.str (tx i p)), .val (.list [.int (nmv i)])], .next) := by
        show exSs FT (n + 40) [.val L, .own (out.map iv), .val (.int 2), .val (.str (tx i p)), s4] nlB = _
        refine ss_next (σ' := [.val L, .own (out.map iv), .val (.int 2), .val (.str (tx i p)), s4]) (s_iteF rfl rfl) (ss_next (s_assignComp (l := [.int (nmv i)]) hh rfl) (ss_next (σ' := [.val L, .own (out.map iv), .val (.int 2), .val (.str (tx i p)), .val (.list [.int (nmv i)])]) (s_iteF rfl rfl) (ss_next (s_append (l := out.map iv) (v := .int (nmv i)) rfl rfl rfl (by simp; lia)) ?_)))
        rw [ss_nil]
        simp [iv]
      have := ih (out ++ [nmv i]) (.val (.int 2)) (.val (.str (tx i p))) (.val (.list [.int (nmv i)])) (by simp; lia)
      show match res ws (out ++ [nmv i]) with | .ok o => _ | .exc x => _ | .stuck => False
      cases q : res ws (out ++ [nmv i]) with
      | ok o =>
        rw [q] at this
        obtain ⟨t2, t3, t4, e⟩ := this
        exact ⟨t2, t3, t4, forL_next st e⟩
      | exc x =>
        rw [q] at this
        obtain ⟨σ', e, t⟩ := this
        exact ⟨σ', forL_next st e, t⟩
      | stuck => rw [q] at this; exact this
    | bad =>
      refine ⟨[.val L, .own (out.map iv), .val (.int 2), .val (.str "Rd4"), .val (.list [])], forL_ret ?_, .inl rfl⟩
      · show exSs FT (n + 40) [.val L, .own (out.map iv), .val (.int 2), .val (.str "Rd4"), s4] nlB = _
        exact ss_next (σ' := [.val L, .own (out.map iv), .val (.int 2), .val (.str "Rd4"), s4]) (s_iteF rfl rfl) (ss_next (s_assignComp (l := []) (hits_bad (n + 17) _ _ _ _) rfl) (ss_ret (s_iteT rfl (ss_ret (s_ret (addE _ _ _ _ _))))))
    | num =>
      refine ⟨[.val L, .own (out.map iv), .val (.int 1), .val (.int 4), s4], forL_ret ?_, .inr rfl⟩
      · show exSs FT (n + 40) [.val L, .own (out.map iv), .val (.int 1), .val (.int 4), s4] nlB = _
        exact ss_ret (s_iteT rfl (ss_ret (s_ret (addE _ _ _ _ _))))
    | quo =>
      refine ⟨[.val L, .own (out.map iv), .val (.int 0), .val (.str "Ra2"), s4], forL_ret ?_, .inr rfl⟩
      · show exSs FT (n + 40) [.val L, .own (out.map iv), .val (.int 0), .val (.str "Ra2"), s4] nlB = _
        exact ss_ret (s_iteT rfl (ss_ret (s_ret (addE _ _ _ _ _))))

noncomputable def lnV (ws : List Wd) : V := match res ws [] with
  | .ok o => .list (o.map iv)
  | .exc x => .list ((fo ws []).map iv ++ [.str (tagOf x)])
  | .stuck => .none
theorem law_named (ws : List Wd) (hl : ws.length < 1000) : (∀ n, evC FT (n + 50) 34 [.list (ws.map wv)] = .ok (lnV ws)) ∧ Tl (res ws []) (lnV ws) := by
  have lp := fun n => nl_loop (n + 6) (.list (ws.map wv)) ws [] .unb .unb .unb (by simp; lia)
  unfold lnV
  cases q : res ws [] with
  | ok o =>
    rw [q] at lp
    exact ⟨fun n => by
      obtain ⟨t2, t3, t4, e⟩ := lp n
      exact c_ret rfl (ss_next (s_assignOwn (l := []) rfl rfl (by decide)) (ss_next (s_forVar (n := n + 46) rfl e) (ss_ret (s_ret (v := .list (o.map iv)) rfl)))), rfl⟩
  | exc x =>
    rw [q] at lp
    refine ⟨fun n => ?_, ⟨fo ws [], rfl, ?_⟩, ?_⟩
    · obtain ⟨σ', e, t⟩ := lp n
      exact c_ret rfl (ss_next (s_assignOwn (l := []) rfl rfl (by decide)) (ss_ret (s_forVar (n := n + 46) rfl e)))
    · have := fo_len ws []
      simp at this; lia
    · obtain ⟨σ', e, t⟩ := lp 0
      exact t
  | stuck => rw [q] at lp; exact (lp 0).elim

/-! _law_verdict -/
noncomputable def isX' (r : R (List Int)) : Bool := match r with | .exc _ => true | _ => false
noncomputable def chE : E := .bop true [(.cmp .NotEq (.var 5) (.lst [])), (.cmp .In (.idx (.var 5) (.neg (.const (.int 1)))) (.lst [(.const (.str (Str.ofString "epd"))), (.const (.str (Str.ofString "san")))]))]
noncomputable def envV (a b c d : V) (m : Int) (s : Slot) : Env := [.val a, .val b, .val c, .val d, .val (.int m), s]

theorem ne_nil {l : List V} (h : V.ok 8 (.list l) = true) : cmpV .NotEq (.list l) (.list []) = some (!l.isEmpty) := by
  show Option.map (!·) (if V.ok 8 (.list l) && V.ok 8 (.list []) then some (PyData.eqvAll (V.toPs l) (V.toPs [])) else none) = _
  rw [if_pos (by rw [h]; rfl)]
  cases l <;> rfl
theorem ok_tag (o : List Int) {t : Str} (h : t = "san" ∨ t = "epd") : V.ok 8 (.list (o.map iv ++ [.str t])) = true := by
  show (o.map iv ++ [V.str t]).all (V.ok 7) = true
  rw [List.all_append, List.all_map, Bool.and_eq_true]
  refine ⟨List.all_eq_true.mpr fun x _ => rfl, ?_⟩
  rcases h with rfl | rfl <;> decide +kernel

theorem ch_ok (q : Nat) (a b c d r : V) (m : Int) (A : R (List Int)) (h : Tl A r) (hl : ∀ o, A = .ok o → o.length < 1000) : evT FT (q + 10) (envV a b c d m (.val r)) chE = .ok (isX' A) := by
  unfold chE
  rw [t_or]
  cases A with
  | stuck => exact h.elim
  | ok o =>
    have hr : r = .list (o.map iv) := h
    subst hr
    have hlo := hl o rfl
    have c1 : evT FT (q + 8) (envV a b c d m (.val (.list (o.map iv)))) (.cmp .NotEq (.var 5) (.lst [])) = .ok (!(o.map iv).isEmpty) := t_cmp (x := .list (o.map iv)) (y := .list []) rfl rfl (ne_nil (ok_iv o))
    by_cases ho : o = []
    · subst ho
      exact ts_stop (t := true) c1
    · have hne : (o.map iv) ≠ [] := by simpa using ho
      obtain ⟨x, hx⟩ : ∃ x, o.getLast? = some x := ⟨o.getLast ho, List.getLast?_eq_some_getLast ho⟩
      have hidx : idxV (.list (o.map iv)) (.int (-1)) = some (.int x) := by rw [idx_last (by simp; lia) hne, List.getLast?_map, hx]; rfl
      refine ts_go (c1.trans ?_) (ts_stop (t := true) (t_cmp (x := .int x) (y := .list [.str "epd", .str "san"]) (e_idx (x := .list (o.map iv)) (y := .int (-1)) rfl rfl hidx) rfl (by kernel_rfl)))
      cases o with
      | nil => exact (ho rfl).elim
      | cons y ys => rfl
  | exc x =>
    obtain ⟨⟨o, rfl, hlo⟩, ht⟩ := h
    have hidx : idxV (.list (o.map iv ++ [.str (tagOf x)])) (.int (-1)) = some (.str (tagOf x)) := by rw [idx_last (by simp; lia) (by simp)]; simp
    refine ts_go (t_cmp (x := .list (o.map iv ++ [.str (tagOf x)])) (y := .list []) (t := true) rfl rfl ?_) (ts_go (t_cmp (x := .str (tagOf x)) (y := .list [.str "epd", .str "san"]) (t := true) (e_idx (x := .list (o.map iv ++ [.str (tagOf x)])) (y := .int (-1)) rfl rfl hidx) rfl ?_) ts_nil)
    · rw [ne_nil (ok_tag o ht)]; simp
    · rcases ht with h | h <;> (rw [h]; decide +kernel)

noncomputable def finV (r : R Bool) : V := match r with | .ok b => .bool b | .exc x => .str (tagOf x) | .stuck => .none

theorem last_tag (q : Nat) (a b c d : V) (m : Int) (o : List Int) (x : Str) (hl : o.length < 1000) : evE FT (q + 3) (envV a b c d m (.val (.list (o.map iv ++ [.str x])))) (.idx (.var 5) (.neg (.const (.int 1)))) = .ok (.str x) :=
  e_idx (x := .list (o.map iv ++ [.str x])) (y := .int (-1)) rfl rfl (by rw [idx_last (by simp; lia) (by simp)]; simp)

theorem law_verdict (n : Nat) (ha hb : Bool) (av bv : V) (m : Int) (A : R (List Int)) (B : Option (R (List Int)))
    (hA : if ha then ∃ r, (∀ q, evC FT (q + 50) 34 [av] = .ok r) ∧ Tl A r else A = .ok []) (hlA : ∀ o, A = .ok o → o.length < 1000)
    (hB : match B with | none => hb = false | some rb => hb = true ∧ (∃ r, (∀ q, evC FT (q + 50) 34 [bv] = .ok r) ∧ Tl rb r) ∧ ∀ o, rb = .ok o → o.length < 1000) :
    evC FT (n + 70) 35 [.bool ha, av, .bool hb, bv, .int m] = .ok (finV (sol m A B)) := by
  have c0 : ∀ q, evT FT (q + 5) (envV (.bool ha) av (.bool hb) bv m .unb) (.cmp .Eq (.var 4) (.const (.int 0))) = .ok (m == 0) := fun q => t_cmp (x := .int m) rfl rfl rfl
  unfold sol
  by_cases q0 : m = 0
  · rw [if_pos q0]
    exact c_ret rfl (ss_ret (s_iteT ((c0 _).trans (by rw [q0]; rfl)) (ss_ret (s_ret rfl))))
  · rw [if_neg q0]
    have c0' : ∀ q, evT FT (q + 5) (envV (.bool ha) av (.bool hb) bv m .unb) (.cmp .Eq (.var 4) (.const (.int 0))) = .ok false := fun q => (c0 q).trans (by rw [beq_eq_false_iff_ne.mpr q0])
    obtain ⟨r, er, tr⟩ : ∃ r, evE FT (n + 66) (envV (.bool ha) av (.bool hb) bv m .unb) (.ite (.var 0) (.call 34 [(.var 1)]) (.lst [])) = .ok r ∧ Tl A r := by
      cases ha with
      | true =>
        rw [if_pos rfl] at hA
        obtain ⟨r, e, t⟩ := hA
        exact ⟨r, e_ite (t := true) rfl (by rw [if_pos rfl]; exact e_call (vs := [av]) rfl (e (n + 14))), t⟩
      | false =>
        rw [if_neg Bool.false_ne_true] at hA
        subst hA
        exact ⟨.list [], e_ite (t := false) rfl rfl, rfl⟩
    have ch := fun q => ch_ok q (.bool ha) av (.bool hb) bv r m A tr hlA
    have asg : exS FT (n + 67) (envV (.bool ha) av (.bool hb) bv m .unb) (.assign 5 (.ite (.var 0) (.call 34 [(.var 1)]) (.lst []))) = .ok (envV (.bool ha) av (.bool hb) bv m (.val r), .next) := s_assign er (by show (_ || true) = true; rw [Bool.or_true])
    cases A with
    | stuck => exact tr.elim
    | exc x =>
      obtain ⟨⟨o, rfl, hlo⟩, ht⟩ := tr
      exact c_ret rfl (ss_next (s_iteF (c0' _) rfl) (ss_next asg (ss_ret (s_iteT (ch _) (ss_ret (s_ret (last_tag _ _ _ _ _ _ _ _ hlo)))))))
    | ok la =>
      have hr : r = .list (la.map iv) := tr
      subst hr
      rw [R.bind_ok]
      have cin : ∀ q, evT FT (q + 5) (envV (.bool ha) av (.bool hb) bv m (.val (.list (la.map iv)))) (.cmp .In (.var 4) (.var 5)) = .ok (la.any fun y => y == m) := fun q => t_cmp (x := .int m) (y := .list (la.map iv)) rfl rfl (in_iv m la)
      cases q1 : la.any (fun y => y == m) with
      | true =>
        rw [q1] at cin
        exact c_ret rfl (ss_next (s_iteF (c0' _) rfl) (ss_next asg (ss_next (s_iteF (ch _) rfl) (ss_ret (s_iteT (cin _) (ss_ret (s_ret rfl)))))))
      | false =>
        rw [q1] at cin
        cases B with
        | none =>
          have : hb = false := hB
          subst this
          exact c_ret rfl (ss_next (s_iteF (c0' _) rfl) (ss_next asg (ss_next (s_iteF (ch _) rfl) (ss_next (s_iteF (cin _) rfl) (ss_ret (s_iteT rfl (ss_ret (s_ret rfl))))))))
        | some rb =>
          obtain ⟨rfl, ⟨r2, e2, t2⟩, hlB⟩ := hB
          have asg2 : exS FT (n + 63) (envV (.bool ha) av (.bool true) bv m (.val (.list (la.map iv)))) (.assign 5 (.call 34 [(.var 3)])) = .ok (envV (.bool ha) av (.bool true) bv m (.val r2), .next) := s_assign (e_call (vs := [bv]) rfl (e2 (n + 11))) (by show (_ || true) = true; rw [Bool.or_true])
          have ch2 := fun q => ch_ok q (.bool ha) av (.bool true) bv r2 m rb t2 hlB
          have head : ∀ {rr : R (Env × Flow)} (ss : List S), exSs FT (n + 64) (envV (.bool ha) av (.bool true) bv m (.val (.list (la.map iv)))) ss = rr →
              exSs FT (n + 69) (envV (.bool ha) av (.bool true) bv m .unb) (.ite (.cmp .Eq (.var 4) (.const (.int 0))) [.ret (.const (.bool false))] [] :: .assign 5 (.ite (.var 0) (.call 34 [(.var 1)]) (.lst [])) :: .ite chE [.ret (.idx (.var 5) (.neg (.const (.int 1))))] [] :: .ite (.cmp .In (.var 4) (.var 5)) [.ret (.const (.bool false))] [] :: .ite (.not (.var 2)) [.ret (.const (.bool true))] [] :: ss) = rr := fun ss k =>
            ss_next (s_iteF (c0' _) rfl) (ss_next asg (ss_next (s_iteF (ch _) rfl) (ss_next (s_iteF (cin _) rfl) (ss_next (s_iteF rfl rfl) k))))
          cases rb with
          | stuck => exact t2.elim
          | exc x =>
            obtain ⟨⟨o, rfl, hlo⟩, ht⟩ := t2
            exact c_ret rfl (head _ (ss_next asg2 (ss_ret (s_iteT (ch2 _) (ss_ret (s_ret (last_tag _ _ _ _ _ _ _ _ hlo)))))))
          | ok lb =>
            have hr : r2 = .list (lb.map iv) := t2
            subst hr
            exact c_ret rfl (head _ (ss_next asg2 (ss_next (s_iteF (ch2 _) rfl) (ss_ret (s_ret (e_cmp (x := .int m) (y := .list (lb.map iv)) rfl rfl (in_iv m lb)))))))

/-! _law_solved -/
theorem law_solved (n : Nat) (ops : V) (m : Int) (r : R Bool) (hr : r ≠ .stuck) (hx : ∀ x, r = .exc x → x = .san ∨ x = .epd (-1)) (h : evC FT (n + 80) 31 [.int 4, .int 4, board, .list lmoves, ops, .int m] = mapB r) :
    evC FT (n + 84) 40 [ops, .int m] = .ok (finV r) := by
  have hm : ∀ q, evE FT (q + 30) [.val ops, .val (.int m)] (.comp (.var 1) (.call 32 []) 2 true .none []) = .ok (.list lmoves) := fun q => by kernel_rfl
  have hc : evE FT (n + 81) [.val ops, .val (.int m)] (.call 31 [(.const (.int 4)), (.const (.int 4)), (.glob (.list [(.int 4), (.int 2), (.int 0), (.int 6), (.int 0), (.int 0), (.int 1), (.int 0), (.int 0), (.int 0), (.int 0), (.int 10), (.int 12), (.int 0), (.int 0), (.int 0)])), (.comp (.var 1) (.call 32 []) 2 true .none []), (.var 0), (.var 1)]) = mapB r :=
    e_call (vs := [.int 4, .int 4, board, .list lmoves, ops, .int m]) (es_cons rfl (es_cons rfl (es_cons rfl (es_cons (hm (n + 46)) (es_cons rfl (es_cons rfl es_nil)))))) h
  have st : exS FT (n + 82) [.val ops, .val (.int m)] (.trySolved (.call 31 [(.const (.int 4)), (.const (.int 4)), (.glob (.list [(.int 4), (.int 2), (.int 0), (.int 6), (.int 0), (.int 0), (.int 1), (.int 0), (.int 0), (.int 0), (.int 0), (.int 10), (.int 12), (.int 0), (.int 0), (.int 0)])), (.comp (.var 1) (.call 32 []) 2 true .none []), (.var 0), (.var 1)])) = .ok ([.val ops, .val (.int m)], .ret (finV r)) := by
    show (match evE FT (n + 81) _ _ with | .ok v => _ | .exc .san => _ | .exc (.epd a) => _ | _ => R.stuck) = _
    rw [hc]
    cases r with
    | stuck => exact (hr rfl).elim
    | ok b => rfl
    | exc x =>
      rcases hx x rfl with rfl | rfl
      · rfl
      · rfl
  exact c_ret rfl (ss_ret st)
end Mine.Q
end

/-! text Q14 -/
section
set_option bootstrap.genMatcherCode false
set_option backward.match.sparseCases false
open PySem PySem.W
set_option maxRecDepth 100000
set_option maxHeartbeats 2000000
set_option Elab.async false
namespace Mine.Q

/-! _law_bend -/
theorem eq_nil_bi (l : List UInt8) : cmpV .Eq (.list (l.map bi)) (.list []) = some l.isEmpty := by
  show (if V.ok 8 (.list (l.map bi)) && V.ok 8 (.list []) then some (PyData.eqvAll (V.toPs (l.map bi)) (V.toPs [])) else none) = _
  rw [if_pos (by rw [ok_bi]; rfl)]
  cases l <;> rfl

theorem law_bend (n : Nat) (bs : List UInt8) (N : Int) (hl : bs.length ≤ 900) : ∃ bs' : List UInt8, bs'.length ≤ 1000 ∧ evC FT (n + 40) 38 [.list (bs.map bi), .int N] = .ok (.list (bs'.map bi)) := by
  have hlen : lenV (.list (bs.map bi)) = some (.int bs.length) := by rw [len_list (by simp; lia), List.length_map]
  have hmod : ∀ (q : Nat) (s : Slot), evE FT (q + 3) [.val (.list (bs.map bi)), .val (.int N), s] (.bin .mod (.var 1) (.const (.int 3))) = .ok (.int (N % 3)) := fun q s => e_bin (x := .int N) (y := .int 3) rfl rfl (bin_mod (by decide) (by decide))
  have c1 : ∀ (q : Nat) (s : Slot), evT FT (q + 4) [.val (.list (bs.map bi)), .val (.int N), s] (.cmp .Eq (.bin .mod (.var 1) (.const (.int 3))) (.const (.int 0))) = .ok (N % 3 == 0) := fun q s => t_cmp (hmod _ _) rfl rfl
  have c2 : ∀ (q : Nat) (s : Slot), evT FT (q + 4) [.val (.list (bs.map bi)), .val (.int N), s] (.cmp .Eq (.var 0) (.lst [])) = .ok bs.isEmpty := fun q s => t_cmp (x := .list (bs.map bi)) (y := .list []) rfl rfl (eq_nil_bi bs)
  have c3 : ∀ (q : Nat) (s : Slot), evT FT (q + 4) [.val (.list (bs.map bi)), .val (.int N), s] (.cmp .Eq (.bin .mod (.var 1) (.const (.int 3))) (.const (.int 1))) = .ok (N % 3 == 1) := fun q s => t_cmp (hmod _ _) rfl rfl
  by_cases q0 : N % 3 = 0
  · refine ⟨bs, by lia, c_ret rfl (ss_ret (s_iteT (t_or.trans (ts_stop (t := false) ((c1 _ _).trans (by rw [q0]; rfl)))) (ss_ret (s_ret rfl))))⟩
  · by_cases q1 : bs = []
    · subst q1
      exact ⟨[], by simp, c_ret rfl (ss_ret (s_iteT (t_or.trans (ts_go (t := false) ((c1 _ _).trans (by rw [beq_eq_false_iff_ne.mpr q0])) (ts_stop (t := false) (c2 _ _)))) (ss_ret (s_ret rfl))))⟩
    · have hpos : 0 < bs.length := List.length_pos_iff.mpr q1
      have hcond : ∀ (q : Nat) (s : Slot), evT FT (q + 10) [.val (.list (bs.map bi)), .val (.int N), s] (.bop false [(.cmp .Eq (.bin .mod (.var 1) (.const (.int 3))) (.const (.int 0))), (.cmp .Eq (.var 0) (.lst []))]) = .ok false := fun q s =>
        t_or.trans (ts_go ((c1 _ _).trans (by rw [beq_eq_false_iff_ne.mpr q0])) (ts_go ((c2 _ _).trans (by cases bs <;> first | rfl | exact (q1 rfl).elim)) ts_nil))
      obtain ⟨p, hp⟩ : ∃ p : Nat, N / 3 % (bs.length : Int) = p := ⟨(N / 3 % (bs.length : Int)).toNat, by have := Int.emod_nonneg (N / 3) (show (bs.length : Int) ≠ 0 by lia); lia⟩
      have hpl : p < bs.length := by have := Int.emod_lt_of_pos (N / 3) (show (0 : Int) < bs.length by lia); lia
      have ep : ∀ (q : Nat) (s : Slot), evE FT (q + 5) [.val (.list (bs.map bi)), .val (.int N), s] (.bin .mod (.bin .fdiv (.var 1) (.const (.int 3))) (.len (.var 0))) = .ok (.int p) := fun q s => by
        refine e_bin (x := .int (N / 3)) (y := .int bs.length) (e_bin (x := .int N) (y := .int 3) rfl rfl (bin_fdiv (by decide) (by decide))) (e_len rfl hlen) ?_
        rw [bin_mod (by lia) (small_of (by lia) (by lia)), hp]
      by_cases q2 : N % 3 = 1
      · refine ⟨bs.take (bs.length - p % 17), by simp; lia, c_ret rfl (ss_next (s_iteF (hcond _ _) rfl) (ss_next (s_assign (v := .int p) (ep _ _) rfl) (ss_ret (s_iteT ((c3 _ _).trans (by rw [q2]; rfl)) (ss_ret (s_ret (e_slice (x := .list (bs.map bi)) (h := some (.int ((bs.length - p % 17 : Nat) : Int))) rfl o_none (o_some (e_bin (x := .int bs.length) (y := .int (p % 17 : Nat)) (e_len rfl hlen) (e_bin (x := .int p) (y := .int 17) rfl rfl ?_) ?_)) ?_)))))))⟩
        · rw [bin_mod (by decide) (by decide)]; simp
        · rw [bin_sub]; congr 2; lia
        · rw [slice_to (by simp; lia) (by lia), List.map_take]
      · obtain ⟨d, hd⟩ : ∃ d : Nat, N / 3 / (bs.length : Int) % 256 = d := ⟨(N / 3 / (bs.length : Int) % 256).toNat, by lia⟩
        have hd256 : d < 256 := by lia
        have ed : ∀ (q : Nat) (s : Slot), evE FT (q + 7) [.val (.list (bs.map bi)), .val (.int N), s] (.lst [(.bin .mod (.bin .fdiv (.bin .fdiv (.var 1) (.const (.int 3))) (.len (.var 0))) (.const (.int 256)))]) = .ok (.list [.int d]) := fun q s => by
          refine e_lst (es_cons (e_bin (x := .int (N / 3 / (bs.length : Int))) (y := .int 256) (e_bin (x := .int (N / 3)) (y := .int bs.length) (e_bin (x := .int N) (y := .int 3) rfl rfl (bin_fdiv (by decide) (by decide))) (e_len rfl hlen) (bin_fdiv (by lia) (small_of (by lia) (by lia)))) rfl ?_) es_nil) (by simp)
          rw [bin_mod (by decide) (by decide), hd]
        have hbd : V.int (d : Int) = bi (UInt8.ofNat d) := by unfold bi; congr 1; simp; lia
        refine ⟨bs.take p ++ [UInt8.ofNat d] ++ bs.drop (p + 1), by simp; lia, c_ret rfl (ss_next (s_iteF (hcond _ _) rfl) (ss_next (s_assign (v := .int p) (ep _ _) rfl) (ss_next (s_iteF ((c3 _ _).trans (by rw [beq_eq_false_iff_ne.mpr q2])) rfl) (ss_ret (s_ret ?_)))))⟩
        refine e_bin (x := .list ((bs.take p).map bi ++ [.int d])) (y := .list ((bs.drop (p + 1)).map bi)) (e_bin (x := .list ((bs.take p).map bi)) (y := .list [.int d]) (e_slice (x := .list (bs.map bi)) (h := some (.int p)) rfl o_none (o_some rfl) ?_) (ed _ _) (bin_addL (by simp; lia))) (e_slice (x := .list (bs.map bi)) (l := some (.int ((p + 1 : Nat) : Int))) rfl (o_some rfl) o_none ?_) ?_
        · rw [slice_to (by simp; lia) (by lia), List.map_take]
        · rw [slice_from (by simp; lia) (by lia), List.map_drop]
        · rw [bin_addL (by simp; lia), hbd]
          simp
end Mine.Q
end

/-! text Q15 -/
section
set_option bootstrap.genMatcherCode false
set_option backward.match.sparseCases false
open PySem PySem.W
set_option maxRecDepth 100000
set_option maxHeartbeats 2000000
set_option Elab.async false
namespace Mine.Q

/-! the entries of a script -/
noncomputable def movesV : V := .list [.tuple [.str "Ra2", .int 4], .tuple [.str "Rxa4", .int 12], .tuple [.str "Na3", .int 72], .tuple [.str "Nc3", .int 74], .tuple [.str "Nd2", .int 71], .tuple [.str "cxd3", .int 395], .tuple [.str "c3", .int 394], .tuple [.str "Kd2", .int 199]]
theorem c32 (q : Nat) (σ : Env) : evE FT (q + 30) σ (.call 32 []) = .ok movesV := e_call (n := q + 29) (vs := []) rfl (by kernel_rfl)
noncomputable def mvAt (i : Nat) : Prop := ∃ s, idxV movesV (.int i) = some (.tuple [s, .int (nmv i)])
theorem mv_at {i : Nat} (h : i < 8) : mvAt i := eight (P := mvAt) ⟨_, rfl⟩ ⟨_, rfl⟩ ⟨_, rfl⟩ ⟨_, rfl⟩ ⟨_, rfl⟩ ⟨_, rfl⟩ ⟨_, rfl⟩ ⟨_, rfl⟩ h
theorem e_move {q : Nat} {σ : Env} {e : E} {x : Int} (h : evE FT (q + 30) σ e = .ok (.int (x % 8))) : evE FT (q + 32) σ (.idx (.idx (.call 32 []) e) (.const (.int 1))) = .ok (.int (nmv (x % 8).toNat)) := by
  obtain ⟨s, hs⟩ := mv_at (i := (x % 8).toNat) (by lia)
  rw [show (((x % 8).toNat : Nat) : Int) = x % 8 by lia] at hs
  exact e_idx (e_idx (c32 q σ) h hs) rfl rfl
theorem nmv_pos {i : Nat} (h : i < 8) : 0 < nmv i ∧ nmv i < 65536 := eight (P := fun i => 0 < nmv i ∧ nmv i < 65536) (by decide) (by decide) (by decide) (by decide) (by decide) (by decide) (by decide) (by decide) h

noncomputable def entOf (x : Int) : Q4 := (x % 3, nmv (x / 3 % 8).toNat, x / 24 % 40000, x / 7 % 100)
theorem ent_fit (x : Int) : Fit (entOf x) := by
  have := nmv_pos (i := (x / 3 % 8).toNat) (by lia)
  refine ⟨?_, ?_, this.1, this.2, ?_, ?_, ?_, ?_⟩ <;> (simp only [entOf]; lia)
noncomputable def entE : E := .tup [(.bin .mod (.var 0) (.const (.int 3))), (.idx (.idx (.call 32 []) (.bin .mod (.bin .fdiv (.var 0) (.const (.int 3))) (.const (.int 8)))) (.const (.int 1))), (.bin .mod (.bin .fdiv (.var 0) (.const (.int 24))) (.const (.int 40000))), (.bin .mod (.bin .fdiv (.var 0) (.const (.int 7))) (.const (.int 100)))]
theorem dm {q : Nat} {σ : Env} {x a b : Int} (h : (σ[0]?).bind slotV = some (.int x)) (ha : 0 < a) (ha2 : a < 100000) (hb : 0 < b) (hb2 : b < 100000) : evE FT (q + 4) σ (.bin .mod (.bin .fdiv (.var 0) (.const (.int a))) (.const (.int b))) = .ok (.int (x / a % b)) := by
  refine e_bin (x := .int (x / a)) (y := .int b) (e_bin (x := .int x) (y := .int a) ?_ rfl (bin_fdiv ha (small_of (by lia) (by lia)))) rfl (bin_mod hb (small_of (by lia) (by lia)))
  show R.ofOpt _ = _
  rw [h]; rfl
theorem ent_ok (q : Nat) (x : Int) : evE FT (q + 40) [.val (.int x)] entE = .ok (qv (entOf x)) :=
  e_tup (es_cons (e_bin (x := .int x) (y := .int 3) rfl rfl (bin_mod (by decide) (by decide))) (es_cons (e_move (q := q + 5) (x := x / 3) (dm rfl (by decide) (by decide) (by decide) (by decide))) (es_cons (dm (a := 24) rfl (by decide) (by decide) (by decide) (by decide)) (es_cons (dm (a := 7) rfl (by decide) (by decide) (by decide) (by decide)) es_nil)))) (by simp)

theorem top_le {a : Int} (h : 0 ≤ a) : 0 ≤ top a ∧ top a ≤ 65535 := by unfold top; split <;> lia
theorem mrg_fit : ∀ (es : List Q4), (∀ e ∈ es, Fit e) → ∀ e ∈ mrg es, Fit e := by
  intro es hes
  unfold mrg
  suffices h : ∀ (es out : List Q4), (∀ e ∈ es, Fit e) → (∀ e ∈ out, Fit e) → ∀ e ∈ es.foldl mstep out, Fit e from h es [] hes nofun
  intro es
  induction es with
  | nil => intro out _ h; exact h
  | cons e es ih =>
    intro out h1 h2
    refine ih _ (fun x hx => h1 x (.tail _ hx)) ?_
    have he := h1 e (.head _)
    unfold mstep
    split
    · rename_i j hj
      have hl := (List.findIdx?_eq_some_iff_getElem.mp hj).1
      have ho : Fit (out.getD j (0, 0, 0, 0)) := by rw [getD_of hl]; exact h2 _ (List.getElem_mem _)
      intro x hx
      unfold mput at hx
      rcases List.mem_or_eq_of_mem_set hx with hx | rfl
      · exact h2 x hx
      · obtain ⟨k0, k1, m0, m1, w0, w1, l0, l1⟩ := he
        obtain ⟨k0', k1', m0', m1', w0', w1', l0', l1'⟩ := ho
        have := top_le (a := (out.getD j (0, 0, 0, 0)).2.2.1 + e.2.2.1) (by lia)
        exact ⟨k0, k1, m0, m1, this.1, this.2, l0', l1'⟩
    · intro x hx
      rcases List.mem_append.mp hx with hx | hx
      · exact h2 x hx
      · simp at hx; subst hx; exact he
theorem mrg_len : ∀ (es : List Q4), (mrg es).length ≤ es.length := by
  intro es
  unfold mrg
  suffices h : ∀ (es out : List Q4), (es.foldl mstep out).length ≤ out.length + es.length from by simpa using h es []
  intro es
  induction es with
  | nil => intro out; simp
  | cons e es ih =>
    intro out
    have := ih (mstep out e)
    have : (mstep out e).length ≤ out.length + 1 := by
      unfold mstep
      split
      · rw [mput_len]; lia
      · simp
    simp only [List.foldl_cons, List.length_cons]
    lia

theorem ok_qv (l : List Q4) : V.ok 8 (.list (l.map qv)) = true := by
  show (l.map qv).all (V.ok 7) = true
  rw [List.all_map, List.all_eq_true]
  intro x _; rfl
theorem eqv_qv : ∀ l : List Q4, PyData.eqvAll (V.toPs (l.map qv)) (V.toPs (l.map qv)) = true
  | [] => rfl
  | e :: l => by
    show (PyData.eqv (V.toP (qv e)) (V.toP (qv e)) && PyData.eqvAll (V.toPs (l.map qv)) (V.toPs (l.map qv))) = true
    rw [eqv_qv l, Bool.and_true]
    show ((e.1 == e.1) && ((e.2.1 == e.2.1) && ((e.2.2.1 == e.2.2.1) && ((e.2.2.2 == e.2.2.2) && true)))) = true
    simp
theorem ne_qv (l : List Q4) : cmpV .NotEq (.list (l.map qv)) (.list (l.map qv)) = some false := by
  show Option.map (!·) (if V.ok 8 (.list (l.map qv)) && V.ok 8 (.list (l.map qv)) then some (PyData.eqvAll (V.toPs (l.map qv)) (V.toPs (l.map qv))) else none) = _
  rw [if_pos (by rw [ok_qv]; rfl), eqv_qv]; rfl
theorem ne_int (a : Int) : cmpV .NotEq (.int a) (.int a) = some false := by
  show some (!(a == a)) = _
  simp
theorem ne_fin (r : R Bool) (h : r ≠ .stuck) (hx : ∀ x, r = .exc x → x = .san ∨ x = .epd (-1)) : cmpV .NotEq (finV r) (finV r) = some false := by
  cases r with
  | stuck => exact (h rfl).elim
  | ok b => cases b <;> rfl
  | exc x => rcases hx x rfl with rfl | rfl <;> kernel_rfl

theorem toList_bi (l : List UInt8) (h : l.length ≤ 65536) : toListV (.bytes l) = some (.list (l.map bi)) := if_pos h
theorem toBytes_bi (l : List UInt8) (h : l.length ≤ 65536) : toBytesV (.list (l.map bi)) = some (.bytes l) := by
  refine (if_pos (show _ ≤ 65536 by simpa using h)).trans ?_
  have : ∀ l : List UInt8, bytesOf (l.map bi) = some l := by
    intro l
    induction l with
    | nil => rfl
    | cons b l ih =>
      have hb : b.toNat < 256 := b.toNat_lt
      show (if (decide (0 ≤ (b.toNat : Int)) && decide ((b.toNat : Int) < 256)) = true then (bytesOf (l.map bi)).map (UInt8.ofNat (b.toNat : Int).toNat :: ·) else none) = _
      rw [if_pos (by simp; lia), ih]
      simp
  rw [this]; rfl

/-! the operations -/
noncomputable def opsV (ha hb : Bool) (X Y : List V) : List V := (if hb then [.tuple [.str "bm", .list Y]] else []) ++ [.tuple [.str "id", .list [.tuple [.int 0, .str "a test"]]]] ++ (if ha then [.tuple [.str "am", .list X]] else [])
theorem ops_am (ha hb : Bool) (X Y : List V) (q : Nat) : evC FT (q + 20) 29 [.list (opsV ha hb X Y), .str "am"] = .ok (if ha then .list X else .none) := by
  cases ha <;> cases hb <;> kernel_rfl
theorem ops_bm (ha hb : Bool) (X Y : List V) (q : Nat) : evC FT (q + 20) 29 [.list (opsV ha hb X Y), .str "bm"] = .ok (if hb then .list Y else .none) := by
  cases ha <;> cases hb <;> kernel_rfl

theorem res_ne : ∀ (ws : List Wd) (o : List Int), res ws o ≠ .stuck ∧ (∀ x, res ws o = .exc x → x = .san ∨ x = .epd (-1)) ∧ ∀ o', res ws o = .ok o' → o'.length = o.length + ws.length
  | [], o => ⟨nofun, nofun, fun o' h => by cases h; simp⟩
  | .mv i p h :: ws, o => by
    obtain ⟨h1, h2, h3⟩ := res_ne ws (o ++ [nmv i])
    exact ⟨h1, h2, fun o' h => by rw [h3 o' h]; simp; lia⟩
  | .bad :: ws, o => ⟨nofun, fun x h => by cases h; exact .inl rfl, nofun⟩
  | .num :: ws, o => ⟨nofun, fun x h => by cases h; exact .inr rfl, nofun⟩
  | .quo :: ws, o => ⟨nofun, fun x h => by cases h; exact .inr rfl, nofun⟩

theorem sol_ne (m : Int) (A : R (List Int)) (B : Option (R (List Int))) (hA : A ≠ .stuck ∧ ∀ x, A = .exc x → x = .san ∨ x = .epd (-1)) (hB : ∀ rb, B = some rb → rb ≠ .stuck ∧ ∀ x, rb = .exc x → x = .san ∨ x = .epd (-1)) :
    sol m A B ≠ .stuck ∧ ∀ x, sol m A B = .exc x → x = .san ∨ x = .epd (-1) := by
  unfold sol
  by_cases q0 : m = 0
  · rw [if_pos q0]; exact ⟨nofun, nofun⟩
  · rw [if_neg q0]
    cases A with
    | stuck => exact (hA.1 rfl).elim
    | exc x => exact ⟨nofun, fun y h => by cases h; exact hA.2 x rfl⟩
    | ok la =>
      rw [R.bind_ok]
      split
      · exact ⟨nofun, nofun⟩
      · cases B with
        | none => exact ⟨nofun, nofun⟩
        | some rb =>
          obtain ⟨h1, h2⟩ := hB rb rfl
          cases rb with
          | stuck => exact (h1 rfl).elim
          | exc x => exact ⟨nofun, fun y h => by cases h; exact h2 x rfl⟩
          | ok lb => exact ⟨nofun, nofun⟩

/-- the two answers on one move -/
theorem answers (ha hb : Bool) (X Y : List Wd) (hX : X.length ≤ 3) (hY : Y.length ≤ 3) (m : Int) : ∃ v, (∀ q, evC FT (q + 84) 40 [.list (opsV ha hb (X.map wv) (Y.map wv)), .int m] = .ok v) ∧ (∀ q, evC FT (q + 70) 35 [.bool ha, .list (X.map wv), .bool hb, .list (Y.map wv), .int m] = .ok v) ∧ cmpV .NotEq v v = some false := by
  obtain ⟨x1, x2, x3⟩ := res_ne X []
  obtain ⟨y1, y2, y3⟩ := res_ne Y []
  have am := ops_am ha hb (X.map wv) (Y.map wv)
  have bm := ops_bm ha hb (X.map wv) (Y.map wv)
  obtain ⟨n1, t1⟩ := law_named X (by lia)
  obtain ⟨n2, t2⟩ := law_named Y (by lia)
  have hxl : ∀ o, res X [] = .ok o → o.length < 1000 := fun o h => by rw [x3 o h]; simp; lia
  have hyl : ∀ o, res Y [] = .ok o → o.length < 1000 := fun o h => by rw [y3 o h]; simp; lia
  have nl : ∀ o : List Int, (R.ok [] : R (List Int)) = .ok o → o.length < 1000 := fun o h => by cases h; simp
  cases ha with
  | true =>
    rw [if_pos rfl] at am
    cases hb with
    | true =>
      rw [if_pos rfl] at bm
      have s := sol_ne m (res X []) (some (res Y [])) ⟨x1, x2⟩ (fun rb h => by cases h; exact ⟨y1, y2⟩)
      exact ⟨_, fun q => law_solved q _ m _ s.1 s.2 (is_solved q _ m (res X []) (some (res Y [])) x1 (fun rb h => by cases h; exact y1) (fun q => named_some q _ "am" X (by decide +kernel) (by lia) am) ⟨⟨_, bm⟩, fun q => named_some q _ "bm" Y (by decide +kernel) (by lia) bm⟩),
        fun q => law_verdict q true true _ _ m (res X []) (some (res Y [])) ⟨_, n1, t1⟩ hxl ⟨rfl, ⟨_, n2, t2⟩, hyl⟩, ne_fin _ s.1 s.2⟩
    | false =>
      rw [if_neg Bool.false_ne_true] at bm
      have s := sol_ne m (res X []) none ⟨x1, x2⟩ (fun rb h => by cases h)
      exact ⟨_, fun q => law_solved q _ m _ s.1 s.2 (is_solved q _ m (res X []) none x1 (fun rb h => by cases h) (fun q => named_some q _ "am" X (by decide +kernel) (by lia) am) bm),
        fun q => law_verdict q true false _ _ m (res X []) none ⟨_, n1, t1⟩ hxl rfl, ne_fin _ s.1 s.2⟩
  | false =>
    rw [if_neg Bool.false_ne_true] at am
    cases hb with
    | true =>
      rw [if_pos rfl] at bm
      have s := sol_ne m (.ok []) (some (res Y [])) ⟨nofun, nofun⟩ (fun rb h => by cases h; exact ⟨y1, y2⟩)
      exact ⟨_, fun q => law_solved q _ m _ s.1 s.2 (is_solved q _ m (.ok []) (some (res Y [])) nofun (fun rb h => by cases h; exact y1) (fun q => named_none q _ "am" am) ⟨⟨_, bm⟩, fun q => named_some q _ "bm" Y (by decide +kernel) (by lia) bm⟩),
        fun q => law_verdict q false true _ _ m (.ok []) (some (res Y [])) rfl nl ⟨rfl, ⟨_, n2, t2⟩, hyl⟩, ne_fin _ s.1 s.2⟩
    | false =>
      rw [if_neg Bool.false_ne_true] at bm
      have s := sol_ne m (.ok []) none ⟨nofun, nofun⟩ (fun rb h => by cases h)
      exact ⟨_, fun q => law_solved q _ m _ s.1 s.2 (is_solved q _ m (.ok []) none nofun (fun rb h => by cases h) (fun q => named_none q _ "am" am) bm),
        fun q => law_verdict q false false _ _ m (.ok []) none rfl nl rfl, ne_fin _ s.1 s.2⟩
end Mine.Q
end

/-! text Q16 -/
section
set_option bootstrap.genMatcherCode false
set_option backward.match.sparseCases false
open PySem PySem.W
set_option maxRecDepth 100000
set_option maxHeartbeats 4000000
set_option Elab.async false
namespace Mine.Q

noncomputable def op0 : List V := [.tuple [.str "id", .list [.tuple [.int 0, .str "a test"]]]]
noncomputable def op1 (ha : Bool) (X : List V) : List V := op0 ++ (if ha then [.tuple [.str "am", .list X]] else [])

theorem order_bk {M : List Q4} {idx : List Nat} (hml : M.length ≤ 10) (hmf : ∀ e ∈ M, Fit e) (ho : Order M idx) : Bk M idx := by
  have hil : idx.length = M.length := by simpa using ho.perm.length_eq
  have hlt : ∀ i ∈ idx, i < M.length := fun i hi => by simpa using ho.perm.mem_iff.mp hi
  refine ⟨by lia, fun i hi => by rw [getD_of (hlt i hi)]; exact hmf _ (List.getElem_mem _), ho.sorted.imp fun h => ?_⟩
  have h' := (lt3_iff _ _).mp h
  simp only [rowOf] at h'
  lia
theorem key_best {M : List Q4} {idx : List Nat} (hmf : ∀ e ∈ M, Fit e) (ho : Order M idx) (key : Int) : best3 (((idx.filter (isKey M key)).map fun i => tri (M.getD i z4))) = lbest (M.filter fun e => e.1 == key) := by
  have hlt : ∀ i ∈ idx, i < M.length := fun i hi => by simpa using ho.perm.mem_iff.mp hi
  have hJ : ∀ i ∈ idx.filter (isKey M key), i < M.length := fun i hi => hlt i (List.mem_filter.mp hi).1
  have e1 : ((idx.filter (isKey M key)).map fun i => tri (M.getD i z4)) = ((idx.filter (isKey M key)).map fun i => M.getD i z4).map tri := by rw [List.map_map]; rfl
  have hall : M = (List.range M.length).map fun i => M.getD i z4 := by
    refine List.ext_getElem (by simp) fun i h1 h2 => ?_
    simp [h1]
  have e2 : (M.filter fun e => e.1 == key) = ((List.range M.length).filter (isKey M key)).map fun i => M.getD i z4 := by
    conv => lhs; rw [hall]
    rw [List.filter_map]; rfl
  rw [e1, best_eq _ (fun e he => by
    obtain ⟨i, hi, rfl⟩ := List.mem_map.mp he
    rw [getD_of (hJ i hi)]; exact hmf _ (List.getElem_mem _)), e2]
  refine group_best M hmf _ _ (ho.perm.filter _) (List.Pairwise.filter _ List.pairwise_lt_range) (fun i hi => by simpa using (List.mem_filter.mp hi).1) ?_
  refine (ho.sorted.filter _).imp_of_mem fun {i j} hi hj h => ?_
  have ki := (List.mem_filter.mp hi).2
  have kj := (List.mem_filter.mp hj).2
  unfold isKey at ki kj
  rw [beq_iff_eq] at ki kj
  have h' := (lt3_iff _ _).mp h
  simp only [rowOf] at h'
  show (M.getD j z4).2.2.1 < (M.getD i z4).2.2.1 ∨ (M.getD i z4).2.2.1 = (M.getD j z4).2.2.1 ∧ i < j
  lia

noncomputable def keyB : List S := [.append 13 (.call 17 [(.call 15 [(.var 10), (.var 14)])]), .ite (.cmp .NotEq (.idx (.var 13) (.neg (.const (.int 1)))) (.call 39 [(.comp (.var 0) (.var 9) 1 false (some (.cmp .Eq (.idx (.var 0) (.const (.int 0))) (.var 1))) [14])])) [.ret (.const (.bool false))] []]
noncomputable def movB : List S := [.ite (.cmp .NotEq (.call 40 [(.var 7), (.var 15)]) (.call 35 [(.var 3), (.var 5), (.var 4), (.var 6), (.var 15)])) [.ret (.const (.bool false))] []]

theorem key_step (n : Nat) (l : List Int) (f : Int) (ha hb : Bool) (X Y : List Wd) (M : List Q4) (idx : List Nat) (es : List Q4) (bs : List UInt8) (ops T : List V) (hml : M.length ≤ 10) (hmf : ∀ e ∈ M, Fit e) (ho : Order M idx) (hT : T.length < 1000) (key : Int) (s14 : Slot) :
    ∃ a : Int, (R.ofOpt (bindTgt [.val (.list (l.map V.int)), .val (.list ((l.take 12).map V.int)), .val (.int f), .val (.bool ha), .val (.bool hb), .val (.list (X.map wv)), .val (.list (Y.map wv)), .val (.list ops), .val (.list (es.map qv)), .val (.list (M.map qv)), .val (.bytes (bookOf' M idx)), .val (.list (bs.map bi)), .val (.int (blame bs)), .own T, s14, .unb] (.one 14) (.int key))).bind (fun σ' => exSs FT (n + 128) σ' keyB) = .ok ([.val (.list (l.map V.int)), .val (.list ((l.take 12).map V.int)), .val (.int f), .val (.bool ha), .val (.bool hb), .val (.list (X.map wv)), .val (.list (Y.map wv)), .val (.list ops), .val (.list (es.map qv)), .val (.list (M.map qv)), .val (.bytes (bookOf' M idx)), .val (.list (bs.map bi)), .val (.int (blame bs)), .own (T ++ [.int a]), .val (.int key), .unb], .next) := by
  have B := order_bk hml hmf ho
  have e15 := find_entries (n + 63) B key
  have e17 := best_entry (n + 110) ((idx.filter (isKey M key)).map fun i => tri (M.getD i z4))
  have hkb := key_best hmf ho key
  generalize hg : best3 ((idx.filter (isKey M key)).map fun i => tri (M.getD i z4)) = a at e17 hkb
  refine ⟨a, ?_⟩
  show exSs FT (n + 128) [.val (.list (l.map V.int)), .val (.list ((l.take 12).map V.int)), .val (.int f), .val (.bool ha), .val (.bool hb), .val (.list (X.map wv)), .val (.list (Y.map wv)), .val (.list ops), .val (.list (es.map qv)), .val (.list (M.map qv)), .val (.bytes (bookOf' M idx)), .val (.list (bs.map bi)), .val (.int (blame bs)), .own T, .val (.int key), .unb] keyB = _
  have hfl : (M.filter fun e => e.1 == key).length ≤ 63 := by have := List.length_filter_le (fun e : Q4 => e.1 == key) M; lia
  have e39 := law_best (n + 98) (M.filter fun e => e.1 == key) hfl
  have hcomp : evE FT (n + 122) [.val (.list (l.map V.int)), .val (.list ((l.take 12).map V.int)), .val (.int f), .val (.bool ha), .val (.bool hb), .val (.list (X.map wv)), .val (.list (Y.map wv)), .val (.list ops), .val (.list (es.map qv)), .val (.list (M.map qv)), .val (.bytes (bookOf' M idx)), .val (.list (bs.map bi)), .val (.int (blame bs)), .own (T ++ [.int a]), .val (.int key), .unb] (.comp (.var 0) (.var 9) 1 false (some (.cmp .Eq (.idx (.var 0) (.const (.int 0))) (.var 1))) [14]) = .ok (.list ((M.filter fun e => e.1 == key).map qv)) := by
    refine (e_compF (l := M.map qv) (g := fun v => v) (p := fun v => match v with | .tuple [.int k, _, _, _] => k == key | _ => false) rfl (by simp; lia) fun v hv => ?_).trans ?_
    · obtain ⟨e, _, rfl⟩ := List.mem_map.mp hv
      exact ⟨_, rfl, t_cmp (x := .int e.1) (y := .int key) rfl rfl rfl, rfl, qv_flat e⟩
    · rw [List.filter_map, List.map_id']; rfl
  refine ss_next (σ' := [.val (.list (l.map V.int)), .val (.list ((l.take 12).map V.int)), .val (.int f), .val (.bool ha), .val (.bool hb), .val (.list (X.map wv)), .val (.list (Y.map wv)), .val (.list ops), .val (.list (es.map qv)), .val (.list (M.map qv)), .val (.bytes (bookOf' M idx)), .val (.list (bs.map bi)), .val (.int (blame bs)), .own (T ++ [.int a]), .val (.int key), .unb]) (s_append (l := T) (v := .int a) rfl (e_call (vs := [.list (((idx.filter (isKey M key)).map fun i => tri (M.getD i z4)).map tv)]) (es_cons (e_call (vs := [.bytes (bookOf' M idx), .int key]) rfl e15) es_nil) e17) rfl (by lia)) (ss_next (σ' := [.val (.list (l.map V.int)), .val (.list ((l.take 12).map V.int)), .val (.int f), .val (.bool ha), .val (.bool hb), .val (.list (X.map wv)), .val (.list (Y.map wv)), .val (.list ops), .val (.list (es.map qv)), .val (.list (M.map qv)), .val (.bytes (bookOf' M idx)), .val (.list (bs.map bi)), .val (.int (blame bs)), .own (T ++ [.int a]), .val (.int key), .unb]) (s_iteF (t_cmp (x := .int a) (y := .int (lbest (M.filter fun e => e.1 == key))) (e_idx (x := .list (T ++ [.int a])) (y := .int (-1)) rfl rfl (by rw [idx_last (by simp; lia) (by simp)]; simp)) (e_call (vs := [.list ((M.filter fun e => e.1 == key).map qv)]) (es_cons hcomp es_nil) e39) (by rw [hkb]; exact ne_int _)) rfl) rfl)

theorem key_loop (n : Nat) (l : List Int) (f : Int) (ha hb : Bool) (X Y : List Wd) (M : List Q4) (idx : List Nat) (es : List Q4) (bs : List UInt8) (ops T : List V) (hml : M.length ≤ 10) (hmf : ∀ e ∈ M, Fit e) (ho : Order M idx) (hT : T.length = 2) :
    ∃ a0 a1 a2 s14, exS FT (n + 129) [.val (.list (l.map V.int)), .val (.list ((l.take 12).map V.int)), .val (.int f), .val (.bool ha), .val (.bool hb), .val (.list (X.map wv)), .val (.list (Y.map wv)), .val (.list ops), .val (.list (es.map qv)), .val (.list (M.map qv)), .val (.bytes (bookOf' M idx)), .val (.list (bs.map bi)), .val (.int (blame bs)), .own T, .unb, .unb] (.forV (.one 14) (.lst [(.const (.int 0)), (.const (.int 1)), (.const (.int 2))]) [.append 13 (.call 17 [(.call 15 [(.var 10), (.var 14)])]), .ite (.cmp .NotEq (.idx (.var 13) (.neg (.const (.int 1)))) (.call 39 [(.comp (.var 0) (.var 9) 1 false (some (.cmp .Eq (.idx (.var 0) (.const (.int 0))) (.var 1))) [14])])) [.ret (.const (.bool false))] []]) = .ok ([.val (.list (l.map V.int)), .val (.list ((l.take 12).map V.int)), .val (.int f), .val (.bool ha), .val (.bool hb), .val (.list (X.map wv)), .val (.list (Y.map wv)), .val (.list ops), .val (.list (es.map qv)), .val (.list (M.map qv)), .val (.bytes (bookOf' M idx)), .val (.list (bs.map bi)), .val (.int (blame bs)), .own (T ++ [.int a0] ++ [.int a1] ++ [.int a2]), s14, .unb], .next) := by
  obtain ⟨a0, h0⟩ := key_step n l f ha hb X Y M idx es bs ops T hml hmf ho (by lia) 0 .unb
  obtain ⟨a1, h1⟩ := key_step n l f ha hb X Y M idx es bs ops (T ++ [.int a0]) hml hmf ho (by simp; lia) 1 (.val (.int 0))
  obtain ⟨a2, h2⟩ := key_step n l f ha hb X Y M idx es bs ops (T ++ [.int a0] ++ [.int a1]) hml hmf ho (by simp; lia) 2 (.val (.int 1))
  exact ⟨a0, a1, a2, _, s_forE (n := n + 128) rfl (l := [.int 0, .int 1, .int 2]) rfl rfl (forL_next h0 (forL_next h1 (forL_next h2 rfl)))⟩

theorem move_loop' (n : Nat) (l : List Int) (f : Int) (ha hb : Bool) (X Y : List Wd) (hX : X.length ≤ 3) (hY : Y.length ≤ 3) (M : List Q4) (idx : List Nat) (es : List Q4) (bs : List UInt8) (TV : V) (s14 : Slot) : ∀ (ms : List Int) (s15 : Slot), ∃ s15', forL (fun σ v => (R.ofOpt (bindTgt σ (.one 15) v)).bind fun σ' => exSs FT (n + 127) σ' movB) (ms.map V.int) [.val (.list (l.map V.int)), .val (.list ((l.take 12).map V.int)), .val (.int f), .val (.bool ha), .val (.bool hb), .val (.list (X.map wv)), .val (.list (Y.map wv)), .val (.list (opsV ha hb (X.map wv) (Y.map wv))), .val (.list (es.map qv)), .val (.list (M.map qv)), .val (.bytes (bookOf' M idx)), .val (.list (bs.map bi)), .val (.int (blame bs)), .val TV, s14, s15] = .ok ([.val (.list (l.map V.int)), .val (.list ((l.take 12).map V.int)), .val (.int f), .val (.bool ha), .val (.bool hb), .val (.list (X.map wv)), .val (.list (Y.map wv)), .val (.list (opsV ha hb (X.map wv) (Y.map wv))), .val (.list (es.map qv)), .val (.list (M.map qv)), .val (.bytes (bookOf' M idx)), .val (.list (bs.map bi)), .val (.int (blame bs)), .val TV, s14, s15'], .next) := by
  intro ms
  induction ms with
  | nil => intro s15; exact ⟨s15, rfl⟩
  | cons m ms ih =>
    intro s15
    obtain ⟨s15', h⟩ := ih (.val (.int m))
    refine ⟨s15', forL_next ?_ h⟩
    obtain ⟨v, e40, e35, hv⟩ := answers ha hb X Y hX hY m
    show exSs FT (n + 127) [.val (.list (l.map V.int)), .val (.list ((l.take 12).map V.int)), .val (.int f), .val (.bool ha), .val (.bool hb), .val (.list (X.map wv)), .val (.list (Y.map wv)), .val (.list (opsV ha hb (X.map wv) (Y.map wv))), .val (.list (es.map qv)), .val (.list (M.map qv)), .val (.bytes (bookOf' M idx)), .val (.list (bs.map bi)), .val (.int (blame bs)), .val TV, s14, .val (.int m)] movB = _
    exact ss_next (s_iteF (t_cmp (x := v) (y := v) (e_call (vs := [.list (opsV ha hb (X.map wv) (Y.map wv)), .int m]) rfl (e40 (n + 39))) (e_call (vs := [.bool ha, .list (X.map wv), .bool hb, .list (Y.map wv), .int m]) rfl (e35 (n + 53))) hv) rfl) rfl

theorem move_loop (n : Nat) (l : List Int) (f : Int) (ha hb : Bool) (X Y : List Wd) (hX : X.length ≤ 3) (hY : Y.length ≤ 3) (M : List Q4) (idx : List Nat) (es : List Q4) (bs : List UInt8) (s14 : Slot) (ms : List Int) : ∃ σ', exS FT (n + 128) [.val (.list (l.map V.int)), .val (.list ((l.take 12).map V.int)), .val (.int f), .val (.bool ha), .val (.bool hb), .val (.list (X.map wv)), .val (.list (Y.map wv)), .val (.list (opsV ha hb (X.map wv) (Y.map wv))), .val (.list (es.map qv)), .val (.list (M.map qv)), .val (.bytes (bookOf' M idx)), .val (.list (bs.map bi)), .val (.int (blame bs)), .own (ms.map V.int), s14, .unb] (.forV (.one 15) (.var 13) [.ite (.cmp .NotEq (.call 40 [(.var 7), (.var 15)]) (.call 35 [(.var 3), (.var 5), (.var 4), (.var 6), (.var 15)])) [.ret (.const (.bool false))] []]) = .ok (σ', .next) := by
  obtain ⟨s15', h⟩ := move_loop' n l f ha hb X Y hX hY M idx es bs (.list (ms.map V.int)) s14 ms .unb
  exact ⟨_, s_forOwn (l := ms.map V.int) rfl h⟩

theorem law_ok (n : Nat) (l : List Int) (hl : l.length ≤ 63) : evC FT (n + 150) 41 [.list (l.map V.int)] = .ok (.bool true) := by
  have f_first : ∃ f : Int, evE FT (n + 146) [.val (.list (l.map V.int)), .val (.list ((l.take 12).map V.int)), .unb, .unb, .unb, .unb, .unb, .unb, .unb, .unb, .unb, .unb, .unb, .unb, .unb, .unb] (.ite (.var 1) (.idx (.var 1) (.const (.int 0))) (.const (.int 0))) = .ok (.int f) := by
    cases hS : (l.take 12) with
    | nil => exact ⟨0, e_ite (t := false) rfl rfl⟩
    | cons x xs =>
      have hlen : (x :: xs).length ≤ 12 := by rw [← hS]; simp; lia
      exact ⟨x, e_ite (t := true) (t_val (x := .list ((x :: xs).map V.int)) rfl rfl (truV_list (by simp at hlen ⊢; lia))) (by rw [if_pos rfl]; exact e_idx (x := .list ((x :: xs).map V.int)) (y := .int 0) rfl rfl (idx_list (by decide) (by simp at hlen ⊢; lia) rfl))⟩
  obtain ⟨f, hf⟩ := f_first
  have h0 : exS FT (n + 148) [.val (.list (l.map V.int)), .unb, .unb, .unb, .unb, .unb, .unb, .unb, .unb, .unb, .unb, .unb, .unb, .unb, .unb, .unb] (.assign 1 (.slice (.var 0) .none (some (.const (.int 12))))) = .ok ([.val (.list (l.map V.int)), .val (.list ((l.take 12).map V.int)), .unb, .unb, .unb, .unb, .unb, .unb, .unb, .unb, .unb, .unb, .unb, .unb, .unb, .unb], .next) := s_assign (v := .list ((l.take 12).map V.int)) (e_slice (x := .list (l.map V.int)) (h := some (.int (12 : Nat))) rfl o_none (o_some rfl) (by rw [slice_to (b := 12) (by simp; lia) (by lia), List.map_take])) rfl
  have h1 : exS FT (n + 147) [.val (.list (l.map V.int)), .val (.list ((l.take 12).map V.int)), .unb, .unb, .unb, .unb, .unb, .unb, .unb, .unb, .unb, .unb, .unb, .unb, .unb, .unb] (.assign 2 (.ite (.var 1) (.idx (.var 1) (.const (.int 0))) (.const (.int 0)))) = .ok ([.val (.list (l.map V.int)), .val (.list ((l.take 12).map V.int)), .val (.int f), .unb, .unb, .unb, .unb, .unb, .unb, .unb, .unb, .unb, .unb, .unb, .unb, .unb], .next) := s_assign hf rfl
  obtain ⟨ha, hha⟩ : ∃ ha : Bool, (f % 2 == 0) = ha := ⟨_, rfl⟩
  obtain ⟨hb, hhb⟩ : ∃ hb : Bool, decide (f / 2 % 3 < 2) = hb := ⟨_, rfl⟩
  have h2 : exS FT (n + 146) [.val (.list (l.map V.int)), .val (.list ((l.take 12).map V.int)), .val (.int f), .unb, .unb, .unb, .unb, .unb, .unb, .unb, .unb, .unb, .unb, .unb, .unb, .unb] (.assign 3 (.cmp .Eq (.bin .mod (.var 2) (.const (.int 2))) (.const (.int 0)))) = .ok ([.val (.list (l.map V.int)), .val (.list ((l.take 12).map V.int)), .val (.int f), .val (.bool ha), .unb, .unb, .unb, .unb, .unb, .unb, .unb, .unb, .unb, .unb, .unb, .unb], .next) := s_assign (v := .bool ha) (e_cmp (x := .int (f % 2)) (y := .int 0) (e_bin (x := .int f) (y := .int 2) rfl rfl (bin_mod (by decide) (by decide))) rfl (by rw [cmp_eq, hha])) rfl
  have h3 : exS FT (n + 145) [.val (.list (l.map V.int)), .val (.list ((l.take 12).map V.int)), .val (.int f), .val (.bool ha), .unb, .unb, .unb, .unb, .unb, .unb, .unb, .unb, .unb, .unb, .unb, .unb] (.assign 4 (.cmp .Lt (.bin .mod (.bin .fdiv (.var 2) (.const (.int 2))) (.const (.int 3))) (.const (.int 2)))) = .ok ([.val (.list (l.map V.int)), .val (.list ((l.take 12).map V.int)), .val (.int f), .val (.bool ha), .val (.bool hb), .unb, .unb, .unb, .unb, .unb, .unb, .unb, .unb, .unb, .unb, .unb], .next) := s_assign (v := .bool hb) (e_cmp (x := .int (f / 2 % 3)) (y := .int 2) (e_bin (x := .int (f / 2)) (y := .int 3) (e_bin (x := .int f) (y := .int 2) rfl rfl (bin_fdiv (by decide) (by decide))) rfl (bin_mod (by decide) (by decide))) rfl (by rw [cmp_lt, hhb])) rfl
  obtain ⟨X, hX, eX⟩ := law_values (n + 82) (f / 6)
  obtain ⟨Y, hY, eY⟩ := law_values (n + 81) (f / 6 / 5324)
  have h4 : exS FT (n + 144) [.val (.list (l.map V.int)), .val (.list ((l.take 12).map V.int)), .val (.int f), .val (.bool ha), .val (.bool hb), .unb, .unb, .unb, .unb, .unb, .unb, .unb, .unb, .unb, .unb, .unb] (.assign 5 (.call 33 [(.bin .fdiv (.var 2) (.const (.int 6)))])) = .ok ([.val (.list (l.map V.int)), .val (.list ((l.take 12).map V.int)), .val (.int f), .val (.bool ha), .val (.bool hb), .val (.list (X.map wv)), .unb, .unb, .unb, .unb, .unb, .unb, .unb, .unb, .unb, .unb], .next) := s_assign (v := .list (X.map wv)) (e_call (vs := [.int (f / 6)]) (es_cons (e_bin (x := .int f) (y := .int 6) rfl rfl (bin_fdiv (by decide) (by decide))) es_nil) eX) rfl
  have h5 : exS FT (n + 143) [.val (.list (l.map V.int)), .val (.list ((l.take 12).map V.int)), .val (.int f), .val (.bool ha), .val (.bool hb), .val (.list (X.map wv)), .unb, .unb, .unb, .unb, .unb, .unb, .unb, .unb, .unb, .unb] (.assign 6 (.call 33 [(.bin .fdiv (.bin .fdiv (.var 2) (.const (.int 6))) (.const (.int 5324)))])) = .ok ([.val (.list (l.map V.int)), .val (.list ((l.take 12).map V.int)), .val (.int f), .val (.bool ha), .val (.bool hb), .val (.list (X.map wv)), .val (.list (Y.map wv)), .unb, .unb, .unb, .unb, .unb, .unb, .unb, .unb, .unb], .next) := s_assign (v := .list (Y.map wv)) (e_call (vs := [.int (f / 6 / 5324)]) (es_cons (e_bin (x := .int (f / 6)) (y := .int 5324) (e_bin (x := .int f) (y := .int 6) rfl rfl (bin_fdiv (by decide) (by decide))) rfl (bin_fdiv (by decide) (by decide))) es_nil) eY) rfl
  have h6 : exS FT (n + 142) [.val (.list (l.map V.int)), .val (.list ((l.take 12).map V.int)), .val (.int f), .val (.bool ha), .val (.bool hb), .val (.list (X.map wv)), .val (.list (Y.map wv)), .unb, .unb, .unb, .unb, .unb, .unb, .unb, .unb, .unb] (.assign 7 (.lst [(.tup [(.const (.str (Str.ofString "id"))), (.lst [(.tup [(.glob (.int 0)), (.const (.str (Str.ofString "a test")))])])])])) = .ok ([.val (.list (l.map V.int)), .val (.list ((l.take 12).map V.int)), .val (.int f), .val (.bool ha), .val (.bool hb), .val (.list (X.map wv)), .val (.list (Y.map wv)), .val (.list op0), .unb, .unb, .unb, .unb, .unb, .unb, .unb, .unb], .next) := s_assign (v := .list op0) rfl rfl
  have h7 : exS FT (n + 141) [.val (.list (l.map V.int)), .val (.list ((l.take 12).map V.int)), .val (.int f), .val (.bool ha), .val (.bool hb), .val (.list (X.map wv)), .val (.list (Y.map wv)), .val (.list op0), .unb, .unb, .unb, .unb, .unb, .unb, .unb, .unb] (.ite (.var 3) [.assign 7 (.bin .add (.var 7) (.lst [(.tup [(.const (.str (Str.ofString "am"))), (.var 5)])]))] []) = .ok ([.val (.list (l.map V.int)), .val (.list ((l.take 12).map V.int)), .val (.int f), .val (.bool ha), .val (.bool hb), .val (.list (X.map wv)), .val (.list (Y.map wv)), .val (.list (op1 ha (X.map wv))), .unb, .unb, .unb, .unb, .unb, .unb, .unb, .unb], .next) := by
    cases ha with
    | true => exact s_iteT rfl (ss_next (s_assign (v := .list (op1 true (X.map wv))) (e_bin (x := .list op0) (y := .list [.tuple [.str "am", .list (X.map wv)]]) rfl rfl (bin_addL (by simp [op0]))) rfl) rfl)
    | false => exact s_iteF rfl rfl
  have h8 : exS FT (n + 140) [.val (.list (l.map V.int)), .val (.list ((l.take 12).map V.int)), .val (.int f), .val (.bool ha), .val (.bool hb), .val (.list (X.map wv)), .val (.list (Y.map wv)), .val (.list (op1 ha (X.map wv))), .unb, .unb, .unb, .unb, .unb, .unb, .unb, .unb] (.ite (.var 4) [.assign 7 (.bin .add (.lst [(.tup [(.const (.str (Str.ofString "bm"))), (.var 6)])]) (.var 7))] []) = .ok ([.val (.list (l.map V.int)), .val (.list ((l.take 12).map V.int)), .val (.int f), .val (.bool ha), .val (.bool hb), .val (.list (X.map wv)), .val (.list (Y.map wv)), .val (.list (opsV ha hb (X.map wv) (Y.map wv))), .unb, .unb, .unb, .unb, .unb, .unb, .unb, .unb], .next) := by
    cases hb with
    | true => exact s_iteT rfl (ss_next (s_assign (v := .list (opsV ha true (X.map wv) (Y.map wv))) (e_bin (x := .list [.tuple [.str "bm", .list (Y.map wv)]]) (y := .list (op1 ha (X.map wv))) rfl rfl (by rw [bin_addL (by cases ha <;> simp [op1, op0])]; cases ha <;> rfl)) rfl) rfl)
    | false => exact s_iteF rfl (by rw [ss_nil]; cases ha <;> rfl)
  obtain ⟨es, hes⟩ : ∃ es : List Q4, es = ((l.take 12).drop 2).map entOf := ⟨_, rfl⟩
  have hel : es.length ≤ 10 := by rw [hes]; simp; lia
  have hfit : ∀ e ∈ es, Fit e := fun e he => by rw [hes] at he; obtain ⟨x, _, rfl⟩ := List.mem_map.mp he; exact ent_fit x
  have h9 : exS FT (n + 139) [.val (.list (l.map V.int)), .val (.list ((l.take 12).map V.int)), .val (.int f), .val (.bool ha), .val (.bool hb), .val (.list (X.map wv)), .val (.list (Y.map wv)), .val (.list (opsV ha hb (X.map wv) (Y.map wv))), .unb, .unb, .unb, .unb, .unb, .unb, .unb, .unb] (.assignComp 8 (.comp (.tup [(.bin .mod (.var 0) (.const (.int 3))), (.idx (.idx (.call 32 []) (.bin .mod (.bin .fdiv (.var 0) (.const (.int 3))) (.const (.int 8)))) (.const (.int 1))), (.bin .mod (.bin .fdiv (.var 0) (.const (.int 24))) (.const (.int 40000))), (.bin .mod (.bin .fdiv (.var 0) (.const (.int 7))) (.const (.int 100)))]) (.slice (.var 1) (some (.const (.int 2))) .none) 1 false .none [])) = .ok ([.val (.list (l.map V.int)), .val (.list ((l.take 12).map V.int)), .val (.int f), .val (.bool ha), .val (.bool hb), .val (.list (X.map wv)), .val (.list (Y.map wv)), .val (.list (opsV ha hb (X.map wv) (Y.map wv))), .val (.list (es.map qv)), .unb, .unb, .unb, .unb, .unb, .unb, .unb], .next) := by
    refine s_assignComp (l := es.map qv) ((e_comp (l := ((l.take 12).drop 2).map V.int) (g := fun v => match v with | .int x => qv (entOf x) | _ => .none) (e_slice (x := .list ((l.take 12).map V.int)) (l := some (.int (2 : Nat))) rfl (o_some rfl) o_none (by rw [slice_from (a := 2) (by simp; lia) (by lia), List.map_drop])) (by simp; lia) fun v hv => ?_).trans ?_) ?_
    · obtain ⟨x, _, rfl⟩ := List.mem_map.mp hv
      exact ⟨_, rfl, ent_ok (n + 98) x, qv_flat _⟩
    · rw [hes, List.map_map, List.map_map]; rfl
    · rw [List.all_map, List.all_eq_true]; intro x _; exact qv_flat x
  obtain ⟨M, hM⟩ : ∃ M : List Q4, M = mrg es := ⟨_, rfl⟩
  have hml : M.length ≤ 10 := by rw [hM]; have := mrg_len es; lia
  have hmf : ∀ e ∈ M, Fit e := by rw [hM]; exact mrg_fit es hfit
  have e11 := merge_entries (n + 111) es (by lia)
  have e36 := law_merged (n + 99) es (by lia)
  rw [← hM] at e11 e36
  have h10 : exS FT (n + 138) [.val (.list (l.map V.int)), .val (.list ((l.take 12).map V.int)), .val (.int f), .val (.bool ha), .val (.bool hb), .val (.list (X.map wv)), .val (.list (Y.map wv)), .val (.list (opsV ha hb (X.map wv) (Y.map wv))), .val (.list (es.map qv)), .unb, .unb, .unb, .unb, .unb, .unb, .unb] (.assign 9 (.call 11 [(.var 8)])) = .ok ([.val (.list (l.map V.int)), .val (.list ((l.take 12).map V.int)), .val (.int f), .val (.bool ha), .val (.bool hb), .val (.list (X.map wv)), .val (.list (Y.map wv)), .val (.list (opsV ha hb (X.map wv) (Y.map wv))), .val (.list (es.map qv)), .val (.list (M.map qv)), .unb, .unb, .unb, .unb, .unb, .unb], .next) := s_assign (v := .list (M.map qv)) (e_call (vs := [.list (es.map qv)]) rfl e11) rfl
  have h11 : exS FT (n + 137) [.val (.list (l.map V.int)), .val (.list ((l.take 12).map V.int)), .val (.int f), .val (.bool ha), .val (.bool hb), .val (.list (X.map wv)), .val (.list (Y.map wv)), .val (.list (opsV ha hb (X.map wv) (Y.map wv))), .val (.list (es.map qv)), .val (.list (M.map qv)), .unb, .unb, .unb, .unb, .unb, .unb] (.ite (.cmp .NotEq (.var 9) (.call 36 [(.var 8)])) [.ret (.const (.bool false))] []) = .ok ([.val (.list (l.map V.int)), .val (.list ((l.take 12).map V.int)), .val (.int f), .val (.bool ha), .val (.bool hb), .val (.list (X.map wv)), .val (.list (Y.map wv)), .val (.list (opsV ha hb (X.map wv) (Y.map wv))), .val (.list (es.map qv)), .val (.list (M.map qv)), .unb, .unb, .unb, .unb, .unb, .unb], .next) := s_iteF (t_cmp (x := .list (M.map qv)) (y := .list (M.map qv)) rfl (e_call (vs := [.list (es.map qv)]) rfl e36) (ne_qv M)) rfl
  obtain ⟨idx, hord, e12⟩ := make_book (n + 64) M (by lia) hmf
  have hil : idx.length = M.length := by simpa using hord.perm.length_eq
  have hbl : (bookOf' M idx).length ≤ 160 := by rw [book_len]; lia
  have h12 : exS FT (n + 136) [.val (.list (l.map V.int)), .val (.list ((l.take 12).map V.int)), .val (.int f), .val (.bool ha), .val (.bool hb), .val (.list (X.map wv)), .val (.list (Y.map wv)), .val (.list (opsV ha hb (X.map wv) (Y.map wv))), .val (.list (es.map qv)), .val (.list (M.map qv)), .unb, .unb, .unb, .unb, .unb, .unb] (.assign 10 (.call 12 [(.var 9)])) = .ok ([.val (.list (l.map V.int)), .val (.list ((l.take 12).map V.int)), .val (.int f), .val (.bool ha), .val (.bool hb), .val (.list (X.map wv)), .val (.list (Y.map wv)), .val (.list (opsV ha hb (X.map wv) (Y.map wv))), .val (.list (es.map qv)), .val (.list (M.map qv)), .val (.bytes (bookOf' M idx)), .unb, .unb, .unb, .unb, .unb], .next) := s_assign (v := .bytes (bookOf' M idx)) (e_call (vs := [.list (M.map qv)]) rfl e12) rfl
  have f_bend : ∃ N : Int, evE FT (n + 132) [.val (.list (l.map V.int)), .val (.list ((l.take 12).map V.int)), .val (.int f), .val (.bool ha), .val (.bool hb), .val (.list (X.map wv)), .val (.list (Y.map wv)), .val (.list (opsV ha hb (X.map wv) (Y.map wv))), .val (.list (es.map qv)), .val (.list (M.map qv)), .val (.bytes (bookOf' M idx)), .unb, .unb, .unb, .unb, .unb] (.ite (.cmp .Gt (.len (.var 1)) (.const (.int 1))) (.idx (.var 1) (.const (.int 1))) (.const (.int 0))) = .ok (.int N) := by
    have hlen : lenV (.list ((l.take 12).map V.int)) = some (.int (l.take 12).length) := by rw [len_list (by simp; lia), List.length_map]
    by_cases q : 1 < (l.take 12).length
    · exact ⟨(l.take 12)[1], e_ite (t := true) (t_cmp (x := .int (l.take 12).length) (y := .int 1) (e_len rfl hlen) rfl (by rw [cmp_gt, decide_eq_true (by lia)])) (by rw [if_pos rfl]; exact e_idx (x := .list ((l.take 12).map V.int)) (y := .int 1) rfl rfl (idx_list (by decide) (by simp; lia) (by rw [List.getElem?_map, show (1 : Int).toNat = 1 from rfl, List.getElem?_eq_getElem q]; rfl)))⟩
    · exact ⟨0, e_ite (t := false) (t_cmp (x := .int (l.take 12).length) (y := .int 1) (e_len rfl hlen) rfl (by rw [cmp_gt, decide_eq_false (by lia)])) rfl⟩
  obtain ⟨N, hN⟩ := f_bend
  obtain ⟨bs, hbs, e38⟩ := law_bend (n + 93) (bookOf' M idx) N (by lia)
  have h13 : exS FT (n + 135) [.val (.list (l.map V.int)), .val (.list ((l.take 12).map V.int)), .val (.int f), .val (.bool ha), .val (.bool hb), .val (.list (X.map wv)), .val (.list (Y.map wv)), .val (.list (opsV ha hb (X.map wv) (Y.map wv))), .val (.list (es.map qv)), .val (.list (M.map qv)), .val (.bytes (bookOf' M idx)), .unb, .unb, .unb, .unb, .unb] (.assign 11 (.call 38 [(.toList (.var 10)), (.ite (.cmp .Gt (.len (.var 1)) (.const (.int 1))) (.idx (.var 1) (.const (.int 1))) (.const (.int 0)))])) = .ok ([.val (.list (l.map V.int)), .val (.list ((l.take 12).map V.int)), .val (.int f), .val (.bool ha), .val (.bool hb), .val (.list (X.map wv)), .val (.list (Y.map wv)), .val (.list (opsV ha hb (X.map wv) (Y.map wv))), .val (.list (es.map qv)), .val (.list (M.map qv)), .val (.bytes (bookOf' M idx)), .val (.list (bs.map bi)), .unb, .unb, .unb, .unb], .next) := s_assign (v := .list (bs.map bi)) (e_call (vs := [.list ((bookOf' M idx).map bi), .int N]) (es_cons (e_toList (x := .bytes (bookOf' M idx)) rfl (toList_bi _ (by lia))) (es_cons hN es_nil)) e38) rfl
  have h14 : exS FT (n + 134) [.val (.list (l.map V.int)), .val (.list ((l.take 12).map V.int)), .val (.int f), .val (.bool ha), .val (.bool hb), .val (.list (X.map wv)), .val (.list (Y.map wv)), .val (.list (opsV ha hb (X.map wv) (Y.map wv))), .val (.list (es.map qv)), .val (.list (M.map qv)), .val (.bytes (bookOf' M idx)), .val (.list (bs.map bi)), .unb, .unb, .unb, .unb] (.assign 12 (.neg (.const (.int 1)))) = .ok ([.val (.list (l.map V.int)), .val (.list ((l.take 12).map V.int)), .val (.int f), .val (.bool ha), .val (.bool hb), .val (.list (X.map wv)), .val (.list (Y.map wv)), .val (.list (opsV ha hb (X.map wv) (Y.map wv))), .val (.list (es.map qv)), .val (.list (M.map qv)), .val (.bytes (bookOf' M idx)), .val (.list (bs.map bi)), .val (.int (-1)), .unb, .unb, .unb], .next) := s_assign (v := .int (-1)) rfl rfl
  have e16 := check_book (n + 81) (bs := bs) hbs
  have c16 : evE FT (n + 132) [.val (.list (l.map V.int)), .val (.list ((l.take 12).map V.int)), .val (.int f), .val (.bool ha), .val (.bool hb), .val (.list (X.map wv)), .val (.list (Y.map wv)), .val (.list (opsV ha hb (X.map wv) (Y.map wv))), .val (.list (es.map qv)), .val (.list (M.map qv)), .val (.bytes (bookOf' M idx)), .val (.list (bs.map bi)), .val (.int (-1)), .unb, .unb, .unb] (.call 16 [(.toBytes (.var 11))]) = if blame bs = -1 then .ok .none else .exc (.book (blame bs)) := e_call (vs := [.bytes bs]) (es_cons (e_toBytes (x := .list (bs.map bi)) rfl (toBytes_bi bs (by lia))) es_nil) e16
  have h15 : exS FT (n + 133) [.val (.list (l.map V.int)), .val (.list ((l.take 12).map V.int)), .val (.int f), .val (.bool ha), .val (.bool hb), .val (.list (X.map wv)), .val (.list (Y.map wv)), .val (.list (opsV ha hb (X.map wv) (Y.map wv))), .val (.list (es.map qv)), .val (.list (M.map qv)), .val (.bytes (bookOf' M idx)), .val (.list (bs.map bi)), .val (.int (-1)), .unb, .unb, .unb] (.tryBook (.call 16 [(.toBytes (.var 11))]) 12) = .ok ([.val (.list (l.map V.int)), .val (.list ((l.take 12).map V.int)), .val (.int f), .val (.bool ha), .val (.bool hb), .val (.list (X.map wv)), .val (.list (Y.map wv)), .val (.list (opsV ha hb (X.map wv) (Y.map wv))), .val (.list (es.map qv)), .val (.list (M.map qv)), .val (.bytes (bookOf' M idx)), .val (.list (bs.map bi)), .val (.int (blame bs)), .unb, .unb, .unb], .next) := by
    show (match evE FT (n + 132) _ _ with | .ok .none => _ | .exc (.book a) => _ | _ => R.stuck) = _
    rw [c16]
    by_cases q : blame bs = -1
    · rw [if_pos q, q]
    · rw [if_neg q]; rfl
  have e37 := law_blame (n + 90) (bs := bs) hbs
  have h16 : exS FT (n + 132) [.val (.list (l.map V.int)), .val (.list ((l.take 12).map V.int)), .val (.int f), .val (.bool ha), .val (.bool hb), .val (.list (X.map wv)), .val (.list (Y.map wv)), .val (.list (opsV ha hb (X.map wv) (Y.map wv))), .val (.list (es.map qv)), .val (.list (M.map qv)), .val (.bytes (bookOf' M idx)), .val (.list (bs.map bi)), .val (.int (blame bs)), .unb, .unb, .unb] (.ite (.cmp .NotEq (.var 12) (.call 37 [(.var 11)])) [.ret (.const (.bool false))] []) = .ok ([.val (.list (l.map V.int)), .val (.list ((l.take 12).map V.int)), .val (.int f), .val (.bool ha), .val (.bool hb), .val (.list (X.map wv)), .val (.list (Y.map wv)), .val (.list (opsV ha hb (X.map wv) (Y.map wv))), .val (.list (es.map qv)), .val (.list (M.map qv)), .val (.bytes (bookOf' M idx)), .val (.list (bs.map bi)), .val (.int (blame bs)), .unb, .unb, .unb], .next) := s_iteF (t_cmp (x := .int (blame bs)) (y := .int (blame bs)) rfl (e_call (vs := [.list (bs.map bi)]) rfl e37) (ne_int _)) rfl
  obtain ⟨m0, hm0⟩ : ∃ m0 : Int, m0 = nmv (f / 7 % 8).toNat := ⟨_, rfl⟩
  have e17 := best_entry (n + 112) (M.map tri)
  have hcomp : evE FT (n + 127) [.val (.list (l.map V.int)), .val (.list ((l.take 12).map V.int)), .val (.int f), .val (.bool ha), .val (.bool hb), .val (.list (X.map wv)), .val (.list (Y.map wv)), .val (.list (opsV ha hb (X.map wv) (Y.map wv))), .val (.list (es.map qv)), .val (.list (M.map qv)), .val (.bytes (bookOf' M idx)), .val (.list (bs.map bi)), .val (.int (blame bs)), .unb, .unb, .unb] (.comp (.slice (.var 0) (some (.const (.int 1))) .none) (.var 9) 1 false .none []) = .ok (.list ((M.map tri).map tv)) := by
    refine (e_comp (l := M.map qv) (g := fun v => match v with | .tuple (_ :: r) => .tuple r | _ => .none) rfl (by simp; lia) fun v hv => ?_).trans ?_
    · obtain ⟨e, _, rfl⟩ := List.mem_map.mp hv
      exact ⟨_, rfl, rfl, tv_flat (tri e)⟩
    · rw [List.map_map, List.map_map]; rfl
  have h17 : exS FT (n + 131) [.val (.list (l.map V.int)), .val (.list ((l.take 12).map V.int)), .val (.int f), .val (.bool ha), .val (.bool hb), .val (.list (X.map wv)), .val (.list (Y.map wv)), .val (.list (opsV ha hb (X.map wv) (Y.map wv))), .val (.list (es.map qv)), .val (.list (M.map qv)), .val (.bytes (bookOf' M idx)), .val (.list (bs.map bi)), .val (.int (blame bs)), .unb, .unb, .unb] (.assignOwn 13 [(.idx (.idx (.call 32 []) (.bin .mod (.bin .fdiv (.var 2) (.const (.int 7))) (.const (.int 8)))) (.const (.int 1))), (.call 17 [(.comp (.slice (.var 0) (some (.const (.int 1))) .none) (.var 9) 1 false .none [])])]) = .ok ([.val (.list (l.map V.int)), .val (.list ((l.take 12).map V.int)), .val (.int f), .val (.bool ha), .val (.bool hb), .val (.list (X.map wv)), .val (.list (Y.map wv)), .val (.list (opsV ha hb (X.map wv) (Y.map wv))), .val (.list (es.map qv)), .val (.list (M.map qv)), .val (.bytes (bookOf' M idx)), .val (.list (bs.map bi)), .val (.int (blame bs)), .own [.int m0, .int (best3 (M.map tri))], .unb, .unb], .next) := s_assignOwn (l := [.int m0, .int (best3 (M.map tri))]) (es_cons (by rw [hm0]; exact e_move (q := n + 97) (x := f / 7) (e_bin (x := .int (f / 7)) (y := .int 8) (e_bin (x := .int f) (y := .int 7) rfl rfl (bin_fdiv (by decide) (by decide))) rfl (bin_mod (by decide) (by decide)))) (es_cons (e_call (vs := [.list ((M.map tri).map tv)]) (es_cons hcomp es_nil) e17) es_nil)) rfl (by simp)
  have e39 := law_best (n + 102) M (by lia)
  have h18 : exS FT (n + 130) [.val (.list (l.map V.int)), .val (.list ((l.take 12).map V.int)), .val (.int f), .val (.bool ha), .val (.bool hb), .val (.list (X.map wv)), .val (.list (Y.map wv)), .val (.list (opsV ha hb (X.map wv) (Y.map wv))), .val (.list (es.map qv)), .val (.list (M.map qv)), .val (.bytes (bookOf' M idx)), .val (.list (bs.map bi)), .val (.int (blame bs)), .own [.int m0, .int (best3 (M.map tri))], .unb, .unb] (.ite (.cmp .NotEq (.idx (.var 13) (.const (.int 1))) (.call 39 [(.var 9)])) [.ret (.const (.bool false))] []) = .ok ([.val (.list (l.map V.int)), .val (.list ((l.take 12).map V.int)), .val (.int f), .val (.bool ha), .val (.bool hb), .val (.list (X.map wv)), .val (.list (Y.map wv)), .val (.list (opsV ha hb (X.map wv) (Y.map wv))), .val (.list (es.map qv)), .val (.list (M.map qv)), .val (.bytes (bookOf' M idx)), .val (.list (bs.map bi)), .val (.int (blame bs)), .own [.int m0, .int (best3 (M.map tri))], .unb, .unb], .next) := s_iteF (t_cmp (x := .int (best3 (M.map tri))) (y := .int (lbest M)) (e_idx (x := .list [.int m0, .int (best3 (M.map tri))]) (y := .int 1) rfl rfl rfl) (e_call (vs := [.list (M.map qv)]) rfl e39) (by rw [best_eq M hmf]; exact ne_int _)) rfl
  obtain ⟨a0, a1, a2, s14, h19⟩ := key_loop n l f ha hb X Y M idx es bs (opsV ha hb (X.map wv) (Y.map wv)) [.int m0, .int (best3 (M.map tri))] hml hmf hord rfl
  obtain ⟨σ20, h20⟩ := move_loop n l f ha hb X Y hX hY M idx es bs s14 [m0, best3 (M.map tri), a0, a1, a2]
  exact c_ret rfl (ss_next h0 (ss_next h1 (ss_next h2 (ss_next h3 (ss_next h4 (ss_next h5 (ss_next h6 (ss_next h7 (ss_next h8 (ss_next h9 (ss_next h10 (ss_next h11 (ss_next h12 (ss_next h13 (ss_next h14 (ss_next h15 (ss_next h16 (ss_next h17 (ss_next h18 (ss_next h19 (ss_next h20 (ss_ret (s_ret rfl)))))))))))))))))))))))
end Mine.Q
end

/-! text M4 -/
section
set_option bootstrap.genMatcherCode false
open PySem PySem.Calls PyProof.Rows PySem.W
namespace Mine

mutual
inductive Rep (P : Addr → Prop) (h : Heap) : Value → V → Prop
  | none : Rep P h .none .none
  | bool (b : Bool) : Rep P h (.bool b) (.bool b)
  | int (i : Int) (t : Tok) : Rep P h (.int i t) (.int i)
  | str (x : Str) (t : Tok) : Rep P h (.str x t) (.str x)
  | bytes (b : List UInt8) (t : Tok) : Rep P h (.bytes b.toArray t) (.bytes b)
  | tuple {a : Addr} {vs : List Value} {ds : List V} : IsTup h a vs.toArray → RepL P h vs ds → Rep P h (.ref a) (.tuple ds)
  | list {a : Addr} {vs : List Value} {ds : List V} : P a → h.IsList a vs.toArray → RepL P h vs ds → Rep P h (.ref a) (.list ds)
inductive RepL (P : Addr → Prop) (h : Heap) : List Value → List V → Prop
  | nil : RepL P h [] []
  | cons {v : Value} {vs : List Value} {d : V} {ds : List V} : Rep P h v d → RepL P h vs ds → RepL P h (v :: vs) (d :: ds)
end

noncomputable abbrev Tr : Addr → Prop := fun _ => True
noncomputable abbrev No : Addr → Prop := fun _ => False

/-- what stands stays; of a frame (a dict in FR) its names stay; X may change -/
structure Keep (FR : List Addr) (X : Addr → Prop) (h h' : Heap) : Prop where
  there : ∀ b o, h.get? b = some o → ∃ o', h'.get? b = some o'
  exact : ∀ b o, h.get? b = some o → ¬ X b → (b ∈ FR → ∀ es ep, o.data ≠ .dict es ep) → h'.get? b = some o
  names : ∀ b m, b ∈ FR → ¬ X b → h.Ns b m → h'.Ns b m

namespace Keep
variable {FR FR' : List Addr} {X Y : Addr → Prop} {h h' h'' : Heap}
theorem refl (FR X) (h : Heap) : Keep FR X h h := ⟨fun _ o e => ⟨o, e⟩, fun _ _ e _ _ => e, fun _ _ _ _ e => e⟩
theorem trans (a : Keep FR X h h') (b : Keep FR X h' h'') : Keep FR X h h'' :=
  ⟨fun c o e => let ⟨_, e₁⟩ := a.there c o e; b.there c _ e₁, fun c o e n m => b.exact c o (a.exact c o e n m) n m, fun c m i n e => b.names c m i n (a.names c m i n e)⟩
theorem of_keeps (k : ∀ b o, h.get? b = some o → h'.get? b = some o) : Keep FR X h h' := ⟨fun b o e => ⟨o, k b o e⟩, fun b o e _ _ => k b o e, fun _ _ _ _ e => e.keeps k⟩
theorem push (h : Heap) (o : Obj) : Keep FR X h (h.push o) := of_keeps fun _ _ e => Heap.get?_push_of_some _ e
theorem mono (a : Keep FR X h h') (hx : ∀ b, X b → Y b) : Keep FR Y h h' := ⟨a.there, fun b o e n => a.exact b o e fun q => n (hx b q), fun b m i n => a.names b m i fun q => n (hx b q)⟩
theorem ns {a : Addr} {m : Str → Option Value} (k : Keep FR X h h') (x : h.Ns a m) (n : ¬ X a) : h'.Ns a m := by
  by_cases q : a ∈ FR
  · exact k.names a m q n x
  · obtain ⟨o, es, ep, ho, r⟩ := x
    exact ⟨o, es, ep, k.exact a o ho n (fun z => absurd z q), r⟩
/-- fewer frames: what is a frame of the more but no frame of the fewer was not there -/
theorem sub (a : Keep FR' X h h') (hs : ∀ b o, h.get? b = some o → b ∈ FR' → b ∈ FR) : Keep FR X h h' :=
  ⟨a.there, fun b o e n m => a.exact b o e n fun q => m (hs b o e q), fun _ _ _ n e => a.ns e n⟩
theorem sameBut {a : Addr} (x : Heap.SameBut a h h') (hx : X a) (ha : (∃ o, h.get? a = some o) → ∃ o', h'.get? a = some o') : Keep FR X h h' :=
  ⟨fun b o e => by
    by_cases q : b = a
    · subst q; exact ha ⟨o, e⟩
    · exact ⟨o, (x.2 b q).trans e⟩,
   fun b _ e n _ => (x.2 b fun q => n (q ▸ hx)).trans e, fun _ _ _ n e => e.sameBut x fun q => n (q ▸ hx)⟩
theorem none (a : Keep FR X h h') {b : Addr} (e : h'.get? b = .none) : h.get? b = .none := by
  cases q : h.get? b with
  | none => rfl
  | some o =>
    obtain ⟨o', k⟩ := a.there b o q
    rw [e] at k; cases k
theorem isList {a : Addr} {vs : Array Value} (k : Keep FR X h h') (x : h.IsList a vs) (n : ¬ X a) : h'.IsList a vs := by
  obtain ⟨o, ho, hc, m, hd⟩ := x
  exact ⟨o, k.exact a o ho n fun _ es ep q => (by rw [hd] at q; cases q), hc, m, hd⟩
theorem isTup {a : Addr} {vs : Array Value} (k : Keep FR X h h') (x : IsTup h a vs) (n : ¬ X a) : IsTup h' a vs := by
  obtain ⟨o, ho, hc, m, hd⟩ := x
  exact ⟨o, k.exact a o ho n fun _ es ep q => (by rw [hd] at q; cases q), hc, m, hd⟩
theorem isCell {a : Addr} {v : Option Value} (k : Keep FR X h h') (x : h.IsCell a v) (n : ¬ X a) : h'.IsCell a v := by
  obtain ⟨o, ho, hd⟩ := x
  exact ⟨o, k.exact a o ho n fun _ es ep q => (by rw [hd] at q; cases q), hd⟩
end Keep

/-! the library's rules that speak of a frame and a ledger serve any heap: an empty base, all objects on the ledger -/
noncomputable def e0 : Heap := {}
theorem e0_none (b : Addr) : e0.get? b = .none := Heap.get?_none_of_le (Nat.zero_le _)
noncomputable def allBut (L : Addr) (h : Heap) : List (Addr × Obj) := (List.range h.objs.size).filterMap fun b => if b = L then .none else (h.get? b).map (b, ·)
theorem mem_allBut {L b : Addr} {h : Heap} {o : Obj} (e : h.get? b = some o) (n : b ≠ L) : (b, o) ∈ allBut L h :=
  List.mem_filterMap.mpr ⟨b, List.mem_range.mpr (Heap.lt_size e), by rw [if_neg n, e]; rfl⟩
theorem frOf {L : Addr} {h : Heap} {m : Str → Option Value} (n : h.Ns L m) : Fr e0 L h m := ⟨n, fun b o e => (by rw [e0_none] at e; cases e), Nat.zero_le _⟩
theorem newsOf (L : Addr) (h : Heap) : News e0 L h (allBut L h) := by
  intro p hp
  obtain ⟨b, _, e⟩ := List.mem_filterMap.mp hp
  by_cases q : b = L
  · rw [if_pos q] at e; cases e
  · rw [if_neg q] at e
    cases z : h.get? b with
    | none => rw [z] at e; cases e
    | some o =>
      rw [z] at e
      cases e
      exact ⟨z, q, e0_none _⟩
theorem keepOf {FR : List Addr} {L : Addr} {h h' : Heap} {m : Str → Option Value} {news : List (Addr × Obj)} (n : h.Ns L m) (hL : L ∈ FR) (F : Fr e0 L h' m) (N : News e0 L h' news) (hs : ∀ p ∈ allBut L h, p ∈ news) : Keep FR No h h' := by
  have k : ∀ b o, h.get? b = some o → b ≠ L → h'.get? b = some o := fun b o e q => (N _ (hs _ (mem_allBut e q))).1
  refine ⟨fun b o e => ?_, fun b o e _ hd => ?_, fun b m' _ _ e => ?_⟩
  · by_cases q : b = L
    · subst q
      obtain ⟨o', _, _, e', _⟩ := F.ns
      exact ⟨o', e'⟩
    · exact ⟨o, k b o e q⟩
  · refine k b o e fun q => ?_
    subst q
    obtain ⟨o', es, ep, e', d, _⟩ := n
    rw [e] at e'
    cases e'
    exact hd hL es ep d
  · by_cases q : b = L
    · subst q
      have : m' = m := by
        funext x
        obtain ⟨o1, es1, ep1, e1, d1, _, f1⟩ := e
        obtain ⟨o2, es2, ep2, e2, d2, _, f2⟩ := n
        rw [e1] at e2
        cases e2
        rw [d1] at d2
        cases d2
        rw [← f1, ← f2]
      rw [this]
      exact F.ns
    · obtain ⟨o, es, ep, ho, r⟩ := e
      exact ⟨o, es, ep, k b o ho q, r⟩

theorem Rep.sub {P P' : Addr → Prop} {h h' : Heap} (ht : ∀ a its, IsTup h a its → IsTup h' a its) (hl : ∀ a its, P a → h.IsList a its → h'.IsList a its ∧ P' a) {v : Value} {d : V} (r : Rep P h v d) : Rep P' h' v d :=
  Rep.rec (motive_1 := fun v d _ => Rep P' h' v d) (motive_2 := fun vs ds _ => RepL P' h' vs ds) .none .bool .int .str .bytes (fun x _ ih => .tuple (ht _ _ x) ih) (fun p x _ ih => .list (hl _ _ p x).2 (hl _ _ p x).1 ih) .nil (fun _ _ a b => .cons a b) r
theorem RepL.sub {P P' : Addr → Prop} {h h' : Heap} (ht : ∀ a its, IsTup h a its → IsTup h' a its) (hl : ∀ a its, P a → h.IsList a its → h'.IsList a its ∧ P' a) {vs : List Value} {ds : List V} (r : RepL P h vs ds) : RepL P' h' vs ds :=
  RepL.rec (motive_1 := fun v d _ => Rep P' h' v d) (motive_2 := fun vs ds _ => RepL P' h' vs ds) .none .bool .int .str .bytes (fun x _ ih => .tuple (ht _ _ x) ih) (fun p x _ ih => .list (hl _ _ p x).2 (hl _ _ p x).1 ih) .nil (fun _ _ a b => .cons a b) r
theorem obj_inj {h : Heap} {a : Addr} {o o' : Obj} (e : h.get? a = some o) (e' : h.get? a = some o') : o = o' := Option.some.inj (e.symm.trans e')
theorem data_inj {h : Heap} {a : Addr} {o o' : Obj} {d d' : Data} (e : h.get? a = some o) (hd : o.data = d) (e' : h.get? a = some o') (hd' : o'.data = d') : d = d' := by rw [← hd, ← hd', obj_inj e e']

/-- a tuple's address is not one that changes: X holds no tuple -/
noncomputable def NoTup (X : Addr → Prop) (h : Heap) : Prop := ∀ a vs, X a → ¬ IsTup h a vs

theorem Rep.mono {P Q : Addr → Prop} {h : Heap} (hq : ∀ a o, h.get? a = some o → P a → Q a) {v : Value} {d : V} (r : Rep P h v d) : Rep Q h v d := r.sub (fun _ _ x => x) fun _ _ p x => ⟨x, Exists.elim x fun o ho => hq _ o ho.1 p⟩
theorem RepL.mono {P Q : Addr → Prop} {h : Heap} (hq : ∀ a o, h.get? a = some o → P a → Q a) {vs : List Value} {ds : List V} (r : RepL P h vs ds) : RepL Q h vs ds := r.sub (fun _ _ x => x) fun _ _ p x => ⟨x, Exists.elim x fun o ho => hq _ o ho.1 p⟩
theorem Rep.keep {P : Addr → Prop} {FR : List Addr} {X : Addr → Prop} {h h' : Heap} (k : Keep FR X h h') (nt : NoTup X h) (hp : ∀ a, P a → ¬ X a) {v : Value} {d : V} (r : Rep P h v d) : Rep P h' v d := r.sub (fun _ _ x => k.isTup x fun q => nt _ _ q x) fun _ _ p x => ⟨k.isList x (hp _ p), p⟩
theorem RepL.keep {P : Addr → Prop} {FR : List Addr} {X : Addr → Prop} {h h' : Heap} (k : Keep FR X h h') (nt : NoTup X h) (hp : ∀ a, P a → ¬ X a) {vs : List Value} {ds : List V} (r : RepL P h vs ds) : RepL P h' vs ds := r.sub (fun _ _ x => k.isTup x fun q => nt _ _ q x) fun _ _ p x => ⟨k.isList x (hp _ p), p⟩
theorem noTup_no (h : Heap) : NoTup No h := fun _ _ q => q.elim
theorem Rep.step {P : Addr → Prop} {FR : List Addr} {h h' : Heap} (k : Keep FR No h h') {v : Value} {d : V} (r : Rep P h v d) : Rep P h' v d := r.keep k (noTup_no h) fun _ _ q => q
theorem RepL.step {P : Addr → Prop} {FR : List Addr} {h h' : Heap} (k : Keep FR No h h') {vs : List Value} {ds : List V} (r : RepL P h vs ds) : RepL P h' vs ds := r.keep k (noTup_no h) fun _ _ q => q
theorem Rep.tr {P : Addr → Prop} {h : Heap} {v : Value} {d : V} (r : Rep P h v d) : Rep Tr h v d := r.mono fun _ _ _ _ => trivial
theorem RepL.tr {P : Addr → Prop} {h : Heap} {vs : List Value} {ds : List V} (r : RepL P h vs ds) : RepL Tr h vs ds := r.mono fun _ _ _ _ => trivial
theorem RepL.ind {P : Addr → Prop} {h : Heap} {C : List Value → List V → Prop} (nil : C [] []) (cons : ∀ {v : Value} {vs : List Value} {d : V} {ds : List V}, Rep P h v d → RepL P h vs ds → C vs ds → C (v :: vs) (d :: ds)) {vs : List Value} {ds : List V} (r : RepL P h vs ds) : C vs ds :=
  RepL.rec (motive_1 := fun _ _ _ => True) (motive_2 := fun vs ds _ => C vs ds) trivial (fun _ => trivial) (fun _ _ => trivial) (fun _ _ => trivial) (fun _ _ => trivial) (fun _ _ _ => trivial) (fun _ _ _ _ => trivial) nil (fun x r _ ih => cons x r ih) r
theorem RepL.length {P : Addr → Prop} {h : Heap} {vs : List Value} {ds : List V} (r : RepL P h vs ds) : vs.length = ds.length :=
  r.ind (C := fun vs ds => vs.length = ds.length) rfl fun _ _ ih => congrArg (· + 1) ih
theorem RepL.get {P : Addr → Prop} {h : Heap} {vs : List Value} {ds : List V} (r : RepL P h vs ds) : ∀ (i : Nat) (d : V), ds[i]? = some d → ∃ v, vs[i]? = some v ∧ Rep P h v d :=
  r.ind (C := fun vs ds => ∀ (i : Nat) (d : V), ds[i]? = some d → ∃ v, vs[i]? = some v ∧ Rep P h v d) (fun _ _ e => nomatch e) fun x _ ih i d e => match i, e with
    | 0, e => ⟨_, rfl, Option.some.inj e ▸ x⟩
    | i + 1, e => ih i d e
theorem RepL.append {P : Addr → Prop} {h : Heap} {vs us : List Value} {ds es : List V} (r : RepL P h vs ds) (k : RepL P h us es) : RepL P h (vs ++ us) (ds ++ es) :=
  r.ind (C := fun vs ds => RepL P h (vs ++ us) (ds ++ es)) k fun x _ ih => .cons x ih
theorem RepL.drop {P : Addr → Prop} {h : Heap} {vs : List Value} {ds : List V} (n : Nat) (r : RepL P h vs ds) : RepL P h (vs.drop n) (ds.drop n) :=
  r.ind (C := fun vs ds => ∀ n, RepL P h (vs.drop n) (ds.drop n)) (fun n => by rw [List.drop_nil, List.drop_nil]; exact .nil) (fun x r ih n => by
    cases n with
    | zero => exact .cons x r
    | succ n => exact ih n) n
theorem RepL.take {P : Addr → Prop} {h : Heap} {vs : List Value} {ds : List V} (n : Nat) (r : RepL P h vs ds) : RepL P h (vs.take n) (ds.take n) :=
  r.ind (C := fun vs ds => ∀ n, RepL P h (vs.take n) (ds.take n)) (fun n => by rw [List.take_nil, List.take_nil]; exact .nil) (fun x _ ih n => by
    cases n with
    | zero => exact .nil
    | succ n => exact .cons x (ih n)) n
theorem RepL.set {P : Addr → Prop} {h : Heap} {vs : List Value} {ds : List V} (n : Nat) {v : Value} {d : V} (r : RepL P h vs ds) (y : Rep P h v d) : RepL P h (vs.set n v) (ds.set n d) :=
  r.ind (C := fun vs ds => ∀ n, RepL P h (vs.set n v) (ds.set n d)) (fun _ => .nil) (fun x r ih n => by
    cases n with
    | zero => exact .cons y r
    | succ n => exact .cons x (ih n)) n

theorem V.flat_tup {n : Nat} {l : List V} (h : V.flat n (.tuple l) = true) : ∃ m, ∀ d ∈ l, V.flat m d = true := by
  cases n with
  | zero => cases h
  | succ n => exact ⟨n, List.all_eq_true.mp h⟩
theorem V.flat_list {n : Nat} {l : List V} (h : V.flat n (.list l) = true) : False := by cases n <;> cases h
theorem Rep.flat {P Q : Addr → Prop} {h : Heap} (n : Nat) {v : Value} {d : V} (r : Rep P h v d) : d.flat n = true → Rep Q h v d :=
  Rep.rec (motive_1 := fun v d _ => ∀ n, d.flat n = true → Rep Q h v d) (motive_2 := fun vs ds _ => ∀ n, (∀ d ∈ ds, V.flat n d = true) → RepL Q h vs ds)
    (fun _ _ => .none) (fun b _ _ => .bool b) (fun i t _ _ => .int i t) (fun x t _ _ => .str x t) (fun x t _ _ => .bytes x t)
    (fun x _ ih _ e => let ⟨m, e⟩ := V.flat_tup e; .tuple x (ih m e)) (fun _ _ _ _ _ e => (V.flat_list e).elim)
    (fun _ _ => .nil) (fun _ _ a b n e => .cons (a n (e _ (.head _))) (b n fun d hd => e d (.tail _ hd))) r n
theorem RepL.flat {P Q : Addr → Prop} {h : Heap} {n : Nat} {vs : List Value} {ds : List V} (r : RepL P h vs ds) (hf : ds.all (V.flat n) = true) : RepL Q h vs ds :=
  r.ind (C := fun vs ds => (∀ d ∈ ds, V.flat n d = true) → RepL Q h vs ds) (fun _ => .nil) (fun x _ ih e => .cons (x.flat n (e _ (.head _))) (ih fun d hd => e d (.tail _ hd))) (List.all_eq_true.mp hf)

theorem RepL.un {P : Addr → Prop} {h : Heap} {vs : List Value} {d : V} {ds : List V} (r : RepL P h vs (d :: ds)) : ∃ v ws, vs = v :: ws ∧ Rep P h v d ∧ RepL P h ws ds := by
  cases r with
  | cons x r => exact ⟨_, _, rfl, x, r⟩
theorem RepL.un0 {P : Addr → Prop} {h : Heap} {vs : List Value} (r : RepL P h vs []) : vs = [] := by cases r; rfl
theorem V.asInt_eq {y : V} {j : Int} (e : y.asInt = some j) : y = .int j := by cases y <;> first | (cases e; done) | (cases e; rfl)
theorem int2_inv {α : Type} {f : Int → Int → Option α} {x y : V} {r : α} (e : int2 f x y = some r) : ∃ i j, x = .int i ∧ y = .int j ∧ f i j = some r :=
  let ⟨i, e1, e⟩ := Option.bind_eq_some_iff.mp e
  let ⟨j, e2, e⟩ := Option.bind_eq_some_iff.mp e
  ⟨i, j, V.asInt_eq e1, V.asInt_eq e2, e⟩

/-! what a value is, told from what it stands for -/
theorem Rep.asInt {P : Addr → Prop} {h : Heap} {b : Value} {y : V} {j : Int} (r : Rep P h b y) (e : y.asInt = some j) : ∃ t, b = .int j t := by
  cases r <;> first | (cases e; done) | (cases e; exact ⟨_, rfl⟩)
theorem Rep.asStr {P : Addr → Prop} {h : Heap} {b : Value} {y : V} {j : Str} (r : Rep P h b y) (e : y.asStr = some j) : ∃ t, b = .str j t := by
  cases r <;> first | (cases e; done) | (cases e; exact ⟨_, rfl⟩)
theorem Rep.asBytes {P : Addr → Prop} {h : Heap} {b : Value} {y : V} {j : List UInt8} (r : Rep P h b y) (e : y.asBytes = some j) : ∃ t, b = .bytes j.toArray t := by
  cases r <;> first | (cases e; done) | (cases e; exact ⟨_, rfl⟩)
theorem Rep.asTup {P : Addr → Prop} {h : Heap} {b : Value} {y : V} {j : List V} (r : Rep P h b y) (e : y.asTup = some j) : ∃ a vs, b = .ref a ∧ IsTup h a (List.toArray vs) ∧ RepL P h vs j := by
  cases r <;> first | (cases e; done) | skip
  rename_i x r
  cases e
  exact ⟨_, _, rfl, x, r⟩
theorem Rep.asList {P : Addr → Prop} {h : Heap} {b : Value} {y : V} {j : List V} (r : Rep P h b y) (e : y.asList = some j) : ∃ a vs, b = .ref a ∧ h.IsList a (List.toArray vs) ∧ RepL P h vs j := by
  cases r <;> first | (cases e; done) | skip
  rename_i x r
  cases e
  exact ⟨_, _, rfl, x, r⟩

theorem Rep.new {P Q : Addr → Prop} {FR : List Addr} {h h' : Heap} (k : Keep FR No h h') {v : Value} {d : V} (r : Rep P h v d) (hq : ∀ a o, h.get? a = some o → P a → Q a) : Rep Q h' v d := (r.mono hq).step k

/-! what the library's Reads says of these -/
theorem V.ok_bytes {n : Nat} {l : List UInt8} (h : V.ok n (.bytes l) = true) : False := by cases n <;> cases h
theorem V.ok_tup {n : Nat} {l : List V} (h : V.ok n (.tuple l) = true) : ∃ m, n = m + 1 ∧ ∀ d ∈ l, V.ok m d = true := by
  cases n with
  | zero => cases h
  | succ n => exact ⟨n, rfl, List.all_eq_true.mp h⟩
theorem V.ok_list {n : Nat} {l : List V} (h : V.ok n (.list l) = true) : ∃ m, n = m + 1 ∧ ∀ d ∈ l, V.ok m d = true := by
  cases n with
  | zero => cases h
  | succ n => exact ⟨n, rfl, List.all_eq_true.mp h⟩
theorem V.ok_str {n : Nat} {x : Str} (h : V.ok n (.str x) = true) : PyData.strOk x = true := by cases n <;> exact h
theorem Rep.reads {P : Addr → Prop} {h : Heap} {v : Value} {d : V} (n : Nat) (r : Rep P h v d) : d.ok n = true → ∃ as, Reads h v d.toP as :=
  Rep.rec (motive_1 := fun v d _ => ∀ n, d.ok n = true → ∃ as, Reads h v d.toP as) (motive_2 := fun vs ds _ => ∀ n, (∀ d ∈ ds, V.ok n d = true) → ∃ as, ReadsAll h vs (V.toPs ds) as)
    (fun _ _ => ⟨_, Reads.none⟩) (fun b _ _ => ⟨_, Reads.bool b⟩) (fun i t _ _ => ⟨_, Reads.int i t⟩) (fun x t _ _ => ⟨_, Reads.str x t⟩) (fun _ _ _ e => (V.ok_bytes e).elim)
    (fun ⟨_, ho, hc, _, hd⟩ _ ih _ e => let ⟨m, _, e⟩ := V.ok_tup e; let ⟨as, q⟩ := ih m e; ⟨as, Reads.tuple ho hc hd q⟩)
    (fun _ ⟨_, ho, hc, _, hd⟩ _ ih _ e => let ⟨m, _, e⟩ := V.ok_list e; let ⟨_, q⟩ := ih m e; ⟨_, Reads.list ho hc hd q⟩)
    (fun _ _ => ⟨_, ReadsAll.nil⟩) (fun _ _ a b n e => let ⟨_, q⟩ := a n (e _ (.head _)); let ⟨_, p⟩ := b n fun d hm => e d (.tail _ hm); ⟨_, ReadsAll.cons q p⟩) r n
theorem V.lay (n : Nat) (d : V) : d.ok n = true → d.toP.canLay0 = true ∧ d.toP.depth ≤ n :=
  V.rec (motive_1 := fun d => ∀ n, d.ok n = true → d.toP.canLay0 = true ∧ d.toP.depth ≤ n) (motive_2 := fun ds => ∀ n, (∀ d ∈ ds, V.ok n d = true) → PyData.canLayAll0 (V.toPs ds) = true ∧ PyData.depthAll (V.toPs ds) ≤ n)
    (fun n _ => ⟨rfl, Nat.zero_le n⟩) (fun _ n _ => ⟨rfl, Nat.zero_le n⟩) (fun _ n _ => ⟨rfl, Nat.zero_le n⟩) (fun _ n e => ⟨V.ok_str e, Nat.zero_le n⟩) (fun _ _ e => (V.ok_bytes e).elim)
    (fun l ih _ e => by
      obtain ⟨m, rfl, e'⟩ := V.ok_tup e
      exact ⟨(ih m e').1, Nat.succ_le_succ (ih m e').2⟩)
    (fun l ih _ e => by
      obtain ⟨m, rfl, e'⟩ := V.ok_list e
      exact ⟨(ih m e').1, Nat.succ_le_succ (ih m e').2⟩)
    (fun n _ => ⟨rfl, Nat.zero_le n⟩)
    (fun d ds a b n e => by
      have h1 := a n (e _ (.head _))
      have h2 := b n fun d hd => e d (.tail _ hd)
      exact ⟨by show (_ && _) = true; rw [h1.1, h2.1]; rfl, Nat.max_le.mpr ⟨h1.2, h2.2⟩⟩) d n
end Mine
end

/-! text M5 -/
section
set_option bootstrap.genMatcherCode false
open PySem PySem.Calls PyProof.Rows PySem.W
namespace Mine

/-- the program -/
noncomputable def PR : Program := PySem.Challenge.rw_nt0440_01.row.toRowW.prog

/-- what the ground holds, whatever the frame -/
structure GG (G : Heap) : Prop where
  nolimit : G.NoLimit
  seer : G.NoSeer
  tree : PR.given.tree = none
  mainNs : ∃ mg, G.Ns mainGlobals mg

/-- room, and the frames below -/
structure Rm0 (G : Heap) (fr : List PySem.Env) (A : Around) (n : Nat) (h : Heap) : Prop where
  gg : GG G
  handled : A.handled = none
  frames : A.frames = some fr
  depth : A.depth + n ≤ 600
  units : A.units + 20 * n ≤ 6000
  keepG : ∀ b o, G.get? b = some o → h.get? b = some o
  fok : ∀ env ∈ fr, env.scope.kind = .function ∧ ∃ L m, env.frame = some L ∧ G.get? L = none ∧ h.Ns L m
/-- room, and a frame below -/
structure Rm (G : Heap) (fr : List PySem.Env) (A : Around) (n : Nat) (h : Heap) : Prop extends Rm0 G fr A n h where
  head : ∃ env l, fr = env :: l ∧ env.scope.isGenerator = false ∧ env.scope.isCoroutine = false ∧ env.builtins = builtinsNs ∧ env.globals = mainGlobals

noncomputable abbrev FRof (fr : List PySem.Env) : List Addr := fr.filterMap (·.frame)

structure St (fr : List PySem.Env) (s s' : Shared) : Prop where
  keep : Keep (FRof fr) No s.heap s'.heap
  gens : s'.gens = s.gens
  os : s'.os = s.os

noncomputable def Got (fr : List PySem.Env) (s : Shared) (V : V) : Value → Shared → Prop := fun v s' => Rep Tr s'.heap v V ∧ St fr s s'
noncomputable def GotB (fr : List PySem.Env) (s : Shared) (b : Bool) : Value → Shared → Prop := fun v s' => v = .bool b ∧ St fr s s'

section
variable {w : World} {G : Heap} {fr : List PySem.Env} {A : Around} {n : Nat} {E : Value → Shared → Prop} {s s' s'' : Shared}
theorem St.refl (s : Shared) : St fr s s := ⟨Keep.refl .., rfl, rfl⟩
theorem St.toks (s : Shared) (k : Tok) : St fr s { s with toks := k } := ⟨Keep.refl .., rfl, rfl⟩
theorem St.trans (a : St fr s s') (b : St fr s' s'') : St fr s s'' := ⟨a.keep.trans b.keep, b.gens.trans a.gens, b.os.trans a.os⟩
theorem St.of_keeps {h : Heap} {k : Tok} (hk : ∀ b o, s.heap.get? b = some o → h.get? b = some o) : St fr s { s with heap := h, toks := k } := ⟨Keep.of_keeps hk, rfl, rfl⟩
theorem St.push (s : Shared) (o : Obj) (k : Tok) : St fr s { s with heap := s.heap.push o, toks := k } := St.of_keeps fun _ _ e => Heap.get?_push_of_some _ e
theorem Rm0.step (R : Rm0 G fr A n s.heap) (t : St fr s s') : Rm0 G fr A n s'.heap := by
  refine ⟨R.gg, R.handled, R.frames, R.depth, R.units, fun b o e => ?_, fun env he => ?_⟩
  · refine t.keep.exact b o (R.keepG b o e) (fun z => z) fun q => ?_
    obtain ⟨env, he, hf⟩ := List.mem_filterMap.mp q
    obtain ⟨_, L, _, hL, hn, _⟩ := R.fok env he
    rw [hf] at hL
    cases hL
    rw [hn] at e; cases e
  · obtain ⟨hk, L, m, hL, hn, hm⟩ := R.fok env he
    exact ⟨hk, L, m, hL, hn, t.keep.ns hm fun z => z⟩
theorem Rm0.less {m : Nat} (R : Rm0 G fr A n s.heap) (h : m ≤ n) : Rm0 G fr A m s.heap :=
  ⟨R.gg, R.handled, R.frames, by have := R.depth; lia, by have := R.units; lia, R.keepG, R.fok⟩
theorem Rm.step (R : Rm G fr A n s.heap) (t : St fr s s') : Rm G fr A n s'.heap := ⟨R.toRm0.step t, R.head⟩
theorem Rm.less {m : Nat} (R : Rm G fr A n s.heap) (h : m ≤ n) : Rm G fr A m s.heap := ⟨R.toRm0.less h, R.head⟩
theorem Rm0.unitsOk (R : Rm0 G fr A n s.heap) : A.units + 200 < cLine := by
  have := R.units
  show _ < 9900
  lia
theorem Rm0.depthOk (R : Rm0 G fr A n s.heap) : A.depth + 150 < recursionLimit := by
  have := R.depth
  show _ < 1000
  lia
theorem Rm0.nolimit (R : Rm0 G fr A n s.heap) : s.heap.NoLimit := R.gg.nolimit.keeps R.keepG
theorem Rm.pylong (R : Rm G fr A n s.heap) : PylongRoom (model PR w) A s := by
  obtain ⟨env, l, e, h1, h2, h3, h4⟩ := R.head
  refine PylongRoom.of R.nolimit (by have := R.depthOk; show A.depth + 100 < _; lia) (SeerAt.of (R.gg.seer.keeps R.keepG) R.gg.tree (R.frames.trans (congrArg some e)) h1 h2 h3 h4)
theorem Rm.frame (R : Rm G fr A n s.heap) : ∃ L m, L ∈ FRof fr ∧ s.heap.Ns L m := by
  obtain ⟨env, l, e, _⟩ := R.head
  obtain ⟨_, L, m, hL, _, hm⟩ := R.fok env (e ▸ List.mem_cons_self)
  exact ⟨L, m, List.mem_filterMap.mpr ⟨env, e ▸ List.mem_cons_self, hL⟩, hm⟩

theorem Got.here {V : V} {v : Value} (r : Rep Tr s.heap v V) (k : Tok) : Got fr s V v { s with toks := k } := ⟨r, St.toks ..⟩
theorem Got.int (i : Int) (t k : Tok) : Got fr s (.int i) (.int i t) { s with toks := k } := ⟨.int .., St.toks ..⟩
theorem Got.str (x : Str) (t k : Tok) : Got fr s (.str x) (.str x t) { s with toks := k } := ⟨.str .., St.toks ..⟩
theorem Got.listNew {vs : List Value} {ds : List V} (r : RepL Tr s.heap vs ds) (k : Tok) :
    Got fr s (.list ds) (.ref s.heap.objs.size) { s with heap := s.heap.push { cls := .type "list", data := .seq vs.toArray }, toks := k } :=
  ⟨.list trivial ⟨_, Heap.get?_push_size _ rfl, rfl, 0, rfl⟩ (r.step (FR := FRof fr) (Keep.push ..)), St.push ..⟩
theorem Got.tupNew {vs : List Value} {ds : List V} (r : RepL Tr s.heap vs ds) (k : Tok) :
    Got fr s (.tuple ds) (.ref s.heap.objs.size) { s with heap := s.heap.push { cls := .type "tuple", data := .seq vs.toArray }, toks := k } :=
  ⟨.tuple ⟨_, Heap.get?_push_size _ rfl, rfl, 0, rfl⟩ (r.step (FR := FRof fr) (Keep.push ..)), St.push ..⟩

theorem cap_line : cap ≤ sizeLine := by decide
theorem small_bounds {i : Int} (h : small i = true) : -4294967296 < i ∧ i < 4294967296 := by
  unfold small at h
  have := of_decide_eq_true h
  omega
theorem mid_bounds {i : Int} (h : mid i = true) : 0 ≤ i ∧ i < 2 ^ 128 := by
  unfold mid at h
  simpa using h

theorem bitAnd_nn {a b : Int} (ha : 0 ≤ a) (hb : 0 ≤ b) : Builtin.bitAnd a b = ((a.toNat &&& b.toNat : Nat) : Int) := by
  unfold Builtin.bitAnd
  rw [decide_eq_true ha, decide_eq_true hb]
theorem bitOr_nn {a b : Int} (ha : 0 ≤ a) (hb : 0 ≤ b) : Builtin.bitOr a b = ((a.toNat ||| b.toNat : Nat) : Int) := by
  have n : ∀ x : Int, Builtin.bitNot x = -x - 1 := fun x => by unfold Builtin.bitNot; lia
  unfold Builtin.bitOr Builtin.bitAnd
  rw [decide_eq_false (by rw [n]; lia), decide_eq_false (by rw [n]; lia)]
  simp only [n]
  have e1 : (-(-a - 1) - 1) = a := by lia
  have e2 : (-(-b - 1) - 1) = b := by lia
  rw [e1, e2]
  lia

inductive OpR : Op → Operator → Prop
  | add : OpR .add .Add
  | sub : OpR .sub .Sub
  | mul : OpR .mul .Mult
  | fdiv : OpR .fdiv .FloorDiv
  | mod : OpR .mod .Mod
  | pow : OpR .pow .Pow
  | shl : OpR .shl .LShift
  | shr : OpR .shr .RShift
  | band : OpR .band .BitAnd
  | bor : OpR .bor .BitOr

theorem list_add {l b : Addr} {vs ws : List Value} {ds es : List V} (hl : s.heap.IsList l vs.toArray) (hb : s.heap.IsList b ws.toArray) (rl : RepL Tr s.heap vs ds) (rb : RepL Tr s.heap ws es) (hz : vs.length + ws.length ≤ sizeLine) :
    wpAny (model PR w) A (binaryOp .Add (.ref l) (.ref b)) (Got fr s (.list (ds ++ es))) E s := by
  obtain ⟨⟨cls, dd, data, sl⟩, ho, hc, n, hd⟩ := id hl
  obtain ⟨⟨cls2, dd2, data2, sl2⟩, ho2, hc2, n2, hd2⟩ := id hb
  simp only at hc hd hc2 hd2
  subst hc hd hc2 hd2
  refine concat_meets ⟨_, ho, rfl⟩ ⟨_, ho2, rfl⟩ noFill_list_add seq_list_add PySem.F.slot_list_add PySem.F.entry_list_add (PySem.F.args_list_add_2 _ _) (list_addW l b vs.toArray ws.toArray n n2 dd dd2 sl sl2 (by simpa using hz)) ⟨ho, ho2, ?_⟩
  have e : vs.toArray ++ ws.toArray = (vs ++ ws).toArray := by simp
  rw [e]
  exact Got.listNew (rl.append rb) _
end
end Mine
end

/-! text M6 -/
section
set_option bootstrap.genMatcherCode false
open PySem PySem.Calls PyProof.Rows PySem.W
namespace Mine
section
variable {w : World} {G : Heap} {fr : List PySem.Env} {A : Around} {n : Nat} {E : Value → Shared → Prop} {s s' s'' : Shared}

theorem tup_add {l b : Addr} {vs ws : List Value} {ds es : List V} (hl : IsTup s.heap l vs.toArray) (hb : IsTup s.heap b ws.toArray) (rl : RepL Tr s.heap vs ds) (rb : RepL Tr s.heap ws es)
    (h1 : vs.isEmpty = false) (h2 : ws.isEmpty = false) (hz : vs.length + ws.length ≤ sizeLine) :
    wpAny (model PR w) A (binaryOp .Add (.ref l) (.ref b)) (Got fr s (.tuple (ds ++ es))) E s := by
  obtain ⟨⟨cls, dd, data, sl⟩, ho, hc, n, hd⟩ := id hl
  obtain ⟨⟨cls2, dd2, data2, sl2⟩, ho2, hc2, n2, hd2⟩ := id hb
  simp only at hc hd hc2 hd2
  subst hc hd hc2 hd2
  refine concat_meets ⟨_, ho, rfl⟩ ⟨_, ho2, rfl⟩ noFill_tuple_add seq_tuple_add PySem.F.slot_tuple_add PySem.F.entry_tuple_add (PySem.F.args_tuple_add_2 _ _)
    (tuple_addW2 l b vs.toArray ws.toArray n n2 dd dd2 sl sl2 (by simpa using h1) (by simpa using h2) (by simpa using hz)) ⟨ho, ho2, ?_⟩
  have e : vs.toArray ++ ws.toArray = (vs ++ ws).toArray := by simp
  rw [e]
  exact Got.tupNew (rl.append rb) _

set_option maxRecDepth 100000 in
theorem noI_bytes_add : typeLookup (.type "bytes") (dunderI "add") = pure none := by rw [typeLookup_type, builtinLookup_eq_fast]; kernel_rfl
open PySem.W.KBy in
theorem iadd_bytes {b c : Array UInt8} {t u : Tok} {Q : Value → Shared → Prop} (hsz : b.size + c.size ≤ 16777216) (h : ∀ t' k, Q (.bytes (b ++ c) t') { s with toks := k }) : wpAny (model PR w) A (inplaceOp .Add (.bytes b t) (.bytes c u)) Q E s := by
  refine iconcat_gives (typeIs_bytes s b t) (typeIs_bytes s c u) noI_bytes_add noFill_bytes_add seq_bytes_add FB.slot_bytes_add FB.entry_bytes_add (FB.args_bytes_add_2 _ _) (gives_bytes_add (tooLong_not hsz)) ?_
  by_cases hb : b.isEmpty = true
  · rw [if_pos hb]
    have e : b = #[] := Array.isEmpty_iff.1 hb
    have h' := h u s.toks
    rw [e, Array.empty_append] at h'
    exact h'
  · rw [if_neg hb]
    by_cases hc : c.isEmpty = true
    · rw [if_pos hc]
      have e : c = #[] := Array.isEmpty_iff.1 hc
      have h' := h t s.toks
      rw [e, Array.append_empty] at h'
      exact h'
    · rw [if_neg hc]
      exact ⟨by rw [Array.size_append, sizeLine_eq]; exact hsz, h s.toks (s.toks + 1)⟩

theorem ite_some {α : Type} {c : Prop} [Decidable c] {a b : α} (h : (if c then some a else .none) = some b) : c ∧ a = b := by
  by_cases q : c
  · rw [if_pos q] at h; exact ⟨q, Option.some.inj h⟩
  · rw [if_neg q] at h; cases h

theorem bits_small {i : Int} (h : small i = true) : Builtin.Int.intBits i ≤ 64 := by
  obtain ⟨h1, h2⟩ := small_bounds h
  exact intBits_le_64 (by omega) (by omega)

/-- an operation on two ints, told of the values -/
theorem int2_go {α : Type} {f : Int → Int → Option α} {x y : V} {r : α} {a b : Value} {h : Heap} {C : Value → Value → Prop} (e : int2 f x y = some r) (ra : Rep Tr h a x) (rb : Rep Tr h b y) (k : ∀ i t j u, f i j = some r → C (.int i t) (.int j u)) : C a b := by
  obtain ⟨i, e1, e⟩ := Option.bind_eq_some_iff.mp e
  obtain ⟨j, e2, e⟩ := Option.bind_eq_some_iff.mp e
  obtain ⟨t, rfl⟩ := ra.asInt e1
  obtain ⟨u, rfl⟩ := rb.asInt e2
  exact k i t j u e
theorem and2 {a b : Bool} (h : (a && b) = true) : a = true ∧ b = true := Bool.and_eq_true_iff.mp h

/-- one lemma for each operator: of its two ints -/
noncomputable def OpOk (o : Op) (po : Operator) : Prop := ∀ {w : World} {G : Heap} {fr : List PySem.Env} {A : Around} {n : Nat} {E : Value → Shared → Prop} {s : Shared} {i j : Int} {t u : Tok} {v : V}, opV o i j = some v → Rm G fr A n s.heap →
  wpAny (model PR w) A (binaryOp po (.int i t) (.int j u)) (Got fr s v) E s
theorem op_add : OpOk .add .Add := fun h _ => by cases h; exact PyProof.Rows.add_int (Got.int ..)
theorem op_sub : OpOk .sub .Sub := fun h _ => by cases h; exact PyProof.Rows.sub_int (Got.int ..)
theorem op_mul : OpOk .mul .Mult := fun h _ => by
  obtain ⟨c, rfl⟩ := ite_some h
  exact P.mul_int (Got.int ..) (IntMulOk.of_left (bits_small (and2 c).1))
theorem op_fdiv : OpOk .fdiv .FloorDiv := fun h R => by
  obtain ⟨c, rfl⟩ := ite_some h
  exact PyProof.Rows.floordiv_int (Int.ne_of_gt (of_decide_eq_true (and2 c).1)) (Got.int ..) (.inr R.pylong)
theorem op_mod : OpOk .mod .Mod := fun h _ => by
  obtain ⟨c, rfl⟩ := ite_some h
  exact PyProof.Rows.mod_int' (Int.ne_of_gt (of_decide_eq_true (and2 c).1)) (Got.int ..)
theorem op_pow : OpOk .pow .Pow := fun {_ _ _ _ _ _ _ i j _ _ _} h _ => by
  obtain ⟨c, rfl⟩ := ite_some h
  obtain ⟨c, c3⟩ := and2 c
  obtain ⟨c1, c2⟩ := and2 c
  have hb := bits_small c1
  have c2 := of_decide_eq_true c2
  refine PyProof.Rows.pow_int c2 ?_ (Got.int ..)
  have h1 : (Builtin.Int.intBits i : Int) * j ≤ 64 * 3 := Int.mul_le_mul (Int.ofNat_le.mpr hb) (of_decide_eq_true c3) c2 (by decide)
  lia
theorem op_shl : OpOk .shl .LShift := fun h _ => by
  obtain ⟨c, rfl⟩ := ite_some h
  obtain ⟨c, c4⟩ := and2 c
  obtain ⟨c, c3⟩ := and2 c
  obtain ⟨c1, c2⟩ := and2 c
  have c1 := of_decide_eq_true c1
  have c2 := of_decide_eq_true c2
  have c4 := of_decide_eq_true c4
  exact PyProof.Rows.lshift_int_small (of_decide_eq_true c3) (by omega) (by omega) (Got.int ..)
theorem op_shr : OpOk .shr .RShift := fun h _ => by
  obtain ⟨c, rfl⟩ := ite_some h
  exact PyProof.Rows.rshift_int (of_decide_eq_true (and2 (and2 c).1).2) (Got.int ..)
theorem op_band : OpOk .band .BitAnd := fun h _ => by
  obtain ⟨c, rfl⟩ := ite_some h
  exact PyProof.Rows.and_int (by rw [bitAnd_nn (mid_bounds (and2 c).1).1 (mid_bounds (and2 c).2).1]; exact Got.int ..)
theorem op_bor : OpOk .bor .BitOr := fun h _ => by
  obtain ⟨c, rfl⟩ := ite_some h
  exact PyProof.Rows.or_int (by rw [bitOr_nn (mid_bounds (and2 c).1).1 (mid_bounds (and2 c).2).1]; exact Got.int ..)

theorem emp_of {h : Heap} {vs : List Value} {ds : List V} (r : RepL Tr h vs ds) (e : ds.isEmpty = false) : vs.isEmpty = false :=
  r.ind (C := fun vs ds => ds.isEmpty = false → vs.isEmpty = false) (fun e => e) (fun _ _ _ _ => rfl) e
theorem str_add {p q : Str} {t u : Tok} (c : p.length + q.length ≤ cap) : wpAny (model PR w) A (binaryOp .Add (.str p t) (.str q u)) (Got fr s (.str (p ++ q))) E s :=
  PyProof.Rows.add_str (fun t' tk => Got.str ..) (Nat.le_trans c cap_line)
theorem bytes_cat (p q : List UInt8) : p.toArray ++ q.toArray = (p ++ q).toArray := by simp
theorem bytes_add {p q : List UInt8} {t u : Tok} (c : p.length + q.length ≤ cap) : wpAny (model PR w) A (binaryOp .Add (.bytes p.toArray t) (.bytes q.toArray u)) (Got fr s (.bytes (p ++ q))) E s := by
  refine PySem.W.KBy.add_bytes (Nat.le_trans c cap_line) fun t' k => ?_
  rw [bytes_cat]
  exact ⟨.bytes .., St.toks ..⟩
theorem bytes_iadd {p q : List UInt8} {t u : Tok} (c : p.length + q.length ≤ cap) : wpAny (model PR w) A (inplaceOp .Add (.bytes p.toArray t) (.bytes q.toArray u)) (Got fr s (.bytes (p ++ q))) E s := by
  refine iadd_bytes (Nat.le_trans c cap_line) fun t' k => ?_
  rw [bytes_cat]
  exact ⟨.bytes .., St.toks ..⟩
theorem add_ok {x y v : V} {a b : Value} (h : addV x y = some v) (ra : Rep Tr s.heap a x) (rb : Rep Tr s.heap b y) (R : Rm G fr A n s.heap) :
    wpAny (model PR w) A (binaryOp .Add a b) (Got fr s v) E s := by
  cases ra with
  | none => cases h
  | bool => cases h
  | int i t =>
    obtain ⟨j, e, h⟩ := Option.bind_eq_some_iff.mp h
    obtain ⟨u, rfl⟩ := rb.asInt e
    exact op_add h R
  | str p t =>
    obtain ⟨q, e, h⟩ := Option.bind_eq_some_iff.mp h
    obtain ⟨u, rfl⟩ := rb.asStr e
    obtain ⟨c, rfl⟩ := ite_some h
    exact str_add c
  | bytes p t =>
    obtain ⟨q, e, h⟩ := Option.bind_eq_some_iff.mp h
    obtain ⟨u, rfl⟩ := rb.asBytes e
    obtain ⟨c, rfl⟩ := ite_some h
    exact bytes_add c
  | tuple ht rl =>
    obtain ⟨q, e, h⟩ := Option.bind_eq_some_iff.mp h
    obtain ⟨_, _, rfl, ht2, rl2⟩ := rb.asTup e
    obtain ⟨c, rfl⟩ := ite_some h
    exact tup_add ht ht2 rl rl2 (emp_of rl c.2.1) (emp_of rl2 c.2.2) (by rw [rl.length, rl2.length]; exact Nat.le_trans c.1 cap_line)
  | list p ht rl =>
    obtain ⟨q, e, h⟩ := Option.bind_eq_some_iff.mp h
    obtain ⟨_, _, rfl, ht2, rl2⟩ := rb.asList e
    obtain ⟨c, rfl⟩ := ite_some h
    exact list_add ht ht2 rl rl2 (by rw [rl.length, rl2.length]; exact Nat.le_trans c cap_line)

theorem bin_ok {o : Op} {po : Operator} {x y v : V} {a b : Value} (hr : OpR o po) (h : binV o x y = some v) (ra : Rep Tr s.heap a x) (rb : Rep Tr s.heap b y) (R : Rm G fr A n s.heap) :
    wpAny (model PR w) A (binaryOp po a b) (Got fr s v) E s := by
  have go : ∀ {po : Operator}, OpOk o po → int2 (opV o) x y = some v → wpAny (model PR w) A (binaryOp po a b) (Got fr s v) E s := fun k h =>
    int2_go (C := fun a b => wpAny (model PR w) A (binaryOp _ a b) (Got fr s v) E s) h ra rb fun _ _ _ _ e => k e R
  cases hr with
  | add => exact add_ok h ra rb R
  | sub => exact go op_sub h
  | mul => exact go op_mul h
  | fdiv => exact go op_fdiv h
  | mod => exact go op_mod h
  | pow => exact go op_pow h
  | shl => exact go op_shl h
  | shr => exact go op_shr h
  | band => exact go op_band h
  | bor => exact go op_bor h

noncomputable def isNum : V → Bool
  | .int _ => true
  | .bytes _ => true
  | _ => false

theorem aug_ok {o : Op} {po : Operator} {x y v : V} {a b : Value} (hr : OpR o po) (hx : o = .add) (h : binV o x y = some v) (hv : isNum v = true) (ra : Rep Tr s.heap a x) (rb : Rep Tr s.heap b y) :
    wpAny (model PR w) A (inplaceOp po a b) (Got fr s v) E s := by
  subst hx
  cases hr
  have num : ∀ {c : Prop} [Decidable c] {z : V} {C : Prop}, (if c then some z else .none) = some v → isNum z = false → C := fun h e => by
    rw [← (ite_some h).2, e] at hv
    cases hv
  cases ra with
  | none => cases h
  | bool => cases h
  | int i t =>
    obtain ⟨j, e, h⟩ := Option.bind_eq_some_iff.mp h
    obtain ⟨u, rfl⟩ := rb.asInt e
    cases h
    exact PyProof.Rows.iadd_int (Got.int ..)
  | str p t =>
    obtain ⟨q, e, h⟩ := Option.bind_eq_some_iff.mp h
    exact num h rfl
  | bytes p t =>
    obtain ⟨q, e, h⟩ := Option.bind_eq_some_iff.mp h
    obtain ⟨u, rfl⟩ := rb.asBytes e
    obtain ⟨c, rfl⟩ := ite_some h
    exact bytes_iadd c
  | tuple ht rl =>
    obtain ⟨q, e, h⟩ := Option.bind_eq_some_iff.mp h
    exact num h rfl
  | list p ht rl =>
    obtain ⟨q, e, h⟩ := Option.bind_eq_some_iff.mp h
    exact num h rfl
end
end Mine
end

/-! text M7 -/
section
set_option bootstrap.genMatcherCode false
set_option maxRecDepth 100000
open PySem PySem.Calls PyProof.Rows PySem.W
namespace Mine
open AutoSeq1 (wpAny_loadPart')
open MeetsSeq MeetsSeq2 MeetsSeq3 SeqRoads2 SeqAt

theorem lt_at {prog : Program} {w : World} {A : Around} {E : Value → Shared → Prop} {s : Shared} {a b : Int} {t u : Tok} {Q : Value → Shared → Prop} (h : Q (.bool (decide (a < b))) s) : wpAny (model prog w) A (richCompare .Lt (.int a t) (.int b u)) Q E s :=
  show wpAny (model prog w) A (compareOp .Lt (.int a t) (.int b u)) Q E s from P.lt_int h
theorem gt_at {prog : Program} {w : World} {A : Around} {E : Value → Shared → Prop} {s : Shared} {a b : Int} {t u : Tok} {Q : Value → Shared → Prop} (h : Q (.bool (decide (a > b))) s) : wpAny (model prog w) A (richCompare .Gt (.int a t) (.int b u)) Q E s :=
  show wpAny (model prog w) A (compareOp .Gt (.int a t) (.int b u)) Q E s from P.gt_int h

theorem IntsAre.get {vs : List Value} {ns : List Int} (h : IntsAre vs ns) : ∀ (i : Nat) (hi : i < ns.length), ∃ t, vs[i]? = some (.int ns[i] t) := by
  induction h with
  | nil => intro i hi; simp at hi
  | cons n t _ ih =>
    intro i hi
    cases i with
    | zero => exact ⟨t, rfl⟩
    | succ i => simpa using ih i (by simpa using hi)

theorem ltInts_nil_right : ∀ l : List Int, ltInts l [] = false
  | [] => rfl
  | _ :: _ => rfl

theorem lt_loop (l b : Addr) (vs ws : List Value) (ns ms : List Int) (hi : IntsAre vs ns) (hj : IntsAre ws ms) (n n2 : Nat) (dd dd2 : Option Addr) (sl sl2 : Array (Option Value)) (k : Nat) :
    ∀ i : Nat, ns.length - i = k → i ≤ ms.length → i ≤ ns.length → Meets (Builtin.«list.__eq__.loop» ⟨[.ref l, .ref b, rawInt i, rawInt 0], []⟩)
      (fun _ R s => s.heap.get? l = some { cls := .type "list", dict := dd, data := .seq vs.toArray n, slots := sl } ∧ s.heap.get? b = some { cls := .type "list", dict := dd2, data := .seq ws.toArray n2, slots := sl2 } ∧
        R (.ok (.ret (.bool (ltInts (ns.drop i) (ms.drop i))))) s) := by
  have l1 := hi.length
  have l2 := hj.length
  induction k with
  | zero =>
    intro i hk him hin prog w A R s h
    obtain ⟨hp, g, d, tk, os⟩ := s; obtain ⟨hl, hb, h⟩ := h
    wp_walk using wpAny_loadPart' hl, wpAny_loadPart' hb
    have hi1 : vs.toArray[((i : Nat) : Int).toNat]? = none := by simp; lia
    rw [hi1]
    wp_walk using wpAny_loadPart' hl, wpAny_loadPart' hb
    have hd : ns.drop i = [] := by simp; lia
    rw [hd] at h
    show R (.ok (.ret (.bool (decide (vs.toArray.size < ws.toArray.size))))) _
    have e : ltInts [] (ms.drop i) = decide (vs.toArray.size < ws.toArray.size) := by
      rcases Nat.lt_or_ge i ms.length with q | q
      · rw [List.drop_eq_getElem_cons q]
        show true = _
        simp; lia
      · have : ms.drop i = [] := by simp; lia
        rw [this]
        show false = _
        simp; lia
    rw [← e]
    exact h
  | succ k ih =>
    intro i hk him hin prog w A R s h
    obtain ⟨hp, g, d, tk, os⟩ := s; obtain ⟨hl, hb, h⟩ := h
    wp_walk using wpAny_loadPart' hl, wpAny_loadPart' hb
    have hlt : i < ns.length := by lia
    obtain ⟨t, ht⟩ := IntsAre.get hi i hlt
    have hi1 : vs.toArray[((i : Nat) : Int).toNat]? = some (.int ns[i] t) := by simpa using ht
    rw [hi1]
    rcases Nat.lt_or_ge i ms.length with q | q
    · obtain ⟨u, hu⟩ := IntsAre.get hj i q
      have hi2 : ws.toArray[((i : Nat) : Int).toNat]? = some (.int ms[i] u) := by simpa using hu
      have hc : ((i : Int) + 1) = ((i + 1 : Nat) : Int) := by push_cast; rfl
      rw [hi2]
      rw [List.drop_eq_getElem_cons hlt, List.drop_eq_getElem_cons q] at h
      refine wpAny_bind (wpAny_eqBool_int ?_)
      cases e : (ns[i] == ms[i]) with
      | true =>
        have h' : R (.ok (.ret (.bool (ltInts (ns.drop (i + 1)) (ms.drop (i + 1)))))) ⟨hp, g, d, tk, os⟩ := by
          have : ltInts (ns[i] :: ns.drop (i + 1)) (ms[i] :: ms.drop (i + 1)) = ltInts (ns.drop (i + 1)) (ms.drop (i + 1)) := by
            show (if (ns[i] == ms[i]) = true then _ else _) = _
            rw [if_pos e]
          rw [this] at h; exact h
        wp_walk
        rw [hc]
        exact ⟨plainId_quiet plain_eq_loop _, codeAny_builtin entry_eq_loop (by
          rw [Around.under_plainId plain_eq_loop _]
          exact ih (i + 1) (by lia) (by lia) (by lia) prog w A R _ ⟨hl, hb, h'⟩)⟩
      | false =>
        have h' : R (.ok (.ret (.bool (decide (ns[i] < ms[i]))))) ⟨hp, g, d, tk, os⟩ := by
          have : ltInts (ns[i] :: ns.drop (i + 1)) (ms[i] :: ms.drop (i + 1)) = decide (ns[i] < ms[i]) := by
            show (if (ns[i] == ms[i]) = true then _ else _) = _
            rw [if_neg (by rw [e]; exact Bool.false_ne_true)]
          rw [this] at h; exact h
        wp_walk using wpAny_loadPart' hl, wpAny_loadPart' hb
        rw [hi1, hi2]
        refine wpAny_bind (lt_at ?_)
        exact wpAny_pure h'
    · have hi2 : ws.toArray[((i : Nat) : Int).toNat]? = none := by simp; lia
      rw [hi2]
      wp_walk using wpAny_loadPart' hl, wpAny_loadPart' hb
      have hd : ms.drop i = [] := by simp; lia
      rw [hd, ltInts_nil_right] at h
      show R (.ok (.ret (.bool (decide (vs.toArray.size < ws.toArray.size))))) _
      have e : decide (vs.toArray.size < ws.toArray.size) = false := by simp; lia
      rw [e]
      exact h

theorem gt_loop (l b : Addr) (vs ws : List Value) (ns ms : List Int) (hi : IntsAre vs ns) (hj : IntsAre ws ms) (n n2 : Nat) (dd dd2 : Option Addr) (sl sl2 : Array (Option Value)) (k : Nat) :
    ∀ i : Nat, ns.length - i = k → i ≤ ms.length → i ≤ ns.length → Meets (Builtin.«list.__eq__.loop» ⟨[.ref l, .ref b, rawInt i, rawInt 4], []⟩)
      (fun _ R s => s.heap.get? l = some { cls := .type "list", dict := dd, data := .seq vs.toArray n, slots := sl } ∧ s.heap.get? b = some { cls := .type "list", dict := dd2, data := .seq ws.toArray n2, slots := sl2 } ∧
        R (.ok (.ret (.bool (ltInts (ms.drop i) (ns.drop i))))) s) := by
  have l1 := hi.length
  have l2 := hj.length
  induction k with
  | zero =>
    intro i hk him hin prog w A R s h
    obtain ⟨hp, g, d, tk, os⟩ := s; obtain ⟨hl, hb, h⟩ := h
    wp_walk using wpAny_loadPart' hl, wpAny_loadPart' hb
    have hi1 : vs.toArray[((i : Nat) : Int).toNat]? = none := by simp; lia
    rw [hi1]
    wp_walk using wpAny_loadPart' hl, wpAny_loadPart' hb
    have hd : ns.drop i = [] := by simp; lia
    rw [hd, ltInts_nil_right] at h
    show R (.ok (.ret (.bool (decide (vs.toArray.size > ws.toArray.size))))) _
    have e : decide (vs.toArray.size > ws.toArray.size) = false := by simp; lia
    rw [e]
    exact h
  | succ k ih =>
    intro i hk him hin prog w A R s h
    obtain ⟨hp, g, d, tk, os⟩ := s; obtain ⟨hl, hb, h⟩ := h
    wp_walk using wpAny_loadPart' hl, wpAny_loadPart' hb
    have hlt : i < ns.length := by lia
    obtain ⟨t, ht⟩ := IntsAre.get hi i hlt
    have hi1 : vs.toArray[((i : Nat) : Int).toNat]? = some (.int ns[i] t) := by simpa using ht
    rw [hi1]
    rcases Nat.lt_or_ge i ms.length with q | q
    · obtain ⟨u, hu⟩ := IntsAre.get hj i q
      have hi2 : ws.toArray[((i : Nat) : Int).toNat]? = some (.int ms[i] u) := by simpa using hu
      have hc : ((i : Int) + 1) = ((i + 1 : Nat) : Int) := by push_cast; rfl
      rw [hi2]
      rw [List.drop_eq_getElem_cons hlt, List.drop_eq_getElem_cons q] at h
      refine wpAny_bind (wpAny_eqBool_int ?_)
      cases e : (ns[i] == ms[i]) with
      | true =>
        have e' : (ms[i] == ns[i]) = true := by rw [beq_iff_eq] at e ⊢; exact e.symm
        have h' : R (.ok (.ret (.bool (ltInts (ms.drop (i + 1)) (ns.drop (i + 1)))))) ⟨hp, g, d, tk, os⟩ := by
          have : ltInts (ms[i] :: ms.drop (i + 1)) (ns[i] :: ns.drop (i + 1)) = ltInts (ms.drop (i + 1)) (ns.drop (i + 1)) := by
            show (if (ms[i] == ns[i]) = true then _ else _) = _
            rw [if_pos e']
          rw [this] at h; exact h
        wp_walk
        rw [hc]
        exact ⟨plainId_quiet plain_eq_loop _, codeAny_builtin entry_eq_loop (by
          rw [Around.under_plainId plain_eq_loop _]
          exact ih (i + 1) (by lia) (by lia) (by lia) prog w A R _ ⟨hl, hb, h'⟩)⟩
      | false =>
        have e' : ¬ (ms[i] == ns[i]) = true := by
          intro z
          rw [beq_iff_eq] at z
          rw [z] at e
          simp at e
        have h' : R (.ok (.ret (.bool (decide (ns[i] > ms[i]))))) ⟨hp, g, d, tk, os⟩ := by
          have : ltInts (ms[i] :: ms.drop (i + 1)) (ns[i] :: ns.drop (i + 1)) = decide (ns[i] > ms[i]) := by
            show (if (ms[i] == ns[i]) = true then _ else _) = _
            rw [if_neg e']
          rw [this] at h; exact h
        wp_walk using wpAny_loadPart' hl, wpAny_loadPart' hb
        rw [hi1, hi2]
        refine wpAny_bind (gt_at ?_)
        exact wpAny_pure h'
    · have hi2 : ws.toArray[((i : Nat) : Int).toNat]? = none := by simp; lia
      rw [hi2]
      wp_walk using wpAny_loadPart' hl, wpAny_loadPart' hb
      have hd : ms.drop i = [] := by simp; lia
      rw [hd, List.drop_eq_getElem_cons hlt] at h
      show R (.ok (.ret (.bool (decide (vs.toArray.size > ws.toArray.size))))) _
      have e : decide (vs.toArray.size > ws.toArray.size) = true := by simp; lia
      rw [e]
      exact h

theorem list_lt (l b : Addr) (vs ws : List Value) (ns ms : List Int) (hi : IntsAre vs ns) (hj : IntsAre ws ms) (n n2 : Nat) (dd dd2 : Option Addr) (sl sl2 : Array (Option Value)) :
    Meets (Builtin.«list.__lt__» ⟨[.ref l, .ref b], []⟩)
      (fun _ R s => s.heap.get? l = some { cls := .type "list", dict := dd, data := .seq vs.toArray n, slots := sl } ∧ s.heap.get? b = some { cls := .type "list", dict := dd2, data := .seq ws.toArray n2, slots := sl2 } ∧
        R (.ok (.ret (.bool (ltInts ns ms)))) s) := by
  intro prog w A R s h
  obtain ⟨hp, g, d, tk, os⟩ := s; obtain ⟨hl, hb, h⟩ := h
  have f3 := AutoSeq1.sub_list_list
  wp_walk using wpAny_loadPart' hl, wpAny_loadPart' hb
  exact ⟨plainId_quiet plain_eq_loop _, codeAny_builtin entry_eq_loop (by
    rw [Around.under_plainId plain_eq_loop _]
    exact lt_loop l b vs ws ns ms hi hj n n2 dd dd2 sl sl2 _ 0 rfl (Nat.zero_le _) (Nat.zero_le _) prog w A R _ ⟨hl, hb, by simpa using h⟩)⟩
theorem list_gt (l b : Addr) (vs ws : List Value) (ns ms : List Int) (hi : IntsAre vs ns) (hj : IntsAre ws ms) (n n2 : Nat) (dd dd2 : Option Addr) (sl sl2 : Array (Option Value)) :
    Meets (Builtin.«list.__gt__» ⟨[.ref l, .ref b], []⟩)
      (fun _ R s => s.heap.get? l = some { cls := .type "list", dict := dd, data := .seq vs.toArray n, slots := sl } ∧ s.heap.get? b = some { cls := .type "list", dict := dd2, data := .seq ws.toArray n2, slots := sl2 } ∧
        R (.ok (.ret (.bool (ltInts ms ns)))) s) := by
  intro prog w A R s h
  obtain ⟨hp, g, d, tk, os⟩ := s; obtain ⟨hl, hb, h⟩ := h
  have f3 := AutoSeq1.sub_list_list
  wp_walk using wpAny_loadPart' hl, wpAny_loadPart' hb
  exact ⟨plainId_quiet plain_eq_loop _, codeAny_builtin entry_eq_loop (by
    rw [Around.under_plainId plain_eq_loop _]
    exact gt_loop l b vs ws ns ms hi hj n n2 dd dd2 sl sl2 _ 0 rfl (Nat.zero_le _) (Nat.zero_le _) prog w A R _ ⟨hl, hb, by simpa using h⟩)⟩
theorem tuple_lt (l b : Addr) (vs ws : List Value) (ns ms : List Int) (hi : IntsAre vs ns) (hj : IntsAre ws ms) (n n2 : Nat) (dd dd2 : Option Addr) (sl sl2 : Array (Option Value)) :
    Meets (Builtin.«tuple.__lt__» ⟨[.ref l, .ref b], []⟩)
      (fun _ R s => s.heap.get? l = some { cls := .type "tuple", dict := dd, data := .seq vs.toArray n, slots := sl } ∧ s.heap.get? b = some { cls := .type "tuple", dict := dd2, data := .seq ws.toArray n2, slots := sl2 } ∧
        R (.ok (.ret (.bool (ltInts ns ms)))) s) :=
  .of_wp fun prog w A R s h => by
    obtain ⟨hp, g, d, tk, os⟩ := s; obtain ⟨hl, hb, h⟩ := h
    have f2 := AutoSeq1.sub_tuple_tuple
    have l1 := hi.length
    have l2 := hj.length
    wp_walk using wpAny_loadPart' hl, wpAny_loadPart' hb, wpAny_forIn_list _ (fun rest b s' => b.1 = none ∧ s' = ⟨hp, g, d, tk, os⟩ ∧ ∃ i, i ≤ ns.length ∧ i ≤ ms.length ∧ rest = (vs.zip ws).drop i ∧
      R (.ok (.ret (.bool (ltInts (ns.drop i) (ms.drop i))))) ⟨hp, g, d, tk, os⟩) _
    case turn =>
      rintro ⟨y, x⟩ rest b s' ⟨hb', rfl, i, hin, him, hz, hR⟩
      have hlt : i < (vs.zip ws).length := by
        rcases Nat.lt_or_ge i (vs.zip ws).length with h' | h'
        · exact h'
        · rw [List.drop_of_length_le h'] at hz; cases hz
      have hZ : (vs.zip ws).length = min vs.length ws.length := by simp
      have h1 : i < ns.length := by lia
      have h2 : i < ms.length := by lia
      obtain ⟨t, ht⟩ := IntsAre.get hi i h1
      obtain ⟨u, hu⟩ := IntsAre.get hj i h2
      rw [List.drop_eq_getElem_cons hlt] at hz
      injection hz with hyx hrest
      have hy : y = .int ns[i] t := by
        have := congrArg Prod.fst hyx
        simp only [List.getElem_zip] at this
        rw [this]
        exact Option.some.inj ((List.getElem?_eq_getElem (by lia)).symm.trans ht)
      have hx : x = .int ms[i] u := by
        have := congrArg Prod.snd hyx
        simp only [List.getElem_zip] at this
        rw [this]
        exact Option.some.inj ((List.getElem?_eq_getElem (by lia)).symm.trans hu)
      subst hy hx
      rw [List.drop_eq_getElem_cons h1, List.drop_eq_getElem_cons h2] at hR
      refine wpAny_bind (wpAny_eqBool_int ?_)
      cases e : (ns[i] == ms[i]) with
      | true =>
        have h' : R (.ok (.ret (.bool (ltInts (ns.drop (i + 1)) (ms.drop (i + 1)))))) ⟨hp, g, d, tk, os⟩ := by
          have : ltInts (ns[i] :: ns.drop (i + 1)) (ms[i] :: ms.drop (i + 1)) = ltInts (ns.drop (i + 1)) (ms.drop (i + 1)) := by
            show (if (ns[i] == ms[i]) = true then _ else _) = _
            rw [if_pos e]
          rw [this] at hR; exact hR
        wp_walk
        exact ⟨rfl, rfl, i + 1, h1, h2, hrest, h'⟩
      | false =>
        have h' : R (.ok (.ret (.bool (decide (ns[i] < ms[i]))))) ⟨hp, g, d, tk, os⟩ := by
          have : ltInts (ns[i] :: ns.drop (i + 1)) (ms[i] :: ms.drop (i + 1)) = decide (ns[i] < ms[i]) := by
            show (if (ns[i] == ms[i]) = true then _ else _) = _
            rw [if_neg (by rw [e]; exact Bool.false_ne_true)]
          rw [this] at hR; exact hR
        simp only [Bool.not_false, if_true]
        refine wpAny_bind (wpAny_rule ?_)
        refine wpAny_bind (lt_at ?_)
        wp_walk
        exact ⟨_, rfl, h'⟩
    case fin =>
      rintro ⟨b1, b2⟩ s' ⟨hb', rfl, i, hin, him, hz, hR⟩
      simp only at hb'
      subst hb'
      have hz' : (vs.zip ws).length ≤ i := by
        have := congrArg List.length hz
        simp only [List.length_nil, List.length_drop] at this
        lia
      have hZ : (vs.zip ws).length = min vs.length ws.length := by simp
      wp_walk
      refine ⟨_, rfl, ?_⟩
      show R (.ok (.ret (.bool (decide (vs.toArray.size < ws.toArray.size))))) _
      have e : ltInts (ns.drop i) (ms.drop i) = decide (vs.toArray.size < ws.toArray.size) := by
        rcases Nat.lt_or_ge i ms.length with q | q
        · have hd : ns.drop i = [] := by simp; lia
          rw [hd, List.drop_eq_getElem_cons q]
          show true = _
          simp; lia
        · have hd : ms.drop i = [] := by simp; lia
          rw [hd, ltInts_nil_right]
          simp; lia
      rw [← e]
      exact hR
    case h =>
      exact ⟨rfl, rfl, 0, Nat.zero_le _, Nat.zero_le _, rfl, h⟩
end Mine
end

/-! text M8 -/
section
set_option bootstrap.genMatcherCode false
set_option maxRecDepth 100000
open PySem PySem.Calls PyProof.Rows PySem.W
namespace Mine
section
variable {w : World} {G : Heap} {fr : List PySem.Env} {A : Around} {n : Nat} {E : Value → Shared → Prop} {s s' s'' : Shared}

theorem ints_are {P : Addr → Prop} {h : Heap} : ∀ {vs : List Value} {ds : List V} {ns : List Int}, RepL P h vs ds → ints? ds = some ns → IntsAre vs ns
  | _, _, _, .nil, e => by cases e; exact .nil
  | _, _, ns, .cons (v := v) (d := d) x r, e => by
    cases x with
    | int i t =>
      simp only [ints?, Option.map_eq_some_iff] at e
      obtain ⟨l, e, rfl⟩ := e
      exact .cons i t (ints_are r e)
    | _ => simp [ints?] at e

theorem GotB.mk {b : Bool} (k : Tok) : GotB fr s b (.bool b) { s with toks := k } := ⟨rfl, St.toks ..⟩

theorem in_bools {o : CmpOp} {a b : Value} {r : Bool} (h : wpAny (model PR w) A (compareOp o a b) (fun v s' => v = .bool r ∧ s' = s) E s) : wpAny (model PR w) A (compareOp o a b) (GotB fr s r) E s :=
  wpAny_mono h (fun _ _ ⟨e, q⟩ => ⟨e, q ▸ St.refl _⟩) fun _ _ x => x

theorem list_order {a b : Addr} {vs ws : List Value} {ns ms : List Int} (ha : s.heap.IsList a vs.toArray) (hb : s.heap.IsList b ws.toArray) (hi : IntsAre vs ns) (hj : IntsAre ws ms) (hu : A.units + 200 < cLine) :
    wpAny (model PR w) A (compareOp .Lt (.ref a) (.ref b)) (GotB fr s (ltInts ns ms)) E s ∧ wpAny (model PR w) A (compareOp .Gt (.ref a) (.ref b)) (GotB fr s (ltInts ms ns)) E s := by
  obtain ⟨⟨cls, dd, data, sl⟩, ho, hc, n, hd⟩ := id ha
  obtain ⟨⟨cls2, dd2, data2, sl2⟩, ho2, hc2, n2, hd2⟩ := id hb
  simp only at hc hd hc2 hd2
  subst hc hd hc2 hd2
  constructor
  · exact cmp_ofLt (wpAny_richCompare_same_room ha.typeIs hb.typeIs PySem.F.slot_list_lt
      (call_meets (E := E) PySem.F.slot_list_lt ha.typeIs PySem.F.entry_list_lt (PySem.F.args_list_lt_2 _ _) (list_lt a b vs ws ns ms hi hj n n2 dd dd2 sl sl2) ⟨ho, ho2, ⟨nofun, GotB.mk s.toks⟩⟩) (by omega))
  · exact cmp_ofGt (wpAny_richCompare_same_room ha.typeIs hb.typeIs PySem.F.slot_list_gt
      (call_meets (E := E) PySem.F.slot_list_gt ha.typeIs PySem.F.entry_list_gt (PySem.F.args_list_gt_2 _ _) (list_gt a b vs ws ns ms hi hj n n2 dd dd2 sl sl2) ⟨ho, ho2, ⟨nofun, GotB.mk s.toks⟩⟩) (by omega))
theorem tuple_order {a b : Addr} {vs ws : List Value} {ns ms : List Int} (ha : IsTup s.heap a vs.toArray) (hb : IsTup s.heap b ws.toArray) (hi : IntsAre vs ns) (hj : IntsAre ws ms) (hu : A.units + 200 < cLine) :
    wpAny (model PR w) A (compareOp .Lt (.ref a) (.ref b)) (GotB fr s (ltInts ns ms)) E s := by
  obtain ⟨⟨cls, dd, data, sl⟩, ho, hc, n, hd⟩ := id ha
  obtain ⟨⟨cls2, dd2, data2, sl2⟩, ho2, hc2, n2, hd2⟩ := id hb
  simp only at hc hd hc2 hd2
  subst hc hd hc2 hd2
  exact cmp_ofLt (wpAny_richCompare_same_room ha.typeIs hb.typeIs PySem.F.slot_tuple_lt
      (call_meets (E := E) PySem.F.slot_tuple_lt ha.typeIs PySem.F.entry_tuple_lt (PySem.F.args_tuple_lt_2 _ _) (tuple_lt a b vs ws ns ms hi hj n n2 dd dd2 sl sl2) ⟨ho, ho2, ⟨nofun, GotB.mk s.toks⟩⟩) (by omega))

theorem toPs_any (l : List V) (p : PyData → Bool) : (V.toPs l).any p = l.any fun y => p y.toP := by
  induction l with
  | nil => rfl
  | cons v r ih => simp [V.toPs, ih]

theorem eqs {x y : V} {t : Bool} (e : eqV x y = some t) : (x.ok 8 = true ∧ y.ok 8 = true) ∧ PyData.eqv x.toP y.toP = t :=
  ⟨Bool.and_eq_true_iff.mp (ite_some e).1, (ite_some e).2⟩
theorem lts {P : Addr → Prop} {h : Heap} {vs ws : List Value} {l m : List V} {r : Bool} (e : ltLs l m = some r) (rl : RepL P h vs l) (rm : RepL P h ws m) : ∃ ns ms, IntsAre vs ns ∧ IntsAre ws ms ∧ ltInts ns ms = r := by
  obtain ⟨ns, e1, e⟩ := Option.bind_eq_some_iff.mp e
  obtain ⟨ms, e2, e⟩ := Option.bind_eq_some_iff.mp e
  exact ⟨ns, ms, ints_are rl e1, ints_are rm e2, Option.some.inj e⟩

theorem cmp_eq_ok {x y : V} {r : Bool} {a b : Value} (h : eqV x y = some r) (ra : Rep Tr s.heap a x) (rb : Rep Tr s.heap b y) (hu : A.units + 200 < cLine) :
    wpAny (model PR w) A (compareOp .Eq a b) (GotB fr s r) E s ∧ wpAny (model PR w) A (compareOp .NotEq a b) (GotB fr s (!r)) E s := by
  obtain ⟨⟨c1, c2⟩, rfl⟩ := eqs h
  obtain ⟨as, r1⟩ := ra.reads 8 c1
  obtain ⟨bs, r2⟩ := rb.reads 8 c2
  have l1 := V.lay 8 x c1
  have l2 := V.lay 8 y c2
  exact ⟨SeqAt.compareEq_reads r1 r2 l1.1 l2.1 (by have := l1.2; have := Nat.min_le_left x.toP.depth y.toP.depth; lia) (GotB.mk s.toks), SeqAt.compareNe_reads r1 r2 l1.1 l2.1 (by have := l1.2; have := Nat.min_le_left x.toP.depth y.toP.depth; lia) (GotB.mk s.toks)⟩

theorem cmp_lt_ok {x y : V} {r : Bool} {a b : Value} (h : ltV x y = some r) (ra : Rep Tr s.heap a x) (rb : Rep Tr s.heap b y) (hu : A.units + 200 < cLine) : wpAny (model PR w) A (compareOp .Lt a b) (GotB fr s r) E s := by
  cases ra with
  | int i t =>
    obtain ⟨j, e, h⟩ := Option.bind_eq_some_iff.mp h
    obtain ⟨u, rfl⟩ := rb.asInt e
    cases h
    exact P.lt_int (GotB.mk s.toks)
  | tuple ht rl =>
    obtain ⟨q, e, h⟩ := Option.bind_eq_some_iff.mp h
    obtain ⟨_, _, rfl, ht2, rl2⟩ := rb.asTup e
    obtain ⟨ns, ms, i1, i2, rfl⟩ := lts h rl rl2
    exact tuple_order ht ht2 i1 i2 hu
  | list p ht rl =>
    obtain ⟨q, e, h⟩ := Option.bind_eq_some_iff.mp h
    obtain ⟨_, _, rfl, ht2, rl2⟩ := rb.asList e
    obtain ⟨ns, ms, i1, i2, rfl⟩ := lts h rl rl2
    exact (list_order ht ht2 i1 i2 hu).1
  | _ => cases h

theorem cmp_gt_ok {x y : V} {r : Bool} {a b : Value} (h : gtV x y = some r) (ra : Rep Tr s.heap a x) (rb : Rep Tr s.heap b y) (hu : A.units + 200 < cLine) : wpAny (model PR w) A (compareOp .Gt a b) (GotB fr s r) E s := by
  cases ra with
  | int i t =>
    obtain ⟨j, e, h⟩ := Option.bind_eq_some_iff.mp h
    obtain ⟨u, rfl⟩ := rb.asInt e
    cases h
    exact P.gt_int (GotB.mk s.toks)
  | list p ht rl =>
    obtain ⟨q, e, h⟩ := Option.bind_eq_some_iff.mp h
    obtain ⟨_, _, rfl, ht2, rl2⟩ := rb.asList e
    obtain ⟨ns, ms, i1, i2, rfl⟩ := lts h rl2 rl
    exact (list_order ht ht2 i2 i1 hu).2
  | _ => cases h

theorem cmp_in_ok {x y : V} {r : Bool} {a b : Value} (h : inV x y = some r) (ra : Rep Tr s.heap a x) (rb : Rep Tr s.heap b y) (hu : A.units + 200 < cLine) : wpAny (model PR w) A (compareOp .In a b) (GotB fr s r) E s := by
  cases id rb with
  | str yy u =>
    obtain ⟨j, e, h⟩ := Option.bind_eq_some_iff.mp h
    obtain ⟨u, rfl⟩ := ra.asStr e
    cases h
    exact P.in_str (GotB.mk s.toks)
  | @list c vs ds p ht rl =>
    obtain ⟨q, e⟩ := ite_some h
    obtain ⟨q1, q2⟩ := and2 q
    obtain ⟨as, r1⟩ := ra.reads 8 q1
    obtain ⟨bs, r2⟩ := rb.reads 8 q2
    have l1 := V.lay 8 x q1
    have l2 := V.lay 8 (.list ds) q2
    refine SeqAt.in_list_reads r2 r1 l2.1 l1.1 (by have := l1.2; have := Nat.min_le_right (PyData.depthAll (V.toPs ds)) x.toP.depth; lia) ?_
    rw [toPs_any, e]
    exact GotB.mk s.toks
  | _ => cases h

theorem none_of {P : Addr → Prop} {hp : Heap} {b : Value} {y : V} (r : Rep P hp b y) (e : isNone y = true) : b = .none := by
  cases r <;> first | rfl | (cases e; done)
theorem plain_is {P : Addr → Prop} {hp : Heap} {b : Value} {y : V} (r : Rep P hp b y) : (b == Value.none) = isNone y := by
  cases r <;> rfl

theorem cmp_ok {o : CmpOp} {x y : V} {r : Bool} {a b : Value} (h : cmpV o x y = some r) (ra : Rep Tr s.heap a x) (rb : Rep Tr s.heap b y) (R : Rm G fr A n s.heap) :
    wpAny (model PR w) A (compareOp o a b) (GotB fr s r) E s := by
  have hu := R.unitsOk
  cases o with
  | Eq => exact (cmp_eq_ok h ra rb hu).1
  | NotEq =>
    obtain ⟨t, e, rfl⟩ := Option.map_eq_some_iff.mp h
    exact (cmp_eq_ok e ra rb hu).2
  | Lt => exact cmp_lt_ok h ra rb hu
  | LtE => exact int2_go (C := fun a b => wpAny (model PR w) A (compareOp .LtE a b) (GotB fr s r) E s) h ra rb fun _ _ _ _ e => by cases e; exact P.le_int (GotB.mk s.toks)
  | Gt => exact cmp_gt_ok h ra rb hu
  | GtE => exact int2_go (C := fun a b => wpAny (model PR w) A (compareOp .GtE a b) (GotB fr s r) E s) h ra rb fun _ _ _ _ e => by cases e; exact P.ge_int (GotB.mk s.toks)
  | In => exact cmp_in_ok h ra rb hu
  | Is =>
    obtain ⟨c, rfl⟩ := ite_some h
    obtain rfl := none_of rb c
    rw [← plain_is ra]
    cases ra <;> exact wpAny_is_plain rfl (GotB.mk s.toks)
  | IsNot =>
    obtain ⟨c, rfl⟩ := ite_some h
    obtain rfl := none_of rb c
    rw [← plain_is ra]
    cases ra <;> exact wpAny_isNot_plain rfl (GotB.mk s.toks)
  | NotIn => cases h

noncomputable def GotT (fr : List PySem.Env) (s : Shared) (b : Bool) : Bool → Shared → Prop := fun v s' => v = b ∧ St fr s s'

theorem truth_ok {x : V} {r : Bool} {a : Value} (h : truthV x = some r) (ra : Rep Tr s.heap a x) (hz : ∀ l, x = .list l → l.length ≤ cap) : wpAny (model PR w) A (truthy a) (GotT fr s r) E s := by
  cases ra with
  | none => cases h; exact PyProof.Rows.truthy_none ⟨rfl, St.refl _⟩
  | bool b => cases h; exact wpAny_truthy_bool ⟨rfl, St.refl _⟩
  | int i t => cases h; exact P.truthy_int ⟨rfl, St.refl _⟩
  | list p ht rl =>
    simp only [truthV] at h
    cases h
    rename_i ad vs ds
    have e := rl.length
    have z := hz _ rfl
    have cl : cap = 65536 := rfl
    refine wpAny_truthy_list ht (by simp; omega) ⟨?_, St.toks ..⟩
    cases rl <;> simp
  | _ => simp only [truthV] at h; cases h

theorem subscripted_ops (slice : Expr) (o i : Value) : ∃ ops, subscripted slice false o i = operate ops (getItem o i) := by
  cases slice with
  | Slice l u st p => cases st <;> exact ⟨_, rfl⟩
  | _ => exact ⟨_, rfl⟩

theorem idxNat_spec {k : Int} {m j : Nat} (h : idxNat k m = some j) : j < m ∧ ((0 ≤ k ∧ k < m ∧ j = k.toNat) ∨ (k < 0 ∧ -(m : Int) ≤ k ∧ j = (k + m).toNat)) := by
  unfold idxNat at h
  split at h
  · rename_i h0
    obtain ⟨c, rfl⟩ := ite_some h
    exact ⟨by omega, .inl ⟨h0, c, rfl⟩⟩
  · rename_i h0
    obtain ⟨c, rfl⟩ := ite_some h
    exact ⟨by omega, .inr ⟨by omega, c, rfl⟩⟩
theorem idxNat_seq {k : Int} {m j : Nat} (h : idxNat k m = some j) : seqIndex? k m = some j := by
  obtain ⟨h1, h | h⟩ := idxNat_spec h
  · obtain ⟨a, b, rfl⟩ := h
    unfold seqIndex?
    simp only [show ¬ k < 0 by omega, if_false]
    rw [if_pos (by simp; omega)]
  · obtain ⟨a, b, rfl⟩ := h
    unfold seqIndex?
    simp only [a, if_true]
    rw [if_pos (by simp; omega)]

theorem ite_some2 {α : Type} {c : Prop} [Decidable c] {o : Option α} {b : α} (h : (if c then o else .none) = some b) : c ∧ o = some b := by
  by_cases q : c
  · rw [if_pos q] at h; exact ⟨q, h⟩
  · rw [if_neg q] at h; cases h

inductive BoundIs : Value → Option V → Prop
  | none : BoundIs .none .none
  | int (i : Int) (t : Tok) : BoundIs (.int i t) (some (.int i))

theorem item_ok {value slice : Expr} {x y v : V} {a b : Value} (h : idxV x y = some v) (ra : Rep Tr s.heap a x) (rb : Rep Tr s.heap b y) :
    wpAny (model PR w) A (subscriptTail value slice a b) (Got fr s v) E s := by
  obtain ⟨k, e, h⟩ := Option.bind_eq_some_iff.mp h
  obtain ⟨u, rfl⟩ := rb.asInt e
  obtain ⟨hk, h⟩ := ite_some2 h
  obtain ⟨k1, k2⟩ := small_bounds hk
  obtain ⟨ops, hs⟩ := subscripted_ops slice a (.int k u)
  cases ra with
  | list p ht rl =>
    simp only [Option.bind_eq_some_iff] at h
    obtain ⟨j, e, hv⟩ := h
    obtain ⟨v', e1, r1⟩ := rl.get j v hv
    have hl := rl.length
    obtain ⟨c1, c2⟩ := idxNat_spec e
    refine tail_any ht.typeIs PySem.slot_list_getitem.lookup ?_ hs
    rcases c2 with ⟨p1, p2, rfl⟩ | ⟨p1, p2, rfl⟩
    · exact wpAny_getItem_list ht p1 (by omega) (by simpa using e1) ⟨r1, St.refl _⟩
    · exact wpAny_getItem_list_neg ht p1 (by simp; omega) (by omega) (by simp only [List.size_toArray, List.getElem?_toArray]; rw [hl]; exact e1) ⟨r1, St.refl _⟩
  | tuple ht rl =>
    simp only [Option.bind_eq_some_iff] at h
    obtain ⟨j, e, hv⟩ := h
    obtain ⟨v', e1, r1⟩ := rl.get j v hv
    have hl := rl.length
    exact tail_any ht.typeIs PySem.F.slot_tuple_getitem.lookup (PyProof.Rows.getItem_tuple ht (by omega) (by omega) (by simpa [hl] using idxNat_seq e) (by simpa using e1) ⟨r1, St.refl _⟩) hs
  | bytes l t =>
    dsimp only at h
    by_cases c : 0 ≤ k ∧ l.length ≤ cap
    · rw [if_pos c] at h
      simp only [Option.map_eq_some_iff] at h
      obtain ⟨z, e, rfl⟩ := h
      have hlt : k.toNat < l.length := by
        rcases Nat.lt_or_ge k.toNat l.length with q | q
        · exact q
        · rw [List.getElem?_eq_none q] at e; cases e
      have ez : l.getD k.toNat 0 = z := by rw [List.getD_eq_getElem?_getD, e]; rfl
      have cl : cap = 65536 := rfl
      refine tail_any (typeIs_bytes _ l.toArray t) FB.slot_bytes_getitem.lookup (getItem_bytes (by omega) c.1 (by omega) ?_) hs
      rw [ez]
      exact Got.int ..
    · rw [if_neg c] at h; cases h
  | str p t =>
    dsimp only at h
    by_cases c : (decide (0 ≤ k) && decide (k < p.length)) = true
    · rw [if_pos c] at h
      simp only [Bool.and_eq_true, decide_eq_true_eq] at c
      simp only [Option.map_eq_some_iff] at h
      obtain ⟨z, e, rfl⟩ := h
      refine tail_any (typeIs_str _ p t) PySem.F.slot_str_getitem.lookup (P.getItem_str ?_ ?_ (Got.str ..)) hs
      · simp; omega
      · unfold seqIndex?
        simp only [show ¬ k < 0 by omega, if_false]
        rw [if_pos (by simp; omega)]
        exact e
    · rw [if_neg c] at h; cases h
  | _ => cases h
end
end Mine
end

/-! text M9 -/
section
set_option bootstrap.genMatcherCode false
set_option maxRecDepth 100000
open PySem PySem.Calls PyProof.Rows PySem.W
namespace Mine
section
variable {w : World} {A : Around} {E : Value → Shared → Prop} {s : Shared}

theorem hint_bytes {b : Array UInt8} {t : Tok} {Q : Bool → Shared → Prop} (h : Q false s) : wpAny (model PR w) A (Builtin.List.listLengthHint (.bytes b t)) Q E s := by
  unfold Builtin.List.listLengthHint
  refine wpAny_bind (wpAny_specialOf (T := "bytes") (v := .bytes b t) rfl FB.slot_bytes_len.lookup ?_)
  generalize hid : ("bytes.__len__" : String) = id0
  wp_delta
  rw [show splitId id0 = some ("bytes", "__len__") from by subst hid; decide +kernel]
  subst hid
  refine wpAny_bind (wpAny_isInstance (T := "bytes") (b := true) rfl (by rw [isSubtype_type]; kernel_rfl) ?_)
  refine wpAny_ite_split (fun hab => absurd hab (by decide)) (fun _ => ?_)
  refine wpAny_ite_split (fun _ => ?_) (fun hab => absurd (by decide +kernel) hab)
  refine wpAny_bind (wpAny_typeOf (T := "bytes") (v := .bytes b t) rfl ?_)
  exact wpAny_pure h

/-- list of a bytes: the iterator's walk -/
theorem extend_bytes {R : Result → Shared → Prop} (hh : A.handled = none) (b : Array UInt8) (t : Tok) (S : Addr) (res : Value) (c₀ : Nat) (hS : s.heap.get? S = some { cls := .type "list", data := .seq #[] c₀ })
    (hR : ∀ h' tk acc' c', (∀ b o, b ≠ S → s.heap.get? b = some o → h'.get? b = some o) → h'.get? S = some { cls := .type "list", dict := none, data := .seq acc' c', slots := #[] } →
      ItemsOf (fun i v => ∃ c u, b[i]? = some c ∧ v = .int (c.toNat : Int) u) acc' b.size → R (.ok (.ret res)) { s with heap := h', toks := tk }) (hn : b.size ≤ sizeLine) :
    wpAny (model PR w) A.in1 (Builtin.List.listExtendWith (.ref S) (.bytes b t) res)
      (fun fin s' => match fin with | .done f => R (.ok f) s' | .again c' => c'.quiet = true ∧ codeAny (model PR w) A c' R s') (fun e s' => R (.error e) s') s := by
  have hSI : S ≠ s.heap.objs.size := Nat.ne_of_lt (Heap.lt_size hS)
  have hSf : S ∉ [s.heap.objs.size] := fun hm => hSI (List.mem_singleton.mp hm)
  unfold Builtin.List.listExtendWith
  refine wpAny_bind (wpAny_typeOf (T := "bytes") (v := .bytes b t) rfl ?_)
  have h1 : Builtin.List.listSameRef (.ref S) (.bytes b t) = false := rfl
  have h2 : (Value.type "bytes" == Value.type "list") = false := by decide
  have h3 : (Value.type "bytes" == Value.type "tuple") = false := by decide
  simp only [h1, h2, h3, Bool.or_false, Bool.false_eq_true, if_false]
  refine wpAny_bind (KBw.pyIter_bytes ?_)
  refine wpAny_bind (wpAny_holding ?_)
  refine wpAny_bind (m := Builtin.List.listLengthHint (.bytes b t)) (hint_bytes ?_)
  refine wpAny_pure ?_
  refine wpAny_ite_split (fun hab => absurd hab (by decide +kernel)) fun _ => ?_
  refine wpAny_pure ⟨plainId_quiet PySem.F.plain_extend_loop _, codeAny_extend_loopS (Walks.toS (KBw.walks (w := w) (A := A.in1) hh s.heap.objs.size b t)) hn _ hSf _ b.size 0 _ _ _ rfl (Nat.zero_le _) ?_ (Heap.get?_push_of_some _ hS) (ItemsOf.nil _) fun s' acc' c' hm hS' hacc => ?_⟩
  · exact ⟨_, Heap.get?_push_size _ rfl, rfl, rfl⟩
  rw [Moved.eq_with hm]
  refine hR s'.heap s'.toks acc' c' (fun b ob hb e => hm.heap b ob (fun hmem => ?_) (Heap.get?_push_of_some _ e)) hS' hacc
  rcases List.mem_cons.mp hmem with e' | hmem
  · exact hb e'
  · exact absurd (Heap.lt_size e) (by rw [List.mem_singleton.mp hmem]; exact Nat.lt_irrefl _)

theorem list_of_bytes {Q : Value → Shared → Prop} (hh : A.handled = none) (b : Array UInt8) (t : Tok)
    (hQ : ∀ h' tk acc' c', (∀ b o, s.heap.get? b = some o → h'.get? b = some o) →
      h'.get? s.heap.objs.size = some { cls := .type "list", dict := none, data := .seq acc' c', slots := #[] } → ItemsOf (fun i v => ∃ c u, b[i]? = some c ∧ v = .int (c.toNat : Int) u) acc' b.size → Q (.ref s.heap.objs.size) { s with heap := h', toks := tk }) (hn : b.size ≤ sizeLine) :
    wpAny (model PR w) A (call (.type "list") [.bytes b t]) Q E s := by
  refine callType_codes (Q₁ := fun obj s₁ => obj = .ref s.heap.objs.size ∧ s₁ = { s with heap := s.heap.push { cls := .type "list", data := .seq #[] } }) PySem.F.called_list (PySem.F.typeCall_list_1 _) PySem.F.entry_list_init
    (code_list_new _ ⟨rfl, rfl⟩) fun obj s₁ h₁ => ?_
  obtain ⟨rfl, rfl⟩ := h₁
  have hS : (s.heap.push { cls := .type "list", data := .seq #[] }).get? s.heap.objs.size = some { cls := .type "list", data := .seq #[] } := Heap.get?_push_size _ rfl
  refine ⟨⟨_, hS, rfl⟩, PySem.F.args_list_init_2 _ _, ?_⟩
  show wpAny _ A.in1.in1 (do let old ← Builtin.List.listItems (.ref s.heap.objs.size); Builtin.List.listUpdate (.ref s.heap.objs.size) (fun _ => #[]); letGo old.toList.reverse; Builtin.List.listExtendWith (.ref s.heap.objs.size) (.bytes b t) .none) _ _ _
  refine wpAny_bind ?_
  unfold Builtin.List.listItems
  refine wpAny_bind (wpAny_seqItems hS rfl (wpAny_pure ?_))
  show wpAny _ _ (updateSeq s.heap.objs.size (fun _ => #[]) >>= fun _ => letGo (#[] : Array Value).toList.reverse >>= fun _ => Builtin.List.listExtendWith (.ref s.heap.objs.size) (.bytes b t) .none) _ _ _
  refine wpAny_bind (wpAny_updateSeq hS rfl ?_)
  have hS₂ := Heap.get?_update_self (Obj.mapSeq (fun _ => (#[] : Array Value))) hS rfl
  have oth : ∀ b o, b ≠ s.heap.objs.size → (s.heap.push { cls := .type "list", data := .seq #[] }).get? b = some o → ((s.heap.push { cls := .type "list", data := .seq #[] }).update s.heap.objs.size (Obj.mapSeq (fun _ => (#[] : Array Value)))).get? b = some o :=
    fun b o hb e => (Heap.get?_update_other _ _ (Ne.symm hb)).trans e
  refine wpAny_bind (wpAny_letGo ?_)
  refine extend_bytes (A := A.in1) hh b t _ .none _ hS₂ (fun h' tk acc' c' hk hS' hacc => ?_) hn
  exact ⟨rfl, hQ h' tk acc' c' (fun b o e => hk b o (Nat.ne_of_lt (Heap.lt_size e)) (oth b o (Nat.ne_of_lt (Heap.lt_size e)) (Heap.get?_push_of_some _ e))) hS' hacc⟩
end
end Mine
end

/-! text M10 -/
section
set_option bootstrap.genMatcherCode false
set_option maxRecDepth 100000
open PySem PySem.Calls PyProof.Rows PySem.W
namespace Mine
section
variable {w : World} {G : Heap} {fr : List PySem.Env} {A : Around} {n : Nat} {E : Value → Shared → Prop} {s s' s'' : Shared}

theorem BoundIs.part {v : Value} {o : Option V} {k : Option Int} (h : BoundIs v o) (e : boundV o = some k) : IsPart v k ∧ (∃ p : Option (Int × Tok), v = partValue p ∧ p.map (·.1) = k) := by
  cases h with
  | none => cases e; exact ⟨.none, .none, rfl, rfl⟩
  | int i t =>
    simp only [boundV] at e
    obtain ⟨_, rfl⟩ := ite_some e
    exact ⟨.int i t, some (i, t), rfl, rfl⟩

theorem clip_min {n : Nat} {a : Int} (h : 0 ≤ a) : clipAt n a = min a.toNat n := by
  obtain ⟨k, rfl⟩ := Int.eq_ofNat_of_zero_le h
  unfold clipAt
  rw [if_neg (Int.not_lt.mpr h), Int.toNat_natCast]
  rcases Nat.le_total k n with q | q
  · rw [Int.min_eq_left (Int.ofNat_le.mpr q), Nat.min_eq_left q, Int.max_eq_right h, Int.toNat_natCast]
  · rw [Int.min_eq_right (Int.ofNat_le.mpr q), Nat.min_eq_right q, Int.max_eq_right (Int.natCast_nonneg n), Int.toNat_natCast]
theorem drop_take_min {α : Type} (l : List α) (a b : Nat) : (l.take (min b l.length)).drop (min a l.length) = (l.take b).drop a := by
  rw [← List.take_eq_take_min]
  by_cases q : a ≤ l.length
  · rw [Nat.min_eq_left q]
  · have hl := List.length_take_le' b l
    rw [Nat.min_eq_right (Nat.le_of_not_le q), List.drop_eq_nil_of_le hl, List.drop_eq_nil_of_le (Nat.le_trans hl (Nat.le_of_not_le q))]
theorem slicePick_sliceL {vs : List Value} {lo hi : Option Int} {us : List Value} (h : sliceL vs lo hi = some us) : slicePick vs.toArray lo hi none = us.toArray := by
  unfold sliceL at h
  split at h
  · cases h; exact slicePick_all _
  · obtain ⟨c, rfl⟩ := ite_some h
    rename_i a
    have := slicePick_from' vs.toArray a.toNat
    rw [Int.toNat_of_nonneg c] at this
    simpa using this
  · obtain ⟨c, rfl⟩ := ite_some h
    rename_i a
    have := slicePick_upto' vs.toArray a.toNat
    rw [Int.toNat_of_nonneg c] at this
    simpa using this
  · obtain ⟨c, rfl⟩ := ite_some h
    rename_i a b
    obtain ⟨c1, c2⟩ := and2 c
    rw [slicePick_plain]
    show ((vs.drop (clipAt vs.length a)).take (clipAt vs.length b - clipAt vs.length a)).toArray = _
    rw [clip_min (of_decide_eq_true c1), clip_min (of_decide_eq_true c2), ← List.drop_take, drop_take_min]

theorem sliceL_rep {P : Addr → Prop} {h : Heap} {vs : List Value} {ds es : List V} {lo hi : Option Int} (r : RepL P h vs ds) (e : sliceL ds lo hi = some es) : ∃ us, sliceL vs lo hi = some us ∧ RepL P h us es := by
  unfold sliceL at e ⊢
  split at e
  · cases e; exact ⟨_, rfl, r⟩
  · obtain ⟨c, rfl⟩ := ite_some e
    exact ⟨_, if_pos c, r.drop _⟩
  · obtain ⟨c, rfl⟩ := ite_some e
    exact ⟨_, if_pos c, r.take _⟩
  · obtain ⟨c, rfl⟩ := ite_some e
    exact ⟨_, if_pos c, (r.take _).drop _⟩

theorem adjust_upto (a n : Nat) (ha : a ≤ n) : Builtin.Slice.sliceAdjust none (some (a : Int)) 1 (n : Int) = ((0 : Int), (a : Int)) := by
  unfold Builtin.Slice.sliceAdjust
  have h1 : ¬ ((1 : Int) < 0) := by lia
  have h2 : ¬ ((a : Int) < 0) := by lia
  simp only [h1, h2, if_false]
  congr 1
  lia
theorem places_upto (a : Nat) : Builtin.Slice.slicePlaces (0 : Int) (a : Int) 1 = a := by
  unfold Builtin.Slice.slicePlaces
  have h1 : (1 : Int) > 0 := by lia
  simp only [h1, if_true, Int.ediv_one]
  split <;> lia
theorem sliceApplied_upto {sl : Addr} {a n : Nat} {u : Tok} {Q : Int × Int × Nat → Shared → Prop} (hs : s.heap.IsSliceOf sl .none (.int a u) .none) (ha : a ≤ n) (h : Q ((0 : Int), 1, a) s) :
    wpAny (model PR w) A (Builtin.Slice.sliceApplied (.ref sl) (pure (n : Int))) Q E s := by
  obtain ⟨os, hos, hcs, hds⟩ := id hs
  unfold Builtin.Slice.sliceApplied Builtin.Slice.sliceFields
  refine wpAny_bind (wpAny_bind (wpAny_field hos hds (x := .none) rfl (wpAny_bind (wpAny_field hos hds (x := .int a u) rfl (wpAny_bind (wpAny_field hos hds (x := .none) rfl (wpAny_pure ?_)))))))
  refine wpAny_bind (slicePart_none ?_)
  show wpAny _ _ (if ((1 : Int) == 0) = true then _ else _) _ _ s
  rw [if_neg (by decide)]
  refine wpAny_bind (slicePart_none (wpAny_bind (slicePart_int (wpAny_bind (wpAny_pure ?_)))))
  show wpAny _ _ (match Builtin.Slice.sliceAdjust none (some (a : Int)) 1 (n : Int) with | (lo, hi) => pure (lo, (1 : Int), Builtin.Slice.slicePlaces lo hi 1)) _ _ s
  rw [adjust_upto a n ha]
  show wpAny _ _ (pure ((0 : Int), (1 : Int), Builtin.Slice.slicePlaces (0 : Int) (a : Int) 1)) _ _ s
  rw [places_upto a]
  exact wpAny_pure h
theorem pick_upto (xs : Array Value) (a : Nat) (ha : a ≤ xs.size) : ((List.range a).filterMap fun (k : Nat) => xs[((0 : Int) + (k : Int) * 1).toNat]?).toArray = (xs.toList.take a).toArray := by
  have e : (fun (k : Nat) => xs[((0 : Int) + (k : Int) * 1).toNat]?) = fun k => xs[k]? := by
    funext k
    have : ((0 : Int) + (k : Int) * 1).toNat = k := by lia
    rw [this]
  rw [e]
  clear e
  congr 1
  obtain ⟨l⟩ := xs
  simp only [List.getElem?_toArray, List.size_toArray] at ha ⊢
  induction a generalizing l with
  | zero => simp
  | succ a ih =>
    cases l with
    | nil => simp at ha
    | cons x r =>
      rw [List.range_succ_eq_map, List.filterMap_cons]
      simp only [List.getElem?_cons_zero, List.take_succ_cons, List.filterMap_map]
      congr 1
      exact ih r (by simpa using ha)
theorem getItem_tuple_upto {t sl : Addr} {items : Array Value} {a : Nat} {u : Tok} {Q : Value → Shared → Prop} (ht : IsTup s.heap t items) (hs : s.heap.IsSliceOf sl .none (.int a u) .none) (ha : a < items.size)
    (h : Q (.ref s.heap.objs.size) { s with heap := s.heap.push { cls := .type "tuple", data := .seq (items.toList.take a).toArray } })
    (hsz : items.size ≤ sizeLine) : wpAny (model PR w) A (getItem (.ref t) (.ref sl)) Q E s := by
  have hdrop : sizeOk (.seq (items.toList.take a).toArray) := by
    show (items.toList.take a).toArray.size ≤ sizeLine
    rw [List.size_toArray, List.length_take, Array.length_toList]
    lia
  obtain ⟨os, hos, hcs, hds⟩ := id hs
  have hTs : s.TypeIs (.ref sl) "slice" := ⟨os, hos, hcs⟩
  unfold getItem
  try with_reducible refine wpAny_holding ?_
  first | refine wpAny_bind (wpAny_pure ?_) | skip
  refine wpAny_bind (wpAny_sequenceKey ht.typeIs (by decide) ?_)
  refine wpAny_bind (wpAny_callSpecial?_slot (name := Str.ofString "__getitem__") ht.typeIs slot_tuple_getitem
    (wpAny_call_entry slot_tuple_getitem ht.typeIs entry_tuple_getitem ?_ (args_tuple_getitem _ _)))
  show wpAny _ _ (Builtin.Tuple.tupleItemsOf (.ref t) >>= _) _ _ s
  refine wpAny_bind (tupleItemsOf_ ht ?_)
  refine wpAny_bind (wpAny_typeOf hTs ?_)
  rw [if_pos (by decide)]
  refine wpAny_bind (sliceApplied_upto hs (Nat.le_of_lt ha) ?_)
  have hno : ¬ (((0 : Int) == 0 && (1 : Int) == 1 && a == items.size) = true) := by
    have : (a == items.size) = false := by rw [beq_eq_false_iff_ne]; lia
    rw [this]; simp
  show wpAny _ _ (if ((0 : Int) == 0 && (1 : Int) == 1 && a == items.size) = true then _ else _) _ _ s
  rw [if_neg hno, pick_upto items a (Nat.le_of_lt ha)]
  first
    | exact wpAny_bind (m := Builtin.Tuple.tupleExact _) (wpAny_newObj_type (wpAny_pure ⟨_, rfl, wpAny_pure h⟩) hdrop)
    | exact wpAny_bind (m := Builtin.Tuple.tupleExact _) (wpAny_newObj_type (wpAny_bind (wpAny_pure (wpAny_pure ⟨_, rfl, wpAny_pure h⟩))) hdrop)
    | exact wpAny_bind (wpAny_bind (m := Builtin.Tuple.tupleExact _) (wpAny_newObj_type (wpAny_pure (wpAny_pure ⟨_, rfl, wpAny_pure h⟩)) hdrop))
    | exact wpAny_bind (wpAny_bind (m := Builtin.Tuple.tupleExact _) (wpAny_newObj_type (wpAny_pure ⟨_, rfl, wpAny_pure h⟩) hdrop))

theorem slice_ok {value slice : Expr} {x v : V} {a vl vu : Value} {lo hi : Option V} {sl : Addr} (h : sliceV x lo hi = some v) (ra : Rep Tr s.heap a x) (hl : BoundIs vl lo) (hu : BoundIs vu hi) (hs : s.heap.IsSliceOf sl vl vu .none) :
    wpAny (model PR w) A (subscriptTail value slice a (.ref sl)) (Got fr s v) E s := by
  have cl := cap_line
  obtain ⟨ops, ho⟩ := subscripted_ops slice a (.ref sl)
  unfold sliceV at h
  split at h
  case h_2 => cases h
  rename_i lo' hi' e1 e2
  obtain ⟨p1, q1⟩ := hl.part e1
  obtain ⟨p2, q2⟩ := hu.part e2
  cases ra with
  | list p ht rl =>
    dsimp only at h
    obtain ⟨c, h⟩ := ite_some2 h
    simp only [Option.map_eq_some_iff] at h
    obtain ⟨es, e, rfl⟩ := h
    obtain ⟨us, e3, r3⟩ := sliceL_rep rl e
    have hlen := rl.length
    refine tail_any ht.typeIs PySem.slot_list_getitem.lookup (wpAny_getItem_list_slice ht hs p1 p2 .none nofun ?_ (by simp; lia)) ho
    rw [slicePick_sliceL e3]
    exact Got.listNew r3 s.toks
  | tuple ht rl =>
    dsimp only at h
    have hlen := rl.length
    split at h
    · rename_i k
      obtain ⟨c, rfl⟩ := ite_some h
      simp only [Bool.and_eq_true, decide_eq_true_eq] at c
      cases p1 with
      | int i t =>
        cases p2 with
        | none =>
          have hk : ((k.toNat : Nat) : Int) = k := Int.toNat_of_nonneg (by lia)
          refine tail_any ht.typeIs PySem.F.slot_tuple_getitem.lookup (getItem_tuple_from (a := k.toNat) ht (by rw [hk]; exact hs) (by lia) (by simp; lia) ?_ (by simp; lia)) ho
          exact Got.tupNew (rl.drop _) s.toks
    · rename_i k
      obtain ⟨c, rfl⟩ := ite_some h
      simp only [Bool.and_eq_true, decide_eq_true_eq] at c
      cases p2 with
      | int i t =>
        cases p1 with
        | none =>
          have hk : ((k.toNat : Nat) : Int) = k := Int.toNat_of_nonneg (by lia)
          refine tail_any ht.typeIs PySem.F.slot_tuple_getitem.lookup (getItem_tuple_upto (a := k.toNat) ht (by rw [hk]; exact hs) (by simp; lia) ?_ (by simp; lia)) ho
          exact Got.tupNew (rl.take _) s.toks
    · cases h
  | str p t =>
    dsimp only at h
    obtain ⟨c, rfl⟩ := ite_some h
    obtain ⟨l1, b1, b2⟩ := q1
    obtain ⟨l2, b3, b4⟩ := q2
    subst b2 b4
    refine tail_any (typeIs_str _ p t) PySem.F.slot_str_getitem.lookup (wpAny_getItem_str_slice (l := l1) (u := l2) (st := none) (by rw [b1, b3] at hs; exact hs) rfl (post_val_or_str ⟨Nat.le_trans (Txt.slice_le p _ _) (by lia), fun t' k => Got.str ..⟩)) ho
  | _ => dsimp only at h; cases h

theorem len_ok {x v : V} {a : Value} (h : lenV x = some v) (ra : Rep Tr s.heap a x) : wpAny (model PR w) A (call (.builtin "len") [a]) (Got fr s v) E s := by
  have cl : cap = 65536 := rfl
  cases ra with
  | list p ht rl =>
    simp only [lenV] at h
    obtain ⟨c, rfl⟩ := ite_some h
    have hlen := rl.length
    refine Calls.call_len_list ht (by simp; lia) ?_
    simp only [List.size_toArray, hlen]
    exact Got.int ..
  | bytes l t =>
    simp only [lenV] at h
    obtain ⟨c, rfl⟩ := ite_some h
    refine PySem.W.len_bytes (by simp; lia) ?_
    simp only [List.size_toArray]
    exact Got.int ..
  | str p t =>
    simp only [lenV] at h
    obtain ⟨c, rfl⟩ := ite_some h
    exact P.len_str (by lia) (Got.int ..)
  | _ => simp only [lenV] at h; cases h

theorem min_ok {x y v : V} {a b : Value} (h : minV x y = some v) (ra : Rep Tr s.heap a x) (rb : Rep Tr s.heap b y) (R : Rm G fr A n s.heap) : wpAny (model PR w) A (call (.builtin "min") [a, b]) (Got fr s v) E s := by
  obtain ⟨i, j, rfl, rfl, h⟩ := int2_inv h
  obtain ⟨t, rfl⟩ := ra.asInt rfl
  obtain ⟨u, rfl⟩ := rb.asInt rfl
  cases h
  refine min_two_ints R.handled fun h' tk hk => ?_
  by_cases c : j < i
  · rw [if_pos c, if_pos c]; exact ⟨.int .., St.of_keeps hk⟩
  · rw [if_neg c, if_neg c]; exact ⟨.int .., St.of_keeps hk⟩

theorem maxInts_spec : ∀ (r : List Int) (a : Int), (r.foldl (fun m x => if m < x then x else m) a) ∈ a :: r ∧ ∀ x ∈ a :: r, x ≤ r.foldl (fun m x => if m < x then x else m) a
  | [], a => ⟨.head _, fun x hx => by cases hx with | head => exact Int.le_refl _ | tail _ h => cases h⟩
  | b :: r, a => by
    obtain ⟨h1, h2⟩ := maxInts_spec r (if a < b then b else a)
    rw [List.foldl_cons]
    refine ⟨?_, fun x hx => ?_⟩
    · rcases List.mem_cons.mp h1 with q | q
      · rw [q]
        split
        · exact .tail _ (.head _)
        · exact .head _
      · exact .tail _ (.tail _ q)
    · have hh := h2 _ (List.mem_cons_self ..)
      rcases List.mem_cons.mp hx with rfl | hx
      · revert hh
        split <;> omega
      · rcases List.mem_cons.mp hx with rfl | hx
        · revert hh
          split <;> omega
        · exact h2 x (.tail _ hx)

theorem keep_of_N {L : Addr} {m : Str → Option Value} {h' : Heap} {news : List (Addr × Obj)} {tk : Tok} (hL : L ∈ FRof fr) (hm : s.heap.Ns L m) (F : Fr e0 L h' m) (N : News e0 L h' news) (hs : ∀ p ∈ allBut L s.heap, p ∈ news) : St fr s { s with heap := h', toks := tk } :=
  ⟨keepOf hm hL F N hs, rfl, rfl⟩

theorem max_ok {x v : V} {a : Value} (h : maxV x = some v) (ra : Rep Tr s.heap a x) (R : Rm G fr A n s.heap) : wpAny (model PR w) A (call (.builtin "max") [a]) (Got fr s v) E s := by
  obtain ⟨ds, e0, h⟩ := Option.bind_eq_some_iff.mp h
  obtain ⟨ad, vs, rfl, ht, rl⟩ := ra.asList e0
  obtain ⟨c, h⟩ := ite_some2 h
  obtain ⟨ns, e1, h⟩ := Option.bind_eq_some_iff.mp h
  obtain ⟨M, e2, rfl⟩ := Option.map_eq_some_iff.mp h
  have hi := ints_are rl e1
  obtain ⟨L, m, hL, hm⟩ := R.frame
  cases ns with
  | nil => cases e2
  | cons z zs =>
    cases e2
    refine kso_max (frOf hm) (newsOf L s.heap) ht hi (by simp) R.handled fun h' M' t tk F' N' hM hle => ?_
    obtain ⟨s1, s2⟩ := maxInts_spec zs z
    obtain rfl : M' = zs.foldl (fun m x => if m < x then x else m) z := Int.le_antisymm (s2 _ hM) (hle _ s1)
    exact ⟨.int .., keep_of_N hL hm F' N' fun _ hp => hp⟩

theorem bytesOf_spec {P : Addr → Prop} {h : Heap} : ∀ {vs : List Value} {ds : List V} {bs : List UInt8}, RepL P h vs ds → bytesOf ds = some bs → ∃ ns : List Int, IntsAre vs ns ∧ (∀ n ∈ ns, 0 ≤ n ∧ n < 256) ∧ bs = ns.map fun n => n.toNat.toUInt8
  | _, _, _, .nil, e => by cases e; exact ⟨[], .nil, nofun, rfl⟩
  | _, _, bs, .cons (d := d) x r, e => by
    obtain ⟨i, e0, e⟩ := Option.bind_eq_some_iff.mp e
    obtain ⟨t, rfl⟩ := x.asInt e0
    obtain ⟨c, e⟩ := ite_some2 e
    obtain ⟨c1, c2⟩ := and2 c
    obtain ⟨l, e3, rfl⟩ := Option.map_eq_some_iff.mp e
    obtain ⟨ns, h1, h2, rfl⟩ := bytesOf_spec r e3
    exact ⟨i :: ns, .cons i t h1, fun n hn => (List.mem_cons.mp hn).elim (fun q => q ▸ ⟨of_decide_eq_true c1, of_decide_eq_true c2⟩) (h2 n), rfl⟩

theorem toBytes_ok {x v : V} {a : Value} (h : toBytesV x = some v) (ra : Rep Tr s.heap a x) (R : Rm G fr A n s.heap) : wpAny (model PR w) A (call (.type "bytes") [a]) (Got fr s v) E s := by
  have cl := cap_line
  obtain ⟨ds, e0, h⟩ := Option.bind_eq_some_iff.mp h
  obtain ⟨ad, vs, rfl, ht, rl⟩ := ra.asList e0
  obtain ⟨c, h⟩ := ite_some2 h
  obtain ⟨bs, e1, rfl⟩ := Option.map_eq_some_iff.mp h
  obtain ⟨ns, h1, h2, rfl⟩ := bytesOf_spec rl e1
  have hlen := rl.length
  refine call_bytes_ints ht h1 h2 (by lia) R.handled fun h' t k hk => ?_
  rw [show byteArr ns = (ns.map fun n => n.toNat.toUInt8).toArray from rfl]
  exact ⟨.bytes .., St.of_keeps hk⟩

theorem bytes_rep {P : Addr → Prop} {h : Heap} (l : List UInt8) (acc : Array Value) (h1 : acc.size = l.toArray.size) (h2 : ∀ (j : Nat) (v : Value), acc[j]? = some v → ∃ (c : UInt8) (u : Tok), l.toArray[j]? = some c ∧ v = Value.int (c.toNat : Int) u) :
    RepL P h acc.toList (l.map fun b => V.int (b.toNat : Int)) := by
  obtain ⟨al⟩ := acc
  simp only [List.size_toArray, List.getElem?_toArray] at h1 h2 ⊢
  induction al generalizing l with
  | nil => cases l with
    | nil => exact .nil
    | cons => simp at h1
  | cons y ys ih =>
    cases l with
    | nil => simp at h1
    | cons b bs =>
      obtain ⟨c, u, e1, rfl⟩ := h2 0 y (by simp)
      simp at e1
      subst e1
      exact .cons (.int ..) (ih bs (by simpa using h1) fun j v hj => by simpa using h2 (j + 1) v (by simpa using hj))

theorem toList_ok {x v : V} {a : Value} (h : toListV x = some v) (ra : Rep Tr s.heap a x) (R : Rm G fr A n s.heap) : wpAny (model PR w) A (call (.type "list") [a]) (Got fr s v) E s := by
  have cl := cap_line
  obtain ⟨l, e0, h⟩ := Option.bind_eq_some_iff.mp h
  obtain ⟨t, rfl⟩ := ra.asBytes e0
  obtain ⟨c, rfl⟩ := ite_some h
  refine list_of_bytes R.handled l.toArray t (fun h' tk acc c' hk hS hacc => ?_) (by simp; lia)
  exact ⟨.list (vs := acc.toList) trivial ⟨_, hS, rfl, c', rfl⟩ (bytes_rep l acc hacc.1 hacc.2), St.of_keeps hk⟩

theorem find_ok {x y v : V} {a b : Value} (h : findV x y = some v) (ra : Rep Tr s.heap a x) (rb : Rep Tr s.heap b y) : wpAny (model PR w) A (call (.builtin "str.find") [a, b]) (Got fr s v) E s := by
  obtain ⟨p, e1, h⟩ := Option.bind_eq_some_iff.mp h
  obtain ⟨q, e2, h⟩ := Option.bind_eq_some_iff.mp h
  obtain ⟨t, rfl⟩ := ra.asStr e1
  obtain ⟨u, rfl⟩ := rb.asStr e2
  obtain ⟨c, rfl⟩ := ite_some h
  exact SC.find (Got.int ..)
end
end Mine
end

/-! text M11 -/
section
set_option bootstrap.genMatcherCode false
set_option maxRecDepth 100000
open PySem PySem.Calls PyProof.Rows PySem.W
namespace Mine
section
variable {w : World} {G : Heap} {fr : List PySem.Env} {A : Around} {n : Nat} {E : Value → Shared → Prop} {s s' s'' : Shared}

theorem list_sort_few {a : Addr} {vs : List Value} {n : Nat} {P : Fin → Shared → Prop} (ho : s.heap.get? a = some (seqObj "list" vs.toArray n)) (h2 : vs.length < 2)
    (h : P (.done (.ret .none)) { s with heap := sortedHeap s.heap a vs vs.toArray }) :
    wpAny (model PR w) A (Builtin.«list.sort» ⟨[.ref a], []⟩) P E s := by
  rw [list_sort_plain]
  have ha : a < s.heap.objs.size := Heap.lt_size ho
  refine wpAny_bind (listItems_at ho rfl ?_)
  refine wpAny_bind (listUpdate_at ho rfl ?_ (by rw [sizeLine_eq]; simp; lia) (by simp))
  obtain ⟨e1, ho1⟩ : ∃ e1, (s.heap.update a (Obj.mapSeq fun _ => #[])).get? a = some (seqObj "list" #[] e1) := ⟨_, get?_update_seq ho (fun _ => #[])⟩
  refine wpAny_bind (seqEpoch_at ho1 rfl ?_)
  refine wpAny_bind (wpAny_newTuple ?_ (by rw [sizeLine_eq]; simp; lia))
  refine wpAny_bind (wpAny_newList ?_)
  refine wpAny_holding ?_
  have ho6 : (((s.heap.update a (Obj.mapSeq fun _ => #[])).push (seqObj "tuple" vs.toArray 0)).push (seqObj "list" #[] 0)).get? a = some (seqObj "list" #[] e1) := by
    rw [Heap.get?_push_ne _ _ _ (by rw [size_push', Heap.size_update]; exact Nat.ne_of_lt (Nat.lt_succ_of_lt ha)), Heap.get?_push_ne _ _ _ (by rw [Heap.size_update]; exact Nat.ne_of_lt ha)]
    exact ho1
  show wpAny (model PR w) A _ P E { s with heap := ((s.heap.update a (Obj.mapSeq fun _ => #[])).push (seqObj "tuple" vs.toArray 0)).push (seqObj "list" #[] 0) }
  dsimp only
  have h2' : vs.toArray.size < 2 := by simpa using h2
  rw [if_pos h2', if_pos h2']
  refine wpAny_bind (wpAny_pure ?_)
  rw [StateT.run_pure]
  refine wpAny_bind (wpAny_pure ?_)
  dsimp only
  refine wpAny_bind (seqEpoch_at ho6 rfl ?_)
  have hmap : (arrOf (SortSt.mk' general' (vs.toArray.zip vs.toArray) #[] 7 none)).map (·.2) = vs.toArray := by
    exact Array.map_snd_zip (Nat.le_refl _)
  rw [hmap]
  refine wpAny_bind (listUpdate_at ho6 rfl ?_ (by simp) (by rw [sizeLine_eq]; simp; lia))
  simp only [bne_self_eq_false, Bool.false_eq_true, if_false]
  exact wpAny_pure h

theorem sorted_few {l : Addr} {vs : List Value} {ds : List V} (hl : s.heap.IsList l vs.toArray) (h2 : vs.length < 2) (rl : RepL Tr s.heap vs ds) :
    wpAny (model PR w) A (call (.builtin "sorted") [.ref l]) (Got fr s (.list ds)) E s := by
  refine Calls.call_function_entry kind_sorted plain_sorted entry_sorted (args_sorted1 _) ?_
  unfold Builtin.«sorted»
  refine wpAny_bind (m := checkCount "sorted" 1 1 _) (wpAny_pure ?_)
  refine wpAny_bind (collect_list hl ?_ (by rw [sizeLine_eq]; lia))
  refine wpAny_bind (wpAny_newList ?_ (by rw [sizeLine_eq]; lia))
  have hsz : ((s.heap.push (seqObj "list" #[] 0)).update s.heap.objs.size (Obj.mapSeq (· ++ vs.toArray))).objs.size = s.heap.objs.size + 1 := by
    rw [Heap.size_update, size_push']
  have hoL : (((s.heap.push (seqObj "list" #[] 0)).update s.heap.objs.size (Obj.mapSeq (· ++ vs.toArray))).push (seqObj "list" vs.toArray 0)).get? (s.heap.objs.size + 1) = some (seqObj "list" vs.toArray 0) := by
    rw [← hsz]; exact Heap.get?_push_size _ rfl
  show wpAny _ _ _ _ _ { s with heap := ((s.heap.push (seqObj "list" #[] 0)).update s.heap.objs.size (Obj.mapSeq (· ++ vs.toArray))).push (seqObj "list" vs.toArray 0) }
  rw [hsz]
  refine wpAny_bind (wpAny_holding (wpAny_call_entry slot_list_sort ⟨_, hoL, rfl⟩ entry_list_sort (list_sort_few hoL h2 ⟨_, rfl, ?_⟩) (args_list_sort _)))
  refine wpAny_pure ⟨_, rfl, ?_⟩
  obtain ⟨e, he⟩ := sortedAll_at s.heap vs vs.toArray
  have k : ∀ b o, s.heap.get? b = some o → (sortedAll s.heap vs vs.toArray).get? b = some o := fun b o hb => sortedAll_old hb
  exact ⟨.list trivial ⟨_, he, rfl, e, rfl⟩ (rl.step (Keep.of_keeps (FR := FRof fr) k)), St.of_keeps k⟩

theorem kas_run {α : Type} {vs : List Value} {cmp : Nat → Nat → Bool} {κ : SortKind} {Q : α → Shared → Prop}
    (hc : ∀ i j, i < vs.length → j < vs.length → ∀ C : Bool → Shared → Prop, C (cmp i j) s → kas_ask PR w A κ vs i j C s) :
    ∀ (t : KasT α) (p : α), runKas vs.length cmp t = some p → Q p s → t.kasWp (kas_ask PR w A κ vs) Q s
  | .ret a, p, e, h => by cases e; exact h
  | .ask i j k, p, e, h => by
    unfold runKas at e
    by_cases q : i < vs.length ∧ j < vs.length
    · rw [if_pos q] at e
      exact hc i j q.1 q.2 _ (kas_run hc (k (cmp i j)) p e h)
    · rw [if_neg q] at e; cases e

/-- the values of rows -/
noncomputable def rowV (r : Int × Int × Int) : V := .tuple [.int r.1, .int r.2.1, .int r.2.2]
theorem V.asTup_eq {y : V} {l : List V} (e : y.asTup = some l) : y = .tuple l := by cases y <;> first | (cases e; done) | (cases e; rfl)
theorem row3_spec {v : V} {r : Int × Int × Int} (h : row3 v = some r) : v = rowV r := by
  obtain ⟨l, e, h⟩ := Option.bind_eq_some_iff.mp h
  match l, h with
  | [a, b, c], h =>
    obtain ⟨i, e1, h⟩ := Option.bind_eq_some_iff.mp h
    obtain ⟨j, e2, h⟩ := Option.bind_eq_some_iff.mp h
    obtain ⟨k, e3, h⟩ := Option.bind_eq_some_iff.mp h
    cases h
    rw [V.asTup_eq e, V.asInt_eq e1, V.asInt_eq e2, V.asInt_eq e3]; rfl
theorem rows3_spec : ∀ {ds : List V} {rs : List (Int × Int × Int)}, rows3 ds = some rs → ds = rs.map rowV
  | [], rs, e => by cases e; rfl
  | d :: ds, rs, e => by
    obtain ⟨x, e1, e⟩ := Option.bind_eq_some_iff.mp e
    obtain ⟨l, e2, rfl⟩ := Option.map_eq_some_iff.mp e
    rw [row3_spec e1, rows3_spec e2]; rfl

theorem rep_row {P : Addr → Prop} {h : Heap} {v : Value} {r : Int × Int × Int} (x : Rep P h v (rowV r)) : ∃ (a : Addr) (t1 t2 t3 : Tok), v = .ref a ∧ IsTup h a #[.int r.1 t1, .int r.2.1 t2, .int r.2.2 t3] := by
  obtain ⟨a, vs, rfl, ht, rl⟩ := x.asTup rfl
  obtain ⟨_, _, rfl, x1, rl⟩ := rl.un
  obtain ⟨_, _, rfl, x2, rl⟩ := rl.un
  obtain ⟨_, _, rfl, x3, rl⟩ := rl.un
  obtain rfl := rl.un0
  obtain ⟨t1, rfl⟩ := x1.asInt rfl
  obtain ⟨t2, rfl⟩ := x2.asInt rfl
  obtain ⟨t3, rfl⟩ := x3.asInt rfl
  exact ⟨a, t1, t2, t3, rfl, ht⟩

theorem row_lt {a b : Addr} {x y : Int × Int × Int} {t1 t2 t3 u1 u2 u3 : Tok} {C : Bool → Shared → Prop} (ha : IsTup s.heap a #[.int x.1 t1, .int x.2.1 t2, .int x.2.2 t3]) (hb : IsTup s.heap b #[.int y.1 u1, .int y.2.1 u2, .int y.2.2 u3])
    (h : C (lt3 x y) s) : wpAny (model PR w) A (keyLt' (tuples' true) (.ref a) (.ref b)) C (fun _ _ => False) s := by
  obtain ⟨oa, ha, _, na, da⟩ := ha
  obtain ⟨ob, hb, _, nb, db⟩ := hb
  refine kat_lt ha da hb db ?_
  unfold lt3 at h
  show KatLex PR w A true _ C [(Value.int x.1 t1, Value.int y.1 u1), (Value.int x.2.1 t2, Value.int y.2.1 u2), (Value.int x.2.2 t3, Value.int y.2.2 u3)] 0 s
  refine kat_cons (wpAny_eqBool_int (kat_go (fun e => kat_yes ?_) fun e => kat_no ?_))
  · refine kat_cons (wpAny_eqBool_int (kat_go (fun e' => kat_yes ?_) fun e' => kat_no ?_))
    · refine kat_cons (wpAny_eqBool_int (kat_go (fun e'' => kat_yes ?_) fun e'' => kat_no ?_))
      · refine kat_nil ?_
        have : ltInts [x.1, x.2.1, x.2.2] [y.1, y.2.1, y.2.2] = false := by simp only [ltInts, e, e', e'', if_true]
        rw [this] at h
        exact h
      · refine kat_one _ _ (P.lt_int ?_)
        have : ltInts [x.1, x.2.1, x.2.2] [y.1, y.2.1, y.2.2] = decide (x.2.2 < y.2.2) := by simp only [ltInts, e, e', e'', if_true, Bool.false_eq_true, if_false]
        rw [this] at h
        exact h
    · refine kat_one _ _ (P.lt_int ?_)
      have : ltInts [x.1, x.2.1, x.2.2] [y.1, y.2.1, y.2.2] = decide (x.2.1 < y.2.1) := by simp only [ltInts, e, e', if_true, Bool.false_eq_true, if_false]
      rw [this] at h
      exact h
  · refine oneLt_int ?_
    have : ltInts [x.1, x.2.1, x.2.2] [y.1, y.2.1, y.2.2] = decide (x.1 < y.1) := by simp only [ltInts, e, Bool.false_eq_true, if_false]
    rw [this] at h
    exact h

theorem rows_get {P : Addr → Prop} {h : Heap} {vs : List Value} {rs : List (Int × Int × Int)} (rl : RepL P h vs (rs.map rowV)) {i : Nat} (hi : i < vs.length) :
    ∃ (a : Addr) (t1 t2 t3 : Tok), vs.getD i Value.none = .ref a ∧ IsTup h a #[.int (rs.getD i (0, 0, 0)).1 t1, .int (rs.getD i (0, 0, 0)).2.1 t2, .int (rs.getD i (0, 0, 0)).2.2 t3] := by
  have hl := rl.length
  rw [List.length_map] at hl
  obtain ⟨v, e, x⟩ := rl.get i (rowV (rs.getD i (0, 0, 0))) (by rw [List.getElem?_map, List.getD_eq_getElem?_getD, List.getElem?_eq_getElem (by lia)]; rfl)
  obtain ⟨a, t1, t2, t3, rfl, ht⟩ := rep_row x
  exact ⟨a, t1, t2, t3, by rw [List.getD_eq_getElem?_getD, e]; rfl, ht⟩

theorem firsts {P : Addr → Prop} {h : Heap} : ∀ {vs : List Value} {rs : List (Int × Int × Int)}, RepL P h vs (rs.map rowV) → ∃ fs, KatTups h vs fs ∧ fs.length = vs.length ∧ ∀ v ∈ fs, ∃ i t, v = Value.int i t
  | vs, [], rl => by
    obtain rfl := RepL.un0 rl
    exact ⟨[], KatTups.nil, rfl, nofun⟩
  | vs, r :: rs, rl => by
    obtain ⟨_, _, rfl, x, rl⟩ := RepL.un (d := rowV r) (ds := rs.map rowV) rl
    obtain ⟨fs, k, hl, hf⟩ := firsts rl
    obtain ⟨a, t1, t2, t3, rfl, o, ho, hc, n, hd⟩ := rep_row x
    exact ⟨.int r.1 t1 :: fs, KatTups.cons ho hc hd rfl k, by simp [hl], fun v hv => by
      rcases List.mem_cons.mp hv with rfl | hv
      · exact ⟨_, _, rfl⟩
      · exact hf v hv⟩

theorem RepL.gather {P : Addr → Prop} {h : Heap} {vs : List Value} {ds : List V} (rl : RepL P h vs ds) : ∀ p : List Nat, RepL P h (p.map fun i => vs.getD i Value.none) (p.map fun i => ds.getD i .none)
  | [] => .nil
  | i :: p => by
    refine .cons ?_ (RepL.gather rl p)
    have hl := rl.length
    show Rep P h (vs.getD i Value.none) (ds.getD i V.none)
    by_cases q : i < ds.length
    · obtain ⟨v, e, x⟩ := rl.get i ds[i] (by simp [q])
      rw [List.getD_eq_getElem?_getD, List.getD_eq_getElem?_getD, e, List.getElem?_eq_getElem q]
      exact x
    · rw [List.getD_eq_getElem?_getD, List.getD_eq_getElem?_getD, List.getElem?_eq_none (by lia), List.getElem?_eq_none (by lia)]
      exact .none

theorem sort_ok {x v : V} {a : Value} (h : sortV x = some v) (ra : Rep Tr s.heap a x) (R : Rm G fr A n s.heap) : wpAny (model PR w) A (call (.builtin "sorted") [a]) (Got fr s v) E s := by
  cases ra with
  | list p ht rl =>
    simp only [sortV] at h
    obtain ⟨c, h⟩ := ite_some2 h
    simp only [Option.bind_eq_some_iff] at h
    obtain ⟨rs, e1, h⟩ := h
    have hlen := rl.length
    rename_i ad vs ds _
    by_cases q : ds.length < 2
    · rw [if_pos q] at h
      cases h
      exact sorted_few ht (by lia) rl
    · rw [if_neg q] at h
      simp only [Option.map_eq_some_iff] at h
      obtain ⟨pm, e2, rfl⟩ := h
      have hds := rows3_spec e1
      obtain ⟨L, m, hL, hm⟩ := R.frame
      refine kat_sorted (frOf hm) (newsOf L s.heap) ht (by lia) (by lia) fun D e1' h' F' N' hD => ?_
      have k1 : Keep (FRof fr) No s.heap h' := keepOf hm hL F' N' fun _ hp => .tail _ hp
      have rl1 : RepL Tr h' vs (rs.map rowV) := hds ▸ rl.step k1
      obtain ⟨fs, kf, hfl, hfi⟩ := firsts rl1
      refine kat_kind (s := { s with heap := h' }) kf (by lia) (T := .type "int") (fun v hv => ?_) (by decide) ?_
      · obtain ⟨i, t, rfl⟩ := hfi v hv
        exact Looks.of_pure rfl
      · refine kas_run (s := { s with heap := h' }) (cmp := fun i j => lt3 (rs.getD i (0, 0, 0)) (rs.getD j (0, 0, 0))) (fun i j hi hj C hC => ?_) _ pm (by rw [hlen]; exact e2) ?_
        · obtain ⟨a1, t1, t2, t3, ea, hta⟩ := rows_get rl1 hi
          obtain ⟨a2, u1, u2, u3, eb, htb⟩ := rows_get rl1 hj
          unfold kas_ask
          rw [ea, eb]
          exact row_lt (s := { s with heap := h' }) hta htb hC
        · refine KasFin.intro F' N' (UpdF.head fun q hq => Nat.ne_of_lt (hD q hq)) fun h2 c2 F2 N2 => ?_
          have k2 : Keep (FRof fr) No s.heap h2 := keepOf hm hL F2 N2 fun _ hp => .tail _ hp
          refine ⟨.list trivial ⟨_, (N2 _ (.head _)).1, rfl, c2, rfl⟩ ((rl.step k2).gather _), k2, rfl, rfl⟩
  | _ => simp only [sortV] at h; cases h
end
end Mine
end

/-! text M12 -/
section
set_option bootstrap.genMatcherCode false
set_option maxRecDepth 100000
open PySem PySem.Calls PyProof.Rows PySem.W
namespace Mine

/-! static tables of the module's names -/
structure Tab where
  gl : Str → Option V
  fn : Str → Option Nat
  ar : Nat → Nat

/-- the constants and the functions of the module -/
noncomputable def glL : List (Str × V) := [(Str.ofString "NO_KIND", .int 0), (Str.ofString "PAWN", .int 1), (Str.ofString "KNIGHT", .int 2), (Str.ofString "BISHOP", .int 3), (Str.ofString "ROOK", .int 4), (Str.ofString "QUEEN", .int 5), (Str.ofString "KING", .int 6), (Str.ofString "EMPTY", .int 0), (Str.ofString "PROMOTION", .int 1), (Str.ofString "EN_PASSANT", .int 2), (Str.ofString "CASTLING", .int 3), (Str.ofString "NO_MOVE", .int 0), (Str.ofString "LETTERS", .str (Str.ofString ".PNBRQK..pnbrqk")), (Str.ofString "ENTRY_SIZE", .int 16), (Str.ofString "MOST_WEIGHT", .int 65535), (Str.ofString "FILE_LETTERS", .str (Str.ofString "abcdefgh")), (Str.ofString "RANK_DIGITS", .str (Str.ofString "12345678")), (Str.ofString "SHORT", .str (Str.ofString "O-O")), (Str.ofString "LONG", .str (Str.ofString "O-O-O")), (Str.ofString "QUOTED", .int 0), (Str.ofString "NUMBER", .int 1), (Str.ofString "WORD", .int 2), (Str.ofString "_law_board", .list [(.int 4), (.int 2), (.int 0), (.int 6), (.int 0), (.int 0), (.int 1), (.int 0), (.int 0), (.int 0), (.int 0), (.int 10), (.int 12), (.int 0), (.int 0), (.int 0)])]
noncomputable def fnL : List (Str × Nat) := [(Str.ofString "kind_of", 0), (Str.ofString "is_piece", 1), (Str.ofString "letter_of", 2), (Str.ofString "move_from", 3), (Str.ofString "move_to", 4), (Str.ofString "move_special", 5), (Str.ofString "move_promo", 6), (Str.ofString "put_number", 7), (Str.ofString "get_number", 8), (Str.ofString "pack_entry", 9), (Str.ofString "unpack_entry", 10), (Str.ofString "merge_entries", 11), (Str.ofString "make_book", 12), (Str.ofString "key_at", 13), (Str.ofString "first_entry", 14), (Str.ofString "find_entries", 15), (Str.ofString "check_book", 16), (Str.ofString "best_entry", 17), (Str.ofString "file_of", 18), (Str.ofString "rank_of", 19), (Str.ofString "read_square", 20), (Str.ofString "takes", 21), (Str.ofString "kind_by_letter", 22), (Str.ofString "cut_sign", 23), (Str.ofString "cut_origin", 24), (Str.ofString "split_san", 25), (Str.ofString "fits", 26), (Str.ofString "meant_by", 27), (Str.ofString "pick_san", 28), (Str.ofString "operands_of", 29), (Str.ofString "named_moves", 30), (Str.ofString "is_solved", 31), (Str.ofString "_law_moves", 32), (Str.ofString "_law_values", 33), (Str.ofString "_law_named", 34), (Str.ofString "_law_verdict", 35), (Str.ofString "_law_merged", 36), (Str.ofString "_law_blame", 37), (Str.ofString "_law_bend", 38), (Str.ofString "_law_best", 39), (Str.ofString "_law_solved", 40), (Str.ofString "law", 41)]
noncomputable def tb0 : Tab where
  gl := fun x => glL.lookup x
  fn := fun x => fnL.lookup x
  ar := fun n => ([1, 1, 1, 1, 1, 1, 1, 2, 3, 4, 2, 1, 1, 2, 2, 2, 1, 1, 2, 2, 3, 2, 2, 1, 1, 3, 4, 5, 5, 2, 6, 6, 0, 1, 1, 5, 1, 1, 2, 1, 2, 1] : List Nat).getD n 0

/-- the value of a name of a frame -/
inductive VarIs (env : PySem.Env) (h : Heap) (x : Str) (v : Value) : Prop
  | loc {m : Str → Option Value} : env.kindOf x = some .local → h.Ns env.locals m → m x = some v → VarIs env h x v
  | cell {c : Addr} : (env.kindOf x = some .cell ∨ env.kindOf x = some .free) → env.cells.lookup x = some c → h.IsCell c (some v) → VarIs env h x v

inductive DK : List (List Int × Addr × Value) → List ((Int × Int) × Int) → Prop
  | nil : DK [] []
  | cons {a b z : Int} {t : Tok} {ad : Addr} {xs : List (List Int × Addr × Value)} {kvs : List ((Int × Int) × Int)} : DK xs kvs → DK (([a, b], ad, .int z t) :: xs) (((a, b), z) :: kvs)

section
variable (w : World)
noncomputable def DictIs (h : Heap) (d : Addr) (kvs : List ((Int × Int) × Int)) : Prop :=
  (d == sysModules) = false ∧ ∃ xs, h.DictOfH (tupleKind (intKind PR w)) d xs ∧ DK xs kvs

noncomputable def SlotE (FR : List Addr) (env : PySem.Env) (h : Heap) (x : Str) : Slot → Prop
  | .unb => True
  | .val V => ∃ v, VarIs env h x v ∧ Rep Tr h v V
  | .own l => ∃ v, VarIs env h x v ∧ Rep Tr h v (.list l)
  | .dict kvs => ∃ d, VarIs env h x (.ref d) ∧ d ∉ FR ∧ DictIs w h d kvs

structure EnvOk (FR : List Addr) (sc : Scope) (σ : Env) (vs : List Str) (env : PySem.Env) (h : Heap) : Prop where
  kind : env.scope.kind = .function
  glo : env.globals = mainGlobals
  blt : env.builtins = builtinsNs
  slot : ∀ (i : Nat) (x : Str) (sl : Slot), vs[i]? = some x → σ[i]? = some sl → SlotE w FR env h x sl
  names : ∀ x, sc.names.lookup x = some .globalImplicit → env.kindOf x = some .globalImplicit
  cells : ∀ x, sc.names.lookup x = some .cell → env.kindOf x = some .cell
  cellv : ∀ x, sc.names.lookup x = some .cell → ∃ c, env.cells.lookup x = some c
end

/-- what a scope says of the names of the module and of builtins -/
noncomputable abbrev IsGlob (sc : Scope) (x : Str) : Prop := sc.names.lookup x = some .globalImplicit ∧ (x == ("__debug__" : Str)) = false

/-- the targets of a comprehension -/
inductive CpT : Bool → List Str → Expr → Prop
  | one {t px} : CpT false [t] (.Name t px)
  | two {t u px pu k pp} : CpT true [t, u] (.Tuple [.Name t px, .Name u pu] k pp)

structure ScOk (csc : Scope) (ts ys : List Str) : Prop where
  kind : csc.kind = .function
  cell : ∀ y ∈ csc.names, y.2 ≠ .cell
  loc : ∀ y ∈ csc.names, y.2 = .local → csc.names.lookup y.1 = some .local
  tgt : ∀ t ∈ ts, csc.names.lookup t = some .local ∧ (t == ("__debug__" : Str)) = false
  free : (csc.names.filter fun y => y.2 == .free).map (·.1) = ys
  nodup : ts.Nodup
  fr : ∀ y ∈ ys, csc.names.lookup y = some .free

inductive FreeOk (sc : Scope) (vs : List Str) : List Nat → List Str → Prop
  | nil : FreeOk sc vs [] []
  | one {i y} : vs[i]? = some y → sc.names.lookup y = some .cell → (y == ("__debug__" : Str)) = false → (y == ("__classdict__" : Str)) = false → FreeOk sc vs [i] [y]

/-- the text of a fault that names an operation: any text of a short str -/
inductive CpF (vs : List Str) : Nat → Expr → Prop
  | mk {i x q1 q2 q3 q4 k t} : vs[i]? = some x → (x == ("__debug__" : Str)) = false → (x == ("__classdict__" : Str)) = false → t.length ≤ 1000 → CpF vs i (.JoinedStr [.FormattedValue (.Name x q1) (-1) none q2, .Constant (.str t) k q3] q4)

/-- what holds between terms and texts, told of their parts -/
structure Rel where
  e : Scope → List Str → E → Expr → Prop
  es : Scope → List Str → List E → List Expr → Prop
  c : Scope → List Str → Option E → List Expr → Prop
  o : Scope → List Str → Option E → Option Expr → Prop
  s : Scope → List Str → S → Stmt → Prop
  ss : Scope → List Str → List S → List Stmt → Prop

inductive CpEF (ρ : Rel) (sc : Scope) (vs : List Str) : E → Expr → Prop
  | cInt {i k p} : CpEF ρ sc vs (.const (.int i)) (.Constant (.int i) k p)
  | cStr {x k p} : CpEF ρ sc vs (.const (.str x)) (.Constant (.str x) k p)
  | cBool {b k p} : CpEF ρ sc vs (.const (.bool b)) (.Constant (.bool b) k p)
  | cNone {k p} : CpEF ρ sc vs (.const .none) (.Constant .none k p)
  | cBytes {b k p} : CpEF ρ sc vs (.const (.bytes b)) (.Constant (.bytes b) k p)
  | glob {v x p} : IsGlob sc x → tb0.gl x = some v → CpEF ρ sc vs (.glob v) (.Name x p)
  | var {i x p} : vs[i]? = some x → (x == ("__debug__" : Str)) = false → (x == ("__classdict__" : Str)) = false → CpEF ρ sc vs (.var i) (.Name x p)
  | bin {o po a b pa pb p} : OpR o po → ρ.e sc vs a pa → ρ.e sc vs b pb → CpEF ρ sc vs (.bin o a b) (.BinOp pa po pb p)
  | neg {a pa p} : ρ.e sc vs a pa → CpEF ρ sc vs (.neg a) (.UnaryOp .USub pa p)
  | not {a pa p} : ρ.e sc vs a pa → CpEF ρ sc vs (.not a) (.UnaryOp .Not pa p)
  | cmp {o a b pa pb p} : ρ.e sc vs a pa → ρ.e sc vs b pb → CpEF ρ sc vs (.cmp o a b) (.Compare pa [o] [pb] p)
  | cmp2 {o q a b c pa pb pc p} : ρ.e sc vs a pa → ρ.e sc vs b pb → ρ.e sc vs c pc → CpEF ρ sc vs (.cmp2 o q a b c) (.Compare pa [o, q] [pb, pc] p)
  | and {es pes p} : ρ.es sc vs es pes → CpEF ρ sc vs (.bop true es) (.BoolOp .And pes p)
  | or {es pes p} : ρ.es sc vs es pes → CpEF ρ sc vs (.bop false es) (.BoolOp .Or pes p)
  | ite {c a b pc pa pb p} : ρ.e sc vs c pc → ρ.e sc vs a pa → ρ.e sc vs b pb → CpEF ρ sc vs (.ite c a b) (.IfExp pc pa pb p)
  | idx {a i pa pi p} : ρ.e sc vs a pa → ρ.e sc vs i pi → CpEF ρ sc vs (.idx a i) (.Subscript pa pi p)
  | slice {a lo hi pa plo phi q p} : ρ.e sc vs a pa → ρ.o sc vs lo plo → ρ.o sc vs hi phi → CpEF ρ sc vs (.slice a lo hi) (.Subscript pa (.Slice plo phi none q) p)
  | tup {es pes k p} : ρ.es sc vs es pes → CpEF ρ sc vs (.tup es) (.Tuple pes k p)
  | lst {es pes p} : ρ.es sc vs es pes → CpEF ρ sc vs (.lst es) (.List pes p)
  | call {f x es pes q p} : IsGlob sc x → tb0.fn x = some f → es.length = tb0.ar f → ρ.es sc vs es pes → CpEF ρ sc vs (.call f es) (.Call (.Name x q) pes [] p)
  | len {a pa q p} : IsGlob sc "len" → ρ.e sc vs a pa → CpEF ρ sc vs (.len a) (.Call (.Name "len" q) [pa] [] p)
  | min2 {a b pa pb q p} : IsGlob sc "min" → ρ.e sc vs a pa → ρ.e sc vs b pb → CpEF ρ sc vs (.min2 a b) (.Call (.Name "min" q) [pa, pb] [] p)
  | max1 {a pa q p} : IsGlob sc "max" → ρ.e sc vs a pa → CpEF ρ sc vs (.max1 a) (.Call (.Name "max" q) [pa] [] p)
  | sorted {a pa q p} : IsGlob sc "sorted" → ρ.e sc vs a pa → CpEF ρ sc vs (.sorted a) (.Call (.Name "sorted" q) [pa] [] p)
  | toList {a pa q p} : IsGlob sc "list" → ρ.e sc vs a pa → CpEF ρ sc vs (.toList a) (.Call (.Name "list" q) [pa] [] p)
  | toBytes {a pa q p} : IsGlob sc "bytes" → ρ.e sc vs a pa → CpEF ρ sc vs (.toBytes a) (.Call (.Name "bytes" q) [pa] [] p)
  | find {a b pa pb ap p} : (ap.endLine == p.line) = true → (∀ env m, attributeBase pa "find" env m = m) → ρ.e sc vs a pa → ρ.e sc vs b pb → CpEF ρ sc vs (.find a b) (.Call (.Attribute pa "find" ap) [pb] [] p)
  | inDict {i x a b pa pb q k r p} : vs[i]? = some x → (x == ("__debug__" : Str)) = false → (x == ("__classdict__" : Str)) = false → ρ.e sc vs a pa → ρ.e sc vs b pb → CpEF ρ sc vs (.inDict i a b) (.Compare (.Tuple [pa, pb] k q) [.In] [.Name x r] p)
  | getDict {i x a b pa pb q k r p} : vs[i]? = some x → (x == ("__debug__" : Str)) = false → (x == ("__classdict__" : Str)) = false → ρ.e sc vs a pa → ρ.e sc vs b pb → CpEF ρ sc vs (.getDict i a b) (.Subscript (.Name x r) (.Tuple [pa, pb] k q) p)
  | comp {elt iter nt tupled cond free pt ts ys pelt piter ifs csc p} : CpT tupled ts pt → nt = ts.length → ρ.e csc (ts ++ ys) elt pelt → ρ.c csc (ts ++ ys) cond ifs → ρ.e sc vs iter piter →
      ScOk csc ts ys → FreeOk sc vs free ys → CpEF ρ sc vs (.comp elt iter nt tupled cond free) (.ListComp pelt [⟨pt, piter, ifs, 0⟩] csc p)
inductive CpEsF (ρ : Rel) (sc : Scope) (vs : List Str) : List E → List Expr → Prop
  | nil : CpEsF ρ sc vs [] []
  | cons {e pe es pes} : ρ.e sc vs e pe → ρ.es sc vs es pes → CpEsF ρ sc vs (e :: es) (pe :: pes)
inductive CpCF (ρ : Rel) (sc : Scope) (vs : List Str) : Option E → List Expr → Prop
  | none : CpCF ρ sc vs .none []
  | some {e pe} : ρ.e sc vs e pe → CpCF ρ sc vs (some e) [pe]
inductive CpOF (ρ : Rel) (sc : Scope) (vs : List Str) : Option E → Option Expr → Prop
  | none : CpOF ρ sc vs .none none
  | some {e pe} : ρ.e sc vs e pe → CpOF ρ sc vs (some e) (some pe)

inductive CpNames (vs : List Str) : List Nat → List Expr → Prop
  | nil : CpNames vs [] []
  | cons {i x q is es} : vs[i]? = some x → CpNames vs is es → CpNames vs (i :: is) (.Name x q :: es)

noncomputable def noComp : E → Bool
  | .comp _ _ _ _ _ _ => false
  | _ => true

noncomputable def noTup : E → Bool
  | .tup _ => false
  | _ => true

inductive CpSF (ρ : Rel) (sc : Scope) (vs : List Str) : S → Stmt → Prop
  | assign {i x e pe q p} : vs[i]? = some x → noComp e = true → ρ.e sc vs e pe → CpSF ρ sc vs (.assign i e) (.Assign [.Name x q] pe p)
  | assignComp {i x e pe q p} : vs[i]? = some x → sc.names.lookup x = some .local → noComp e = false → ρ.e sc vs e pe → (∀ env : PySem.Env, env.scope.kind = .function → env.kindOf x = some .local → swapsWith pe (some (.Name x q)) p.line env = pure true) →
      CpSF ρ sc vs (.assignComp i e) (.Assign [.Name x q] pe p)
  | assignOwn {i x es pes r q p} : vs[i]? = some x → ρ.es sc vs es pes → CpSF ρ sc vs (.assignOwn i es) (.Assign [.Name x q] (.List pes r) p)
  | assignDict {i x r q p} : vs[i]? = some x → CpSF ρ sc vs (.assignDict i) (.Assign [.Name x q] (.Dict [] [] r) p)
  | assignTup {is e pns pe k q p} : CpNames vs is pns → noComp e = true → noTup e = true → ρ.e sc vs e pe → CpSF ρ sc vs (.assignTup is e) (.Assign [.Tuple pns k q] pe p)
  | aug {i x o po e pe q p} : vs[i]? = some x → (x == ("__classdict__" : Str)) = false → OpR o po → o = .add → ρ.e sc vs e pe → CpSF ρ sc vs (.aug i o e) (.AugAssign (.Name x q) po pe p)
  | append {i x e pe q1 q2 q3 p} : vs[i]? = some x → (x == ("__debug__" : Str)) = false → (x == ("__classdict__" : Str)) = false → (q2.endLine == q3.line) = true → ρ.e sc vs e pe → CpSF ρ sc vs (.append i e) (.Expr (.Call (.Attribute (.Name x q1) "append" q2) [pe] [] q3) p)
  | setIdx {i x k e pk pe q1 q2 p} : vs[i]? = some x → (x == ("__debug__" : Str)) = false → (x == ("__classdict__" : Str)) = false → noComp e = true → ρ.e sc vs k pk → ρ.e sc vs e pe → CpSF ρ sc vs (.setIdx i k e) (.Assign [.Subscript (.Name x q1) pk q2] pe p)
  | setDict {i x a b e pa pb pe k q q1 q2 p} : vs[i]? = some x → (x == ("__debug__" : Str)) = false → (x == ("__classdict__" : Str)) = false → noComp e = true → ρ.e sc vs a pa → ρ.e sc vs b pb → ρ.e sc vs e pe → CpSF ρ sc vs (.setDict i a b e) (.Assign [.Subscript (.Name x q1) (.Tuple [pa, pb] k q) q2] pe p)
  | forR {i x es pes body pbody q r u p} : vs[i]? = some x → IsGlob sc "range" → ρ.es sc vs es pes → ρ.ss sc vs body pbody → CpSF ρ sc vs (.forR i es body) (.For (.Name x q) (.Call (.Name "range" r) pes [] u) pbody [] p)
  | forV1 {i x e pe body pbody q p} : vs[i]? = some x → ρ.e sc vs e pe → ρ.ss sc vs body pbody → CpSF ρ sc vs (.forV (.one i) e body) (.For (.Name x q) pe pbody [] p)
  | forVn {is pns e pe body pbody k q p} : CpNames vs is pns → ρ.e sc vs e pe → ρ.ss sc vs body pbody → CpSF ρ sc vs (.forV (.many is) e body) (.For (.Tuple pns k q) pe pbody [] p)
  | while {c pc body pbody p} : ρ.e sc vs c pc → ρ.ss sc vs body pbody → CpSF ρ sc vs (.while c body) (.While pc pbody [] p)
  | ite {c pc a b pa pb p} : ρ.e sc vs c pc → ρ.ss sc vs a pa → ρ.ss sc vs b pb → CpSF ρ sc vs (.ite c a b) (.If pc pa pb p)
  | ret {e pe p} : ρ.e sc vs e pe → CpSF ρ sc vs (.ret e) (.Return (some pe) p)
  | expr {e pe p} : noComp e = true → ρ.e sc vs e pe → CpSF ρ sc vs (.expr e) (.Expr pe p)
  | raiseBook {e pe q r p} : IsGlob sc "BadBook" → ρ.e sc vs e pe → CpSF ρ sc vs (.raiseBook e) (.Raise (some (.Call (.Name "BadBook" q) [pe] [] r)) none p)
  | raiseSan {e pe q r p} : IsGlob sc "BadSan" → ρ.e sc vs e pe → CpSF ρ sc vs (.raiseSan e) (.Raise (some (.Call (.Name "BadSan" q) [pe] [] r)) none p)
  | raiseEpd {i pe1 pe2 q r p} : IsGlob sc "BadEpd" → ρ.e sc vs (.neg (.const (.int 1))) pe1 → CpF vs i pe2 → CpSF ρ sc vs (.raiseEpd i) (.Raise (some (.Call (.Name "BadEpd" q) [pe1, pe2] [] r)) none p)
  | tryBook {i x e pe q p f1 f2 f3 f4 f5 f6 y} : vs[i]? = some x → IsGlob sc "BadBook" → sc.names.lookup y = some .local → (y == ("__debug__" : Str)) = false → ("at" : Str) ≠ y → y ∉ vs → noComp e = true → ρ.e sc vs e pe →
      CpSF ρ sc vs (.tryBook e i) (.Try [.Expr pe q] [.ExceptHandler (some (.Name "BadBook" f1)) (some y) [.Assign [.Name x f2] (.Attribute (.Name y f3) "at" f4) f5] f6] [] [] p)
  | trySolved {e pe q p f1 f2 f3 f4 f5 f6 f7 f8 f9 g1 g2 g3 g4 g5 g6 k1 k2 k3 k4 y} : IsGlob sc "BadSan" → IsGlob sc "BadEpd" → sc.names.lookup y = some .local → (y == ("__debug__" : Str)) = false → ("at" : Str) ≠ y → y ∉ vs → ρ.e sc vs e pe →
      CpSF ρ sc vs (.trySolved e) (.Try [.Return (some pe) q]
        [.ExceptHandler (some (.Name "BadSan" f1)) none [.Return (some (.Constant (.str "san") k1 f2)) f3] f4,
         .ExceptHandler (some (.Name "BadEpd" f5)) (some y) [.Return (some (.IfExp (.Compare (.Attribute (.Name y f6) "at" f7) [.Eq] [.UnaryOp .USub (.Constant (.int 1) k2 f8) f9] g1) (.Constant (.str "epd") k3 g2) (.Constant .none k4 g3) g4)) g5] g6] [] [] p)
  | stuck {st} : CpSF ρ sc vs .stuck st
inductive CpSsF (ρ : Rel) (sc : Scope) (vs : List Str) : List S → List Stmt → Prop
  | nil : CpSsF ρ sc vs [] []
  | cons {s ps ss pss} : ρ.s sc vs s ps → ρ.ss sc vs ss pss → CpSsF ρ sc vs (s :: ss) (ps :: pss)
  | stuck {ss pss} : CpSsF ρ sc vs (.stuck :: ss) pss

noncomputable def relN : Nat → Rel
  | 0 => ⟨fun _ _ _ _ => False, fun _ _ _ _ => False, fun _ _ _ _ => False, fun _ _ _ _ => False, fun _ _ _ _ => False, fun _ _ _ _ => False⟩
  | n + 1 => ⟨CpEF (relN n), CpEsF (relN n), CpCF (relN n), CpOF (relN n), CpSF (relN n), CpSsF (relN n)⟩
noncomputable def CpE (sc : Scope) (vs : List Str) (e : E) (pe : Expr) : Prop := ∃ n, (relN n).e sc vs e pe
noncomputable def CpEs (sc : Scope) (vs : List Str) (e : List E) (pe : List Expr) : Prop := ∃ n, (relN n).es sc vs e pe
noncomputable def CpC (sc : Scope) (vs : List Str) (e : Option E) (pe : List Expr) : Prop := ∃ n, (relN n).c sc vs e pe
noncomputable def CpO (sc : Scope) (vs : List Str) (e : Option E) (pe : Option Expr) : Prop := ∃ n, (relN n).o sc vs e pe
noncomputable def CpS (sc : Scope) (vs : List Str) (e : S) (pe : Stmt) : Prop := ∃ n, (relN n).s sc vs e pe
noncomputable def CpSs (sc : Scope) (vs : List Str) (e : List S) (pe : List Stmt) : Prop := ∃ n, (relN n).ss sc vs e pe
noncomputable abbrev relU : Rel := ⟨CpE, CpEs, CpC, CpO, CpS, CpSs⟩

theorem CpE.un {sc : Scope} {vs : List Str} {e : E} {pe : Expr} (c : CpE sc vs e pe) : CpEF (relU) sc vs e pe := by
  obtain ⟨n, c⟩ := c
  cases n with
  | zero => exact c.elim
  | succ n => induction c using CpEF.casesOn <;> constructor <;> first | assumption | exact ⟨n, ‹_›⟩
theorem CpEs.un {sc : Scope} {vs : List Str} {e : List E} {pe : List Expr} (c : CpEs sc vs e pe) : CpEsF (relU) sc vs e pe := by
  obtain ⟨n, c⟩ := c
  cases n with
  | zero => exact c.elim
  | succ n => induction c using CpEsF.casesOn <;> constructor <;> exact ⟨n, ‹_›⟩
theorem CpC.un {sc : Scope} {vs : List Str} {e : Option E} {pe : List Expr} (c : CpC sc vs e pe) : CpCF (relU) sc vs e pe := by
  obtain ⟨n, c⟩ := c
  cases n with
  | zero => exact c.elim
  | succ n => induction c using CpCF.casesOn <;> constructor <;> exact ⟨n, ‹_›⟩
theorem CpO.un {sc : Scope} {vs : List Str} {e : Option E} {pe : Option Expr} (c : CpO sc vs e pe) : CpOF (relU) sc vs e pe := by
  obtain ⟨n, c⟩ := c
  cases n with
  | zero => exact c.elim
  | succ n => induction c using CpOF.casesOn <;> constructor <;> exact ⟨n, ‹_›⟩
theorem CpS.un {sc : Scope} {vs : List Str} {e : S} {pe : Stmt} (c : CpS sc vs e pe) : CpSF (relU) sc vs e pe := by
  obtain ⟨n, c⟩ := c
  cases n with
  | zero => exact c.elim
  | succ n => induction c using CpSF.casesOn <;> constructor <;> first | assumption | exact ⟨n, ‹_›⟩
theorem CpSs.un {sc : Scope} {vs : List Str} {e : List S} {pe : List Stmt} (c : CpSs sc vs e pe) : CpSsF (relU) sc vs e pe := by
  obtain ⟨n, c⟩ := c
  cases n with
  | zero => exact c.elim
  | succ n => induction c using CpSsF.casesOn <;> constructor <;> exact ⟨n, ‹_›⟩

theorem CpE.star {sc : Scope} {vs : List Str} {e : E} {pe : Expr} (c : CpE sc vs e pe) (r : List Expr) (env : PySem.Env) : starEach (pe :: r) env = (false, eval pe env) :: starEach r env := by
  replace c := c.un
  induction c using CpEF.casesOn <;> rfl
theorem CpE.behind {sc : Scope} {vs : List Str} {e : E} {pe : Expr} (c : CpE sc vs e pe) (o : CmpOp) : behindInMarks o pe = false := by
  replace c := c.un
  induction c using CpEF.casesOn <;> rfl
theorem CpE.noSet {sc : Scope} {vs : List Str} {e : E} {pe : Expr} (c : CpE sc vs e pe) (env : PySem.Env) (v : Value) : foldedSetIterable pe env v = pure v := by
  replace c := c.un
  induction c using CpEF.casesOn <;> rfl
end Mine
end

/-! text M12b -/
section
set_option bootstrap.genMatcherCode false
set_option maxRecDepth 100000
open PySem PySem.Calls PyProof.Rows PySem.W
namespace Mine

/-- a fault e in the heap: fl tells of its traceback (no traceback yet; or the frame that it is in flight in) -/
structure Flt (B : Heap) (l : List PySem.Env) (e : Addr) (cls : Value) (dd : Option Addr) (fl : Option Value) (h : Heap) : Prop where
  stays : B.StaysIn h
  new : B.get? e = none
  frames : h.FunFrames B l
  obj : ∃ oe xs, h.get? e = some oe ∧ oe.cls = cls ∧ oe.dict = dd ∧ oe.data = .fields xs ∧ 1 < xs.size ∧ (match fl with
    | none => xs[1]? = some .none
    | some f => ∃ T oT ts, xs[1]? = some (.ref T) ∧ B.get? T = none ∧ T ≠ e ∧ h.get? T = some oT ∧ oT.data = .fields ts ∧ ts[3]? = some f)

/-- what stays while a fault is noted: names, and all but records up to their slots -/
noncomputable abbrev Ups (h h' : Heap) : Prop := h.UpToSlots h'

theorem dict_mapFields (o : Obj) (f : Array Value → Array Value) : (o.mapFields f).dict = o.dict := by
  obtain ⟨c, d, dt, sl⟩ := o; cases dt <;> rfl

theorem Flt.frameNe {B h : Heap} {l : List PySem.Env} {e a : Addr} {cls : Value} {dd : Option Addr} {fl : Option Value} {o : Obj} {xs : Array Value} (x : Flt B l e cls dd fl h) (ho : h.get? a = some o) (hd : o.data = .fields xs) : a ∉ l.filterMap (·.frame) := fun hm => by
  obtain ⟨_, o', ho', hnf⟩ := x.frames.mem hm
  rw [ho] at ho'; cases ho'; exact hnf xs hd

/-- a record's field turns -/
theorem setF {M : Model} {A : Around} {Z : Value → Shared → Prop} {s : Shared} {B : Heap} {l : List PySem.Env} {a : Addr} {o : Obj} {xs : Array Value} {k : Nat} {v : Value} {Q : Unit → Shared → Prop}
    (ho : s.heap.get? a = some o) (hd : o.data = .fields xs) (hk : k < xs.size) (hB : B.get? a = none) (st : B.StaysIn s.heap) (fr : s.heap.FunFrames B l)
    (h : ∀ h', h'.get? a = some (o.mapFields (·.setIfInBounds k v)) → (∀ b, b ≠ a → h'.get? b = s.heap.get? b) → B.StaysIn h' → h'.FunFrames B l → Ups s.heap h' → Q () { s with heap := h' }) :
    wpAny M A (setField (.ref a) k v) Q Z s := by
  have other : ∀ b, b ≠ a → (s.heap.update a (Obj.mapFields (·.setIfInBounds k v))).get? b = s.heap.get? b := fun b hb => Heap.get?_update_other _ _ (Ne.symm hb)
  have noRec : ∀ b o', s.heap.get? b = some o' → (∀ ys, o'.data ≠ .fields ys) → b ≠ a := fun b o' hb hnf q => by
    rw [q, ho] at hb; cases hb; exact hnf xs hd
  refine wpAny_setField ho hd hk (h _ (Heap.get?_update_self _ ho (Obj.isFreed_of_fields (Obj.data_mapFields hd _))) other (fun b o' hb => (other b fun q => by rw [q, hB] at hb; cases hb).trans (st b o' hb))
    (fr.of_keeps fun b o' hb hnf => ⟨o', (other b (noRec b o' hb hnf)).trans hb, rfl⟩) fun b o' hb hnf => ⟨o'.slots, (other b (noRec b o' hb hnf)).trans hb⟩)

section
variable {M : Model} {A : Around} {Z : Value → Shared → Prop} {s : Shared} {B : Heap} {env : PySem.Env} {outer : List PySem.Env} {e L : Addr} {cls : Value} {dd : Option Addr}

theorem newEntry_flt {head : Value} {had : Bool} {Q : Unit → Shared → Prop} {oe : Obj} {xs : Array Value} (hfr : A.frames = some (env :: outer)) (hf : env.frame = some L)
    (st : B.StaysIn s.heap) (hB : B.get? e = none) (fr : s.heap.FunFrames B (env :: outer)) (he : s.heap.get? e = some oe) (hc : oe.cls = cls) (hdi : oe.dict = dd) (hd : oe.data = .fields xs) (hsz : 1 < xs.size)
    (h : ∀ h', Flt B (env :: outer) e cls dd (some (rawInt L)) h' → Ups s.heap h' → Q () { s with heap := h' }) :
    wpAny M A (do let a ← frameOf env; let pl ← entryPlaceOf L had; let b ← EntryCells.newEntry head a .none (rawInt L) .none pl; setField (.ref e) 1 b) Q Z s := by
  have hene : e ∉ (env :: outer).filterMap (·.frame) := fun hm => by
    obtain ⟨_, o', ho', hnf⟩ := fr.mem hm
    rw [he] at ho'; cases ho'; exact hnf xs hd
  refine wpAny_bind (wpAny_frameOf_fun hfr fr hf fun h₁ hs₁ => ?_)
  refine wpAny_bind (wpAny_entryPlaceOf fun pl hpl => ?_)
  unfold EntryCells.newEntry newFields
  refine wpAny_bind (wpAny_newObj_type ?_ (hpl.sizeOk5 _ _ _ _ _))
  have he₁ : h₁.get? e = some oe := (hs₁.2.1 e hene).trans he
  have st₁ : B.StaysIn h₁ := fun b o hb => (hs₁.2.1 b fun hm => by rw [(fr.mem hm).1] at hb; cases hb).trans (st b o hb)
  have up₁ : Ups s.heap h₁ := fun b o hb _ => hs₁.2.2 b o hb
  have fr₁ : h₁.FunFrames B (env :: outer) := fr.of_keeps fun b o hb _ => let ⟨sl, hs⟩ := hs₁.2.2 b o hb; ⟨_, hs, rfl⟩
  have hTe : h₁.objs.size ≠ e := Nat.ne_of_gt (Heap.lt_size he₁)
  have hBT : B.get? h₁.objs.size = none := st₁.fresh
  refine setF (s := { s with heap := h₁.push _ }) (Heap.get?_push_of_some _ he₁) hd hsz hB (fun b o hb => Heap.get?_push_of_some _ (st₁ b o hb)) (fr₁.of_keeps fun b o hb _ => ⟨o, Heap.get?_push_of_some _ hb, rfl⟩) fun h' h1 h2 h3 h4 h5 => ?_
  refine h h' ⟨h3, hB, h4, _, _, h1, (Obj.cls_mapFields _ _).trans hc, (dict_mapFields _ _).trans hdi, Obj.data_mapFields hd _, by simp [hsz], h₁.objs.size, _, _, by simp [hsz], hBT, hTe, (h2 _ hTe).trans (Heap.get?_push_size _ rfl), rfl, ?_⟩ ((up₁.trans (Heap.UpToSlots.of_keeps fun b o hb => Heap.get?_push_of_some _ hb)).trans h5)
  first | (simp; done) | (rcases hpl with rfl | ⟨_, _, _, _, _, _, _, rfl⟩ <;> simp)

theorem note_flt {fl : Option Value} {Q : Unit → Shared → Prop} (hfr : A.frames = some (env :: outer)) (hf : env.frame = some L) (hfl : fl = none ∨ fl = some .none ∨ fl = some (rawInt L)) (x : Flt B (env :: outer) e cls dd fl s.heap)
    (h : ∀ h', Flt B (env :: outer) e cls dd (some (rawInt L)) h' → Ups s.heap h' → Q () { s with heap := h' }) : wpAny M A (noteFrame (.ref e) env) Q Z s := by
  obtain ⟨st, hB, fr, oe, xs, he, hc, hdi, hd, hsz, hfs⟩ := id x
  unfold noteFrame
  simp only [hf]
  rcases hfl with rfl | rfl | rfl
  · refine wpAny_bind (wpAny_field he hd hfs ?_)
    rw [if_neg (by decide)]
    exact newEntry_flt hfr hf st hB fr he hc hdi hd hsz h
  · obtain ⟨T, oT, ts, h1, hBT, hTe, hT, hdT, h3⟩ := hfs
    refine wpAny_bind (wpAny_field he hd h1 ?_)
    rw [if_pos (show (Value.ref T != Value.none) = true from by simp)]
    refine wpAny_bind (wpAny_field hT hdT h3 ?_)
    rw [if_neg (show ¬ ((Value.none == rawInt L) = true) from by simp [rawInt])]
    refine wpAny_bind (setF hT hdT (Array.getElem?_eq_some_iff.mp h3).1 hBT st fr fun h' k1 k2 k3 k4 k5 => ?_)
    exact newEntry_flt (s := { s with heap := h' }) hfr hf k3 hB k4 ((k2 e (Ne.symm hTe)).trans he) hc hdi hd hsz fun h'' y z => h h'' y (k5.trans z)
  · obtain ⟨T, oT, ts, h1, hBT, hTe, hT, hdT, h3⟩ := hfs
    refine wpAny_bind (wpAny_field he hd h1 ?_)
    rw [if_pos (show (Value.ref T != Value.none) = true from by simp)]
    refine wpAny_bind (wpAny_field hT hdT h3 ?_)
    rw [if_pos (show (rawInt L == rawInt L) = true from by simp)]
    exact wpAny_pure (h _ x (Heap.UpToSlots.refl _))

theorem flight_flt {f : Value} {to : Option Addr} {Q : Unit → Shared → Prop} {l : List PySem.Env} (x : Flt B l e cls dd (some f) s.heap)
    (h : ∀ h', Flt B l e cls dd (some (to.elim .none fun a => rawInt a)) h' → Ups s.heap h' → Q () { s with heap := h' }) : wpAny M A (setFlight (.ref e) to) Q Z s := by
  obtain ⟨st, hB, fr, oe, xs, he, hc, hdi, hd, hsz, T, oT, ts, h1, hBT, hTe, hT, hdT, h3⟩ := x
  have hsz3 := (Array.getElem?_eq_some_iff.mp h3).1
  unfold setFlight
  refine wpAny_bind (wpAny_field he hd h1 ?_)
  rw [if_pos (show (Value.ref T != Value.none) = true from by simp)]
  refine setF hT hdT hsz3 hBT st fr fun h' k1 k2 k3 k4 k5 => h h' ⟨k3, hB, k4, oe, xs, (k2 e (Ne.symm hTe)).trans he, hc, hdi, hd, hsz, T, _, _, h1, hBT, hTe, k1, Obj.data_mapFields hdT _, by simp [hsz3]⟩ k5

theorem Flt.out {fl : Option Value} {h : Heap} (x : Flt B (env :: outer) e cls dd fl h) : Flt B outer e cls dd fl h := ⟨x.stays, x.new, x.frames.2.2, x.obj⟩

/-- a fault leaves a frame -/
theorem leave_flt {fl : Option Value} {Q : Unit → Shared → Prop} (hfr : A.frames = some (env :: outer)) (hf : env.frame = some L) (hfl : fl = none ∨ fl = some .none ∨ fl = some (rawInt L)) (x : Flt B (env :: outer) e cls dd fl s.heap)
    (h : ∀ h', Flt B outer e cls dd (some .none) h' → Ups s.heap h' → Q () { s with heap := h' }) : wpAny M A (leaving env (.ref e)) Q Z s := by
  unfold leaving
  exact wpAny_bind (note_flt hfr hf hfl x fun h₁ x₁ u₁ => flight_flt (s := { s with heap := h₁ }) x₁ fun h₂ x₂ u₂ => h h₂ x₂.out (u₁.trans u₂))

/-- a fault passes the own activation of a loop -/
theorem pass_flt {fl : Option Value} {R : Value → Shared → Prop} (hfr : A.frames = some (env :: outer)) (hf : env.frame = some L) (hfl : fl = none ∨ fl = some .none ∨ fl = some (rawInt L)) (x : Flt B (env :: outer) e cls dd fl s.heap)
    (h : ∀ h', Flt B (env :: outer) e cls dd (some (rawInt L)) h' → Ups s.heap h' → R (.ref e) { s with heap := h' }) : notedBy M A env (cameBackBy M A env R) (.ref e) s := by
  unfold notedBy
  refine note_flt hfr hf hfl x fun h₁ x₁ u₁ => ?_
  unfold cameBackBy
  obtain ⟨_, _, _, oe, xs, he, _, _, hd, _, T, _, _, h1, _⟩ := id x₁
  refine wpAny_bind (wpAny_field he hd h1 ?_)
  rw [if_neg (show ¬ ((Value.ref T == Value.none) = true) from by simp), hf]
  exact flight_flt (s := { s with heap := h₁ }) (to := some L) x₁ fun h₂ x₂ u₂ => h h₂ x₂ (u₁.trans u₂)
end
end Mine
end

/-! text M12c -/
section
set_option bootstrap.genMatcherCode false
open PySem PySem.Calls PySem.W PySem.Builtin PySem.Builtin.ObjectAttr
set_option maxRecDepth 100000
namespace Mine

/-- a call of another class's __init__ -/
noncomputable def CallI (g : Str) (args : List PySem.Expr) (c : PySem.Expr) : Prop := ∃ p1 p2 p5, c = .Call (.Attribute (.Name g p1) "__init__" p2) args [] p5 ∧ ∃ pl : PySem.Env → Sem Bool, ∀ env, eval (.Call (.Attribute (.Name g p1) "__init__" p2) args [] p5) env = (do
      let ov ← eval (.Name g p1) env
      standAt p2.atName
      let (f, first) ← holding [ov] (getMethod ov "__init__" (pl env))
      callWith p5 f first (backTo p5 (starEach args env)) [])
noncomputable def BodyE (sc : Scope) (body : List Stmt) : Prop := IsGlob sc "Exception" ∧ ∃ c p6 p7 p8 p9 p10 q1 q2, body = [.Expr c p6, .Assign [.Attribute (.Name "self" p7) "text" p8] (.Name "text" p9) p10] ∧ CallI "Exception" [.Name "self" q1, .Name "text" q2] c
noncomputable def BodyB (sc : Scope) (body : List Stmt) : Prop := IsGlob sc "ChessError" ∧ ∃ c p6 p7 p8 p9 p10 q1 x k q2, body = [.Expr c p6, .Assign [.Attribute (.Name "self" p7) "at" p8] (.Name "at" p9) p10] ∧ CallI "ChessError" [.Name "self" q1, .Constant (.str x) k q2] c
noncomputable def BodyD (sc : Scope) (body : List Stmt) : Prop := IsGlob sc "ChessError" ∧ ∃ c p6 p7 p8 p9 p10 q1 q2, body = [.Expr c p6, .Assign [.Attribute (.Name "self" p7) "at" p8] (.Name "at" p9) p10] ∧ CallI "ChessError" [.Name "self" q1, .Name "text" q2] c

/-- a method of a class of the program -/
structure Meth (h : Heap) (f : Addr) (ps : List Str) (P : Scope → List Stmt → Prop) : Prop where
  ex : ∃ o fd body, h.get? f = some o ∧ o.cls = .type "function" ∧ o.data = .func fd ∧ h.CodeRec fd.code fd.qualname ∧ fd.body = .stmts body ∧ P fd.scope body ∧ fd.closure = [] ∧ fd.globals = mainGlobals ∧ fd.builtins = builtinsNs ∧
    fd.scope.kind = .function ∧ fd.scope.isGenerator = false ∧ fd.scope.isCoroutine = false ∧ (∀ x ∈ fd.scope.names, x.2 ≠ .cell) ∧ (∀ x ∈ ps, fd.scope.names.lookup x = some .local) ∧ (∀ vals : List Value, vals.length = ps.length → bindArgs fd ⟨vals, []⟩ = pure (ps.zip vals))
theorem Meth.keeps {h h' : Heap} {f : Addr} {ps : List Str} {P : Scope → List Stmt → Prop} (k : ∀ b o, h.get? b = some o → h'.get? b = some o) (x : Meth h f ps P) : Meth h' f ps P := by
  obtain ⟨o, fd, body, h1, h2, h3, h4, r⟩ := x.ex
  exact ⟨o, fd, body, k _ _ h1, h2, h3, h4.keeps k, r⟩

theorem Meth.use {h : Heap} {f : Addr} {ps : List Str} {P : Scope → List Stmt → Prop} {C : Prop} (x : Meth h f ps P) (k : ∀ o fd body, h.get? f = some o → o.cls = .type "function" → o.data = .func fd → h.CodeRec fd.code fd.qualname → fd.body = .stmts body → P fd.scope body → fd.closure = [] → fd.globals = mainGlobals → fd.builtins = builtinsNs →
    fd.scope.kind = .function → fd.scope.isGenerator = false → fd.scope.isCoroutine = false → (∀ x ∈ fd.scope.names, x.2 ≠ .cell) → (∀ x ∈ ps, fd.scope.names.lookup x = some .local) → (∀ vals : List Value, vals.length = ps.length → bindArgs fd ⟨vals, []⟩ = pure (ps.zip vals)) → C) : C := by
  obtain ⟨o, fd, body, h1, h2, h3, h4, h5, h6, h7, h8, h9, h10, h11, h12, h13, h14, h15⟩ := x.ex
  exact k o fd body h1 h2 h3 h4 h5 h6 h7 h8 h9 h10 h11 h12 h13 h14 h15
theorem Meth.fn {h : Heap} {f : Addr} {ps : List Str} {P : Scope → List Stmt → Prop} (x : Meth h f ps P) : ∃ o, h.get? f = some o ∧ o.cls = .type "function" := by
  obtain ⟨o, _, _, h1, h2, _⟩ := x.ex
  exact ⟨o, h1, h2⟩

structure ExK (K : Frag) (mg mb : Str → Option Value) (cE fE : Addr) : Prop where
  exc : findCls K (.type "Exception") (.type "type") "__init__" = some (.val (.builtin "Exception.__init__"))
  cls : findCls K (.ref cE) (.type "type") "__init__" = some (.val (.ref fE))
  reads : readsIn K cE (.type "type") = true
  ga : specialIn K (.ref cE) "__getattribute__" = some (some (.builtin "type.__getattribute__"))
  keep : keepIn K (.ref fE) = true
  mgE : mg "Exception" = none ∧ mb "Exception" = some (.type "Exception")
  mgC : mg "ChessError" = some (.ref cE)

/-- a class of faults -/
structure ClsK (K : Frag) (cE C fI : Addr) : Prop where
  cd : ∃ cd, clsIn K C = some cd ∧ cd.hasDict = true ∧ (∀ self, refuseLoop self "__setattr__" cd.mro = pure ()) ∧ cd.mro.contains (.type "object") = true ∧ cd.mro.contains (.type "BaseException") = true
  obj : ∃ nm q N bs hdct sn sub ab col dd k0 k1 k2 k3 k5, K.lookup C = some (excClassObj nm q C N bs [.ref cE, .type "Exception", .type "BaseException", .type "object"] hdct sn sub ab col dd k0 k1 k2 k3 k5 "Exception.__new__")
  takeAt : takerIn K C "at" = some none
  takeText : takerIn K C "text" = some none
  set : findIn K (.ref C) "__setattr__" = some (some (.builtin "object.__setattr__"))
  ga : findIn K (.ref C) "__getattribute__" = some (some (.builtin "BaseException.__getattribute__"))
  noga : findIn K (.ref C) "__getattr__" = some none
  noAt : findIn K (.ref C) "at" = some none
  init : findIn K (.ref C) "__init__" = some (some (.ref fI))
  keep : keepIn K (.ref C) = true

/-- what the ground holds of the classes of faults -/
structure ExG (mg mb : Str → Option Value) (G : Heap) : Prop where
  ex : ∃ K cE fE cB fB cS cD fD, K.In G ∧ ExK K mg mb cE fE ∧ Meth G fE ["self", "text"] BodyE ∧ Meth G fB ["self", "at"] BodyB ∧ Meth G fD ["self", "at", "text"] BodyD ∧
    ClsK K cE cB fB ∧ ClsK K cE cS fE ∧ ClsK K cE cD fD ∧ mg "BadBook" = some (.ref cB) ∧ mg "BadSan" = some (.ref cS) ∧ mg "BadEpd" = some (.ref cD) ∧ cS ≠ cD ∧ cE ≠ cS
theorem ExG.keeps {mg mb : Str → Option Value} {G G' : Heap} (k : ∀ b o, G.get? b = some o → G'.get? b = some o) (x : ExG mg mb G) : ExG mg mb G' := by
  obtain ⟨K, cE, fE, cB, fB, cS, cD, fD, h1, h2, h3, h4, h5, r⟩ := x.ex
  exact ⟨K, cE, fE, cB, fB, cS, cD, fD, h1.keeps k, h2, h3.keeps k, h4.keeps k, h5.keeps k, r⟩
theorem ExG.use {mg mb : Str → Option Value} {G : Heap} {P : Prop} (x : ExG mg mb G) (k : ∀ (K : Frag) (cE fE cB fB cS cD fD : Addr), K.In G → ExK K mg mb cE fE → Meth G fE ["self", "text"] BodyE → Meth G fB ["self", "at"] BodyB → Meth G fD ["self", "at", "text"] BodyD →
    ClsK K cE cB fB → ClsK K cE cS fE → ClsK K cE cD fD → mg "BadBook" = some (.ref cB) → mg "BadSan" = some (.ref cS) → mg "BadEpd" = some (.ref cD) → cS ≠ cD → cE ≠ cS → P) : P := by
  obtain ⟨K, cE, fE, cB, fB, cS, cD, fD, h1, h2, h3, h4, h5, h6, h7, h8, h9, h10, h11, h12, h13⟩ := x.ex
  exact k K cE fE cB fB cS cD fD h1 h2 h3 h4 h5 h6 h7 h8 h9 h10 h11 h12 h13
theorem ClsK.use {K : Frag} {cE C fI : Addr} (X : ClsK K cE C fI) {h : Heap} (k : K.In h) {P : Prop} (f : ∀ nm q N bs hdct sn sub ab col dd k0 k1 k2 k3 k5, h.get? C = some (excClassObj nm q C N bs [.ref cE, .type "Exception", .type "BaseException", .type "object"] hdct sn sub ab col dd k0 k1 k2 k3 k5 "Exception.__new__") → P) : P := by
  obtain ⟨nm, q, N, bs, hdct, sn, sub, ab, col, dd, k0, k1, k2, k3, k5, ho⟩ := X.obj
  exact f nm q N bs hdct sn sub ab col dd k0 k1 k2 k3 k5 (k _ _ ho)
end Mine
end

/-! text M13 -/
section
set_option bootstrap.genMatcherCode false
set_option maxRecDepth 100000
open PySem PySem.Calls PyProof.Rows PySem.W
namespace Mine

theorem R.ne_bind {α β : Type} {r : R α} {f : α → R β} (h : r.bind f ≠ .stuck) : r ≠ .stuck := by
  intro e; subst e; exact h rfl
theorem R.ofOpt_ne {α : Type} {o : Option α} (h : R.ofOpt o ≠ .stuck) : ∃ a, o = some a := by
  cases o with
  | none => exact (h rfl).elim
  | some a => exact ⟨a, rfl⟩

noncomputable def excName : Exc → Str
  | .san => "BadSan"
  | .epd _ => "BadEpd"
  | .book _ => "BadBook"
noncomputable def excAt : Exc → Option Int
  | .san => .none
  | .epd a => some a
  | .book a => some a

/-- the attributes of a fault that flies -/
noncomputable def AtD (h : Heap) (dd : Option Addr) (x : Exc) : Prop := ∀ i, excAt x = some i → ∃ d m t, dd = some d ∧ h.Ns d m ∧ m "at" = some (.int i t)
theorem AtD.ups {h h' : Heap} {dd : Option Addr} {x : Exc} (u : Ups h h') (a : AtD h dd x) : AtD h' dd x := fun i e => let ⟨d, m, t, h1, h2, h3⟩ := a i e; ⟨d, m, t, h1, u.ns h2, h3⟩

structure Fly (mg : Str → Option Value) (G : Heap) (fr : List PySem.Env) (s : Shared) (x : Exc) (v : Value) (s' : Shared) : Prop where
  is : ∃ e C dd, v = .ref e ∧ mg (excName x) = some (.ref C) ∧ Flt G fr e (.ref C) dd (some .none) s'.heap ∧ AtD s'.heap dd x
  names : ∀ L ∈ FRof fr, ∀ m, s.heap.Ns L m → s'.heap.Ns L m
  gens : s'.gens = s.gens
  os : s'.os = s.os
theorem Fly.back {mg : Str → Option Value} {G : Heap} {fr : List PySem.Env} {s s₁ s' : Shared} {x : Exc} {v : Value} (t : St fr s s₁) (f : Fly mg G fr s₁ x v s') : Fly mg G fr s x v s' :=
  ⟨f.is, fun L hL m hm => f.names L hL m (t.keep.ns hm fun z => z), f.gens.trans t.gens, f.os.trans t.os⟩

noncomputable def PX {α : Type} (mg : Str → Option Value) (G : Heap) (fr : List PySem.Env) (s : Shared) (r : R α) : Value → Shared → Prop := fun v s' => ∃ x, r = .exc x ∧ Fly mg G fr s x v s'
noncomputable def PV (fr : List PySem.Env) (s : Shared) (r : R V) : Value → Shared → Prop := fun v s' => ∃ d, r = .ok d ∧ Got fr s d v s'
noncomputable def PL (fr : List PySem.Env) (s : Shared) (r : R (List V)) : List Value → Shared → Prop := fun vs s' => ∃ ds, r = .ok ds ∧ RepL Tr s'.heap vs ds ∧ St fr s s'
noncomputable def PT (fr : List PySem.Env) (s : Shared) (r : R Bool) : Bool → Shared → Prop := fun b s' => r = .ok b ∧ St fr s s'
inductive OptIs (h : Heap) : Value → Option V → Prop
  | none : OptIs h .none .none
  | some {v : Value} {d : V} : Rep Tr h v d → OptIs h v (some d)
noncomputable def PO (fr : List PySem.Env) (s : Shared) (r : R (Option V)) : Value → Shared → Prop := fun v s' => ∃ o, r = .ok o ∧ OptIs s'.heap v o ∧ St fr s s'

section
variable {w : World} {mg : Str → Option Value} {G : Heap} {fr : List PySem.Env} {A : Around} {n : Nat} {s s₀ s' s'' : Shared} {E : Value → Shared → Prop}

theorem bnd {α β γ : Type} {m : Sem α} {r : R γ} {r1 : R β} {f : β → R γ} {P1 : β → α → Shared → Prop} {Q : α → Shared → Prop}
    (he : r = r1.bind f) (hr : r ≠ .stuck) (h1 : r1 ≠ .stuck → wpAny (model PR w) A m (fun v s' => ∃ b, r1 = .ok b ∧ P1 b v s') (PX mg G fr s r1) s)
    (hs : St fr s₀ s) (k : ∀ b v s', r1 = .ok b → P1 b v s' → r = f b → Q v s') :
    wpAny (model PR w) A m Q (PX mg G fr s₀ r) s := by
  subst he
  refine wpAny_mono (h1 (R.ne_bind hr)) (fun v s' h => ?_) fun v s' h => ?_
  · obtain ⟨b, e, p⟩ := h
    exact k b v s' e p (by rw [e]; rfl)
  · obtain ⟨x, e, p⟩ := h
    exact ⟨x, by rw [e]; rfl, p.back hs⟩
theorem R.beq {α β : Type} {r : R β} {r1 : R α} {f : α → R β} {b : α} (he : r = r1.bind f) (e : r1 = .ok b) : r = f b := by rw [he, e]; rfl
theorem R.bexc {α β : Type} {r : R β} {r1 : R α} {f : α → R β} {x : Exc} (he : r = r1.bind f) (e : r1 = .exc x) : r = .exc x := by rw [he, e]; rfl
theorem R.opt {α : Type} {r : R α} {o : Option α} (he : r = R.ofOpt o) (hr : r ≠ .stuck) : ∃ d, o = some d ∧ r = .ok d := by
  subst he
  cases o with
  | none => exact (hr rfl).elim
  | some a => exact ⟨a, rfl, rfl⟩
theorem R.optB {α β : Type} {r : R β} {o : Option α} {f : α → R β} (he : r = (R.ofOpt o).bind f) (hr : r ≠ .stuck) : ∃ d, o = some d ∧ r = f d := by
  subst he
  cases o with
  | none => exact (hr rfl).elim
  | some a => exact ⟨a, rfl, rfl⟩
theorem R.ite {α : Type} {r a : R α} {c : Prop} [Decidable c] (he : r = if c then a else .stuck) (hr : r ≠ .stuck) : c ∧ r = a := by
  by_cases q : c
  · exact ⟨q, he.trans (if_pos q)⟩
  · exact (hr (he.trans (if_neg q))).elim

theorem fin {d : V} {r : R V} {m : Sem Value} (he : r = .ok d) (hs : St fr s₀ s) (h : wpAny (model PR w) A m (Got fr s d) E s) : wpAny (model PR w) A m (PV fr s₀ r) E s :=
  wpAny_mono h (fun _ _ g => ⟨d, he, g.1, hs.trans g.2⟩) fun _ _ x => x
theorem finB {d : Bool} {r : R V} {m : Sem Value} (he : r = .ok (.bool d)) (hs : St fr s₀ s) (h : wpAny (model PR w) A m (GotB fr s d) E s) : wpAny (model PR w) A m (PV fr s₀ r) E s :=
  wpAny_mono h (fun v s' g => ⟨_, he, by rw [g.1]; exact .bool d, hs.trans g.2⟩) fun _ _ x => x

/-! names -/
theorem VarIs.load {env : PySem.Env} {x : Str} {v : Value} {Q : Value → Shared → Prop} (hk : env.scope.kind = .function) (hc : (x == ("__classdict__" : Str)) = false) (hv : VarIs env s.heap x v) (h : Q v s) :
    wpAny (model PR w) A (loadName env x) Q E s := by
  cases hv with
  | loc a b c => exact wpAny_loadName_local hk a b c h
  | cell a b c =>
    rcases a with a | a
    · exact wpAny_loadName_cell hk a b c h
    · exact wpAny_loadName_free hk a b c h hc
theorem VarIs.keep {FR : List Addr} {X : Addr → Prop} {env : PySem.Env} {x : Str} {v : Value} {h h' : Heap} (k : Keep FR X h h') (hl : ¬ X env.locals) (hc : ∀ c, env.cells.lookup x = some c → ¬ X c) (hv : VarIs env h x v) : VarIs env h' x v := by
  cases hv with
  | loc a b c => exact .loc a (k.ns b hl) c
  | cell a b c => exact .cell a b (k.isCell c (hc _ b))
theorem DictIs.keep {X : Addr → Prop} {FR : List Addr} {h h' : Heap} {d : Addr} {kvs : List ((Int × Int) × Int)} (k : Keep FR X h h') (hx : ∀ a, X a → ∀ vs, ¬ IsTup h a vs) (hd : ¬ X d) (hf : d ∉ FR) (x : DictIs w h d kvs) : DictIs w h' d kvs := by
  obtain ⟨hs, xs, ⟨o, es, ep, ho, hdict, hdat, he, hk, hn⟩, hdk⟩ := x
  refine ⟨hs, xs, ⟨o, es, ep, k.exact d o ho hd fun q => (hf q).elim, hdict, hdat, he, fun p hp => ?_, hn⟩, hdk⟩
  obtain ⟨o', items, n', ho', hc', hd', hi'⟩ := hk p hp
  exact ⟨o', items, n', k.exact _ o' ho' (fun q => hx _ q items ⟨o', ho', hc', n', hd'⟩) fun _ es' ep' q => (by rw [hd'] at q; cases q), hc', hd', hi'⟩
theorem EnvOk.step {FR : List Addr} {sc : Scope} {σ : Env} {vs : List Str} {env : PySem.Env} {h h' : Heap} (k : Keep FR No h h') (x : EnvOk w FR sc σ vs env h) : EnvOk w FR sc σ vs env h' := by
  refine ⟨x.kind, x.glo, x.blt, fun i y sl hi hs => ?_, x.names, x.cells, x.cellv⟩
  have := x.slot i y sl hi hs
  cases sl with
  | unb => trivial
  | val V =>
    obtain ⟨v, hv, r⟩ := this
    exact ⟨v, hv.keep k (fun z => z) (fun _ _ z => z), r.step k⟩
  | own l =>
    obtain ⟨v, hv, r⟩ := this
    exact ⟨v, hv.keep k (fun z => z) (fun _ _ z => z), r.step k⟩
  | dict kvs =>
    obtain ⟨d, hv, hn, hd⟩ := this
    exact ⟨d, hv.keep k (fun z => z) (fun _ _ z => z), hn, hd.keep k (fun _ z => z.elim) (fun z => z) hn⟩

/-- a function of the program: what its text says -/
structure FnOk (fn : Fn) (na : Nat) (params : Arguments) (body : List Stmt) (scope : Scope) (vs : List Str) : Prop where
  kind : scope.kind = .function
  gen : scope.isGenerator = false
  coro : scope.isCoroutine = false
  slots : vs.length = fn.slots
  few : na ≤ vs.length
  bind : ∀ name pm cd doc (vals : List Value), vals.length = na → bindArgs (docDef name params body scope pm cd doc) ⟨vals, []⟩ = pure ((vs.take na).zip vals)
  kinds : ∀ x ∈ vs, scope.names.lookup x = some .local ∨ scope.names.lookup x = some .cell
  nodup : vs.Nodup
  names : (scope.names.map (·.1)).Nodup
  body : CpSs scope vs fn.body body

noncomputable def FnD (f : Nat) (fd : FuncData) (G : Heap) : Prop :=
  ∃ fn name params body scope pm cd doc vs, FT f = some fn ∧ fd = docDef name params body scope pm cd doc ∧ G.CodeRec cd name ∧ FnOk fn (tb0.ar f) params body scope vs

theorem FnD.keeps {f : Nat} {fd : FuncData} {G G' : Heap} (k : ∀ b o, G.get? b = some o → G'.get? b = some o) (x : FnD f fd G) : FnD f fd G' := by
  obtain ⟨fn, name, params, body, scope, pm, cd, doc, vs, h1, h2, h3, h4⟩ := x
  exact ⟨fn, name, params, body, scope, pm, cd, doc, vs, h1, h2, h3.keeps k, h4⟩

/-! what the ground holds -/
variable (w) in
structure Gd (mg mb : Str → Option Value) (G : Heap) : Prop where
  g : G.Ns mainGlobals mg
  b : G.Ns builtinsNs mb
  gl : ∀ x v, tb0.gl x = some v → ∃ val, mg x = some val ∧ Rep Tr G val v
  len : mg "len" = none ∧ mb "len" = some (.builtin "len")
  min : mg "min" = none ∧ mb "min" = some (.builtin "min")
  max : mg "max" = none ∧ mb "max" = some (.builtin "max")
  sorted : mg "sorted" = none ∧ mb "sorted" = some (.builtin "sorted")
  list : mg "list" = none ∧ mb "list" = some (.type "list")
  bytes : mg "bytes" = none ∧ mb "bytes" = some (.type "bytes")
  range : mg "range" = none ∧ mb "range" = some (.type "range")
  ex : ExG mg mb G
  fn : ∀ x f, tb0.fn x = some f → ∃ a o fd, mg x = some (.ref a) ∧ G.get? a = some o ∧ o.data = .func fd ∧ FnD f fd G
end
end Mine
end

/-! text M14 -/
section
set_option bootstrap.genMatcherCode false
set_option maxRecDepth 100000
open PySem PySem.Calls PyProof.Rows PySem.W
namespace Mine

section
variable (w : World) (mg mb : Str → Option Value)

/-- the setting of an expression -/
structure Stg (k : Nat) (G : Heap) (fr : List PySem.Env) (A : Around) (sc : Scope) (σ : Env) (vs : List Str) (env : PySem.Env) (h : Heap) : Prop where
  d : Gd mg mb G
  R : Rm G fr A k h
  e : EnvOk w (FRof fr) sc σ vs env h

noncomputable def SimE (k : Nat) : Prop := ∀ {G fr A s σ sc vs env e pe}, Stg w mg mb k G fr A sc σ vs env s.heap → CpE sc vs e pe → evE FT k σ e ≠ .stuck →
  wpAny (model PR w) A (eval pe env) (PV fr s (evE FT k σ e)) (PX mg G fr s (evE FT k σ e)) s
noncomputable def SimEs (k : Nat) : Prop := ∀ {G fr A s σ sc vs env es pes} (p : Pos), Stg w mg mb k G fr A sc σ vs env s.heap → CpEs sc vs es pes → evEs FT k σ es ≠ .stuck →
  wpAny (model PR w) A (spliced (backTo p (starEach pes env))) (PL fr s (evEs FT k σ es)) (PX mg G fr s (evEs FT k σ es)) s
noncomputable def SimO (k : Nat) : Prop := ∀ {G fr A s σ sc vs env o po}, Stg w mg mb k G fr A sc σ vs env s.heap → CpO sc vs o po → evO FT k σ o ≠ .stuck →
  wpAny (model PR w) A (evalPart po env) (PO fr s (evO FT k σ o)) (PX mg G fr s (evO FT k σ o)) s
noncomputable def SimB (k : Nat) : Prop := ∀ {G fr A s σ sc vs env es pes} (p : Pos) (b : Bool), Stg w mg mb k G fr A sc σ vs env s.heap → CpEs sc vs es pes → evB FT k σ b es ≠ .stuck →
  wpAny (model PR w) A (boolOp p (if b then .And else .Or) (evalEach pes env)) (PV fr s (evB FT k σ b es)) (PX mg G fr s (evB FT k σ b es)) s
noncomputable def SimT (k : Nat) : Prop := ∀ {G fr A s σ sc vs env e pe}, Stg w mg mb k G fr A sc σ vs env s.heap → CpE sc vs e pe → evT FT k σ e ≠ .stuck →
  wpAny (model PR w) A (isTrue pe env (eval pe env)) (PT fr s (evT FT k σ e)) (PX mg G fr s (evT FT k σ e)) s
noncomputable def SimTs (k : Nat) : Prop := ∀ {G fr A s σ sc vs env es pes} (b : Bool), Stg w mg mb k G fr A sc σ vs env s.heap → CpEs sc vs es pes → evTs FT k σ b es ≠ .stuck →
  wpAny (model PR w) A (allTrue (if b then .And else .Or) pes env) (PT fr s (evTs FT k σ b es)) (PX mg G fr s (evTs FT k σ b es)) s
/-- a call of a function of the program -/
noncomputable def SimC (k : Nat) : Prop := ∀ {G fr A s x f vals ds fv}, Gd mg mb G → Rm G fr A k s.heap → tb0.fn x = some f → ds.length = tb0.ar f → RepL Tr s.heap vals ds → mg x = some fv → evC FT k f ds ≠ .stuck →
  wpAny (model PR w) A (call fv vals) (PV fr s (evC FT k f ds)) (PX mg G fr s (evC FT k f ds)) s
end

section
variable {w : World} {mg mb : Str → Option Value}
variable {G : Heap} {fr : List PySem.Env} {A : Around} {k : Nat} {s s₀ s' s'' : Shared} {Z : Value → Shared → Prop} {sc : Scope} {σ : Env} {vs : List Str} {env : PySem.Env}

theorem Stg.less {m : Nat} (g : Stg w mg mb k G fr A sc σ vs env s.heap) (h : m ≤ k) : Stg w mg mb m G fr A sc σ vs env s.heap := ⟨g.d, g.R.less h, g.e⟩
theorem Stg.pred (g : Stg w mg mb (k + 1) G fr A sc σ vs env s.heap) : Stg w mg mb k G fr A sc σ vs env s.heap := g.less (Nat.le_succ k)
theorem Stg.step (g : Stg w mg mb k G fr A sc σ vs env s.heap) (t : St fr s s') : Stg w mg mb k G fr A sc σ vs env s'.heap := ⟨g.d, g.R.step t, g.e.step t.keep⟩

theorem Stg.glob {x : Str} {p : Pos} {v : Value} {Q : Value → Shared → Prop} (g : Stg w mg mb k G fr A sc σ vs env s.heap) (hx : IsGlob sc x) (hv : mg x = some v) (h : Q v s) : wpAny (model PR w) A (eval (.Name x p) env) Q Z s :=
  Name_function_global g.e.kind (g.e.names _ hx.1) (loadGlobal_global (g.e.glo ▸ g.d.g.keeps g.R.keepG) hv h) hx.2
theorem Stg.blt {x : Str} {p : Pos} {v : Value} {Q : Value → Shared → Prop} (g : Stg w mg mb k G fr A sc σ vs env s.heap) (hx : IsGlob sc x) (hv : mg x = none ∧ mb x = some v) (h : Q v s) : wpAny (model PR w) A (eval (.Name x p) env) Q Z s :=
  Name_function_global g.e.kind (g.e.names _ hx.1) (loadGlobal_builtin (g.e.glo ▸ g.d.g.keeps g.R.keepG) hv.1 (g.e.blt ▸ g.d.b.keeps g.R.keepG) hv.2 h) hx.2

theorem Stg.call1 {id : String} {x : Str} {q p : Pos} {a : E} {pa : Expr} {Q : Value → Shared → Prop} (g : Stg w mg mb k G fr A sc σ vs env s.heap) (hx : IsGlob sc x) (hv : mg x = none ∧ mb x = some (.builtin id)) (c : CpE sc vs a pa)
    (h : wpAny (model PR w) A (eval pa env) (fun v s₁ => wpAny (model PR w) A (call (.builtin id) [v]) Q Z s₁) Z s) : wpAny (model PR w) A (eval (.Call (.Name x q) [pa] [] p) env) Q Z s :=
  Call_Name (trees := [(false, eval pa env)]) (by rw [c.star]; rfl)
    (g.blt hx hv (callWith_builtin rfl (evalArgs_plain (spliced_cons (wpAny_mono h (fun _ _ h₁ => spliced_nil h₁) fun _ _ y => y)))))
theorem Stg.call2 {id : String} {x : Str} {q p : Pos} {a b : E} {pa pb : Expr} {Q : Value → Shared → Prop} (g : Stg w mg mb k G fr A sc σ vs env s.heap) (hx : IsGlob sc x) (hv : mg x = none ∧ mb x = some (.builtin id)) (c : CpE sc vs a pa) (c' : CpE sc vs b pb)
    (h : wpAny (model PR w) A (eval pa env) (fun v s₁ => wpAny (model PR w) A (eval pb env) (fun u s₂ => wpAny (model PR w) A (call (.builtin id) [v, u]) Q Z s₂) Z s₁) Z s) : wpAny (model PR w) A (eval (.Call (.Name x q) [pa, pb] [] p) env) Q Z s :=
  Call_Name (trees := [(false, eval pa env), (false, eval pb env)]) (by rw [c.star, c'.star]; rfl)
    (g.blt hx hv (callWith_builtin rfl (evalArgs_plain (spliced_cons (wpAny_mono h (fun _ _ h₁ => spliced_cons (wpAny_mono h₁ (fun _ _ h₂ => spliced_nil h₂) fun _ _ y => y)) fun _ _ y => y)))))
theorem Stg.callT {T : String} {x : Str} {q p : Pos} {a : E} {pa : Expr} {Q : Value → Shared → Prop} (g : Stg w mg mb k G fr A sc σ vs env s.heap) (hx : IsGlob sc x) (hv : mg x = none ∧ mb x = some (.type T)) (c : CpE sc vs a pa)
    (h : wpAny (model PR w) A (eval pa env) (fun v s₁ => wpAny (model PR w) A (call (.type T) [v]) Q Z s₁) Z s) : wpAny (model PR w) A (eval (.Call (.Name x q) [pa] [] p) env) Q Z s :=
  Call_Name (trees := [(false, eval pa env)]) (by rw [c.star]; rfl)
    (g.blt hx hv (PyProof.Rows.callWith_type rfl (evalArgs_plain (spliced_cons (wpAny_mono h (fun _ _ h₁ => spliced_nil h₁) fun _ _ y => y)))))

theorem PO.bound {h : Heap} {v : Value} {o : Option V} {b : Option Int} (x : OptIs h v o) (e : boundV o = some b) : BoundIs v o := by
  cases x with
  | none => exact .none
  | some r => cases r <;> first | exact .int .. | (cases e; done)

theorem var_load {x : Str} {p : Pos} {v : Value} {Q : Value → Shared → Prop} (hk : env.scope.kind = .function) (hd : (x == ("__debug__" : Str)) = false) (hc : (x == ("__classdict__" : Str)) = false) (hv : VarIs env s.heap x v) (h : Q v s) :
    wpAny (model PR w) A (eval (.Name x p) env) Q Z s := wpAny_Name (hv.load hk hc h) hd

theorem simEs_succ (HE : SimE w mg mb k) (HEs : SimEs w mg mb k) : SimEs w mg mb (k + 1) := by
  intro G fr A s σ sc vs env es pes p g c hr
  replace c := c.un
  induction c using CpEsF.casesOn with
  | nil =>
    exact wpAny_items_nil ⟨[], rfl, .nil, St.refl _⟩
  | cons c cs =>
    refine wpAny_items_cons (bnd rfl hr (fun h => HE g.pred c h) (St.refl s) fun d v s₁ _ g₁ h₁ => ?_) (c.star _ _)
    refine bnd h₁ hr (fun h => HEs p (g.pred.step g₁.2) cs h) g₁.2 fun ds vals s₂ _ g₂ h₂ => ?_
    exact ⟨_, h₂, .cons (g₁.1.step g₂.2.keep) g₂.1, g₁.2.trans g₂.2⟩

theorem simO_succ (HE : SimE w mg mb k) : SimO w mg mb (k + 1) := by
  intro G fr A s σ sc vs env o po g c hr
  replace c := c.un
  induction c using CpOF.casesOn with
  | none => exact wpAny_pure ⟨none, rfl, .none, St.refl _⟩
  | some c =>
    show wpAny _ _ (eval _ env) _ _ s
    refine bnd rfl hr (fun h => HE g.pred c h) (St.refl s) fun d v s₁ _ g₁ h₁ => ?_
    exact ⟨_, h₁, .some g₁.1, g₁.2⟩
end
end Mine
end

/-! text M15 -/
section
set_option bootstrap.genMatcherCode false
set_option maxRecDepth 100000
open PySem PySem.Calls PyProof.Rows PySem.W
namespace Mine
section
variable {w : World} {mg mb : Str → Option Value}
variable {G : Heap} {fr : List PySem.Env} {A : Around} {k : Nat} {s s₀ s' s'' : Shared} {Z : Value → Shared → Prop} {sc : Scope} {σ : Env} {vs : List Str} {env : PySem.Env}

/-- one argument, then an operation -/
theorem un {o : V → Option V} {m : Sem Value} {f : Value → Sem Value} {r r1 : R V} (he : r = r1.bind fun x => R.ofOpt (o x)) (hr : r ≠ .stuck)
    (h1 : r1 ≠ .stuck → wpAny (model PR w) A m (PV fr s r1) (PX mg G fr s r1) s)
    (hop : ∀ (x d : V) (v : Value) (s₁ : Shared), o x = some d → Rep Tr s₁.heap v x → St fr s s₁ → wpAny (model PR w) A (f v) (Got fr s₁ d) (PX mg G fr s r) s₁) :
    wpAny (model PR w) A m (fun v s₁ => wpAny (model PR w) A (f v) (PV fr s r) (PX mg G fr s r) s₁) (PX mg G fr s r) s :=
  bnd he hr (fun h => h1 h) (St.refl s) fun x v s₁ _ g₁ he₁ => let ⟨d, hd, e⟩ := R.opt he₁ hr; fin e g₁.2 (hop x d v s₁ hd g₁.1 g₁.2)

/-- two arguments, then an operation -/
theorem two {o : V → V → Option V} {m m' : Sem Value} {f : Value → Value → Sem Value} {r r1 r2 : R V} (he : r = r1.bind fun x => r2.bind fun y => R.ofOpt (o x y)) (hr : r ≠ .stuck)
    (h1 : r1 ≠ .stuck → wpAny (model PR w) A m (PV fr s r1) (PX mg G fr s r1) s)
    (h2 : ∀ s₁, St fr s s₁ → r2 ≠ .stuck → wpAny (model PR w) A m' (PV fr s₁ r2) (PX mg G fr s₁ r2) s₁)
    (hop : ∀ (x y d : V) (v u : Value) (s₁ : Shared), o x y = some d → Rep Tr s₁.heap v x → Rep Tr s₁.heap u y → St fr s s₁ → wpAny (model PR w) A (f v u) (Got fr s₁ d) (PX mg G fr s r) s₁) :
    wpAny (model PR w) A m (fun v s₁ => wpAny (model PR w) A m' (fun u s₂ => wpAny (model PR w) A (f v u) (PV fr s r) (PX mg G fr s r) s₂) (PX mg G fr s r) s₁) (PX mg G fr s r) s :=
  bnd he hr (fun h => h1 h) (St.refl s) fun x v s₁ _ g₁ he₁ => bnd he₁ hr (fun h => h2 s₁ g₁.2 h) g₁.2 fun y u s₂ _ g₂ he₂ => let ⟨d, hd, e⟩ := R.opt he₂ hr
    fin e (g₁.2.trans g₂.2) (hop x y d v u s₂ hd (g₁.1.step g₂.2.keep) g₂.1 (g₁.2.trans g₂.2))

theorem gotB_got {b : Bool} {v : Value} {s₁ : Shared} (h : GotB fr s b v s₁) : Got fr s (.bool b) v s₁ := ⟨by rw [h.1]; exact .bool b, h.2⟩

theorem truv_cap {x : V} {r : Bool} (h : truV x = some r) : truthV x = some r ∧ ∀ l, x = .list l → l.length ≤ cap := by
  cases x <;> first | (refine ⟨h, fun l e => ?_⟩; cases e; done) | skip
  rename_i l
  simp only [truV] at h
  obtain ⟨c, e⟩ := ite_some2 h
  exact ⟨e, fun l' e' => by cases e'; exact c⟩
theorem truv_ok {x : V} {r : Bool} {a : Value} (h : truV x = some r) (ra : Rep Tr s.heap a x) : wpAny (model PR w) A (truthy a) (GotT fr s r) Z s :=
  truth_ok (truv_cap h).1 ra (truv_cap h).2

/-! the dict of pairs -/
theorem atKey_ne {a b a' b' : Int} {ad : Addr} {v : Value} {xs : List (List Int × Addr × Value)} (q : ¬ (a, b) = (a', b')) : atKey (([a', b'], ad, v) :: xs) [a, b] = atKey xs [a, b] := by
  unfold atKey
  rw [List.find?_cons_of_neg]
  simp only [decide_eq_true_eq, List.cons.injEq, and_true]
  rintro ⟨rfl, rfl⟩
  exact q rfl
theorem atKey_eq {a b : Int} {ad : Addr} {v : Value} {xs : List (List Int × Addr × Value)} : atKey (([a, b], ad, v) :: xs) [a, b] = some (ad, v) := by simp [atKey]
theorem DK.at {a b : Int} {xs : List (List Int × Addr × Value)} {kvs : List ((Int × Int) × Int)} (h : DK xs kvs) : (kvs.lookup (a, b) = none → atKey xs [a, b] = none) ∧ ∀ z, kvs.lookup (a, b) = some z → ∃ ad t, atKey xs [a, b] = some (ad, Value.int z t) := by
  induction h with
  | nil => exact ⟨fun _ => rfl, fun _ e => (by cases e)⟩
  | @cons a' b' z t ad xs kvs h ih =>
    rw [List.lookup_cons]
    by_cases q : (a, b) = (a', b')
    · rw [beq_iff_eq.mpr q]
      cases q
      exact ⟨fun e => (by cases e), fun _ e => (by cases e; exact ⟨ad, t, atKey_eq⟩)⟩
    · rw [beq_eq_false_iff_ne.mpr q, atKey_ne q]
      exact ih
theorem DK.none {a b : Int} {xs : List (List Int × Addr × Value)} {kvs : List ((Int × Int) × Int)} (h : DK xs kvs) (e : kvs.lookup (a, b) = none) : atKey xs [a, b] = none := h.at.1 e
theorem DK.some {a b z : Int} {xs : List (List Int × Addr × Value)} {kvs : List ((Int × Int) × Int)} (h : DK xs kvs) (e : kvs.lookup (a, b) = some z) : ∃ ad t, atKey xs [a, b] = some (ad, Value.int z t) := h.at.2 z e
theorem pair_key {P : Addr → Prop} {h : Heap} {v : Value} {a b : Int} (x : Rep P h v (.tuple [.int a, .int b])) : ∃ ad, v = .ref ad ∧ (tupleKind (intKind PR w)).is h [a, b] ad := by
  obtain ⟨ad, vs, rfl, ⟨o, ho, hc, n, hd⟩, rl⟩ := x.asTup rfl
  obtain ⟨v1, ws, rfl, x1, rl⟩ := rl.un
  obtain ⟨v2, ws, rfl, x2, rl⟩ := rl.un
  obtain rfl := rl.un0
  obtain ⟨t, rfl⟩ := x1.asInt rfl
  obtain ⟨u, rfl⟩ := x2.asInt rfl
  exact ⟨_, rfl, o, _, n, ho, hc, hd, .cons (intKind_is ..) (.cons (intKind_is ..) .nil)⟩
theorem pairKey_spec {x y : V} {p : Int × Int} (h : pairKey x y = some p) : x = .int p.1 ∧ y = .int p.2 := by
  obtain ⟨i, j, rfl, rfl, e⟩ := int2_inv h
  cases e
  exact ⟨rfl, rfl⟩

theorem inDict_ok {d : Addr} {v : Value} {kvs : List ((Int × Int) × Int)} {x y : V} {b : Bool} (R : Rm G fr A k s.heap) (hd : DictIs w s.heap d kvs) (ha : Rep Tr s.heap v (.tuple [x, y]))
    (h : ((pairKey x y).map fun p => (kvs.lookup p).isSome) = some b) : wpAny (model PR w) A (compareOp .In v (.ref d)) (GotB fr s b) Z s := by
  simp only [Option.map_eq_some_iff] at h
  obtain ⟨⟨a, b⟩, hp, rfl⟩ := h
  obtain ⟨rfl, rfl⟩ := pairKey_spec hp
  obtain ⟨ad, rfl, hk⟩ := pair_key (w := w) ha
  obtain ⟨hs, xs, hm, hdk⟩ := hd
  have hu := R.unitsOk
  refine wpAny_in_heap (tupleKind_room_in1 (by lia)) hk hs hm ?_
  cases q : kvs.lookup (a, b) with
  | none => rw [hdk.none q]; exact ⟨rfl, St.toks ..⟩
  | some z => obtain ⟨_, _, e⟩ := hdk.some q; rw [e]; exact ⟨rfl, St.toks ..⟩

/-- a key of two, made on the spot -/
theorem key2 {β : Type} {kd : Nat} {p : Pos} {r : R β} {f : V → V → R β} (HE : SimE w mg mb k) {a b : E} {pa pb : PySem.Expr} {Q : Value → Shared → Prop} (g : Stg w mg mb k G fr A sc σ vs env s.heap) (ca : CpE sc vs a pa) (cb : CpE sc vs b pb) (hs : St fr s₀ s)
    (he : r = (evE FT k σ a).bind fun x => (evE FT k σ b).bind fun y => f x y) (hr : r ≠ .stuck)
    (h : ∀ x y v s', r = f x y → Rep Tr s'.heap v (.tuple [x, y]) → St fr s₀ s' → St fr s s' → Q v s') :
    wpAny (model PR w) A (eval (.Tuple [pa, pb] kd p) env) Q (PX mg G fr s₀ r) s := by
  refine wpAny_Tuple (wpAny_items_cons (bnd he hr (fun h => HE g ca h) hs fun x v s₁ _ g₁ he₁ => ?_) (ca.star _ _))
  refine wpAny_items_cons (bnd he₁ hr (fun h => HE (g.step g₁.2) cb h) (hs.trans g₁.2) fun y u s₂ _ g₂ he₂ => ?_) (cb.star _ _)
  refine wpAny_items_nil ⟨by show 2 ≤ sizeLine; decide, ?_⟩
  have gn := Got.tupNew (fr := fr) (s := s₂) (.cons (g₁.1.step g₂.2.keep) (.cons g₂.1 .nil)) s₂.toks
  exact h x y _ _ he₂ gn.1 ((hs.trans g₁.2).trans (g₂.2.trans gn.2)) (g₁.2.trans (g₂.2.trans gn.2))

theorem getDict_ok {d : Addr} {v : Value} {kvs : List ((Int × Int) × Int)} {x y z : V} {xx : Str} {pp : Pos} (R : Rm G fr A k s.heap) (hd : DictIs w s.heap d kvs) (ha : Rep Tr s.heap v (.tuple [x, y]))
    (h : ((pairKey x y).bind fun p => (kvs.lookup p).map V.int) = some z) (slice : PySem.Expr) : wpAny (model PR w) A (subscriptTail (.Name xx pp) slice (.ref d) v) (Got fr s z) Z s := by
  simp only [Option.bind_eq_some_iff, Option.map_eq_some_iff] at h
  obtain ⟨⟨a, b⟩, hp, i, hl, rfl⟩ := h
  obtain ⟨rfl, rfl⟩ := pairKey_spec hp
  obtain ⟨ad, rfl, hk⟩ := pair_key (w := w) ha
  obtain ⟨hs, xs, hm, hdk⟩ := hd
  have hu := R.unitsOk
  obtain ⟨ad', t, e⟩ := hdk.some hl
  obtain ⟨ops, ho⟩ := subscripted_ops slice (.ref d) (.ref ad)
  exact tail_any hm.typeIs slot_dict_getitem.lookup (wpAny_getItem_heap (tupleKind_room_in1 (by lia)) hk hm e ⟨.int .., St.toks ..⟩) ho

theorem slotV_cases {sl : Slot} {d : V} (h : slotV sl = some d) : sl = .val d ∨ ∃ l, sl = .own l ∧ d = .list l := by
  cases sl <;> first | (cases h; done) | skip
  · cases h; exact .inl rfl
  · cases h; exact .inr ⟨_, rfl, rfl⟩
theorem slot_val {i : Nat} {x : Str} {d : V} (e : EnvOk w (FRof fr) sc σ vs env s.heap) (hx : vs[i]? = some x) (h : (σ[i]?).bind slotV = some d) : ∃ v, VarIs env s.heap x v ∧ Rep Tr s.heap v d := by
  obtain ⟨sl, hs, hd⟩ := Option.bind_eq_some_iff.mp h
  have := e.slot i x sl hx hs
  rcases slotV_cases hd with rfl | ⟨l, rfl, rfl⟩
  · exact this
  · exact this
theorem dict_slot {i : Nat} {d : List ((Int × Int) × Int)} (h : dictAt σ i = some d) : σ[i]? = some (.dict d) := by
  unfold dictAt at h
  split at h
  · cases h; assumption
  · cases h
theorem own_slot {i : Nat} {d : List V} (h : ownAt σ i = some d) : σ[i]? = some (.own d) := by
  unfold ownAt at h
  split at h
  · cases h; assumption
  · cases h

end
end Mine
end

/-! text M16 -/
section
set_option bootstrap.genMatcherCode false
set_option maxRecDepth 100000
open PySem PySem.Calls PyProof.Rows PySem.W
namespace Mine
section
variable {w : World} {mg mb : Str → Option Value}
variable {G : Heap} {fr : List PySem.Env} {A : Around} {k : Nat} {s s₀ s' s'' : Shared} {Z : Value → Shared → Prop} {sc : Scope} {σ : Env} {vs : List Str} {env : PySem.Env}

theorem PT.back {r : R Bool} {b : Bool} (hs : St fr s₀ s) (h : PT fr s r b s') : PT fr s₀ r b s' := ⟨h.1, hs.trans h.2⟩
theorem PX.back {α : Type} {r : R α} {v : Value} (hs : St fr s₀ s) (h : PX mg G fr s r v s') : PX mg G fr s₀ r v s' := let ⟨y, e, f⟩ := h; ⟨y, e, f.back hs⟩
theorem mono_t {m : Sem Bool} {r r' : R Bool} (he : r = r') (hr : r ≠ .stuck) (hs : St fr s₀ s) (h : r' ≠ .stuck → wpAny (model PR w) A m (PT fr s r') (PX mg G fr s r') s) : wpAny (model PR w) A m (PT fr s₀ r) (PX mg G fr s₀ r) s := by
  subst he
  exact wpAny_mono (h hr) (fun _ _ x => x.back hs) fun _ _ x => x.back hs
theorem mono_st {m : Sem Value} {r r' : R V} (he : r = r') (hr : r ≠ .stuck) (hs : St fr s₀ s) (h : r' ≠ .stuck → wpAny (model PR w) A m (PV fr s r') (PX mg G fr s r') s) : wpAny (model PR w) A m (PV fr s₀ r) (PX mg G fr s₀ r) s := by
  subst he
  exact wpAny_mono (h hr) (fun _ _ x => let ⟨d, e, f⟩ := x; ⟨d, e, f.1, hs.trans f.2⟩) fun _ _ x => x.back hs
/-- a test, bound -/
theorem bndT {β : Type} {m : Sem Bool} {r : R β} {r1 : R Bool} {f : Bool → R β} {Q : Bool → Shared → Prop} (he : r = r1.bind f) (hr : r ≠ .stuck) (h1 : r1 ≠ .stuck → wpAny (model PR w) A m (PT fr s r1) (PX mg G fr s r1) s)
    (k : ∀ b s', St fr s s' → r = f b → Q b s') : wpAny (model PR w) A m Q (PX mg G fr s r) s :=
  bnd (P1 := fun d v s' => v = d ∧ St fr s s') he hr (fun h => wpAny_mono (h1 h) (fun v s' x => ⟨v, x.1, rfl, x.2⟩) fun _ _ y => y) (St.refl s) fun d v s₁ _ g₁ h₁ => g₁.1 ▸ k d s₁ g₁.2 h₁

/-- a comparison's answer, tested -/
theorem cmp_test {o : CmpOp} {x y : V} {a b : Value} {t : Bool} {Q : Bool → Shared → Prop} (h : cmpV o x y = some t) (ra : Rep Tr s.heap a x) (rb : Rep Tr s.heap b y) (R : Rm G fr A k s.heap) (q : ∀ s', St fr s s' → Q t s') :
    wpAny (model PR w) A (compareOp o a b) (fun v s' => wpAny (model PR w) A (truthy v) Q Z s') Z s :=
  wpAny_mono (cmp_ok h ra rb R) (fun _ s' g => g.1 ▸ wpAny_truthy_bool (q s' g.2)) fun _ _ y => y

theorem simT_of_E {e : E} {pe : PySem.Expr} {r : R Bool} (HE : SimE w mg mb k) (g : Stg w mg mb (k + 1) G fr A sc σ vs env s.heap) (c : CpE sc vs e pe) (h0 : r = (evE FT k σ e).bind fun v => R.ofOpt (truV v)) (hr : r ≠ .stuck)
    (he : isTrue pe env (eval pe env) = (do let v ← eval pe env; standAt pe.pos; holding [v] (truthy v))) :
    wpAny (model PR w) A (isTrue pe env (eval pe env)) (PT fr s r) (PX mg G fr s r) s :=
  wpAny_isTrue_value (bnd h0 hr (fun h => HE g.pred c h) (St.refl s) fun d v s₁ _ g₁ h₁ => let ⟨b, hb, e⟩ := R.opt h₁ hr
    wpAny_mono (truv_ok hb g₁.1) (fun t s₂ x => ⟨x.1 ▸ e, g₁.2.trans x.2⟩) fun _ _ y => y) he

theorem simTs_succ (HT : SimT w mg mb k) (HTs : SimTs w mg mb k) : SimTs w mg mb (k + 1) := by
  intro G fr A s σ sc vs env es pes b g c hr
  replace c := c.un
  induction c using CpEsF.casesOn with
  | nil =>
    cases b
    · exact wpAny_allTrue_Or_nil ⟨rfl, St.refl _⟩
    · exact wpAny_allTrue_And_nil ⟨rfl, St.refl _⟩
  | cons c cs =>
    cases b
    · refine wpAny_allTrue_Or_cons (bndT rfl hr (fun h => HT g.pred c h) fun d s₁ g₁ h₁ => ?_)
      cases d
      · exact mono_t h₁ hr g₁ (HTs false (g.pred.step g₁) cs)
      · exact ⟨h₁, g₁⟩
    · refine wpAny_allTrue_And_cons (bndT rfl hr (fun h => HT g.pred c h) fun d s₁ g₁ h₁ => ?_)
      cases d
      · exact ⟨h₁, g₁⟩
      · exact mono_t h₁ hr g₁ (HTs true (g.pred.step g₁) cs)

theorem simB_succ (HE : SimE w mg mb k) (HB : SimB w mg mb k) : SimB w mg mb (k + 1) := by
  intro G fr A s σ sc vs env es pes p b g c hr
  replace c := c.un
  induction c using CpEsF.casesOn with
  | nil => exact (hr rfl).elim
  | cons c cs =>
    have cs0 : CpEs _ _ _ _ := cs
    replace cs := CpEs.un cs
    cases cs with
    | nil => exact HE g.pred c hr
    | cons c' cs =>
      rename_i e pe e' pe' es pes
      show wpAny _ _ (do
        let v ← eval pe env
        standAt p
        let t ← holding [v] (truthy v)
        match (if b then BoolOp.And else BoolOp.Or), t with
        | .And, false | .Or, true => pure v
        | _, _ => boolOp p (if b then .And else .Or) (evalEach (pe' :: pes) env)) _ _ s
      refine wpAny_bind (bnd rfl hr (fun h => HE g.pred c h) (St.refl s) fun d v s₁ _ g₁ h₁ => ?_)
      obtain ⟨t, ht, h₁⟩ := R.optB h₁ hr
      refine wpAny_bind (wpAny_standAt (wpAny_bind (wpAny_holding (wpAny_mono (truv_ok (fr := fr) ht g₁.1) (fun t' s₂ x => ?_) fun _ _ y => y))))
      obtain ⟨rfl, g₂⟩ := x
      have gs := g₁.2.trans g₂
      cases b <;> cases t' <;> first
        | exact mono_st h₁ hr gs (HB p _ (g.pred.step gs) cs0)
        | (refine wpAny_pure ?_; exact ⟨d, h₁, g₁.1.step g₂.keep, gs⟩)

/-- what is tested by its own -/
noncomputable def isTest : E → Bool
  | .not _ => true
  | .bop _ _ => true
  | .ite _ _ _ => true
  | .cmp _ _ _ => true
  | .cmp2 _ _ _ _ _ => true
  | .inDict _ _ _ => true
  | _ => false
theorem evT_plain {e : E} (h : isTest e = false) : evT FT (k + 1) σ e = (evE FT k σ e).bind fun v => R.ofOpt (truV v) := by
  cases e <;> first | rfl | (cases h; done)
theorem test_plain {e : E} {pe : PySem.Expr} (c : CpE sc vs e pe) : isTest e = false → isTrue pe env (eval pe env) = (do let v ← eval pe env; standAt pe.pos; holding [v] (truthy v)) := by
  replace c := c.un
  induction c using CpEF.casesOn <;> intro h <;> first | rfl | (cases h; done)

theorem simT_succ (HE : SimE w mg mb k) (HT : SimT w mg mb k) (HTs : SimTs w mg mb k) : SimT w mg mb (k + 1) := by
  intro G fr A s σ sc vs env e pe g c hr
  by_cases hp : isTest e = false
  · exact simT_of_E HE g c (evT_plain hp) hr (test_plain c hp)
  replace c := c.un
  induction c using CpEF.casesOn with
  | not c' =>
    refine wpAny_isTrue_Not (bndT rfl hr (fun h => HT g.pred c' h) fun d s₁ g₁ h₁ => ?_)
    exact ⟨h₁, g₁⟩
  | and c' => exact wpAny_isTrue_BoolOp (HTs true g.pred c' hr)
  | or c' => exact wpAny_isTrue_BoolOp (HTs false g.pred c' hr)
  | ite c1 c2 c3 =>
    rw [arm_isTrue_IfExp]
    refine wpAny_bind (bndT rfl hr (fun h => HT g.pred c1 h) fun d s₁ g₁ h₁ => ?_)
    cases d
    · exact mono_t h₁ hr g₁ (HT (g.pred.step g₁) c3)
    · exact mono_t h₁ hr g₁ (HT (g.pred.step g₁) c2)
  | cmp c1 c2 =>
    refine wpAny_isTrue_Compare1 (bnd rfl hr (fun h => HE g.pred c1 h) (St.refl s) fun x v s₁ _ g₁ h₁ => ?_) (c2.behind _)
    refine bnd h₁ hr (fun h => HE (g.pred.step g₁.2) c2 h) g₁.2 fun y u s₂ _ g₂ h₂ => ?_
    obtain ⟨b, hb, e⟩ := R.opt h₂ hr
    have gs := g₁.2.trans g₂.2
    exact cmp_test (fr := fr) hb (g₁.1.step g₂.2.keep) g₂.1 (g.R.step gs) fun s₃ g₃ => ⟨e, gs.trans g₃⟩
  | cmp2 c1 c2 c3 =>
    refine isTrue_chain (bnd rfl hr (fun h => HE g.pred c1 h) (St.refl s) fun x v s₁ _ g₁ h₁ => ?_) (c3.behind _)
    refine test_link (bnd h₁ hr (fun h => HE (g.pred.step g₁.2) c2 h) g₁.2 fun y u s₂ _ g₂ h₂ => ?_)
    obtain ⟨b, hb, h₂⟩ := R.optB h₂ hr
    have gs := g₁.2.trans g₂.2
    refine cmp_test (fr := fr) hb (g₁.1.step g₂.2.keep) g₂.1 (g.R.step gs) fun s₃ g₃ => ?_
    have gs₃ := gs.trans g₃
    cases b
    · exact ⟨h₂, gs₃⟩
    · refine test_last (bnd h₂ hr (fun h => HE (g.pred.step gs₃) c3 h) gs₃ fun z t s₄ _ g₄ h₄ => ?_)
      obtain ⟨b, hb, e⟩ := R.opt h₄ hr
      have gs₄ := gs₃.trans g₄.2
      exact cmp_test (fr := fr) hb ((g₂.1.step g₃.keep).step g₄.2.keep) g₄.1 (g.R.step gs₄) fun s₅ g₅ => ⟨e, gs₄.trans g₅⟩
  | inDict hx hd hc c1 c2 =>
    refine wpAny_isTrue_Compare1 (key2 HE g.pred c1 c2 (St.refl s) rfl hr fun x y v s₁ h₁ rv g₁ _ => ?_) rfl
    obtain ⟨b, hb, e⟩ := R.opt h₁ hr
    obtain ⟨d, hd', hb⟩ := Option.bind_eq_some_iff.mp hb
    obtain ⟨da, hv, hn, hdi⟩ := (g.e.step g₁.keep).slot _ _ _ hx (dict_slot hd')
    refine var_load g.e.kind hd hc hv ?_
    exact wpAny_mono (inDict_ok (g.R.step g₁) hdi rv hb) (fun _ s' q => q.1 ▸ wpAny_truthy_bool ⟨e, g₁.trans q.2⟩) fun _ _ y => y
  | _ => exact (hp rfl).elim
end
end Mine
end

/-! text M17 -/
section
set_option bootstrap.genMatcherCode false
set_option maxRecDepth 100000
open PySem PySem.Calls PyProof.Rows PySem.W
namespace Mine
/-- the comprehensions of an expression's next fuel -/
noncomputable def SimK (w : World) (mg mb : Str → Option Value) (k : Nat) : Prop := ∀ {G fr A s σ sc vs env e pe}, noComp e = false → Stg w mg mb (k + 1) G fr A sc σ vs env s.heap → CpE sc vs e pe → evE FT (k + 1) σ e ≠ .stuck →
  wpAny (model PR w) A (eval pe env) (PV fr s (evE FT (k + 1) σ e)) (PX mg G fr s (evE FT (k + 1) σ e)) s
section
variable {w : World} {mg mb : Str → Option Value}
variable {G : Heap} {fr : List PySem.Env} {A : Around} {k : Nat} {s s₀ s' s'' : Shared} {Z : Value → Shared → Prop} {sc : Scope} {σ : Env} {vs : List Str} {env : PySem.Env}

theorem any_plain {p : Pos} {es : List E} {pes : List PySem.Expr} (c : CpEs sc vs es pes) : (backTo p (starEach pes env)).any (·.1) = false := by
  induction es generalizing pes with
  | nil => replace c := c.un; cases c; rfl
  | cons e es ih =>
    replace c := c.un
    cases c with
    | cons c cs =>
      rw [CpE.star c]
      exact ih cs
theorem args_of {f : Value} {p : Pos} {es : List E} {pes : List PySem.Expr} {Q : Args → Shared → Prop} (c : CpEs sc vs es pes) (h : wpAny (model PR w) A (spliced (backTo p (starEach pes env))) (fun vs s' => Q ⟨vs, []⟩ s') Z s) :
    wpAny (model PR w) A (evalArgs f true (backTo p (starEach pes env)) []) Q Z s := by
  replace c := c.un
  induction c using CpEsF.casesOn with
  | nil =>
    unfold evalArgs
    show wpAny _ A (spliced [] >>= _) Q Z s
    refine wpAny_bind (wpAny_mono h (fun vs s' h' => ?_) fun _ _ x => x)
    refine wpAny_bind (wpAny_pure ?_)
    refine wpAny_holding ?_
    exact wpAny_bind (wpAny_pure (wpAny_bind (wpAny_pure (wpAny_pure h'))))
  | cons c cs =>
    rw [c.star] at h ⊢
    exact evalArgs_plain h

theorem sliceV_bounds {x d : V} {lo hi : Option V} (h : sliceV x lo hi = some d) : ∃ a b, boundV lo = some a ∧ boundV hi = some b := by
  unfold sliceV at h
  split at h
  · exact ⟨_, _, by assumption, by assumption⟩
  · cases h

theorem isStr_eq {x : V} (h : isStr x = true) : ∃ z, x = .str z := by cases x <;> first | exact ⟨_, rfl⟩ | (cases h; done)

theorem evEs_len : ∀ {k : Nat} {σ : Env} {es : List E} {ds : List V}, evEs FT k σ es = .ok ds → ds.length = es.length := by
  intro k
  induction k with
  | zero => intro σ es ds h; cases h
  | succ k ih =>
    intro σ es ds h
    cases es with
    | nil => cases h; rfl
    | cons e es =>
      have h : (evE FT k σ e).bind (fun v => (evEs FT k σ es).bind fun vs => .ok (v :: vs)) = .ok ds := h
      cases h1 : evE FT k σ e with
      | stuck => rw [h1] at h; cases h
      | exc x => rw [h1] at h; cases h
      | ok d =>
        rw [h1, R.bind_ok] at h
        cases h2 : evEs FT k σ es with
        | stuck => rw [h2] at h; cases h
        | exc x => rw [h2] at h; cases h
        | ok ds' =>
          rw [h2, R.bind_ok] at h
          cases h
          exact congrArg (· + 1) (ih h2)

theorem cmp_val {o : CmpOp} {x y : V} {a b : Value} {t : Bool} {r : R V} (e : r = .ok (.bool t)) (hs : St fr s₀ s) (h : cmpV o x y = some t) (ra : Rep Tr s.heap a x) (rb : Rep Tr s.heap b y) (R : Rm G fr A k s.heap) :
    wpAny (model PR w) A (compareOp o a b) (PV fr s₀ r) Z s := finB e hs (cmp_ok h ra rb R)
theorem map_bool {o : Option Bool} {d : V} (h : o.map V.bool = some d) : ∃ b, o = some b ∧ d = .bool b := let ⟨b, e, q⟩ := Option.map_eq_some_iff.mp h; ⟨b, e, q.symm⟩

theorem simE_succ (HE : SimE w mg mb k) (HEs : SimEs w mg mb k) (HO : SimO w mg mb k) (HB : SimB w mg mb k) (HT : SimT w mg mb k) (HC : SimC w mg mb k) (HK : SimK w mg mb k) : SimE w mg mb (k + 1) := by
  intro G fr A s σ sc vs env e pe g c hr
  by_cases hn : noComp e = false
  · exact HK hn g c hr
  replace c := c.un
  induction c using CpEF.casesOn with
  | cInt => exact wpAny_Constant_int ⟨_, rfl, .int .., St.toks ..⟩
  | cStr => exact wpAny_Constant_str ⟨_, rfl, .str .., St.toks ..⟩
  | cBool => exact wpAny_Constant_bool ⟨_, rfl, .bool .., St.refl _⟩
  | cNone => exact wpAny_Constant_none ⟨_, rfl, .none, St.refl _⟩
  | cBytes => exact fun _ _ _ => ⟨_, rfl, .bytes .., St.toks ..⟩
  | glob hx hv =>
    obtain ⟨val, hm, r⟩ := g.d.gl _ _ hv
    exact g.glob hx hm ⟨_, rfl, r.step (FR := []) (Keep.of_keeps g.R.keepG), St.refl _⟩
  | var hx hd hc =>
    obtain ⟨d, e, he⟩ := R.opt rfl hr
    obtain ⟨v, hv, r⟩ := slot_val g.e hx e
    exact var_load g.e.kind hd hc hv ⟨_, he, r, St.refl _⟩
  | bin ho c1 c2 => exact wpAny_BinOp (two rfl hr (fun h => HE g.pred c1 h) (fun s₁ t h => HE (g.pred.step t) c2 h) fun x y d v u s₁ e rv ru t => bin_ok ho e rv ru (g.R.step t))
  | neg c1 =>
    refine wpAny_UnaryOp (bnd rfl hr (fun h => HE g.pred c1 h) (St.refl s) fun x v s₁ _ g₁ h₁ => ?_)
    obtain ⟨r, t⟩ := g₁
    cases hx : x.asInt with
    | none => exact (hr (h₁.trans (by cases x <;> first | rfl | (cases hx; done)))).elim
    | some i =>
      obtain ⟨u, rfl⟩ := r.asInt hx
      obtain rfl := V.asInt_eq hx
      exact P.neg_int ⟨_, h₁, .int .., t.trans (St.toks ..)⟩
  | not c1 => exact (hr rfl).elim
  | cmp c1 c2 =>
    refine wpAny_Compare1 (bnd rfl hr (fun h => HE g.pred c1 h) (St.refl s) fun x v s₁ _ g₁ h₁ => ?_) (c2.behind _)
    refine bnd h₁ hr (fun h => HE (g.pred.step g₁.2) c2 h) g₁.2 fun y u s₂ _ g₂ h₂ => ?_
    obtain ⟨d, hb, e⟩ := R.opt h₂ hr
    obtain ⟨b, hc, rfl⟩ := map_bool hb
    exact cmp_val e (g₁.2.trans g₂.2) hc (g₁.1.step g₂.2.keep) g₂.1 (g.R.step (g₁.2.trans g₂.2))
  | cmp2 c1 c2 c3 =>
    refine Compare_chain (bnd rfl hr (fun h => HE g.pred c1 h) (St.refl s) fun x v s₁ _ g₁ h₁ => ?_) (c3.behind _)
    refine chain_link (bnd h₁ hr (fun h => HE (g.pred.step g₁.2) c2 h) g₁.2 fun y u s₂ _ g₂ h₂ => ?_)
    obtain ⟨b, hb, h₂⟩ := R.optB h₂ hr
    have gs := g₁.2.trans g₂.2
    refine wpAny_mono (cmp_ok hb (g₁.1.step g₂.2.keep) g₂.1 (g.R.step gs)) (fun c s₃ g₃ => ?_) fun _ _ y => y
    have gs₃ := gs.trans g₃.2
    rw [g₃.1]
    refine wpAny_truthy_bool ?_
    cases b
    · exact ⟨_, h₂, .bool _, gs₃⟩
    · refine chain_last (bnd h₂ hr (fun h => HE (g.pred.step gs₃) c3 h) gs₃ fun z t s₄ _ g₄ h₄ => ?_)
      obtain ⟨d, hb, e⟩ := R.opt h₄ hr
      obtain ⟨b, hc, rfl⟩ := map_bool hb
      have gs₄ := gs₃.trans g₄.2
      exact cmp_val e gs₄ hc ((g₂.1.step g₃.2.keep).step g₄.2.keep) g₄.1 (g.R.step gs₄)
  | and cs =>
    rw [arm_eval_BoolOp]
    exact HB _ true g.pred cs hr
  | or cs =>
    rw [arm_eval_BoolOp]
    exact HB _ false g.pred cs hr
  | ite c1 c2 c3 =>
    refine wpAny_IfExp (bndT rfl hr (fun h => HT g.pred c1 h) fun d s₁ g₁ h₁ => ?_)
    cases d
    · exact mono_st h₁ hr g₁ (HE (g.pred.step g₁) c3)
    · exact mono_st h₁ hr g₁ (HE (g.pred.step g₁) c2)
  | idx c1 c2 => exact Subscript_ (two rfl hr (fun h => HE g.pred c1 h) (fun s₁ t h => HE (g.pred.step t) c2 h) fun x y d v u s₁ e rv ru t => item_ok e rv ru)
  | slice c1 c2 c3 =>
    refine Subscript_ (bnd rfl hr (fun h => HE g.pred c1 h) (St.refl s) fun x v s₁ _ g₁ h₁ => ?_)
    refine wpAny_Slice (bnd h₁ hr (fun h => HO (g.pred.step g₁.2) c2 h) g₁.2 fun lo u s₂ _ g₂ h₂ => ?_)
    refine bnd h₂ hr (fun h => HO ((g.pred.step g₁.2).step g₂.2) c3 h) (g₁.2.trans g₂.2) fun hi t s₃ _ g₃ h₃ => ?_
    refine wpAny_pure ?_
    obtain ⟨d, hd, e⟩ := R.opt h₃ hr
    obtain ⟨lo', hi', b1, b2⟩ := sliceV_bounds hd
    have gn : St fr s₃ { s₃ with heap := s₃.heap.push { cls := .type "slice", data := .fields #[u, t, .none] } } := St.push _ _ _
    exact fin e (((g₁.2.trans g₂.2).trans g₃.2).trans gn) (slice_ok hd (((g₁.1.step g₂.2.keep).step g₃.2.keep).step gn.keep) (PO.bound g₂.1 b1) (PO.bound g₃.1 b2) (Heap.IsSliceOf.new ..))
  | tup cs =>
    refine wpAny_Tuple (bnd rfl hr (fun h => HEs _ g.pred cs h) (St.refl s) fun ds vals s₁ _ g₁ h₁ => ?_)
    obtain ⟨hc, e⟩ := R.ite h₁ hr
    have gn := Got.tupNew (fr := fr) (s := s₁) g₁.1 s₁.toks
    exact ⟨by rw [g₁.1.length]; exact Nat.le_trans hc cap_line, _, e, gn.1, g₁.2.trans gn.2⟩
  | lst cs =>
    refine wpAny_List (bnd rfl hr (fun h => HEs _ g.pred cs h) (St.refl s) fun ds vals s₁ _ g₁ h₁ => ?_)
    obtain ⟨hc, e⟩ := R.ite h₁ hr
    have gn := Got.listNew (fr := fr) (s := s₁) g₁.1 s₁.toks
    exact ⟨by rw [g₁.1.length]; exact Nat.le_trans hc cap_line, _, e, gn.1, g₁.2.trans gn.2⟩
  | call hx hf har cs =>
    obtain ⟨a, o, fd, hm, ho, hd, _⟩ := g.d.fn _ _ hf
    refine Call_Name rfl (g.glob hx hm (callWith_function (o := o) (fd := fd) (args_of cs (bnd rfl hr (fun h => HEs _ g.pred cs h) (St.refl s) fun ds vals s₁ e₁ g₁ h₁ => ?_))))
    refine ⟨⟨(g.R.step g₁.2).keepG _ _ ho, hd⟩, ?_⟩
    exact mono_st h₁ hr g₁.2 (HC g.d (g.pred.step g₁.2).R hf ((evEs_len e₁).trans har) g₁.1 hm)
  | len hx c1 => exact g.call1 hx g.d.len c1 (un rfl hr (fun h => HE g.pred c1 h) fun x d v s₁ e r t => len_ok e r)
  | min2 hx c1 c2 => exact g.call2 hx g.d.min c1 c2 (two rfl hr (fun h => HE g.pred c1 h) (fun s₁ t h => HE (g.pred.step t) c2 h) fun x y d v u s₁ e rv ru t => min_ok e rv ru (g.R.step t))
  | max1 hx c1 => exact g.call1 hx g.d.max c1 (un rfl hr (fun h => HE g.pred c1 h) fun x d v s₁ e r t => max_ok e r (g.R.step t))
  | sorted hx c1 => exact g.call1 hx g.d.sorted c1 (un rfl hr (fun h => HE g.pred c1 h) fun x d v s₁ e r t => sort_ok e r (g.R.step t))
  | toList hx c1 => exact g.callT hx g.d.list c1 (un rfl hr (fun h => HE g.pred c1 h) fun x d v s₁ e r t => toList_ok e r (g.R.step t))
  | toBytes hx c1 => exact g.callT hx g.d.bytes c1 (un rfl hr (fun h => HE g.pred c1 h) fun x d v s₁ e r t => toBytes_ok e r (g.R.step t))
  | find hl hb c1 c2 =>
    refine wpAny_Call_method (hb _ _) (by rw [c2.star]; rfl) hl PySem.F.plainAttrs_str PySem.F.slot_str_find PySem.F.type_str_find (bnd rfl hr (fun h => HE g.pred c1 h) (St.refl s) fun x v s₁ _ g₁ h₁ => ?_)
    obtain ⟨hx, h₁⟩ := R.ite h₁ hr
    obtain ⟨z, rfl⟩ := isStr_eq hx
    obtain ⟨t, rfl⟩ := g₁.1.asStr rfl
    refine ⟨typeIs_str _ z t, nofun, ?_⟩
    refine callWith_builtin (by rw [c2.star]; rfl) ?_
    rw [c2.star]
    refine evalArgs_plain (spliced_cons (bnd h₁ hr (fun h => HE (g.pred.step g₁.2) c2 h) g₁.2 fun y u s₂ _ g₂ h₂ => spliced_nil ?_))
    obtain ⟨d, hd, e⟩ := R.opt h₂ hr
    exact fin e (g₁.2.trans g₂.2) (find_ok hd (g₁.1.step g₂.2.keep) g₂.1)
  | inDict => exact (hr rfl).elim
  | getDict hx hd hc c1 c2 =>
    obtain ⟨d, hdi, h₀⟩ := R.optB rfl hr
    obtain ⟨da, hv, hn, hdd⟩ := g.e.slot _ _ _ hx (dict_slot hdi)
    refine Subscript_ (var_load g.e.kind hd hc hv (key2 HE g.pred c1 c2 (St.refl s) h₀ hr fun x y v s₁ h₁ rv g₁ _ => ?_))
    obtain ⟨z, hz, e⟩ := R.opt h₁ hr
    exact fin e g₁ (getDict_ok (g.R.step g₁) (hdd.keep g₁.keep (fun _ z => z.elim) (fun z => z) hn) rv hz _)
  | comp => exact (hn rfl).elim
end
end Mine
end

/-! text M18 -/
section
set_option bootstrap.genMatcherCode false
set_option maxRecDepth 100000
open PySem PySem.Calls PyProof.Rows PySem.W
namespace Mine
section
variable {w : World} {A : Around} {Z : Value → Shared → Prop} {s s₀ s₁ s' : Shared} {fr : List PySem.Env}

theorem comp_loop {elt target iter : PySem.Expr} {ifs : List PySem.Expr} {scope : Scope} {pos : Pos} {it acc : Value} {env : PySem.Env} {R : Result → Shared → Prop} (I : Nat → Shared → Prop)
    (turn : ∀ n s, I n s → wpAny (model PR w) A (pyNext it) (fun r s₁ => match r with
      | none => R (.ok .next) s₁
      | some v => wpAny (model PR w) A (letOwnedTupleGo target it v) (fun _ s₀ => wpAny (model PR w) A (assign target env v) (fun _ s₂ =>
          wpAny (model PR w) A (forIn ifs true fun c r => if r = true then do let ok ← isTrue c env (eval c env); pure (ForInStep.yield ok) else pure (ForInStep.yield r)) (fun ok s₃ => if ok = true then wpAny (model PR w) A (eval elt env) (fun x s₄ =>
            wpAny (model PR w) A (call (.builtin "list.append") [acc, x]) (fun _ s₅ => ∃ m, m < n ∧ I m s₅) (fun _ _ => False) s₄) (fun _ _ => False) s₃
            else ∃ m, m < n ∧ I m s₃) (fun _ _ => False) s₂)
          (fun _ _ => False) s₀) (fun _ _ => False) s₁) (fun _ _ => False) s)
    (n : Nat) (h : I n s) : codeAny (model PR w) A (.compLoop (.ListComp elt [⟨target, iter, ifs, 0⟩] scope pos) 0 it acc env) R s := by
  refine codeAny_loop rfl I (fun n s hI => ?_) n h
  show wpAny _ A ((compTurn (.ListComp elt [⟨target, iter, ifs, 0⟩] scope pos) 0 it acc env).onRaise (fun x => do noteFrame x env; theTreesLotGoes x)) _ _ s
  refine wpAny_noted ?_
  rw [compTurn_list]
  have no : ∀ (x : Value) (s' : Shared), (fun _ _ => False : Value → Shared → Prop) x s' → notedBy (model PR w) A env (fun e s' => R (.error e) s') x s' := fun _ _ f => f.elim
  refine wpAny_bind (wpAny_standAt (wpAny_bind (wpAny_mono (turn n s hI) (fun r s₁ h₁ => ?_) no)))
  cases r with
  | none => exact wpAny_pure h₁
  | some v =>
    refine wpAny_bind (wpAny_mono h₁ (fun _ s₀ h₀' => ?_) no)
    refine wpAny_bind (wpAny_mono h₀' (fun _ s₂ h₂ => ?_) no)
    refine wpAny_bind (wpAny_mono h₂ (fun okb s₃ h₃ => ?_) no)
    cases okb with
    | false => exact wpAny_pure ⟨rfl, h₃⟩
    | true => exact wpAny_bind (wpAny_bind (wpAny_mono h₃ (fun x s₄ h₄ => wpAny_bind (wpAny_mono h₄ (fun _ s₅ h₅ => wpAny_pure (wpAny_pure ⟨rfl, h₅⟩)) no)) no))

theorem Keep.extNew {FR : List Addr} {a : Addr} {h h' h'' : Heap} (k : Keep FR No h h') (x : Heap.ExtBut a h' h'') (n : h.get? a = Option.none) : Keep FR No h h'' := by
  have ne : ∀ b o, h.get? b = some o → b ≠ a := fun b o e q => by rw [q, n] at e; cases e
  refine ⟨fun b o e => ?_, fun b o e nx hd => x b o (ne b o e) (k.exact b o e nx hd), fun b m i nx e => ?_⟩
  · obtain ⟨o', e'⟩ := k.there b o e
    exact ⟨o', x b o' (ne b o e) e'⟩
  · obtain ⟨o, es, ep, ho, r⟩ := k.names b m i nx e
    obtain ⟨o', es', ep', ho', r'⟩ := e
    exact ⟨o, es, ep, x b o (ne b o' ho') ho, r⟩
theorem St.extNew {a : Addr} {h' : Heap} {tk : Tok} (k : St fr s₁ s) (x : Heap.ExtBut a s.heap h') (n : s₁.heap.get? a = none) : St fr s₁ { s with heap := h', toks := tk } := ⟨k.keep.extNew x n, k.gens, k.os⟩
theorem Keep.isIter {FR : List Addr} {X : Addr → Prop} {a l : Addr} {i : Nat} {h h' : Heap} (k : Keep FR X h h') (x : h.IsListIter a l i) (n : ¬ X a) : h'.IsListIter a l i := by
  obtain ⟨o, ho, hc, hd⟩ := x
  exact ⟨o, k.exact a o ho n fun _ es ep q => (by rw [hd] at q; cases q), hc, hd⟩
theorem ext_isTup {C a : Addr} {its : Array Value} {h h' : Heap} {m : Str → Option Value} (x : Heap.ExtBut C h h') (hc : h.Ns C m) (t : IsTup h a its) : IsTup h' a its := by
  obtain ⟨o, ho, hcl, n, hd⟩ := t
  refine ⟨o, x a o (fun q => ?_) ho, hcl, n, hd⟩
  subst q
  obtain ⟨o', es, ep, ho', hd', _⟩ := hc
  rw [ho] at ho'
  cases ho'
  rw [hd] at hd'
  cases hd'
/-- but for a dict of names, all stays: what is told of values stays -/
theorem Keep.extNs {FR : List Addr} {C : Addr} {h h' : Heap} (x : Heap.ExtBut C h h') (hC : ∃ o, h'.get? C = some o) : Keep FR (· = C) h h' := by
  refine ⟨fun b o e => ?_, fun b o e nx _ => x b o nx e, fun b m _ nx e => ?_⟩
  · by_cases q : b = C
    · subst q; exact hC
    · exact ⟨o, x b o q e⟩
  · obtain ⟨o, es, ep, ho, r⟩ := e
    exact ⟨o, es, ep, x b o nx ho, r⟩
theorem ns_noTup {C : Addr} {h : Heap} {m : Str → Option Value} (hc : h.Ns C m) : NoTup (· = C) h := by
  rintro a its rfl ⟨o, ho, _, n, hd⟩
  obtain ⟨o', es, ep, ho', hd', _⟩ := hc
  cases data_inj ho hd ho' hd'
theorem ns_noList {C : Addr} {h : Heap} {m : Str → Option Value} (hc : h.Ns C m) {its : Array Value} (hl : h.IsList C its) : False := by
  obtain ⟨o, ho, _, n, hd⟩ := hl
  obtain ⟨o', es, ep, ho', hd', _⟩ := hc
  cases data_inj ho hd ho' hd'
theorem ext_list {C a : Addr} {its : Array Value} {h h' : Heap} (x : Heap.ExtBut C h h') (l : h.IsList a its) (n : a ≠ C) : h'.IsList a its := let ⟨o, ho, r⟩ := l; ⟨o, x _ o n ho, r⟩
theorem ext_tup {C a : Addr} {its : Array Value} {h h' : Heap} (x : Heap.ExtBut C h h') (l : IsTup h a its) (n : a ≠ C) : IsTup h' a its := let ⟨o, ho, r⟩ := l; ⟨o, x _ o n ho, r⟩
theorem Rep.extNs {P : Addr → Prop} {C : Addr} {h h' : Heap} {m : Str → Option Value} (x : Heap.ExtBut C h h') (hc : h.Ns C m) {v : Value} {d : V} (r : Rep P h v d) : Rep P h' v d := r.sub (fun _ _ t => ext_isTup x hc t) fun _ _ p l => ⟨ext_list x l fun q => ns_noList hc (q ▸ l), p⟩
theorem RepL.extNs {P : Addr → Prop} {C : Addr} {h h' : Heap} {m : Str → Option Value} (x : Heap.ExtBut C h h') (hc : h.Ns C m) {vs : List Value} {ds : List V} (r : RepL P h vs ds) : RepL P h' vs ds := r.sub (fun _ _ t => ext_isTup x hc t) fun _ _ p l => ⟨ext_list x l fun q => ns_noList hc (q ▸ l), p⟩

theorem tgt_bind {cenv : PySem.Env} {tupled : Bool} {ts : List Str} {pt : PySem.Expr} {m : Str → Option Value} {I ax : Addr} {i : Nat} {v : Value} {d : V} {ds : List V} {Q : Unit → Shared → Prop}
    (hh : A.handled = none) (ct : CpT tupled ts pt) (hk : cenv.scope.kind = .function) (hl : ∀ t ∈ ts, cenv.kindOf t = some .local) (nd : ts.Nodup) (hn : s.heap.Ns cenv.locals m) (hit : s.heap.IsListIter I ax i)
    (rv : Rep Tr s.heap v d) (hd : if tupled then d = .tuple ds ∧ ds.length = ts.length else ds = [d])
    (h : ∀ s' m', s'.heap.Ns cenv.locals m' → Heap.ExtBut cenv.locals s.heap s'.heap → (∀ (j : Nat) t d', ts[j]? = some t → ds[j]? = some d' → ∃ u, m' t = some u ∧ Rep Tr s'.heap u d') → s'.gens = s.gens → s'.os = s.os → Q () s') :
    wpAny (model PR w) A (letOwnedTupleGo pt (.ref I) v) (fun _ s₁ => wpAny (model PR w) A (assign pt cenv v) Q Z s₁) Z s := by
  have hp : (cenv.scope.kind == .class || (cenv.scope.kind == .module && cenv.locals != cenv.globals)) = false := by rw [hk]; rfl
  cases ct with
  | one =>
    rename_i t px
    simp only [Bool.false_eq_true, if_false] at hd
    subst hd
    show wpAny _ A (pure ()) _ Z s
    refine wpAny_pure (wpAny_assign_Name (wpAny_storeName_local (hl t (.head _)) hn (fun h' hn' hs' => ?_) hp))
    refine h _ _ hn' hs'.extBut (fun j t' d' e1 e2 => ?_) rfl rfl
    cases j with
    | zero => cases e1; cases e2; exact ⟨v, by simp, rv.extNs hs'.extBut hn⟩
    | succ j => simp at e1
  | two =>
    rename_i t u px pu kk pp
    simp only [if_true] at hd
    obtain ⟨rfl, hlen⟩ := hd
    obtain ⟨a, vals, rfl, ht, rl⟩ := rv.asTup rfl
    refine wpAny_letOwnedTupleGo_listiter hit ?_
    obtain ⟨d1, d2, rfl⟩ : ∃ d1 d2, ds = [d1, d2] := by
      match ds, hlen with
      | [x1, x2], _ => exact ⟨x1, x2, rfl⟩
    obtain ⟨x1, _, rfl, r1, rl⟩ := rl.un
    obtain ⟨x2, _, rfl, r2, rl⟩ := rl.un
    obtain rfl := rl.un0
    · · · refine assign_Tuple_tuple hh ht rfl rfl fun h₁ he₁ => ?_
          have hC : cenv.locals ≠ s.heap.objs.size := by
            obtain ⟨o, _, _, ho, _⟩ := hn
            exact Nat.ne_of_lt (Heap.lt_size ho)
          have hn₁ : h₁.Ns cenv.locals m := hn.extBut he₁ hC
          have k₁ : ∀ b o, s.heap.get? b = some o → h₁.get? b = some o := fun b o e => he₁ b o (Nat.ne_of_lt (Heap.lt_size e)) e
          refine assignInOrder_cons (wpAny_assign_Name (wpAny_storeName_local (hl t (.head _)) hn₁ (fun h₂ hn₂ hs₂ => ?_) hp))
          refine assignInOrder_cons (wpAny_assign_Name (wpAny_storeName_local (hl u (.tail _ (.head _))) hn₂ (fun h₃ hn₃ hs₃ => ?_) hp))
          refine assignInOrder_nil (h _ _ hn₃ (fun b o hb e => hs₃.extBut b o hb (hs₂.extBut b o hb (k₁ b o e))) (fun j t' d' e1 e2 => ?_) rfl rfl)
          have tu : t ≠ u := by
            intro q
            subst q
            simp at nd
          have mv : ∀ {v : Value} {d : V}, Rep Tr s.heap v d → Rep Tr h₃ v d := fun r => ((r.step (FR := []) (Keep.of_keeps k₁)).extNs hs₂.extBut hn₁).extNs hs₃.extBut hn₂
          match j with
          | 0 => cases e1; cases e2; exact ⟨x1, by simp [tu], mv r1⟩
          | 1 => cases e1; cases e2; exact ⟨x2, by simp, mv r2⟩
          | j + 2 => simp at e1
end
end Mine
end

/-! text M19 -/
section
set_option bootstrap.genMatcherCode false
set_option maxRecDepth 100000
open PySem PySem.Calls PyProof.Rows PySem.W
namespace Mine

theorem relabel_lookup (csc : Scope) (env : PySem.Env) (x : Str) : (relabel csc env).names.lookup x = (csc.names.lookup x).map fun k => if (k == NameKind.free && env.scope.kind == .function && env.kindOf x == some .cell) then NameKind.cell else k := by
  unfold relabel
  simp only
  generalize csc.names = l
  induction l with
  | nil => rfl
  | cons p r ih =>
    obtain ⟨n, k⟩ := p
    rw [List.map_cons]
    by_cases q : x = n
    · subst q
      by_cases c : (k == NameKind.free && env.scope.kind == .function && env.kindOf x == some .cell) = true
      · simp only [c, if_true, List.lookup_cons, beq_self_eq_true, Option.map_some]
      · simp only [c, if_false, List.lookup_cons, beq_self_eq_true, Option.map_some, Bool.false_eq_true]
    · have q' : (x == n) = false := beq_eq_false_iff_ne.mpr q
      have : ∀ kk, List.lookup x ((n, kk) :: r) = List.lookup x r := fun kk => by rw [List.lookup_cons, q']
      rw [this, ← ih]
      split <;> (rw [List.lookup_cons, q'])

theorem closureFor_of {scope : Scope} {env : PySem.Env} (f : Str → Addr) (h : ∀ x ∈ scope.names, x.2 = .free → env.cells.lookup x.1 = some (f x.1)) :
    closureFor scope env = pure (((scope.names.filter fun y => y.2 == .free).map fun y => (y.1, f y.1)).reverse) := by
  have key : ∀ (l : List (Str × NameKind)) (cs : List (Str × Addr)), (∀ x ∈ l, x.2 = .free → env.cells.lookup x.1 = some (f x.1)) →
      (forIn l cs fun (x : Str × NameKind) (c : List (Str × Addr)) => if x.2 == .free then (do let a ← cellOf env x.1; pure (ForInStep.yield ((x.1, a) :: c)) : Sem (ForInStep (List (Str × Addr)))) else pure (ForInStep.yield c))
        = pure (((l.filter fun y => y.2 == .free).map fun y => (y.1, f y.1)).reverse ++ cs) := by
    intro l
    induction l with
    | nil => intro cs _; simp
    | cons p r ih =>
      intro cs hl
      obtain ⟨n, k⟩ := p
      rw [List.forIn_cons]
      by_cases q : k = .free
      · subst q
        have hc : cellOf env n = pure (f n) := by unfold cellOf; rw [hl (n, .free) (.head _) rfl]
        simp only [beq_self_eq_true, if_true, hc, pure_bind, List.filter_cons, List.map_cons, List.reverse_cons, List.append_assoc, List.singleton_append]
        exact ih _ fun x hx => hl x (.tail _ hx)
      · have q' : (k == NameKind.free) = false := beq_eq_false_iff_ne.mpr q
        simp only [q', Bool.false_eq_true, if_false, pure_bind, List.filter_cons]
        exact ih _ fun x hx => hl x (.tail _ hx)
  have := key scope.names [] h
  rw [List.append_nil] at this
  rw [← this]
  unfold closureFor
  simp only [bind_pure]

theorem comp_spec {σ σ' : Env} {free : List Nat} {nt : Nat} {tupled : Bool} {d : V} (h : compEnv σ free nt tupled d = some σ') :
    ∃ ds, σ' = ds.map .val ++ free.map (fun i => σ.getD i .unb) ∧ ds.length = nt ∧ (if tupled then d = .tuple ds ∧ ds.length = nt else ds = [d]) := by
  unfold compEnv at h
  cases tupled with
  | true =>
    simp only [if_true] at h ⊢
    split at h
    · obtain ⟨c, e⟩ := ite_some2 h
      cases e
      exact ⟨_, rfl, by simpa using c, rfl, by simpa using c⟩
    · cases h
  | false =>
    simp only [Bool.false_eq_true, if_false] at h ⊢
    obtain ⟨c, e⟩ := ite_some2 h
    cases e
    exact ⟨[d], rfl, by simpa using (by simpa using c : nt = 1).symm, rfl⟩

section
variable {w : World} {A : Around} {Z : Value → Shared → Prop} {s s₀ s₁ s' : Shared} {fr : List PySem.Env}

theorem comp_env {FR : List Addr} {csc sc : Scope} {ts ys vs : List Str} {free : List Nat} {σ : Env} {env : PySem.Env} {h : Heap} {C : Addr} {m : Str → Option Value} {ds : List V} {cl : List (Str × Addr)}
    (so : ScOk csc ts ys) (fo : FreeOk sc vs free ys) (ge : EnvOk w FR sc σ vs env h) (hn : h.Ns C m) (hlen : ds.length = ts.length)
    (hv : ∀ (j : Nat) t d', ts[j]? = some t → ds[j]? = some d' → ∃ u, m t = some u ∧ Rep Tr h u d') (hcl : ∀ y ∈ ys, cl.lookup y = env.cells.lookup y) :
    EnvOk w FR csc (ds.map .val ++ free.map (fun i => σ.getD i .unb)) (ts ++ ys) (compEnvC csc cl C env) h := by
  have hk : ∀ x, (compEnvC csc cl C env).kindOf x = (csc.names.lookup x).map fun k => if (k == NameKind.free && env.scope.kind == .function && env.kindOf x == some .cell) then NameKind.cell else k := fun x => relabel_lookup csc env x
  refine ⟨?_, ge.glo, ge.blt, fun j x sl hx hs => ?_, fun x hx => ?_, fun x hx => ?_, fun x hx => ?_⟩
  · show (relabel csc env).kind = _; exact so.kind
  · by_cases q : j < ts.length
    · rw [List.getElem?_append_left q] at hx
      rw [List.getElem?_append_left (by simp [hlen, q]), List.getElem?_map, Option.map_eq_some_iff] at hs
      obtain ⟨d', e, rfl⟩ := hs
      obtain ⟨u, hu, r⟩ := hv j x d' hx e
      refine ⟨u, .loc ?_ hn hu, r⟩
      rw [hk, (so.tgt x (List.mem_of_getElem? hx)).1]
      rfl
    · rw [List.getElem?_append_right (by lia)] at hx
      rw [List.getElem?_append_right (by simp [hlen]; lia)] at hs
      cases fo with
      | nil => simp at hx
      | one hi hcell hd hcd =>
        rename_i i y
        simp only [List.length_map, hlen] at hs
        cases z : j - ts.length with
        | succ z' => rw [z] at hx; simp at hx
        | zero =>
          rw [z] at hx hs
          simp at hx hs
          subst hx
          have hkc : env.kindOf y = some .cell := ge.cells _ hcell
          have kc : (compEnvC csc cl C env).kindOf y = some .cell := by
            rw [hk, so.fr y (.head _), Option.map_some, hkc, ge.kind]
            rfl
          have mv : ∀ {v : Value}, VarIs env h y v → VarIs (compEnvC csc cl C env) h y v := by
            intro v hv'
            cases hv' with
            | loc a b c => rw [hkc] at a; cases a
            | cell a b c => exact .cell (.inl kc) ((hcl y (.head _)).trans b) c
          cases e : σ[i]? with
          | none =>
            rw [e] at hs
            simp at hs
            subst hs
            trivial
          | some sl' =>
            rw [e] at hs
            simp at hs
            subst hs
            have := ge.slot i y sl' hi e
            cases sl' with
            | unb => trivial
            | val V => obtain ⟨v, a, b⟩ := this; exact ⟨v, mv a, b⟩
            | own l => obtain ⟨v, a, b⟩ := this; exact ⟨v, mv a, b⟩
            | dict kvs => obtain ⟨d, a, b⟩ := this; exact ⟨d, mv a, b⟩
  · rw [hk, hx]; rfl
  · exact (so.cell _ (mem_of_lookup hx) rfl).elim
  · exact (so.cell _ (mem_of_lookup hx) rfl).elim
end
end Mine
end

/-! text M20 -/
section
set_option bootstrap.genMatcherCode false
set_option maxRecDepth 100000
open PySem PySem.Calls PyProof.Rows PySem.W
namespace Mine

theorem calm_ne {α : Type} {r : R α} (h : R.calm r ≠ .stuck) : ∃ a, r = .ok a := by
  cases r with
  | stuck => exact (h rfl).elim
  | exc x => exact (h rfl).elim
  | ok a => exact ⟨a, rfl⟩
theorem calm_ok {α : Type} {r : R α} {a : α} (h : R.calm r = .ok a) : r = .ok a := by
  cases r <;> first | exact h | (cases h; done)
theorem compL_calm {g : V → R (Option V)} : ∀ (l : List V), compL (fun v => R.calm (g v)) l ≠ .stuck → ∃ r, compL (fun v => R.calm (g v)) l = .ok r
  | [], _ => ⟨[], rfl⟩
  | v :: l, h => by
    simp only [compL] at h ⊢
    obtain ⟨o, e⟩ := calm_ne (R.ne_bind h)
    have e' : R.calm (g v) = .ok o := by rw [e]; rfl
    rw [e', R.bind_ok] at h ⊢
    obtain ⟨r, e2⟩ := compL_calm l (R.ne_bind h)
    rw [e2]
    exact ⟨_, rfl⟩
theorem bind_ok_inv {α β : Type} {r : R α} {f : α → R β} {b : β} (h : r.bind f = .ok b) : ∃ a, r = .ok a ∧ f a = .ok b := by
  cases r with
  | stuck => cases h
  | exc x => cases h
  | ok a => exact ⟨a, rfl, h⟩
theorem ofOpt_ok_inv {α : Type} {o : Option α} {b : α} (h : R.ofOpt o = .ok b) : o = some b := by
  cases o with
  | none => cases h
  | some a => cases h; rfl

noncomputable def cstep (k : Nat) (σ : Env) (elt : E) (nt : Nat) (tupled : Bool) (cond : Option E) (free : List Nat) (v : V) : R (Option V) :=
  R.calm ((R.ofOpt (compEnv σ free nt tupled v)).bind fun σ' => (match cond with
    | .none => R.ok true
    | some c => evT FT k σ' c).bind fun t => if t then (evE FT k σ' elt).bind fun w => if w.flat 8 then .ok (some w) else .stuck else .ok .none)
theorem evE_comp (k : Nat) (σ : Env) (elt iter : E) (nt : Nat) (tupled : Bool) (cond : Option E) (free : List Nat) : evE FT (k + 1) σ (.comp elt iter nt tupled cond free) =
    (evE FT k σ iter).bind fun x => (R.ofOpt x.asList).bind fun l => if l.length ≤ cap then (compL (cstep k σ elt nt tupled cond free) l).bind fun r => .ok (.list r) else .stuck := rfl
theorem cstep_ok {k : Nat} {σ : Env} {elt : E} {nt : Nat} {tupled : Bool} {cond : Option E} {free : List Nat} {v : V} {o : Option V} (h : cstep k σ elt nt tupled cond free v = .ok o) :
    ∃ σ' t, compEnv σ free nt tupled v = some σ' ∧ ((cond = .none ∧ t = true) ∨ ∃ c, cond = some c ∧ evT FT k σ' c = .ok t) ∧ ((t = false ∧ o = .none) ∨ (t = true ∧ ∃ w, evE FT k σ' elt = .ok w ∧ w.flat 8 = true ∧ o = some w)) := by
  obtain ⟨σ', e1, h⟩ := bind_ok_inv (calm_ok h)
  obtain ⟨t, e2, h⟩ := bind_ok_inv h
  refine ⟨σ', t, ofOpt_ok_inv e1, ?_, ?_⟩
  · cases cond with
    | none => cases e2; exact .inl ⟨rfl, rfl⟩
    | some c => exact .inr ⟨c, rfl, e2⟩
  · cases t with
    | false => cases h; exact .inl ⟨rfl, rfl⟩
    | true =>
      simp only [if_true] at h
      obtain ⟨w, e3, h⟩ := bind_ok_inv h
      cases q : w.flat 8 with
      | false => rw [q] at h; cases h
      | true => rw [q] at h; cases h; exact .inr ⟨rfl, w, e3, q, rfl⟩
theorem compL_calm' {k : Nat} {σ : Env} {elt : E} {nt : Nat} {tupled : Bool} {cond : Option E} {free : List Nat} (l : List V) (h : compL (cstep k σ elt nt tupled cond free) l ≠ .stuck) : ∃ r, compL (cstep k σ elt nt tupled cond free) l = .ok r := compL_calm l h

theorem ne_sz {h : Heap} {b : Addr} {o : Obj} (e : h.get? b = some o) {c n : Nat} (hn : h.objs.size = n) (hc : n ≤ c) : b ≠ c := by
  intro q
  subst q
  exact Nat.lt_irrefl _ (Nat.lt_of_lt_of_le (Heap.lt_size e) (hn ▸ hc))
theorem Rep.ext {P : Addr → Prop} {C : Addr} {h h' : Heap} (x : Heap.ExtBut C h h') (nt : ∀ its, ¬ IsTup h C its) (np : ∀ its, P C → ¬ h.IsList C its) {v : Value} {d : V} (r : Rep P h v d) : Rep P h' v d :=
  r.sub (fun _ _ t => ext_tup x t fun q => nt _ (q ▸ t)) fun _ _ p l => ⟨ext_list x l fun q => np _ (q ▸ p) (q ▸ l), p⟩
theorem RepL.ext {P : Addr → Prop} {C : Addr} {h h' : Heap} (x : Heap.ExtBut C h h') (nt : ∀ its, ¬ IsTup h C its) (np : ∀ its, P C → ¬ h.IsList C its) {vs : List Value} {ds : List V} (r : RepL P h vs ds) : RepL P h' vs ds :=
  r.sub (fun _ _ t => ext_tup x t fun q => nt _ (q ▸ t)) fun _ _ p l => ⟨ext_list x l fun q => np _ (q ▸ p) (q ▸ l), p⟩
theorem iter_noTup {h : Heap} {I l : Addr} {i : Nat} (x : h.IsListIter I l i) (its : Array Value) : ¬ IsTup h I its := by
  rintro ⟨o, ho, _, n, hd⟩
  obtain ⟨o', ho', _, hd'⟩ := x
  cases data_inj ho hd ho' hd'
theorem list_noTup {h : Heap} {D : Addr} {vs : Array Value} (x : h.IsList D vs) (its : Array Value) : ¬ IsTup h D its := by
  rintro ⟨o, ho, hc, _⟩
  obtain ⟨o', ho', hc', _⟩ := x
  rw [ho] at ho'; cases ho'; rw [hc] at hc'; simp at hc'

section
variable {w : World} {mg mb : Str → Option Value}
variable {G : Heap} {fr : List PySem.Env} {A : Around} {k : Nat} {s s₀ s₁ s' s'' : Shared} {Z : Value → Shared → Prop} {sc : Scope} {σ : Env} {vs : List Str} {env : PySem.Env}

theorem E_calm (HE : SimE w mg mb k) {e : E} {pe : PySem.Expr} {d : V} (g : Stg w mg mb k G fr A sc σ vs env s.heap) (c : CpE sc vs e pe) (h : evE FT k σ e = .ok d) : wpAny (model PR w) A (eval pe env) (Got fr s d) (fun _ _ => False) s := by
  have := HE g c (by rw [h]; exact nofun)
  rw [h] at this
  exact wpAny_mono this (fun v s' x => by obtain ⟨d', e, p⟩ := x; cases e; exact p) fun v s' x => by obtain ⟨y, e, _⟩ := x; cases e
theorem T_calm (HT : SimT w mg mb k) {e : E} {pe : PySem.Expr} {d : Bool} (g : Stg w mg mb k G fr A sc σ vs env s.heap) (c : CpE sc vs e pe) (h : evT FT k σ e = .ok d) : wpAny (model PR w) A (isTrue pe env (eval pe env)) (fun b s' => b = d ∧ St fr s s') (fun _ _ => False) s := by
  have := HT g c (by rw [h]; exact nofun)
  rw [h] at this
  exact wpAny_mono this (fun v s' x => by obtain ⟨e, p⟩ := x; cases e; exact ⟨rfl, p⟩) fun v s' x => by obtain ⟨y, e, _⟩ := x; cases e

/-- the cells that a comprehension takes along -/
theorem comp_cells {FR : List Addr} {csc : Scope} {ts ys' : List Str} {free : List Nat} {h : Heap} (so : ScOk csc ts ys') (fo : FreeOk sc vs free ys') (ge : EnvOk w FR sc σ vs env h) :
    ∃ cl, closureFor csc env = pure cl ∧ ∀ y ∈ ys', cl.lookup y = env.cells.lookup y := by
  have hcells : ∀ y ∈ ys', ∃ c, env.cells.lookup y = some c := by
    cases fo with
    | nil => intro y hy; cases hy
    | one hi hc _ _ => intro z hz; cases List.mem_singleton.mp hz; exact ge.cellv _ hc
  refine ⟨_, closureFor_of (fun y => (env.cells.lookup y).getD 0) fun x hx hfr => ?_, fun y hy => ?_⟩
  · obtain ⟨c, hc⟩ := hcells x.1 (so.free ▸ List.mem_map.mpr ⟨x, List.mem_filter.mpr ⟨hx, by rw [hfr]; rfl⟩, rfl⟩)
    rw [hc]; rfl
  · obtain ⟨c, hc⟩ := hcells y hy
    have hys := so.free
    cases fo with
    | nil => cases hy
    | one hi _ _ _ =>
      cases List.mem_singleton.mp hy
      generalize csc.names.filter (fun y => y.2 == .free) = l at hys ⊢
      match l, hys with
      | [(n, kd)], hys =>
        cases hys
        show List.lookup _ [(_, _)] = _
        rw [List.lookup_cons, beq_self_eq_true, hc]; rfl

/-- how far the loop of a comprehension is -/
inductive CLoop (fr : List PySem.Env) (s₁ : Shared) (I ax D C : Addr) (F : V → R (Option V)) (ds res : List V) (n : Nat) (s' : Shared) : Prop
  | mk (i : Nat) (ys : List Value) (dn rest : List V) (m : Str → Option Value) : St fr s₁ s' → s'.heap.IsListIter I ax i → s'.heap.IsList D ys.toArray → s'.heap.Ns C m → RepL No s'.heap ys dn →
    compL F (ds.drop i) = .ok rest → res = dn ++ rest → i ≤ ds.length → n = ds.length + 1 - i → ys.length ≤ i → CLoop fr s₁ I ax D C F ds res n s'

noncomputable abbrev Nev : Value → Shared → Prop := fun _ _ => False

/-- one element -/
theorem comp_elem (HE : SimE w mg mb k) (HT : SimT w mg mb k) {elt : E} {cond : Option E} {pelt : PySem.Expr} {ifs : List PySem.Expr} {o : Option V} {t : Bool} {D : Addr} {Qn : Shared → Prop}
    (g : Stg w mg mb k G fr A sc σ vs env s.heap) (ce : CpE sc vs elt pelt) (cc : CpC sc vs cond ifs)
    (et : (cond = .none ∧ t = true) ∨ ∃ c, cond = some c ∧ evT FT k σ c = .ok t) (ew : (t = false ∧ o = .none) ∨ (t = true ∧ ∃ w, evE FT k σ elt = .ok w ∧ w.flat 8 = true ∧ o = some w))
    (hn : ∀ s', o = none → St fr s s' → Qn s')
    (hs : ∀ wv y s', o = some wv → St fr s s' → Rep No s'.heap y wv → wpAny (model PR w) A (call (.builtin "list.append") [.ref D, y]) (fun _ => Qn) Nev s') :
    wpAny (model PR w) A (forIn ifs true fun c r => if r = true then do let ok ← isTrue c env (eval c env); pure (ForInStep.yield ok) else pure (ForInStep.yield r)) (fun ok s₃ => if ok = true then wpAny (model PR w) A (eval pelt env) (fun x s₄ =>
      wpAny (model PR w) A (call (.builtin "list.append") [.ref D, x]) (fun _ => Qn) Nev s₄) Nev s₃ else Qn s₃) Nev s := by
  have tests : wpAny (model PR w) A (forIn ifs true fun c r => if r = true then do let ok ← isTrue c env (eval c env); pure (ForInStep.yield ok) else pure (ForInStep.yield r)) (fun b s₃ => b = t ∧ St fr s s₃) Nev s := by
    rcases et with ⟨rfl, rfl⟩ | ⟨c, rfl, et⟩
    · replace cc := CpC.un cc
      cases cc
      exact wpAny_tests_nil ⟨rfl, St.refl _⟩
    · replace cc := CpC.un cc
      cases cc with
      | some cc => exact wpAny_tests_one (T_calm HT g cc et)
  refine wpAny_mono tests (fun b s₃ h₃ => ?_) fun _ _ f => f
  obtain ⟨rfl, K₃⟩ := h₃
  rcases ew with ⟨rfl, e⟩ | ⟨rfl, wv, ew, wf, e⟩
  · exact (if_neg Bool.false_ne_true).symm ▸ hn s₃ e K₃
  · exact (if_pos rfl).symm ▸ wpAny_mono (E_calm HE (g.step K₃) ce ew) (fun y s₄ h₄ => hs wv y s₄ e (K₃.trans h₄.2) (h₄.1.flat 8 wf)) fun _ _ f => f

theorem comp_turn (HE : SimE w mg mb k) (HT : SimT w mg mb k) {elt : E} {nt : Nat} {tupled : Bool} {cond : Option E} {free : List Nat} {pt pelt : PySem.Expr} {ts ys' : List Str} {ifs : List PySem.Expr} {csc : Scope}
    {cl : List (Str × Addr)} {I ax D C : Addr} {vals : List Value} {ds res : List V} {Rr : Result → Shared → Prop} {n : Nat}
    (g : Stg w mg mb k G fr A sc σ vs env s.heap) (ct : CpT tupled ts pt) (hnt : nt = ts.length) (ce : CpE csc (ts ++ ys') elt pelt) (cc : CpC csc (ts ++ ys') cond ifs) (so : ScOk csc ts ys') (fo : FreeOk sc vs free ys')
    (st₁ : St fr s s₁) (hclk : ∀ y ∈ ys', cl.lookup y = env.cells.lookup y) (hl : s₁.heap.IsList ax vals.toArray) (rl : RepL Tr s₁.heap vals ds) (hcap : ds.length ≤ cap)
    (fI : s₁.heap.get? I = none) (fD : s₁.heap.get? D = none) (fC : s₁.heap.get? C = none) (hCI : C ≠ I) (hDI : D ≠ I) (hDC : D ≠ C)
    (hfin : ∀ s' m ys, St fr s₁ s' → s'.heap.Ns C m → s'.heap.IsList D (List.toArray ys) → RepL No s'.heap ys res → Rr (.ok .next) s')
    (X : CLoop fr s₁ I ax D C (cstep k σ elt nt tupled cond free) ds res n s') :
    wpAny (model PR w) A (pyNext (.ref I)) (fun r s₁' => match r with
      | none => Rr (.ok .next) s₁'
      | some v => wpAny (model PR w) A (letOwnedTupleGo pt (.ref I) v) (fun _ s₀ => wpAny (model PR w) A (assign pt (compEnvC csc cl C env) v) (fun _ s₂ =>
          wpAny (model PR w) A (forIn ifs true fun c r => if r = true then do let ok ← isTrue c (compEnvC csc cl C env) (eval c (compEnvC csc cl C env)); pure (ForInStep.yield ok) else pure (ForInStep.yield r)) (fun ok s₃ => if ok = true then wpAny (model PR w) A (eval pelt (compEnvC csc cl C env)) (fun x s₄ =>
            wpAny (model PR w) A (call (.builtin "list.append") [.ref D, x]) (fun _ s₅ => ∃ m, m < n ∧ CLoop fr s₁ I ax D C (cstep k σ elt nt tupled cond free) ds res m s₅) Nev s₄) Nev s₃
            else ∃ m, m < n ∧ CLoop fr s₁ I ax D C (cstep k σ elt nt tupled cond free) ds res m s₃) Nev s₂)
          Nev s₀) Nev s₁') Nev s' := by
  induction X using CLoop.casesOn with | mk i ys dn rest m K hit hacc hns hys hrest hres hi hn hyi => ?_
  subst hres hn
  have hax : s'.heap.IsList ax vals.toArray := K.keep.isList hl fun z => z
  have hlen := rl.length
  by_cases hend : i < ds.length
  · obtain ⟨v, hv, rv⟩ := rl.get i ds[i] (List.getElem?_eq_getElem hend)
    refine wpAny_pyNext_list_item hit hax ((List.getElem?_toArray ..).trans hv) fun h₁ hit₁ hs₁ => ?_
    rw [List.drop_eq_getElem_cons hend] at hrest
    obtain ⟨o, eo, hrest⟩ := bind_ok_inv hrest
    obtain ⟨rest', er, hrest⟩ := bind_ok_inv hrest
    obtain ⟨σ', t, ec, et, ew⟩ := cstep_ok eo
    obtain ⟨ds', rfl, hl', hd'⟩ := comp_spec ec
    have K₁ : St fr s₁ { s' with heap := h₁ } := K.extNew (tk := s'.toks) hs₁.extBut fI
    have n₁ : h₁.Ns C m := hns.extBut hs₁.extBut hCI
    refine tgt_bind (cenv := compEnvC csc cl C env) (ds := ds') g.R.handled ct (by show (relabel csc env).kind = _; exact so.kind) (fun t ht => ?_) so.nodup n₁ hit₁ (rv.step K₁.keep) (by rw [← hnt]; exact hd') fun s₂ m₂ hn₂ hx₂ hv₂ hg₂ ho₂ => ?_
    · show (relabel csc env).names.lookup t = _
      rw [relabel_lookup, (so.tgt t ht).1]; rfl
    have K₂ : St fr s₁ s₂ := ⟨K₁.keep.extNew hx₂ fC, hg₂.trans K₁.gens, ho₂.trans K₁.os⟩
    have it₂ : s₂.heap.IsListIter I ax (i + 1) := let ⟨o, ho, hc, hd⟩ := hit₁; ⟨o, hx₂ I o hCI.symm ho, hc, hd⟩
    have ac₂ : s₂.heap.IsList D ys.toArray := (hacc.extBut hs₁.extBut hDI).extBut hx₂ hDC
    have ry₂ : RepL No s₂.heap ys dn := (hys.ext hs₁.extBut (iter_noTup hit) fun _ z => z.elim).extNs hx₂ n₁
    have lt : ds.length + 1 - (i + 1) < ds.length + 1 - i := Nat.sub_lt_sub_left (Nat.lt_succ_of_lt hend) (Nat.lt_succ_self i)
    refine comp_elem HE HT ⟨g.d, g.R.step (st₁.trans K₂), comp_env so fo (g.e.step (st₁.trans K₂).keep) hn₂ (hl'.trans hnt) hv₂ hclk⟩ ce cc et ew (fun s₃ e K₃ => ?_) fun wv y s₄ e K₄ ry => ?_
    · subst e
      cases hrest
      exact ⟨_, lt, i + 1, ys, dn, rest', m₂, K₂.trans K₃, K₃.keep.isIter it₂ fun z => z, K₃.keep.isList ac₂ fun z => z, K₃.keep.ns hn₂ fun z => z, ry₂.step K₃.keep, er, rfl, hend, rfl, Nat.le_succ_of_le hyi⟩
    · subst e
      cases hrest
      have ac₄ : s₄.heap.IsList D ys.toArray := K₄.keep.isList ac₂ fun z => z
      refine wpAny_list_append (hsz := by rw [sizeLine_eq]; exact Nat.le_trans hyi (Nat.le_trans hi (Nat.le_trans hcap (by decide)))) ac₄ fun h₅ hl₅ hs₅ => ?_
      have it₄ := K₄.keep.isIter it₂ fun z => z
      refine ⟨_, lt, i + 1, ys ++ [y], dn ++ [wv], rest', m₂, ((K₂.trans K₄).extNew (tk := s₄.toks) hs₅.extBut fD), let ⟨o, ho, hc, hd⟩ := it₄; ⟨o, hs₅.extBut I o hDI.symm ho, hc, hd⟩, by rw [← List.push_toArray]; exact hl₅, (K₄.keep.ns hn₂ fun z => z).extBut hs₅.extBut hDC.symm,
        ((ry₂.step K₄.keep).append (.cons ry .nil)).ext hs₅.extBut (list_noTup ac₄) fun _ z => z.elim, er, List.append_cons dn wv rest', hend, rfl, ?_⟩
      rw [List.length_append]; exact Nat.succ_le_succ hyi
  · refine wpAny_pyNext_list_end g.R.handled hit hax ((List.getElem?_toArray ..).trans (List.getElem?_eq_none (hlen ▸ Nat.le_of_not_lt hend))) fun h₁ he₁ => ?_
    rw [List.drop_eq_nil_of_le (Nat.le_of_not_lt hend)] at hrest
    cases hrest
    exact hfin _ m ys (K.extNew (tk := s'.toks) he₁ fI) (hns.extBut he₁ hCI) (hacc.extBut he₁ hDI) (by rw [List.append_nil]; exact hys.ext he₁ (iter_noTup hit) fun _ z => z.elim)

/-- where the loop of a comprehension starts -/
theorem comp_new {I D C : Addr} {H2 H3 h₄ : Heap} {ax : Addr} (hH2 : s₁.heap.push { cls := .type "list_iterator", data := .fields #[.ref ax, .int 0 0] } = H2) (hH3 : H2.push { cls := .type "list", data := .seq #[] } = H3)
    (hI : s₁.heap.objs.size = I) (hD : H2.objs.size = D) (hC : H3.objs.size = C) (x : Heap.ExtBut C (H3.push { cls := .type "dict", data := .dict #[] }) h₄) :
    ((∀ b o, s₁.heap.get? b = some o → h₄.get? b = some o) ∧ h₄.IsListIter I ax 0 ∧ h₄.IsList D (([] : List Value).toArray)) ∧ (s₁.heap.get? I = none ∧ s₁.heap.get? D = none ∧ s₁.heap.get? C = none) ∧ C ≠ I ∧ D ≠ I ∧ D ≠ C := by
  have z2 : H2.objs.size = s₁.heap.objs.size + 1 := by rw [← hH2, Heap.size_push]
  have z3 : H3.objs.size = s₁.heap.objs.size + 2 := by rw [← hH3, Heap.size_push, z2]
  have eD : D = I + 1 := by rw [← hD, z2, hI]
  have eC : C = I + 2 := by rw [← hC, z3, hI]
  have nID : D ≠ I := eD ▸ Nat.succ_ne_self I
  have nIC : C ≠ I := eC ▸ Nat.ne_of_gt (Nat.lt_add_of_pos_right (by decide))
  have nDC : D ≠ C := by rw [eD, eC]; exact Nat.ne_of_lt (Nat.lt_succ_self _)
  have up : ∀ b o, b ≠ C → H3.get? b = some o → h₄.get? b = some o := fun b o hb e => x b o hb (Heap.get?_push_of_some _ e)
  refine ⟨⟨fun b o e => up b o (ne_sz e hI (eC ▸ Nat.le_add_right ..)) (hH3 ▸ Heap.get?_push_of_some _ (hH2 ▸ Heap.get?_push_of_some _ e)), ⟨_, up I _ nIC.symm (hH3 ▸ Heap.get?_push_of_some _ (hH2 ▸ hI ▸ Heap.get?_push_size _ rfl)), rfl, rfl⟩,
    ⟨_, up D _ nDC (hH3 ▸ hD ▸ Heap.get?_push_size _ rfl), rfl, 0, rfl⟩⟩, ⟨Heap.get?_none_of_le (Nat.le_of_eq hI), Heap.get?_none_of_le ?_, Heap.get?_none_of_le ?_⟩, nIC, nID, nDC⟩
  · rw [eD, hI]; exact Nat.le_succ _
  · rw [eC, hI]; exact Nat.le_add_right ..

theorem comp_core (HE : SimE w mg mb k) (HT : SimT w mg mb k) {elt iter : E} {nt : Nat} {tupled : Bool} {cond : Option E} {free : List Nat} {pt pelt piter : PySem.Expr} {ts ys' : List Str} {ifs : List PySem.Expr} {csc : Scope} {p : Pos} {use : Option (Value → Sem Unit)} {Q : Value → Shared → Prop} {r : R V}
    (g : Stg w mg mb (k + 1) G fr A sc σ vs env s.heap) (ct : CpT tupled ts pt) (hnt : nt = ts.length) (ce : CpE csc (ts ++ ys') elt pelt) (cc : CpC csc (ts ++ ys') cond ifs) (ci : CpE sc vs iter piter) (so : ScOk csc ts ys') (fo : FreeOk sc vs free ys')
    (h₀ : r = evE FT (k + 1) σ (.comp elt iter nt tupled cond free)) (hr : r ≠ .stuck) (hZ : ∀ v s', PX mg G fr s r v s' → Z v s')
    (hfin : ∀ (res : List V) (s' : Shared) (m : Str → Option Value) (ys : List Value) (D C : Addr), r = .ok (.list res) → St fr s s' → s'.heap.Ns C m → s'.heap.IsList D ys.toArray → RepL No s'.heap ys res → D ≠ C → s.heap.get? C = none → s.heap.get? D = none →
      compPost (model PR w) A Z use Q (.ref D) C (.ok .next) s') :
    wpAny (model PR w) A (comprehension (.ListComp pelt [⟨pt, piter, ifs, 0⟩] csc p) csc env (firstIterPos [⟨pt, piter, ifs, 0⟩] p) (newList []) false (eval piter env) use) Q Z s := by
  obtain ⟨cl, hclos, hclk⟩ := comp_cells so fo g.e
  refine wpAny_comprehension_free (use := use) rfl (fun x => ci.noSet env x) hclos so.kind so.loc (wpAny_mono (bnd (h₀.trans (evE_comp ..)) hr (fun h => HE g.pred ci h) (St.refl s) fun x v s₁ _ g₁ h₁ => ?_) (fun _ _ h => h) hZ)
  obtain ⟨ds, hds, h₁⟩ := R.optB h₁ hr
  obtain ⟨hcap, h₁⟩ := R.ite h₁ hr
  obtain ⟨rx, st₁⟩ := g₁
  obtain ⟨ax, vals, rfl, hl, rl⟩ := rx.asList hds
  obtain ⟨res, hres⟩ := compL_calm' ds (R.ne_bind fun e => hr (h₁.trans e))
  have h₁ := R.beq h₁ hres
  refine wpAny_pyIter_list hl (wpAny_newObj_type (wpAny_newFunctionEnv so.cell (fun _ hy => nomatch hy) (fun h₄ hns₄ hsb₄ => ?_) so.kind))
  dsimp only at hns₄ hsb₄ ⊢
  obtain ⟨⟨k₄, it₄, acc₄⟩, ⟨fI, fD, fC⟩, hCI, hDI, hDC⟩ := comp_new rfl rfl rfl rfl rfl hsb₄.extBut
  have loop := comp_loop (elt := pelt) (target := pt) (iter := piter) (ifs := ifs) (scope := csc) (pos := p) (CLoop fr s₁ _ ax _ _ (cstep k σ elt nt tupled cond free) ds res) (fun n s' X => comp_turn HE HT g.pred ct hnt ce cc so fo st₁ hclk hl rl hcap fI fD fC hCI hDI hDC
    (fun s' m ys K h1 h2 h3 => hfin res s' m ys _ _ h₁ (st₁.trans K) h1 h2 h3 hDC (st₁.keep.none fC) (st₁.keep.none fD)) X) (ds.length + 1)
    (s := { s₁ with heap := h₄, toks := s₁.toks + ([] : List (Str × Value)).length }) ⟨0, [], [], res, _, St.of_keeps k₄, it₄, acc₄, hns₄, .nil, hres, rfl, Nat.zero_le _, rfl, Nat.le_refl _⟩
  exact codeAny_compStart_list loop (wpAny_pyIter_listiter it₄ loop)

theorem simK_of (HE : SimE w mg mb k) (HT : SimT w mg mb k) : SimK w mg mb k := by
  intro G fr A s σ sc vs env e pe hn g c hr
  replace c := c.un
  induction c using CpEF.casesOn with
  | comp ct hnt ce cc ci so fo =>
    rw [eval_ListComp]
    refine comp_core HE HT (use := none) g ct hnt ce cc ci so fo rfl hr (fun _ _ x => x) fun res s' m ys D C e K hns hl r hDC fC fD => ?_
    refine ⟨m, hns, fun h' hs' => ?_⟩
    exact ⟨_, e, .list trivial (hl.extBut hs'.extBut hDC) ((r.extNs hs'.extBut hns).mono fun _ _ _ z => z.elim), K.extNew (tk := s'.toks) hs'.extBut fC⟩
  | _ => cases hn
end
end Mine
end

/-! text M21 -/
section
set_option bootstrap.genMatcherCode false
set_option maxRecDepth 100000
open PySem PySem.Calls PyProof.Rows PySem.W
namespace Mine

/-- a body's frame: what does not turn -/
structure Bd (sc : Scope) (vs : List Str) (env : PySem.Env) (s₀ : Shared) : Prop where
  scope : env.scope = sc
  kind : sc.kind = .function
  gen : sc.isGenerator = false
  coro : sc.isCoroutine = false
  glo : env.globals = mainGlobals
  blt : env.builtins = builtinsNs
  frame : env.frame = some env.locals
  nodup : vs.Nodup
  kinds : ∀ x ∈ vs, sc.names.lookup x = some .local ∨ sc.names.lookup x = some .cell
  cellv : ∀ x, sc.names.lookup x = some .cell → ∃ c, env.cells.lookup x = some c
  apart : ∀ x y c, env.cells.lookup x = some c → env.cells.lookup y = some c → x = y
  newL : s₀.heap.get? env.locals = none
  newC : ∀ x c, env.cells.lookup x = some c → s₀.heap.get? c = none

theorem Keep.plainL {FR : List Addr} {X : Addr → Prop} {h h' : Heap} {a : Addr} {vs : Array Value} (k : Keep FR X h h') (x : PlainL h a vs) (n : ¬ X a) : PlainL h' a vs := by
  obtain ⟨o, m, ho, hc, hdi, hd⟩ := x
  exact ⟨o, m, k.exact a o ho n fun _ es ep q => (by rw [hd] at q; cases q), hc, hdi, hd⟩

noncomputable abbrev Pw (ow : Nat → Option Addr) : Addr → Prop := fun a => ∀ j, ow j ≠ some a

section
variable (w : World)
noncomputable def SlotS (FR : List Addr) (ow : Nat → Option Addr) (env : PySem.Env) (h : Heap) (i : Nat) (x : Str) : Slot → Prop
  | .unb => ow i = none
  | .val V => ow i = none ∧ ∃ v, VarIs env h x v ∧ Rep (Pw ow) h v V
  | .own l => ∃ a vs, ow i = some a ∧ VarIs env h x (.ref a) ∧ PlainL h a (List.toArray vs) ∧ RepL No h vs l
  | .dict kvs => ∃ d, ow i = some d ∧ VarIs env h x (.ref d) ∧ d ∉ FR ∧ DictIs w h d kvs

structure Slots (s₀ : Heap) (FR : List Addr) (vs : List Str) (env : PySem.Env) (σ : Env) (ow : Nat → Option Addr) (h : Heap) : Prop where
  new : ∀ i a, ow i = some a → s₀.get? a = none
  inj : ∀ i j a, ow i = some a → ow j = some a → i = j
  dom : ∀ i a, ow i = some a → ∃ sl, σ[i]? = some sl ∧ sl.isOwn = true
  slot : ∀ (i : Nat) (x : Str) (sl : Slot), vs[i]? = some x → σ[i]? = some sl → SlotS w FR ow env h i x sl

/-- the state of a body -/
structure Fs (fr₀ : List PySem.Env) (s₀ : Shared) (vs : List Str) (env : PySem.Env) (σ : Env) (s : Shared) : Prop where
  st : St fr₀ s₀ s
  ns : ∃ m, s.heap.Ns env.locals m
  cell : ∀ x c, env.cells.lookup x = some c → ∃ ov, s.heap.IsCell c ov
  len : σ.length = vs.length
  slots : ∃ ow, Slots w s₀.heap (FRof (env :: fr₀)) vs env σ ow s.heap
end

section
variable {w : World} {G : Heap} {A : Around} {Z : Value → Shared → Prop} {s s₀ s₁ s' : Shared} {fr₀ : List PySem.Env} {sc : Scope} {vs : List Str} {env : PySem.Env} {σ : Env} {k : Nat}

theorem Fs.envOk (b : Bd sc vs env s₀) (f : Fs w fr₀ s₀ vs env σ s) : EnvOk w (FRof (env :: fr₀)) sc σ vs env s.heap := by
  obtain ⟨ow, S⟩ := f.slots
  refine ⟨b.scope ▸ b.kind, b.glo, b.blt, fun i x sl hx hs => ?_, fun x hx => ?_, fun x hx => ?_, b.cellv⟩
  · have := S.slot i x sl hx hs
    cases sl with
    | unb => trivial
    | val V => obtain ⟨_, v, a, r⟩ := this; exact ⟨v, a, r.tr⟩
    | own l => obtain ⟨a, its, _, h1, h2, h3⟩ := this; exact ⟨_, h1, .list trivial h2.isList h3.tr⟩
    | dict kvs => obtain ⟨d, _, h1, h2, h3⟩ := this; exact ⟨d, h1, h2, h3⟩
  · show env.scope.names.lookup x = _; rw [b.scope]; exact hx
  · show env.scope.names.lookup x = _; rw [b.scope]; exact hx

theorem frame_mem (b : Bd sc vs env s₀) : env.locals ∈ FRof (env :: fr₀) := by
  simp [FRof, b.frame]

theorem Fs.rm (b : Bd sc vs env s₀) (f : Fs w fr₀ s₀ vs env σ s) (R : Rm0 G fr₀ A (k + 1) s₀.heap) : Rm G (env :: fr₀) (A.deeper env) k s.heap := by
  have R' := R.step f.st
  refine ⟨⟨R.gg, R.handled, by show A.frames.map _ = _; rw [R.frames]; rfl, ?_, ?_, R'.keepG, fun e he => ?_⟩, env, fr₀, rfl, b.scope ▸ b.gen, b.scope ▸ b.coro, b.blt, b.glo⟩
  · have := R.depth; show A.depth + 1 + k ≤ 600; lia
  · have := R.units; show A.units + 3 + 20 * k ≤ 6000; lia
  · rcases List.mem_cons.mp he with rfl | he
    · refine ⟨by rw [b.scope]; exact b.kind, e.locals, ?_⟩
      obtain ⟨m, hm⟩ := f.ns
      refine ⟨m, b.frame, ?_, hm⟩
      cases q : G.get? e.locals with
      | none => rfl
      | some o => have := R.keepG _ _ q; rw [b.newL] at this; cases this
    · exact R'.fok e he

theorem Keep.transSub {FR FR' : List Addr} {h h' h'' : Heap} (k1 : Keep FR No h h') (k2 : Keep FR' No h' h'') (hs : ∀ b o, h.get? b = some o → b ∈ FR' → b ∈ FR) : Keep FR No h h'' := by
  refine ⟨fun b o e => let ⟨_, e'⟩ := k1.there b o e; k2.there b _ e', fun b o e n hd => ?_, fun b m i n e => k2.ns (k1.names b m i n e) n⟩
  exact k2.exact b o (k1.exact b o e n hd) n fun q => hd (hs b o e q)

theorem Fs.step (b : Bd sc vs env s₀) (f : Fs w fr₀ s₀ vs env σ s) (t : St (env :: fr₀) s s') : Fs w fr₀ s₀ vs env σ s' := by
  have hs : ∀ a o, s₀.heap.get? a = some o → a ∈ FRof (env :: fr₀) → a ∈ FRof fr₀ := by
    intro a o e hm
    unfold FRof at hm
    rw [List.filterMap_cons, b.frame] at hm
    rcases List.mem_cons.mp hm with rfl | hm
    · rw [b.newL] at e; cases e
    · exact hm
  obtain ⟨m, hm⟩ := f.ns
  obtain ⟨ow, S⟩ := f.slots
  have K := t.keep
  refine ⟨⟨f.st.keep.transSub K hs, t.gens.trans f.st.gens, t.os.trans f.st.os⟩, ⟨m, K.ns hm fun z => z⟩, fun x c hc => ?_, f.len, ow, S.new, S.inj, S.dom, fun i x sl hx hsl => ?_⟩
  · obtain ⟨ov, h⟩ := f.cell x c hc
    exact ⟨ov, K.isCell h fun z => z⟩
  · have := S.slot i x sl hx hsl
    have mv : ∀ {v : Value}, VarIs env s.heap x v → VarIs env s'.heap x v := fun h => h.keep K (fun z => z) fun _ _ z => z
    cases sl with
    | unb => exact this
    | val V => obtain ⟨n, v, a, r⟩ := this; exact ⟨n, v, mv a, r.step K⟩
    | own l => obtain ⟨a, its, n, h1, h2, h3⟩ := this; exact ⟨a, its, n, mv h1, K.plainL h2 fun z => z, h3.step K⟩
    | dict kvs => obtain ⟨d, n, h1, h2, h3⟩ := this; exact ⟨d, n, mv h1, h2, h3.keep K (fun _ z => z.elim) (fun z => z) h2⟩

/-- what a store of a name does -/
structure Stored (env : PySem.Env) (x : Str) (v : Value) (s s' : Shared) : Prop where
  is : VarIs env s'.heap x v
  gens : s'.gens = s.gens
  os : s'.os = s.os
  else_ : ∃ C, Heap.ExtBut C s.heap s'.heap ∧ (∀ its, ¬ IsTup s.heap C its) ∧ (∀ its, ¬ s.heap.IsList C its) ∧ (∃ o, s'.heap.get? C = some o) ∧ (C = env.locals ∨ ∃ y, env.cells.lookup y = some C)
  other : ∀ y u, y ≠ x → VarIs env s.heap y u → VarIs env s'.heap y u
  ns : ∃ m, s'.heap.Ns env.locals m
  cell : ∀ y c, env.cells.lookup y = some c → ∃ ov, s'.heap.IsCell c ov

theorem cell_noTup {h : Heap} {c : Addr} {v : Option Value} (x : h.IsCell c v) (its : Array Value) : ¬ IsTup h c its := by
  rintro ⟨o, ho, _, n, hd⟩
  obtain ⟨o', ho', hd'⟩ := x
  cases data_inj ho hd ho' hd'
theorem cell_noList {h : Heap} {c : Addr} {v : Option Value} (x : h.IsCell c v) (its : Array Value) : ¬ h.IsList c its := by
  rintro ⟨o, ho, _, n, hd⟩
  obtain ⟨o', ho', hd'⟩ := x
  cases data_inj ho hd ho' hd'
theorem cell_ne {h : Heap} {c L : Addr} {v : Option Value} {m : Str → Option Value} (x : h.IsCell c v) (n : h.Ns L m) : c ≠ L := by
  rintro rfl
  obtain ⟨o', ho', hd'⟩ := x
  obtain ⟨o, es, ep, ho, hd, _⟩ := n
  cases data_inj ho hd ho' hd'

theorem store_name {x : Str} {v : Value} {Q : Unit → Shared → Prop} (b : Bd sc vs env s₀) (hx : x ∈ vs) (hns : ∃ m, s.heap.Ns env.locals m) (hcell : ∀ x c, env.cells.lookup x = some c → ∃ ov, s.heap.IsCell c ov)
    (h : ∀ s', Stored env x v s s' → Q () s') : wpAny (model PR w) A (storeName env x v) Q Z s := by
  obtain ⟨m, hn⟩ := hns
  have kk : ∀ y, env.kindOf y = sc.names.lookup y := fun y => by show env.scope.names.lookup y = _; rw [b.scope]
  rcases b.kinds x hx with hk | hk
  · refine wpAny_storeName_local ((kk x).trans hk) hn (fun h' hn' hs' => h _ ?_) (by rw [b.scope, b.kind]; rfl)
    refine ⟨.loc ((kk x).trans hk) hn' (by simp), rfl, rfl, ⟨env.locals, hs'.extBut, fun its => ns_noTup hn _ its rfl, fun its hl => ns_noList hn hl, ?_, .inl rfl⟩, fun y u hy hv => ?_, ⟨_, hn'⟩, fun y c hc => ?_⟩
    · obtain ⟨o, _, _, ho, _⟩ := hn'; exact ⟨o, ho⟩
    · cases hv with
      | loc a c d =>
        have : m y = some u := by
          obtain ⟨o1, es1, ep1, e1, d1, _, f1⟩ := c
          obtain ⟨o2, es2, ep2, e2, d2, _, f2⟩ := hn
          cases data_inj e1 d1 e2 d2
          rw [← f2, f1]; exact d
        exact .loc a hn' (by simp [hy, this])
      | cell a c d => exact .cell a c (let ⟨o, ho, hd⟩ := d; ⟨o, hs'.extBut _ o (cell_ne d hn) ho, hd⟩)
    · obtain ⟨ov, hv⟩ := hcell y c hc
      exact ⟨ov, let ⟨o, ho, hd⟩ := hv; ⟨o, hs'.extBut _ o (cell_ne hv hn) ho, hd⟩⟩
  · obtain ⟨c, hc⟩ := b.cellv x hk
    obtain ⟨ov, hv⟩ := hcell x c hc
    refine wpAny_storeName_cell (by rw [b.scope, b.kind]) ((kk x).trans hk) hc hv fun h' hv' hs' => h _ ?_
    refine ⟨.cell (.inl ((kk x).trans hk)) hc hv', rfl, rfl, ⟨c, hs'.extBut, cell_noTup hv, cell_noList hv, let ⟨o, ho, _⟩ := hv'; ⟨o, ho⟩, .inr ⟨x, hc⟩⟩, fun y u hy hv => ?_, ⟨m, hn.extBut hs'.extBut (Ne.symm (cell_ne hv hn))⟩, fun y c' hc' => ?_⟩
    · cases hv with
      | loc a e d => exact .loc a (e.extBut hs'.extBut (Ne.symm (by obtain ⟨ov, hv⟩ := hcell x c hc; exact cell_ne hv hn))) d
      | cell a e d => exact .cell a e (let ⟨o, ho, hd⟩ := d; ⟨o, hs'.extBut _ o (fun q => hy (b.apart _ _ _ (q ▸ e) hc)) ho, hd⟩)
    · by_cases q : c' = c
      · subst q; exact ⟨_, hv'⟩
      · obtain ⟨ov', hv2⟩ := hcell y c' hc'
        exact ⟨ov', let ⟨o, ho, hd⟩ := hv2; ⟨o, hs'.extBut _ o q ho, hd⟩⟩
end
end Mine
end

/-! text M22 -/
section
set_option bootstrap.genMatcherCode false
set_option maxRecDepth 100000
open PySem PySem.Calls PyProof.Rows PySem.W
namespace Mine
section
variable {w : World} {G : Heap} {A : Around} {Z : Value → Shared → Prop} {s s₀ s₁ s' : Shared} {fr₀ : List PySem.Env} {sc : Scope} {vs : List Str} {env : PySem.Env} {σ : Env} {k : Nat}

theorem get_nodup {x y : Str} {i j : Nat} (nd : vs.Nodup) (hi : vs[i]? = some x) (hj : vs[j]? = some y) (q : j ≠ i) : y ≠ x := by
  rintro rfl
  obtain ⟨h1, e1⟩ := List.getElem?_eq_some_iff.mp hi
  obtain ⟨h2, e2⟩ := List.getElem?_eq_some_iff.mp hj
  exact q ((List.getElem_inj nd).mp (e2.trans e1.symm))

theorem Slots.none_of {h₀ : Heap} {FR : List Addr} {ow : Nat → Option Addr} {h : Heap} (S : Slots w h₀ FR vs env σ ow h) (n : noOwn σ = true) (j : Nat) : ow j = none := by
  cases q : ow j with
  | none => rfl
  | some a =>
    obtain ⟨sl, e, o⟩ := S.dom j a q
    unfold noOwn at n
    simp only [Bool.not_eq_true', List.any_eq_false] at n
    exact (n sl (List.mem_of_getElem? e) o).elim

theorem ext_dict {FR : List Addr} {C d : Addr} {h h' : Heap} {kvs : List ((Int × Int) × Int)} (x : Heap.ExtBut C h h') (hC : ∃ o, h'.get? C = some o) (nt : ∀ its, ¬ IsTup h C its) (hd : d ≠ C) (hf : d ∉ FR) (D : DictIs w h d kvs) : DictIs w h' d kvs :=
  D.keep (Keep.extNs (FR := FR) x hC) (fun a e its => by subst e; exact nt its) hd hf

/-- the slots while an object turns that no slot speaks of -/
theorem Slots.ext {h₀ : Heap} {FR : List Addr} {ow : Nat → Option Addr} {h h' : Heap} {C : Addr} {i : Nat} {sl : Slot} (S : Slots w h₀ FR vs env σ ow h) (hlt : i < σ.length)
    (x : Heap.ExtBut C h h') (hC : ∃ o, h'.get? C = some o) (nt : ∀ its, ¬ IsTup h C its) (nl : ∀ its j, h.IsList C its → ow j = some C → j = i) (np : Pw ow C → ∀ its, ¬ h.IsList C its) (nd : ∀ kvs, DictIs w h C kvs → C ∉ FR → ∀ j, ow j = some C → j = i)
    (var : ∀ j y u, vs[j]? = some y → j ≠ i → VarIs env h y u → VarIs env h' y u)
    (ow' : Nat → Option Addr) (how : ∀ j, j ≠ i → ow' j = ow j) (hnew : ∀ a, ow' i = some a → h₀.get? a = none ∧ (∀ j, j ≠ i → ow j ≠ some a) ∧ sl.isOwn = true)
    (hP : ∀ a o, h.get? a = some o → Pw ow a → ow' i ≠ some a)
    (hi : ∀ y, vs[i]? = some y → SlotS w FR ow' env h' i y sl) : Slots w h₀ FR vs env (σ.set i sl) ow' h' := by
  have pw : ∀ a o, h.get? a = some o → Pw ow a → Pw ow' a := by
    intro a o ho p j
    by_cases q : j = i
    · subst q; exact hP a o ho p
    · rw [how j q]; exact p j
  refine ⟨fun j a e => ?_, fun j l a e1 e2 => ?_, fun j a e => ?_, fun j y s1 hy hs => ?_⟩
  · by_cases q : j = i
    · subst q; exact (hnew a e).1
    · rw [how j q] at e; exact S.new j a e
  · by_cases q : j = i
    · subst q
      by_cases p : l = j
      · exact p.symm
      · rw [how l p] at e2; exact ((hnew a e1).2.1 l p e2).elim
    · rw [how j q] at e1
      by_cases p : l = i
      · subst p; exact ((hnew a e2).2.1 j q e1).elim
      · rw [how l p] at e2; exact S.inj j l a e1 e2
  · by_cases q : j = i
    · subst q; exact ⟨sl, by rw [List.getElem?_set_self hlt], (hnew a e).2.2⟩
    · rw [how j q] at e
      obtain ⟨s1, e1, o1⟩ := S.dom j a e
      exact ⟨s1, by rw [List.getElem?_set_ne (Ne.symm q)]; exact e1, o1⟩
  · by_cases q : j = i
    · subst q
      rw [List.getElem?_set_self hlt] at hs
      cases hs
      exact hi y hy
    · rw [List.getElem?_set_ne (Ne.symm q)] at hs
      have := S.slot j y s1 hy hs
      cases s1 with
      | unb => show ow' j = none; rw [how j q]; exact this
      | val V =>
        obtain ⟨n, v, a, r⟩ := this
        have r1 : Rep (fun a => Pw ow a ∧ Pw ow' a) h v V := r.mono fun a o ho p => ⟨p, pw a o ho p⟩
        exact ⟨by rw [how j q]; exact n, v, var j y v hy q a, (r1.ext x nt fun its p => np p.1 its).mono fun a o _ p => p.2⟩
      | own l =>
        obtain ⟨a, its, n, h1, h2, h3⟩ := this
        have ne : a ≠ C := fun e => q (nl _ j (e ▸ h2.isList) (e ▸ n))
        exact ⟨a, its, by rw [how j q]; exact n, var j y _ hy q h1, h2.extBut x ne, h3.ext x nt fun _ z => z.elim⟩
      | dict kvs =>
        obtain ⟨d, n, h1, h2, h3⟩ := this
        have ne : d ≠ C := fun e => q (nd _ (e ▸ h3) (e ▸ h2) j (e ▸ n))
        exact ⟨d, by rw [how j q]; exact n, var j y _ hy q h1, h2, ext_dict x hC nt ne h2 h3⟩

theorem Fs.lt {i : Nat} {x : Str} (f : Fs w fr₀ s₀ vs env σ s) (hx : vs[i]? = some x) : i < σ.length := by
  rw [f.len]; exact (List.getElem?_eq_some_iff.mp hx).1

theorem stored_new {C : Addr} (b : Bd sc vs env s₀) (h : C = env.locals ∨ ∃ y, env.cells.lookup y = some C) : s₀.heap.get? C = none := by
  rcases h with rfl | ⟨y, e⟩
  · exact b.newL
  · exact b.newC y _ e

theorem dict_ne {C d : Addr} {kvs : List ((Int × Int) × Int)} (b : Bd sc vs env s₀) (f : ∀ x c, env.cells.lookup x = some c → ∃ ov, s.heap.IsCell c ov) (h : C = env.locals ∨ ∃ y, env.cells.lookup y = some C) (hd : DictIs w s.heap d kvs) (hf : d ∉ FRof (env :: fr₀)) : d ≠ C := by
  rintro rfl
  rcases h with rfl | ⟨y, e⟩
  · exact hf (frame_mem b)
  · obtain ⟨ov, o, ho, hc⟩ := f y _ e
    obtain ⟨_, xs, ⟨o', es, ep, ho', _, hdat, _⟩, _⟩ := hd
    cases data_inj ho hc ho' hdat

/-- a value into a name -/
theorem Fs.setVal {i : Nat} {x : Str} {v : Value} {V : V} (b : Bd sc vs env s₀) (f : Fs w fr₀ s₀ vs env σ s) (hx : vs[i]? = some x) (t : Stored env x v s s') (r : Rep Tr s.heap v V) (hv : (V.flat 8 || noOwn σ) = true) :
    Fs w fr₀ s₀ vs env (σ.set i (.val V)) s' := by
  obtain ⟨ow, S⟩ := f.slots
  obtain ⟨C, hx', nt, nl, hC, hk⟩ := t.else_
  have hnew : s₀.heap.get? C = none := stored_new b hk
  refine ⟨⟨f.st.keep.extNew hx' hnew, t.gens.trans f.st.gens, t.os.trans f.st.os⟩, t.ns, t.cell, by rw [List.length_set]; exact f.len, fun j => if j = i then none else ow j, ?_⟩
  refine S.ext (f.lt hx) hx' hC nt (fun its _ hl => (nl its hl).elim) (fun _ its => nl its) (fun kvs hd hf => (dict_ne b f.cell hk hd hf rfl).elim) (fun j y u hy q hu => t.other y u (get_nodup b.nodup hx hy q) hu) _ (fun j q => by simp [q]) (fun a e => by simp at e) (fun a o _ _ => by simp) fun y hy => ?_
  have : y = x := by rw [hx] at hy; cases hy; rfl
  subst this
  refine ⟨by simp, v, t.is, ?_⟩
  have r1 : Rep (fun a => ∀ j, (fun j => if j = i then none else ow j) j ≠ some a) s.heap v V := by
    rcases (Bool.or_eq_true _ _).mp hv with h | h
    · exact r.flat 8 h
    · refine r.mono fun a _ _ _ j => ?_
      by_cases q : j = i
      · simp [q]
      · simp only [q, if_false]; rw [S.none_of h j]; exact nofun
  exact r1.ext hx' nt fun its _ => nl its
end
end Mine
end

/-! text M23 -/
section
set_option bootstrap.genMatcherCode false
set_option maxRecDepth 100000
open PySem PySem.Calls PyProof.Rows PySem.W
namespace Mine
section
variable {w : World} {G : Heap} {A : Around} {Z : Value → Shared → Prop} {s s₀ s₁ s' : Shared} {fr₀ : List PySem.Env} {sc : Scope} {vs : List Str} {env : PySem.Env} {σ : Env} {k : Nat}

theorem Slots.there {h₀ h : Heap} {FR : List Addr} {ow : Nat → Option Addr} (S : Slots w h₀ FR vs env σ ow h) (hl : σ.length = vs.length) {j : Nat} {a : Addr} (e : ow j = some a) : ∃ o, h.get? a = some o := by
  obtain ⟨sl, hs, ho⟩ := S.dom j a e
  have hj : j < vs.length := hl ▸ (List.getElem?_eq_some_iff.mp hs).1
  have := S.slot j vs[j] sl (by simp [hj]) hs
  cases sl with
  | unb => cases ho
  | val V => cases ho
  | own l =>
    obtain ⟨a', its, n, _, ⟨o, _, h2, _⟩, _⟩ := this
    rw [e] at n; cases n; exact ⟨o, h2⟩
  | dict kvs =>
    obtain ⟨d, n, _, _, ⟨_, xs, ⟨o, _, _, h3, _⟩, _⟩⟩ := this
    rw [e] at n; cases n; exact ⟨o, h3⟩

/-- a new object, then its name -/
theorem Fs.setNew {i : Nat} {x : Str} {ob : Obj} {sl : Slot} (b : Bd sc vs env s₀) (f : Fs w fr₀ s₀ vs env σ s₁) (hx : vs[i]? = some x)
    (hob : ob.isFreed = false) (t : Stored env x (.ref s₁.heap.objs.size) { s₁ with heap := s₁.heap.push ob } s') (ho : sl.isOwn = true)
    (hi : ∀ C ow', (∀ its, ¬ (s₁.heap.push ob).IsList C its) → (∀ its, ¬ IsTup (s₁.heap.push ob) C its) → (∃ o, s'.heap.get? C = some o) → (C = env.locals ∨ ∃ y, env.cells.lookup y = some C) → Heap.ExtBut C (s₁.heap.push ob) s'.heap → ow' i = some s₁.heap.objs.size → VarIs env s'.heap x (.ref s₁.heap.objs.size) → SlotS w (FRof (env :: fr₀)) ow' env s'.heap i x sl) :
    Fs w fr₀ s₀ vs env (σ.set i sl) s' := by
  obtain ⟨ow, S⟩ := f.slots
  obtain ⟨C, hx', nt, nl, hC, hk⟩ := t.else_
  have hnew : s₀.heap.get? C = none := stored_new b hk
  have pu : ∀ b o, s₁.heap.get? b = some o → (s₁.heap.push ob).get? b = some o := fun b o e => Heap.get?_push_of_some _ e
  have x1 : Heap.ExtBut C s₁.heap s'.heap := fun b o hb e => hx' b o hb (pu b o e)
  have nt1 : ∀ its, ¬ IsTup s₁.heap C its := fun its ⟨o, ho, r⟩ => nt its ⟨o, pu _ o ho, r⟩
  have nl1 : ∀ its, ¬ s₁.heap.IsList C its := fun its ⟨o, ho, r⟩ => nl its ⟨o, pu _ o ho, r⟩
  have fresh : s₁.heap.get? s₁.heap.objs.size = none := Heap.get?_none_of_le (Nat.le_refl _)
  refine ⟨⟨f.st.keep.extNew x1 hnew, t.gens.trans f.st.gens, t.os.trans f.st.os⟩, t.ns, t.cell, by rw [List.length_set]; exact f.len, fun j => if j = i then some s₁.heap.objs.size else ow j, ?_⟩
  refine S.ext (f.lt hx) x1 hC nt1 (fun its _ hl => (nl1 its hl).elim) (fun _ its => nl1 its) (fun kvs hd hf => (dict_ne b f.cell hk hd hf rfl).elim)
    (fun j y u hy q hu => t.other y u (get_nodup b.nodup hx hy q) (hu.keep (Keep.push (FR := []) (X := No) _ _) (fun z => z) fun _ _ z => z)) _ (fun j q => by simp [q]) (fun a e => ?_) (fun a o hao _ => ?_) fun y hy => ?_
  · simp at e
    subst e
    refine ⟨f.st.keep.none fresh, fun j q e => ?_, ho⟩
    obtain ⟨o, e'⟩ := S.there f.len e
    rw [fresh] at e'; cases e'
  · simp only [if_true]
    intro e
    cases e
    rw [fresh] at hao; cases hao
  · have : y = x := by rw [hx] at hy; cases hy; rfl
    subst this
    exact hi C _ nl nt hC hk hx' (by simp) t.is

theorem Fs.setOwn {i : Nat} {x : Str} {vals : List Value} {ds : List V} (b : Bd sc vs env s₀) (f : Fs w fr₀ s₀ vs env σ s₁) (hx : vs[i]? = some x) (r : RepL No s₁.heap vals ds)
    (t : Stored env x (.ref s₁.heap.objs.size) { s₁ with heap := s₁.heap.push { cls := .type "list", data := .seq vals.toArray } } s') : Fs w fr₀ s₀ vs env (σ.set i (.own ds)) s' := by
  refine f.setNew b hx rfl t rfl fun C ow' nl nt hC hk x' how hv => ?_
  have hl : PlainL (s₁.heap.push { cls := .type "list", data := .seq vals.toArray }) s₁.heap.objs.size vals.toArray := ⟨_, 0, Heap.get?_push_size _ rfl, rfl, rfl, rfl⟩
  exact ⟨_, vals, how, hv, hl.extBut x' (fun e => nl _ (e ▸ hl.isList)), (r.step (FR := []) (Keep.push ..)).ext x' nt fun _ z => z.elim⟩

theorem Fs.setDictNew {i : Nat} {x : Str} (b : Bd sc vs env s₀) (f : Fs w fr₀ s₀ vs env σ s₁) (hx : vs[i]? = some x) (hm : (s₁.heap.objs.size == sysModules) = false)
    (t : Stored env x (.ref s₁.heap.objs.size) { s₁ with heap := s₁.heap.push { cls := .type "dict", data := .dict #[] } } s') (hfr : s₁.heap.objs.size ∉ FRof (env :: fr₀)) : Fs w fr₀ s₀ vs env (σ.set i (.dict [])) s' := by
  refine f.setNew b hx rfl t rfl fun C ow' nl nt hC hk x' how hv => ?_
  have hd : DictIs w (s₁.heap.push { cls := .type "dict", data := .dict #[] }) s₁.heap.objs.size [] := ⟨hm, [], Heap.DictOfH.new _, .nil⟩
  have hc : ∀ x c, env.cells.lookup x = some c → ∃ ov, (s₁.heap.push { cls := .type "dict", data := .dict #[] }).IsCell c ov := fun x c e => let ⟨ov, o, ho, hd⟩ := f.cell x c e; ⟨ov, o, Heap.get?_push_of_some _ ho, hd⟩
  exact ⟨_, how, hv, hfr, ext_dict x' hC nt (dict_ne (s := { s₁ with heap := s₁.heap.push { cls := .type "dict", data := .dict #[] } }) b hc hk hd hfr) hfr hd⟩

/-- a live list: where it lies, and that it may turn -/
theorem Fs.live {i : Nat} {x : Str} {l : List V} (b : Bd sc vs env s₀) (f : Fs w fr₀ s₀ vs env σ s) (hx : vs[i]? = some x) (hs : σ[i]? = some (.own l)) :
    ∃ a its, VarIs env s.heap x (.ref a) ∧ PlainL s.heap a (List.toArray its) ∧ RepL No s.heap its l ∧
      ∀ (s' : Shared) its' l', PlainL s'.heap a (List.toArray its') → Heap.ExtBut a s.heap s'.heap → RepL No s.heap its' l' → s'.gens = s.gens → s'.os = s.os → Fs w fr₀ s₀ vs env (σ.set i (.own l')) s' := by
  obtain ⟨ow, S⟩ := f.slots
  obtain ⟨a, its, ha, hv, hl, hr⟩ := S.slot i x _ hx hs
  refine ⟨a, its, hv, hl, hr, fun s' its' l' hl' x' hr' hg ho => ?_⟩
  have hnew := S.new i a ha
  have hp := hl
  have hl := hp.isList
  have nt := list_noTup hl
  obtain ⟨m, hn⟩ := f.ns
  have nL : env.locals ≠ a := fun e => ns_noList hn (e ▸ hl)
  have nC : ∀ y c, env.cells.lookup y = some c → c ≠ a := fun y c e q => by obtain ⟨ov, h⟩ := f.cell y c e; exact cell_noList h _ (q ▸ hl)
  have mv : ∀ {y : Str} {u : Value}, VarIs env s.heap y u → VarIs env s'.heap y u := by
    intro y u h
    cases h with
    | loc p q r => exact .loc p (q.extBut x' nL) r
    | cell p q r => exact .cell p q (let ⟨o, ho, hd⟩ := r; ⟨o, x' _ o (nC y _ q) ho, hd⟩)
  refine ⟨⟨f.st.keep.extNew x' hnew, hg.trans f.st.gens, ho.trans f.st.os⟩, ⟨m, hn.extBut x' nL⟩, fun y c e => ?_, by rw [List.length_set]; exact f.len, ow, ?_⟩
  · obtain ⟨ov, o, ho, hd⟩ := f.cell y c e
    exact ⟨ov, o, x' _ o (nC y c e) ho, hd⟩
  · refine S.ext (f.lt hx) x' (let ⟨o, _, e, _⟩ := hl'; ⟨o, e⟩) nt (fun _ j _ hj => S.inj _ _ _ hj ha) (fun p => (p i ha).elim) (fun kvs hd _ => ?_) (fun j y u _ _ hu => mv hu) ow (fun _ _ => rfl) (fun a' e => ?_) (fun a' o _ p => p i) fun y hy => ?_
    · exfalso
      obtain ⟨_, xs, ⟨o', es, ep, ho', _, hdat, _⟩, _⟩ := hd
      obtain ⟨o, ho, _, n, hdd⟩ := hl
      cases data_inj ho hdd ho' hdat
    · rw [ha] at e; cases e
      exact ⟨hnew, fun j q e => q (S.inj _ _ _ e ha), rfl⟩
    · have : y = x := by rw [hx] at hy; cases hy; rfl
      subst this
      exact ⟨a, its', ha, mv hv, hl', hr'.ext x' nt fun _ z => z.elim⟩

/-- a live list is live no more -/
theorem Fs.freeze {i : Nat} {x : Str} {l : List V} (f : Fs w fr₀ s₀ vs env σ s) (hx : vs[i]? = some x) (hs : σ[i]? = some (.own l)) :
    ∃ a its, VarIs env s.heap x (.ref a) ∧ PlainL s.heap a (List.toArray its) ∧ RepL No s.heap its l ∧ Fs w fr₀ s₀ vs env (σ.set i (.val (.list l))) s := by
  obtain ⟨ow, S⟩ := f.slots
  obtain ⟨a, its, ha, hv, hl, hr⟩ := S.slot i x _ hx hs
  have hlt := f.lt hx
  refine ⟨a, its, hv, hl, hr, f.st, f.ns, f.cell, by rw [List.length_set]; exact f.len, fun j => if j = i then none else ow j, fun j c e => ?_, fun j l c e1 e2 => ?_, fun j c e => ?_, fun j y sl hy hsl => ?_⟩
  · by_cases q : j = i
    · simp [q] at e
    · simp [q] at e; exact S.new j c e
  · by_cases q : j = i
    · simp [q] at e1
    · by_cases p : l = i
      · simp [p] at e2
      · simp [q] at e1; simp [p] at e2; exact S.inj _ _ _ e1 e2
  · by_cases q : j = i
    · simp [q] at e
    · simp [q] at e
      rw [List.getElem?_set_ne (Ne.symm q)]
      exact S.dom j c e
  · have pw : ∀ a', Pw ow a' → ∀ j, (fun j => if j = i then none else ow j) j ≠ some a' := fun a' p j => by
      by_cases q : j = i
      · simp [q]
      · simp only [q, if_false]; exact p j
    by_cases q : j = i
    · subst q
      rw [List.getElem?_set_self hlt] at hsl
      cases hsl
      have : y = x := by rw [hx] at hy; cases hy; rfl
      subst this
      refine ⟨by simp, _, hv, .list (fun l => ?_) hl.isList (hr.mono fun _ _ _ z => z.elim)⟩
      by_cases p : l = j
      · simp [p]
      · simp only [p, if_false]; exact fun e => p (S.inj _ _ _ e ha)
    · rw [List.getElem?_set_ne (Ne.symm q)] at hsl
      have := S.slot j y sl hy hsl
      cases sl with
      | unb => show (if j = i then none else ow j) = none; simp only [q, if_false]; exact this
      | val V => obtain ⟨n, v, h1, r⟩ := this; exact ⟨by simp only [q, if_false]; exact n, v, h1, r.mono fun a' _ _ p => pw a' p⟩
      | own l => obtain ⟨a', its, n, r⟩ := this; exact ⟨a', its, by simp only [q, if_false]; exact n, r⟩
      | dict kvs => obtain ⟨d, n, r⟩ := this; exact ⟨d, by simp only [q, if_false]; exact n, r⟩
end
end Mine
end

/-! text M24 -/
section
set_option bootstrap.genMatcherCode false
set_option maxRecDepth 100000
open PySem PySem.Calls PyProof.Rows PySem.W
namespace Mine


open Classical in
noncomputable def bare (h : Heap) (X : Addr → Prop) : Heap := { h with objs := h.objs.mapIdx fun i o => if X i then { cls := .none, data := .freed } else o }
open Classical in
theorem bare_get (h : Heap) (X : Addr → Prop) (b : Addr) : (bare h X).get? b = if X b then none else h.get? b := by
  unfold bare Heap.get?
  simp only [Array.getElem?_mapIdx]
  by_cases q : X b
  · rw [if_pos q]
    cases h.objs[b]? with
    | none => rfl
    | some o => simp [q]
  · rw [if_neg q]
    cases h.objs[b]? with
    | none => rfl
    | some o => simp [q]
theorem bare_no {h : Heap} {X : Addr → Prop} {b : Addr} (q : X b) : (bare h X).get? b = none := by rw [bare_get, if_pos q]
theorem bare_of {h : Heap} {X : Addr → Prop} {b : Addr} (q : ¬ X b) : (bare h X).get? b = h.get? b := by rw [bare_get, if_neg q]
theorem bare_some {h : Heap} {X : Addr → Prop} {b : Addr} {o : Obj} (e : (bare h X).get? b = some o) : h.get? b = some o := by
  by_cases q : X b
  · rw [bare_no q] at e; cases e
  · rw [bare_of q] at e; exact e
theorem bare_ns {h : Heap} {X : Addr → Prop} {b : Addr} {m : Str → Option Value} (q : ¬ X b) (n : h.Ns b m) : (bare h X).Ns b m := by
  obtain ⟨o, es, ep, ho, r⟩ := n
  exact ⟨o, es, ep, (bare_of q).trans ho, r⟩
theorem ns_bare {h : Heap} {X : Addr → Prop} {b : Addr} {m : Str → Option Value} (n : (bare h X).Ns b m) : h.Ns b m := by
  obtain ⟨o, es, ep, ho, r⟩ := n
  exact ⟨o, es, ep, bare_some ho, r⟩
section
variable {w : World} {G : Heap} {A : Around} {Z : Value → Shared → Prop} {s s₀ s₁ s' : Shared} {fr₀ : List PySem.Env} {sc : Scope} {vs : List Str} {env : PySem.Env} {σ : Env} {k : Nat} {mg : Str → Option Value}

theorem Fs.liveDict {i : Nat} {x : Str} {kvs : List ((Int × Int) × Int)} (b : Bd sc vs env s₀) (f : Fs w fr₀ s₀ vs env σ s) (hx : vs[i]? = some x) (hs : σ[i]? = some (.dict kvs)) :
    ∃ d, VarIs env s.heap x (.ref d) ∧ DictIs w s.heap d kvs ∧ d ∉ FRof (env :: fr₀) ∧
      ∀ (s' : Shared) kvs', DictIs w s'.heap d kvs' → Heap.ExtBut d s.heap s'.heap → s'.gens = s.gens → s'.os = s.os → Fs w fr₀ s₀ vs env (σ.set i (.dict kvs')) s' := by
  obtain ⟨ow, S⟩ := f.slots
  obtain ⟨d, hd, hv, hf, hdi⟩ := S.slot i x _ hx hs
  refine ⟨d, hv, hdi, hf, fun s' kvs' hd' x' hg ho => ?_⟩
  have hnew := S.new i d hd
  have dat : ∃ o es ep, s.heap.get? d = some o ∧ o.data = .dict es ep := let ⟨_, xs, ⟨o, es, ep, h1, _, h2, _⟩, _⟩ := hdi; ⟨o, es, ep, h1, h2⟩
  obtain ⟨od, es, ep, hod, hdd⟩ := dat
  have nt : ∀ its, ¬ IsTup s.heap d its := by
    rintro its ⟨o, ho, _, n, hd⟩
    cases data_inj hod hdd ho hd
  have nl : ∀ its, ¬ s.heap.IsList d its := by
    rintro its ⟨o, ho, _, n, hd⟩
    cases data_inj hod hdd ho hd
  obtain ⟨m, hn⟩ := f.ns
  have nL : env.locals ≠ d := fun e => hf (e ▸ frame_mem b)
  have nC : ∀ y c, env.cells.lookup y = some c → c ≠ d := fun y c e q => by
    obtain ⟨ov, o, ho, hc⟩ := f.cell y c e
    rw [q, hod] at ho; cases ho; rw [hdd] at hc; cases hc
  have mv : ∀ {y : Str} {u : Value}, VarIs env s.heap y u → VarIs env s'.heap y u := by
    intro y u h
    cases h with
    | loc p q r => exact .loc p (q.extBut x' nL) r
    | cell p q r => exact .cell p q (let ⟨o, ho, hd⟩ := r; ⟨o, x' _ o (nC y _ q) ho, hd⟩)
  refine ⟨⟨f.st.keep.extNew x' hnew, hg.trans f.st.gens, ho.trans f.st.os⟩, ⟨m, hn.extBut x' nL⟩, fun y c e => ?_, by rw [List.length_set]; exact f.len, ow, ?_⟩
  · obtain ⟨ov, o, ho, hd⟩ := f.cell y c e
    exact ⟨ov, o, x' _ o (nC y c e) ho, hd⟩
  · refine S.ext (f.lt hx) x' (let ⟨_, xs, ⟨o, _, _, e, _⟩, _⟩ := hd'; ⟨o, e⟩) nt (fun its _ hl => (nl its hl).elim) (fun _ its => nl its) (fun _ _ _ j hj => S.inj _ _ _ hj hd) (fun j y u _ _ hu => mv hu) ow (fun _ _ => rfl) (fun a' e => ?_) (fun a' o _ p => p i) fun y hy => ?_
    · rw [hd] at e; cases e
      exact ⟨hnew, fun j q e => q (S.inj _ _ _ e hd), rfl⟩
    · have : y = x := by rw [hx] at hy; cases hy; rfl
      subst this
      exact ⟨d, hd, mv hv, hf, hd'⟩

/-- a fault in a body -/
structure InFly (mg : Str → Option Value) (G : Heap) (env : PySem.Env) (fr₀ : List PySem.Env) (s₀ : Shared) (x : Exc) (v : Value) (s' : Shared) : Prop where
  is : ∃ e C dd fl, v = .ref e ∧ mg (excName x) = some (.ref C) ∧ Flt G (env :: fr₀) e (.ref C) dd fl s'.heap ∧ (fl = none ∨ fl = some .none ∨ fl = some (rawInt env.locals)) ∧ AtD s'.heap dd x
  names : ∀ L ∈ FRof fr₀, ∀ m, s₀.heap.Ns L m → s'.heap.Ns L m
  gens : s'.gens = s₀.gens
  os : s'.os = s₀.os

theorem Fly.inFly {x : Exc} {v : Value} (f : Fs w fr₀ s₀ vs env σ s) (y : Fly mg G (env :: fr₀) s x v s') : InFly mg G env fr₀ s₀ x v s' := by
  obtain ⟨e, C, dd, h1, h2, h3, h4⟩ := y.is
  refine ⟨⟨e, C, dd, _, h1, h2, h3, .inr (.inl rfl), h4⟩, fun L hL m hm => y.names L ?_ m (f.st.keep.ns hm fun z => z), y.gens.trans f.st.gens, y.os.trans f.st.os⟩
  unfold FRof at hL ⊢
  rw [List.filterMap_cons]
  cases env.frame with
  | none => exact hL
  | some a => exact .tail _ hL

theorem Slots.step {h₀ : Heap} {ow : Nat → Option Addr} (S : Slots w h₀ (FRof (env :: fr₀)) vs env σ ow s.heap) (t : St (env :: fr₀) s s') : Slots w h₀ (FRof (env :: fr₀)) vs env σ ow s'.heap := by
  have K := t.keep
  refine ⟨S.new, S.inj, S.dom, fun i x sl hx hsl => ?_⟩
  have := S.slot i x sl hx hsl
  have mv : ∀ {v : Value}, VarIs env s.heap x v → VarIs env s'.heap x v := fun h => h.keep K (fun z => z) fun _ _ z => z
  cases sl with
  | unb => exact this
  | val V => obtain ⟨n, v, a, r⟩ := this; exact ⟨n, v, mv a, r.step K⟩
  | own l => obtain ⟨a, its, n, h1, h2, h3⟩ := this; exact ⟨a, its, n, mv h1, K.plainL h2 fun z => z, h3.step K⟩
  | dict kvs => obtain ⟨d, n, h1, h2, h3⟩ := this; exact ⟨d, n, mv h1, h2, h3.keep K (fun _ z => z.elim) (fun z => z) h2⟩

/-- what a body may turn -/
noncomputable def Turns (env : PySem.Env) (ow : Nat → Option Addr) (a : Addr) : Prop := a = env.locals ∨ (∃ x, env.cells.lookup x = some a) ∨ ∃ i, ow i = some a

theorem turns_list {ow : Nat → Option Addr} {a : Addr} {its : Array Value} (f : Fs w fr₀ s₀ vs env σ s) (p : Pw ow a) (hl : s.heap.IsList a its) : ¬ Turns env ow a := by
  rintro (rfl | ⟨x, e⟩ | ⟨i, e⟩)
  · obtain ⟨m, hm⟩ := f.ns; exact ns_noList hm hl
  · obtain ⟨ov, hv⟩ := f.cell x _ e; exact cell_noList hv _ hl
  · exact p i e
theorem turns_tup {ow : Nat → Option Addr} {a : Addr} {its : Array Value} (b : Bd sc vs env s₀) (f : Fs w fr₀ s₀ vs env σ s) (S : Slots w s₀.heap (FRof (env :: fr₀)) vs env σ ow s.heap) (hl : IsTup s.heap a its) : ¬ Turns env ow a := by
  rintro (rfl | ⟨x, e⟩ | ⟨i, e⟩)
  · obtain ⟨m, hm⟩ := f.ns; exact ns_noTup hm _ its rfl hl
  · obtain ⟨ov, hv⟩ := f.cell x _ e; exact cell_noTup hv _ hl
  · obtain ⟨sl, hs, ho⟩ := S.dom i a e
    have hi : i < vs.length := f.len ▸ (List.getElem?_eq_some_iff.mp hs).1
    have := S.slot i vs[i] sl (by simp [hi]) hs
    cases sl with
    | unb => cases ho
    | val V => cases ho
    | own l =>
      obtain ⟨a', its', n, _, h2, _⟩ := this
      rw [e] at n; cases n
      exact list_noTup h2.isList _ hl
    | dict kvs =>
      obtain ⟨d, n, _, _, ⟨_, xs, ⟨o, es, ep, h3, _, hd, _⟩, _⟩⟩ := this
      rw [e] at n; cases n
      obtain ⟨o', ho', _, n', hd'⟩ := hl
      cases data_inj h3 hd ho' hd'
theorem turns_fields {ow : Nat → Option Addr} {a : Addr} {o : Obj} {xs : Array Value} (f : Fs w fr₀ s₀ vs env σ s) (S : Slots w s₀.heap (FRof (env :: fr₀)) vs env σ ow s.heap) (ha : s.heap.get? a = some o) (hd : o.data = .fields xs) : ¬ Turns env ow a := by
  rintro (rfl | ⟨x, e⟩ | ⟨i, e⟩)
  · obtain ⟨m, o', es, ep, ho', hd', _⟩ := f.ns
    cases data_inj ha hd ho' hd'
  · obtain ⟨ov, o', ho', hd'⟩ := f.cell x _ e
    cases data_inj ha hd ho' hd'
  · obtain ⟨sl, hs, ho⟩ := S.dom i a e
    have hi : i < vs.length := f.len ▸ (List.getElem?_eq_some_iff.mp hs).1
    have := S.slot i vs[i] sl (by simp [hi]) hs
    cases sl with
    | unb => cases ho
    | val V => cases ho
    | own l =>
      obtain ⟨a', its', n, _, ⟨o', n', ho', _, _, hd'⟩, _⟩ := this
      rw [e] at n; cases n
      cases data_inj ha hd ho' hd'
    | dict kvs =>
      obtain ⟨d, n, _, _, ⟨_, xs, ⟨o', es, ep, h3, _, hd', _⟩, _⟩⟩ := this
      rw [e] at n; cases n
      cases data_inj ha hd h3 hd'

/-- the base of a loop: the heap but for what the body may turn -/
theorem Fs.base {ow : Nat → Option Addr} (b : Bd sc vs env s₀) (f : Fs w fr₀ s₀ vs env σ s) (S : Slots w s₀.heap (FRof (env :: fr₀)) vs env σ ow s.heap) (R : Rm0 G fr₀ A k s₀.heap) (Y : Addr → Prop) (hY : ∀ a, Y a → s₀.heap.get? a = none) :
    ∃ s₂ : Shared, Bd sc vs env s₂ ∧ Fs w fr₀ s₂ vs env σ s ∧ Rm0 G fr₀ A k s₂.heap ∧ (∀ a, ¬ Turns env ow a → ¬ Y a → s₂.heap.get? a = s.heap.get? a) ∧ (∀ a, Y a → s₂.heap.get? a = none) ∧ (∀ a o, s₂.heap.get? a = some o → s.heap.get? a = some o) ∧ s₂.gens = s.gens ∧ s₂.os = s.os ∧
      (∀ σ' s', Fs w fr₀ s₂ vs env σ' s' → Fs w fr₀ s₀ vs env σ' s') ∧ (∀ x v s', InFly mg G env fr₀ s₂ x v s' → InFly mg G env fr₀ s₀ x v s') := by
  have old : ∀ a o, s₀.heap.get? a = some o → ¬ (Turns env ow a ∨ Y a) := by
    rintro a o e ((rfl | ⟨x, q⟩ | ⟨i, q⟩) | q)
    · rw [b.newL] at e; cases e
    · rw [b.newC x _ q] at e; cases e
    · rw [S.new i _ q] at e; cases e
    · rw [hY a q] at e; cases e
  have R' := R.step f.st
  have nsB : ∀ L m, s₀.heap.Ns L m → (bare s.heap (fun a => Turns env ow a ∨ Y a)).Ns L m := fun L m hm => by
    have := f.st.keep.ns hm fun z => z
    obtain ⟨o, _, _, e, _⟩ := hm
    exact bare_ns (old _ _ e) this
  have back : ∀ s', St fr₀ { s with heap := bare s.heap (fun a => Turns env ow a ∨ Y a) } s' → St fr₀ s₀ s' := fun s' t => by
    refine ⟨⟨fun c o e => ?_, fun c o e n hd => ?_, fun c m i n e => t.keep.ns (nsB c m e) n⟩, t.gens.trans f.st.gens, t.os.trans f.st.os⟩
    · obtain ⟨o', e'⟩ := f.st.keep.there c o e
      exact t.keep.there c o' ((bare_of (old _ _ e)).trans e')
    · exact t.keep.exact c o ((bare_of (old _ _ e)).trans (f.st.keep.exact c o e n hd)) n hd
  refine ⟨{ s with heap := bare s.heap (fun a => Turns env ow a ∨ Y a) }, { b with newL := bare_no (.inl (.inl rfl)), newC := fun x c e => bare_no (.inl (.inr (.inl ⟨x, e⟩))) }, ⟨⟨⟨fun c o e => ⟨o, bare_some e⟩, fun c o e _ _ => bare_some e, fun c m _ _ e => ns_bare e⟩, rfl, rfl⟩, f.ns, f.cell, f.len, ow, ⟨fun i a e => bare_no (.inl (.inr (.inr ⟨i, e⟩))), S.inj, S.dom, S.slot⟩⟩, ?_, fun a q y => bare_of (fun z => z.elim q y), fun a y => bare_no (.inr y), fun a o e => bare_some e, rfl, rfl, fun σ' s' f' => ?_, fun x v s' y => ?_⟩
  · refine ⟨R.gg, R.handled, R.frames, R.depth, R.units, fun c o e => (bare_of (old c o (R.keepG c o e))).trans (R'.keepG c o e), fun e he => ?_⟩
    obtain ⟨hk, L, m, h1, h2, h3⟩ := R.fok e he
    exact ⟨hk, L, m, h1, h2, nsB L m h3⟩
  · obtain ⟨ow', S'⟩ := f'.slots
    refine ⟨back s' f'.st, f'.ns, f'.cell, f'.len, ow', ⟨fun i a e => ?_, S'.inj, S'.dom, S'.slot⟩⟩
    have := S'.new i a e
    cases q : s₀.heap.get? a with
    | none => rfl
    | some o =>
      obtain ⟨o', e'⟩ := f.st.keep.there a o q
      rw [bare_of (old _ _ q), e'] at this; cases this
  · exact ⟨y.is, fun L hL m hm => y.names L hL m (nsB L m hm), y.gens.trans f.st.gens, y.os.trans f.st.os⟩

theorem VarIs.inj {h : Heap} {x : Str} {u v : Value} (a : VarIs env h x u) (b : VarIs env h x v) : u = v := by
  cases a with
  | loc k1 n1 e1 =>
    cases b with
    | loc k2 n2 e2 =>
      obtain ⟨o1, es1, ep1, h1, d1, _, f1⟩ := n1
      obtain ⟨o2, es2, ep2, h2, d2, _, f2⟩ := n2
      cases data_inj h1 d1 h2 d2
      rw [← f1] at e1; rw [← f2] at e2
      rw [e1] at e2; cases e2; rfl
    | cell k2 c2 e2 => rcases k2 with k2 | k2 <;> (rw [k1] at k2; cases k2)
  | cell k1 c1 e1 =>
    cases b with
    | loc k2 n2 e2 => rcases k1 with k1 | k1 <;> (rw [k1] at k2; cases k2)
    | cell k2 c2 e2 =>
      rw [c1] at c2; cases c2
      obtain ⟨o1, h1, d1⟩ := e1
      obtain ⟨o2, h2, d2⟩ := e2
      cases data_inj h1 d1 h2 d2; rfl

theorem ext_dict' {C d : Addr} {h h' : Heap} {kvs : List ((Int × Int) × Int)} (x : Heap.ExtBut C h h') (nt : ∀ its, ¬ IsTup h C its) (hd : d ≠ C) (D : DictIs w h d kvs) : DictIs w h' d kvs := by
  obtain ⟨hs, xs, ⟨o, es, ep, ho, r1, r2, r3, hk, nd⟩, dk⟩ := D
  refine ⟨hs, xs, ⟨o, es, ep, x d o hd ho, r1, r2, r3, fun p hp => ?_, nd⟩, dk⟩
  obtain ⟨o', items, n', ho', hc', hd', hi'⟩ := hk p hp
  exact ⟨o', items, n', x _ o' (fun e => nt items ⟨o', e ▸ ho', hc', n', hd'⟩) ho', hc', hd', hi'⟩

/-- a record turns that the slots do not speak of -/
theorem Fs.other {a : Addr} {o : Obj} {xs : Array Value} (f : Fs w fr₀ s₀ vs env σ s) (ha : s.heap.get? a = some o) (hd : o.data = .fields xs) (hn : s₀.heap.get? a = none) (x' : Heap.ExtBut a s.heap s'.heap) (hg : s'.gens = s.gens) (hos : s'.os = s.os) : Fs w fr₀ s₀ vs env σ s' := by
  obtain ⟨ow, S⟩ := f.slots
  have nt : ∀ its, ¬ IsTup s.heap a its := by
    rintro its ⟨o', ho', _, n, hd'⟩
    cases data_inj ha hd ho' hd'
  have nl : ∀ its, ¬ s.heap.IsList a its := by
    rintro its ⟨o', ho', _, n, hd'⟩
    cases data_inj ha hd ho' hd'
  obtain ⟨m, hm⟩ := f.ns
  have nL : env.locals ≠ a := by
    rintro e
    obtain ⟨o', es, ep, ho', hd', _⟩ := hm
    rw [e, ha] at ho'; cases ho'; rw [hd] at hd'; cases hd'
  have nC : ∀ {y c ov}, env.cells.lookup y = some c → s.heap.IsCell c ov → c ≠ a := by
    rintro y c ov _ ⟨o', ho', hd'⟩ e
    rw [e, ha] at ho'; cases ho'; rw [hd] at hd'; cases hd'
  have mv : ∀ {y : Str} {u : Value}, VarIs env s.heap y u → VarIs env s'.heap y u := by
    intro y u h
    cases h with
    | loc p q r => exact .loc p (q.extBut x' nL) r
    | cell p q r => exact .cell p q (let ne := nC q r; let ⟨o, ho, hd⟩ := r; ⟨o, x' _ o ne ho, hd⟩)
  refine ⟨⟨f.st.keep.extNew x' hn, hg.trans f.st.gens, hos.trans f.st.os⟩, ⟨m, hm.extBut x' nL⟩, fun y c e => ?_, f.len, ow, S.new, S.inj, S.dom, fun i y sl hy hsl => ?_⟩
  · obtain ⟨ov, r⟩ := f.cell y c e
    exact ⟨ov, let ne := nC e r; let ⟨o, ho, hd⟩ := r; ⟨o, x' _ o ne ho, hd⟩⟩
  · have := S.slot i y sl hy hsl
    cases sl with
    | unb => exact this
    | val V => obtain ⟨n, v, h1, r⟩ := this; exact ⟨n, v, mv h1, r.ext x' nt fun its _ => nl its⟩
    | own l => obtain ⟨c, its, n, h1, h2, h3⟩ := this; exact ⟨c, its, n, mv h1, h2.extBut x' (fun e => nl _ (e ▸ h2.isList)), h3.ext x' nt fun _ z => z.elim⟩
    | dict kvs =>
      obtain ⟨d, n, h1, h2, h3⟩ := this
      refine ⟨d, n, mv h1, h2, ext_dict' x' nt (fun e => ?_) h3⟩
      obtain ⟨_, xs', ⟨o', es, ep, ho', _, hd', _⟩, _⟩ := h3
      rw [e, ha] at ho'; cases ho'; rw [hd] at hd'; cases hd'
end
end Mine
end

/-! text M25 -/
section
set_option bootstrap.genMatcherCode false
set_option maxRecDepth 100000
open PySem PySem.Calls PyProof.Rows PySem.W
namespace Mine

section
variable (w : World) (mg mb : Str → Option Value)

/-- the setting of a body -/
structure SCtx (k : Nat) (G : Heap) (fr₀ : List PySem.Env) (s₀ : Shared) (A : Around) (sc : Scope) (vs : List Str) (env : PySem.Env) : Prop where
  d : Gd mg mb G
  R : Rm0 G fr₀ A (k + 1) s₀.heap
  b : Bd sc vs env s₀

inductive FlowIs (h : Heap) : PySem.Flow → Flow → Prop
  | next : FlowIs h .next .next
  | ret {v : Value} {d : V} : Rep Tr h v d → FlowIs h (.ret v) (.ret d)

noncomputable def PS (fr₀ : List PySem.Env) (s₀ : Shared) (vs : List Str) (env : PySem.Env) (r : R (Env × Flow)) : PySem.Flow → Shared → Prop :=
  fun f s' => ∃ σ' fl, r = .ok (σ', fl) ∧ Fs w fr₀ s₀ vs env σ' s' ∧ FlowIs s'.heap f fl
noncomputable def PXS {α : Type} (mg : Str → Option Value) (G : Heap) (env : PySem.Env) (fr₀ : List PySem.Env) (s₀ : Shared) (r : R α) : Value → Shared → Prop := fun v s' => ∃ x, r = .exc x ∧ InFly mg G env fr₀ s₀ x v s'

noncomputable def SimS (k : Nat) : Prop := ∀ {G fr₀ s₀ A sc vs env σ s st pst}, SCtx mg mb k G fr₀ s₀ A sc vs env → Fs w fr₀ s₀ vs env σ s → CpS sc vs st pst → exS FT k σ st ≠ .stuck →
  wpAny (model PR w) (A.deeper env) (exec pst env) (PS w fr₀ s₀ vs env (exS FT k σ st)) (PXS mg G env fr₀ s₀ (exS FT k σ st)) s
noncomputable def SimSs (k : Nat) : Prop := ∀ {G fr₀ s₀ A sc vs env σ s st pst}, SCtx mg mb k G fr₀ s₀ A sc vs env → Fs w fr₀ s₀ vs env σ s → CpSs sc vs st pst → exSs FT k σ st ≠ .stuck →
  wpAny (model PR w) (A.deeper env) (execs pst env) (PS w fr₀ s₀ vs env (exSs FT k σ st)) (PXS mg G env fr₀ s₀ (exSs FT k σ st)) s
end

theorem CpE.swaps {sc : Scope} {vs : List Str} {e : E} {pe : PySem.Expr} (c : CpE sc vs e pe) (h : noComp e = true) (t : Option PySem.Expr) (l : Nat) (env : PySem.Env) : swapsWith pe t l env = pure false := by
  replace c := c.un
  induction c using CpEF.casesOn <;> first | rfl | (cases h; done)

section
variable {w : World} {mg mb : Str → Option Value}
variable {G : Heap} {fr₀ : List PySem.Env} {A A' : Around} {k : Nat} {s s₀ s₁ s' s'' : Shared} {Z : Value → Shared → Prop} {sc : Scope} {σ : Env} {vs : List Str} {env : PySem.Env}

theorem SCtx.pred (c : SCtx mg mb (k + 1) G fr₀ s₀ A sc vs env) : SCtx mg mb k G fr₀ s₀ A sc vs env := ⟨c.d, c.R.less (Nat.le_succ _), c.b⟩
theorem SCtx.stg (c : SCtx mg mb k G fr₀ s₀ A sc vs env) (f : Fs w fr₀ s₀ vs env σ s) : Stg w mg mb k G (env :: fr₀) (A.deeper env) sc σ vs env s.heap := ⟨c.d, f.rm c.b c.R, f.envOk c.b⟩

theorem bndS {α β γ : Type} {m : Sem α} {r : R γ} {r1 : R β} {f : β → R γ} {P1 : β → α → Shared → Prop} {Q : α → Shared → Prop}
    (he : r = r1.bind f) (hr : r ≠ .stuck) (fs : Fs w fr₀ s₀ vs env σ s) (h1 : r1 ≠ .stuck → wpAny (model PR w) A' m (fun v s' => ∃ b, r1 = .ok b ∧ P1 b v s') (PX mg G (env :: fr₀) s r1) s)
    (k : ∀ b v s', r1 = .ok b → P1 b v s' → r = f b → Q v s') :
    wpAny (model PR w) A' m Q (PXS mg G env fr₀ s₀ r) s := by
  subst he
  refine wpAny_mono (h1 (R.ne_bind hr)) (fun v s' h => ?_) fun v s' h => ?_
  · obtain ⟨b, e, p⟩ := h
    exact k b v s' e p (by rw [e]; rfl)
  · obtain ⟨x, e, p⟩ := h
    exact ⟨x, by rw [e]; rfl, p.inFly fs⟩
/-- a test, bound -/
theorem bndST {β : Type} {m : Sem Bool} {r : R β} {r1 : R Bool} {f : Bool → R β} {Q : Bool → Shared → Prop} (he : r = r1.bind f) (hr : r ≠ .stuck) (fs : Fs w fr₀ s₀ vs env σ s)
    (h1 : r1 ≠ .stuck → wpAny (model PR w) A' m (PT (env :: fr₀) s r1) (PX mg G (env :: fr₀) s r1) s) (k : ∀ b s', St (env :: fr₀) s s' → r = f b → Q b s') : wpAny (model PR w) A' m Q (PXS mg G env fr₀ s₀ r) s :=
  bndS (P1 := fun d v s' => v = d ∧ St (env :: fr₀) s s') he hr fs (fun h => wpAny_mono (h1 h) (fun v s' x => ⟨v, x.1, rfl, x.2⟩) fun _ _ y => y) fun d v s₁ _ g₁ h₁ => g₁.1 ▸ k d s₁ g₁.2 h₁
/-- statements behind a statement -/
theorem mono_ss {m : Sem PySem.Flow} {r r' : R (Env × Flow)} (he : r = r') (hr : r ≠ .stuck) (h : r' ≠ .stuck → wpAny (model PR w) A' m (PS w fr₀ s₀ vs env r') (PXS mg G env fr₀ s₀ r') s) :
    wpAny (model PR w) A' m (PS w fr₀ s₀ vs env r) (PXS mg G env fr₀ s₀ r) s := by
  subst he
  exact h hr

theorem nameX {x : Str} {i : Nat} (hx : vs[i]? = some x) : x ∈ vs := List.mem_of_getElem? hx

theorem Fs.storeV {i : Nat} {x : Str} {v : Value} {d : V} {Q : Unit → Shared → Prop} (b : Bd sc vs env s₀) (f : Fs w fr₀ s₀ vs env σ s) (hx : vs[i]? = some x) (r : Rep Tr s.heap v d) (hv : (d.flat 8 || noOwn σ) = true)
    (h : ∀ s', Fs w fr₀ s₀ vs env (σ.set i (.val d)) s' → Stored env x v s s' → Q () s') : wpAny (model PR w) A' (storeName env x v) Q Z s :=
  store_name b (nameX hx) f.ns f.cell fun s' t => h s' (f.setVal b hx t r hv) t

theorem noOwn_set {i : Nat} {d : V} (h : noOwn σ = true) : noOwn (σ.set i (.val d)) = true := by
  unfold noOwn at h ⊢
  simp only [Bool.not_eq_true', List.any_eq_false] at h ⊢
  intro sl hm
  rcases List.mem_or_eq_of_mem_set hm with hm | rfl
  · exact h sl hm
  · exact Bool.false_ne_true

/-- records stay -/
noncomputable def KeepF (h h' : Heap) : Prop := ∀ a o xs, h.get? a = some o → o.data = .fields xs → h'.get? a = some o
theorem stored_keepF {x : Str} {v : Value} (f : Fs w fr₀ s₀ vs env σ s) (t : Stored env x v s s') : KeepF s.heap s'.heap := by
  intro a o xs ho hd
  obtain ⟨C, x', _, _, _, hk⟩ := t.else_
  refine x' a o (fun q => ?_) ho
  subst q
  rcases hk with rfl | ⟨y, e⟩
  · obtain ⟨m, o', es, ep, ho', hd', _⟩ := f.ns
    cases data_inj ho hd ho' hd'
  · obtain ⟨ov, o', ho', hd'⟩ := f.cell y _ e
    cases data_inj ho hd ho' hd'

/-- many names -/
theorem assign_names {is : List Nat} {pns : List PySem.Expr} (b : Bd sc vs env s₀) (cn : CpNames vs is pns) : ∀ {σ : Env} {s : Shared} {vals : List Value} {ds : List V} {Q : Unit → Shared → Prop}, Fs w fr₀ s₀ vs env σ s → RepL Tr s.heap vals ds → ds.length = is.length → (ds.all (V.flat 8) || noOwn σ) = true →
    (∀ s', Fs w fr₀ s₀ vs env (setVals σ is ds) s' → KeepF s.heap s'.heap → Q () s') → wpAny (model PR w) A' (assignInOrder ((assignEach pns env).map (·.2)) vals) Q Z s := by
  induction cn with
  | nil =>
    intro σ s vals ds Q f r hl hv h
    cases ds with
    | nil => exact assignInOrder_nil (h s f fun _ _ _ e _ => e)
    | cons d ds => simp at hl
  | cons hx cn ih =>
    intro σ s vals ds Q f r hl hv h
    cases ds with
    | nil => cases hl
    | cons d1 ds =>
      obtain ⟨v1, vals, rfl, r1, r⟩ := r.un
      refine assignInOrder_cons (wpAny_assign_Name ?_)
      have hv1 : (d1.flat 8 || noOwn σ) = true := by
        rcases (Bool.or_eq_true _ _).mp hv with h | h
        · simp only [List.all_cons, Bool.and_eq_true] at h; simp [h.1]
        · simp [h]
      refine f.storeV b hx r1 hv1 fun s' f' t => ?_
      obtain ⟨C, x', nt, nl, _⟩ := t.else_
      refine ih f' (r.ext x' nt fun its _ => nl its) (by simpa using hl) ?_ fun s'' f'' kf => h s'' f'' fun a o xs e hd => kf a o xs (stored_keepF f t a o xs e hd) hd
      rcases (Bool.or_eq_true _ _).mp hv with h | h
      · simp only [List.all_cons, Bool.and_eq_true] at h; simp [h.2]
      · simp [noOwn_set h]
theorem names_star {is : List Nat} {pns : List PySem.Expr} (cn : CpNames vs is pns) : (assignEach pns env).length = is.length ∧ (assignEach pns env).findIdx? (·.1) = none := by
  induction cn with
  | nil => exact ⟨rfl, rfl⟩
  | cons _ _ ih =>
    refine ⟨by show _ + 1 = _; rw [ih.1]; rfl, ?_⟩
    show List.findIdx? _ (_ :: _) = none
    rw [List.findIdx?_cons]
    simp [ih.2]

theorem bindTgt_many {is : List Nat} {d : V} {σ' : Env} (hb : bindTgt σ (.many is) d = some σ') : ∃ ds, d = .tuple ds ∧ (ds.length == is.length && (ds.all (V.flat 8) || noOwn σ)) = true ∧ σ' = setVals σ is ds := by
  cases d <;> first | (cases hb; done) | skip
  obtain ⟨c, e⟩ := ite_some2 hb
  exact ⟨_, rfl, c, (Option.some.inj e).symm⟩
theorem bind_tup {is : List Nat} {pns : List PySem.Expr} {kk : Nat} {p : Pos} {v : Value} {d : V} {σ' : Env} {Q : Unit → Shared → Prop} (hh : A'.handled = none) (b : Bd sc vs env s₀) (cn : CpNames vs is pns) (f : Fs w fr₀ s₀ vs env σ s) (r : Rep Tr s.heap v d)
    (hb : bindTgt σ (.many is) d = some σ') (h : ∀ s', Fs w fr₀ s₀ vs env σ' s' → KeepF s.heap s'.heap → Q () s') : wpAny (model PR w) A' (assign (.Tuple pns kk p) env v) Q Z s := by
  obtain ⟨ds, rfl, c, rfl⟩ := bindTgt_many hb
  obtain ⟨c1, c2⟩ := and2 c
  have c1 : ds.length = is.length := beq_iff_eq.mp c1
  obtain ⟨a, vals, rfl, ht, rl⟩ := r.asTup rfl
  obtain ⟨n1, n2⟩ := names_star (env := env) cn
  refine assign_Tuple_tuple hh ht (by rw [n1]; simp [rl.length, c1]) n2 fun h' he => ?_
  have hx : ∀ a o, s.heap.get? a = some o → h'.get? a = some o := fun a o e => he a o (Nat.ne_of_lt (Heap.lt_size e)) e
  have K : St (env :: fr₀) s { s with heap := h' } := St.of_keeps (k := s.toks) hx
  exact assign_names b cn (f.step b K) (rl.step K.keep) c1 c2 fun s'' f'' kf => h s'' f'' fun a o xs e hd => kf a o xs (hx a o e) hd
theorem bind_one {i : Nat} {x : Str} {p : Pos} {v : Value} {d : V} {σ' : Env} {Q : Unit → Shared → Prop} (b : Bd sc vs env s₀) (hx : vs[i]? = some x) (f : Fs w fr₀ s₀ vs env σ s) (r : Rep Tr s.heap v d)
    (hb : bindTgt σ (.one i) d = some σ') (h : ∀ s', Fs w fr₀ s₀ vs env σ' s' → KeepF s.heap s'.heap → Q () s') : wpAny (model PR w) A' (assign (.Name x p) env v) Q Z s := by
  obtain ⟨c, e⟩ := ite_some2 hb
  cases e
  exact wpAny_assign_Name (f.storeV b hx r c fun s' f' t => h s' f' (stored_keepF f t))
end
end Mine
end

/-! text M26 -/
section
set_option bootstrap.genMatcherCode false
set_option maxRecDepth 100000
open PySem PySem.Calls PyProof.Rows PySem.W
namespace Mine
section
variable {w : World} {mg mb : Str → Option Value}
variable {G : Heap} {fr₀ : List PySem.Env} {A A' : Around} {k : Nat} {s s₀ s₁ s' s'' : Shared} {Z : Value → Shared → Prop} {sc : Scope} {σ : Env} {vs : List Str} {env : PySem.Env}

theorem ok_if {α : Type} {c : Prop} [Decidable c] {a : α} (h : (if c then R.ok a else R.stuck) ≠ .stuck) : c := by
  by_cases q : c
  · exact q
  · rw [if_neg q] at h; exact (h rfl).elim
theorem two_of {a : Bool} {c : Prop} [Decidable c] (h : (a && decide c) = true) : a = true ∧ c := ⟨(and2 h).1, of_decide_eq_true (and2 h).2⟩

/-- what an assignment of a value does -/
theorem S_assign {i : Nat} {x : Str} {e : E} {pe : PySem.Expr} {q p : Pos} (HE : SimE w mg mb k) (c : SCtx mg mb (k + 1) G fr₀ s₀ A sc vs env) (f : Fs w fr₀ s₀ vs env σ s)
    (hx : vs[i]? = some x) (hn : noComp e = true) (ce : CpE sc vs e pe) (hr : exS FT (k + 1) σ (.assign i e) ≠ .stuck) :
    wpAny (model PR w) (A.deeper env) (exec (.Assign [.Name x q] pe p) env) (PS w fr₀ s₀ vs env (exS FT (k + 1) σ (.assign i e))) (PXS mg G env fr₀ s₀ (exS FT (k + 1) σ (.assign i e))) s :=
  wpAny_Assign_Name (bndS rfl hr f (fun h => HE (c.stg f).pred ce h) fun d v s₁ _ g₁ h₁ => let ⟨hc, h₁⟩ := R.ite h₁ hr
    (f.step c.b g₁.2).storeV c.b hx g₁.1 hc fun s' f' _ => ⟨_, _, h₁, f', .next⟩) (ce.swaps hn _ _ _)

theorem S_assignOwn {i : Nat} {x : Str} {es : List E} {pes : List PySem.Expr} {r q p : Pos} (HEs : SimEs w mg mb k) (c : SCtx mg mb (k + 1) G fr₀ s₀ A sc vs env) (f : Fs w fr₀ s₀ vs env σ s)
    (hx : vs[i]? = some x) (ce : CpEs sc vs es pes) (hr : exS FT (k + 1) σ (.assignOwn i es) ≠ .stuck) :
    wpAny (model PR w) (A.deeper env) (exec (.Assign [.Name x q] (.List pes r) p) env) (PS w fr₀ s₀ vs env (exS FT (k + 1) σ (.assignOwn i es))) (PXS mg G env fr₀ s₀ (exS FT (k + 1) σ (.assignOwn i es))) s := by
  refine wpAny_Assign_Name (wpAny_List (bndS rfl hr f (fun h => HEs _ (c.stg f).pred ce h) fun ds vals s₁ _ g₁ h₁ => ?_)) rfl
  obtain ⟨hc, h₁⟩ := R.ite h₁ hr
  have f₁ := f.step c.b g₁.2
  obtain ⟨c1, c2⟩ := two_of hc
  refine ⟨by rw [g₁.1.length]; exact Nat.le_trans c2 cap_line, ?_⟩
  have kp : ∀ b o, s₁.heap.get? b = some o → (s₁.heap.push { cls := .type "list", data := .seq vals.toArray }).get? b = some o := fun b o e => Heap.get?_push_of_some _ e
  obtain ⟨m, hm⟩ := f₁.ns
  exact store_name c.b (nameX hx) ⟨m, hm.keeps kp⟩ (fun y c' e => let ⟨ov, o, ho, hd⟩ := f₁.cell y c' e; ⟨ov, o, kp _ _ ho, hd⟩) fun s' t => ⟨_, _, h₁, f₁.setOwn c.b hx (g₁.1.flat c1) t, .next⟩

theorem S_assignDict {i : Nat} {x : Str} {r q p : Pos} (c : SCtx mg mb (k + 1) G fr₀ s₀ A sc vs env) (f : Fs w fr₀ s₀ vs env σ s) (hx : vs[i]? = some x) :
    wpAny (model PR w) (A.deeper env) (exec (.Assign [.Name x q] (.Dict [] [] r) p) env) (PS w fr₀ s₀ vs env (exS FT (k + 1) σ (.assignDict i))) (PXS mg G env fr₀ s₀ (exS FT (k + 1) σ (.assignDict i))) s := by
  have kp : ∀ b o, s.heap.get? b = some o → (s.heap.push { cls := .type "dict", data := .dict #[] }).get? b = some o := fun b o e => Heap.get?_push_of_some _ e
  obtain ⟨m, hm⟩ := f.ns
  have R := f.rm c.b c.R
  have hlow := modules_low R.nolimit
  have hfr : s.heap.objs.size ∉ FRof (env :: fr₀) := fun hm => by
    obtain ⟨e, he, hf⟩ := List.mem_filterMap.mp hm
    obtain ⟨_, L, m, h1, _, h3⟩ := R.fok e he
    exact Nat.lt_irrefl _ (Option.some.inj (hf.symm.trans h1) ▸ h3.lt)
  refine wpAny_Assign_Name (wpAny_Dict_empty ?_) rfl
  exact store_name c.b (nameX hx) ⟨m, hm.keeps kp⟩ (fun y c' e => let ⟨ov, o, ho, hd⟩ := f.cell y c' e; ⟨ov, o, kp _ _ ho, hd⟩) fun s' t => ⟨_, _, rfl, f.setDictNew c.b hx (beq_eq_false_iff_ne.mpr (Nat.ne_of_gt hlow)) t hfr, .next⟩

theorem CpE.noTupS {e : E} {pe : PySem.Expr} (ce : CpE sc vs e pe) {pns : List PySem.Expr} {kk : Nat} {q : Pos} : noTup e = true → swappedStores [.Tuple pns kk q] pe env = pure none := by
  replace ce := ce.un
  induction ce using CpEF.casesOn <;> intro h <;> first | rfl | (cases h; done)

theorem S_assignTup {is : List Nat} {e : E} {pns : List PySem.Expr} {pe : PySem.Expr} {kk : Nat} {q p : Pos} (HE : SimE w mg mb k) (c : SCtx mg mb (k + 1) G fr₀ s₀ A sc vs env) (f : Fs w fr₀ s₀ vs env σ s)
    (cn : CpNames vs is pns) (hn : noComp e = true) (hnt : noTup e = true) (ce : CpE sc vs e pe) (hr : exS FT (k + 1) σ (.assignTup is e) ≠ .stuck) :
    wpAny (model PR w) (A.deeper env) (exec (.Assign [.Tuple pns kk q] pe p) env) (PS w fr₀ s₀ vs env (exS FT (k + 1) σ (.assignTup is e))) (PXS mg G env fr₀ s₀ (exS FT (k + 1) σ (.assignTup is e))) s := by
  have hh : (A.deeper env).handled = none := c.R.handled
  refine PyProof.Rows.Assign_Tuple (bndS rfl hr f (fun h => HE (c.stg f).pred ce h) fun d v s₁ _ g₁ h₁ => ?_) (by simpa only [swapsWithSole] using ce.swaps hn _ _ _) (ce.noTupS hnt)
  obtain ⟨σ', hb, h₁⟩ := R.optB h₁ hr
  exact bind_tup hh c.b cn (f.step c.b g₁.2) g₁.1 hb fun s' f' _ => ⟨_, _, h₁, f', .next⟩

set_option backward.match.sparseCases false in
theorem aug_num {z : V} {r : R (Env × Flow)} {i : Nat} (he : r = match z with | .int _ => R.ok (σ.set i (.val z), Flow.next) | .bytes _ => R.ok (σ.set i (.val z), Flow.next) | _ => .stuck) (hr : r ≠ .stuck) : isNum z = true ∧ z.flat 8 = true ∧ r = .ok (σ.set i (.val z), .next) := by
  cases z <;> first | exact ⟨rfl, rfl, he⟩ | exact (hr he).elim
theorem S_aug {i : Nat} {x : Str} {o : Op} {po : Operator} {e : E} {pe : PySem.Expr} {q p : Pos} (HE : SimE w mg mb k) (c : SCtx mg mb (k + 1) G fr₀ s₀ A sc vs env) (f : Fs w fr₀ s₀ vs env σ s)
    (hx : vs[i]? = some x) (hx2 : (x == ("__classdict__" : Str)) = false) (ho : OpR o po) (ha : o = .add) (ce : CpE sc vs e pe) (hr : exS FT (k + 1) σ (.aug i o e) ≠ .stuck) :
    wpAny (model PR w) (A.deeper env) (exec (.AugAssign (.Name x q) po pe p) env) (PS w fr₀ s₀ vs env (exS FT (k + 1) σ (.aug i o e))) (PXS mg G env fr₀ s₀ (exS FT (k + 1) σ (.aug i o e))) s := by
  obtain ⟨d, hd, h₀⟩ := R.optB rfl hr
  obtain ⟨v, hv, r⟩ := slot_val (f.envOk c.b) hx hd
  refine wpAny_AugAssign_Name (hv.load (by rw [c.b.scope, c.b.kind]) hx2 (bndS h₀ hr f (fun h => HE (c.stg f).pred ce h) fun d2 u s₁ _ g₁ h₁ => ?_))
  obtain ⟨z, hz, h₁⟩ := R.optB h₁ hr
  obtain ⟨n1, n2, h₁⟩ := aug_num h₁ hr
  have f₁ := f.step c.b g₁.2
  refine wpAny_mono (aug_ok (fr := env :: fr₀) ho ha hz n1 (r.step g₁.2.keep) g₁.1) (fun nv s₂ g₂ => ?_) fun _ _ y => y
  exact (f₁.step c.b g₂.2).storeV c.b hx g₂.1 (by rw [n2]; rfl) fun s' f' _ => ⟨_, _, h₁, f', .next⟩

/-- a method of a live list -/
theorem Call_append' {o elt : PySem.Expr} {apos pos : Pos} {Q : Value → Shared → Prop}
    (hbase : attributeBase o "append" env (eval o env) = eval o env) (hstar : starEach [elt] env = [(false, eval elt env)]) (hline : (apos.endLine == pos.line) = true)
    (h : wpAny (model PR w) A' (eval o env) (fun ov s₁ => ∃ D its, ov = .ref D ∧ PlainL s₁.heap D its ∧
      wpAny (model PR w) A' (eval elt env) (fun y s₂ => wpAny (model PR w) A' (call (.builtin "list.append") [.ref D, y]) Q Z s₂) Z s₁) Z s) :
    wpAny (model PR w) A' (eval (.Call (.Attribute o "append" apos) [elt] [] pos) env) Q Z s :=
  wpAny_Call_append hbase (by rw [hstar]; rfl) hline (by rw [hstar]; rfl) h

theorem S_append {i : Nat} {x : Str} {e : E} {pe : PySem.Expr} {q1 q2 q3 p : Pos} (HE : SimE w mg mb k) (c : SCtx mg mb (k + 1) G fr₀ s₀ A sc vs env) (f : Fs w fr₀ s₀ vs env σ s)
    (hx : vs[i]? = some x) (hd : (x == ("__debug__" : Str)) = false) (hcd : (x == ("__classdict__" : Str)) = false) (hl : (q2.endLine == q3.line) = true) (ce : CpE sc vs e pe) (hr : exS FT (k + 1) σ (.append i e) ≠ .stuck) :
    wpAny (model PR w) (A.deeper env) (exec (.Expr (.Call (.Attribute (.Name x q1) "append" q2) [pe] [] q3) p) env) (PS w fr₀ s₀ vs env (exS FT (k + 1) σ (.append i e))) (PXS mg G env fr₀ s₀ (exS FT (k + 1) σ (.append i e))) s := by
  obtain ⟨l, hl', h₀⟩ := R.optB rfl hr
  have hkf : env.scope.kind = .function := by rw [c.b.scope, c.b.kind]
  refine wpAny_Expr (Call_append' rfl (ce.star _ _) hl ?_) (by unfold interactive; rw [hkf]; rfl) rfl
  obtain ⟨a, its, hv, hp, hr0, _⟩ := f.live c.b hx (own_slot hl')
  refine var_load hkf hd hcd hv ⟨a, _, rfl, hp, ?_⟩
  refine bndS h₀ hr f (fun h => HE (c.stg f).pred ce h) fun d v s₁ _ g₁ h₁ => ?_
  obtain ⟨hc, h₁⟩ := R.ite h₁ hr
  have f₁ := f.step c.b g₁.2
  obtain ⟨c1, c2⟩ := two_of hc
  obtain ⟨a', its', hv', hp', hr', turn⟩ := f₁.live c.b hx (own_slot hl')
  obtain rfl : a = a' := Value.ref.inj ((hv.keep g₁.2.keep (fun z => z) fun _ _ z => z).inj hv')
  have hlen := hr'.length
  have cl : cap = 65536 := rfl
  refine list_append_plainL (hsz := by rw [sizeLine_eq]; simp; lia) hp' fun h' hl₂ hs₂ => ?_
  exact ⟨_, _, h₁, turn { s₁ with heap := h' } (its' ++ [v]) (l ++ [d]) (by simpa using hl₂) hs₂.extBut (hr'.append (.cons (g₁.1.flat 8 c1) .nil)) rfl rfl, .next⟩

theorem S_ite {cnd : E} {pc : PySem.Expr} {a b : List S} {pa pb : List Stmt} {p : Pos} (HT : SimT w mg mb k) (HSs : SimSs w mg mb k) (c : SCtx mg mb (k + 1) G fr₀ s₀ A sc vs env) (f : Fs w fr₀ s₀ vs env σ s)
    (cc : CpE sc vs cnd pc) (ca : CpSs sc vs a pa) (cb : CpSs sc vs b pb) (hr : exS FT (k + 1) σ (.ite cnd a b) ≠ .stuck) :
    wpAny (model PR w) (A.deeper env) (exec (.If pc pa pb p) env) (PS w fr₀ s₀ vs env (exS FT (k + 1) σ (.ite cnd a b))) (PXS mg G env fr₀ s₀ (exS FT (k + 1) σ (.ite cnd a b))) s := by
  refine wpAny_If (bndST rfl hr f (fun h => HT (c.stg f).pred cc h) fun t s₁ g₁ h₁ => ?_)
  have f₁ := f.step c.b g₁
  cases t
  · exact mono_ss h₁ hr (HSs c.pred f₁ cb)
  · exact mono_ss h₁ hr (HSs c.pred f₁ ca)

theorem S_ret {e : E} {pe : PySem.Expr} {p : Pos} (HE : SimE w mg mb k) (c : SCtx mg mb (k + 1) G fr₀ s₀ A sc vs env) (f : Fs w fr₀ s₀ vs env σ s)
    (ce : CpE sc vs e pe) (hr : exS FT (k + 1) σ (.ret e) ≠ .stuck) :
    wpAny (model PR w) (A.deeper env) (exec (.Return (some pe) p) env) (PS w fr₀ s₀ vs env (exS FT (k + 1) σ (.ret e))) (PXS mg G env fr₀ s₀ (exS FT (k + 1) σ (.ret e))) s :=
  wpAny_Return_some (bndS rfl hr f (fun h => HE (c.stg f).pred ce h) fun d v s₁ _ g₁ h₁ => ⟨_, _, h₁, f.step c.b g₁.2, .ret g₁.1⟩)

theorem simSs_succ (HS : SimS w mg mb k) (HSs : SimSs w mg mb k) : SimSs w mg mb (k + 1) := by
  intro G fr₀ s₀ A sc vs env σ s st pst c f cp hr
  replace cp := cp.un
  induction cp using CpSsF.casesOn with
  | nil => exact wpAny_execs_nil ⟨_, _, rfl, f, .next⟩
  | stuck => exact (hr (by cases k <;> rfl)).elim
  | cons c1 cs =>
    rename_i st pst ss pss
    refine wpAny_execs_cons (wpAny_mono (HS c.pred f c1 (R.ne_bind hr)) (fun fl s₁ h => ?_) fun v s₁ h => ?_)
    · obtain ⟨σ', fl', e, f₁, hf⟩ := h
      induction hf using FlowIs.casesOn with
      | next => exact mono_ss (R.beq rfl e) hr (HSs c.pred f₁ cs)
      | ret r => exact ⟨_, _, (R.beq (r := exSs FT (k + 1) σ (st :: ss)) rfl e).trans rfl, f₁, .ret r⟩
    · obtain ⟨x, e, y⟩ := h
      exact ⟨x, R.bexc rfl e, y⟩
end
end Mine
end

/-! text M27 -/
section
set_option bootstrap.genMatcherCode false
set_option maxRecDepth 100000
open PySem PySem.Calls PyProof.Rows PySem.W
namespace Mine

/-- an iterator at I that yields the values of l; J tells where it stands, Side what it reads -/
structure Yields (w : World) (A : Around) (I : Addr) (l : List V) (J : Nat → Heap → Prop) (Side : Heap → Prop) : Prop where
  only : ∀ i h h', J i h → h'.get? I = h.get? I → J i h'
  is : ∀ i h, J i h → ∃ o xs, h.get? I = some o ∧ o.data = .fields xs
  side : ∀ FR h h', Side h → Keep FR No h h' → Side h'
  next : ∀ i (s : Shared) (Q : Option Value → Shared → Prop) (Z : Value → Shared → Prop), J i s.heap → Side s.heap → i < l.length →
    (∀ v d h' tk, l[i]? = some d → J (i + 1) h' → Heap.ExtBut I s.heap h' → Rep Tr s.heap v d → Q (some v) { s with heap := h', toks := tk }) → wpAny (model PR w) A (pyNext (.ref I)) Q Z s
  stop : ∀ i (s : Shared) (Q : Option Value → Shared → Prop) (Z : Value → Shared → Prop), J i s.heap → Side s.heap → l.length ≤ i →
    (∀ h' tk, Heap.ExtBut I s.heap h' → Q none { s with heap := h', toks := tk }) → wpAny (model PR w) A (pyNext (.ref I)) Q Z s
  go : ∀ i (s : Shared) (t : PySem.Expr) (v : Value) (Q : Unit → Shared → Prop) (Z : Value → Shared → Prop), J i s.heap → Q () s → wpAny (model PR w) A (letOwnedTupleGo t (.ref I) v) Q Z s

section
variable {w : World} {mg mb : Str → Option Value}
variable {G : Heap} {fr₀ : List PySem.Env} {A A' : Around} {k : Nat} {s s₀ s₁ s' s'' : Shared} {Z : Value → Shared → Prop} {sc : Scope} {σ : Env} {vs : List Str} {env : PySem.Env}

theorem letGo_listiter {target : PySem.Expr} {I l : Addr} {i : Nat} {v : Value} {Q : Unit → Shared → Prop} (hit : s.heap.IsListIter I l i) (hQ : Q () s) : wpAny (model PR w) A' (letOwnedTupleGo target (.ref I) v) Q Z s := by
  obtain ⟨o, ho, hc, hd⟩ := hit
  have go : ∀ T : Addr, wpAny (model PR w) A' (do
      let o ← load I
      match o.cls, o.data with
      | .type n, .fields vs => if ["enumerate", "zip", "dict_itemiterator", "dict_reverseitemiterator", "odict_iterator", "itertools.zip_longest", "itertools.pairwise"].contains n && vs[0]? == some (rawInt T) then do rule "for.unpacks-the-owned-tuple"; updateField I 0 .none
      | _, _ => pure () : Sem Unit) Q Z s := fun T => by
    refine wpAny_bind (wpAny_load ho ?_)
    rw [hc, hd]
    show wpAny _ _ (if (["enumerate", "zip", "dict_itemiterator", "dict_reverseitemiterator", "odict_iterator", "itertools.zip_longest", "itertools.pairwise"].contains "list_iterator" &&
      (#[.ref l, .int i 0] : Array Value)[0]? == some (rawInt T)) = true then _ else _) Q Z s
    rw [if_neg (by
      intro h
      rw [show (["enumerate", "zip", "dict_itemiterator", "dict_reverseitemiterator", "odict_iterator", "itertools.zip_longest", "itertools.pairwise"].contains "list_iterator") = false from by decide, Bool.false_and] at h
      cases h)]
    exact wpAny_pure hQ
  cases target <;> first
    | exact wpAny_pure hQ
    | (cases v <;> first | exact wpAny_pure hQ | exact go _)

theorem Yields.list {I ax : Addr} {vals : List Value} {l : List V} (hh : A'.handled = none) (hne : ax ≠ I) (hlen : vals.length = l.length) :
    Yields w A' I l (fun i h => h.IsListIter I ax i) (fun h => h.IsList ax vals.toArray ∧ RepL Tr h vals l) := by
  refine ⟨fun i h h' ⟨o, ho, r⟩ e => ⟨o, e.trans ho, r⟩, fun i h ⟨o, ho, _, hd⟩ => ⟨o, _, ho, hd⟩, fun FR h h' ⟨h2, h3⟩ k => ⟨k.isList h2 fun z => z, h3.step k⟩, fun i s Q Z h1 ⟨h2, h3⟩ hi hQ => ?_, fun i s Q Z h1 ⟨h2, h3⟩ hi hQ => ?_, fun i s t v Q Z h1 hQ => letGo_listiter h1 hQ⟩
  · obtain ⟨v, hv, r⟩ := h3.get i l[i] (by simp [hi])
    refine wpAny_pyNext_list_item h1 h2 (by simpa using hv) fun h' h1' hs => ?_
    exact hQ v l[i] h' s.toks (by simp [hi]) h1' hs.extBut r
  · exact wpAny_pyNext_list_end hh h1 h2 (by simp; lia) fun h' he => hQ h' s.toks he

theorem rep_field {I : Addr} {oI : Obj} {xs : Array Value} {h h' : Heap} {v : Value} {d : V} (hoI : h.get? I = some oI) (hdI : oI.data = .fields xs) (x : Heap.ExtBut I h h') (r : Rep Tr h v d) : Rep Tr h' v d :=
  r.ext x (fun _ ⟨_, ho', _, _, hd'⟩ => nomatch data_inj hoI hdI ho' hd') fun _ _ ⟨_, ho', _, _, hd'⟩ => nomatch data_inj hoI hdI ho' hd'

/-- the body of a loop -/
theorem loop_body {I : Addr} {oI : Obj} {xs : Array Value} {body : List S} {pbody : List Stmt} {Q : PySem.Flow → Shared → Prop} {Er : Value → Shared → Prop}
    (HSs : SimSs w mg mb k) (hd : Gd mg mb G) (R₂ : Rm0 G fr₀ A (k + 1) s₀.heap) (b₂ : Bd sc vs env s₀) (f2 : Fs w fr₀ s₀ vs env σ s) (cb : CpSs sc vs body pbody)
    (hI : s.heap.get? I = some oI) (hdI : oI.data = .fields xs) (hne : exSs FT k σ body ≠ .stuck)
    (hq : ∀ fl s' σ' fl', exSs FT k σ body = .ok (σ', fl') → Fs w fr₀ s₀ vs env σ' s' → s'.heap.get? I = some oI → FlowIs s'.heap fl fl' → Q fl s')
    (he : ∀ x e s', exSs FT k σ body = .exc x → InFly mg G env fr₀ s₀ x e s' → Er e s') : wpAny (model PR w) (A.deeper env) (execs pbody env) Q Er s := by
  obtain ⟨ow3, S3⟩ := f2.slots
  obtain ⟨s3, b3, f3, R3, keep3, _, _, _, _, back3, fly3⟩ := f2.base b₂ S3 R₂ (fun _ => False) (fun a e => e.elim)
  have hI3 : s3.heap.get? I = some oI := (keep3 I (turns_fields f2 S3 hI hdI) (fun z => z)).trans hI
  exact wpAny_mono (HSs ⟨hd, R3, b3⟩ f3 cb hne) (fun fl s4 ⟨σ4, fl', e4, f4, hf⟩ => hq fl s4 σ4 fl' e4 (back3 _ _ f4) (f4.st.keep.exact I oI hI3 (fun z => z) fun _ es ep q => nomatch hdI.symm.trans q) hf) fun e s4 ⟨x, e4, y⟩ => he x e s4 e4 (fly3 _ _ _ y)

/-- how far a loop is -/
inductive LI (w : World) (fr₀ : List PySem.Env) (s₂ : Shared) (vs : List Str) (env : PySem.Env) (J : Nat → Heap → Prop) (F : Env → V → R (Env × Flow)) (l : List V) (res : R (Env × Flow)) (n : Nat) (s : Shared) : Prop
  | mk (i : Nat) (σ : Env) : Fs w fr₀ s₂ vs env σ s → J i s.heap → i ≤ l.length → forL F (l.drop i) σ = res → n = l.length + 1 - i → LI w fr₀ s₂ vs env J F l res n s

theorem loop_turn {I : Addr} {l : List V} {J : Nat → Heap → Prop} {Side : Heap → Prop} {pt : PySem.Expr} {body : List S} {pbody : List Stmt} {bindV : Env → V → Option Env} {n : Nat} {res : R (Env × Flow)} {Rr : Result → Shared → Prop} {Er : Value → Shared → Prop}
    (HSs : SimSs w mg mb k) (hd : Gd mg mb G) (R₂ : Rm0 G fr₀ A (k + 1) s₀.heap) (b₂ : Bd sc vs env s₀) (cb : CpSs sc vs body pbody)
    (Y : Yields w (A.deeper env) I l J Side) (noI : s₀.heap.get? I = none) (side₂ : Side s₀.heap)
    (hbind : ∀ (s₀ : Shared) (σ σ' : Env) (s : Shared) (v : Value) (d : V) (Q : Unit → Shared → Prop) (Z : Value → Shared → Prop), Bd sc vs env s₀ → Fs w fr₀ s₀ vs env σ s → Rep Tr s.heap v d → bindV σ d = some σ' →
      (∀ s', Fs w fr₀ s₀ vs env σ' s' → KeepF s.heap s'.heap → Q () s') → wpAny (model PR w) (A.deeper env) (assign pt env v) Q Z s)
    (hr : res ≠ .stuck)
    (hok : ∀ σ' fl fl' s', res = .ok (σ', fl') → Fs w fr₀ s₀ vs env σ' s' → FlowIs s'.heap fl fl' → Rr (.ok fl) s')
    (hex : ∀ x e s', res = .exc x → InFly mg G env fr₀ s₀ x e s' → Er e s')
    (X : LI w fr₀ s₀ vs env J (fun σ v => (R.ofOpt (bindV σ v)).bind fun σ' => exSs FT k σ' body) l res n s) :
    wpAny (model PR w) (A.deeper env) (pyNext (.ref I)) (fun r s₁ => match r with
      | none => wpAny (model PR w) (A.deeper env) (execs [] env) (fun f s₃ => Rr (.ok f) s₃) Er s₁
      | some v => wpAny (model PR w) (A.deeper env) (letOwnedTupleGo pt (.ref I) v) (fun _ s₁' => wpAny (model PR w) (A.deeper env) (assign pt env v) (fun _ s₂ => wpAny (model PR w) (A.deeper env) (execs pbody env) (fun f s₃ => match f with
            | .next | .cont => ∃ m, m < n ∧ LI w fr₀ s₀ vs env J (fun σ v => (R.ofOpt (bindV σ v)).bind fun σ' => exSs FT k σ' body) l res m s₃
            | .brk => Rr (.ok .next) s₃
            | .ret v => Rr (.ok (.ret v)) s₃) Er s₂) Er s₁') Er s₁) Er s := by
  cases X with
  | mk i σ' f' hJ hi hrest hn =>
    have side' : Side s.heap := Y.side _ _ _ side₂ f'.st.keep
    obtain ⟨oI, xs, hoI, hdI⟩ := Y.is i _ hJ
    by_cases hend : i < l.length
    · refine Y.next i s _ _ hJ side' hend fun v d h' tk hd' hJ' hx' rv => ?_
      have hrest := hrest.symm
      rw [List.drop_eq_getElem_cons hend, Option.some.inj ((List.getElem?_eq_getElem hend).symm.trans hd')] at hrest
      have hF := R.ne_bind fun e => hr (hrest.trans e)
      obtain ⟨σ1, hb, e1⟩ := R.optB rfl hF
      refine Y.go (i + 1) { s with heap := h', toks := tk } _ _ _ _ hJ' (hbind s₀ σ' σ1 _ v d _ _ b₂ (f'.other hoI hdI noI hx' rfl rfl) (rep_field hoI hdI hx' rv) hb fun s2 f2 hk2 => ?_)
      obtain ⟨oI', xs', hoI', hdI'⟩ := Y.is (i + 1) _ hJ'
      refine loop_body HSs hd R₂ b₂ f2 cb (hk2 I oI' xs' hoI' hdI') hdI' (fun e => hF (e1.trans e)) (fun fl s4 σ4 fl' e4 f4 hI4 hf => ?_) fun x e s4 e4 y => hex x e s4 (R.bexc hrest (e1.trans e4)) y
      have hrest := R.beq hrest (e1.trans e4)
      cases hf with
      | next => exact ⟨_, hn ▸ Nat.sub_lt_sub_left (Nat.lt_succ_of_lt hend) (Nat.lt_succ_self i), .mk (i + 1) σ4 f4 (Y.only _ _ _ hJ' (hI4.trans hoI'.symm)) hend hrest.symm rfl⟩
      | ret r => exact hok _ _ _ _ hrest f4 (.ret r)
    · refine Y.stop i s _ _ hJ side' (Nat.le_of_not_lt hend) fun h' tk hx' => wpAny_execs_nil ?_
      rw [List.drop_eq_nil_of_le (Nat.le_of_not_lt hend)] at hrest
      exact hok _ .next .next _ hrest.symm (f'.other hoI hdI noI hx' rfl rfl) .next

theorem loop_run {I : Addr} {l : List V} {J : Nat → Heap → Prop} {Side : Heap → Prop} {pt : PySem.Expr} {body : List S} {pbody : List Stmt} {bindV : Env → V → Option Env} {res : R (Env × Flow)} {Rr : Result → Shared → Prop}
    (HSs : SimSs w mg mb k) (c : SCtx mg mb k G fr₀ s₀ A sc vs env) (f : Fs w fr₀ s₀ vs env σ s) (cb : CpSs sc vs body pbody)
    (Y : Yields w (A.deeper env) I l J Side) (hI : s₀.heap.get? I = none) (h0 : J 0 s.heap)
    (hSide : ∀ ow s₂, Slots w s₀.heap (FRof (env :: fr₀)) vs env σ ow s.heap → (∀ a, ¬ Turns env ow a → a ≠ I → s₂.get? a = s.heap.get? a) → Side s₂)
    (hbind : ∀ (s₀ : Shared) (σ σ' : Env) (s : Shared) (v : Value) (d : V) (Q : Unit → Shared → Prop) (Z : Value → Shared → Prop), Bd sc vs env s₀ → Fs w fr₀ s₀ vs env σ s → Rep Tr s.heap v d → bindV σ d = some σ' →
      (∀ s', Fs w fr₀ s₀ vs env σ' s' → KeepF s.heap s'.heap → Q () s') → wpAny (model PR w) (A.deeper env) (assign pt env v) Q Z s)
    (hres : forL (fun σ v => (R.ofOpt (bindV σ v)).bind fun σ' => exSs FT k σ' body) l σ = res) (hr : res ≠ .stuck)
    (hok : ∀ σ' fl fl' s', res = .ok (σ', fl') → Fs w fr₀ s₀ vs env σ' s' → FlowIs s'.heap fl fl' → Rr (.ok fl) s')
    (hex : ∀ x e s', res = .exc x → InFly mg G env fr₀ s₀ x e s' → notedBy (model PR w) (A.deeper env) env (fun e s' => Rr (.error e) s') e s') :
    codeAny (model PR w) (A.deeper env) (.forLoop pt (.ref I) pbody [] env) Rr s := by
  obtain ⟨ow, S⟩ := f.slots
  obtain ⟨s₂, b₂, f₂, R₂, keep₂, noI, sub₂, g₂, o₂, back₂, fly₂⟩ := f.base c.b S c.R (fun a => a = I) (fun a e => e ▸ hI)
  exact codeAny_forLoop_any (LI w fr₀ s₂ vs env J (fun σ v => (R.ofOpt (bindV σ v)).bind fun σ' => exSs FT k σ' body) l res)
    (fun n s' X => loop_turn (Rr := Rr) HSs c.d R₂ b₂ cb Y (noI I rfl) (hSide ow s₂.heap S fun a h1 h2 => keep₂ a h1 h2) hbind hr (fun σ' fl fl' s' e f h => hok σ' fl fl' s' e (back₂ _ _ f) h) (fun x e s' ex y => hex x e s' ex (fly₂ _ _ _ y)) X) (l.length + 1)
    (.mk 0 σ f₂ h0 (Nat.zero_le _) hres rfl)

/-- the run of a loop over what an iterator yields -/
theorem loop_yields {I : Addr} {l : List V} {J : Nat → Heap → Prop} {Side : Heap → Prop} {pt : PySem.Expr} {body : List S} {pbody : List Stmt} {bindV : Env → V → Option Env} {res : R (Env × Flow)}
    (HSs : SimSs w mg mb k) (c : SCtx mg mb k G fr₀ s₀ A sc vs env) (f : Fs w fr₀ s₀ vs env σ s) (cb : CpSs sc vs body pbody)
    (Y : Yields w (A.deeper env) I l J Side) (hI : s₀.heap.get? I = none) (h0 : J 0 s.heap)
    (hSide : ∀ ow s₂, Slots w s₀.heap (FRof (env :: fr₀)) vs env σ ow s.heap → (∀ a, ¬ Turns env ow a → a ≠ I → s₂.get? a = s.heap.get? a) → Side s₂)
    (hbind : ∀ (s₀ : Shared) (σ σ' : Env) (s : Shared) (v : Value) (d : V) (Q : Unit → Shared → Prop) (Z : Value → Shared → Prop), Bd sc vs env s₀ → Fs w fr₀ s₀ vs env σ s → Rep Tr s.heap v d → bindV σ d = some σ' →
      (∀ s', Fs w fr₀ s₀ vs env σ' s' → KeepF s.heap s'.heap → Q () s') → wpAny (model PR w) (A.deeper env) (assign pt env v) Q Z s)
    (hres : forL (fun σ v => (R.ofOpt (bindV σ v)).bind fun σ' => exSs FT k σ' body) l σ = res) (hr : res ≠ .stuck) :
    codeAny (model PR w) (A.deeper env) (.forLoop pt (.ref I) pbody [] env) (fun r s' => match r with
      | .ok fl => PS w fr₀ s₀ vs env res fl s'
      | .error e => cameBackBy (model PR w) (A.deeper env) env (PXS mg G env fr₀ s₀ res) e s') s := by
  refine loop_run HSs c f cb Y hI h0 hSide hbind hres hr (fun σ' fl fl' s' e f h => ⟨σ', fl', e, f, h⟩) fun x e s' ex y => ?_
  obtain ⟨a, C, dd, fl, rfl, hC, hF, hfl, hat⟩ := y.is
  exact pass_flt (f.rm c.b c.R).frames c.b.frame hfl hF fun h' F' u => ⟨x, ex, ⟨⟨a, C, dd, _, rfl, hC, F', .inr (.inr rfl), hat.ups u⟩, fun L hL m hm => u.ns (y.names L hL m hm), y.gens, y.os⟩⟩
end
end Mine
end

/-! text M28 -/
section
set_option bootstrap.genMatcherCode false
set_option maxRecDepth 100000
open PySem PySem.Calls PyProof.Rows PySem.W
namespace Mine

/-- an expression that makes a new list: its value is new, too -/
noncomputable def SimF (w : World) (mg mb : Str → Option Value) (k : Nat) : Prop := ∀ {G fr A s σ sc vs env e pe}, freshE e = true → Stg w mg mb k G fr A sc σ vs env s.heap → CpE sc vs e pe → evE FT k σ e ≠ .stuck →
  wpAny (model PR w) A (eval pe env) (fun v s' => ∃ d, evE FT k σ e = .ok d ∧ Got fr s d v s' ∧ ∃ a, v = .ref a ∧ s.heap.get? a = none) (PX mg G fr s (evE FT k σ e)) s

section
variable {w : World} {mg mb : Str → Option Value}
variable {G : Heap} {fr₀ : List PySem.Env} {A A' : Around} {k : Nat} {s s₀ s₁ s' s'' : Shared} {Z : Value → Shared → Prop} {sc : Scope} {σ : Env} {vs : List Str} {env : PySem.Env}

theorem list_inj {h : Heap} {a : Addr} {us vals : List Value} (x : h.IsList a us.toArray) (y : h.IsList a vals.toArray) : us = vals := by
  obtain ⟨o, ho, _, n, hd⟩ := x
  obtain ⟨o', ho', _, n', hd'⟩ := y
  cases data_inj ho hd ho' hd'; rfl

theorem isList_keeps {h h' : Heap} {a : Addr} {its : Array Value} (k : ∀ b o, h.get? b = some o → h'.get? b = some o) (x : h.IsList a its) : h'.IsList a its := let ⟨o, ho, r⟩ := x; ⟨o, k _ _ ho, r⟩

theorem side_of {ow : Nat → Option Addr} {I ax : Addr} {vals : List Value} {l : List V} {oI : Obj} {xs : Array Value} {h₂ : Heap} (b : Bd sc vs env s₀) (f : Fs w fr₀ s₀ vs env σ s) (S : Slots w s₀.heap (FRof (env :: fr₀)) vs env σ ow s.heap)
    (hI : s.heap.get? I = some oI) (hdI : oI.data = .fields xs) (hl : s.heap.IsList ax vals.toArray) (pax : Pw ow ax) (rl : RepL (Pw ow) s.heap vals l) (keep : ∀ a, ¬ Turns env ow a → a ≠ I → h₂.get? a = s.heap.get? a) :
    h₂.IsList ax vals.toArray ∧ RepL Tr h₂ vals l := by
  have ne : ∀ a o xs' n, s.heap.get? a = some o → o.data = .seq xs' n → a ≠ I := fun a o xs' n h1 h2 q => by
    rw [q, hI] at h1; cases h1; rw [hdI] at h2; cases h2
  have kl : ∀ a its, Pw ow a → s.heap.IsList a its → h₂.IsList a its ∧ Tr a := fun a its p x => by
    have nt := turns_list f p x
    obtain ⟨o, ho, hc, n, hd⟩ := x
    exact ⟨⟨o, (keep a nt (ne a o _ _ ho hd)).trans ho, hc, n, hd⟩, trivial⟩
  refine ⟨(kl ax _ pax hl).1, rl.sub (fun a its x => ?_) kl⟩
  have nt := turns_tup b f S x
  obtain ⟨o, ho, hc, n, hd⟩ := x
  exact ⟨o, (keep a nt (ne a o _ _ ho hd)).trans ho, hc, n, hd⟩

/-- a loop over a list -/
theorem for_list {ax : Addr} {vals : List Value} {l : List V} {pt : PySem.Expr} {body : List S} {pbody : List Stmt} {bindV : Env → V → Option Env} {res : R (Env × Flow)}
    (HSs : SimSs w mg mb k) (c : SCtx mg mb k G fr₀ s₀ A sc vs env) (f : Fs w fr₀ s₀ vs env σ s) (cb : CpSs sc vs body pbody)
    (hl : s.heap.IsList ax vals.toArray) (hlen : vals.length = l.length)
    (hown : ∀ ow h', (∀ b o, s.heap.get? b = some o → h'.get? b = some o) → Slots w s₀.heap (FRof (env :: fr₀)) vs env σ ow h' → Pw ow ax ∧ RepL (Pw ow) h' vals l)
    (hbind : ∀ (s₀ : Shared) (σ σ' : Env) (s : Shared) (v : Value) (d : V) (Q : Unit → Shared → Prop) (Z : Value → Shared → Prop), Bd sc vs env s₀ → Fs w fr₀ s₀ vs env σ s → Rep Tr s.heap v d → bindV σ d = some σ' →
      (∀ s', Fs w fr₀ s₀ vs env σ' s' → KeepF s.heap s'.heap → Q () s') → wpAny (model PR w) (A.deeper env) (assign pt env v) Q Z s)
    (hres : forL (fun σ v => (R.ofOpt (bindV σ v)).bind fun σ' => exSs FT k σ' body) l σ = res) (hr : res ≠ .stuck) :
    wpAny (model PR w) (A.deeper env) (pyIter (.ref ax)) (fun it s₂ => codeAny (model PR w) (A.deeper env) (.forLoop pt it pbody [] env) (fun r s' => match r with
      | .ok fl => PS w fr₀ s₀ vs env res fl s'
      | .error e => cameBackBy (model PR w) (A.deeper env) env (PXS mg G env fr₀ s₀ res) e s') s₂) Z s := by
  have hh : (A.deeper env).handled = none := c.R.handled
  refine wpAny_pyIter_list hl ?_
  have kp : ∀ b o, s.heap.get? b = some o → (s.heap.push { cls := .type "list_iterator", data := .fields #[.ref ax, .int 0 0] }).get? b = some o := fun b o e => Heap.get?_push_of_some _ e
  have f₁ : Fs w fr₀ s₀ vs env σ { s with heap := s.heap.push { cls := .type "list_iterator", data := .fields #[.ref ax, .int 0 0] } } := f.step c.b (St.push _ _ _)
  have hne : ax ≠ s.heap.objs.size := let ⟨o, ho, _⟩ := hl; Nat.ne_of_lt (Heap.lt_size ho)
  have hI : (s.heap.push { cls := .type "list_iterator", data := .fields #[.ref ax, .int 0 0] }).get? s.heap.objs.size = some { cls := .type "list_iterator", data := .fields #[.ref ax, .int 0 0] } := Heap.get?_push_size _ rfl
  have fresh : s₀.heap.get? s.heap.objs.size = none := f.st.keep.none (Heap.get?_none_of_le (Nat.le_refl _))
  refine loop_yields HSs c f₁ cb (Yields.list hh hne hlen) fresh ⟨_, hI, rfl, rfl⟩ (fun ow s₂ S keep => ?_) hbind hres hr
  obtain ⟨pax, rl⟩ := hown ow _ kp S
  exact side_of c.b f₁ S hI rfl (let ⟨o, ho, r⟩ := hl; ⟨o, kp _ _ ho, r⟩) pax rl keep

theorem varOf_eq {e : E} {j : Nat} (h : varOf e = some j) : e = .var j := by cases e <;> first | (cases h; done) | (cases h; rfl)
theorem iterAt_cases {j : Nat} {l : List V} {σ' : Env} (h : iterAt σ j = some (l, σ')) : (σ[j]? = some (.val (.list l)) ∧ σ' = σ) ∨ (σ[j]? = some (.own l) ∧ σ' = σ.set j (.val (.list l))) := by
  unfold iterAt at h
  cases hs : σ[j]? with
  | none => rw [hs] at h; cases h
  | some sl =>
    rw [hs] at h
    cases sl with
    | val V => cases V <;> first | (cases h; done) | (cases h; exact .inl ⟨rfl, rfl⟩)
    | own l => cases h; exact .inr ⟨rfl, rfl⟩
    | _ => cases h
theorem iter_own {j : Nat} {x : Str} {ax : Addr} {vals : List Value} {l : List V} {ow : Nat → Option Addr} {h' : Heap} (hx : vs[j]? = some x) (hs : σ[j]? = some (.val (.list l))) (hvar : VarIs env s.heap x (.ref ax)) (hl : s.heap.IsList ax vals.toArray)
    (kp : ∀ b o, s.heap.get? b = some o → h'.get? b = some o) (S : Slots w s₀.heap (FRof (env :: fr₀)) vs env σ ow h') : Pw ow ax ∧ RepL (Pw ow) h' vals l := by
  obtain ⟨n, v', hv', r'⟩ := S.slot j _ _ hx hs
  obtain rfl := hv'.inj (hvar.keep (Keep.of_keeps (FR := []) (X := No) kp) (fun z => z) fun _ _ z => z)
  cases r' with
  | list p2 hl2 rl2 => exact ⟨p2, (list_inj hl2 (isList_keeps kp hl)) ▸ rl2⟩
theorem iter_var {j : Nat} {x : Str} {l : List V} {σ' : Env} (b : Bd sc vs env s₀) (f : Fs w fr₀ s₀ vs env σ s) (hx : vs[j]? = some x) (h : iterAt σ j = some (l, σ')) :
    ∃ ax vals, VarIs env s.heap x (.ref ax) ∧ s.heap.IsList ax (List.toArray vals) ∧ vals.length = l.length ∧ Fs w fr₀ s₀ vs env σ' s ∧ σ'[j]? = some (.val (.list l)) := by
  rcases iterAt_cases h with ⟨hs, rfl⟩ | ⟨hs, rfl⟩
  · obtain ⟨v, hvar, rv⟩ := (f.envOk b).slot j _ _ hx hs
    obtain ⟨ax, vals, rfl, hl, rl⟩ := rv.asList rfl
    exact ⟨ax, vals, hvar, hl, rl.length, f, hs⟩
  · obtain ⟨ax, vals, hvar, hp, hr0, fz⟩ := f.freeze hx hs
    exact ⟨ax, vals, hvar, hp.isList, hr0.length, fz, List.getElem?_set_self (f.lt hx)⟩
/-- what is new is no own object -/
theorem not_own {ow : Nat → Option Addr} {h' : Heap} {a : Addr} (f : Fs w fr₀ s₀ vs env σ s) (k : Keep (FRof (env :: fr₀)) No s.heap h') (S : Slots w s₀.heap (FRof (env :: fr₀)) vs env σ ow h') (hnew : s.heap.get? a = none) (j : Nat) : ow j ≠ some a := by
  intro hj
  obtain ⟨sl, hs, ho⟩ := S.dom j _ hj
  obtain ⟨y, hx⟩ : ∃ y, vs[j]? = some y := ⟨_, List.getElem?_eq_getElem (f.len ▸ (List.getElem?_eq_some_iff.mp hs).1)⟩
  obtain ⟨ow0, S0⟩ := f.slots
  have b0 := S0.slot j _ sl hx hs
  have b1 := S.slot j _ sl hx hs
  have mv : ∀ {u : Value}, VarIs env s.heap y u → VarIs env h' y u := fun x => x.keep k (fun z => z) fun _ _ z => z
  have no : ∀ {o}, s.heap.get? a ≠ some o := by rw [hnew]; exact nofun
  cases sl with
  | unb => cases ho
  | val V => cases ho
  | own l' =>
    obtain ⟨a0, i0, _, v0, ⟨o0, _, e0, _⟩, _⟩ := b0
    obtain ⟨a1, i1, n1, v1, _⟩ := b1
    obtain rfl := Option.some.inj (hj.symm.trans n1)
    exact no (Value.ref.inj (v1.inj (mv v0)) ▸ e0)
  | dict kvs =>
    obtain ⟨a0, _, v0, _, ⟨_, xs, ⟨o0, _, _, e0, _⟩, _⟩⟩ := b0
    obtain ⟨a1, n1, v1, _⟩ := b1
    obtain rfl := Option.some.inj (hj.symm.trans n1)
    exact no (Value.ref.inj (v1.inj (mv v0)) ▸ e0)

/-- the loop over a value -/
theorem for_val {t : Tgt} {pt : PySem.Expr} {fe : Bool} {body : List S} {pbody : List Stmt} {d : V} {v : Value} {r : R (Env × Flow)}
    (HSs : SimSs w mg mb k) (c : SCtx mg mb (k + 1) G fr₀ s₀ A sc vs env) (f : Fs w fr₀ s₀ vs env σ s) (cb : CpSs sc vs body pbody)
    (hbind : ∀ (s₀ : Shared) (σ σ' : Env) (s : Shared) (v : Value) (d : V) (Q : Unit → Shared → Prop) (Z : Value → Shared → Prop), Bd sc vs env s₀ → Fs w fr₀ s₀ vs env σ s → Rep Tr s.heap v d → bindTgt σ t d = some σ' →
      (∀ s', Fs w fr₀ s₀ vs env σ' s' → KeepF s.heap s'.heap → Q () s') → wpAny (model PR w) (A.deeper env) (assign pt env v) Q Z s)
    (h₁ : r = (R.ofOpt d.asList).bind fun l => if (fe && l.all (V.flat 8)) || noOwn σ then forL (fun σ v => (R.ofOpt (bindTgt σ t v)).bind fun σ' => exSs FT k σ' body) l σ else .stuck) (hr : r ≠ .stuck)
    (g₁ : Got (env :: fr₀) s d v s₁) (hfr : fe = true → ∃ a, v = .ref a ∧ s.heap.get? a = none) :
    wpAny (model PR w) (A.deeper env) (pyIter v) (fun it s₂ => codeAny (model PR w) (A.deeper env) (.forLoop pt it pbody [] env) (fun r' s' => match r' with
      | .ok fl => PS w fr₀ s₀ vs env r fl s'
      | .error x => cameBackBy (model PR w) (A.deeper env) env (PXS mg G env fr₀ s₀ r) x s') s₂) Z s₁ := by
  obtain ⟨l, hl', h₁⟩ := R.optB h₁ hr
  obtain ⟨hc, h₁⟩ := R.ite h₁ hr
  obtain ⟨r, st₁⟩ := g₁
  obtain ⟨ax, vals, rfl, hl, rl⟩ := r.asList hl'
  refine for_list HSs c.pred (f.step c.b st₁) cb hl rl.length (fun ow h' kp S => ?_) hbind h₁.symm hr
  have rl' := rl.step (Keep.of_keeps (FR := []) kp)
  rcases (Bool.or_eq_true _ _).mp hc with hq | hq
  · obtain ⟨q1, q2⟩ := and2 hq
    obtain ⟨a, ea, hnew⟩ := hfr q1
    cases ea
    exact ⟨not_own f (st₁.keep.trans (Keep.of_keeps kp)) S hnew, rl'.flat q2⟩
  · have hn := S.none_of hq
    exact ⟨fun j => by rw [hn j]; exact nofun, rl'.mono fun a _ _ _ j => by rw [hn j]; exact nofun⟩

/-- the live list or the value that a loop runs over -/
theorem S_forV {t : Tgt} {pt : PySem.Expr} {e : E} {pe : PySem.Expr} {body : List S} {pbody : List Stmt} {p : Pos}
    (HE : SimE w mg mb k) (HF : SimF w mg mb k) (HSs : SimSs w mg mb k) (c : SCtx mg mb (k + 1) G fr₀ s₀ A sc vs env) (f : Fs w fr₀ s₀ vs env σ s)
    (ce : CpE sc vs e pe) (cb : CpSs sc vs body pbody)
    (hbind : ∀ (s₀ : Shared) (σ σ' : Env) (s : Shared) (v : Value) (d : V) (Q : Unit → Shared → Prop) (Z : Value → Shared → Prop), Bd sc vs env s₀ → Fs w fr₀ s₀ vs env σ s → Rep Tr s.heap v d → bindTgt σ t d = some σ' →
      (∀ s', Fs w fr₀ s₀ vs env σ' s' → KeepF s.heap s'.heap → Q () s') → wpAny (model PR w) (A.deeper env) (assign pt env v) Q Z s)
    (hr : exS FT (k + 1) σ (.forV t e body) ≠ .stuck) :
    wpAny (model PR w) (A.deeper env) (exec (.For pt pe pbody [] p) env) (PS w fr₀ s₀ vs env (exS FT (k + 1) σ (.forV t e body))) (PXS mg G env fr₀ s₀ (exS FT (k + 1) σ (.forV t e body))) s := by
  have hkf : env.scope.kind = .function := by rw [c.b.scope, c.b.kind]
  cases hv : varOf e with
  | some j =>
    obtain rfl := varOf_eq hv
    replace ce := CpE.un ce
    cases ce with
    | var hx hd hcd =>
      obtain ⟨⟨l, σ'⟩, hi, h₀⟩ := R.optB (r := exS FT (k + 1) σ (.forV t (.var j) body)) rfl hr
      obtain ⟨ax, vals, hvar, hl, hlen, fz, hs⟩ := iter_var c.b f hx hi
      exact wpAny_For (var_load hkf hd hcd hvar (for_list HSs c.pred fz cb hl hlen (fun ow h' kp S => iter_own hx hs hvar hl kp S) hbind h₀.symm hr)) (fun _ => rfl)
  | none =>
    have h₀ : exS FT (k + 1) σ (.forV t e body) = (evE FT k σ e).bind fun x => (R.ofOpt x.asList).bind fun l => if (freshE e && l.all (V.flat 8)) || noOwn σ then forL (fun σ v => (R.ofOpt (bindTgt σ t v)).bind fun σ' => exSs FT k σ' body) l σ else .stuck := by
      show (match varOf e with | some j => _ | .none => (evE FT k σ e).bind _) = _
      rw [hv]
    by_cases hfe : freshE e = true
    · exact wpAny_For (bndS (P1 := fun d v s' => Got (env :: fr₀) s d v s' ∧ ∃ a, v = .ref a ∧ s.heap.get? a = none) h₀ hr f (fun h => HF hfe (c.stg f).pred ce h) fun d v s₁ _ g₁ h₁ => for_val HSs c f cb hbind h₁ hr g₁.1 fun _ => g₁.2) (fun x => ce.noSet env x)
    · exact wpAny_For (bndS h₀ hr f (fun h => HE (c.stg f).pred ce h) fun d v s₁ _ g₁ h₁ => for_val HSs c f cb hbind h₁ hr g₁ fun q => (hfe q).elim) (fun x => ce.noSet env x)
end
end Mine
end

/-! text M29 -/
section
set_option bootstrap.genMatcherCode false
set_option maxRecDepth 100000
open PySem PySem.Calls PyProof.Rows PySem.W
namespace Mine
section
variable {w : World} {mg mb : Str → Option Value}
variable {G : Heap} {fr₀ : List PySem.Env} {A A' : Around} {k : Nat} {s s₀ s₁ s' s'' : Shared} {Z : Value → Shared → Prop} {sc : Scope} {σ : Env} {vs : List Str} {env : PySem.Env}

theorem letGo_rangeiter {target : PySem.Expr} {I : Addr} {x left step : Int} {v : Value} {Q : Unit → Shared → Prop} (hit : IsRangeIter s.heap I x left step) (hQ : Q () s) : wpAny (model PR w) A' (letOwnedTupleGo target (.ref I) v) Q Z s := by
  have go : ∀ T : Addr, wpAny (model PR w) A' (do
      let o ← load I
      match o.cls, o.data with
      | .type n, .fields vs => if ["enumerate", "zip", "dict_itemiterator", "dict_reverseitemiterator", "odict_iterator", "itertools.zip_longest", "itertools.pairwise"].contains n && vs[0]? == some (rawInt T) then do rule "for.unpacks-the-owned-tuple"; updateField I 0 .none
      | _, _ => pure () : Sem Unit) Q Z s := fun T => by
    refine wpAny_bind (wpAny_load hit ?_)
    show wpAny _ _ (if (["enumerate", "zip", "dict_itemiterator", "dict_reverseitemiterator", "odict_iterator", "itertools.zip_longest", "itertools.pairwise"].contains "range_iterator" &&
      (#[rawInt x, rawInt left, rawInt step] : Array Value)[0]? == some (rawInt T)) = true then _ else _) Q Z s
    rw [if_neg (by
      intro h
      rw [show (["enumerate", "zip", "dict_itemiterator", "dict_reverseitemiterator", "odict_iterator", "itertools.zip_longest", "itertools.pairwise"].contains "range_iterator") = false from by decide, Bool.false_and] at h
      cases h)]
    exact wpAny_pure hQ
  cases target <;> first
    | exact wpAny_pure hQ
    | (cases v <;> first | exact wpAny_pure hQ | exact go _)

theorem range_size {a b c : Int} (hc : 0 < c) : 0 ≤ Builtin.Range.rangeSize a b c := by
  unfold Builtin.Range.rangeSize
  rw [if_pos hc]
  split
  · have := Int.ediv_nonneg (a := b - a - 1) (b := c) (by lia) (by lia); lia
  · lia
theorem Yields.range {I : Addr} {a b c : Int} (hh : A'.handled = none) (hc : 0 < c) :
    Yields w A' I ((List.range (Builtin.Range.rangeSize a b c).toNat).map fun (k : Nat) => V.int (a + (k : Int) * c)) (fun i h => IsRangeIter h I (a + (i : Int) * c) (Builtin.Range.rangeSize a b c - i) c) (fun _ => True) := by
  have hz := range_size (a := a) (b := b) hc
  refine ⟨fun i h h' x e => e.trans x, fun i h x => ⟨_, _, x, rfl⟩, fun _ _ _ _ _ => trivial, fun i s Q Z h1 _ hi hQ => ?_, fun i s Q Z h1 _ hi hQ => ?_, fun i s t v Q Z h1 hQ => letGo_rangeiter h1 hQ⟩
  · simp at hi
    refine wpAny_pyNext_range_item h1 (by lia) fun h' h1' hs => ?_
    refine hQ _ (V.int (a + (i : Int) * c)) h' (s.toks + 1) (by simp [hi]) ?_ hs.extBut (.int _ _)
    have e1 : a + (i : Int) * c + c = a + ((i + 1 : Nat) : Int) * c := by rw [Int.natCast_add, Int.add_mul]; simp; lia
    have e2 : Builtin.Range.rangeSize a b c - i - 1 = Builtin.Range.rangeSize a b c - ((i + 1 : Nat) : Int) := by lia
    rw [e1, e2] at h1'
    exact h1'
  · simp at hi
    exact wpAny_pyNext_range_end hh h1 (by lia) fun h' he => hQ h' s.toks he

theorem small_range {a b c : Int} (hc : 0 < c) (h1 : small a = true) (h2 : small b = true) (h3 : small c = true) : Builtin.Range.small a b c = true := by
  have b1 := small_bounds h1
  have b2 := small_bounds h2
  have b3 := small_bounds h3
  have hz := range_size (a := a) (b := b) hc
  have hz2 : Builtin.Range.rangeSize a b c ≤ 2 ^ 34 := by
    unfold Builtin.Range.rangeSize
    rw [if_pos hc]
    split
    · have : (b - a - 1) / c ≤ b - a - 1 := Int.ediv_le_self _ (by lia)
      lia
    · lia
  unfold Builtin.Range.small Builtin.Range.rangeFitsLong
  simp only [Bool.and_eq_true, Bool.or_eq_true, decide_eq_true_eq, if_pos hc]
  refine ⟨⟨⟨⟨?_, ?_⟩, ?_⟩, ?_⟩, .inr ?_⟩ <;> lia

theorem forL_congr {f g : Env → V → R (Env × Flow)} : ∀ (l : List V) (σ : Env), (∀ d ∈ l, ∀ σ, f σ d = g σ d) → forL f l σ = forL g l σ
  | [], _, _ => rfl
  | d :: l, σ, h => by
    simp only [forL]
    rw [h d (.head _) σ]
    congr 1
    funext p
    cases p.2 with
    | ret w => rfl
    | next => exact forL_congr l p.1 fun d hd => h d (.tail _ hd)

noncomputable def bindInt (i : Nat) (σ : Env) : V → Option Env
  | .int a => some (σ.set i (.val (.int a)))
  | _ => none

theorem rangeV_cases {ds l : List V} (h : rangeV ds = some l) : (∃ b, ds = [.int b] ∧ rangeInts 0 b 1 = some l) ∨ (∃ a b, ds = [.int a, .int b] ∧ rangeInts a b 1 = some l) ∨ ∃ a b c, ds = [.int a, .int b, .int c] ∧ rangeInts a b c = some l := by
  match ds, h with
  | [b], h =>
    obtain ⟨i, e, h⟩ := Option.bind_eq_some_iff.mp h
    exact .inl ⟨i, by rw [V.asInt_eq e], h⟩
  | [a, b], h =>
    obtain ⟨i, e, h⟩ := Option.bind_eq_some_iff.mp h
    obtain ⟨j, e', h⟩ := Option.bind_eq_some_iff.mp h
    exact .inr (.inl ⟨i, j, by rw [V.asInt_eq e, V.asInt_eq e'], h⟩)
  | [a, b, c], h =>
    obtain ⟨i, e, h⟩ := Option.bind_eq_some_iff.mp h
    obtain ⟨j, e', h⟩ := Option.bind_eq_some_iff.mp h
    obtain ⟨n, e'', h⟩ := Option.bind_eq_some_iff.mp h
    exact .inr (.inr ⟨i, j, n, by rw [V.asInt_eq e, V.asInt_eq e', V.asInt_eq e''], h⟩)
theorem rangeInts_eq {a b c : Int} {l : List V} (h : rangeInts a b c = some l) : (0 < c ∧ small a = true ∧ small b = true ∧ small c = true) ∧ l = (List.range (Builtin.Range.rangeSize a b c).toNat).map fun (k : Nat) => V.int (a + (k : Int) * c) := by
  obtain ⟨hc, e⟩ := ite_some h
  obtain ⟨hc, c3⟩ := and2 hc
  obtain ⟨hc, c2⟩ := and2 hc
  obtain ⟨c0, c1⟩ := and2 hc
  exact ⟨⟨of_decide_eq_true c0, c1, c2, c3⟩, e.symm⟩
theorem range_congr {i : Nat} {body : List S} {l : List V} {σ : Env} {n : Nat} {a c : Int} (h : l = (List.range n).map fun (k : Nat) => V.int (a + (k : Int) * c)) :
    forL (fun σ v => exSs FT k (σ.set i (.val v)) body) l σ = forL (fun σ v => (R.ofOpt (bindInt i σ v)).bind fun σ' => exSs FT k σ' body) l σ := by
  refine forL_congr l σ fun d hd σ => ?_
  subst h
  obtain ⟨kk, _, rfl⟩ := List.mem_map.mp hd
  rfl
theorem bindInt_eq {i : Nat} {σ σ' : Env} {d : V} (h : bindInt i σ d = some σ') : ∃ a, d = .int a ∧ σ' = σ.set i (.val (.int a)) := by
  cases d <;> first | (cases h; done) | exact ⟨_, rfl, (Option.some.inj h).symm⟩

/-- the loop over a range -/
theorem for_range {i : Nat} {x : Str} {body : List S} {pbody : List Stmt} {q : Pos} {l : List V} {a b cc : Int} {D : Addr} {t u v : Tok} {r : R (Env × Flow)}
    (HSs : SimSs w mg mb k) (c : SCtx mg mb k G fr₀ s₀ A sc vs env) (f : Fs w fr₀ s₀ vs env σ s) (cb : CpSs sc vs body pbody) (hx : vs[i]? = some x)
    (hri : rangeInts a b cc = some l) (hR : IsRange s.heap D a b cc t u v) (he : r = forL (fun σ v => exSs FT k (σ.set i (.val v)) body) l σ) (hr : r ≠ .stuck) :
    wpAny (model PR w) (A.deeper env) (pyIter (.ref D)) (fun it s₂ => codeAny (model PR w) (A.deeper env) (.forLoop (.Name x q) it pbody [] env) (fun r' s' => match r' with
      | .ok fl => PS w fr₀ s₀ vs env r fl s'
      | .error x => cameBackBy (model PR w) (A.deeper env) env (PXS mg G env fr₀ s₀ r) x s') s₂) Z s := by
  obtain ⟨⟨c0, c1, c2, c3⟩, hl⟩ := rangeInts_eq hri
  refine wpAny_pyIter_range hR (small_range c0 c1 c2 c3) ?_
  have hI := Heap.get?_push_size (h := s.heap) (o := { cls := .type "range_iterator", data := .fields #[rawInt a, rawInt (Builtin.Range.rangeSize a b cc), rawInt cc] }) rfl
  rw [range_congr hl] at he
  subst hl
  refine loop_yields HSs c (f.step c.b (St.push _ _ _)) cb (Yields.range c.R.handled c0) (f.st.keep.none (Heap.get?_none_of_le (Nat.le_refl _))) (by simpa [IsRangeIter] using hI) (fun _ _ _ _ => trivial) (fun s₀ σ σ' s v d Q Z b f r hb h => ?_) he.symm hr
  obtain ⟨z, rfl, rfl⟩ := bindInt_eq hb
  exact wpAny_assign_Name (f.storeV b hx r rfl fun s' f' t => h s' f' (stored_keepF f t))

theorem S_forR {i : Nat} {x : Str} {es : List E} {pes : List PySem.Expr} {body : List S} {pbody : List Stmt} {q r u p : Pos}
    (HEs : SimEs w mg mb k) (HSs : SimSs w mg mb k) (c : SCtx mg mb (k + 1) G fr₀ s₀ A sc vs env) (f : Fs w fr₀ s₀ vs env σ s)
    (hx : vs[i]? = some x) (hg : IsGlob sc "range") (ces : CpEs sc vs es pes) (cb : CpSs sc vs body pbody) (hr : exS FT (k + 1) σ (.forR i es body) ≠ .stuck) :
    wpAny (model PR w) (A.deeper env) (exec (.For (.Name x q) (.Call (.Name "range" r) pes [] u) pbody [] p) env) (PS w fr₀ s₀ vs env (exS FT (k + 1) σ (.forR i es body))) (PXS mg G env fr₀ s₀ (exS FT (k + 1) σ (.forR i es body))) s := by
  have g := c.stg f
  refine wpAny_For (Call_Name rfl (g.blt hg c.d.range (PyProof.Rows.callWith_type (any_plain ces) (args_of ces (bndS rfl hr f (fun h => HEs _ g.pred ces h) fun ds vals s₁ _ g₁ h₁ => ?_))))) (fun _ => rfl)
  obtain ⟨l, hl, h₂⟩ := R.optB h₁ hr
  have f₁ := f.step c.b g₁.2
  have R₁ := f₁.rm c.b c.R
  obtain ⟨L, m, hL, hm⟩ := R₁.frame
  rcases rangeV_cases hl with ⟨b, rfl, hl⟩ | ⟨a, b, rfl, hl⟩ | ⟨a, b, cc, rfl, hl⟩
  · obtain ⟨_, _, rfl, x1, rl⟩ := g₁.1.un
    obtain rfl := rl.un0
    obtain ⟨t1, rfl⟩ := x1.asInt rfl
    exact range1_rows (frOf hm) (newsOf L s₁.heap) fun h' tk t u v hR _ _ kp => for_range HSs c.pred (f₁.step c.b (St.of_keeps kp)) cb hx hl hR h₂ hr
  · obtain ⟨_, _, rfl, x1, rl⟩ := g₁.1.un
    obtain ⟨_, _, rfl, x2, rl⟩ := rl.un
    obtain rfl := rl.un0
    obtain ⟨t1, rfl⟩ := x1.asInt rfl
    obtain ⟨t2, rfl⟩ := x2.asInt rfl
    exact range2_rows (frOf hm) (newsOf L s₁.heap) fun h' tk t u v hR _ _ kp => for_range HSs c.pred (f₁.step c.b (St.of_keeps kp)) cb hx hl hR h₂ hr
  · obtain ⟨_, _, rfl, x1, rl⟩ := g₁.1.un
    obtain ⟨_, _, rfl, x2, rl⟩ := rl.un
    obtain ⟨_, _, rfl, x3, rl⟩ := rl.un
    obtain rfl := rl.un0
    obtain ⟨t1, rfl⟩ := x1.asInt rfl
    obtain ⟨t2, rfl⟩ := x2.asInt rfl
    obtain ⟨t3, rfl⟩ := x3.asInt rfl
    exact range3_rows (frOf hm) (newsOf L s₁.heap) (Int.ne_of_gt (rangeInts_eq hl).1.1) (fun h' tk t u v hR _ _ kp => for_range HSs c.pred (f₁.step c.b (St.of_keeps kp)) cb hx hl hR h₂ hr) (.inr R₁.pylong)
end
end Mine
end

/-! text M30 -/
section
set_option bootstrap.genMatcherCode false
set_option maxRecDepth 100000
open PySem PySem.Calls PyProof.Rows PySem.W
namespace Mine
section
variable {w : World} {G : Heap} {fr : List PySem.Env} {A : Around} {n : Nat} {E : Value → Shared → Prop} {s s' s'' : Shared}
theorem sorted_few_new {l : Addr} {vs : List Value} {ds : List V} (hl : s.heap.IsList l vs.toArray) (h2 : vs.length < 2) (rl : RepL Tr s.heap vs ds) :
    wpAny (model PR w) A (call (.builtin "sorted") [.ref l]) (fun v s' => Got fr s (.list ds) v s' ∧ ∃ a, v = .ref a ∧ s.heap.get? a = none) E s := by
  refine Calls.call_function_entry kind_sorted plain_sorted entry_sorted (args_sorted1 _) ?_
  unfold Builtin.«sorted»
  refine wpAny_bind (m := checkCount "sorted" 1 1 _) (wpAny_pure ?_)
  refine wpAny_bind (collect_list hl ?_ (by rw [sizeLine_eq]; lia))
  refine wpAny_bind (wpAny_newList ?_ (by rw [sizeLine_eq]; lia))
  have hsz : ((s.heap.push (seqObj "list" #[] 0)).update s.heap.objs.size (Obj.mapSeq (· ++ vs.toArray))).objs.size = s.heap.objs.size + 1 := by
    rw [Heap.size_update, size_push']
  have hoL : (((s.heap.push (seqObj "list" #[] 0)).update s.heap.objs.size (Obj.mapSeq (· ++ vs.toArray))).push (seqObj "list" vs.toArray 0)).get? (s.heap.objs.size + 1) = some (seqObj "list" vs.toArray 0) := by
    rw [← hsz]; exact Heap.get?_push_size _ rfl
  show wpAny _ _ _ _ _ { s with heap := ((s.heap.push (seqObj "list" #[] 0)).update s.heap.objs.size (Obj.mapSeq (· ++ vs.toArray))).push (seqObj "list" vs.toArray 0) }
  rw [hsz]
  refine wpAny_bind (wpAny_holding (wpAny_call_entry slot_list_sort ⟨_, hoL, rfl⟩ entry_list_sort (list_sort_few hoL h2 ⟨_, rfl, ?_⟩) (args_list_sort _)))
  refine wpAny_pure ⟨_, rfl, ?_⟩
  obtain ⟨e, he⟩ := sortedAll_at s.heap vs vs.toArray
  have k : ∀ b o, s.heap.get? b = some o → (sortedAll s.heap vs vs.toArray).get? b = some o := fun b o hb => sortedAll_old hb
  exact ⟨⟨.list trivial ⟨_, he, rfl, e, rfl⟩ (rl.step (Keep.of_keeps (FR := FRof fr) k)), St.of_keeps k⟩, _, rfl, Heap.get?_none_of_le (Nat.le_succ _)⟩

theorem sort_new {x v : V} {a : Value} (h : sortV x = some v) (ra : Rep Tr s.heap a x) (R : Rm G fr A n s.heap) : wpAny (model PR w) A (call (.builtin "sorted") [a]) (fun u s' => Got fr s v u s' ∧ ∃ a, u = .ref a ∧ s.heap.get? a = none) E s := by
  cases ra with
  | list p ht rl =>
    simp only [sortV] at h
    obtain ⟨c, h⟩ := ite_some2 h
    simp only [Option.bind_eq_some_iff] at h
    obtain ⟨rs, e1, h⟩ := h
    have hlen := rl.length
    rename_i ad vs ds _
    by_cases q : ds.length < 2
    · rw [if_pos q] at h
      cases h
      exact sorted_few_new ht (by lia) rl
    · rw [if_neg q] at h
      simp only [Option.map_eq_some_iff] at h
      obtain ⟨pm, e2, rfl⟩ := h
      have hds := rows3_spec e1
      obtain ⟨L, m, hL, hm⟩ := R.frame
      refine kat_sorted (frOf hm) (newsOf L s.heap) ht (by lia) (by lia) fun D e1' h' F' N' hD => ?_
      have k1 : Keep (FRof fr) No s.heap h' := keepOf hm hL F' N' fun _ hp => .tail _ hp
      have rl1 : RepL Tr h' vs (rs.map rowV) := hds ▸ rl.step k1
      obtain ⟨fs, kf, hfl, hfi⟩ := firsts rl1
      refine kat_kind (s := { s with heap := h' }) kf (by lia) (T := .type "int") (fun v hv => ?_) (by decide) ?_
      · obtain ⟨i, t, rfl⟩ := hfi v hv
        exact Looks.of_pure rfl
      · refine kas_run (s := { s with heap := h' }) (cmp := fun i j => lt3 (rs.getD i (0, 0, 0)) (rs.getD j (0, 0, 0))) (fun i j hi hj C hC => ?_) _ pm (by rw [hlen]; exact e2) ?_
        · obtain ⟨a1, t1, t2, t3, ea, hta⟩ := rows_get rl1 hi
          obtain ⟨a2, u1, u2, u3, eb, htb⟩ := rows_get rl1 hj
          unfold kas_ask
          rw [ea, eb]
          exact row_lt (s := { s with heap := h' }) hta htb hC
        · refine KasFin.intro F' N' (UpdF.head fun q hq => Nat.ne_of_lt (hD q hq)) fun h2 c2 F2 N2 => ?_
          have k2 : Keep (FRof fr) No s.heap h2 := keepOf hm hL F2 N2 fun _ hp => .tail _ hp
          refine ⟨⟨.list trivial ⟨_, (N2 _ (.head _)).1, rfl, c2, rfl⟩ ((rl.step k2).gather _), k2, rfl, rfl⟩, D, rfl, ?_⟩
          cases q : s.heap.get? D with
          | none => rfl
          | some o => exact (Nat.lt_irrefl _ (hD _ (mem_allBut q (N2 _ (.head _)).2.1))).elim
  | _ => simp only [sortV] at h; cases h
end

section
variable {w : World} {mg mb : Str → Option Value}
variable {G : Heap} {fr₀ : List PySem.Env} {A A' : Around} {k : Nat} {s s₀ s₁ s' s'' : Shared} {Z : Value → Shared → Prop} {sc : Scope} {σ : Env} {vs : List Str} {env : PySem.Env}

theorem calm_eq {α : Type} {r : R α} (h : R.calm r ≠ .stuck) : ∃ a, r = .ok a ∧ R.calm r = .ok a := by
  obtain ⟨a, e⟩ := calm_ne h
  exact ⟨a, e, by rw [e]; rfl⟩

theorem S_while {cnd : E} {pc : PySem.Expr} {body : List S} {pbody : List Stmt} {p : Pos}
    (HT : SimT w mg mb k) (HSs : SimSs w mg mb k) (c : SCtx mg mb (k + 1) G fr₀ s₀ A sc vs env) (f : Fs w fr₀ s₀ vs env σ s)
    (cc : CpE sc vs cnd pc) (cb : CpSs sc vs body pbody) (hr : exS FT (k + 1) σ (.while cnd body) ≠ .stuck) :
    wpAny (model PR w) (A.deeper env) (exec (.While pc pbody [] p) env) (PS w fr₀ s₀ vs env (exS FT (k + 1) σ (.while cnd body))) (PXS mg G env fr₀ s₀ (exS FT (k + 1) σ (.while cnd body))) s := by
  generalize hres : exS FT (k + 1) σ (.while cnd body) = res at hr ⊢
  refine wpAny_While (codeAny_whileLoop (fun n s' => ∃ σ', Fs w fr₀ s₀ vs env σ' s' ∧ whileL (fun σ => R.calm (evT FT k σ cnd)) (fun σ => R.calm (exSs FT k σ body)) n σ' = res) ?_ 64 ⟨σ, f, hres⟩)
  rintro n s' ⟨σ', f', hn⟩
  cases n with
  | zero => rw [← hn] at hr; exact (hr rfl).elim
  | succ n =>
    simp only [whileL] at hn
    have h1 : R.calm (evT FT k σ' cnd) ≠ .stuck := by
      intro e; rw [e] at hn; rw [← hn] at hr; exact hr rfl
    obtain ⟨t, et, et'⟩ := calm_eq h1
    rw [et', R.bind_ok] at hn
    refine wpAny_mono (T_calm HT (c.stg f').pred cc et) (fun b s₁ h => ?_) fun _ _ x => x.elim
    obtain ⟨rfl, K⟩ := h
    have f₁ := f'.step c.b K
    cases b with
    | false =>
      simp only [Bool.false_eq_true, if_false] at hn ⊢
      exact wpAny_execs_nil ⟨σ', .next, hn.symm, f₁, .next⟩
    | true =>
      simp only [if_true] at hn ⊢
      have h2 : R.calm (exSs FT k σ' body) ≠ .stuck := by
        intro e; rw [e] at hn; rw [← hn] at hr; exact hr rfl
      obtain ⟨q, eq, eq'⟩ := calm_eq h2
      rw [eq', R.bind_ok] at hn
      refine wpAny_mono (HSs c.pred f₁ cb (by rw [eq]; exact nofun)) (fun fl s₂ h => ?_) fun v s₂ h => ?_
      · obtain ⟨σ₂, fl', e, f₂, hf⟩ := h
        rw [eq] at e
        cases e
        cases hf with
        | next => exact ⟨n, Nat.lt_succ_self _, σ₂, f₂, hn⟩
        | ret r => exact ⟨σ₂, _, hn.symm, f₂, .ret r⟩
      · obtain ⟨x, e, _⟩ := h
        rw [eq] at e; cases e

/-- an item of a live list that has no dict of its own -/
theorem setItem_plain {l : Addr} {items : Array Value} {j : Int} {t : Tok} {v : Value} {Q : Unit → Shared → Prop} (hl : PlainL s.heap l items) (h0 : 0 ≤ j) (hfit : j < 2 ^ 63) (hn : j < items.size)
    (hQ : ∀ h', PlainL h' l (items.setIfInBounds j.toNat v) → Heap.SameBut l s.heap h' → Q () { s with heap := h' }) : wpAny (model PR w) A' (setItem (.ref l) (.int j t) v) Q Z s := by
  have hli := hl.isList
  obtain ⟨o, ne, ho, hc, hdn, hd⟩ := hl
  unfold setItem
  try with_reducible refine wpAny_holding ?_
  first | refine wpAny_bind (wpAny_pure ?_) | skip
  refine wpAny_bind (wpAny_sequenceKey hli.typeIs (by decide) ?_)
  refine wpAny_bind (wpAny_callSpecial?_slot (name := Str.ofString "__setitem__") hli.typeIs slot_list_setitem
    (wpAny_call_entry slot_list_setitem hli.typeIs entry_list_setitem ?_ (args_list_setitem _ _ _)))
  show wpAny _ _ (Builtin.List.listSubscript? (.int j t) >>= _) _ _ s
  refine wpAny_bind (wpAny_listSubscript_int (fitsIndex_of h0 hfit) ?_)
  clear hfit
  obtain ⟨j, rfl⟩ := Int.eq_ofNat_of_zero_le h0
  have hj : j < items.size := by lia
  have hx' : items[j]? = some items[j] := Array.getElem?_eq_getElem hj
  show wpAny _ _ ((seqItemAt l j >>= fun r => pure (r.map (j, ·))) >>= _) _ _ s
  refine wpAny_bind (wpAny_bind (wpAny_seqItemAt ho hd (wpAny_pure ?_)))
  rw [hx']
  show wpAny _ _ (setSeqItemAt l j v >>= _) _ _ s
  obtain ⟨n', hd'⟩ := Obj.data_mapSeq hd (·.setIfInBounds j v)
  have hfin : PlainL (s.heap.update l (Obj.mapSeq (·.setIfInBounds j v))) l (items.setIfInBounds j v) := by
    refine ⟨_, n', Heap.get?_update_self _ ho (Obj.isFreed_of_seq hd'), (Obj.cls_mapSeq ..).trans hc, ?_, hd'⟩
    obtain ⟨c, d, dt, sl⟩ := o
    subst hd
    exact hdn
  refine wpAny_bind (wpAny_setSeqItemAt ho hd ?_)
  first
    | exact wpAny_bind (wpAny_pure (wpAny_pure ⟨.none, rfl, wpAny_pure (hQ _ hfin (Heap.SameBut.update ..))⟩))
    | exact wpAny_pure ⟨.none, rfl, wpAny_pure (hQ _ hfin (Heap.SameBut.update ..))⟩

set_option backward.match.sparseCases false in
theorem setIdx_key {β : Type} {kd : V} {r : R β} {f : Int → R β} (he : r = match kd with | .int j => f j | _ => .stuck) (hr : r ≠ .stuck) : ∃ j, kd = .int j ∧ r = f j := by
  cases kd <;> first | exact ⟨_, rfl, he⟩ | exact (hr he).elim
theorem S_setIdx {i : Nat} {x : Str} {kk e : E} {pk pe : PySem.Expr} {q1 q2 p : Pos} (HE : SimE w mg mb k) (c : SCtx mg mb (k + 1) G fr₀ s₀ A sc vs env) (f : Fs w fr₀ s₀ vs env σ s)
    (hx : vs[i]? = some x) (hd : (x == ("__debug__" : Str)) = false) (hcd : (x == ("__classdict__" : Str)) = false) (hn : noComp e = true) (ck : CpE sc vs kk pk) (ce : CpE sc vs e pe) (hr : exS FT (k + 1) σ (.setIdx i kk e) ≠ .stuck) :
    wpAny (model PR w) (A.deeper env) (exec (.Assign [.Subscript (.Name x q1) pk q2] pe p) env) (PS w fr₀ s₀ vs env (exS FT (k + 1) σ (.setIdx i kk e))) (PXS mg G env fr₀ s₀ (exS FT (k + 1) σ (.setIdx i kk e))) s := by
  have hkf : env.scope.kind = .function := by rw [c.b.scope, c.b.kind]
  refine wpAny_Assign_Subscript (bndS rfl hr f (fun h => HE (c.stg f).pred ce h) fun d v s₁ _ g₁ h₁ => ?_) (ce.swaps hn _ _ _)
  have f₁ := f.step c.b g₁.2
  obtain ⟨l, hl, h₁⟩ := R.optB h₁ hr
  obtain ⟨a, its, hv, hp, hr0, _⟩ := f₁.live c.b hx (own_slot hl)
  refine var_load hkf hd hcd hv ?_
  refine bndS h₁ hr f₁ (fun h => HE (c.stg f₁).pred ck h) fun kd kv s₂ _ g₂ h₂ => ?_
  obtain ⟨j, rfl, h₂⟩ := setIdx_key h₂ hr
  obtain ⟨hc, h₂⟩ := R.ite h₂ hr
  have f₂ := f₁.step c.b g₂.2
  obtain ⟨rk, st₂⟩ := g₂
  obtain ⟨t, rfl⟩ := rk.asInt rfl
  obtain ⟨hc, c4⟩ := and2 hc
  obtain ⟨hc, c3⟩ := and2 hc
  obtain ⟨c1, c2⟩ := and2 hc
  have c2 := of_decide_eq_true c2
  have c3 := of_decide_eq_true c3
  have c5 := small_bounds c4
  obtain ⟨a', its', hv', hp', hr', turn⟩ := f₂.live c.b hx (own_slot hl)
  obtain rfl : a = a' := Value.ref.inj ((hv.keep st₂.keep (fun z => z) fun _ _ z => z).inj hv')
  have hlen := hr'.length
  refine setItem_plain hp' c2 (by omega) (by simp; omega) fun h' hl₂ hs₂ => ?_
  exact ⟨_, _, h₂, turn { s₂ with heap := h' } (its'.set j.toNat v) (l.set j.toNat d) (by simpa using hl₂) hs₂.extBut (hr'.set _ ((g₁.1.step st₂.keep).flat 8 c1)) rfl rfl, .next⟩

theorem DK.length : ∀ {xs : List (List Int × Addr × Value)} {kvs : List ((Int × Int) × Int)}, DK xs kvs → xs.length = kvs.length
  | _, _, .nil => rfl
  | _, _, .cons h => by simp [DK.length h]
theorem DK.snoc (a b z : Int) (t : Tok) (ad : Addr) : ∀ {xs : List (List Int × Addr × Value)} {kvs : List ((Int × Int) × Int)}, DK xs kvs → DK (xs ++ [([a, b], ad, .int z t)]) (kvs ++ [((a, b), z)])
  | _, _, .nil => .cons .nil
  | _, _, .cons h => .cons (DK.snoc a b z t ad h)

set_option backward.match.sparseCases false in
theorem setDict_key {d : V} {o : Option (Int × Int)} {i : Nat} {kvs : List ((Int × Int) × Int)} {r : R (Env × Flow)}
    (he : r = match o, d with | some k, .int z => if (kvs.lookup k).isNone && decide (kvs.length < cap) then .ok (σ.set i (.dict (kvs ++ [(k, z)])), .next) else .stuck | _, _ => .stuck) (hr : r ≠ .stuck) :
    ∃ k z, o = some k ∧ d = .int z ∧ (kvs.lookup k = none ∧ kvs.length < cap) ∧ r = .ok (σ.set i (.dict (kvs ++ [(k, z)])), .next) := by
  cases o with
  | none => exact (hr he).elim
  | some k => cases d <;> first | exact let ⟨hc, h⟩ := R.ite he hr; ⟨_, _, rfl, rfl, ⟨Option.isNone_iff_eq_none.mp (two_of hc).1, (two_of hc).2⟩, h⟩ | exact (hr he).elim
theorem S_setDict {i : Nat} {x : Str} {a b e : E} {pa pb pe : PySem.Expr} {kd : Nat} {q q1 q2 p : Pos} (HE : SimE w mg mb k) (c : SCtx mg mb (k + 1) G fr₀ s₀ A sc vs env) (f : Fs w fr₀ s₀ vs env σ s)
    (hx : vs[i]? = some x) (hd : (x == ("__debug__" : Str)) = false) (hcd : (x == ("__classdict__" : Str)) = false) (hn : noComp e = true) (ca : CpE sc vs a pa) (cb : CpE sc vs b pb) (ce : CpE sc vs e pe) (hr : exS FT (k + 1) σ (.setDict i a b e) ≠ .stuck) :
    wpAny (model PR w) (A.deeper env) (exec (.Assign [.Subscript (.Name x q1) (.Tuple [pa, pb] kd q) q2] pe p) env) (PS w fr₀ s₀ vs env (exS FT (k + 1) σ (.setDict i a b e))) (PXS mg G env fr₀ s₀ (exS FT (k + 1) σ (.setDict i a b e))) s := by
  have hkf : env.scope.kind = .function := by rw [c.b.scope, c.b.kind]
  refine wpAny_Assign_Subscript (bndS rfl hr f (fun h => HE (c.stg f).pred ce h) fun d v s₁ _ g₁ h₁ => ?_) (ce.swaps hn _ _ _)
  have f₁ := f.step c.b g₁.2
  obtain ⟨kvs, hl, h₁⟩ := R.optB h₁ hr
  obtain ⟨ad, hv, hdi, _, _⟩ := f₁.liveDict c.b hx (dict_slot hl)
  refine var_load hkf hd hcd hv ?_
  refine wpAny_mono (key2 HE (c.stg f₁).pred ca cb (St.refl s₁) h₁ hr fun x' y' kv s₂ h₂ rk st₂ _ => ?_) (fun _ _ h => h) fun v s' h => let ⟨x, e, y⟩ := h; ⟨x, e, y.inFly f₁⟩
  obtain ⟨pk, z, hpk, rfl, ⟨hc1, hc2⟩, h₃⟩ := setDict_key h₂ hr
  have f₂ := f₁.step c.b st₂
  obtain ⟨tz, rfl⟩ := g₁.1.asInt rfl
  obtain ⟨h1, h2⟩ := pairKey_spec hpk
  subst h1 h2
  obtain ⟨ak, rfl, hk⟩ := pair_key (w := w) rk
  obtain ⟨ad', hv', hdi', hf', turn⟩ := f₂.liveDict c.b hx (dict_slot hl)
  obtain rfl : ad = ad' := Value.ref.inj ((hv.keep st₂.keep (fun z => z) fun _ _ z => z).inj hv')
  have R₂ := f₂.rm c.b c.R
  have hu := R₂.unitsOk
  obtain ⟨hs, xs, hm, hdk⟩ := hdi'
  have hlen := hdk.length
  have cl : cap = 65536 := rfl
  refine wpAny_setItem_heap (tupleKind_room_in1 (by lia)) hk hm (fun h' hm' hs' => ?_) (by rw [sizeLine_eq]; lia)
  have e0 := hdk.none (a := pk.1) (b := pk.2) hc1
  have est : storedH xs [pk.1, pk.2] ak (Value.int z tz) = xs ++ [([pk.1, pk.2], ak, Value.int z tz)] := by unfold storedH; rw [e0]; rfl
  rw [est] at hm'
  have hdk' := hdk.snoc pk.1 pk.2 z tz ak
  exact ⟨_, _, h₃, turn { s₂ with heap := h', toks := _ } _ ⟨hs, _, hm', hdk'⟩ hs'.extBut rfl rfl, .next⟩

/-- a value into a name, the owners told -/
theorem Fs.setVal' {ow : Nat → Option Addr} {i : Nat} {x : Str} {v : Value} {V : V} (b : Bd sc vs env s₀) (f : Fs w fr₀ s₀ vs env σ s) (S : Slots w s₀.heap (FRof (env :: fr₀)) vs env σ ow s.heap) (hx : vs[i]? = some x) (t : Stored env x v s s') (r : Rep (Pw ow) s.heap v V) :
    Fs w fr₀ s₀ vs env (σ.set i (.val V)) s' ∧ Slots w s₀.heap (FRof (env :: fr₀)) vs env (σ.set i (.val V)) (fun j => if j = i then none else ow j) s'.heap := by
  obtain ⟨C, hx', nt, nl, hC, hk⟩ := t.else_
  have hnew : s₀.heap.get? C = none := stored_new b hk
  have S' : Slots w s₀.heap (FRof (env :: fr₀)) vs env (σ.set i (.val V)) (fun j => if j = i then none else ow j) s'.heap := by
    refine S.ext (f.lt hx) hx' hC nt (fun its _ hl => (nl its hl).elim) (fun _ its => nl its) (fun kvs hd hf => (dict_ne b f.cell hk hd hf rfl).elim) (fun j y u hy q hu => t.other y u (get_nodup b.nodup hx hy q) hu) _ (fun j q => by simp [q]) (fun a e => by simp at e) (fun a o _ _ => by simp) fun y hy => ?_
    have : y = x := by rw [hx] at hy; cases hy; rfl
    subst this
    refine ⟨by simp, v, t.is, ?_⟩
    have r1 : Rep (fun a => ∀ j, (fun j => if j = i then none else ow j) j ≠ some a) s.heap v V := r.mono fun a _ _ p j => by
      by_cases q : j = i
      · simp [q]
      · simp only [q, if_false]; exact p j
    exact r1.ext hx' nt fun its _ => nl its
  exact ⟨⟨⟨f.st.keep.extNew hx' hnew, t.gens.trans f.st.gens, t.os.trans f.st.os⟩, t.ns, t.cell, by rw [List.length_set]; exact f.len, _, S'⟩, S'⟩

/-- an object turns that no name holds and no slot owns -/
theorem Fs.otherS {ow : Nat → Option Addr} {a : Addr} (f : Fs w fr₀ s₀ vs env σ s) (S : Slots w s₀.heap (FRof (env :: fr₀)) vs env σ ow s.heap) (hne : ∀ j c, ow j = some c → c ≠ a) (nt : ∀ its, ¬ IsTup s.heap a its) (nl : ∀ its, ¬ s.heap.IsList a its) (nL : env.locals ≠ a) (nC : ∀ y c, env.cells.lookup y = some c → c ≠ a)
    (hn : s₀.heap.get? a = none) (x' : Heap.ExtBut a s.heap s'.heap) (hg : s'.gens = s.gens) (hos : s'.os = s.os) : Fs w fr₀ s₀ vs env σ s' := by
  obtain ⟨m, hm⟩ := f.ns
  have mv : ∀ {y : Str} {u : Value}, VarIs env s.heap y u → VarIs env s'.heap y u := by
    intro y u h
    cases h with
    | loc p q r => exact .loc p (q.extBut x' nL) r
    | cell p q r => exact .cell p q (let ne := nC _ _ q; let ⟨o, ho, hd⟩ := r; ⟨o, x' _ o ne ho, hd⟩)
  refine ⟨⟨f.st.keep.extNew x' hn, hg.trans f.st.gens, hos.trans f.st.os⟩, ⟨m, hm.extBut x' nL⟩, fun y c e => ?_, f.len, ow, S.new, S.inj, S.dom, fun i y sl hy hsl => ?_⟩
  · obtain ⟨ov, r⟩ := f.cell y c e
    exact ⟨ov, let ne := nC _ _ e; let ⟨o, ho, hd⟩ := r; ⟨o, x' _ o ne ho, hd⟩⟩
  · have := S.slot i y sl hy hsl
    cases sl with
    | unb => exact this
    | val V => obtain ⟨n, v, h1, r⟩ := this; exact ⟨n, v, mv h1, r.ext x' nt fun its _ => nl its⟩
    | own l => obtain ⟨c, its, n, h1, h2, h3⟩ := this; exact ⟨c, its, n, mv h1, h2.extBut x' (hne _ _ n), h3.ext x' nt fun _ z => z.elim⟩
    | dict kvs => obtain ⟨c, n, h1, h2, h3⟩ := this; exact ⟨c, n, mv h1, h2, ext_dict' x' nt (hne _ _ n) h3⟩

theorem S_assignComp {i : Nat} {x : Str} {e : E} {pe : PySem.Expr} {q p : Pos} (HE : SimE w mg mb k) (HT : SimT w mg mb k) (c : SCtx mg mb (k + 1 + 1) G fr₀ s₀ A sc vs env) (f : Fs w fr₀ s₀ vs env σ s)
    (hx : vs[i]? = some x) (hn : noComp e = false) (ce : CpE sc vs e pe) (hsw : swapsWith pe (some (.Name x q)) p.line env = pure true) (hr : exS FT (k + 1 + 1) σ (.assignComp i e) ≠ .stuck) :
    wpAny (model PR w) (A.deeper env) (exec (.Assign [.Name x q] pe p) env) (PS w fr₀ s₀ vs env (exS FT (k + 1 + 1) σ (.assignComp i e))) (PXS mg G env fr₀ s₀ (exS FT (k + 1 + 1) σ (.assignComp i e))) s := by
  replace ce := CpE.un ce
  cases ce with
  | comp ct hnt ce cc ci so fo =>
    rename_i elt iter nt tupled cond free pt ts ys' pelt piter ifs csc p'
    rw [exec_Assign_Name_used _ _ _ _ hsw]
    refine wpAny_bind (wpAny_standAt (wpAny_bind ?_))
    show wpAny _ (A.deeper env) (do let _ ← comprehension (.ListComp pelt [⟨pt, piter, ifs, 0⟩] csc p') csc env _ (newList []) false (eval piter env) (some (assign (.Name x q) env))) _ _ s
    refine wpAny_bind (wpAny_mono (comp_core HE HT (use := some (assign (.Name x q) env)) (Z := PXS mg G env fr₀ s₀ (exS FT (k + 1 + 1) σ (.assignComp i (.comp elt iter nt tupled cond free)))) (Q := fun _ s' => PS w fr₀ s₀ vs env (exS FT (k + 1 + 1) σ (.assignComp i (.comp elt iter nt tupled cond free))) .next s')
      (c.stg f).pred ct hnt ce cc ci so fo rfl (R.ne_bind hr) (fun v s' h => ?_) fun res s' m ys D C eq K hns hl r hDC fC fD => ?_) (fun _ s' hq => wpAny_pure (wpAny_pure hq)) fun _ _ e => e)
    · obtain ⟨y, e, z⟩ := h
      exact ⟨y, R.bexc rfl e, z.inFly f⟩
    · have h₁ : exS FT (k + 1 + 1) σ (.assignComp i (.comp elt iter nt tupled cond free)) = if res.all (V.flat 8) then .ok (σ.set i (.val (.list res)), .next) else .stuck :=
        (congrArg (fun r => R.bind r _) eq).trans rfl
      obtain ⟨hc, h₁⟩ := R.ite h₁ hr
      have f₁ := f.step c.b K
      obtain ⟨ow, S0⟩ := f.slots
      have S₁ := S0.step K
      have own_ne : ∀ a, s.heap.get? a = none → ∀ j c', ow j = some c' → c' ≠ a := by
        rintro a ha j c' hj rfl
        obtain ⟨o, ho⟩ := S0.there f.len hj
        rw [ha] at ho; cases ho
      show wpAny _ _ (assign (.Name x q) env (.ref D)) _ _ s'
      have rep : Rep (Pw ow) s'.heap (.ref D) (.list res) := .list (fun j hj => own_ne D fD j D hj rfl) hl (r.mono fun _ _ _ z => z.elim)
      refine wpAny_assign_Name (store_name c.b (nameX hx) f₁.ns f₁.cell fun s'' t => ?_)
      obtain ⟨f₂, S₂⟩ := f₁.setVal' c.b S₁ hx t rep
      have fC2 : s₀.heap.get? C = none := f.st.keep.none fC
      have nL : env.locals ≠ C := by
        rintro rfl
        obtain ⟨m', o, _, _, ho, _⟩ := f.ns
        rw [fC] at ho; cases ho
      have nC : ∀ y c', env.cells.lookup y = some c' → c' ≠ C := by
        rintro y c' e rfl
        obtain ⟨ov, o, ho, _⟩ := f.cell y _ e
        rw [fC] at ho; cases ho
      obtain ⟨C1, x1, _, _, _, hk⟩ := t.else_
      have hC1 : C ≠ C1 := by
        rcases hk with rfl | ⟨y, e⟩
        · exact Ne.symm nL
        · exact Ne.symm (nC y _ e)
      have hns2 : s''.heap.Ns C m := hns.extBut x1 hC1
      refine ⟨m, hns2, fun h' hs' => ⟨_, _, h₁, f₂.otherS S₂ (fun j c' hj => ?_) (fun its => ns_noTup hns2 _ its rfl) (fun its hl => ns_noList hns2 hl) nL nC fC2 hs'.extBut rfl rfl, .next⟩⟩
      by_cases q : j = i
      · simp [q] at hj
      · simp only [q, if_false] at hj
        exact own_ne C fC j c' hj
  | _ => simp [noComp] at hn

theorem simF_succ (HE : SimE w mg mb k) (HEs : SimEs w mg mb k) : SimF w mg mb (k + 1) := by
  intro G fr A s σ sc vs env e pe hf g c hr
  replace c := c.un
  induction c using CpEF.casesOn <;> first | (cases hf; done) | skip
  case lst es pes p cs =>
    refine wpAny_List (bnd rfl hr (fun h => HEs _ g.pred cs h) (St.refl s) fun ds vals s₁ _ g₁ h₁ => ?_)
    obtain ⟨hc, h₁⟩ := R.ite h₁ hr
    have gn := Got.listNew (fr := fr) (s := s₁) g₁.1 s₁.toks
    exact ⟨by rw [g₁.1.length]; exact Nat.le_trans hc cap_line, _, h₁, ⟨gn.1, g₁.2.trans gn.2⟩, _, rfl, g₁.2.keep.none (Heap.get?_none_of_le (Nat.le_refl _))⟩
  case sorted a pa q p hx c1 =>
    refine g.call1 hx g.d.sorted c1 (bnd rfl hr (fun h => HE g.pred c1 h) (St.refl s) fun x v s₁ _ g₁ h₁ => ?_)
    obtain ⟨d, hd, h₁⟩ := R.opt h₁ hr
    refine wpAny_mono (sort_new hd g₁.1 (g.R.step g₁.2)) (fun v' s₂ h => ?_) fun _ _ y => y
    obtain ⟨⟨r, st⟩, a, ha, hn⟩ := h
    exact ⟨_, h₁, ⟨r, g₁.2.trans st⟩, a, ha, g₁.2.keep.none hn⟩
end
end Mine
end

/-! text M31 -/
section
set_option bootstrap.genMatcherCode false
set_option maxRecDepth 100000
open PySem PySem.Calls PyProof.Rows PySem.W
namespace Mine

/-! cells -/
theorem cellsFrom_acc (l : List (Str × NameKind)) : ∀ (n : Nat) (acc : List (Str × Addr)), cellsFrom n l acc = cellsFrom n l [] ++ acc := by
  induction l with
  | nil => intro n acc; rfl
  | cons p l ih =>
    intro n acc
    obtain ⟨x, k⟩ := p
    simp only [cellsFrom]
    split
    · rw [ih (n + 1) ((x, n) :: acc), ih (n + 1) [(x, n)]]; simp
    · exact ih n acc
theorem cellsFrom_mem (l : List (Str × NameKind)) : ∀ (n : Nat) (x : Str) (c : Addr), (x, c) ∈ cellsFrom n l [] → n ≤ c ∧ (x, NameKind.cell) ∈ l := by
  induction l with
  | nil => intro n x c h; simp [cellsFrom] at h
  | cons p l ih =>
    intro n x c h
    obtain ⟨y, k⟩ := p
    simp only [cellsFrom] at h
    split at h
    · rename_i hk
      rw [cellsFrom_acc] at h
      rcases List.mem_append.mp h with h | h
      · obtain ⟨h1, h2⟩ := ih (n + 1) x c h
        exact ⟨Nat.le_of_succ_le h1, .tail _ h2⟩
      · simp at h
        obtain ⟨rfl, rfl⟩ := h
        refine ⟨Nat.le_refl _, ?_⟩
        rw [show k = NameKind.cell from by simpa using hk]
        exact .head _
    · obtain ⟨h1, h2⟩ := ih n x c h
      exact ⟨h1, .tail _ h2⟩
theorem cellsFrom_has (l : List (Str × NameKind)) : ∀ (n : Nat) (x : Str), (x, NameKind.cell) ∈ l → ∃ c, (x, c) ∈ cellsFrom n l [] := by
  induction l with
  | nil => intro n x h; simp at h
  | cons p l ih =>
    intro n x h
    obtain ⟨y, k⟩ := p
    simp only [cellsFrom]
    rcases List.mem_cons.mp h with h | h
    · cases h
      simp only [beq_self_eq_true, if_true]
      rw [cellsFrom_acc]
      exact ⟨n, by simp⟩
    · split
      · obtain ⟨c, hc⟩ := ih (n + 1) x h
        rw [cellsFrom_acc]
        exact ⟨c, List.mem_append_left _ hc⟩
      · exact ih n x h
theorem lookup_isSome {α : Type} {l : List (Str × α)} {x : Str} {c : α} (h : (x, c) ∈ l) : ∃ d, l.lookup x = some d := by
  induction l with
  | nil => simp at h
  | cons p l ih =>
    obtain ⟨y, e⟩ := p
    rw [List.lookup_cons]
    cases q : x == y with
    | true => exact ⟨e, rfl⟩
    | false =>
      rcases List.mem_cons.mp h with h | h
      · cases h; simp at q
      · exact ih h

theorem bindL_miss {kd : Str → Option NameKind} : ∀ (l : List (Str × Value)) (m : Str → Option Value) (y : Str), y ∉ l.map (·.1) → bindL kd l m y = m y
  | [], _, _, _ => rfl
  | (n, v) :: r, m, y, h => by
    simp only [List.map_cons, List.mem_cons, not_or] at h
    simp only [bindL]
    rw [bindL_miss r _ y h.2]
    split
    · simp [h.1]
    · rfl
theorem bindC_miss {kd : Str → Option NameKind} : ∀ (l : List (Str × Value)) (m : Str → Option Value) (y : Str), y ∉ l.map (·.1) → bindC kd l m y = m y
  | [], _, _, _ => rfl
  | (n, v) :: r, m, y, h => by
    simp only [List.map_cons, List.mem_cons, not_or] at h
    simp only [bindC]
    rw [bindC_miss r _ y h.2]
    split
    · rfl
    · simp [h.1]
theorem bindL_get {kd : Str → Option NameKind} : ∀ (l : List (Str × Value)) (m : Str → Option Value) (y : Str) (v : Value), (l.map (·.1)).Nodup → (y, v) ∈ l → kd y = some .local → bindL kd l m y = some v
  | (n, u) :: r, m, y, v, nd, h, hk => by
    simp only [List.map_cons, List.nodup_cons] at nd
    simp only [bindL]
    rcases List.mem_cons.mp h with h | h
    · cases h
      rw [bindL_miss r _ _ nd.1, if_pos hk]
      simp
    · exact bindL_get r _ y v nd.2 h hk
theorem bindC_get {kd : Str → Option NameKind} : ∀ (l : List (Str × Value)) (m : Str → Option Value) (y : Str) (v : Value), (l.map (·.1)).Nodup → (y, v) ∈ l → kd y = some .cell → bindC kd l m y = some v
  | (n, u) :: r, m, y, v, nd, h, hk => by
    simp only [List.map_cons, List.nodup_cons] at nd
    simp only [bindC]
    rcases List.mem_cons.mp h with h | h
    · cases h
      rw [bindC_miss r _ _ nd.1, if_neg (by rw [hk]; simp)]
      simp
    · exact bindC_get r _ y v nd.2 h hk

section
variable {w : World} {mg mb : Str → Option Value}
variable {G : Heap} {fr₀ : List PySem.Env} {A A' : Around} {k : Nat} {s s₀ s₁ s' s'' : Shared} {Z : Value → Shared → Prop} {sc : Scope} {σ : Env} {vs : List Str} {env : PySem.Env}

/-- a call of a function of the program, whatever frames lie below -/
theorem callC (HSs : SimSs w mg mb k) {G : Heap} {fr : List PySem.Env} {A : Around} {s : Shared} {x : Str} {f : Nat} {vals : List Value} {ds : List V} {fv : Value} (d : Gd mg mb G) (R : Rm0 G fr A (k + 1) s.heap) (hf : tb0.fn x = some f) (har : ds.length = tb0.ar f) (rl : RepL Tr s.heap vals ds) (hm : mg x = some fv) (hr : evC FT (k + 1) f ds ≠ .stuck) :
    wpAny (model PR w) A (call fv vals) (PV fr s (evC FT (k + 1) f ds)) (PX mg G fr s (evC FT (k + 1) f ds)) s := by
  obtain ⟨a, o, fd, hm', ho, hd, fn, name, params, body, scope, pm, cd, doc, vs, hFT, rfl, hcd, ok⟩ := d.fn x f hf
  rw [hm] at hm'; cases hm'
  have hev : evC FT (k + 1) f ds = (exSs FT k (ds.map .val ++ List.replicate (fn.slots - ds.length) .unb) fn.body).bind fun p => .ok (match p.2 with | .ret v => v | .next => .none) := by
    show (match FT f with | .none => Mine.R.stuck | some fn => _) = _
    rw [hFT] <;> rfl
  rw [hev] at hr ⊢
  have hlen : vals.length = tb0.ar f := rl.length.trans har
  have hG := R.keepG
  have hdep := R.depthOk
  have hkind : ∀ y ∈ (vs.take (tb0.ar f)).zip vals, scope.names.lookup y.1 = some .local ∨ (scope.names.lookup y.1 = some .cell ∧ ((cellsFrom (s.heap.objs.size + 1) scope.names []).lookup y.1).isSome = true) := by
    intro y hy
    have hmem : y.1 ∈ vs := List.mem_of_mem_take (List.of_mem_zip hy).1
    rcases ok.kinds _ hmem with h | h
    · exact .inl h
    · refine .inr ⟨h, ?_⟩
      obtain ⟨c, hc⟩ := cellsFrom_has scope.names (s.heap.objs.size + 1) y.1 (mem_of_lookup h)
      obtain ⟨d', hd'⟩ := lookup_isSome hc
      rw [hd']; rfl
  refine wpAny_call (call_cells (by lia) (hG _ _ ho) hd R.nolimit (hcd.keeps hG) (ok.bind _ _ _ _ vals hlen) hkind (fun h₁ tk F C => ?_) ok.coro ok.gen ok.kind)
  generalize henv : envOfC name scope s.heap.objs.size a cd = env at F C ⊢
  have e_scope : env.scope = scope := by rw [← henv]; rfl
  have e_loc : env.locals = s.heap.objs.size := by rw [← henv]; rfl
  have e_cells : env.cells = cellsFrom (s.heap.objs.size + 1) scope.names [] := by rw [← henv]; rfl
  have e_glob : env.globals = mainGlobals := by rw [← henv]; rfl
  have e_blt : env.builtins = builtinsNs := by rw [← henv]; rfl
  have e_fr : env.frame = some env.locals := by rw [← henv]; rfl
  have b : Bd scope vs env s := by
    refine ⟨e_scope, ok.kind, ok.gen, ok.coro, e_glob, e_blt, e_fr, ok.nodup, ok.kinds, fun y hy => ?_, fun y z c h1 h2 => ?_, ?_, fun y c h1 => ?_⟩
    · rw [e_cells]
      obtain ⟨c, hc⟩ := cellsFrom_has scope.names (s.heap.objs.size + 1) y (mem_of_lookup hy)
      exact lookup_isSome hc
    · rw [e_cells] at h1 h2
      exact (name_of_addr C.apart (mem_of_lookup h1) (mem_of_lookup h2))
    · rw [e_loc]; exact Heap.get?_none_of_le (Nat.le_refl _)
    · rw [e_cells] at h1
      exact Heap.get?_none_of_le (Nat.le_of_succ_le (cellsFrom_mem _ _ _ _ (mem_of_lookup h1)).1)
  have f₀ : Fs w fr s vs env (ds.map .val ++ List.replicate (fn.slots - ds.length) .unb) { s with heap := h₁, toks := tk } := by
    refine ⟨St.of_keeps F.keep, ⟨_, e_loc ▸ F.ns⟩, fun y c hc => ⟨_, C.cell y c (e_cells ▸ hc)⟩, ?_, fun _ => none, nofun, nofun, nofun, fun i y sl hy hsl => ?_⟩
    · have h1 := ok.slots
      have h2 := ok.few
      simp only [List.length_append, List.length_map, List.length_replicate]
      lia
    · by_cases q : i < ds.length
      · rw [List.getElem?_append_left (by simpa using q), List.getElem?_map, Option.map_eq_some_iff] at hsl
        obtain ⟨d1, hd1, rfl⟩ := hsl
        obtain ⟨v1, hv1, r1⟩ := rl.get i d1 hd1
        have hbmem : (y, v1) ∈ (vs.take (tb0.ar f)).zip vals := by
          refine List.mem_of_getElem? (i := i) ?_
          rw [List.getElem?_zip_eq_some]
          exact ⟨by rw [List.getElem?_take_of_lt (by lia)]; exact hy, hv1⟩
        have hnd : (((vs.take (tb0.ar f)).zip vals).map (·.1)).Nodup := by
          have e : ((vs.take (tb0.ar f)).zip vals).map (·.1) = vs.take (tb0.ar f) := by
            rw [List.map_fst_zip]
            have := ok.few
            simp only [List.length_take]; lia
          rw [e]
          exact ok.nodup.sublist (List.take_sublist _ _)
        have kk : ∀ z, env.kindOf z = scope.names.lookup z := fun z => by show env.scope.names.lookup z = _; rw [e_scope]
        refine ⟨rfl, v1, ?_, (r1.step (FR := []) (Keep.of_keeps F.keep)).mono fun _ _ _ _ _ => nofun⟩
        rcases ok.kinds y (List.mem_of_getElem? hy) with h | h
        · exact .loc ((kk y).trans h) (e_loc ▸ F.ns) (bindL_get _ _ _ _ hnd hbmem ((kk y).trans h))
        · obtain ⟨c1, hc1⟩ := b.cellv y h
          have := C.cell y c1 (e_cells ▸ hc1)
          rw [bindC_get _ _ _ _ hnd hbmem ((kk y).trans h)] at this
          exact .cell (.inl ((kk y).trans h)) hc1 this
      · rw [List.getElem?_append_right (by simpa using q)] at hsl
        have : sl = .unb := by
          have := List.mem_of_getElem? hsl
          exact (List.mem_replicate.mp this).2
        subst this
        rfl
  have c : SCtx mg mb k G fr s A scope vs env := ⟨d, R, b⟩
  refine wpAny_mono (HSs c f₀ ok.body (Mine.R.ne_bind hr)) (fun fl s₂ h => ?_) fun v s₂ h => ?_
  · obtain ⟨σ', fl', e, f₂, hfl⟩ := h
    rw [e, Mine.R.bind_ok]
    cases hfl with
    | next => exact ⟨_, rfl, .none, f₂.st⟩
    | ret r => exact ⟨_, rfl, r, f₂.st⟩
  · obtain ⟨y, e, z⟩ := h
    obtain ⟨ea, C1, dd, fl, rfl, hC1, hF, hfl, hat⟩ := z.is
    have hfr : (A.deeper env).frames = some (env :: fr) := (f₀.rm b R).frames
    refine leave_flt hfr e_fr hfl hF fun h' F' u => ?_
    exact ⟨y, by rw [e]; rfl, ⟨⟨ea, C1, dd, rfl, hC1, F', hat.ups u⟩, fun L hL m hm => u.ns (z.names L hL m hm), z.gens, z.os⟩⟩

theorem simC_succ (HSs : SimSs w mg mb k) : SimC w mg mb (k + 1) := fun d R hf har rl hm hr => callC HSs d R.toRm0 hf har rl hm hr
end
end Mine
end

/-! text M32 -/
section
set_option bootstrap.genMatcherCode false
set_option maxRecDepth 100000
open PySem PySem.Calls PyProof.Rows PySem.W
namespace Mine

noncomputable def isX : S → Bool
  | .raiseBook _ => true
  | .raiseSan _ => true
  | .raiseEpd _ => true
  | .tryBook _ _ => true
  | .trySolved _ => true
  | _ => false

/-- the statements that raise and catch -/
noncomputable def SimX (w : World) (mg mb : Str → Option Value) (k : Nat) : Prop := ∀ {G fr₀ s₀ A sc vs env σ s st pst}, isX st = true → SCtx mg mb (k + 1) G fr₀ s₀ A sc vs env → Fs w fr₀ s₀ vs env σ s → CpS sc vs st pst → exS FT (k + 1) σ st ≠ .stuck →
  wpAny (model PR w) (A.deeper env) (exec pst env) (PS w fr₀ s₀ vs env (exS FT (k + 1) σ st)) (PXS mg G env fr₀ s₀ (exS FT (k + 1) σ st)) s

section
variable {w : World} {mg mb : Str → Option Value}
variable {G : Heap} {fr₀ : List PySem.Env} {A A' : Around} {k : Nat} {s s₀ s₁ s' s'' : Shared} {Z : Value → Shared → Prop} {sc : Scope} {σ : Env} {vs : List Str} {env : PySem.Env}

theorem simS_succ (HE : SimE w mg mb k) (HEs : SimEs w mg mb k) (HT : SimT w mg mb k) (HF : SimF w mg mb k) (HSs : SimSs w mg mb k) (HX : SimX w mg mb k)
    (HP : k = 0 ∨ ∃ k', k = k' + 1 ∧ SimE w mg mb k' ∧ SimT w mg mb k') : SimS w mg mb (k + 1) := by
  intro G fr₀ s₀ A sc vs env σ s st pst c f cp hr
  by_cases hX : isX st = true
  · exact HX hX c f cp hr
  replace cp := cp.un
  induction cp using CpSF.casesOn with
  | assign hx hn ce => exact S_assign HE c f hx hn ce hr
  | assignComp hx hl hn ce hsw =>
    rename_i i x e pe q p
    rcases HP with rfl | ⟨k', rfl, h1, h2⟩
    · exact (hr rfl).elim
    · exact S_assignComp h1 h2 c f hx hn ce (hsw env (by rw [c.b.scope, c.b.kind]) (by show env.scope.names.lookup _ = _; rw [c.b.scope]; exact hl)) hr
  | assignOwn hx ce => exact S_assignOwn HEs c f hx ce hr
  | assignDict hx => exact S_assignDict c f hx
  | assignTup cn hn hnt ce => exact S_assignTup HE c f cn hn hnt ce hr
  | aug hx h2 ho ha ce => exact S_aug HE c f hx h2 ho ha ce hr
  | append hx hd hcd hl ce => exact S_append HE c f hx hd hcd hl ce hr
  | setIdx hx hd hcd hn ck ce => exact S_setIdx HE c f hx hd hcd hn ck ce hr
  | setDict hx hd hcd hn ca cb ce => exact S_setDict HE c f hx hd hcd hn ca cb ce hr
  | forR hx hg ces cb => exact S_forR HEs HSs c f hx hg ces cb hr
  | forV1 hx ce cb =>
    refine S_forV HE HF HSs c f ce cb (fun s₀ σ σ' s v d Q Z b f r hb h => bind_one b hx f r hb h) hr
  | forVn cn ce cb =>
    have hh : (A.deeper env).handled = none := c.R.handled
    refine S_forV HE HF HSs c f ce cb (fun s₀ σ σ' s v d Q Z b f r hb h => bind_tup hh b cn f r hb h) hr
  | «while» cc cb => exact S_while HT HSs c f cc cb hr
  | ite cc ca cb => exact S_ite HT HSs c f cc ca cb hr
  | ret ce => exact S_ret HE c f ce hr
  | expr hn ce => exact (hr rfl).elim
  | stuck => exact (hr rfl).elim
  | raiseBook hg ce => exact (hX rfl).elim
  | raiseSan hg ce => exact (hX rfl).elim
  | raiseEpd hg ce cf => exact (hX rfl).elim
  | tryBook => exact (hX rfl).elim
  | trySolved => exact (hX rfl).elim
end

/-- all that is told at one fuel -/
structure All (w : World) (mg mb : Str → Option Value) (k : Nat) : Prop where
  e : SimE w mg mb k
  es : SimEs w mg mb k
  o : SimO w mg mb k
  b : SimB w mg mb k
  t : SimT w mg mb k
  ts : SimTs w mg mb k
  c : SimC w mg mb k
  f : SimF w mg mb k
  s : SimS w mg mb k
  ss : SimSs w mg mb k

theorem all_zero (w : World) (mg mb : Str → Option Value) : All w mg mb 0 where
  e := by intro G fr A s σ sc vs env e pe g c hr; exact (hr rfl).elim
  es := by intro G fr A s σ sc vs env e pe p g c hr; exact (hr rfl).elim
  o := by intro G fr A s σ sc vs env e pe g c hr; exact (hr rfl).elim
  b := by intro G fr A s σ sc vs env e pe p b g c hr; exact (hr rfl).elim
  t := by intro G fr A s σ sc vs env e pe g c hr; exact (hr rfl).elim
  ts := by intro G fr A s σ sc vs env e pe b g c hr; exact (hr rfl).elim
  c := by intro G fr A s x f vals ds fv g R h1 h2 h3 h4 hr; exact (hr rfl).elim
  f := by intro G fr A s σ sc vs env e pe hf g c hr; exact (hr rfl).elim
  s := by intro G fr₀ s₀ A sc vs env σ s st pst c f cp hr; exact (hr rfl).elim
  ss := by intro G fr₀ s₀ A sc vs env σ s st pst c f cp hr; exact (hr rfl).elim

theorem all_succ {w : World} {mg mb : Str → Option Value} {k : Nat} (X : ∀ k, SimE w mg mb k → SimX w mg mb k) (a : All w mg mb k)
    (HP : k = 0 ∨ ∃ k', k = k' + 1 ∧ SimE w mg mb k' ∧ SimT w mg mb k') : All w mg mb (k + 1) where
  e := simE_succ a.e a.es a.o a.b a.t a.c (simK_of a.e a.t)
  es := simEs_succ a.e a.es
  o := simO_succ a.e
  b := simB_succ a.e a.b
  t := simT_succ a.e a.t a.ts
  ts := simTs_succ a.t a.ts
  c := simC_succ a.ss
  f := simF_succ a.e a.es
  s := simS_succ a.e a.es a.t a.f a.ss (X k a.e) HP
  ss := simSs_succ a.s a.ss

theorem all_of {w : World} {mg mb : Str → Option Value} (X : ∀ k, SimE w mg mb k → SimX w mg mb k) : ∀ k, All w mg mb k ∧ (k = 0 ∨ ∃ k', k = k' + 1 ∧ SimE w mg mb k' ∧ SimT w mg mb k')
  | 0 => ⟨all_zero .., .inl rfl⟩
  | k + 1 => let ⟨a, hp⟩ := all_of X k; ⟨all_succ X a hp, .inr ⟨k, rfl, a.e, a.t⟩⟩
end Mine
end

/-! text M34 -/
section
set_option bootstrap.genMatcherCode false
set_option maxRecDepth 100000
open PySem
namespace Mine
section
variable {w : World} {M : Model} {A : Around} {E : Value → Shared → Prop} {h : Heap} {g : Array GenState} {d : Drawn} {t : Nat} {os : OsState}
variable {nm q : Str} {C N : Addr} {bs bm bmB : List Value} {hdct : Bool} {sn : List Str} {sub : List Value} {ab : Bool} {col : Option Bool} {dd : Option Addr} {k0 k1 k2 k3 k5 : Option Value} {B newId initId : String}

/-- what the line of a class above it says, whatever classes of the program stand in it -/
structure Line (B : String) (bm : List Value) : Prop where
  hasB : bm.contains (.type B) = true
  hasBase : bm.contains (.type "BaseException") = true
  noAttr : bm.contains (.type "AttributeError") = false
  noName : bm.contains (.type "NameError") = false

theorem lookup_init1 {mN : Str → Option Value} {v : Value} {Q : Option Value → Shared → Prop} (hC : h.get? C = some (excClassObj nm q C N bs bm hdct sn sub ab col dd k0 k1 k2 k3 k5 newId)) (hn : h.Ns N mN) (hi : mN "__init__" = some v)
    (hq : Q (some v) ⟨h, g, d, t, os⟩) : wpAny M A (typeLookup (.ref C) "__init__") Q E ⟨h, g, d, t, os⟩ := by
  rw [typeLookup_eq]
  refine wpAny_bind (wpAny_mroOf_exc hC ?_)
  rw [lookupAlong_cons]
  refine wpAny_bind (wpAny_classOwn_exc hC hn ?_)
  rw [hi]
  exact wpAny_pure hq
theorem lookup_init2 {mN mP : Str → Option Value} {v : Value} {P : Addr} {tl : List Value} {c0 : Value} {dP : Option Addr} {cd : ClassData} {sl : Array (Option Value)} {Q : Option Value → Shared → Prop}
    (hC : h.get? C = some (excClassObj nm q C N bs (.ref P :: tl) hdct sn sub ab col dd k0 k1 k2 k3 k5 newId)) (hn : h.Ns N mN) (hni : mN "__init__" = none)
    (hP : h.get? P = some { cls := c0, dict := dP, data := .cls cd, slots := sl }) (hnP : h.Ns cd.ns mP) (hi : mP "__init__" = some v)
    (hq : Q (some v) ⟨h, g, d, t, os⟩) : wpAny M A (typeLookup (.ref C) "__init__") Q E ⟨h, g, d, t, os⟩ := by
  rw [typeLookup_eq]
  refine wpAny_bind (wpAny_mroOf_exc hC ?_)
  rw [lookupAlong_cons]
  refine wpAny_bind (wpAny_classOwn_exc hC hn ?_)
  rw [hni]
  show wpAny M A (lookupAlong (.ref P :: tl) "__init__") Q E _
  rw [lookupAlong_cons]
  refine wpAny_bind (wpAny_classOwn_cls hP hnP ?_)
  rw [hi]
  exact wpAny_pure hq

theorem check_new_line (F : ExcBaseFacts B newId initId bmB) (L : Line B bm) {rest : List Value} {Q : Unit → Shared → Prop} (hC : h.get? C = some (excClassObj nm q C N bs bm hdct sn sub ab col dd k0 k1 k2 k3 k5 newId))
    (hq : Q () ⟨h, g, d, t, os⟩) : wpAny M A (checkBuiltinCall newId ⟨.ref C :: rest, []⟩) Q E ⟨h, g, d, t, os⟩ := by
  have hcont : (Value.ref C :: bm).contains (.type B) = true := by rw [List.contains_cons, L.hasB, Bool.or_true]
  have hstar := F.noStar
  simp only [checkBuiltinCall, F.newKind, F.newSplit, F.newRow]
  repeat (first | refine wpAny_loadPart_at hC ?_ | (refine wpAny_isSubtype_exc hC ?_; rw [hcont]) | refine wpAny_staticBase_exc hC ?_ | refine wpAny_madeBy_exc hC ?_ | simp only [bne_self_eq_false, Bool.false_eq_true, if_false] | wp_step)
  exact hq

theorem exc_new_line {R : Result → Shared → Prop} (F : ExcBaseFacts B newId initId bmB) (L : Line B bm) {rest : List Value} (hC : h.get? C = some (excClassObj nm q C N bs bm hdct sn sub ab col dd k0 k1 k2 k3 k5 newId))
    (hq : R (.ok (.ret (.ref (h.objs.size + 1)))) ⟨(h.push { cls := .type "tuple", data := .seq rest.toArray }).push
      { cls := .ref C, data := .fields #[.ref h.objs.size, .none, .none, .none, .bool false, .none] }, g, d, t, os⟩) (hrest : rest.length ≤ sizeLine) :
    codeAny (model PR w) A (.builtin newId ⟨.ref C :: rest, []⟩) R ⟨h, g, d, t, os⟩ := by
  have hends := F.ends
  have hcB : (Value.ref C :: bm).contains (.type B) = true := by rw [List.contains_cons, L.hasB, Bool.or_true]
  have hcA : (Value.ref C :: bm).contains (.type "AttributeError") = false := by rw [List.contains_cons, L.noAttr]; rfl
  have hcN : (Value.ref C :: bm).contains (.type "NameError") = false := by rw [List.contains_cons, L.noName]; rfl
  refine codeAny_builtinAt F.entry ?_
  unfold Builtin.«BaseException.__new__»
  refine wpAt_bind ?_
  show wpAt _ _ _ (stack >>= _) _ _ _
  refine wpAt_bind (wpAt_stack fun p below => wpAt_of_wpAny ?_)
  wp_walk
  refine wpAt_of_wpAny ?_
  rw [F.owner]
  repeat (first | with_reducible refine wpAny_madeHere_exc F.canon hC ?_ | with_reducible refine wpAny_loadPart_at hC ?_ | (with_reducible refine wpAny_isSubtype_exc hC ?_; first | rw [hcB] | rw [hcA] | rw [hcN]) | wp_step)
  show R _ _
  rw [Heap.size_push]
  exact hq

/-- a class of the program is called; its __init__ is a function of the program -/
theorem type_call_line (F : ExcBaseFacts B newId initId bmB) (L : Line B bm) {rest : List Value} {fI : Addr} {oI : Obj} {Q : Fin → Shared → Prop}
    (hC : h.get? C = some (excClassObj nm q C N bs bm hdct sn sub ab col dd k0 k1 k2 k3 k5 newId))
    (hlook : ∀ (h' : Heap) (Q : Option Value → Shared → Prop), (∀ b o, h.get? b = some o → h'.get? b = some o) → Q (some (.ref fI)) ⟨h', g, d, t, os⟩ → wpAny (model PR w) A (typeLookup (.ref C) "__init__") Q E ⟨h', g, d, t, os⟩)
    (hfI : h.get? fI = some oI) (hfc : oI.cls = .type "function")
    (hq : ∀ h' e, Heap.MadeExcOf h h' e (.ref C) rest →
      wpAny (model PR w) A (call (.ref fI) (.ref e :: rest)) (fun r s' => r = .none ∧ Q (.done (.ret (.ref e))) s') E ⟨h', g, d, t, os⟩) (hrest : rest.length ≤ sizeLine) :
    wpAny (model PR w) A (Builtin.«type.__call__» ⟨.ref C :: rest, []⟩) Q E ⟨h, g, d, t, os⟩ := by
  repeat (first | with_reducible refine wpAny_loadPart_at hC ?_ | with_reducible refine wpAny_madeBy_exc hC ?_ | wp_step)
  refine codeAny_call_builtin_code (Code.quiet_builtin _ F.quiet) (check_new_line F L hC ?_)
  refine exc_new_line F L hC ?_ hrest
  show wpAny _ _ _ _ _ _
  have hC₁ := Heap.get?_push_of_some { cls := .ref C, data := .fields #[.ref h.objs.size, .none, .none, .none, .bool false, .none] }
    (Heap.get?_push_of_some { cls := .type "tuple", data := .seq rest.toArray } hC)
  have hfI₁ := Heap.get?_push_of_some { cls := .ref C, data := .fields #[.ref h.objs.size, .none, .none, .none, .bool false, .none] }
    (Heap.get?_push_of_some { cls := .type "tuple", data := .seq rest.toArray } hfI)
  have hget : ((h.push { cls := .type "tuple", data := .seq rest.toArray }).push
      { cls := .ref C, data := .fields #[.ref h.objs.size, .none, .none, .none, .bool false, .none] }).get? (h.objs.size + 1) = some
      { cls := .ref C, data := .fields #[.ref h.objs.size, .none, .none, .none, .bool false, .none] } := by heap_get
  have hcC : (Value.ref C :: bm).contains (.ref C) = true := by simp
  unfold isInstance
  repeat (first | with_reducible refine wpAny_loadPart_at hget ?_ | (with_reducible refine wpAny_isSubtype_exc hC₁ ?_; rw [hcC]) | wp_step)
  show wpAny _ _ (typeLookup (.ref C) _) _ _ _
  refine hlook _ _ (fun b o e => Heap.get?_push_of_some _ (Heap.get?_push_of_some _ e)) ?_
  refine wpAny_holding (wpAny_bind ?_)
  unfold bindSpecial
  refine wpAny_bind (wpAny_typeOf (T := "function") ⟨_, hfI₁, hfc⟩ ?_)
  rw [if_pos (by decide)]
  refine wpAny_pure (wpAny_bind (wpAny_mono (hq _ (h.objs.size + 1) ⟨fun b o hb => Heap.get?_push_of_some _ (Heap.get?_push_of_some _ hb), Heap.get?_none_of_le (Nat.le_succ _), h.objs.size, hget, Heap.get?_none_of_le (Nat.le_refl _), ?_⟩) (fun r s' hr => ?_) fun _ _ x => x))
  · exact Heap.get?_push_of_some _ (Heap.get?_push_at rfl rfl)
  · obtain ⟨rfl, hQ⟩ := hr
    wp_walk
    exact hQ

theorem call_line (F : ExcBaseFacts B newId initId bmB) (L : Line B bm) {rest : List Value} {fI : Addr} {oI : Obj} {Q : Value → Shared → Prop}
    (hC : h.get? C = some (excClassObj nm q C N bs bm hdct sn sub ab col dd k0 k1 k2 k3 k5 newId))
    (hlook : ∀ (A : Around) (h' : Heap) (Q : Option Value → Shared → Prop), (∀ b o, h.get? b = some o → h'.get? b = some o) → Q (some (.ref fI)) ⟨h', g, d, t, os⟩ → wpAny (model PR w) A (typeLookup (.ref C) "__init__") Q E ⟨h', g, d, t, os⟩)
    (hfI : h.get? fI = some oI) (hfc : oI.cls = .type "function")
    (hq : ∀ h' e, Heap.MadeExcOf h h' e (.ref C) rest →
      wpAny (model PR w) (A.under (.builtin "type.__call__" ⟨.ref C :: rest, []⟩)) (call (.ref fI) (.ref e :: rest)) (fun r s' => r = .none ∧ Q (.ref e) s') E ⟨h', g, d, t, os⟩) (hrest : rest.length ≤ sizeLine) :
    wpAny (model PR w) A (call (.ref C) rest) Q E ⟨h, g, d, t, os⟩ := by
  have f1 := tc_lookup
  have f2 := tc_bind (.ref C)
  have hT : (⟨h, g, d, t, os⟩ : Shared).TypeIs (.ref C) "type" := ⟨_, hC, rfl⟩
  refine wpAny_call (codeAny_of_tree ?_)
  show wpAny _ _ (callAny (.ref C) _) _ _ _
  repeat (any_goals (first | assumption | with_reducible refine wpAny_loadPart_at hC ?_ | wp_step))
  refine ⟨rfl, ?_⟩
  refine codeAny_call_builtin_at (Code.quiet_builtin _ (by decide +kernel)) entry_typeCall (wpAny_check_type_call_sub hC (type_call_line F L hC (fun h' Q k hq => hlook _ h' Q k hq) hfI hfc (fun h' e hm => ?_) hrest))
  exact hq h' e hm
end
end Mine
end

/-! text M35 -/
section
set_option bootstrap.genMatcherCode false
open PySem PySem.Calls PyProof.Rows PySem.W PySem.Builtin PySem.Builtin.ObjectAttr
set_option maxRecDepth 100000
namespace Mine
section
variable {w : World} {A : Around} {E : Value → Shared → Prop} {s : Shared} {K : Frag} {x C : Addr} {R : Result → Shared → Prop}

theorem refuse_exc (self : Value) : refuseLoop self "__setattr__" [.type "Exception", .type "BaseException", .type "object"] = pure () := by kernel_rfl

/-- object.__setattr__ on a thing of a class of the program, whatever builtin classes stand above it -/
theorem osa_open' {ox : Obj} {od : Option Obj} {name : Str} {tk : Tok} {v : Value} {r : Option Value} {cd : ClassData} (X : K.In s.heap) (I : InstAt s.heap x ox C od) (hc : clsIn K C = some cd)
    (hpass : ∀ self, refuseLoop self "__setattr__" cd.mro = pure ()) (hobj : cd.mro.contains (.type "object") = true) (ht : takerIn K C name = some r)
    (h : ∀ b, wpAny (model PR w) A.in1 (match r with | some a => setByDescriptor a (.ref x) v | none => storeInOwnDict (.ref x) (.ref C) (.str name tk) name v b)
      (fun fin s' => match fin with | .done f => R (.ok f) s' | .again c' => c'.quiet = true ∧ codeAny (model PR w) A c' R s') (fun e s' => R (.error e) s') s) :
    codeAny (model PR w) A (.call (.builtin "object.__setattr__") ⟨[.ref x, .str name tk, v], []⟩) R s := by
  have SF := PySem.F.store_object
  have ne : cd.mro.isEmpty = false := by
    cases q : cd.mro with
    | nil => rw [q] at hobj; simp at hobj
    | cons _ _ => rfl
  have sub : Looks (model PR w) s.heap (isInstance (.ref x) (.type "object")) true := I.type.andThen (looks_mroIn X (by unfold mroIn; rw [hc, Option.bind_some, if_neg (by rw [ne]; decide), hobj]))
  refine codeAny_call_builtin SF.slot.plain SF.entry (@check_slot (model PR w) _ _ s "object.__setattr__" "object" "__setattr__" (.ref x) [.str name tk, v] [] _ SF.kind SF.split sub (SF.args (.ref x) (.str name tk) v) ?_)
  obtain ⟨attr, ha, hr⟩ := Option.bind_eq_some_iff.mp ht
  have hm : Looks (model PR w) s.heap (mroOf (.ref C)) cd.mro := (looks_clsIn X hc).andThen .now
  have L3 : Looks (model PR w) s.heap (storeTaker? attr) r := by
    cases attr with
    | none => cases hr; exact .now
    | some a =>
      obtain ⟨b, hb, rfl⟩ := Option.map_eq_some_iff.mp hr
      refine (looks_takesIn X hb).andThen ?_
      cases b <;> exact .now
  rw [osa_eq, refuse_eq]
  refine wpAny_bind (wpAny_bind (I.type.here (wpAny_bind (hm.here ?_))))
  rw [hpass]
  refine wpAny_pure (wpAny_bind (I.type.here (wpAny_bind ((looks_findIn X ha).here (wpAny_bind (L3.here ?_))))))
  exact h _
end
end Mine
end

/-! text M36 -/
section
set_option bootstrap.genMatcherCode false
open PySem PySem.Calls PyProof.Rows PySem.W PySem.Builtin PySem.Builtin.ObjectAttr
set_option maxRecDepth 100000
namespace Mine
section
variable {w : World} {A : Around} {E : Value → Shared → Prop} {s : Shared} {K : Frag} {e C : Addr}

/-- names that are few -/
noncomputable def Few (m : Str → Option Value) : Prop := ∃ ns, Within m ns ∧ ns.length ≤ 100

/-- the dict of a fault, made where it had none -/
theorem exc_dict {ox : Obj} {cd : ClassData} {xs : Array Value} {Q : Option Addr → Shared → Prop} (X : K.In s.heap) (hc : clsIn K C = some cd) (hd : cd.hasDict = true) (he : s.heap.get? e = some ox) (hcls : ox.cls = .ref C) (hdat : ox.data = .fields xs)
    (h : ∀ (D : Addr) (m : Str → Option Value) (h' : Heap), (∀ b o, b ≠ e → s.heap.get? b = some o → h'.get? b = some o) → h'.get? e = some { ox with dict := some D } → h'.Ns1 D m → Few m → D ≠ e → (∀ d, ox.dict = some d → D = d ∧ h' = s.heap) → (ox.dict = none → s.heap.get? D = none ∧ m = fun _ => none) → Q (some D) { s with heap := h' })
    (hns : ∀ d, ox.dict = some d → (∃ m, s.heap.Ns1 d m ∧ Few m) ∧ d ≠ e) :
    wpAny (model PR w) A (instanceDict e true) Q E s := by
  unfold instanceDict
  refine wpAny_bind (wpAny_loadPart he ?_)
  rw [hcls]
  refine wpAny_bind ((looks_clsIn X hc).here ?_)
  rw [hd]
  obtain ⟨oc, od, oda, osl⟩ := ox
  dsimp only at hcls hdat h hns ⊢
  subst hcls hdat
  cases od with
  | some d =>
    obtain ⟨⟨m, hm, hw⟩, hne⟩ := hns d rfl
    exact wpAny_pure (h d m s.heap (fun _ _ _ x => x) he hm hw hne (fun d' q => by cases q; exact ⟨rfl, rfl⟩) (fun q => by cases q))
  | none =>
    refine wpAny_bind (wpAny_alloc ?_)
    have he' := Heap.get?_push_of_some { cls := .type "dict", data := .dict #[] } he
    refine wpAny_bind (wpAny_update he' ?_)
    have hne : s.heap.objs.size ≠ e := Nat.ne_of_gt (Heap.lt_size he)
    refine wpAny_pure (h s.heap.objs.size (fun _ => none) _ (fun b o hb hx => ?_) ?_ ?_ ⟨[], Within.nil, Nat.zero_le _⟩ hne (fun d q => by cases q) (fun _ => ⟨Heap.get?_none_of_le (Nat.le_refl _), rfl⟩))
    · rw [Heap.get?_update_other _ _ (Ne.symm hb)]; exact Heap.get?_push_of_some _ hx
    · exact Heap.get?_update_self _ he' rfl
    · refine ⟨{ cls := .type "dict", data := .dict #[] }, #[], 0, ?_, rfl, ?_, ?_, ?_⟩
      · rw [Heap.get?_update_other _ _ (Ne.symm hne)]; exact Heap.get?_push_size _ rfl
      · intro x hx; simp at hx
      · first | exact trivial | (intro i j; simp) | (unfold UniqKeys; simp)
      · intro x; rfl

/-- an attribute of a fault is stored -/
theorem exc_setattr {ox : Obj} {od : Option Obj} {cd : ClassData} {xs : Array Value} {name : Str} {v : Value} {Q : Unit → Shared → Prop} (X : K.In s.heap) (I : InstAt s.heap e ox C od) (hc : clsIn K C = some cd) (hd : cd.hasDict = true)
    (hpass : ∀ self, refuseLoop self "__setattr__" cd.mro = pure ()) (hobj : cd.mro.contains (.type "object") = true) (ht : takerIn K C name = some none) (hs : findIn K (.ref C) "__setattr__" = some (some (.builtin "object.__setattr__"))) (hdat : ox.data = .fields xs)
    (hns : ∀ d, ox.dict = some d → (∃ m, s.heap.Ns1 d m ∧ Few m) ∧ d ≠ e)
    (h : ∀ (D : Addr) (m : Str → Option Value) (h₁ h' : Heap) (tk : Tok), (∀ b o, b ≠ e → s.heap.get? b = some o → h₁.get? b = some o) → h₁.get? e = some { ox with dict := some D } → h₁.Ns1 D m → Few m → D ≠ e → (∀ d, ox.dict = some d → D = d ∧ h₁ = s.heap) → (ox.dict = none → s.heap.get? D = none ∧ m = fun _ => none) →
      h'.Ns1 D (fun x => if x = name then some v else m x) → Heap.SameBut D h₁ h' → Q () { s with heap := h', toks := tk }) :
    wpAny (model PR w) A (setAttr (.ref e) name v) Q E s := by
  refine set_plain X I hs (osa_open' (s := { s with toks := s.toks + 1 }) X I hc hpass hobj ht fun b => ?_)
  show wpAny (model PR w) A.in1 (storeInOwnDict (.ref e) (.ref C) (.str name s.toks) name v b) _ _ _
  unfold storeInOwnDict
  refine wpAny_bind (m := ownStreamTells (.ref e) (.ref C)) (wpAny_pure ?_)
  rw [if_neg (by simp)]
  refine wpAny_bind (m := instanceDict e true) (exc_dict (s := { s with toks := s.toks + 1 }) X hc hd I.at_ I.cls hdat (fun D m h₁ a1 a2 a3 aw a4 a5 a6 => ?_) hns)
  show wpAny (model PR w) A.in1 (storeInDict D (.str name s.toks) name v) _ _ _
  unfold storeInDict
  refine wpAny_bind (m := newKeyGuard D name (.str name s.toks)) (wpAny_pure ?_)
  refine wpAny_bind (wpAny_nsSet1 a3 fun h' b1 b2 => ?_)
  obtain ⟨ns, hw, hl⟩ := id aw
  obtain ⟨o', es, ep, ho', hd', hz⟩ := b1.count (hw.cons name v)
  refine wpAny_bind (wpAny_lookBehind ho' ?_ ?_)
  · rw [hd']
    show (if es.size > sizeLine + 1 then _ else _) = _
    rw [if_neg (by rw [sizeLine_eq]; simp only [List.length_cons] at hz; lia)]
  · exact wpAny_pure (h D m h₁ h' _ a1 a2 a3 aw a4 a5 a6 b1 b2)
end
end Mine
end

/-! text M37 -/
section
set_option bootstrap.genMatcherCode false
open PySem
set_option maxRecDepth 100000
namespace Mine
section
variable {w : World} {A : Around} {E : Value → Shared → Prop} {h : Heap} {g : Array GenState} {d : Drawn} {t : Nat} {os : OsState}
variable {nm q : Str} {C N : Addr} {bs bm bmB : List Value} {hdct : Bool} {sn : List Str} {sub : List Value} {ab : Bool} {col : Option Bool} {dd dx : Option Addr} {k0 k1 k2 k3 k5 : Option Value} {B newId initId : String}

theorem check_init_line (F : ExcBaseFacts B newId initId bmB) (L : Line B bm) {M : Model} {e : Addr} {oe : Obj} {rest : List Value} {Q : Unit → Shared → Prop}
    (hC : h.get? C = some (excClassObj nm q C N bs bm hdct sn sub ab col dd k0 k1 k2 k3 k5 newId)) (he : h.get? e = some oe) (hcls : oe.cls = .ref C) (hq : Q () ⟨h, g, d, t, os⟩) :
    wpAny M A (checkBuiltinCall initId ⟨.ref e :: rest, []⟩) Q E ⟨h, g, d, t, os⟩ := by
  have hcB : (Value.ref C :: bm).contains (.type B) = true := by rw [List.contains_cons, L.hasB, Bool.or_true]
  have hshort := F.noStar
  simp only [checkBuiltinCall, F.initKind, F.initSplit, F.initRow]
  repeat (first | (with_reducible refine wpAny_loadPart_at he ?_; rw [hcls]) | with_reducible refine wpAny_loadPart_at hC ?_ | (with_reducible refine wpAny_isSubtype_exc hC ?_; rw [hcB]) | wp_step)
  refine wpAny_onRaise ?_
  rw [show ∀ (a b : String) (n : Nat), Bind.check ⟨.positional, "*", B, .self, [⟨"args", .varPos, false⟩]⟩ a b n (List.map (fun x => x.fst) ({ pos := Value.ref e :: rest } : Args).kw) = pure () from
    fun a b n => check_star_args _ _ _ _ _ _]
  exact wpAny_pure hq

/-- the base class's own __init__ on a fault -/
theorem base_init (F : ExcBaseFacts B newId initId bmB) (L : Line B bm) {e : Addr} {x0 : Addr} {x1 x2 x3 x4 x5 : Value} {text : Value} {Q : Value → Shared → Prop}
    (hC : h.get? C = some (excClassObj nm q C N bs bm hdct sn sub ab col dd k0 k1 k2 k3 k5 newId)) (he : h.get? e = some { cls := .ref C, dict := dx, data := .fields #[.ref x0, x1, x2, x3, x4, x5] })
    (hq : ∀ h', (∀ b o, b ≠ e → h.get? b = some o → h'.get? b = some o) → h'.get? e = some { cls := .ref C, dict := dx, data := .fields #[.ref h.objs.size, x1, x2, x3, x4, x5] } → Q .none ⟨h', g, d, t, os⟩) :
    wpAny (model PR w) A (call (.builtin initId) [.ref e, text]) Q E ⟨h, g, d, t, os⟩ := by
  refine wpAny_call (codeAny_call_builtin F.init.plain F.initEntry (check_init_line F L hC he rfl ?_))
  wp_walk
  refine hq _ (fun b o hb hx => ?_) ?_
  · rw [Heap.get?_update_other _ _ (Ne.symm hb)]; exact Heap.get?_push_of_some _ hx
  · rw [Heap.get?_update_self _ (Heap.get?_push_of_some _ he) rfl]; rfl
end
end Mine
end

/-! text M38 -/
section
set_option bootstrap.genMatcherCode false
open PySem
set_option maxRecDepth 100000
namespace Mine
section
variable {M : Model} {A : Around} {E : Value → Shared → Prop} {env : PySem.Env}
variable {nm q : Str} {C N : Addr} {bs bm : List Value} {hdct : Bool} {sn : List Str} {sub : List Value} {ab : Bool} {col : Option Bool} {dd : Option Addr} {k0 k1 k2 k3 k5 : Option Value} {newId : String}

/-- raise of a fault just made, with any dict of its own -/
theorem raiseStmt_line {s : Shared} {x : Sem Value} {Q : PySem.Flow → Shared → Prop} (hbase : bm.contains (.type "BaseException") = true) (hh : A.handled = none)
    (h : wpAny M A x (fun v s₁ => ∃ e dx y1 y3 y4 y5 y6, v = .ref e ∧ s₁.heap.get? C = some (excClassObj nm q C N bs bm hdct sn sub ab col dd k0 k1 k2 k3 k5 newId) ∧
      s₁.heap.get? e = some { cls := .ref C, dict := dx, data := .fields #[y1, .none, y3, y4, y5, y6] } ∧ E (.ref e) s₁) E s) :
    wpAny M A (raiseStmt env (some x) none) Q E s := by
  have hcB : (Value.ref C :: bm).contains (.type "BaseException") = true := by rw [List.contains_cons, hbase, Bool.or_true]
  unfold raiseStmt
  refine wpAny_bind (wpAny_mono h (fun v s₁ h₁ => ?_) fun _ _ x => x)
  obtain ⟨e, dx, y1, y3, y4, y5, y6, rfl, hC, he, hE⟩ := h₁
  obtain ⟨hp, g, d, tk, os⟩ := s₁
  repeat (first | with_reducible refine wpAny_loadPart_at he ?_ | with_reducible refine wpAny_loadPart_at hC ?_ | (with_reducible refine wpAny_isSubtype_exc hC ?_; rw [hcB]) | wp_step)
  exact wpAny_raiseNew_none hh hE
end
end Mine
end

/-! text M39 -/
section
set_option bootstrap.genMatcherCode false
open PySem PySem.Calls PyProof.Rows PySem.W PySem.Builtin PySem.Builtin.ObjectAttr
set_option maxRecDepth 100000
namespace Mine
section
variable {w : World} {A : Around} {E : Value → Shared → Prop} {s : Shared} {K : Frag} {x C D : Addr} {ox : Obj} {cd : ClassData} {name : Str} {v : Value} {m : Str → Option Value}

theorem exc_type {M : Model} {h : Heap} (hx : h.get? x = some ox) (hcl : ox.cls = .ref C) : Looks M h (typeOf (.ref x)) (.ref C) := hcl ▸ (Looks.ld hx).andThen .now

theorem exc_own {M : Model} {h : Heap} {xs : Array Value} (X : K.In h) (hc : clsIn K C = some cd) (hd : cd.hasDict = true) (hx : h.get? x = some ox) (hcl : ox.cls = .ref C) (hdat : ox.data = .fields xs) (hD : ox.dict = some D) (hn : h.Ns D m) (hm : m name = some v) :
    Looks M h (inOwnDict name (.ref x)) (some v) := by
  obtain ⟨oc, odi, oda, osl⟩ := ox
  dsimp only at hcl hdat hD
  subst hcl hdat hD
  have L := looks_clsIn (M := M) X hc
  intro A Q E s k q
  unfold inOwnDict
  refine wpAny_bind ?_
  unfold PySem.Builtin.ObjectAttr.ownDict
  refine wpAny_bind (wpAny_loadPart (k _ _ hx) ?_)
  dsimp only
  unfold instanceDict
  refine wpAny_bind (wpAny_loadPart (k _ _ hx) ?_)
  dsimp only
  refine wpAny_bind (L A _ E s k ?_)
  rw [hd]
  refine wpAny_pure (a := some D) ?_
  show wpAny M A (nsGet D name) Q E s
  refine wpAny_nsGet (hn.keeps k) ?_
  rw [hm]; exact q

theorem exc_find {M : Model} {h : Heap} {xs : Array Value} (X : K.In h) (hc : clsIn K C = some cd) (hd : cd.hasDict = true) (hx : h.get? x = some ox) (hcl : ox.cls = .ref C) (hdat : ox.data = .fields xs) (hD : ox.dict = some D) (hn : h.Ns D m) (hm : m name = some v)
    (ha : findIn K (.ref C) name = some none) : Looks M h (find (.ref x) (.ref C) name) (.value v) := by
  have L1 := looks_findIn (M := M) X ha
  have L2 : Looks M h (getOf none) none := .now
  have L3 : Looks M h (dataDescriptor? none none) none := .now
  exact L1.andThen (L2.andThen (L3.andThen ((exc_own X hc hd hx hcl hdat hD hn hm).andThen (Looks.tag .now))))

/-- an attribute of a fault is read -/
theorem exc_getattr {xs : Array Value} {expr : Bool} {Q : Value → Shared → Prop} (X : K.In s.heap) (hc : clsIn K C = some cd) (hd : cd.hasDict = true) (hx : s.heap.get? x = some ox) (hcl : ox.cls = .ref C) (hdat : ox.data = .fields xs) (hD : ox.dict = some D) (hn : s.heap.Ns D m) (hm : m name = some v)
    (ha : findIn K (.ref C) name = some none) (hga : findIn K (.ref C) "__getattribute__" = some (some (.builtin "BaseException.__getattribute__"))) (hk : findIn K (.ref C) "__getattr__" = some none) (hb : cd.mro.contains (.type "BaseException") = true) (hv : handedIn v = true)
    (h : Q v { s with toks := s.toks + 1 }) : wpAny (model PR w) A (getAttr (.ref x) name expr) Q E s := by
  obtain ⟨hh, g, d, t, os⟩ := s
  dsimp only at X hx hn
  have LT := exc_type (M := model PR w) hx hcl
  have LG := looks_findIn (M := model PR w) X hga
  have LK := looks_findIn (M := model PR w) X hk
  have LF := exc_find (M := model PR w) X hc hd hx hcl hdat hD hn hm ha
  have hx2 : (Value.builtin "BaseException.__getattribute__" == Value.builtin "object.__getattribute__") = false := by decide +kernel
  have hkd : builtinKind "BaseException.__getattribute__" = some .slot := by decide +kernel
  have hsplit : splitId "BaseException.__getattribute__" = some ("BaseException", "__getattribute__") := by decide +kernel
  have ne : cd.mro.isEmpty = false := by
    cases q : cd.mro with
    | nil => rw [q] at hb; simp at hb
    | cons _ _ => rfl
  have LI : Looks (model PR w) hh (isInstance (.ref x) (.type "BaseException")) true := LT.andThen (looks_mroIn X (by unfold mroIn; rw [hc, Option.bind_some, if_neg (by rw [ne]; decide), hb]))
  unfold getAttr getAttrBy
  refine wpAny_bind (wpAny_mkText (wpAny_holding (wpAny_bind (LT.at (wpAny_bind (LG.at ?_))))))
  dsimp only
  rw [hx2, Bool.and_false, if_neg Bool.false_ne_true]
  unfold getAttrByItsOwn
  refine wpAny_bind ?_
  unfold hookBefore
  rw [if_pos (show onTheHeap (Value.ref C) = true from rfl)]
  refine LK.at ?_
  have f3 := F.excAttr_ValueError.ga.bind (.ref x)
  have hx0 : (expr && onTheHeap (Value.builtin "BaseException.__getattribute__")) = false := by cases expr <;> rfl
  refine wpAny_bind (wpAny_attempt (wpAny_holding ?_))
  unfold callGetattribute
  rw [hx0, if_neg Bool.false_ne_true]
  unfold boundAndCalled
  rw [f3]
  refine wpAny_bind (wpAny_pure ?_)
  refine wpAny_call (codeAny_call_builtin F.excAttr_ValueError.ga.plain F.entry_bexc_ga ?_)
  simp only [checkBuiltinCall, hkd, hsplit]
  refine wpAny_bind (LI.at ?_)
  rw [if_neg (by decide)]
  have ha' := F.args_bexc_ga (.ref x) (.str name t)
  refine wpAny_of_eq (a := ()) ha' ?_
  show wpAny (model PR w) A.in1 («object.__getattribute__» ⟨[.ref x, .str name t], []⟩) _ _ _
  unfold «object.__getattribute__»
  refine wpAny_bind (wpAny_pure (wpAny_bind (wpAny_pure (wpAny_bind (LT.at (wpAny_bind (LF.at ?_)))))))
  refine wpAny_pure ?_
  show wpAny _ _ (handedOut v) _ _ _
  rw [handedOut_of hv]; exact wpAny_pure h
end
end Mine
end

/-! text M40 -/
section
set_option bootstrap.genMatcherCode false
open PySem PySem.Calls PySem.W PySem.Builtin PySem.Builtin.ObjectAttr
set_option maxRecDepth 100000
namespace Mine

theorem line_exc (cE : Addr) : Line "Exception" [.ref cE, .type "Exception", .type "BaseException", .type "object"] := ⟨by simp, by simp, by simp, by simp⟩

/-- a fault as it stands while its __init__ runs -/
structure IPost (C e : Addr) (m : Str → Option Value) (s s' : Shared) : Prop where
  same : ∃ h tk, s' = { s with heap := h, toks := tk }
  keep : ∀ b o, b ≠ e → s.heap.get? b = some o → s'.heap.get? b = some o
  ex : ∃ D x0 x2 x3 x4 x5, s'.heap.get? e = some { cls := .ref C, dict := some D, data := .fields #[.ref x0, .none, x2, x3, x4, x5] } ∧ s'.heap.Ns1 D m ∧ s.heap.get? D = none ∧ D ≠ e
  few : Few m
section
variable {w : World} {A : Around} {E : Value → Shared → Prop} {s : Shared} {K : Frag} {g : Heap} {mg mb : Str → Option Value} {cE fE C fI e x0 : Addr} {x2 x3 x4 x5 : Value}

structure Base (K : Frag) (g : Heap) (mg mb : Str → Option Value) (s : Shared) (e : Addr) : Prop where
  kin : K.In g
  sub : ∀ b o, g.get? b = some o → s.heap.get? b = some o
  new : g.get? e = none
  gl : g.Ns mainGlobals mg
  bl : g.Ns builtinsNs mb
  lim : g.NoLimit

theorem Base.to {s s' : Shared} (B : Base K g mg mb s e) (k : ∀ b o, b ≠ e → s.heap.get? b = some o → s'.heap.get? b = some o) : Base K g mg mb s' e :=
  ⟨B.kin, fun b o h => k b o (fun q => by rw [q, B.new] at h; cases h) (B.sub b o h), B.new, B.gl, B.bl, B.lim⟩
theorem Base.of {s s' : Shared} (B : Base K g mg mb s e) (k : ∀ b o, s.heap.get? b = some o → s'.heap.get? b = some o) : Base K g mg mb s' e := B.to fun b o _ h => k b o h

theorem ldc' {M : Model} {env : PySem.Env} {x : Str} {pos : Pos} {m : Str → Option Value} {v : Value} {Q : Value → Shared → Prop} (hk : env.scope.kind = .function) (hl : env.kindOf x = some .local) (hn : s.heap.Ns env.locals m) (hv : m x = some v) (h : Q v s) (hd : (x == ("__debug__" : Str)) = false := by decide) :
    wpAny M A (eval (.Name x pos) env) Q E s := wpAny_Name (wpAny_loadName_local hk hl hn hv h) hd

/-- ChessError.__init__ -/
theorem init_chess (B : Base K g mg mb s e) (XK : ExK K mg mb cE fE) (X : ClsK K cE C fI) (M : Meth g fE ["self", "text"] BodyE) (hr : A.depth < recursionLimit)
    (he : s.heap.get? e = some { cls := .ref C, dict := none, data := .fields #[.ref x0, .none, x2, x3, x4, x5] }) (text : Value) {Q : Value → Shared → Prop}
    (hq : ∀ s', IPost C e (fun x => if x = ("text" : Str) then some text else none) s s' → Q .none s') :
    wpAny (model PR w) A (call (.ref fE) [.ref e, text]) Q E s := by
  refine (M.keeps B.sub).use fun o fd body ho hcl hdata hcd hbody hP hclo hglo hblt hk hgen hco hcell hloc hbind => X.use (B.kin.keeps B.sub) fun nm q N bs hdct sn sub ab col dd k0 k1 k2 k3 k5 hC₀ => ?_
  obtain ⟨hgl, c, p6, p7, p8, p9, p10, q1, q2, rfl, p1, p2, p5, rfl, pl, hev⟩ := hP
  obtain ⟨cd', hcd', hd', hpass, hobj, hbase⟩ := X.cd
  have hself : fd.scope.names.lookup ("self" : Str) = some .local := hloc _ (by simp)
  have htext : fd.scope.names.lookup ("text" : Str) = some .local := hloc _ (by simp)
  have hne : e < s.heap.objs.size := Heap.lt_size he
  refine wpAny_call (codeAny_call_straight hr ho hdata (B.lim.keeps B.sub) hcd hbody (hbind [.ref e, text] rfl) hcell (fun x hx => ?_) (fun s₁ x => ?_) hco hgen hk)
  · simp only [List.zip_cons_cons, List.zip_nil_right, List.mem_cons, List.not_mem_nil, or_false] at hx
    rcases hx with rfl | rfl
    · exact hself
    · exact htext
  generalize henv : callEnv fd s.heap.objs.size fE = env
  have ekind : env.scope.kind = .function := by rw [← henv]; exact hk
  have ekg : env.kindOf "Exception" = some .globalImplicit := by rw [← henv]; exact hgl.1
  have eks : env.kindOf "self" = some .local := by rw [← henv]; exact hself
  have ekt : env.kindOf "text" = some .local := by rw [← henv]; exact htext
  have eloc : env.locals = s.heap.objs.size := by rw [← henv]; rfl
  have eglo : env.globals = mainGlobals := by rw [← henv]; exact hglo
  have eblt : env.builtins = builtinsNs := by rw [← henv]; exact hblt
  have B₁ := B.of x.keep
  have ns₁ : s₁.heap.Ns env.locals (fun x => List.lookup x (List.zip [("self" : Str), ("text" : Str)] [.ref e, text]).reverse) := eloc ▸ x.ns
  have hC := x.keep _ _ hC₀
  have he₁ := x.keep _ _ he
  have hi : interactive env = false := by unfold interactive; rw [ekind]; rfl
  refine wpAny_execs_cons (wpAny_Expr ?_ hi rfl)
  refine PyProof.Rows.MethodCall_ ?_ (hev env)
  refine Name_function_global ekind ekg (loadGlobal_builtin (eglo ▸ B₁.gl.keeps B₁.sub) XK.mgE.1 (eblt ▸ B₁.bl.keeps B₁.sub) XK.mgE.2 ?_) rfl
  refine method_type (h₀ := s.heap) (L := s.heap.objs.size) ⟨x.ns, x.keep, Nat.le_refl _⟩ (B.kin.keeps B.sub) (by kernel_rfl) (by decide +kernel) XK.exc (by decide +kernel) ?_
  refine PyProof.Rows.callWith_method1 (wpAny_items_cons (ldc' ekind eks ns₁ rfl (wpAny_items_cons (ldc' ekind ekt ns₁ rfl (wpAny_items_nil ?_)))))
  obtain ⟨h₁, g₁, d₁, t₁, os₁⟩ := s₁
  refine base_init F.excBase_Exception (line_exc cE) hC he₁ fun h₂ k₂ he₂ => ?_
  show wpAny _ _ _ _ _ _
  have hL : env.locals ≠ e := fun q => Nat.lt_irrefl _ (by rw [← eloc, q] at hne; exact hne)
  have ns₂ : h₂.Ns env.locals (fun x => List.lookup x (List.zip [("self" : Str), ("text" : Str)] [.ref e, text]).reverse) := by
    obtain ⟨o', es, ep, e1, r⟩ := ns₁
    exact ⟨o', es, ep, k₂ _ _ hL e1, r⟩
  refine wpAny_execs_cons (plainObj_wpAny_Assign_Attribute (ldc' ekind ekt ns₂ rfl (ldc' ekind eks ns₂ rfl ?_)) rfl)
  have B₂ : Base K g mg mb ⟨h₂, g₁, d₁, t₁ + 1, os₁⟩ e := B₁.to k₂
  refine exc_setattr (od := none) (B₂.kin.keeps B₂.sub) ⟨he₂, rfl, rfl, trivial⟩ hcd' hd' hpass hobj X.takeText X.set rfl (fun d q => by cases q) fun D m h₃ h₄ tk a1 a2 a3 aw a4 a5 a6 a7 a8 => ?_
  obtain ⟨hD2, rfl⟩ := a6 rfl
  refine wpAny_execs_nil ?_
  have hsD : s.heap.get? D = none := by
    cases q : s.heap.get? D with
    | none => rfl
    | some o' => rw [k₂ _ _ a4 (x.keep _ _ q)] at hD2; cases hD2
  refine hq _ ⟨?_, fun b o' hb hbo => ?_, ⟨D, _, _, _, _, _, (a8.2 e (Ne.symm a4)).trans a2, a7, hsD, a4⟩, ?_⟩
  · obtain ⟨h', tk', e'⟩ := x.same
    cases e'
    exact ⟨_, _, rfl⟩
  · refine (a8.2 b fun q => ?_).trans (a1 b o' hb (k₂ _ _ hb (x.keep _ _ hbo)))
    rw [q, hsD] at hbo; cases hbo
  · exact ⟨["text"], Within.nil.cons _ _, by decide⟩
end
end Mine
end

/-! text M41 -/
section
set_option bootstrap.genMatcherCode false
open PySem PySem.Calls PySem.W PySem.Builtin PySem.Builtin.ObjectAttr
set_option maxRecDepth 100000
namespace Mine
section
variable {w : World} {A : Around} {E : Value → Shared → Prop} {s : Shared} {K : Frag} {g : Heap} {mg mb : Str → Option Value} {cE fE C fI e x0 : Addr} {x2 x3 x4 x5 : Value}

theorem depth_room {A : Around} {env : PySem.Env} {n : Nat} (h : A.depth + (n + 1) < recursionLimit) : (A.deeper env).depth + n < recursionLimit := by
  show A.depth + 1 + n < _
  lia

theorem ns_inj {h : Heap} {a : Addr} {m m' : Str → Option Value} (x : h.Ns a m) (y : h.Ns a m') : m = m' := by
  obtain ⟨o1, es1, ep1, h1, d1, _, f1⟩ := x
  obtain ⟨o2, es2, ep2, h2, d2, _, f2⟩ := y
  cases data_inj h1 d1 h2 d2
  funext n
  rw [← f1, ← f2]

/-- an __init__ that calls ChessError's and stores the place -/
theorem init_at {ps : List Str} {vals : List Value} {P : Scope → List Stmt → Prop} {f : Addr} (B : Base K g mg mb s e) (XK : ExK K mg mb cE fE) (X : ClsK K cE C fI) (ME : Meth g fE ["self", "text"] BodyE) (M : Meth g f ps P)
    (hP : ∀ sc body, P sc body → IsGlob sc "ChessError" ∧ ∃ c p6 p7 p8 p9 p10 q1 a2, body = [.Expr c p6, .Assign [.Attribute (.Name "self" p7) "at" p8] (.Name "at" p9) p10] ∧ CallI "ChessError" [.Name "self" q1, a2] c ∧
      (∀ env, starEach [.Name "self" q1, a2] env = (false, eval (.Name "self" q1) env) :: starEach [a2] env) ∧ (∀ env, starEach [a2] env = [(false, eval a2 env)]) ∧
      ∀ {A : Around} {E : Value → Shared → Prop} {env : PySem.Env} {s₁ : Shared} {Q : Value → Shared → Prop}, env.scope.kind = .function → (∀ x ∈ ps, env.kindOf x = some .local) → s₁.heap.Ns env.locals (fun x => (ps.zip vals).reverse.lookup x) → (∀ tx tk, Q tx { s₁ with toks := tk }) → wpAny (model PR w) A (eval a2 env) Q E s₁)
    (hlen : vals.length = ps.length) (hms : ("self" : Str) ∈ ps) (hma : ("at" : Str) ∈ ps) (hbs : (ps.zip vals).reverse.lookup ("self" : Str) = some (.ref e)) {va : Value} (hba : (ps.zip vals).reverse.lookup ("at" : Str) = some va) (hr : A.depth + 1 < recursionLimit)
    (he : s.heap.get? e = some { cls := .ref C, dict := none, data := .fields #[.ref x0, .none, x2, x3, x4, x5] }) {Q : Value → Shared → Prop}
    (hq : ∀ m s', m "at" = some va → IPost C e m s s' → Q .none s') :
    wpAny (model PR w) A (call (.ref f) vals) Q E s := by
  refine (M.keeps B.sub).use fun o fd body ho hcl hdata hcd hbody hPb hclo hglo hblt hk hgen hco hcell hloc hbind => ?_
  obtain ⟨cd', hcd', hd', hpass, hobj, hbase⟩ := X.cd
  obtain ⟨hgl, c, p6, p7, p8, p9, p10, q1, a2, rfl, ⟨p1, p2, p5, rfl, pl, hev⟩, hst1, hst2, ha2⟩ := hP _ _ hPb
  have hne : e < s.heap.objs.size := Heap.lt_size he
  refine wpAny_call (codeAny_call_straight (by lia) ho hdata (B.lim.keeps B.sub) hcd hbody (hbind vals hlen) hcell (fun x hx => hloc _ (List.of_mem_zip hx).1) (fun s₁ x => ?_) hco hgen hk)
  generalize henv : callEnv fd s.heap.objs.size f = env
  have ekind : env.scope.kind = .function := by rw [← henv]; exact hk
  have ekg : env.kindOf "ChessError" = some .globalImplicit := by rw [← henv]; exact hgl.1
  have ekl : ∀ x ∈ ps, env.kindOf x = some .local := fun x hx => by rw [← henv]; exact hloc x hx
  have eloc : env.locals = s.heap.objs.size := by rw [← henv]; rfl
  have eglo : env.globals = mainGlobals := by rw [← henv]; exact hglo
  have B₁ := B.of x.keep
  have ns₁ : s₁.heap.Ns env.locals (fun x => (ps.zip vals).reverse.lookup x) := eloc ▸ x.ns
  have X₁ : K.In s₁.heap := B₁.kin.keeps B₁.sub
  have he₁ := x.keep _ _ he
  have hi : interactive env = false := by unfold interactive; rw [ekind]; rfl
  have hL : env.locals ≠ e := fun q => Nat.lt_irrefl _ (by rw [← eloc, q] at hne; exact hne)
  refine wpAny_execs_cons (wpAny_Expr ?_ hi rfl)
  refine PyProof.Rows.MethodCall_ ?_ (hev env)
  refine Name_function_global ekind ekg (loadGlobal_global (eglo ▸ B₁.gl.keeps B₁.sub) XK.mgC ?_) rfl
  refine method_cls X₁ XK.ga (cls_value X₁ XK.reads XK.cls rfl ?_)
  refine PySem.W.callWith_K (B₁.kin) XK.keep (wpAny_items_cons (ldc' ekind (ekl _ hms) ns₁ hbs (wpAny_items_cons (ha2 ekind ekl ns₁ fun tx tk => ?_) (hst2 env))) (hst1 env)) (hst1 env) (by rw [hst2]; rfl)
  refine wpAny_items_nil ⟨X₁, ?_⟩
  show wpAny _ _ (call (.ref fE) [.ref e, tx]) _ _ _
  have B₂ : Base K g mg mb { s₁ with toks := tk } e := B₁.of fun _ _ z => z
  refine init_chess B₂ XK X ME (by show A.depth + 1 < _; exact hr) he₁ tx fun s₃ p => ?_
  obtain ⟨⟨h₃, tk₃, rfl⟩, pk, ⟨D, y0, y2, y3, y4, y5, hf, hn, hDn, hDe⟩, pf⟩ := p
  have ns₃ : h₃.Ns env.locals (fun x => (ps.zip vals).reverse.lookup x) := by
    obtain ⟨o', es, ep, e1, r⟩ := ns₁
    exact ⟨o', es, ep, pk _ _ hL e1, r⟩
  show wpAny _ _ _ _ _ _
  refine wpAny_execs_cons (plainObj_wpAny_Assign_Attribute (ldc' ekind (ekl _ hma) ns₃ hba (ldc' ekind (ekl _ hms) ns₃ hbs ?_)) rfl)
  have B₃ : Base K g mg mb { s₁ with heap := h₃, toks := tk₃ } e := B₁.to pk
  have hnD := hn
  obtain ⟨oD, es, ep, hoD, _⟩ := hnD
  refine exc_setattr (od := some oD) (B₃.kin.keeps B₃.sub) ⟨hf, rfl, rfl, hoD⟩ hcd' hd' hpass hobj X.takeAt X.set rfl (fun d q => by cases q; exact ⟨⟨_, hn, pf⟩, hDe⟩) fun D' m h₄ h₅ tk₅ a1 a2 a3 aw a4 a5 a6 a7 a8 => ?_
  obtain ⟨rfl, rfl⟩ := a5 _ rfl
  refine wpAny_execs_nil ?_
  have hsD : s.heap.get? D' = none := by
    cases q : s.heap.get? D' with
    | none => rfl
    | some o' => rw [show s₁.heap.get? D' = some o' from x.keep _ _ q] at hDn; cases hDn
  refine hq _ _ (if_pos rfl) ⟨?_, fun b o' hb hbo => ?_, ⟨D', _, _, _, _, _, (a8.2 e (Ne.symm a4)).trans hf, a7, hsD, a4⟩, ?_⟩
  · obtain ⟨h', tk', e'⟩ := x.same
    cases e'
    exact ⟨_, _, rfl⟩
  · refine (a8.2 b fun q => ?_).trans (pk b o' hb (x.keep _ _ hbo))
    rw [q, hsD] at hbo; cases hbo
  · have := ns_inj a3.ns hn.ns
    subst this
    exact ⟨["at", "text"], (Within.nil.cons _ _).cons _ _, by decide⟩
end
end Mine
end

/-! text M42 -/
section
set_option bootstrap.genMatcherCode false
open PySem PySem.Calls PySem.W PySem.Builtin PySem.Builtin.ObjectAttr
set_option maxRecDepth 100000
namespace Mine
section
variable {w : World} {A : Around} {E : Value → Shared → Prop} {s : Shared} {K : Frag} {g : Heap} {mg mb : Str → Option Value} {cE fE C fI e x0 : Addr} {x2 x3 x4 x5 : Value}

theorem bodyB_ok : ∀ sc body, BodyB sc body → IsGlob sc "ChessError" ∧ ∃ c p6 p7 p8 p9 p10 q1 a2, body = [.Expr c p6, .Assign [.Attribute (.Name "self" p7) "at" p8] (.Name "at" p9) p10] ∧ CallI "ChessError" [.Name "self" q1, a2] c ∧
      (∀ env, starEach [.Name "self" q1, a2] env = (false, eval (.Name "self" q1) env) :: starEach [a2] env) ∧ (∀ env, starEach [a2] env = [(false, eval a2 env)]) ∧
      ∀ {A : Around} {E : Value → Shared → Prop} {env : PySem.Env} {s₁ : Shared} {Q : Value → Shared → Prop}, env.scope.kind = .function → (∀ x ∈ [("self" : Str), "at"], env.kindOf x = some .local) → s₁.heap.Ns env.locals (fun x => ([("self" : Str), "at"].zip [Value.ref e, x2]).reverse.lookup x) → (∀ tx tk, Q tx { s₁ with toks := tk }) → wpAny (model PR w) A (eval a2 env) Q E s₁ := by
  rintro sc body ⟨h1, c, p6, p7, p8, p9, p10, q1, x, k, q2, rfl, h2⟩
  exact ⟨h1, c, p6, p7, p8, p9, p10, q1, _, rfl, h2, fun _ => rfl, fun _ => rfl, fun _ _ _ h => wpAny_Constant_str (h _ _)⟩
theorem bodyD_ok {tx : Value} : ∀ sc body, BodyD sc body → IsGlob sc "ChessError" ∧ ∃ c p6 p7 p8 p9 p10 q1 a2, body = [.Expr c p6, .Assign [.Attribute (.Name "self" p7) "at" p8] (.Name "at" p9) p10] ∧ CallI "ChessError" [.Name "self" q1, a2] c ∧
      (∀ env, starEach [.Name "self" q1, a2] env = (false, eval (.Name "self" q1) env) :: starEach [a2] env) ∧ (∀ env, starEach [a2] env = [(false, eval a2 env)]) ∧
      ∀ {A : Around} {E : Value → Shared → Prop} {env : PySem.Env} {s₁ : Shared} {Q : Value → Shared → Prop}, env.scope.kind = .function → (∀ x ∈ [("self" : Str), "at", "text"], env.kindOf x = some .local) → s₁.heap.Ns env.locals (fun x => ([("self" : Str), "at", "text"].zip [Value.ref e, x2, tx]).reverse.lookup x) → (∀ tx tk, Q tx { s₁ with toks := tk }) → wpAny (model PR w) A (eval a2 env) Q E s₁ := by
  rintro sc body ⟨h1, c, p6, p7, p8, p9, p10, q1, q2, rfl, h2⟩
  exact ⟨h1, c, p6, p7, p8, p9, p10, q1, _, rfl, h2, fun _ => rfl, fun _ => rfl, fun hk hl hn h => ldc' hk (hl "text" (by simp)) hn rfl (h _ _)⟩

/-- a fault is made -/
structure MadeF (C : Addr) (m : Str → Option Value) (s s' : Shared) (e : Addr) : Prop where
  same : ∃ h tk, s' = { s with heap := h, toks := tk }
  keep : ∀ b o, s.heap.get? b = some o → s'.heap.get? b = some o
  new : s.heap.get? e = none
  ex : ∃ D x0 x2 x3 x4 x5, s'.heap.get? e = some { cls := .ref C, dict := some D, data := .fields #[.ref x0, .none, x2, x3, x4, x5] } ∧ s'.heap.Ns D m

theorem make_fault {rest : List Value} {Sp : (Str → Option Value) → Prop} (hK : K.In s.heap) (X : ClsK K cE C fI) {of : Obj} (hf : s.heap.get? fI = some of) (hfc : of.cls = .type "function") (hrest : rest.length ≤ sizeLine)
    (hin : ∀ (A' : Around) (s₁ : Shared) (e x0 : Addr), A'.depth ≤ A.depth + 1 → s.heap.get? e = none → (∀ b o, s.heap.get? b = some o → s₁.heap.get? b = some o) → s₁.heap.get? e = some { cls := .ref C, dict := none, data := .fields #[.ref x0, .none, .none, .none, .bool false, .none] } →
      ∀ Q : Value → Shared → Prop, (∀ m s', Sp m → IPost C e m s₁ s' → Q .none s') → wpAny (model PR w) A' (call (.ref fI) (.ref e :: rest)) Q E s₁)
    {Q : Value → Shared → Prop} (hq : ∀ e m s', Sp m → MadeF C m s s' e → Q (.ref e) s') : wpAny (model PR w) A (call (.ref C) rest) Q E s := by
  refine X.use hK fun nm q N bs hdct sn sub ab col dd k0 k1 k2 k3 k5 hC => ?_
  obtain ⟨h, gg, d, t, os⟩ := s
  dsimp only at hK hf hC hin
  refine call_line F.excBase_Exception (line_exc cE) hC (fun A h' Q k hq => looks_findIn (hK.keeps k) X.init A Q E _ (fun _ _ z => z) hq) hf hfc (fun h' e hm => ?_) hrest
  obtain ⟨t0, ht, _, _⟩ := hm.there
  refine hin _ ⟨h', gg, d, t, os⟩ e t0 ?_ hm.new hm.keeps ht _ fun m s' hs p => ⟨rfl, hq e m s' hs ?_⟩
  · have hw : ∀ (C : Addr) (a : List Value), (Code.builtin "type.__call__" ⟨.ref C :: a, []⟩).weight = 1 := fun C a => by kernel_rfl
    show A.depth + (Code.builtin "type.__call__" _).weight ≤ _
    rw [hw]
    exact Nat.le_refl _
  obtain ⟨⟨h₂, tk, rfl⟩, pk, ⟨D, y0, y2, y3, y4, y5, hf, hn, hDn, hDe⟩, pf⟩ := p
  exact ⟨⟨_, _, rfl⟩, fun b o hb => pk b o (fun q => by subst q; rw [show h.get? b = none from hm.new] at hb; cases hb) (hm.keeps _ _ hb), hm.new, D, _, _, _, _, _, hf, hn.ns⟩
end
end Mine
end

/-! text M43 -/
section
set_option bootstrap.genMatcherCode false
open PySem PySem.Calls PySem.W PySem.Builtin PySem.Builtin.ObjectAttr
set_option maxRecDepth 100000
namespace Mine
section
variable {w : World} {mg mb : Str → Option Value}
variable {G : Heap} {fr fr₀ : List PySem.Env} {A A' : Around} {k n : Nat} {s s₀ s₁ s' s'' : Shared} {Z : Value → Shared → Prop} {sc : Scope} {σ : Env} {vs : List Str} {env : PySem.Env}

theorem Rm.funFrames {h : Heap} (R : Rm G fr A n h) : h.FunFrames G fr := by
  have := R.fok
  clear R
  induction fr with
  | nil => trivial
  | cons e l ih =>
    obtain ⟨hk, L, m, h1, h2, h3⟩ := this e (.head _)
    exact Heap.FunFrames.cons (by rw [hk]; decide) h1 h3 h2 (ih fun e' he => this e' (.tail _ he))

theorem base_of {K : Frag} {e : Addr} (d : Gd mg mb G) (R : Rm G fr A n s.heap) (hK : K.In G) (he : s.heap.get? e = none) (h : ∀ b o, s.heap.get? b = some o → s₁.heap.get? b = some o) : Base K G mg mb s₁ e :=
  ⟨hK, fun b o hb => h b o (R.keepG b o hb), (by
    cases q : G.get? e with
    | none => rfl
    | some o => rw [R.keepG _ _ q] at he; cases he), d.g, d.b, R.gg.nolimit⟩

/-- a fault just made flies in the body -/
theorem MadeF.inFly {C e : Addr} {m : Str → Option Value} {x : Exc} (f : Fs w fr₀ s₀ vs env σ s) (R : Rm G (env :: fr₀) A' n s.heap) (M : MadeF C m s s' e) (hC : mg (excName x) = some (.ref C)) (hm : ∀ i, excAt x = some i → ∃ t, m "at" = some (.int i t)) : InFly mg G env fr₀ s₀ x (.ref e) s' := by
  obtain ⟨⟨h, tk, rfl⟩, keep, new, D, y0, y2, y3, y4, y5, he, hn⟩ := M
  refine ⟨⟨e, C, some D, none, rfl, hC, ⟨fun b o hb => keep b o (R.keepG b o hb), ?_, R.funFrames.of_keeps fun b o hb _ => ⟨o, keep b o hb, rfl⟩, _, _, he, rfl, rfl, rfl, by simp, rfl⟩, .inl rfl, fun i hi => ?_⟩, fun L hL m' hm' => ?_, f.st.gens, f.st.os⟩
  · cases q : G.get? e with
    | none => rfl
    | some o => rw [R.keepG _ _ q] at new; cases new
  · obtain ⟨t, ht⟩ := hm i hi
    exact ⟨D, m, t, rfl, hn, ht⟩
  · exact (f.st.keep.ns hm' fun z => z).keeps keep

/-- the raise of a fault of a class of the program -/
theorem raise_made {C cE fI : Addr} {K : Frag} {x : Exc} {xs : Str} {es : List PySem.Expr} {q r p : Pos} {Q : PySem.Flow → Shared → Prop} {of : Obj} {e0 : PySem.Expr} {Sp : (Str → Option Value) → Prop} {res : R (Env × Flow)}
    (c : SCtx mg mb (k + 1) G fr₀ s₀ A sc vs env) (f : Fs w fr₀ s₀ vs env σ s) (hg : IsGlob sc xs) (hx : mg xs = some (.ref C)) (hxn : excName x = xs) (hK : K.In G) (X : ClsK K cE C fI) (hf : G.get? fI = some of) (hfc : of.cls = .type "function")
    (hst : starEach (e0 :: es) env = (false, eval e0 env) :: starEach es env) (hpl : (backTo r (starEach es env)).any (·.1) = false)
    (hsp : ∀ m, Sp m → ∀ i, excAt x = some i → ∃ t, m "at" = some (.int i t))
    (hargs : wpAny (model PR w) (A.deeper env) (spliced (backTo r (starEach (e0 :: es) env))) (fun vals s₁ => res = .exc x ∧ Fs w fr₀ s₀ vs env σ s₁ ∧ vals.length ≤ sizeLine ∧
      ∀ (A' : Around) (s₂ : Shared) (e x0 : Addr), A'.depth ≤ (A.deeper env).depth + 1 → s₁.heap.get? e = none → (∀ b o, s₁.heap.get? b = some o → s₂.heap.get? b = some o) → s₂.heap.get? e = some { cls := .ref C, dict := none, data := .fields #[.ref x0, .none, .none, .none, .bool false, .none] } →
      ∀ (E : Value → Shared → Prop) (Q : Value → Shared → Prop), (∀ m s', Sp m → IPost C e m s₂ s' → Q .none s') → wpAny (model PR w) A' (call (.ref fI) (.ref e :: vals)) Q E s₂) (PXS mg G env fr₀ s₀ res) s) :
    wpAny (model PR w) (A.deeper env) (exec (.Raise (some (.Call (.Name xs q) (e0 :: es) [] r)) none p) env) Q (PXS mg G env fr₀ s₀ res) s := by
  have hh : (A.deeper env).handled = none := c.R.handled
  rw [arm_exec_Raise]
  refine X.use hK fun nm qn N bs hdct sn sub ab col dd k0 k1 k2 k3 k5 hC => ?_
  have R₀ := f.rm c.b c.R
  have fin : wpAny (model PR w) (A.deeper env) (eval (.Call (.Name xs q) (e0 :: es) [] r) env) (fun v s₁ => ∃ e dx y1 y3 y4 y5 y6, v = .ref e ∧ s₁.heap.get? C = some (excClassObj nm qn C N bs [.ref cE, .type "Exception", .type "BaseException", .type "object"] hdct sn sub ab col dd k0 k1 k2 k3 k5 "Exception.__new__") ∧
      s₁.heap.get? e = some { cls := .ref C, dict := dx, data := .fields #[y1, .none, y3, y4, y5, y6] } ∧ PXS mg G env fr₀ s₀ res (.ref e) s₁) (PXS mg G env fr₀ s₀ res) s := by
    refine wpAny_Call_ofName ((c.stg f).glob hg hx ?_)
    refine PySem.W.callWith_K hK X.keep (wpAny_mono hargs (fun vals s₁ h₁ => ?_) fun _ _ z => z) hst hpl
    obtain ⟨he, f₁, hsz, hin⟩ := h₁
    have R₁ := f₁.rm c.b c.R
    refine ⟨hK.keeps R₁.keepG, ?_⟩
    show wpAny _ _ (call (.ref C) vals) _ _ _
    refine make_fault (hK.keeps R₁.keepG) X (R₁.keepG _ _ hf) hfc hsz (fun A' s₂ e x0 a1 a2 a3 a4 Q' hQ' => hin A' s₂ e x0 a1 a2 a3 a4 _ Q' hQ') fun e m s' hs M => ?_
    obtain ⟨D, y0, y2, y3, y4, y5, hfo, hn⟩ := M.ex
    exact ⟨e, some D, _, _, _, _, _, rfl, M.keep _ _ (R₁.keepG _ _ hC), hfo, x, he, M.inFly f₁ R₁ (by rw [hxn]; exact hx) (hsp m hs)⟩
  show wpAny _ _ (do standAt p; raiseStmt env (some (do let v ← eval (.Call (.Name xs q) (e0 :: es) [] r) env; standAt p; pure v)) none) _ _ _
  refine wpAny_bind (wpAny_standAt (raiseStmt_line (by simp) hh (wpAny_bind (wpAny_mono fin (fun v s₁ h₁ => wpAny_bind (wpAny_standAt (wpAny_pure h₁))) fun _ _ z => z))))
end
end Mine
end

/-! text M44 -/
section
set_option bootstrap.genMatcherCode false
open PySem PySem.Calls PySem.W PySem.Builtin PySem.Builtin.ObjectAttr
set_option maxRecDepth 100000
namespace Mine
section
variable {w : World} {mg mb : Str → Option Value}
variable {G : Heap} {fr fr₀ : List PySem.Env} {A A' : Around} {k n : Nat} {s s₀ s₁ s' s'' : Shared} {Z : Value → Shared → Prop} {sc : Scope} {σ : Env} {vs : List Str} {env : PySem.Env}

noncomputable def bookOf : R V → Exc
  | .ok (.int a) => .book a
  | _ => .book 0

set_option backward.match.sparseCases false in
theorem book_res {β : Type} {d : V} {r : R β} (he : r = match d with | .int a => .exc (.book a) | _ => .stuck) (hr : r ≠ .stuck) : ∃ a, d = .int a ∧ r = .exc (.book a) := by
  cases d <;> first | exact ⟨_, rfl, he⟩ | exact (hr he).elim

theorem S_raiseBook {e : E} {pe : PySem.Expr} {q r p : Pos} (HE : SimE w mg mb k) (c : SCtx mg mb (k + 1) G fr₀ s₀ A sc vs env) (f : Fs w fr₀ s₀ vs env σ s)
    (hg : IsGlob sc "BadBook") (ce : CpE sc vs e pe) (hr : exS FT (k + 1) σ (.raiseBook e) ≠ .stuck) :
    wpAny (model PR w) (A.deeper env) (exec (.Raise (some (.Call (.Name "BadBook" q) [pe] [] r)) none p) env) (PS w fr₀ s₀ vs env (exS FT (k + 1) σ (.raiseBook e))) (PXS mg G env fr₀ s₀ (exS FT (k + 1) σ (.raiseBook e))) s := by
  refine c.d.ex.use fun K cE fE cB fB cS cD fD hK XK ME MB MD XB XS XD nB nS nD _ _ => ?_
  obtain ⟨of, hf, hfc⟩ := MB.fn
  have hdep := c.R.depthOk
  refine raise_made (x := bookOf (evE FT k σ e)) (Sp := fun m => ∀ i, excAt (bookOf (evE FT k σ e)) = some i → ∃ t, m "at" = some (.int i t)) c f hg nB (by unfold bookOf; split <;> rfl) hK XB hf hfc (ce.star _ _) rfl (fun m h => h) (wpAny_items_cons (bndS rfl hr f (fun h => HE (c.stg f).pred ce h) fun d v s₁ e₁ g₁ h₁ => ?_) (ce.star _ _))
  have f₁ := f.step c.b g₁.2
  have R₁ := f₁.rm c.b c.R
  obtain ⟨a, rfl, h₁⟩ := book_res h₁ hr
  obtain ⟨t, rfl⟩ := g₁.1.asInt rfl
  refine wpAny_items_nil ⟨h₁.trans (by rw [e₁]; rfl), f₁, by simp [sizeLine_eq], fun A' s₂ e x0 a1 a2 a3 a4 E' Q' hQ' => ?_⟩
  have hroom : A'.depth + 1 < recursionLimit := by have : (A.deeper env).depth = A.depth + 1 := rfl; lia
  exact init_at (base_of c.d R₁ hK a2 a3) XK XB ME MB bodyB_ok rfl (by simp) (by simp) rfl rfl hroom a4 fun m s' hm ip => hQ' m s' (fun i hi => by rw [e₁] at hi; cases hi; exact ⟨t, hm⟩) ip

theorem S_raiseSan {e : E} {pe : PySem.Expr} {q r p : Pos} (HE : SimE w mg mb k) (c : SCtx mg mb (k + 1) G fr₀ s₀ A sc vs env) (f : Fs w fr₀ s₀ vs env σ s)
    (hg : IsGlob sc "BadSan") (ce : CpE sc vs e pe) (hr : exS FT (k + 1) σ (.raiseSan e) ≠ .stuck) :
    wpAny (model PR w) (A.deeper env) (exec (.Raise (some (.Call (.Name "BadSan" q) [pe] [] r)) none p) env) (PS w fr₀ s₀ vs env (exS FT (k + 1) σ (.raiseSan e))) (PXS mg G env fr₀ s₀ (exS FT (k + 1) σ (.raiseSan e))) s := by
  refine c.d.ex.use fun K cE fE cB fB cS cD fD hK XK ME MB MD XB XS XD nB nS nD _ _ => ?_
  obtain ⟨of, hf, hfc⟩ := ME.fn
  have hdep := c.R.depthOk
  refine raise_made (x := .san) (Sp := fun _ => True) c f hg nS rfl hK XS hf hfc (ce.star _ _) rfl (fun m _ i hi => by cases hi) (wpAny_items_cons (bndS rfl hr f (fun h => HE (c.stg f).pred ce h) fun d v s₁ e₁ g₁ h₁ => ?_) (ce.star _ _))
  have f₁ := f.step c.b g₁.2
  have R₁ := f₁.rm c.b c.R
  obtain ⟨_, h₁⟩ := R.ite h₁ hr
  refine wpAny_items_nil ⟨h₁, f₁, by simp [sizeLine_eq], fun A' s₂ e x0 a1 a2 a3 a4 E' Q' hQ' => ?_⟩
  have hroom : A'.depth < recursionLimit := by have : (A.deeper env).depth = A.depth + 1 := rfl; lia
  exact init_chess (base_of c.d R₁ hK a2 a3) XK XS ME hroom a4 v fun s' ip => hQ' _ s' trivial ip

theorem slot_rep {i : Nat} {x : Str} {d : V} (f : Fs w fr₀ s₀ vs env σ s) (b : Bd sc vs env s₀) (hx : vs[i]? = some x) (hd : (σ[i]?).bind slotV = some d) : ∃ v, VarIs env s.heap x v ∧ Rep Tr s.heap v d := by
  have e := (f.envOk b).slot i x
  cases q : σ[i]? with
  | none => rw [q] at hd; cases hd
  | some sl =>
    rw [q] at hd
    have e := e sl hx q
    cases sl <;> simp only [Option.bind_some, slotV] at hd <;> first | (cases hd; done) | skip
    all_goals
      cases hd
      obtain ⟨v, a, r⟩ := e
      exact ⟨v, a, r⟩

theorem S_raiseEpd {i : Nat} {pe1 pe2 : PySem.Expr} {q r p : Pos} (HE : SimE w mg mb k) (c : SCtx mg mb (k + 1) G fr₀ s₀ A sc vs env) (f : Fs w fr₀ s₀ vs env σ s)
    (hg : IsGlob sc "BadEpd") (ce : CpE sc vs (.neg (.const (.int 1))) pe1) (cf : CpF vs i pe2) (hr : exS FT (k + 1) σ (.raiseEpd i) ≠ .stuck) :
    wpAny (model PR w) (A.deeper env) (exec (.Raise (some (.Call (.Name "BadEpd" q) [pe1, pe2] [] r)) none p) env) (PS w fr₀ s₀ vs env (exS FT (k + 1) σ (.raiseEpd i))) (PXS mg G env fr₀ s₀ (exS FT (k + 1) σ (.raiseEpd i))) s := by
  refine c.d.ex.use fun K cE fE cB fB cS cD fD hK XK ME MB MD XB XS XD nB nS nD _ _ => ?_
  obtain ⟨of, hf, hfc⟩ := MD.fn
  have hdep := c.R.depthOk
  obtain ⟨d, hd, h₀⟩ := R.optB (r := exS FT (k + 1) σ (.raiseEpd i)) rfl hr
  obtain ⟨hs, h₀⟩ := R.ite h₀ hr
  rw [h₀]
  cases cf with
  | mk hx h1 h2 hlen =>
  rename_i x q1 q2 q3 q4 kk t
  obtain ⟨v, hv, rv⟩ := slot_rep f c.b hx hd
  cases d <;> first | (cases hs; done) | skip
  rename_i sx
  cases rv
  rename_i tv
  have hlx : sx.length ≤ 1000 := by simpa [shortStr] using hs
  refine raise_made (x := .epd (-1)) (Sp := fun m => ∃ t, m "at" = some (.int (-1) t)) c f hg nD rfl hK XD hf hfc (ce.star _ _) rfl (fun m h i hi => by cases hi; exact h) ?_
  have hh : (A.deeper env).handled = none := c.R.handled
  have fin : ∀ (s₁ : Shared) (v1 : Value) (t1 : Tok), v1 = .int (-1) t1 → St (env :: fr₀) s s₁ → wpAny (model PR w) (A.deeper env) (spliced (backTo r (starEach [PySem.Expr.JoinedStr [.FormattedValue (.Name x q1) (-1) none q2, .Constant (.str t) kk q3] q4] env)))
      (fun vs' s₂ => (fun vals s₁ => (.exc (.epd (-1)) : R (Env × Flow)) = .exc (.epd (-1)) ∧ Fs w fr₀ s₀ vs env σ s₁ ∧ vals.length ≤ sizeLine ∧
      ∀ (A' : Around) (s₂ : Shared) (e x0 : Addr), A'.depth ≤ (A.deeper env).depth + 1 → s₁.heap.get? e = none → (∀ b o, s₁.heap.get? b = some o → s₂.heap.get? b = some o) → s₂.heap.get? e = some { cls := .ref cD, dict := none, data := .fields #[.ref x0, .none, .none, .none, .bool false, .none] } →
      ∀ (E : Value → Shared → Prop) (Q : Value → Shared → Prop), (∀ m s', (∃ t, m "at" = some (.int (-1) t)) → IPost cD e m s₂ s' → Q .none s') → wpAny (model PR w) A' (call (.ref fD) (.ref e :: vals)) Q E s₂) (v1 :: vs') s₂) (PXS mg G env fr₀ s₀ (.exc (.epd (-1)) : R (Env × Flow))) s₁ := by
    rintro s₁ _ t1 rfl st
    have f₁ := f.step c.b st
    obtain ⟨v', hv', rv'⟩ := slot_rep f₁ c.b hx hd
    cases rv'
    refine wpAny_items_cons (PyProof.Rows.JoinedStr_many (PyProof.Rows.joinParts_cons (PyProof.Rows.FormattedValue_plain (var_load (by rw [c.b.scope]; exact c.b.kind) h1 h2 hv' (PyProof.Rows.formatField_str (fun t' tk => ?_) (by rw [sizeLine_eq]; lia))))))
    refine ⟨?_, PyProof.Rows.joinParts_cons (wpAny_Constant_str ⟨?_, PyProof.Rows.joinParts_nil (wpAny_items_nil ?_) ?_⟩)⟩
    · rw [strLen_append, sizeLine_eq]
      have : (Str.empty : Str).length = 0 := rfl
      lia
    · rw [strLen_append, strLen_append, sizeLine_eq]
      have : (Str.empty : Str).length = 0 := rfl
      lia
    · have f₂ := f₁.step c.b (St.toks (fr := env :: fr₀) s₁ (tk + 1 + 1))
      have R₂ := f₂.rm c.b c.R
      refine ⟨rfl, f₂, by simp [sizeLine_eq], fun A' s₂ e x0 a1 a2 a3 a4 E' Q' hQ' => ?_⟩
      have hroom : A'.depth + 1 < recursionLimit := by have : (A.deeper env).depth = A.depth + 1 := rfl; lia
      exact init_at (base_of c.d R₂ hK a2 a3) XK XD ME MD bodyD_ok rfl (by simp) (by simp) rfl rfl hroom a4 fun m s' hm ip => hQ' m s' ⟨_, hm⟩ ip
    · rw [strLen_append, strLen_append, sizeLine_eq]
      have : (Str.empty : Str).length = 0 := rfl
      lia
  replace ce := CpE.un ce
  cases ce with
  | neg c1 =>
  replace c1 := CpE.un c1
  cases c1 with
  | cInt =>
  refine wpAny_items_cons (wpAny_UnaryOp (wpAny_Constant_int (P.neg_int ?_))) rfl
  exact fin _ _ _ rfl (St.toks ..)
end
end Mine
end

/-! text M45 -/
section
set_option bootstrap.genMatcherCode false
open PySem PySem.Calls PyProof.Rows PySem.W
set_option maxRecDepth 100000
namespace Mine

theorem GG.keeps {G G' : Heap} (k : ∀ b o, G.get? b = some o → G'.get? b = some o) (x : GG G) : GG G' :=
  ⟨x.nolimit.keeps k, x.seer.keeps k, x.tree, let ⟨m, h⟩ := x.mainNs; ⟨m, h.keeps k⟩⟩

section
variable {w : World} {mg mb : Str → Option Value}
variable {G : Heap} {fr fr₀ : List PySem.Env} {A A' : Around} {k n : Nat} {s s₀ s₁ s' s'' : Shared} {Z : Value → Shared → Prop} {sc : Scope} {σ : Env} {vs : List Str} {env : PySem.Env}

theorem Gd.keeps {G' : Heap} (k : ∀ b o, G.get? b = some o → G'.get? b = some o) (d : Gd mg mb G) : Gd mg mb G' :=
  ⟨d.g.keeps k, d.b.keeps k, fun x v h => let ⟨val, a, r⟩ := d.gl x v h; ⟨val, a, r.step (FR := []) (Keep.of_keeps k)⟩, d.len, d.min, d.max, d.sorted, d.list, d.bytes, d.range, d.ex.keeps k, fun x f h => let ⟨a, o, fd, h1, h2, h3, h4⟩ := d.fn x f h; ⟨a, o, fd, h1, k _ _ h2, h3, h4.keeps k⟩⟩

/-- the ground of a try: all but the frames -/
noncomputable abbrev tryG (s : Shared) (fr : List PySem.Env) : Heap := bare s.heap (· ∈ FRof fr)

theorem tryG_sub (R : Rm G fr A n s.heap) : ∀ b o, G.get? b = some o → (tryG s fr).get? b = some o := fun b o hb => by
  refine (bare_of fun q => ?_).trans (R.keepG b o hb)
  obtain ⟨env, he, hf⟩ := List.mem_filterMap.mp q
  obtain ⟨_, L, _, hL, hn, _⟩ := R.fok env he
  rw [hf] at hL; cases hL
  rw [hn] at hb; cases hb

theorem Rm.tryG (R : Rm G fr A n s.heap) : Rm (tryG s fr) fr A n s.heap := by
  refine ⟨⟨R.gg.keeps (tryG_sub R), R.handled, R.frames, R.depth, R.units, fun b o e => bare_some e, fun e he => ?_⟩, R.head⟩
  obtain ⟨hk, L, m, h1, h2, h3⟩ := R.fok e he
  exact ⟨hk, L, m, h1, bare_no (List.mem_filterMap.mpr ⟨e, he, h1⟩), h3⟩

/-- what stands when a fault flies over the ground of a try -/
theorem flt_st {e : Addr} {cls : Value} {dd : Option Addr} {fl : Option Value} (R : Rm G fr A n s.heap) (x : Flt (tryG s fr) fr e cls dd fl s'.heap) (hn : ∀ L ∈ FRof fr, ∀ m, s.heap.Ns L m → s'.heap.Ns L m) (hg : s'.gens = s.gens) (hos : s'.os = s.os) : St fr s s' := by
  refine ⟨⟨fun b o hb => ?_, fun b o hb _ hd => ?_, fun b m hb _ h => hn b hb m h⟩, hg, hos⟩
  · by_cases q : b ∈ FRof fr
    · obtain ⟨_, o', h, _⟩ := x.frames.mem q
      exact ⟨o', h⟩
    · exact ⟨o, x.stays b o ((bare_of q).trans hb)⟩
  · by_cases q : b ∈ FRof fr
    · obtain ⟨e, he, hf⟩ := List.mem_filterMap.mp q
      obtain ⟨_, L, m, hL, _, ⟨o', es, ep, ho', hd', _⟩⟩ := R.fok e he
      rw [hf] at hL; cases hL
      rw [hb] at ho'; cases ho'
      exact (hd q es ep hd').elim
    · exact x.stays b o ((bare_of q).trans hb)

/-- a name turns that the body does not speak of -/
theorem Fs.touch {m m' : Str → Option Value} (b : Bd sc vs env s₀) (f : Fs w fr₀ s₀ vs env σ s) (hn : s.heap.Ns env.locals m) (hn' : s'.heap.Ns env.locals m') (x : Heap.SameBut env.locals s.heap s'.heap) (hm : ∀ y ∈ vs, m' y = m y) (hg : s'.gens = s.gens) (hos : s'.os = s.os) : Fs w fr₀ s₀ vs env σ s' := by
  obtain ⟨ow, S⟩ := f.slots
  have x' := x.extBut
  have nt : ∀ its, ¬ IsTup s.heap env.locals its := fun its => ns_noTup hn _ its rfl
  have nl : ∀ its, ¬ s.heap.IsList env.locals its := fun its => ns_noList hn
  have nC : ∀ {y c ov}, env.cells.lookup y = some c → s.heap.IsCell c ov → c ≠ env.locals := by
    rintro y c ov _ ⟨o', ho', hd'⟩ e
    obtain ⟨o, es, ep, ho, hd, _⟩ := hn
    rw [e, ho] at ho'; cases ho'; rw [hd] at hd'; cases hd'
  have mv : ∀ {y : Str} {u : Value}, y ∈ vs → VarIs env s.heap y u → VarIs env s'.heap y u := by
    intro y u hy h
    cases h with
    | loc p q r => exact .loc p hn' ((hm y hy).trans (by rw [ns_inj hn q]; exact r))
    | cell p q r => exact .cell p q (let ne := nC q r; let ⟨o, ho, hd⟩ := r; ⟨o, x' _ o ne ho, hd⟩)
  refine ⟨⟨f.st.keep.extNew x' b.newL, hg.trans f.st.gens, hos.trans f.st.os⟩, ⟨m', hn'⟩, fun y c e => ?_, f.len, ow, S.new, S.inj, S.dom, fun i y sl hy hsl => ?_⟩
  · obtain ⟨ov, r⟩ := f.cell y c e
    exact ⟨ov, let ne := nC e r; let ⟨o, ho, hd⟩ := r; ⟨o, x' _ o ne ho, hd⟩⟩
  · have := S.slot i y sl hy hsl
    have hyv : y ∈ vs := List.mem_of_getElem? hy
    cases sl with
    | unb => exact this
    | val V => obtain ⟨n, v, h1, r⟩ := this; exact ⟨n, v, mv hyv h1, r.ext x' nt fun its _ => nl its⟩
    | own l => obtain ⟨c, its, n, h1, h2, h3⟩ := this; exact ⟨c, its, n, mv hyv h1, h2.extBut x' (fun e => nl _ (e ▸ h2.isList)), h3.ext x' nt fun _ z => z.elim⟩
    | dict kvs =>
      obtain ⟨d, n, h1, h2, h3⟩ := this
      exact ⟨d, n, mv hyv h1, h2, ext_dict' x' nt (fun e => h2 (e ▸ frame_mem b)) h3⟩
end
end Mine
end

/-! text M46 -/
section
set_option bootstrap.genMatcherCode false
open PySem PySem.Calls PyProof.Rows PySem.W
set_option maxRecDepth 100000
namespace Mine
section
variable {M : Model} {A : Around} {E : Value → Shared → Prop} {env : PySem.Env}
variable {nm q nm' q' : Str} {C N D N' : Addr} {bs bm bs' bm' : List Value} {hdct hdct' : Bool} {sn sn' : List Str} {sub sub' : List Value} {ab ab' : Bool} {col col' : Option Bool} {dd dd' : Option Addr} {k0 k1 k2 k3 k5 k0' k1' k2' k3' k5' : Option Value} {newId newId' : String}

theorem excMatches_other {h : Heap} {g : Array GenState} {d : Drawn} {t : Nat} {os : OsState} {e : Addr} {oe : Obj} {b : Bool} {Q : Bool → Shared → Prop}
    (hC : h.get? C = some (excClassObj nm q C N bs bm hdct sn sub ab col dd k0 k1 k2 k3 k5 newId)) (hD : h.get? D = some (excClassObj nm' q' D N' bs' bm' hdct' sn' sub' ab' col' dd' k0' k1' k2' k3' k5' newId')) (he : h.get? e = some oe) (hcls : oe.cls = .ref D) (hbase : bm.contains (.type "BaseException") = true)
    (hb : (Value.ref D :: bm').contains (.ref C) = b)
    (hq : Q b ⟨h, g, d, t, os⟩) : wpAny M A (excMatches (.ref e) (.ref C)) Q E ⟨h, g, d, t, os⟩ := by
  have hcB : (Value.ref C :: bm).contains (.type "BaseException") = true := by rw [List.contains_cons, hbase, Bool.or_true]
  have f := tc_notTuple
  unfold excMatches
  repeat (first | (with_reducible refine wpAny_loadPart_at he ?_; rw [hcls]) | with_reducible refine wpAny_loadPart_at hC ?_ | (with_reducible refine wpAny_isSubtype_exc hC ?_; first | rw [hcB]) | (with_reducible refine wpAny_isSubtype_exc hD ?_; rw [hb]) | wp_step)
  cases b <;> (repeat (first | wp_step)) <;> exact hq
end
end Mine
end

/-! text M47 -/
section
set_option bootstrap.genMatcherCode false
open PySem PySem.Calls PyProof.Rows PySem.W
set_option maxRecDepth 100000
namespace Mine
noncomputable def ClausePost (M : Model) (A : Around) (E : Value → Shared → Prop) (env : PySem.Env) (pos : Pos) (Q : PySem.Flow → Shared → Prop) (name : Option Str) (r : Result) (s₂ : Shared) : Prop := match r with
          | .ok f => (match name with
            | none => Q f s₂
            | some n => wpAny M A (do bindName env n .none; unbindBehindTheSuite env n pos) (fun _ s₃ => Q f s₃) E s₂)
          | .error x => cameBackBy M A env E x s₂

section
variable {w : World} {mg mb : Str → Option Value}
variable {G : Heap} {fr fr₀ : List PySem.Env} {A A' : Around} {k n : Nat} {s s₀ s₁ s' s'' : Shared} {Z : Value → Shared → Prop} {sc : Scope} {σ : Env} {vs : List Str} {env : PySem.Env}

/-- a fault that a try holds; s is the state that the try began in -/
structure Held (mg : Str → Option Value) (fr : List PySem.Env) (s : Shared) (x : Exc) (e C : Addr) (dd : Option Addr) (fl : Option Value) (s' : Shared) : Prop where
  cls : mg (excName x) = some (.ref C)
  flt : Flt (tryG s fr) fr e (.ref C) dd fl s'.heap
  at_ : AtD s'.heap dd x
  names : ∀ L ∈ FRof fr, ∀ m, s.heap.Ns L m → s'.heap.Ns L m
  gens : s'.gens = s.gens
  os : s'.os = s.os

theorem Held.st {x : Exc} {e C : Addr} {dd : Option Addr} {fl : Option Value} (R : Rm G fr A n s.heap) (H : Held mg fr s x e C dd fl s') : St fr s s' := flt_st R H.flt H.names H.gens H.os
theorem Held.turn {x : Exc} {e C : Addr} {dd : Option Addr} {fl fl' : Option Value} {h : Heap} (H : Held mg fr s x e C dd fl s') (f : Flt (tryG s fr) fr e (.ref C) dd fl' h) (u : Ups s'.heap h) : Held mg fr s x e C dd fl' { s' with heap := h } :=
  ⟨H.cls, f, H.at_.ups u, fun L hL m hm => u.ns (H.names L hL m hm), H.gens, H.os⟩

theorem held_flight {M : Model} {x : Exc} {e C : Addr} {dd : Option Addr} {f : Value} {Q : Unit → Shared → Prop} (H : Held mg fr s x e C dd (some f) s') (h : ∀ s'', Held mg fr s x e C dd (some .none) s'' → Q () s'') : wpAny M A' (setFlight (.ref e) none) Q Z s' :=
  flight_flt (to := none) H.flt fun _ f' u => h _ (H.turn f' u)

/-- what a fault brings to the handlers -/
theorem held_start {M : Model} {x : Exc} {v : Value} {L : Addr} {Q : Unit → Shared → Prop} (hfr : A'.frames = some (env :: fr₀)) (hf : env.frame = some L) (y : Fly mg (tryG s (env :: fr₀)) (env :: fr₀) s x v s')
    (h : ∀ e C dd s'', v = .ref e → Held mg (env :: fr₀) s x e C dd (some .none) s'' → Q () s'') :
    wpAny M A' (noteFrame v env) (fun _ s₂ => wpAny M A' (setFlight v none) Q Z s₂) Z s' := by
  obtain ⟨e, C, dd, rfl, hC, hF, hA⟩ := y.is
  have H : Held mg (env :: fr₀) s x e C dd (some .none) s' := ⟨hC, hF, hA, y.names, y.gens, y.os⟩
  exact note_flt hfr hf (.inr (.inl rfl)) H.flt fun h₁ f₁ u₁ => held_flight (H.turn f₁ u₁) fun s'' H' => h e C dd s'' rfl H'

theorem held_obj {x : Exc} {e C : Addr} {dd : Option Addr} {fl : Option Value} (H : Held mg fr s x e C dd fl s') : ∃ oe xs, s'.heap.get? e = some oe ∧ oe.cls = .ref C ∧ oe.dict = dd ∧ oe.data = .fields xs := by
  obtain ⟨oe, xs, h1, h2, h3, h4, _⟩ := H.flt.obj
  exact ⟨oe, xs, h1, h2, h3, h4⟩

/-- the test of a clause -/
theorem clause_test {x : Exc} {e C D cE fI fJ : Addr} {dd : Option Addr} {K : Frag} {xs : Str} {p1 pos : Pos} {b : Bool} {name : Option Str} {body : List Stmt} {rest : List ExceptHandler} {Q : PySem.Flow → Shared → Prop} {E : Value → Shared → Prop}
    (c : SCtx mg mb (k + 1) G fr₀ s₀ A sc vs env) (f : Fs w fr₀ s₀ vs env σ s') (H : Held mg (env :: fr₀) s x e C dd (some .none) s') (hK : K.In G) (XC : ClsK K cE C fI) (XD : ClsK K cE D fJ)
    (hg : IsGlob sc xs) (hx : mg xs = some (.ref D)) (hb : (Value.ref C :: [.ref cE, .type "Exception", .type "BaseException", .type "object"]).contains (.ref D) = b)
    (h : if b = true then codeAny (model PR w) ((A.deeper env).mark (some (.ref e))) (.handlers (.ref e) [.ExceptHandler none name body pos] env) (fun r s₂ => ClausePost (model PR w) (A.deeper env) E env pos Q name r s₂) s'
      else wpAny (model PR w) (A.deeper env) (handleBy (.ref e) env rest) Q E s') :
    wpAny (model PR w) (A.deeper env) (handleBy (.ref e) env (.ExceptHandler (some (.Name xs p1)) name body pos :: rest)) Q E s' := by
  have g := c.stg f
  have R := f.rm c.b c.R
  refine XC.use (hK.keeps R.keepG) fun nm q N bs hdct sn sub ab col ddd k0 k1 k2 k3 k5 hC => ?_
  refine XD.use (hK.keeps R.keepG) fun nm' q' N' bs' hdct' sn' sub' ab' col' ddd' k0' k1' k2' k3' k5' hD => ?_
  obtain ⟨oe, xs', he, hcl, hdi, hda⟩ := held_obj H
  refine wpAny_handleBy_cons (codeAny_handlers_test (Name_function_global g.e.kind (g.e.names _ hg.1) (loadGlobal_global (g.e.glo ▸ g.d.g.keeps g.R.keepG) hx ?_) hg.2)) (by intro q; cases q)
  obtain ⟨hh, gg, d, tk, os⟩ := s'
  refine excMatches_other hD hC he hcl (by simp) hb ?_
  cases b
  · exact h
  · exact h

/-- a clause with a name -/
theorem clause_as {x : Exc} {e C D cE fI fJ : Addr} {dd : Option Addr} {K : Frag} {xs y : Str} {p1 pos : Pos} {b₀ : Stmt} {body : List Stmt} {rest : List ExceptHandler} {Q : PySem.Flow → Shared → Prop} {E : Value → Shared → Prop}
    (c : SCtx mg mb (k + 1) G fr₀ s₀ A sc vs env) (f₀ : Fs w fr₀ s₀ vs env σ s) (H : Held mg (env :: fr₀) s x e C dd (some .none) s') (hK : K.In G) (XC : ClsK K cE C fI)
    (hg : IsGlob sc xs) (hx : mg xs = some (.ref C)) (hy : sc.names.lookup y = some .local) (hya : ("at" : Str) ≠ y) (hyv : y ∉ vs)
    (h : ∀ s₃, Fs w fr₀ s₀ vs env σ s₃ → (∃ m, s₃.heap.Ns env.locals m ∧ m y = some (.ref e)) → (∃ oe ys, s₃.heap.get? e = some oe ∧ oe.cls = .ref C ∧ oe.dict = dd ∧ oe.data = .fields ys) → AtD s₃.heap dd x →
      wpAny (model PR w) ((A.deeper env).mark (some (.ref e))) (execs (b₀ :: body) env) (fun fl s₄ => ∃ σ', Fs w fr₀ s₀ vs env σ' s₄ ∧ ∀ s₅, Fs w fr₀ s₀ vs env σ' s₅ → Q fl s₅) (fun _ _ => False) s₃) :
    wpAny (model PR w) (A.deeper env) (handleBy (.ref e) env (.ExceptHandler (some (.Name xs p1)) (some y) (b₀ :: body) pos :: rest)) Q E s' := by
  have R₀ := f₀.rm c.b c.R
  have f := f₀.step c.b (H.st R₀)
  refine clause_test c f H hK XC XC hg hx (b := true) (by simp) ?_
  rw [if_pos rfl]
  have hk : env.scope.kind = .function := by rw [c.b.scope]; exact c.b.kind
  have hkl : env.kindOf y = some .local := by show env.scope.names.lookup y = _; rw [c.b.scope]; exact hy
  have hp : (env.scope.kind == .class || (env.scope.kind == .module && env.locals != env.globals)) = false := by rw [hk]; rfl
  refine codeAny_handlers_suite_as (held_flight H fun s₁ H₁ => ?_)
  have f₁ := f₀.step c.b (H₁.st R₀)
  obtain ⟨m, hm⟩ := f₁.ns
  refine wpAny_storeName_local hkl hm (fun h' hn' hs' => ?_) hp
  obtain ⟨oe, ys, he, hcl, hdi, hda⟩ := held_obj H₁
  have hne : e ≠ env.locals := fun q => by
    obtain ⟨o', es, ep, ho', hd', _⟩ := hm
    rw [← q, he] at ho'; cases ho'; rw [hda] at hd'; cases hd'
  have f₂ : Fs w fr₀ s₀ vs env σ { s₁ with heap := h', toks := s₁.toks + 1 } := f₁.touch c.b hm hn' hs' (fun z hz => if_neg (fun (q : z = y) => hyv (q ▸ hz))) rfl rfl
  have hat : AtD h' dd x := fun i hi => by
    obtain ⟨d, m₁, t, h1, h2, h3⟩ := H₁.at_ i hi
    by_cases q : d = env.locals
    · subst q
      refine ⟨_, _, t, h1, hn', ?_⟩
      rw [if_neg hya, ns_inj hm h2]; exact h3
    · exact ⟨d, m₁, t, h1, h2.sameBut hs' q, h3⟩
  refine wpAny_mono (h { s₁ with heap := h', toks := s₁.toks + 1 } f₂ ⟨_, hn', if_pos rfl⟩ ⟨oe, ys, (hs'.2 e hne).trans he, hcl, hdi, hda⟩ hat) (fun fl s₄ z => ?_) fun _ _ z => z.elim
  obtain ⟨σ', f₄, hQ⟩ := z
  obtain ⟨m₄, hm₄⟩ := f₄.ns
  exact wpAny_nameGoes_keeps hkl hm₄ hp fun h'' v hn'' hs'' => hQ _ (f₄.touch c.b hm₄ hn'' hs'' (fun z hz => if_neg (fun (q : z = y) => hyv (q ▸ hz))) rfl rfl)
end
end Mine
end

/-! text M48 -/
section
set_option bootstrap.genMatcherCode false
open PySem PySem.Calls PyProof.Rows PySem.W
set_option maxRecDepth 100000
namespace Mine
section
variable {w : World} {mg mb : Str → Option Value}
variable {G : Heap} {fr fr₀ : List PySem.Env} {A A' : Around} {k n : Nat} {s s₀ s₁ s' s'' : Shared} {Z : Value → Shared → Prop} {sc : Scope} {σ : Env} {vs : List Str} {env : PySem.Env}

/-- the place that a fault tells is read -/
theorem read_at {x : Exc} {e C cE fI : Addr} {dd : Option Addr} {K : Frag} {y : Str} {i : Int} {p1 p2 : Pos} {Q : Value → Shared → Prop} (c : SCtx mg mb (k + 1) G fr₀ s₀ A sc vs env) (f : Fs w fr₀ s₀ vs env σ s) (hK : K.In G) (X : ClsK K cE C fI)
    (hy : sc.names.lookup y = some .local) (hyd : (y == ("__debug__" : Str)) = false) (hn : ∃ m, s.heap.Ns env.locals m ∧ m y = some (.ref e)) (he : ∃ oe ys, s.heap.get? e = some oe ∧ oe.cls = .ref C ∧ oe.dict = dd ∧ oe.data = .fields ys) (ha : AtD s.heap dd x) (hi : excAt x = some i)
    (h : ∀ t tk, Q (.int i t) { s with toks := tk }) : wpAny (model PR w) A' (eval (.Attribute (.Name y p1) "at" p2) env) Q Z s := by
  have hk : env.scope.kind = .function := by rw [c.b.scope]; exact c.b.kind
  have hkl : env.kindOf y = some .local := by show env.scope.names.lookup y = _; rw [c.b.scope]; exact hy
  obtain ⟨m, hm, hmy⟩ := hn
  obtain ⟨oe, ys, he, hcl, hdi, hda⟩ := he
  obtain ⟨d, m', t, h1, h2, h3⟩ := ha i hi
  have R := f.rm c.b c.R
  obtain ⟨cd', hcd', hd', hpass, hobj, hbase⟩ := X.cd
  exact Attribute_name (wpAny_Name (wpAny_loadName_local hk hkl hm hmy (exc_getattr (hK.keeps R.keepG) hcd' hd' he hcl hda (hdi.trans h1) h2 h3 X.noAt X.ga X.noga hbase rfl (h t _))) hyd)

theorem S_tryBook {i : Nat} {x y : Str} {e : E} {pe : PySem.Expr} {q p f1 f2 f3 f4 f5 f6 : Pos} (HE : SimE w mg mb k) (c : SCtx mg mb (k + 1) G fr₀ s₀ A sc vs env) (f : Fs w fr₀ s₀ vs env σ s)
    (hx : vs[i]? = some x) (hg : IsGlob sc "BadBook") (hy : sc.names.lookup y = some .local) (hyd : (y == ("__debug__" : Str)) = false) (hya : ("at" : Str) ≠ y) (hyv : y ∉ vs) (hn : noComp e = true) (ce : CpE sc vs e pe) (hr : exS FT (k + 1) σ (.tryBook e i) ≠ .stuck) :
    wpAny (model PR w) (A.deeper env) (exec (.Try [.Expr pe q] [.ExceptHandler (some (.Name "BadBook" f1)) (some y) [.Assign [.Name x f2] (.Attribute (.Name y f3) "at" f4) f5] f6] [] [] p) env)
      (PS w fr₀ s₀ vs env (exS FT (k + 1) σ (.tryBook e i))) (PXS mg G env fr₀ s₀ (exS FT (k + 1) σ (.tryBook e i))) s := by
  rw [show exS FT (k + 1) σ (.tryBook e i) = tryB σ i (evE FT k σ e) from rfl] at hr ⊢
  refine c.d.ex.use fun K cE fE cB fB cS cD fD hK XK ME MB MD XB XS XD nB nS nD _ _ => ?_
  have R := f.rm c.b c.R
  have R' := R.tryG
  have g := c.stg f
  have g' : Stg w mg mb (k + 1) (tryG s (env :: fr₀)) (env :: fr₀) (A.deeper env) sc σ vs env s.heap := ⟨c.d.keeps (tryG_sub R), R', g.e⟩
  have hne : evE FT k σ e ≠ .stuck := fun q => by rw [q] at hr; exact hr rfl
  have hfr : (A.deeper env).frames = some (env :: fr₀) := R.frames
  have hi : interactive env = false := by unfold interactive; rw [c.b.scope, c.b.kind]; rfl
  rw [arm_exec_Try]
  refine wpAny_bind (wpAny_standAt (wpAny_tryStmt_except (wpAny_execs_cons (wpAny_Expr (wpAny_mono (HE g'.pred ce hne) (fun v s₁ h => ?_) fun v s₁ h => ?_) hi (ce.swaps hn _ _ _)))))
  · obtain ⟨d, e₁, g₁⟩ := h
    rw [e₁] at hr ⊢
    cases d <;> first | (exact (hr rfl).elim) | skip
    obtain ⟨r₁, st₁⟩ := g₁
    cases r₁
    exact wpAny_execs_nil (wpAny_execs_nil ⟨_, _, rfl, f.step c.b st₁, .next⟩)
  · obtain ⟨xx, e₁, y₁⟩ := h
    rw [e₁] at hr ⊢
    cases xx with
    | san => exact (hr rfl).elim
    | epd a => exact (hr rfl).elim
    | book a =>
    refine held_start hfr c.b.frame y₁ fun ee C dd s₂ ev H => ?_
    subst ev
    have hC : C = cB := by
      have := H.cls.symm.trans nB
      simpa using this
    subst hC
    refine clause_as (D := C) (fJ := fB) c f H hK XB hg nB hy hya hyv fun s₃ f₃ hn₃ ho₃ ha₃ => ?_
    refine wpAny_execs_cons (wpAny_Assign_Name (read_at c f₃ hK XB hy hyd hn₃ ho₃ ha₃ rfl fun t tk => ?_) rfl)
    have f₄ := f₃.step c.b (St.toks (fr := env :: fr₀) s₃ tk)
    refine f₄.storeV c.b hx (.int a t) rfl fun s₅ f₅ _ => wpAny_execs_nil ⟨_, f₅, fun s₆ f₆ => ⟨_, _, rfl, f₆, .next⟩⟩

theorem S_trySolved {y : Str} {e : E} {pe : PySem.Expr} {q p f1 f3 f4 f5 f6 f7 f9 g1 g4 g5 g6 f2 f8 g2 g3 : Pos} {k1 k2 k3 k4 : Nat} (HE : SimE w mg mb k) (c : SCtx mg mb (k + 1) G fr₀ s₀ A sc vs env) (f : Fs w fr₀ s₀ vs env σ s)
    (hgS : IsGlob sc "BadSan") (hgD : IsGlob sc "BadEpd") (hy : sc.names.lookup y = some .local) (hyd : (y == ("__debug__" : Str)) = false) (hya : ("at" : Str) ≠ y) (hyv : y ∉ vs) (ce : CpE sc vs e pe) (hr : exS FT (k + 1) σ (.trySolved e) ≠ .stuck) :
    wpAny (model PR w) (A.deeper env) (exec (.Try [.Return (some pe) q]
        [.ExceptHandler (some (.Name "BadSan" f1)) none [.Return (some (.Constant (.str "san") k1 f2)) f3] f4,
         .ExceptHandler (some (.Name "BadEpd" f5)) (some y) [.Return (some (.IfExp (.Compare (.Attribute (.Name y f6) "at" f7) [.Eq] [.UnaryOp .USub (.Constant (.int 1) k2 f8) f9] g1) (.Constant (.str "epd") k3 g2) (.Constant .none k4 g3) g4)) g5] g6] [] [] p) env)
      (PS w fr₀ s₀ vs env (exS FT (k + 1) σ (.trySolved e))) (PXS mg G env fr₀ s₀ (exS FT (k + 1) σ (.trySolved e))) s := by
  rw [show exS FT (k + 1) σ (.trySolved e) = tryS σ (evE FT k σ e) from rfl] at hr ⊢
  refine c.d.ex.use fun K cE fE cB fB cS cD fD hK XK ME MB MD XB XS XD nB nS nD hSD hES => ?_
  have R := f.rm c.b c.R
  have R' := R.tryG
  have g := c.stg f
  have g' : Stg w mg mb (k + 1) (tryG s (env :: fr₀)) (env :: fr₀) (A.deeper env) sc σ vs env s.heap := ⟨c.d.keeps (tryG_sub R), R', g.e⟩
  have hne : evE FT k σ e ≠ .stuck := fun q => by rw [q] at hr; exact hr rfl
  have hfr : (A.deeper env).frames = some (env :: fr₀) := R.frames
  rw [arm_exec_Try]
  refine wpAny_bind (wpAny_standAt (wpAny_tryStmt_except (wpAny_execs_cons (wpAny_Return_some (wpAny_mono (HE g'.pred ce hne) (fun v s₁ h => ?_) fun v s₁ h => ?_)))))
  · obtain ⟨d, e₁, r₁, st₁⟩ := h
    rw [e₁]
    exact ⟨_, _, rfl, f.step c.b st₁, .ret r₁⟩
  · obtain ⟨xx, e₁, y₁⟩ := h
    rw [e₁] at hr ⊢
    cases xx with
    | book a => exact (hr rfl).elim
    | san =>
      refine held_start hfr c.b.frame y₁ fun ee C dd s₂ ev H => ?_
      subst ev
      have hC : C = cS := by
        have := H.cls.symm.trans nS
        simpa using this
      subst hC
      refine clause_test c (f.step c.b (H.st R)) H hK XS XS hgS nS (b := true) (by simp) ?_
      rw [if_pos rfl]
      refine codeAny_handlers_suite (held_flight H fun s₃ H₃ => wpAny_execs_cons (wpAny_Return_some (wpAny_Constant_str ?_)))
      exact ⟨_, _, rfl, f.step c.b ((H₃.st R).trans (St.toks ..)), .ret (.str ..)⟩
    | epd a =>
      refine held_start hfr c.b.frame y₁ fun ee C dd s₂ ev H => ?_
      subst ev
      have hC : C = cD := by
        have := H.cls.symm.trans nD
        simpa using this
      subst hC
      refine clause_test c (f.step c.b (H.st R)) H hK XD XS hgS nS (b := false) (by simp [hSD, hES]; first | done | exact ⟨hSD, hES⟩ | exact fun q => hES q.symm) ?_
      rw [if_neg Bool.false_ne_true]
      refine clause_as (D := C) (fJ := fD) c f H hK XD hgD nD hy hya hyv fun s₃ f₃ hn₃ ho₃ ha₃ => ?_
      refine wpAny_execs_cons (wpAny_Return_some (wpAny_IfExp (wpAny_isTrue_Compare1 (read_at c f₃ hK XD hy hyd hn₃ ho₃ ha₃ rfl fun t tk => ?_) rfl)))
      refine wpAny_UnaryOp (wpAny_Constant_int (P.neg_int (P.eq_int (wpAny_truthy_bool ?_))))
      by_cases ha : a = -1
      · rw [show (a == -1) = true from by simp [ha], if_pos rfl]
        refine wpAny_Constant_str ⟨_, f₃.step c.b (St.toks (fr := env :: fr₀) s₃ _), fun s₆ f₆ => ⟨_, _, rfl, f₆, ?_⟩⟩
        rw [if_pos ha]
        exact .ret (.str ..)
      · rw [show (a == -1) = false from by simp [ha], if_neg Bool.false_ne_true]
        refine wpAny_Constant_none ⟨_, f₃.step c.b (St.toks (fr := env :: fr₀) s₃ _), fun s₆ f₆ => ⟨_, _, rfl, f₆, ?_⟩⟩
        rw [if_neg ha]
        exact .ret .none

theorem simX (HE : SimE w mg mb k) : SimX w mg mb k := by
  intro G fr₀ s₀ A sc vs env σ s st pst hX c f cp hr
  replace cp := cp.un
  induction cp using CpSF.casesOn <;> first | (cases hX; done) | skip
  case raiseBook hg ce => exact S_raiseBook HE c f hg ce hr
  case raiseSan hg ce => exact S_raiseSan HE c f hg ce hr
  case raiseEpd hg ce cf => exact S_raiseEpd HE c f hg ce cf hr
  case tryBook hx hg hy hyd hya hyv hn ce => exact S_tryBook HE c f hx hg hy hyd hya hyv hn ce hr
  case trySolved hgS hgD hy hyd hya hyv ce => exact S_trySolved HE c f hgS hgD hy hyd hya hyv ce hr

/-- what the mini interpreter tells of a call, the machine does -/
theorem sim_all (w : World) (mg mb : Str → Option Value) (k : Nat) : All w mg mb k := (all_of (fun _ h => simX h) k).1
end
end Mine
end

/-! text HeadB -/
section
set_option bootstrap.genMatcherCode false
open PySem PySem.W PyProof.Rows PySem.Challenge
set_option Elab.async false
set_option maxRecDepth 100000
set_option maxHeartbeats 8000000
namespace Mine
open PySem.Calls

/-! the head of the walk: the run of the module's top, evaluated once -/
noncomputable def treeOf (l : List Obj) : Nat → Nat → Nat → BT
  | 0, _, _ => .nil
  | f+1, a, b => match l[b]? with
    | some o => .node o (treeOf l f (2*a) (a+b)) (treeOf l f (2*a) (2*a+b))
    | none => .nil
noncomputable def topRunT (tb : String → Option Builtin) (p : Program) (w : World) (n₀ : Nat) (ann : Option Value) : Nat → SharedT → Thread → Option SharedT
  | 0, _, _ => none
  | n + 1, s, t => match through t with
    | true => some s
    | false => match stepOk n₀ ann t with
      | false => none
      | true => match stepT (denote tb) p w s t with
        | some (s', t') => topRunT tb p w n₀ ann n s' t'
        | none => none
theorem topRun_of {tb : String → Option Builtin} {p : Program} {w : World} {n₀ : Nat} {ann : Option Value} : ∀ {n : Nat} {s s' : SharedT} {t : Thread}, topRunT tb p w n₀ ann n s t = some s' → topRun tb p w n₀ ann n s.abs t = some s'.abs
  | 0, _, _, _, h => by cases h
  | n + 1, s, s', t, h => by
    unfold topRunT at h
    unfold topRun
    cases ht : through t with
    | true => rw [ht] at h; cases h; rfl
    | false =>
      rw [ht] at h
      cases hk : stepOk n₀ ann t with
      | false => rw [hk] at h; cases h
      | true =>
        rw [hk] at h
        cases hs : stepT (denote tb) p w s t with
        | none => rw [hs] at h; cases h
        | some r => obtain ⟨s₂, t₂⟩ := r; rw [hs] at h; rw [stepT_spec hs]; exact topRun_of h

noncomputable def ann0 : Option Value := some (.ref 6)
noncomputable def S0 (w : World) (os : OsState) : SharedT := ⟨treeOf (boot_heap w.params).objs.toList 12 1 0, 11, (boot_heap w.params).life, #[], boot_drawn, boot_toks, os⟩
theorem S0_abs (w : World) (os : OsState) : (S0 w os).abs = ⟨boot_heap w.params, #[], boot_drawn, boot_toks, os⟩ := by kernel_rfl

/-- what is asked of the module's state behind its top -/
noncomputable def lookB (p q : Program) (as : List Addr) (w : World) (s : Shared) :=
  ((staticsOk (importedModules p.main.body) (boot_heap w.params) s.heap && namesBound p s.heap && gensDone s && laidKept (boot_heap w.params) s.heap),
    openSeen q [Str.ofString "_law_board"] (importedModules p.main.body) (fun s => xlAt q [] s && recOk [] s) true s, as.map s.heap.get?)
noncomputable def runB (p q : Program) (as : List Addr) (w : World) (os : OsState) := (topRunT treeTable p w 11 ann0 3100 (S0 w os) (topStub p)).map fun s => lookB p q as w s.abs
noncomputable def goodB (q : Program) (K : PySem.Params → Frag) (w : World) := some (true, openGood q [Str.ofString "_law_board"], (K w.params).map fun p => some p.2)
theorem runB_self : runB = runB := rfl
theorem goodB_self : goodB = goodB := rfl
name_quick runBQ for Mine.runB by Mine.runB_self
name_quick goodBQ for Mine.goodB by Mine.goodB_self

/-- the text without its rows that give __name__ anew -/
noncomputable def vw : Program := view pw_nt0440_01 [1,2,3,4,5,6,8,9,10,11,12,13,14,15,16,17,18,19,20,21,22,23,24,25,26,27,29,30,31,32,33,34,35,36,37,38,39,40,41,43,44,45,46,47,49,50,51,52,53,54,55,56,57,58,59,61,62,63,64,65,66,68,69,70,71,72,73,74,75,76,77,78]
noncomputable def dE (P : PySem.Params) (k : Str) (t : Nat) (v : Value) : DictEntry := { hash := PyData.keyHash P k, key := .str k t, val := v }
noncomputable def initFn (p : Program) (k : Nat) (q : Str) (cd : Addr) : Obj := match p.main.body[k]? with
  | some (.ClassDef _ _ _ (.FunctionDef nm ps b _ _ _ sc _ _ _ :: _) _ _ _ _ _ _ _) => { cls := .type "function", data := .func { name := nm, qualname := q, params := ps, body := .stmts b, scope := sc, globals := 3, closure := [], defaults := .none, kwdefaults := .none, pyModule := .str "chess.errors" 187, code := .ref cd } }
  | _ => default
/-- the objects of the ground that the walk asks after -/
noncomputable def KB (P : PySem.Params) : Frag :=
  [(2, { cls := .none, data := .dict #[dE P "type.__subclasses__.Exception.0" 214 (.int 31 0), dE P "type.__subclasses__.Exception.n" 215 (.int 1 0)] 2 }),
    (3, { cls := .type "dict", data := .dict #[dE P "__name__" 165 (.str "law_nt0440_01" 721), dE P "__doc__" 166 (.none), dE P "__package__" 167 (.none), dE P "__loader__" 168 (.builtin "__main__.__loader__#opaque"), dE P "__spec__" 169 (.none), dE P "__annotations__" 170 (.ref 6), dE P "__builtins__" 171 (.ref 4), dE P "__file__" 173 (.str "/claim/cut.py" 172), dE P "__cached__" 174 (.none), dE P "ChessError" 217 (.ref 31), dE P "BadPiece" 242 (.ref 51), dE P "BadSan" 258 (.ref 63), dE P "AmbiguousSan" 274 (.ref 75), dE P "BadEpd" 300 (.ref 94), dE P "BadBook" 325 (.ref 113), dE P "NO_KIND" 329 (.int 0 328), dE P "PAWN" 331 (.int 1 330), dE P "KNIGHT" 333 (.int 2 332), dE P "BISHOP" 335 (.int 3 334), dE P "ROOK" 337 (.int 4 336), dE P "QUEEN" 339 (.int 5 338), dE P "KING" 341 (.int 6 340), dE P "EMPTY" 343 (.int 0 342), dE P "PROMOTION" 345 (.int 1 344), dE P "EN_PASSANT" 347 (.int 2 346), dE P "CASTLING" 349 (.int 3 348), dE P "NO_MOVE" 351 (.int 0 350), dE P "LETTERS" 353 (.str ".PNBRQK..pnbrqk" 352), dE P "kind_of" 360 (.ref 122), dE P "is_piece" 367 (.ref 129), dE P "letter_of" 374 (.ref 136), dE P "move_from" 381 (.ref 143), dE P "move_to" 388 (.ref 150), dE P "move_special" 395 (.ref 157), dE P "move_promo" 402 (.ref 164), dE P "ENTRY_SIZE" 406 (.int 16 405), dE P "MOST_WEIGHT" 408 (.int 65535 407), dE P "put_number" 418 (.ref 171), dE P "get_number" 429 (.ref 178), dE P "pack_entry" 443 (.ref 185), dE P "unpack_entry" 453 (.ref 192), dE P "merge_entries" 468 (.ref 199), dE P "make_book" 483 (.ref 206), dE P "key_at" 491 (.ref 213), dE P "first_entry" 502 (.ref 220), dE P "find_entries" 513 (.ref 227), dE P "check_book" 524 (.ref 234), dE P "best_entry" 534 (.ref 241), dE P "FILE_LETTERS" 538 (.str "abcdefgh" 537), dE P "RANK_DIGITS" 540 (.str "12345678" 539), dE P "file_of" 548 (.ref 248), dE P "rank_of" 556 (.ref 255), dE P "read_square" 567 (.ref 262), dE P "SHORT" 571 (.str "O-O" 570), dE P "LONG" 573 (.str "O-O-O" 572), dE P "takes" 581 (.ref 269), dE P "castle_text" 588 (.ref 276), dE P "kind_by_letter" 597 (.ref 283), dE P "cut_sign" 604 (.ref 290), dE P "cut_origin" 613 (.ref 297), dE P "split_san" 629 (.ref 304), dE P "fits" 646 (.ref 311), dE P "meant_by" 660 (.ref 318), dE P "pick_san" 674 (.ref 325), dE P "QUOTED" 678 (.int 0 677), dE P "NUMBER" 680 (.int 1 679), dE P "WORD" 682 (.int 2 681), dE P "operands_of" 692 (.ref 332), dE P "named_moves" 708 (.ref 339), dE P "is_solved" 720 (.ref 346), dE P "_law_board" 739 (.ref 347), dE P "_law_moves" 745 (.ref 354), dE P "_law_values" 755 (.ref 361), dE P "_law_named" 761 (.ref 366), dE P "_law_verdict" 773 (.ref 373), dE P "_law_merged" 784 (.ref 380), dE P "_law_blame" 794 (.ref 387), dE P "_law_bend" 803 (.ref 394), dE P "_law_best" 809 (.ref 399), dE P "_law_solved" 815 (.ref 404), dE P "law" 821 (.ref 409)] 81 }),
    (27, { cls := .type "code", data := .fields #[.str "__init__" 201, .str "ChessError.__init__" 202, .str "/claim/cut.py" 203, .int 4 0, .int 2 0, .int 0 0, .int 0 0, .int 3 0, .ref 22, .bool true, .int 181 0, .ref 23, .none, .ref 24, .ref 25, .ref 26, .int 206 0, .int 4 0, .str "/claim/cut.py" 207] }),
    (30, { cls := .type "dict", data := .dict #[dE P "__module__" 196 (.str "chess.errors" 187), dE P "__firstlineno__" 200 (.int 2 199), dE P "__init__" 208 (.ref 28), dE P "__static_attributes__" 210 (.ref 29), dE P "__weakref__" 212 (.ref 32), dE P "__doc__" 213 (.none)] 3 }),
    (31, { cls := .type "type", data := .cls { name := "ChessError", bases := [.type "Exception"], mro := [.ref 31, .type "Exception", .type "BaseException", .type "object"], ns := 30, qualname := "ChessError", subclasses := [.ref 51, .ref 63, .ref 94, .ref 113] }, slots := #[some (.ref 15), none, some (.str "ChessError" 189), some (.str "ChessError" 197), some (.builtin "Exception.__new__"), some (.bool true)] }),
    (62, { cls := .type "dict", data := .dict #[dE P "__module__" 250 (.str "chess.errors" 187), dE P "__firstlineno__" 254 (.int 12 253), dE P "__static_attributes__" 255 (.ref 61), dE P "__doc__" 256 (.none)] 2 }),
    (63, { cls := .type "type", data := .cls { name := "BadSan", bases := [.ref 31], mro := [.ref 63, .ref 31, .type "Exception", .type "BaseException", .type "object"], ns := 62, qualname := "BadSan", subclasses := [.ref 75] }, slots := #[some (.ref 54), none, some (.str "BadSan" 243), some (.str "BadSan" 251), some (.builtin "Exception.__new__"), some (.bool true)] }),
    (90, { cls := .type "code", data := .fields #[.str "__init__" 287, .str "BadEpd.__init__" 288, .str "/claim/cut.py" 289, .int 18 0, .int 3 0, .int 0 0, .int 0 0, .int 3 0, .ref 85, .bool true, .int 181 0, .ref 86, .none, .ref 87, .ref 88, .ref 89, .int 293 0, .int 18 0, .str "/claim/cut.py" 294] }),
    (93, { cls := .type "dict", data := .dict #[dE P "__module__" 282 (.str "chess.errors" 187), dE P "__firstlineno__" 286 (.int 16 285), dE P "__init__" 295 (.ref 91), dE P "__static_attributes__" 297 (.ref 92), dE P "__doc__" 298 (.none)] 2 }),
    (94, { cls := .type "type", data := .cls { name := "BadEpd", bases := [.ref 31], mro := [.ref 94, .ref 31, .type "Exception", .type "BaseException", .type "object"], ns := 93, qualname := "BadEpd" }, slots := #[some (.ref 78), none, some (.str "BadEpd" 275), some (.str "BadEpd" 283), some (.builtin "Exception.__new__"), some (.bool true)] }),
    (109, { cls := .type "code", data := .fields #[.str "__init__" 313, .str "BadBook.__init__" 314, .str "/claim/cut.py" 315, .int 23 0, .int 2 0, .int 0 0, .int 0 0, .int 3 0, .ref 104, .bool true, .int 181 0, .ref 105, .none, .ref 106, .ref 107, .ref 108, .int 318 0, .int 23 0, .str "/claim/cut.py" 319] }),
    (112, { cls := .type "dict", data := .dict #[dE P "__module__" 308 (.str "chess.errors" 187), dE P "__firstlineno__" 312 (.int 21 311), dE P "__init__" 320 (.ref 110), dE P "__static_attributes__" 322 (.ref 111), dE P "__doc__" 323 (.none)] 2 }),
    (113, { cls := .type "type", data := .cls { name := "BadBook", bases := [.ref 31], mro := [.ref 113, .ref 31, .type "Exception", .type "BaseException", .type "object"], ns := 112, qualname := "BadBook" }, slots := #[some (.ref 97), none, some (.str "BadBook" 301), some (.str "BadBook" 309), some (.builtin "Exception.__new__"), some (.bool true)] }),
    (347, { cls := .type "list", data := .seq #[.int 4 723, .int 2 724, .int 0 725, .int 6 726, .int 0 727, .int 0 728, .int 1 729, .int 0 730, .int 0 731, .int 0 732, .int 0 733, .int 10 734, .int 12 735, .int 0 736, .int 0 737, .int 0 738] }),
    (28, initFn pw_nt0440_01 1 "ChessError.__init__" 27), (91, initFn pw_nt0440_01 5 "BadEpd.__init__" 90), (110, initFn pw_nt0440_01 6 "BadBook.__init__" 109)]
noncomputable def asB : List Addr := [2, 3, 27, 30, 31, 62, 63, 90, 93, 94, 109, 112, 113, 347, 28, 91, 110]
theorem asB_KB (P : PySem.Params) : asB = (KB P).map (·.1) := rfl

theorem run_good (w : World) (os : OsState) : runB pw_nt0440_01 vw asB w os = goodB vw KB w := by
  rw [PySem.W.Fast.runBQ_eq, PySem.W.Fast.goodBQ_eq]
  kernel_rfl
end Mine
end

/-! text HeadC -/
section
set_option bootstrap.genMatcherCode false
open PySem PySem.W PyProof.Rows PySem.Challenge PySem.Calls
set_option Elab.async false
set_option maxRecDepth 100000
set_option maxHeartbeats 8000000
namespace Mine

theorem left_of {p q : Program} {as : List Addr} {K : PySem.Params → Frag} {N : Nat}
    (open_ : ∀ w : World, (fencedOpening treeTable p w N).map (fun s => (s.heap, s.gens, s.drawn, s.toks)) = some (boot_heap w.params, Array.mk [], boot_drawn, boot_toks))
    (size : ∀ w : World, ((boot_heap w.params).isNs mainGlobals, (boot_heap w.params).objs.size, (boot_heap w.params).nsMap mainGlobals "__annotations__") = (true, 11, ann0))
    (run : ∀ w os, runB p q as w os = goodB q K w) (le : Nat.ble 3100 N = true) :
    LeftO p q [Str.ofString "_law_board"] (fun s => xlAt q [] s && recOk [] s) (fun s => as.map s.heap.get?) (fun w => (K w.params).map fun p => some p.2) N := fun w => by
  obtain ⟨⟨h, gs, d, k, os⟩, e, e'⟩ := Option.map_eq_some_iff.mp (open_ w)
  simp only [Prod.mk.injEq] at e'
  obtain ⟨rfl, rfl, rfl, rfl⟩ := e'
  obtain ⟨z1, z2, z3⟩ : _ ∧ _ ∧ _ := by simpa only [Prod.mk.injEq] using size w
  obtain ⟨sT, r, l⟩ := Option.map_eq_some_iff.mp (run w os)
  have r := topRun_of r
  rw [S0_abs] at r
  have r := topRun_mono (N - 3100) _ _ _ _ r
  rw [show 3100 + (N - 3100) = N from Nat.add_sub_cancel' (Nat.le_of_ble_eq_true le)] at r
  obtain ⟨l1, l2⟩ := Prod.mk.inj l
  have t : topFrom treeTable p w N ⟨boot_heap w.params, #[], boot_drawn, boot_toks, os⟩ = some sT.abs := by
    unfold topFrom
    dsimp only
    rw [z1, z2, z3]
    show ((topRun treeTable p w 11 ann0 N ⟨boot_heap w.params, #[], boot_drawn, boot_toks, os⟩ (topStub p)).bind _) = _
    rw [r]
    show (match staticsOk (importedModules p.main.body) (boot_heap w.params) sT.abs.heap && namesBound p sT.abs.heap && gensDone sT.abs && laidKept (boot_heap w.params) sT.abs.heap with | true => _ | false => _) = _
    rw [l1]
  unfold openEnds
  rw [e]
  show (topFrom treeTable p w N _).map _ = _
  rw [t]
  exact congrArg some l2

theorem size0 (w : World) : ((boot_heap w.params).isNs mainGlobals, (boot_heap w.params).objs.size, (boot_heap w.params).nsMap mainGlobals "__annotations__") = (true, 11, ann0) := by kernel_rfl

theorem left : LeftO pw_nt0440_01 vw [Str.ofString "_law_board"] (fun s => xlAt vw [] s && recOk [] s) (fun s => asB.map s.heap.get?) (fun w => (KB w.params).map fun p => some p.2) 6230 :=
  left_of (boot_open (by kernel_rfl) (by rfl) (fun s => by kernel_rfl)) size0 run_good (by rfl)
end Mine
end

/-! text HeadD -/
section
set_option bootstrap.genMatcherCode false
open PySem PySem.W PyProof.Rows PySem.Challenge PySem.Calls
set_option Elab.async false
set_option maxRecDepth 100000
set_option maxHeartbeats 8000000
namespace Mine
theorem law_def : (defOf vw (Str.ofString "law")).map (fun x => (pw_nt0440_01.theDef (Str.ofString "law"), kwWritten? x.1.params.kwonlyargs x.1.params.kw_defaults)) =
    (defOf vw (Str.ofString "law")).map (fun x => (some (x.1.params, x.1.body, x.1.scope), some x.2)) := by kernel_rfl
theorem law_some : (defOf vw (Str.ofString "law")).isSome = true := by kernel_rfl
noncomputable def wsB (l : OpenLaw) : Bool := l.wellSaid
theorem wsB_self : wsB = wsB := rfl
name_quick wsBQ for Mine.wsB by Mine.wsB_self
theorem law_said : rw_nt0440_01.wellSaid = true := by
  show wsB rw_nt0440_01 = true
  rw [PySem.W.Fast.wsBQ_eq]
  kernel_rfl
theorem holdsB (walk : ∀ (d : DefRec) (kwd : List (Str × PySem.Expr)), d.name = Str.ofString "law" → WalkO vw [Str.ofString "_law_board"] (XL vw []) (InK KB) rw_nt0440_01.row.toRowW d kwd fun f vs => call f vs) : rw_nt0440_01.Holds := by
  obtain ⟨⟨d, kwd⟩, hd⟩ := Option.isSome_iff_exists.mp law_some
  have e := law_def
  rw [hd] at e
  obtain ⟨e1, e2⟩ := Prod.mk.inj (Option.some.inj e)
  have hn := defOf_name hd
  have key := walk d kwd hn
  clear e hn walk
  refine holds_law law_said fun said => ?_
  refine PySem.W.holds_open (q := vw) (loose := [Str.ofString "_law_board"]) (d := d) (kwd := kwd) (Xt := fun s => xlAt vw [] s && recOk (RowW.records rw_nt0440_01.row.toRowW) s) (XP := XL vw []) (Yf := Hook.obs (kHook KB asB asB_KB)) (Ya := Hook.val (kHook KB asB asB_KB)) (YP := Hook.says (kHook KB asB asB_KB)) (N := 6230) left (Hook.of (kHook KB asB asB_KB)) (Hook.keeps (kHook KB asB asB_KB)) (fun s e => xl_of s (Bool.and_eq_true_iff.mp e).1) XL.keeps hd e1 e2 (fun s e => recFacts_of (Bool.and_eq_true_iff.mp e).2) rfl said (by decide +kernel) ⟨rfl, rfl, rfl, rfl, rfl, by decide +kernel⟩ ?hw key
  case hw => w_witness2
end Mine
end

/-! text M33 -/
section
set_option bootstrap.genMatcherCode false
open PySem PySem.Calls PySem.W PyProof.Rows PySem.Challenge
set_option maxRecDepth 100000
set_option maxHeartbeats 4000000
namespace Mine

theorem swaps_comp {elt : PySem.Expr} {gens : List Comprehension} {scope : Scope} {pos q : Pos} {t : Str} {line : Nat} {env : PySem.Env} (h1 : env.scope.kind = .function) (h2 : env.kindOf t = some .local) (hl : (q.line == pos.line) = true)
    (hn : (scope.names.any fun (n, k) => n == t && (k == .local || k == .cell)) = false) : swapsWith (.ListComp elt gens scope pos) (some (.Name t q)) line env = pure true := by
  show (pure (env.blockKind == .function && env.kindOf t == some .local && q.line == pos.line && !(scope.names.any fun (n, k) => n == t && (k == .local || k == .cell))) : Sem Bool) = _
  have e : env.blockKind = .function := by unfold Env.blockKind; rw [h1]; rfl
  rw [e, h2, hl, hn]
  rfl

/-! a check of a text, with its proof -/
noncomputable abbrev Pf (p : Prop) := Option (PLift p)
noncomputable def Pf.bnd {p : Prop} {α : Type} (a : Pf p) (f : p → Option α) : Option α := match a with
  | some x => f x.down
  | none => none
noncomputable def pok {p : Prop} (h : p) : Pf p := some ⟨h⟩
/-- go on if p holds -/
noncomputable def ifp {α : Type} (p : Prop) [Decidable p] (f : p → Option α) : Option α := if h : p then f h else none
/-- go on if a is b -/
@[elab_as_elim] noncomputable def eqp {α : Type} [DecidableEq α] {C : α → Type} (a b : α) (d : C a) (f : C b) : C a := if h : a = b then (h ▸ f : C a) else d
@[elab_as_elim] noncomputable def l0 {α : Type} {C : List α → Type} (l : List α) (d : ∀ l, C l) (f : C []) : C l := List.casesOn (motive := C) l f fun _ _ => d _
@[elab_as_elim] noncomputable def l1 {α : Type} {C : List α → Type} (l : List α) (d : ∀ l, C l) (f : ∀ a, C [a]) : C l := List.casesOn (motive := C) l (d _) fun a t => List.casesOn (motive := fun t => C (a :: t)) t (f a) fun _ _ => d _
@[elab_as_elim] noncomputable def l2 {α : Type} {C : List α → Type} (l : List α) (d : ∀ l, C l) (f : ∀ a b, C [a, b]) : C l := List.casesOn (motive := C) l (d _) fun a t => l1 (C := fun t => C (a :: t)) t (fun _ => d _) (f a)
@[elab_as_elim] noncomputable def o0 {α : Type} {C : Option α → Type} (l : Option α) (d : ∀ l, C l) (f : C none) : C l := Option.casesOn (motive := C) l f fun _ => d _
@[elab_as_elim] noncomputable def o1 {α : Type} {C : Option α → Type} (l : Option α) (d : ∀ l, C l) (f : ∀ a, C (some a)) : C l := Option.casesOn (motive := C) l (d _) f
@[elab_as_elim] noncomputable def vComp {C : Comprehension → Type} (x : Comprehension) (d : ∀ x, C x) (f : ∀ a b c d, C ⟨a, b, c, d⟩) : C x := match x with | ⟨a, b, c, e⟩ => f a b c e
@[elab_as_elim] noncomputable def vHand {C : ExceptHandler → Type} (x : ExceptHandler) (d : ∀ x, C x) (f : ∀ a b c d, C (.ExceptHandler a b c d)) : C x := match x with | .ExceptHandler a b c d => f a b c d
@[elab_as_elim] noncomputable def vStr {C : Const → Type} (x : Const) (d : ∀ x, C x) (f : ∀ a, C (.str a)) : C x := Const.casesOn (motive := C) x (d _) (fun _ => d _) (fun _ => d _) (fun _ => d _) (fun _ _ => d _) f (fun _ => d _) (d _)
@[elab_as_elim] noncomputable def vBoolOp {C : Expr → Type} (x : Expr) (d : ∀ x, C x) (f : ∀ a b c, C (.BoolOp a b c)) : C x := Expr.casesOn (motive_1 := C) x f (fun _ _ _ => d _) (fun _ _ _ _ => d _) (fun _ _ _ => d _) (fun _ _ _ _ => d _) (fun _ _ _ _ => d _) (fun _ _ _ => d _) (fun _ _ _ => d _) (fun _ _ _ _ => d _) (fun _ _ _ _ => d _) (fun _ _ _ _ _ => d _) (fun _ _ _ _ => d _) (fun _ _ => d _) (fun _ _ => d _) (fun _ _ => d _) (fun _ _ _ _ => d _) (fun _ _ _ _ => d _) (fun _ _ _ _ => d _) (fun _ _ => d _) (fun _ _ _ => d _) (fun _ _ _ => d _) (fun _ _ _ => d _) (fun _ _ => d _) (fun _ _ => d _) (fun _ _ => d _) (fun _ _ _ => d _) (fun _ _ _ _ => d _)
@[elab_as_elim] noncomputable def vBinOp {C : Expr → Type} (x : Expr) (d : ∀ x, C x) (f : ∀ a b c d, C (.BinOp a b c d)) : C x := Expr.casesOn (motive_1 := C) x (fun _ _ _ => d _) (fun _ _ _ => d _) f (fun _ _ _ => d _) (fun _ _ _ _ => d _) (fun _ _ _ _ => d _) (fun _ _ _ => d _) (fun _ _ _ => d _) (fun _ _ _ _ => d _) (fun _ _ _ _ => d _) (fun _ _ _ _ _ => d _) (fun _ _ _ _ => d _) (fun _ _ => d _) (fun _ _ => d _) (fun _ _ => d _) (fun _ _ _ _ => d _) (fun _ _ _ _ => d _) (fun _ _ _ _ => d _) (fun _ _ => d _) (fun _ _ _ => d _) (fun _ _ _ => d _) (fun _ _ _ => d _) (fun _ _ => d _) (fun _ _ => d _) (fun _ _ => d _) (fun _ _ _ => d _) (fun _ _ _ _ => d _)
@[elab_as_elim] noncomputable def vUnaryOp {C : Expr → Type} (x : Expr) (d : ∀ x, C x) (f : ∀ a b c, C (.UnaryOp a b c)) : C x := Expr.casesOn (motive_1 := C) x (fun _ _ _ => d _) (fun _ _ _ => d _) (fun _ _ _ _ => d _) f (fun _ _ _ _ => d _) (fun _ _ _ _ => d _) (fun _ _ _ => d _) (fun _ _ _ => d _) (fun _ _ _ _ => d _) (fun _ _ _ _ => d _) (fun _ _ _ _ _ => d _) (fun _ _ _ _ => d _) (fun _ _ => d _) (fun _ _ => d _) (fun _ _ => d _) (fun _ _ _ _ => d _) (fun _ _ _ _ => d _) (fun _ _ _ _ => d _) (fun _ _ => d _) (fun _ _ _ => d _) (fun _ _ _ => d _) (fun _ _ _ => d _) (fun _ _ => d _) (fun _ _ => d _) (fun _ _ => d _) (fun _ _ _ => d _) (fun _ _ _ _ => d _)
@[elab_as_elim] noncomputable def vIfExp {C : Expr → Type} (x : Expr) (d : ∀ x, C x) (f : ∀ a b c d, C (.IfExp a b c d)) : C x := Expr.casesOn (motive_1 := C) x (fun _ _ _ => d _) (fun _ _ _ => d _) (fun _ _ _ _ => d _) (fun _ _ _ => d _) (fun _ _ _ _ => d _) f (fun _ _ _ => d _) (fun _ _ _ => d _) (fun _ _ _ _ => d _) (fun _ _ _ _ => d _) (fun _ _ _ _ _ => d _) (fun _ _ _ _ => d _) (fun _ _ => d _) (fun _ _ => d _) (fun _ _ => d _) (fun _ _ _ _ => d _) (fun _ _ _ _ => d _) (fun _ _ _ _ => d _) (fun _ _ => d _) (fun _ _ _ => d _) (fun _ _ _ => d _) (fun _ _ _ => d _) (fun _ _ => d _) (fun _ _ => d _) (fun _ _ => d _) (fun _ _ _ => d _) (fun _ _ _ _ => d _)
@[elab_as_elim] noncomputable def vDict {C : Expr → Type} (x : Expr) (d : ∀ x, C x) (f : ∀ a b c, C (.Dict a b c)) : C x := Expr.casesOn (motive_1 := C) x (fun _ _ _ => d _) (fun _ _ _ => d _) (fun _ _ _ _ => d _) (fun _ _ _ => d _) (fun _ _ _ _ => d _) (fun _ _ _ _ => d _) f (fun _ _ _ => d _) (fun _ _ _ _ => d _) (fun _ _ _ _ => d _) (fun _ _ _ _ _ => d _) (fun _ _ _ _ => d _) (fun _ _ => d _) (fun _ _ => d _) (fun _ _ => d _) (fun _ _ _ _ => d _) (fun _ _ _ _ => d _) (fun _ _ _ _ => d _) (fun _ _ => d _) (fun _ _ _ => d _) (fun _ _ _ => d _) (fun _ _ _ => d _) (fun _ _ => d _) (fun _ _ => d _) (fun _ _ => d _) (fun _ _ _ => d _) (fun _ _ _ _ => d _)
@[elab_as_elim] noncomputable def vListComp {C : Expr → Type} (x : Expr) (d : ∀ x, C x) (f : ∀ a b c d, C (.ListComp a b c d)) : C x := Expr.casesOn (motive_1 := C) x (fun _ _ _ => d _) (fun _ _ _ => d _) (fun _ _ _ _ => d _) (fun _ _ _ => d _) (fun _ _ _ _ => d _) (fun _ _ _ _ => d _) (fun _ _ _ => d _) (fun _ _ _ => d _) f (fun _ _ _ _ => d _) (fun _ _ _ _ _ => d _) (fun _ _ _ _ => d _) (fun _ _ => d _) (fun _ _ => d _) (fun _ _ => d _) (fun _ _ _ _ => d _) (fun _ _ _ _ => d _) (fun _ _ _ _ => d _) (fun _ _ => d _) (fun _ _ _ => d _) (fun _ _ _ => d _) (fun _ _ _ => d _) (fun _ _ => d _) (fun _ _ => d _) (fun _ _ => d _) (fun _ _ _ => d _) (fun _ _ _ _ => d _)
@[elab_as_elim] noncomputable def vCompare {C : Expr → Type} (x : Expr) (d : ∀ x, C x) (f : ∀ a b c d, C (.Compare a b c d)) : C x := Expr.casesOn (motive_1 := C) x (fun _ _ _ => d _) (fun _ _ _ => d _) (fun _ _ _ _ => d _) (fun _ _ _ => d _) (fun _ _ _ _ => d _) (fun _ _ _ _ => d _) (fun _ _ _ => d _) (fun _ _ _ => d _) (fun _ _ _ _ => d _) (fun _ _ _ _ => d _) (fun _ _ _ _ _ => d _) (fun _ _ _ _ => d _) (fun _ _ => d _) (fun _ _ => d _) (fun _ _ => d _) f (fun _ _ _ _ => d _) (fun _ _ _ _ => d _) (fun _ _ => d _) (fun _ _ _ => d _) (fun _ _ _ => d _) (fun _ _ _ => d _) (fun _ _ => d _) (fun _ _ => d _) (fun _ _ => d _) (fun _ _ _ => d _) (fun _ _ _ _ => d _)
@[elab_as_elim] noncomputable def vCall {C : Expr → Type} (x : Expr) (d : ∀ x, C x) (f : ∀ a b c d, C (.Call a b c d)) : C x := Expr.casesOn (motive_1 := C) x (fun _ _ _ => d _) (fun _ _ _ => d _) (fun _ _ _ _ => d _) (fun _ _ _ => d _) (fun _ _ _ _ => d _) (fun _ _ _ _ => d _) (fun _ _ _ => d _) (fun _ _ _ => d _) (fun _ _ _ _ => d _) (fun _ _ _ _ => d _) (fun _ _ _ _ _ => d _) (fun _ _ _ _ => d _) (fun _ _ => d _) (fun _ _ => d _) (fun _ _ => d _) (fun _ _ _ _ => d _) f (fun _ _ _ _ => d _) (fun _ _ => d _) (fun _ _ _ => d _) (fun _ _ _ => d _) (fun _ _ _ => d _) (fun _ _ => d _) (fun _ _ => d _) (fun _ _ => d _) (fun _ _ _ => d _) (fun _ _ _ _ => d _)
@[elab_as_elim] noncomputable def vFormattedValue {C : Expr → Type} (x : Expr) (d : ∀ x, C x) (f : ∀ a b c d, C (.FormattedValue a b c d)) : C x := Expr.casesOn (motive_1 := C) x (fun _ _ _ => d _) (fun _ _ _ => d _) (fun _ _ _ _ => d _) (fun _ _ _ => d _) (fun _ _ _ _ => d _) (fun _ _ _ _ => d _) (fun _ _ _ => d _) (fun _ _ _ => d _) (fun _ _ _ _ => d _) (fun _ _ _ _ => d _) (fun _ _ _ _ _ => d _) (fun _ _ _ _ => d _) (fun _ _ => d _) (fun _ _ => d _) (fun _ _ => d _) (fun _ _ _ _ => d _) (fun _ _ _ _ => d _) f (fun _ _ => d _) (fun _ _ _ => d _) (fun _ _ _ => d _) (fun _ _ _ => d _) (fun _ _ => d _) (fun _ _ => d _) (fun _ _ => d _) (fun _ _ _ => d _) (fun _ _ _ _ => d _)
@[elab_as_elim] noncomputable def vJoinedStr {C : Expr → Type} (x : Expr) (d : ∀ x, C x) (f : ∀ a b, C (.JoinedStr a b)) : C x := Expr.casesOn (motive_1 := C) x (fun _ _ _ => d _) (fun _ _ _ => d _) (fun _ _ _ _ => d _) (fun _ _ _ => d _) (fun _ _ _ _ => d _) (fun _ _ _ _ => d _) (fun _ _ _ => d _) (fun _ _ _ => d _) (fun _ _ _ _ => d _) (fun _ _ _ _ => d _) (fun _ _ _ _ _ => d _) (fun _ _ _ _ => d _) (fun _ _ => d _) (fun _ _ => d _) (fun _ _ => d _) (fun _ _ _ _ => d _) (fun _ _ _ _ => d _) (fun _ _ _ _ => d _) f (fun _ _ _ => d _) (fun _ _ _ => d _) (fun _ _ _ => d _) (fun _ _ => d _) (fun _ _ => d _) (fun _ _ => d _) (fun _ _ _ => d _) (fun _ _ _ _ => d _)
@[elab_as_elim] noncomputable def vConstant {C : Expr → Type} (x : Expr) (d : ∀ x, C x) (f : ∀ a b c, C (.Constant a b c)) : C x := Expr.casesOn (motive_1 := C) x (fun _ _ _ => d _) (fun _ _ _ => d _) (fun _ _ _ _ => d _) (fun _ _ _ => d _) (fun _ _ _ _ => d _) (fun _ _ _ _ => d _) (fun _ _ _ => d _) (fun _ _ _ => d _) (fun _ _ _ _ => d _) (fun _ _ _ _ => d _) (fun _ _ _ _ _ => d _) (fun _ _ _ _ => d _) (fun _ _ => d _) (fun _ _ => d _) (fun _ _ => d _) (fun _ _ _ _ => d _) (fun _ _ _ _ => d _) (fun _ _ _ _ => d _) (fun _ _ => d _) f (fun _ _ _ => d _) (fun _ _ _ => d _) (fun _ _ => d _) (fun _ _ => d _) (fun _ _ => d _) (fun _ _ _ => d _) (fun _ _ _ _ => d _)
@[elab_as_elim] noncomputable def vAttribute {C : Expr → Type} (x : Expr) (d : ∀ x, C x) (f : ∀ a b c, C (.Attribute a b c)) : C x := Expr.casesOn (motive_1 := C) x (fun _ _ _ => d _) (fun _ _ _ => d _) (fun _ _ _ _ => d _) (fun _ _ _ => d _) (fun _ _ _ _ => d _) (fun _ _ _ _ => d _) (fun _ _ _ => d _) (fun _ _ _ => d _) (fun _ _ _ _ => d _) (fun _ _ _ _ => d _) (fun _ _ _ _ _ => d _) (fun _ _ _ _ => d _) (fun _ _ => d _) (fun _ _ => d _) (fun _ _ => d _) (fun _ _ _ _ => d _) (fun _ _ _ _ => d _) (fun _ _ _ _ => d _) (fun _ _ => d _) (fun _ _ _ => d _) f (fun _ _ _ => d _) (fun _ _ => d _) (fun _ _ => d _) (fun _ _ => d _) (fun _ _ _ => d _) (fun _ _ _ _ => d _)
@[elab_as_elim] noncomputable def vSubscript {C : Expr → Type} (x : Expr) (d : ∀ x, C x) (f : ∀ a b c, C (.Subscript a b c)) : C x := Expr.casesOn (motive_1 := C) x (fun _ _ _ => d _) (fun _ _ _ => d _) (fun _ _ _ _ => d _) (fun _ _ _ => d _) (fun _ _ _ _ => d _) (fun _ _ _ _ => d _) (fun _ _ _ => d _) (fun _ _ _ => d _) (fun _ _ _ _ => d _) (fun _ _ _ _ => d _) (fun _ _ _ _ _ => d _) (fun _ _ _ _ => d _) (fun _ _ => d _) (fun _ _ => d _) (fun _ _ => d _) (fun _ _ _ _ => d _) (fun _ _ _ _ => d _) (fun _ _ _ _ => d _) (fun _ _ => d _) (fun _ _ _ => d _) (fun _ _ _ => d _) f (fun _ _ => d _) (fun _ _ => d _) (fun _ _ => d _) (fun _ _ _ => d _) (fun _ _ _ _ => d _)
@[elab_as_elim] noncomputable def vName {C : Expr → Type} (x : Expr) (d : ∀ x, C x) (f : ∀ a b, C (.Name a b)) : C x := Expr.casesOn (motive_1 := C) x (fun _ _ _ => d _) (fun _ _ _ => d _) (fun _ _ _ _ => d _) (fun _ _ _ => d _) (fun _ _ _ _ => d _) (fun _ _ _ _ => d _) (fun _ _ _ => d _) (fun _ _ _ => d _) (fun _ _ _ _ => d _) (fun _ _ _ _ => d _) (fun _ _ _ _ _ => d _) (fun _ _ _ _ => d _) (fun _ _ => d _) (fun _ _ => d _) (fun _ _ => d _) (fun _ _ _ _ => d _) (fun _ _ _ _ => d _) (fun _ _ _ _ => d _) (fun _ _ => d _) (fun _ _ _ => d _) (fun _ _ _ => d _) (fun _ _ _ => d _) (fun _ _ => d _) f (fun _ _ => d _) (fun _ _ _ => d _) (fun _ _ _ _ => d _)
@[elab_as_elim] noncomputable def vList {C : Expr → Type} (x : Expr) (d : ∀ x, C x) (f : ∀ a b, C (.List a b)) : C x := Expr.casesOn (motive_1 := C) x (fun _ _ _ => d _) (fun _ _ _ => d _) (fun _ _ _ _ => d _) (fun _ _ _ => d _) (fun _ _ _ _ => d _) (fun _ _ _ _ => d _) (fun _ _ _ => d _) (fun _ _ _ => d _) (fun _ _ _ _ => d _) (fun _ _ _ _ => d _) (fun _ _ _ _ _ => d _) (fun _ _ _ _ => d _) (fun _ _ => d _) (fun _ _ => d _) (fun _ _ => d _) (fun _ _ _ _ => d _) (fun _ _ _ _ => d _) (fun _ _ _ _ => d _) (fun _ _ => d _) (fun _ _ _ => d _) (fun _ _ _ => d _) (fun _ _ _ => d _) (fun _ _ => d _) (fun _ _ => d _) f (fun _ _ _ => d _) (fun _ _ _ _ => d _)
@[elab_as_elim] noncomputable def vTuple {C : Expr → Type} (x : Expr) (d : ∀ x, C x) (f : ∀ a b c, C (.Tuple a b c)) : C x := Expr.casesOn (motive_1 := C) x (fun _ _ _ => d _) (fun _ _ _ => d _) (fun _ _ _ _ => d _) (fun _ _ _ => d _) (fun _ _ _ _ => d _) (fun _ _ _ _ => d _) (fun _ _ _ => d _) (fun _ _ _ => d _) (fun _ _ _ _ => d _) (fun _ _ _ _ => d _) (fun _ _ _ _ _ => d _) (fun _ _ _ _ => d _) (fun _ _ => d _) (fun _ _ => d _) (fun _ _ => d _) (fun _ _ _ _ => d _) (fun _ _ _ _ => d _) (fun _ _ _ _ => d _) (fun _ _ => d _) (fun _ _ _ => d _) (fun _ _ _ => d _) (fun _ _ _ => d _) (fun _ _ => d _) (fun _ _ => d _) (fun _ _ => d _) f (fun _ _ _ _ => d _)
@[elab_as_elim] noncomputable def vSlice {C : Expr → Type} (x : Expr) (d : ∀ x, C x) (f : ∀ a b c d, C (.Slice a b c d)) : C x := Expr.casesOn (motive_1 := C) x (fun _ _ _ => d _) (fun _ _ _ => d _) (fun _ _ _ _ => d _) (fun _ _ _ => d _) (fun _ _ _ _ => d _) (fun _ _ _ _ => d _) (fun _ _ _ => d _) (fun _ _ _ => d _) (fun _ _ _ _ => d _) (fun _ _ _ _ => d _) (fun _ _ _ _ _ => d _) (fun _ _ _ _ => d _) (fun _ _ => d _) (fun _ _ => d _) (fun _ _ => d _) (fun _ _ _ _ => d _) (fun _ _ _ _ => d _) (fun _ _ _ _ => d _) (fun _ _ => d _) (fun _ _ _ => d _) (fun _ _ _ => d _) (fun _ _ _ => d _) (fun _ _ => d _) (fun _ _ => d _) (fun _ _ => d _) (fun _ _ _ => d _) f
@[elab_as_elim] noncomputable def vSReturn {C : Stmt → Type} (x : Stmt) (d : ∀ x, C x) (f : ∀ a b, C (.Return a b)) : C x := Stmt.casesOn (motive_2 := C) x (fun _ _ _ _ _ _ _ _ _ _ => d _) (fun _ _ _ _ _ _ _ _ _ _ => d _) (fun _ _ _ _ _ _ _ _ _ _ _ => d _) f (fun _ _ => d _) (fun _ _ _ => d _) (fun _ _ _ _ _ _ _ => d _) (fun _ _ _ _ => d _) (fun _ _ _ _ _ => d _) (fun _ _ _ _ _ => d _) (fun _ _ _ _ _ => d _) (fun _ _ _ _ => d _) (fun _ _ _ _ => d _) (fun _ _ _ => d _) (fun _ _ _ => d _) (fun _ _ _ => d _) (fun _ _ _ => d _) (fun _ _ _ _ _ => d _) (fun _ _ _ _ _ => d _) (fun _ _ _ => d _) (fun _ _ => d _) (fun _ _ _ _ => d _) (fun _ _ => d _) (fun _ _ => d _) (fun _ _ => d _) (fun _ => d _) (fun _ => d _) (fun _ => d _)
@[elab_as_elim] noncomputable def vSAssign {C : Stmt → Type} (x : Stmt) (d : ∀ x, C x) (f : ∀ a b c, C (.Assign a b c)) : C x := Stmt.casesOn (motive_2 := C) x (fun _ _ _ _ _ _ _ _ _ _ => d _) (fun _ _ _ _ _ _ _ _ _ _ => d _) (fun _ _ _ _ _ _ _ _ _ _ _ => d _) (fun _ _ => d _) (fun _ _ => d _) f (fun _ _ _ _ _ _ _ => d _) (fun _ _ _ _ => d _) (fun _ _ _ _ _ => d _) (fun _ _ _ _ _ => d _) (fun _ _ _ _ _ => d _) (fun _ _ _ _ => d _) (fun _ _ _ _ => d _) (fun _ _ _ => d _) (fun _ _ _ => d _) (fun _ _ _ => d _) (fun _ _ _ => d _) (fun _ _ _ _ _ => d _) (fun _ _ _ _ _ => d _) (fun _ _ _ => d _) (fun _ _ => d _) (fun _ _ _ _ => d _) (fun _ _ => d _) (fun _ _ => d _) (fun _ _ => d _) (fun _ => d _) (fun _ => d _) (fun _ => d _)
@[elab_as_elim] noncomputable def vSAugAssign {C : Stmt → Type} (x : Stmt) (d : ∀ x, C x) (f : ∀ a b c d, C (.AugAssign a b c d)) : C x := Stmt.casesOn (motive_2 := C) x (fun _ _ _ _ _ _ _ _ _ _ => d _) (fun _ _ _ _ _ _ _ _ _ _ => d _) (fun _ _ _ _ _ _ _ _ _ _ _ => d _) (fun _ _ => d _) (fun _ _ => d _) (fun _ _ _ => d _) (fun _ _ _ _ _ _ _ => d _) f (fun _ _ _ _ _ => d _) (fun _ _ _ _ _ => d _) (fun _ _ _ _ _ => d _) (fun _ _ _ _ => d _) (fun _ _ _ _ => d _) (fun _ _ _ => d _) (fun _ _ _ => d _) (fun _ _ _ => d _) (fun _ _ _ => d _) (fun _ _ _ _ _ => d _) (fun _ _ _ _ _ => d _) (fun _ _ _ => d _) (fun _ _ => d _) (fun _ _ _ _ => d _) (fun _ _ => d _) (fun _ _ => d _) (fun _ _ => d _) (fun _ => d _) (fun _ => d _) (fun _ => d _)
@[elab_as_elim] noncomputable def vSFor {C : Stmt → Type} (x : Stmt) (d : ∀ x, C x) (f : ∀ a b c d e, C (.For a b c d e)) : C x := Stmt.casesOn (motive_2 := C) x (fun _ _ _ _ _ _ _ _ _ _ => d _) (fun _ _ _ _ _ _ _ _ _ _ => d _) (fun _ _ _ _ _ _ _ _ _ _ _ => d _) (fun _ _ => d _) (fun _ _ => d _) (fun _ _ _ => d _) (fun _ _ _ _ _ _ _ => d _) (fun _ _ _ _ => d _) (fun _ _ _ _ _ => d _) f (fun _ _ _ _ _ => d _) (fun _ _ _ _ => d _) (fun _ _ _ _ => d _) (fun _ _ _ => d _) (fun _ _ _ => d _) (fun _ _ _ => d _) (fun _ _ _ => d _) (fun _ _ _ _ _ => d _) (fun _ _ _ _ _ => d _) (fun _ _ _ => d _) (fun _ _ => d _) (fun _ _ _ _ => d _) (fun _ _ => d _) (fun _ _ => d _) (fun _ _ => d _) (fun _ => d _) (fun _ => d _) (fun _ => d _)
@[elab_as_elim] noncomputable def vSWhile {C : Stmt → Type} (x : Stmt) (d : ∀ x, C x) (f : ∀ a b c d, C (.While a b c d)) : C x := Stmt.casesOn (motive_2 := C) x (fun _ _ _ _ _ _ _ _ _ _ => d _) (fun _ _ _ _ _ _ _ _ _ _ => d _) (fun _ _ _ _ _ _ _ _ _ _ _ => d _) (fun _ _ => d _) (fun _ _ => d _) (fun _ _ _ => d _) (fun _ _ _ _ _ _ _ => d _) (fun _ _ _ _ => d _) (fun _ _ _ _ _ => d _) (fun _ _ _ _ _ => d _) (fun _ _ _ _ _ => d _) f (fun _ _ _ _ => d _) (fun _ _ _ => d _) (fun _ _ _ => d _) (fun _ _ _ => d _) (fun _ _ _ => d _) (fun _ _ _ _ _ => d _) (fun _ _ _ _ _ => d _) (fun _ _ _ => d _) (fun _ _ => d _) (fun _ _ _ _ => d _) (fun _ _ => d _) (fun _ _ => d _) (fun _ _ => d _) (fun _ => d _) (fun _ => d _) (fun _ => d _)
@[elab_as_elim] noncomputable def vSIf {C : Stmt → Type} (x : Stmt) (d : ∀ x, C x) (f : ∀ a b c d, C (.If a b c d)) : C x := Stmt.casesOn (motive_2 := C) x (fun _ _ _ _ _ _ _ _ _ _ => d _) (fun _ _ _ _ _ _ _ _ _ _ => d _) (fun _ _ _ _ _ _ _ _ _ _ _ => d _) (fun _ _ => d _) (fun _ _ => d _) (fun _ _ _ => d _) (fun _ _ _ _ _ _ _ => d _) (fun _ _ _ _ => d _) (fun _ _ _ _ _ => d _) (fun _ _ _ _ _ => d _) (fun _ _ _ _ _ => d _) (fun _ _ _ _ => d _) f (fun _ _ _ => d _) (fun _ _ _ => d _) (fun _ _ _ => d _) (fun _ _ _ => d _) (fun _ _ _ _ _ => d _) (fun _ _ _ _ _ => d _) (fun _ _ _ => d _) (fun _ _ => d _) (fun _ _ _ _ => d _) (fun _ _ => d _) (fun _ _ => d _) (fun _ _ => d _) (fun _ => d _) (fun _ => d _) (fun _ => d _)
@[elab_as_elim] noncomputable def vSRaise {C : Stmt → Type} (x : Stmt) (d : ∀ x, C x) (f : ∀ a b c, C (.Raise a b c)) : C x := Stmt.casesOn (motive_2 := C) x (fun _ _ _ _ _ _ _ _ _ _ => d _) (fun _ _ _ _ _ _ _ _ _ _ => d _) (fun _ _ _ _ _ _ _ _ _ _ _ => d _) (fun _ _ => d _) (fun _ _ => d _) (fun _ _ _ => d _) (fun _ _ _ _ _ _ _ => d _) (fun _ _ _ _ => d _) (fun _ _ _ _ _ => d _) (fun _ _ _ _ _ => d _) (fun _ _ _ _ _ => d _) (fun _ _ _ _ => d _) (fun _ _ _ _ => d _) (fun _ _ _ => d _) (fun _ _ _ => d _) (fun _ _ _ => d _) f (fun _ _ _ _ _ => d _) (fun _ _ _ _ _ => d _) (fun _ _ _ => d _) (fun _ _ => d _) (fun _ _ _ _ => d _) (fun _ _ => d _) (fun _ _ => d _) (fun _ _ => d _) (fun _ => d _) (fun _ => d _) (fun _ => d _)
@[elab_as_elim] noncomputable def vSTry {C : Stmt → Type} (x : Stmt) (d : ∀ x, C x) (f : ∀ a b c d e, C (.Try a b c d e)) : C x := Stmt.casesOn (motive_2 := C) x (fun _ _ _ _ _ _ _ _ _ _ => d _) (fun _ _ _ _ _ _ _ _ _ _ => d _) (fun _ _ _ _ _ _ _ _ _ _ _ => d _) (fun _ _ => d _) (fun _ _ => d _) (fun _ _ _ => d _) (fun _ _ _ _ _ _ _ => d _) (fun _ _ _ _ => d _) (fun _ _ _ _ _ => d _) (fun _ _ _ _ _ => d _) (fun _ _ _ _ _ => d _) (fun _ _ _ _ => d _) (fun _ _ _ _ => d _) (fun _ _ _ => d _) (fun _ _ _ => d _) (fun _ _ _ => d _) (fun _ _ _ => d _) f (fun _ _ _ _ _ => d _) (fun _ _ _ => d _) (fun _ _ => d _) (fun _ _ _ _ => d _) (fun _ _ => d _) (fun _ _ => d _) (fun _ _ => d _) (fun _ => d _) (fun _ => d _) (fun _ => d _)
@[elab_as_elim] noncomputable def vSExpr {C : Stmt → Type} (x : Stmt) (d : ∀ x, C x) (f : ∀ a b, C (.Expr a b)) : C x := Stmt.casesOn (motive_2 := C) x (fun _ _ _ _ _ _ _ _ _ _ => d _) (fun _ _ _ _ _ _ _ _ _ _ => d _) (fun _ _ _ _ _ _ _ _ _ _ _ => d _) (fun _ _ => d _) (fun _ _ => d _) (fun _ _ _ => d _) (fun _ _ _ _ _ _ _ => d _) (fun _ _ _ _ => d _) (fun _ _ _ _ _ => d _) (fun _ _ _ _ _ => d _) (fun _ _ _ _ _ => d _) (fun _ _ _ _ => d _) (fun _ _ _ _ => d _) (fun _ _ _ => d _) (fun _ _ _ => d _) (fun _ _ _ => d _) (fun _ _ _ => d _) (fun _ _ _ _ _ => d _) (fun _ _ _ _ _ => d _) (fun _ _ _ => d _) (fun _ _ => d _) (fun _ _ _ _ => d _) (fun _ _ => d _) (fun _ _ => d _) f (fun _ => d _) (fun _ => d _) (fun _ => d _)

structure Ck (ρ : Rel) where
  e : ∀ sc vs e pe, Pf (ρ.e sc vs e pe)
  es : ∀ sc vs e pe, Pf (ρ.es sc vs e pe)
  c : ∀ sc vs e pe, Pf (ρ.c sc vs e pe)
  o : ∀ sc vs e pe, Pf (ρ.o sc vs e pe)
  s : ∀ sc vs e pe, Pf (ρ.s sc vs e pe)
  ss : ∀ sc vs e pe, Pf (ρ.ss sc vs e pe)

noncomputable def opOf : Op → Operator
  | .add => .Add
  | .sub => .Sub
  | .mul => .Mult
  | .fdiv => .FloorDiv
  | .mod => .Mod
  | .pow => .Pow
  | .shl => .LShift
  | .shr => .RShift
  | .band => .BitAnd
  | .bor => .BitOr
theorem opOf_ok (o : Op) : OpR o (opOf o) := by cases o <;> constructor
noncomputable def sameI : ∀ l m : List V, Pf (l = m)
  | [], m => by
    exact l0 (C := fun m => Pf ([] = m)) m (fun _ => none) (pok rfl)
  | .int i :: l, m => match m with
    | .int j :: m => ifp (i = j) fun h => (sameI l m).bnd fun k => pok (by rw [h, k])
    | _ => none
  | _ :: _, _ => none
noncomputable def sameV : ∀ a b : V, Pf (a = b)
  | .int i, .int j => by
    refine ifp (i = j) fun h => ?_
    exact pok (by rw [h])
  | .str i, .str j => by
    refine ifp (i = j) fun h => ?_
    exact pok (by rw [h])
  | .list i, .list j => by
    refine (sameI i j).bnd fun h => ?_
    exact pok (by rw [h])
  | _, _ => none
noncomputable def ckGl (x : Str) (v : V) : Pf (tb0.gl x = some v) := match h : tb0.gl x with
  | some u => by
    refine (sameV u v).bnd fun e => ?_
    exact pok (by rw [e])
  | none => none
/-- a name that is no word of the machine's own -/
noncomputable abbrev Plain (vs : List Str) (i : Nat) (x : Str) : Prop := vs[i]? = some x ∧ (x == ("__debug__" : Str)) = false ∧ (x == ("__classdict__" : Str)) = false
noncomputable def ckFree (sc : Scope) (vs : List Str) (free : List Nat) (ys : List Str) : Pf (FreeOk sc vs free ys) := match free with
  | [] => by
    refine l0 ys (fun _ => none) ?_
    exact pok .nil
  | i :: r => by
    refine l0 r (fun _ => none) ?_
    refine l1 ys (fun _ => none) fun y => ?_
    refine ifp (vs[i]? = some y) fun h1 => ?_
    refine ifp (sc.names.lookup y = some .cell) fun h2 => ?_
    refine ifp ((y == ("__debug__" : Str)) = false) fun h3 => ?_
    refine ifp ((y == ("__classdict__" : Str)) = false) fun h4 => ?_
    exact pok (.one h1 h2 h3 h4)
noncomputable def ckSc (csc : Scope) (ts ys : List Str) : Pf (ScOk csc ts ys) := by
  refine ifp (csc.kind = .function) fun h1 => ?_
  refine ifp (∀ y ∈ csc.names, y.2 ≠ .cell) fun h2 => ?_
  refine ifp (∀ y ∈ csc.names, y.2 = .local → csc.names.lookup y.1 = some .local) fun h3 => ?_
  refine ifp (∀ t ∈ ts, csc.names.lookup t = some .local ∧ (t == ("__debug__" : Str)) = false) fun h4 => ?_
  refine ifp ((csc.names.filter fun y => y.2 == .free).map (·.1) = ys) fun h5 => ?_
  refine ifp ts.Nodup fun h6 => ?_
  refine ifp (∀ y ∈ ys, csc.names.lookup y = some .free) fun h7 => ?_
  exact pok ⟨h1, h2, h3, h4, h5, h6, h7⟩
noncomputable def ckF (vs : List Str) (i : Nat) (pe : Expr) : Pf (CpF vs i pe) := by
  refine vJoinedStr pe (fun _ => none) fun l _ => ?_
  refine l2 l (fun _ => none) fun a b => ?_
  refine vFormattedValue a (fun _ => none) fun n z s _ => ?_
  refine vName n (fun _ => none) fun x _ => ?_
  refine eqp z (-1) none ?_
  refine o0 s (fun _ => none) ?_
  refine vConstant b (fun _ => none) fun c _ _ => ?_
  refine vStr c (fun _ => none) fun t => ?_
  refine ifp (Plain vs i x) fun h => ?_
  refine ifp (t.length ≤ 1000) fun h4 => ?_
  exact pok (.mk h.1 h.2.1 h.2.2 h4)
noncomputable def ckN (vs : List Str) : ∀ is pns, Pf (CpNames vs is pns)
  | [], pns => by
    refine l0 pns (fun _ => none) ?_
    exact pok .nil
  | i :: is, pns => match pns with
    | p :: pns => vName (C := fun p => Pf (CpNames vs (i :: is) (p :: pns))) p (fun _ => none) fun x _ => ifp (vs[i]? = some x) fun h => (ckN vs is pns).bnd fun k => pok (.cons h k)
    | [] => none

noncomputable def ckC0 {ρ : Rel} (sc : Scope) (vs : List Str) (v : V) (pe : Expr) : Pf (CpEF ρ sc vs (.const v) pe) := by
  refine vConstant pe (fun _ => none) fun c _ _ => ?_
  exact match v, c with
  | .int i, .int j => by
    refine eqp j i none ?_
    exact pok .cInt
  | .str i, .str j => by
    refine eqp j i none ?_
    exact pok .cStr
  | .bool i, .bool j => by
    refine eqp j i none ?_
    exact pok .cBool
  | .bytes i, .bytes j => by
    refine eqp j i none ?_
    exact pok .cBytes
  | .none, .none => pok .cNone
  | _, _ => none
/-- a call of a name, its arguments -/
@[elab_as_elim] noncomputable def vFn {C : Expr → Type} (pe : Expr) (d : ∀ x, C x) (w : Str) (f : ∀ q args p, C (.Call (.Name w q) args [] p)) : C pe := by
  refine vCall pe (fun _ => d _) fun fn args kws p => ?_
  refine vName fn (fun _ => d _) fun x q => ?_
  refine l0 kws (fun _ => d _) ?_
  refine eqp x w (d _) ?_
  exact f q args p
/-- a call of a builtin function -/
noncomputable def vBlt {P : Expr → Prop} (sc : Scope) (pe : Expr) (w : Str) (f : IsGlob sc w → ∀ q a p, Pf (P (.Call (.Name w q) [a] [] p))) : Pf (P pe) := by
  refine vFn pe (fun _ => none) w fun q args p => ?_
  refine l1 args (fun _ => none) fun a => ?_
  refine ifp (IsGlob sc w) fun h => ?_
  exact f h q a p
noncomputable def ckAnd {ρ : Rel} (k : Ck ρ) (sc : Scope) (vs : List Str) (b : Bool) (es : List E) (pe : Expr) : Pf (CpEF ρ sc vs (.bop b es) pe) := by
  refine vBoolOp pe (fun _ => none) fun o pes _ => ?_
  exact match b, o with
  | true, .And => by
    refine (k.es sc vs es pes).bnd fun h1 => ?_
    exact pok (.and h1)
  | false, .Or => by
    refine (k.es sc vs es pes).bnd fun h1 => ?_
    exact pok (.or h1)
  | _, _ => none
/-- what hangs on the targets of a comprehension -/
@[elab_as_elim] noncomputable def vTgt {C : Expr → Type} (pt : Expr) (d : ∀ x, C x) (b : Bool) (f : ∀ pt ts, CpT b ts pt → C pt) : C pt := match b with
  | false => by
    refine vName pt (fun _ => d _) fun x q => ?_
    exact f (.Name x q) [x] .one
  | true => by
    refine vTuple pt (fun _ => d _) fun l k p => ?_
    refine l2 l (fun _ => d _) fun a c => ?_
    refine vName a (fun _ => d _) fun x q => ?_
    refine vName c (fun _ => d _) fun y r => ?_
    exact f (.Tuple [.Name x q, .Name y r] k p) [x, y] .two
noncomputable def ckBase (pa : Expr) : Pf (∀ env m, attributeBase pa "find" env m = m) := by
  exact vName (C := fun pa => Pf (∀ env m, attributeBase pa "find" env m = m)) pa (fun pa => vConstant (C := fun pa => Pf (∀ env m, attributeBase pa "find" env m = m)) pa (fun _ => none) fun _ _ _ => pok fun _ _ => rfl) fun _ _ => pok fun _ _ => rfl
noncomputable def ckAdd : ∀ o : Op, Pf (o = .add)
  | .add => pok rfl
  | _ => none
noncomputable def ckComp {ρ : Rel} (k : Ck ρ) (sc : Scope) (vs : List Str) (elt iter : E) (nt : Nat) (tupled : Bool) (cond : Option E) (free : List Nat) (pe : Expr) : Pf (CpEF ρ sc vs (.comp elt iter nt tupled cond free) pe) := by
  refine vListComp pe (fun _ => none) fun pelt gs csc p => ?_
  refine l1 gs (fun _ => none) fun g => ?_
  refine vComp g (fun _ => none) fun pt piter ifs z => ?_
  refine eqp z 0 none ?_
  refine vTgt pt (fun _ => none) tupled fun pt ts ht => ?_
  refine ifp (nt = ts.length) fun h => ?_
  refine (k.e csc (ts ++ (csc.names.filter fun y => y.2 == .free).map (·.1)) elt pelt).bnd fun h1 => ?_
  refine (k.c csc (ts ++ (csc.names.filter fun y => y.2 == .free).map (·.1)) cond ifs).bnd fun h2 => ?_
  refine (k.e sc vs iter piter).bnd fun h3 => ?_
  refine (ckSc csc ts ((csc.names.filter fun y => y.2 == .free).map (·.1))).bnd fun h4 => ?_
  refine (ckFree sc vs free ((csc.names.filter fun y => y.2 == .free).map (·.1))).bnd fun h5 => ?_
  exact pok (.comp ht h h1 h2 h3 h4 h5)
noncomputable def ckE {ρ : Rel} (k : Ck ρ) (sc : Scope) (vs : List Str) (e : E) (pe : Expr) : Pf (CpEF ρ sc vs e pe) := match e with
  | .const v => ckC0 sc vs v pe
  | .glob v => by
    refine vName pe (fun _ => none) fun x _ => ?_
    refine ifp (IsGlob sc x) fun h => ?_
    refine (ckGl x v).bnd fun h1 => ?_
    exact pok (.glob h h1)
  | .var i => by
    refine vName pe (fun _ => none) fun x _ => ?_
    refine ifp (Plain vs i x) fun h => ?_
    exact pok (.var h.1 h.2.1 h.2.2)
  | .bin o a b => by
    refine vBinOp pe (fun _ => none) fun pa po pb _ => ?_
    refine eqp po (opOf o) none ?_
    refine (k.e sc vs a pa).bnd fun h1 => ?_
    refine (k.e sc vs b pb).bnd fun h2 => ?_
    exact pok (.bin (opOf_ok o) h1 h2)
  | .neg a => by
    refine vUnaryOp pe (fun _ => none) fun o pa _ => ?_
    refine eqp o .USub none ?_
    refine (k.e sc vs a pa).bnd fun h1 => ?_
    exact pok (.neg h1)
  | .not a => by
    refine vUnaryOp pe (fun _ => none) fun o pa _ => ?_
    refine eqp o .Not none ?_
    refine (k.e sc vs a pa).bnd fun h1 => ?_
    exact pok (.not h1)
  | .cmp o a b => by
    refine vCompare pe (fun _ => none) fun pa os pbs _ => ?_
    refine l1 os (fun _ => none) fun p => ?_
    refine l1 pbs (fun _ => none) fun pb => ?_
    refine eqp p o none ?_
    refine (k.e sc vs a pa).bnd fun h1 => ?_
    refine (k.e sc vs b pb).bnd fun h2 => ?_
    exact pok (.cmp h1 h2)
  | .cmp2 o q a b c => by
    refine vCompare pe (fun _ => none) fun pa os pbs _ => ?_
    refine l2 os (fun _ => none) fun p p' => ?_
    refine l2 pbs (fun _ => none) fun pb pc => ?_
    refine eqp p o none ?_
    refine eqp p' q none ?_
    refine (k.e sc vs a pa).bnd fun h1 => ?_
    refine (k.e sc vs b pb).bnd fun h2 => ?_
    refine (k.e sc vs c pc).bnd fun h3 => ?_
    exact pok (.cmp2 h1 h2 h3)
  | .bop b es => ckAnd k sc vs b es pe
  | .ite c a b => by
    refine vIfExp pe (fun _ => none) fun pc pa pb _ => ?_
    refine (k.e sc vs c pc).bnd fun h1 => ?_
    refine (k.e sc vs a pa).bnd fun h2 => ?_
    refine (k.e sc vs b pb).bnd fun h3 => ?_
    exact pok (.ite h1 h2 h3)
  | .idx a i => by
    refine vSubscript pe (fun _ => none) fun pa pi _ => ?_
    refine (k.e sc vs a pa).bnd fun h1 => ?_
    refine (k.e sc vs i pi).bnd fun h2 => ?_
    exact pok (.idx h1 h2)
  | .slice a lo hi => by
    refine vSubscript pe (fun _ => none) fun pa ps _ => ?_
    refine vSlice ps (fun _ => none) fun plo phi st _ => ?_
    refine o0 st (fun _ => none) ?_
    refine (k.e sc vs a pa).bnd fun h1 => ?_
    refine (k.o sc vs lo plo).bnd fun h2 => ?_
    refine (k.o sc vs hi phi).bnd fun h3 => ?_
    exact pok (.slice h1 h2 h3)
  | .tup es => by
    refine vTuple pe (fun _ => none) fun pes _ _ => ?_
    refine (k.es sc vs es pes).bnd fun h1 => ?_
    exact pok (.tup h1)
  | .lst es => by
    refine vList pe (fun _ => none) fun pes _ => ?_
    refine (k.es sc vs es pes).bnd fun h1 => ?_
    exact pok (.lst h1)
  | .call f es => by
    refine vCall pe (fun _ => none) fun fn pes kws _ => ?_
    refine vName fn (fun _ => none) fun x _ => ?_
    refine l0 kws (fun _ => none) ?_
    refine ifp (IsGlob sc x) fun h1 => ?_
    refine ifp (tb0.fn x = some f) fun h2 => ?_
    refine ifp (es.length = tb0.ar f) fun h3 => ?_
    refine (k.es sc vs es pes).bnd fun h4 => ?_
    exact pok (.call h1 h2 h3 h4)
  | .len a => by
    refine vBlt sc pe "len" fun h _ pa _ => ?_
    refine (k.e sc vs a pa).bnd fun h1 => ?_
    exact pok (.len h h1)
  | .max1 a => by
    refine vBlt sc pe "max" fun h _ pa _ => ?_
    refine (k.e sc vs a pa).bnd fun h1 => ?_
    exact pok (.max1 h h1)
  | .sorted a => by
    refine vBlt sc pe "sorted" fun h _ pa _ => ?_
    refine (k.e sc vs a pa).bnd fun h1 => ?_
    exact pok (.sorted h h1)
  | .toList a => by
    refine vBlt sc pe "list" fun h _ pa _ => ?_
    refine (k.e sc vs a pa).bnd fun h1 => ?_
    exact pok (.toList h h1)
  | .toBytes a => by
    refine vBlt sc pe "bytes" fun h _ pa _ => ?_
    refine (k.e sc vs a pa).bnd fun h1 => ?_
    exact pok (.toBytes h h1)
  | .min2 a b => by
    refine vFn pe (fun _ => none) "min" fun _ args _ => ?_
    refine l2 args (fun _ => none) fun pa pb => ?_
    refine ifp (IsGlob sc "min") fun h => ?_
    refine (k.e sc vs a pa).bnd fun h1 => ?_
    refine (k.e sc vs b pb).bnd fun h2 => ?_
    exact pok (.min2 h h1 h2)
  | .find a b => by
    refine vCall pe (fun _ => none) fun fn args kws p => ?_
    refine l0 kws (fun _ => none) ?_
    refine l1 args (fun _ => none) fun pb => ?_
    refine vAttribute fn (fun _ => none) fun pa nm ap => ?_
    refine eqp nm "find" none ?_
    refine ifp ((ap.endLine == p.line) = true) fun h => ?_
    refine (ckBase pa).bnd fun h0 => ?_
    refine (k.e sc vs a pa).bnd fun h1 => ?_
    refine (k.e sc vs b pb).bnd fun h2 => ?_
    exact pok (.find h h0 h1 h2)
  | .inDict i a b => by
    refine vCompare pe (fun _ => none) fun pl os pbs _ => ?_
    refine l1 os (fun _ => none) fun o => ?_
    refine l1 pbs (fun _ => none) fun pb => ?_
    refine eqp o .In none ?_
    refine vTuple pl (fun _ => none) fun ab _ _ => ?_
    refine l2 ab (fun _ => none) fun pa pb' => ?_
    refine vName pb (fun _ => none) fun x _ => ?_
    refine ifp (Plain vs i x) fun h => ?_
    refine (k.e sc vs a pa).bnd fun h1 => ?_
    refine (k.e sc vs b pb').bnd fun h2 => ?_
    exact pok (.inDict h.1 h.2.1 h.2.2 h1 h2)
  | .getDict i a b => by
    refine vSubscript pe (fun _ => none) fun pn ps _ => ?_
    refine vName pn (fun _ => none) fun x _ => ?_
    refine vTuple ps (fun _ => none) fun ab _ _ => ?_
    refine l2 ab (fun _ => none) fun pa pb => ?_
    refine ifp (Plain vs i x) fun h => ?_
    refine (k.e sc vs a pa).bnd fun h1 => ?_
    refine (k.e sc vs b pb).bnd fun h2 => ?_
    exact pok (.getDict h.1 h.2.1 h.2.2 h1 h2)
  | .comp elt iter nt tupled cond free => ckComp k sc vs elt iter nt tupled cond free pe
noncomputable def ckEs {ρ : Rel} (k : Ck ρ) (sc : Scope) (vs : List Str) : ∀ e pe, Pf (CpEsF ρ sc vs e pe)
  | [], [] => pok .nil
  | e :: es, pe :: pes => by
    refine (k.e sc vs e pe).bnd fun h1 => ?_
    refine (k.es sc vs es pes).bnd fun h2 => ?_
    exact pok (.cons h1 h2)
  | _, _ => none
noncomputable def ckC {ρ : Rel} (k : Ck ρ) (sc : Scope) (vs : List Str) (e : Option E) (pe : List Expr) : Pf (CpCF ρ sc vs e pe) := match e with
  | none => by
    refine l0 pe (fun _ => none) ?_
    exact pok .none
  | some e => by
    refine l1 pe (fun _ => none) fun pe => ?_
    refine (k.e sc vs e pe).bnd fun h1 => ?_
    exact pok (.some h1)
noncomputable def ckO {ρ : Rel} (k : Ck ρ) (sc : Scope) (vs : List Str) (e : Option E) (pe : Option Expr) : Pf (CpOF ρ sc vs e pe) := match e with
  | none => by
    refine o0 pe (fun _ => none) ?_
    exact pok .none
  | some e => by
    refine o1 pe (fun _ => none) fun pe => ?_
    refine (k.e sc vs e pe).bnd fun h1 => ?_
    exact pok (.some h1)
/-- one name is given a value -/
@[elab_as_elim] noncomputable def vAs {C : Stmt → Type} (ps : Stmt) (d : ∀ x, C x) (f : ∀ x q v p, C (.Assign [.Name x q] v p)) : C ps := by
  refine vSAssign ps (fun _ => d _) fun ts v p => ?_
  refine l1 ts (fun _ => d _) fun t => ?_
  refine vName t (fun _ => d _) fun x q => ?_
  exact f x q v p
/-- a place of a name is given a value -/
@[elab_as_elim] noncomputable def vAt {C : Stmt → Type} (ps : Stmt) (d : ∀ x, C x) (f : ∀ x q i r v p, C (.Assign [.Subscript (.Name x q) i r] v p)) : C ps := by
  refine vSAssign ps (fun _ => d _) fun ts v p => ?_
  refine l1 ts (fun _ => d _) fun t => ?_
  refine vSubscript t (fun _ => d _) fun o i r => ?_
  refine vName o (fun _ => d _) fun x q => ?_
  exact f x q i r v p
@[elab_as_elim] noncomputable def vFor {C : Stmt → Type} (ps : Stmt) (d : ∀ x, C x) (f : ∀ t i b p, C (.For t i b [] p)) : C ps := by
  refine vSFor ps (fun _ => d _) fun t i b o p => ?_
  refine l0 o (fun _ => d _) ?_
  exact f t i b p
noncomputable def vRaise {P : Stmt → Prop} (sc : Scope) (ps : Stmt) (w : Str) (f : IsGlob sc w → ∀ q args r p, Pf (P (.Raise (some (.Call (.Name w q) args [] r)) none p))) : Pf (P ps) := by
  refine vSRaise ps (fun _ => none) fun e c p => ?_
  refine o0 c (fun _ => none) ?_
  refine o1 e (fun _ => none) fun e => ?_
  refine vFn e (fun _ => none) w fun q args r => ?_
  refine ifp (IsGlob sc w) fun h => ?_
  exact f h q args r p
@[elab_as_elim] noncomputable def vTry {C : Stmt → Type} (ps : Stmt) (d : ∀ x, C x) (f : ∀ b hs p, C (.Try [b] hs [] [] p)) : C ps := by
  refine vSTry ps (fun _ => d _) fun b hs o fb p => ?_
  refine l0 o (fun _ => d _) ?_
  refine l0 fb (fun _ => d _) ?_
  refine l1 b (fun _ => d _) fun b => ?_
  exact f b hs p
/-- a clause of a named fault, of one statement -/
@[elab_as_elim] noncomputable def vClause {C : ExceptHandler → Type} (h : ExceptHandler) (d : ∀ x, C x) (w : Str) (f : ∀ q n b p, C (.ExceptHandler (some (.Name w q)) n [b] p)) : C h := by
  refine vHand h (fun _ => d _) fun t n b p => ?_
  refine l1 b (fun _ => d _) fun b => ?_
  refine o1 t (fun _ => d _) fun t => ?_
  refine vName t (fun _ => d _) fun x q => ?_
  refine eqp x w (d _) ?_
  exact f q n b p
noncomputable def ckTryB {ρ : Rel} (k : Ck ρ) (sc : Scope) (vs : List Str) (e : E) (i : Nat) (ps : Stmt) : Pf (CpSF ρ sc vs (.tryBook e i) ps) := by
  refine vTry ps (fun _ => none) fun b hs _ => ?_
  refine vSExpr b (fun _ => none) fun pe _ => ?_
  refine l1 hs (fun _ => none) fun h => ?_
  refine vClause h (fun _ => none) "BadBook" fun _ n b _ => ?_
  refine o1 n (fun _ => none) fun y => ?_
  refine vAs b (fun _ => none) fun x _ v _ => ?_
  refine vAttribute v (fun _ => none) fun z nm _ => ?_
  refine vName z (fun _ => none) fun z _ => ?_
  refine eqp z y none ?_
  refine eqp nm "at" none ?_
  refine ifp (vs[i]? = some x) fun h1 => ?_
  refine ifp (IsGlob sc "BadBook") fun h2 => ?_
  refine ifp (sc.names.lookup y = some .local) fun h3 => ?_
  refine ifp ((y == ("__debug__" : Str)) = false) fun h4 => ?_
  refine ifp (("at" : Str) ≠ y) fun h5 => ?_
  refine ifp (y ∉ vs) fun h6 => ?_
  refine ifp (noComp e = true) fun h7 => ?_
  refine (k.e sc vs e pe).bnd fun h8 => ?_
  exact pok (.tryBook h1 h2 h3 h4 h5 h6 h7 h8)
noncomputable def ckTryS {ρ : Rel} (k : Ck ρ) (sc : Scope) (vs : List Str) (e : E) (ps : Stmt) : Pf (CpSF ρ sc vs (.trySolved e) ps) := by
  refine vTry ps (fun _ => none) fun b hs _ => ?_
  refine vSReturn b (fun _ => none) fun pe _ => ?_
  refine o1 pe (fun _ => none) fun pe => ?_
  refine l2 hs (fun _ => none) fun h h' => ?_
  refine vClause h (fun _ => none) "BadSan" fun _ n b _ => ?_
  refine o0 n (fun _ => none) ?_
  refine vSReturn b (fun _ => none) fun w _ => ?_
  refine o1 w (fun _ => none) fun w => ?_
  refine vConstant w (fun _ => none) fun w _ _ => ?_
  refine vStr w (fun _ => none) fun w => ?_
  refine eqp w "san" none ?_
  refine vClause h' (fun _ => none) "BadEpd" fun _ n b _ => ?_
  refine o1 n (fun _ => none) fun y => ?_
  refine vSReturn b (fun _ => none) fun w _ => ?_
  refine o1 w (fun _ => none) fun w => ?_
  refine vIfExp w (fun _ => none) fun t u v _ => ?_
  refine vConstant u (fun _ => none) fun u _ _ => ?_
  refine vStr u (fun _ => none) fun u => ?_
  refine eqp u "epd" none ?_
  refine vConstant v (fun _ => none) fun v _ _ => ?_
  refine eqp v .none none ?_
  refine vCompare t (fun _ => none) fun l os rs _ => ?_
  refine l1 os (fun _ => none) fun o => ?_
  refine eqp o .Eq none ?_
  refine l1 rs (fun _ => none) fun r => ?_
  refine vUnaryOp r (fun _ => none) fun o r _ => ?_
  refine eqp o .USub none ?_
  refine vConstant r (fun _ => none) fun r _ _ => ?_
  refine eqp r (.int 1) none ?_
  refine vAttribute l (fun _ => none) fun z nm _ => ?_
  refine vName z (fun _ => none) fun z _ => ?_
  refine eqp z y none ?_
  refine eqp nm "at" none ?_
  refine ifp (IsGlob sc "BadSan") fun h1 => ?_
  refine ifp (IsGlob sc "BadEpd") fun h2 => ?_
  refine ifp (sc.names.lookup y = some .local) fun h3 => ?_
  refine ifp ((y == ("__debug__" : Str)) = false) fun h4 => ?_
  refine ifp (("at" : Str) ≠ y) fun h5 => ?_
  refine ifp (y ∉ vs) fun h6 => ?_
  refine (k.e sc vs e pe).bnd fun h7 => ?_
  exact pok (.trySolved h1 h2 h3 h4 h5 h6 h7)
noncomputable def ckForV {ρ : Rel} (k : Ck ρ) (sc : Scope) (vs : List Str) (t : Tgt) (e : E) (body : List S) (ps : Stmt) : Pf (CpSF ρ sc vs (.forV t e body) ps) := by
  refine vFor ps (fun _ => none) fun pt pe pbody _ => ?_
  exact match t with
  | .one i => by
    refine vName pt (fun _ => none) fun x _ => ?_
    refine ifp (vs[i]? = some x) fun h => ?_
    refine (k.e sc vs e pe).bnd fun h1 => ?_
    refine (k.ss sc vs body pbody).bnd fun h2 => ?_
    exact pok (.forV1 h h1 h2)
  | .many is => by
    refine vTuple pt (fun _ => none) fun pns _ _ => ?_
    refine (ckN vs is pns).bnd fun h => ?_
    refine (k.e sc vs e pe).bnd fun h1 => ?_
    refine (k.ss sc vs body pbody).bnd fun h2 => ?_
    exact pok (.forVn h h1 h2)
noncomputable def ckS {ρ : Rel} (k : Ck ρ) (sc : Scope) (vs : List Str) (s : S) (ps : Stmt) : Pf (CpSF ρ sc vs s ps) := match s with
  | .assign i e => by
    refine vAs ps (fun _ => none) fun x _ pe _ => ?_
    refine ifp (vs[i]? = some x) fun h => ?_
    refine ifp (noComp e = true) fun h' => ?_
    refine (k.e sc vs e pe).bnd fun h1 => ?_
    exact pok (.assign h h' h1)
  | .assignComp i e => by
    refine vAs ps (fun _ => none) fun x q pe _ => ?_
    refine vListComp pe (fun _ => none) fun elt gens scope pos => ?_
    refine ifp (vs[i]? = some x) fun a1 => ?_
    refine ifp (sc.names.lookup x = some .local) fun a2 => ?_
    refine ifp (noComp e = false) fun a3 => ?_
    refine ifp ((q.line == pos.line) = true) fun a4 => ?_
    refine ifp ((scope.names.any fun (n, k) => n == x && (k == .local || k == .cell)) = false) fun a5 => ?_
    refine (k.e sc vs e (.ListComp elt gens scope pos)).bnd fun h1 => ?_
    exact pok (.assignComp a1 a2 a3 h1 fun env a b => swaps_comp a b a4 a5)
  | .assignOwn i es => by
    refine vAs ps (fun _ => none) fun x _ pe _ => ?_
    refine vList pe (fun _ => none) fun pes _ => ?_
    refine ifp (vs[i]? = some x) fun h => ?_
    refine (k.es sc vs es pes).bnd fun h1 => ?_
    exact pok (.assignOwn h h1)
  | .assignDict i => by
    refine vAs ps (fun _ => none) fun x _ pe _ => ?_
    refine vDict pe (fun _ => none) fun ks us _ => ?_
    refine l0 ks (fun _ => none) ?_
    refine l0 us (fun _ => none) ?_
    refine ifp (vs[i]? = some x) fun h => ?_
    exact pok (.assignDict h)
  | .assignTup is e => by
    refine vSAssign ps (fun _ => none) fun ts pe _ => ?_
    refine l1 ts (fun _ => none) fun t => ?_
    refine vTuple t (fun _ => none) fun pns _ _ => ?_
    refine ifp (noComp e = true) fun a1 => ?_
    refine ifp (noTup e = true) fun a2 => ?_
    refine (ckN vs is pns).bnd fun h1 => ?_
    refine (k.e sc vs e pe).bnd fun h2 => ?_
    exact pok (.assignTup h1 a1 a2 h2)
  | .aug i o e => by
    refine vSAugAssign ps (fun _ => none) fun t po pe _ => ?_
    refine vName t (fun _ => none) fun x _ => ?_
    refine eqp po (opOf o) none ?_
    refine ifp (vs[i]? = some x) fun h => ?_
    refine ifp ((x == ("__classdict__" : Str)) = false) fun h' => ?_
    refine (ckAdd o).bnd fun h0 => ?_
    refine (k.e sc vs e pe).bnd fun h2 => ?_
    exact pok (.aug h h' (opOf_ok o) h0 h2)
  | .append i e => by
    refine vSExpr ps (fun _ => none) fun c _ => ?_
    refine vCall c (fun _ => none) fun fn args kws q3 => ?_
    refine l0 kws (fun _ => none) ?_
    refine l1 args (fun _ => none) fun pe => ?_
    refine vAttribute fn (fun _ => none) fun o nm q2 => ?_
    refine vName o (fun _ => none) fun x _ => ?_
    refine eqp nm "append" none ?_
    refine ifp (Plain vs i x) fun h => ?_
    refine ifp ((q2.endLine == q3.line) = true) fun h' => ?_
    refine (k.e sc vs e pe).bnd fun h1 => ?_
    exact pok (.append h.1 h.2.1 h.2.2 h' h1)
  | .setIdx i a e => by
    refine vAt ps (fun _ => none) fun x _ pa _ pe _ => ?_
    refine ifp (Plain vs i x) fun h => ?_
    refine ifp (noComp e = true) fun h' => ?_
    refine (k.e sc vs a pa).bnd fun h1 => ?_
    refine (k.e sc vs e pe).bnd fun h2 => ?_
    exact pok (.setIdx h.1 h.2.1 h.2.2 h' h1 h2)
  | .setDict i a b e => by
    refine vAt ps (fun _ => none) fun x _ pk _ pe _ => ?_
    refine vTuple pk (fun _ => none) fun ab _ _ => ?_
    refine l2 ab (fun _ => none) fun pa pb => ?_
    refine ifp (Plain vs i x) fun h => ?_
    refine ifp (noComp e = true) fun h' => ?_
    refine (k.e sc vs a pa).bnd fun h1 => ?_
    refine (k.e sc vs b pb).bnd fun h2 => ?_
    refine (k.e sc vs e pe).bnd fun h3 => ?_
    exact pok (.setDict h.1 h.2.1 h.2.2 h' h1 h2 h3)
  | .forR i es body => by
    refine vFor ps (fun _ => none) fun t it pbody _ => ?_
    refine vName t (fun _ => none) fun x _ => ?_
    refine vFn it (fun _ => none) "range" fun _ pes _ => ?_
    refine ifp (vs[i]? = some x) fun h => ?_
    refine ifp (IsGlob sc "range") fun h' => ?_
    refine (k.es sc vs es pes).bnd fun h1 => ?_
    refine (k.ss sc vs body pbody).bnd fun h2 => ?_
    exact pok (.forR h h' h1 h2)
  | .forV t e body => ckForV k sc vs t e body ps
  | .while c body => by
    refine vSWhile ps (fun _ => none) fun pc pbody o _ => ?_
    refine l0 o (fun _ => none) ?_
    refine (k.e sc vs c pc).bnd fun h1 => ?_
    refine (k.ss sc vs body pbody).bnd fun h2 => ?_
    exact pok (.while h1 h2)
  | .ite c a b => by
    refine vSIf ps (fun _ => none) fun pc pa pb _ => ?_
    refine (k.e sc vs c pc).bnd fun h1 => ?_
    refine (k.ss sc vs a pa).bnd fun h2 => ?_
    refine (k.ss sc vs b pb).bnd fun h3 => ?_
    exact pok (.ite h1 h2 h3)
  | .ret e => by
    refine vSReturn ps (fun _ => none) fun pe _ => ?_
    refine o1 pe (fun _ => none) fun pe => ?_
    refine (k.e sc vs e pe).bnd fun h1 => ?_
    exact pok (.ret h1)
  | .expr _ => none
  | .raiseBook e => by
    refine vRaise sc ps "BadBook" fun h _ args _ _ => ?_
    refine l1 args (fun _ => none) fun pe => ?_
    refine (k.e sc vs e pe).bnd fun h1 => ?_
    exact pok (.raiseBook h h1)
  | .raiseSan e => by
    refine vRaise sc ps "BadSan" fun h _ args _ _ => ?_
    refine l1 args (fun _ => none) fun pe => ?_
    refine (k.e sc vs e pe).bnd fun h1 => ?_
    exact pok (.raiseSan h h1)
  | .raiseEpd i => by
    refine vRaise sc ps "BadEpd" fun h _ args _ _ => ?_
    refine l2 args (fun _ => none) fun p1 p2 => ?_
    refine (k.e sc vs (.neg (.const (.int 1))) p1).bnd fun h1 => ?_
    refine (ckF vs i p2).bnd fun h2 => ?_
    exact pok (.raiseEpd h h1 h2)
  | .tryBook e i => ckTryB k sc vs e i ps
  | .trySolved e => ckTryS k sc vs e ps
  | .stuck => pok .stuck
noncomputable def ckSs {ρ : Rel} (k : Ck ρ) (sc : Scope) (vs : List Str) : ∀ s ps, Pf (CpSsF ρ sc vs s ps)
  | [], ps => by
    refine l0 ps (fun _ => none) ?_
    exact pok .nil
  | .stuck :: _, _ => pok .stuck
  | s :: ss, ps => match ps with
    | ps :: pss => (k.s sc vs s ps).bnd fun h1 => (k.ss sc vs ss pss).bnd fun h2 => pok (.cons h1 h2)
    | [] => none
noncomputable def ck : ∀ n, Ck (relN n)
  | 0 => ⟨fun _ _ _ _ => none, fun _ _ _ _ => none, fun _ _ _ _ => none, fun _ _ _ _ => none, fun _ _ _ _ => none, fun _ _ _ _ => none⟩
  | n + 1 => ⟨ckE (ck n), ckEs (ck n), ckC (ck n), ckO (ck n), ckS (ck n), ckSs (ck n)⟩

/-! the arguments of a call -/
theorem fm_congr {α β : Type} {f g : α → Option β} : ∀ (l : List α), (∀ a ∈ l, f a = g a) → l.filterMap f = l.filterMap g
  | [], _ => rfl
  | a :: l, h => by rw [List.filterMap_cons, List.filterMap_cons, h a (.head _), fm_congr l fun b hb => h b (.tail _ hb)]
theorem zip_lookup : ∀ (ns : List Str) (vals : List Value), ns.Nodup → ns.length = vals.length → (ns.filterMap fun n => ((ns.zip vals).lookup n).map (n, ·)) = ns.zip vals
  | [], _, _, _ => rfl
  | n :: ns, v :: vals, h, e => by
    obtain ⟨h1, h2⟩ := List.nodup_cons.mp h
    rw [List.zip_cons_cons, List.filterMap_cons, List.lookup_cons, beq_self_eq_true]
    refine congrArg ((n, v) :: ·) ((fm_congr ns fun m hm => ?_).trans (zip_lookup ns vals h2 (Nat.succ.inj e)))
    have q : (m == n) = false := beq_eq_false_iff_ne.mpr fun (q : m = n) => h1 (q ▸ hm)
    rw [List.lookup_cons, q]
theorem zip_some : ∀ (ns : List Str) (vals : List Value), ns.length = vals.length → ∀ n ∈ ns, ((ns.zip vals).lookup n).isNone = false
  | n :: ns, v :: vals, e, m, hm => by
    rw [List.zip_cons_cons, List.lookup_cons]
    by_cases q : m = n
    · rw [beq_iff_eq.mpr q]; rfl
    · rw [beq_eq_false_iff_ne.mpr q]
      exact zip_some ns vals (Nat.succ.inj e) m ((List.mem_cons.mp hm).resolve_left q)

theorem bind_plain {name : Str} {args : List Arg} {dfl : List (Option Expr)} {dd : List Expr} {body : List Stmt} {scope : Scope} {pm cd doc : Value} {vals : List Value} (hl : vals.length = args.length) (nd : (args.map Arg.arg).Nodup) :
    bindArgs (docDef name ⟨[], args, none, [], dfl, none, dd⟩ body scope pm cd doc) ⟨vals, []⟩ = pure ((args.map Arg.arg).zip vals) := by
  have el : (args.map Arg.arg).length = vals.length := by rw [List.length_map, hl]
  have h0 : (decide (vals.length > (args.map Arg.arg).length) && true) = false := by rw [el]; simp
  have h1 := zip_lookup _ vals nd el
  have h2 : ((args.map Arg.arg).take ((args.map Arg.arg).length - (([] : List Value).drop (0 - (args.map Arg.arg).length)).length)).filter (fun n => (((args.map Arg.arg).zip vals).lookup n).isNone) = [] := by
    rw [List.drop_nil, List.length_nil, Nat.sub_zero, List.take_length]
    exact List.filter_eq_nil_iff.mpr fun n hn => by rw [zip_some _ _ el n hn]; exact Bool.false_ne_true
  show (if (decide (vals.length > (args.map Arg.arg).length) && true) = true then _ else _ : Sem (List (Str × Value))) = _
  rw [h0, if_neg Bool.false_ne_true]
  show (if (!(((args.map Arg.arg).take ((args.map Arg.arg).length - (([] : List Value).drop (0 - (args.map Arg.arg).length)).length)).filter (fun n => (((args.map Arg.arg).zip vals).lookup n).isNone)).isEmpty) = true then _ else _ : Sem (List (Str × Value))) = _
  rw [h2, if_neg (show ¬ (!([] : List Str).isEmpty) = true from nofun)]
  show (forIn (((args.map Arg.arg).drop _).zip (([] : List Value).drop (0 - (args.map Arg.arg).length))) _ _ >>= _) = (_ : Sem _)
  rw [List.drop_nil, List.zip_nil_right]
  show pure (((args.map Arg.arg) ++ []).filterMap _) = (_ : Sem _)
  rw [List.append_nil]
  exact congrArg pure h1
theorem bind_of {p : Arguments} {vs : List Str} {na : Nat} {body : List Stmt} {scope : Scope} (a1 : p.posonlyargs.isEmpty = true) (a2 : p.vararg.isNone = true) (a3 : p.kwonlyargs.isEmpty = true) (a4 : p.kwarg.isNone = true) (a5 : p.args.map Arg.arg = vs.take na) (nd : vs.Nodup) (le : na ≤ vs.length)
    (name : Str) (pm cd doc : Value) (vals : List Value) (hl : vals.length = na) : bindArgs (docDef name p body scope pm cd doc) ⟨vals, []⟩ = pure ((vs.take na).zip vals) := by
  obtain ⟨po, ar, va, ko, kd, kw, df⟩ := p
  obtain rfl := List.isEmpty_iff.mp a1
  obtain rfl := Option.isNone_iff_eq_none.mp a2
  obtain rfl := List.isEmpty_iff.mp a3
  obtain rfl := Option.isNone_iff_eq_none.mp a4
  have a5 : ar.map Arg.arg = vs.take na := a5
  have e : vals.length = ar.length := by rw [hl, ← List.length_map (f := Arg.arg), a5, List.length_take, Nat.min_eq_left le]
  rw [← a5]
  exact bind_plain e (a5 ▸ nd.sublist (List.take_sublist ..))

/-- the functions: name, term, place in the text, names -/
noncomputable def fnT : List (Str × Nat × Nat × List Str) := [(Str.ofString "kind_of", 0, 0, [Str.ofString "piece"]),
  (Str.ofString "is_piece", 1, 1, [Str.ofString "number"]),
  (Str.ofString "letter_of", 2, 2, [Str.ofString "piece"]),
  (Str.ofString "move_from", 3, 3, [Str.ofString "move"]),
  (Str.ofString "move_to", 4, 4, [Str.ofString "move"]),
  (Str.ofString "move_special", 5, 5, [Str.ofString "move"]),
  (Str.ofString "move_promo", 6, 6, [Str.ofString "move"]),
  (Str.ofString "put_number", 7, 7, [Str.ofString "number", Str.ofString "size", Str.ofString "octets", Str.ofString "at"]),
  (Str.ofString "get_number", 8, 8, [Str.ofString "octets", Str.ofString "at", Str.ofString "size", Str.ofString "number", Str.ofString "place"]),
  (Str.ofString "pack_entry", 9, 9, [Str.ofString "key", Str.ofString "move", Str.ofString "weight", Str.ofString "learn", Str.ofString "fields", Str.ofString "sizes", Str.ofString "out", Str.ofString "at"]),
  (Str.ofString "unpack_entry", 10, 10, [Str.ofString "octets", Str.ofString "at", Str.ofString "key", Str.ofString "move"]),
  (Str.ofString "merge_entries", 11, 11, [Str.ofString "entries", Str.ofString "places", Str.ofString "out", Str.ofString "key", Str.ofString "move", Str.ofString "weight", Str.ofString "learn", Str.ofString "place", Str.ofString "old"]),
  (Str.ofString "make_book", 12, 12, [Str.ofString "entries", Str.ofString "rows", Str.ofString "place", Str.ofString "out", Str.ofString "row", Str.ofString "key", Str.ofString "move", Str.ofString "weight", Str.ofString "learn"]),
  (Str.ofString "key_at", 13, 13, [Str.ofString "octets", Str.ofString "place"]),
  (Str.ofString "first_entry", 14, 14, [Str.ofString "octets", Str.ofString "key", Str.ofString "low", Str.ofString "high", Str.ofString "middle"]),
  (Str.ofString "find_entries", 15, 15, [Str.ofString "octets", Str.ofString "key", Str.ofString "out", Str.ofString "place", Str.ofString "entry"]),
  (Str.ofString "check_book", 16, 16, [Str.ofString "octets", Str.ofString "last", Str.ofString "at", Str.ofString "entry", Str.ofString "row"]),
  (Str.ofString "best_entry", 17, 17, [Str.ofString "entries", Str.ofString "best", Str.ofString "weight", Str.ofString "entry"]),
  (Str.ofString "file_of", 18, 18, [Str.ofString "files", Str.ofString "square"]),
  (Str.ofString "rank_of", 19, 19, [Str.ofString "files", Str.ofString "square"]),
  (Str.ofString "read_square", 20, 20, [Str.ofString "files", Str.ofString "ranks", Str.ofString "text", Str.ofString "file", Str.ofString "rank"]),
  (Str.ofString "takes", 21, 21, [Str.ofString "board", Str.ofString "move"]),
  (Str.ofString "kind_by_letter", 22, 23, [Str.ofString "letter", Str.ofString "letters", Str.ofString "kind"]),
  (Str.ofString "cut_sign", 23, 24, [Str.ofString "text"]),
  (Str.ofString "cut_origin", 24, 25, [Str.ofString "rest", Str.ofString "file", Str.ofString "rank"]),
  (Str.ofString "split_san", 25, 26, [Str.ofString "text", Str.ofString "files", Str.ofString "ranks", Str.ofString "body", Str.ofString "kind", Str.ofString "promo", Str.ofString "goal", Str.ofString "rest", Str.ofString "cross", Str.ofString "origin"]),
  (Str.ofString "fits", 26, 27, [Str.ofString "files", Str.ofString "board", Str.ofString "move", Str.ofString "asked", Str.ofString "kind", Str.ofString "file", Str.ofString "rank", Str.ofString "cross", Str.ofString "goal", Str.ofString "promo", Str.ofString "origin"]),
  (Str.ofString "meant_by", 27, 28, [Str.ofString "files", Str.ofString "ranks", Str.ofString "board", Str.ofString "moves", Str.ofString "body", Str.ofString "out", Str.ofString "move", Str.ofString "asked"]),
  (Str.ofString "pick_san", 28, 29, [Str.ofString "files", Str.ofString "ranks", Str.ofString "board", Str.ofString "moves", Str.ofString "text", Str.ofString "body", Str.ofString "sign", Str.ofString "found"]),
  (Str.ofString "operands_of", 29, 30, [Str.ofString "operations", Str.ofString "opcode", Str.ofString "name", Str.ofString "operands"]),
  (Str.ofString "named_moves", 30, 31, [Str.ofString "files", Str.ofString "ranks", Str.ofString "board", Str.ofString "moves", Str.ofString "operations", Str.ofString "opcode", Str.ofString "operands", Str.ofString "named", Str.ofString "kind", Str.ofString "value"]),
  (Str.ofString "is_solved", 31, 32, [Str.ofString "files", Str.ofString "ranks", Str.ofString "board", Str.ofString "moves", Str.ofString "operations", Str.ofString "move"]),
  (Str.ofString "_law_moves", 32, 33, []),
  (Str.ofString "_law_values", 33, 34, [Str.ofString "n", Str.ofString "values", Str.ofString "k", Str.ofString "place"]),
  (Str.ofString "_law_named", 34, 35, [Str.ofString "values", Str.ofString "out", Str.ofString "kind", Str.ofString "value", Str.ofString "hits"]),
  (Str.ofString "_law_verdict", 35, 36, [Str.ofString "has_avoid", Str.ofString "avoid", Str.ofString "has_best", Str.ofString "best", Str.ofString "move", Str.ofString "named"]),
  (Str.ofString "_law_merged", 36, 37, [Str.ofString "entries", Str.ofString "out", Str.ofString "entry", Str.ofString "place", Str.ofString "i"]),
  (Str.ofString "_law_blame", 37, 38, [Str.ofString "octets", Str.ofString "at", Str.ofString "old", Str.ofString "new"]),
  (Str.ofString "_law_bend", 38, 39, [Str.ofString "octets", Str.ofString "n", Str.ofString "place"]),
  (Str.ofString "_law_best", 39, 40, [Str.ofString "entries", Str.ofString "out", Str.ofString "entry"]),
  (Str.ofString "_law_solved", 40, 41, [Str.ofString "operations", Str.ofString "move"]),
  (Str.ofString "law", 41, 42, [Str.ofString "script", Str.ofString "s", Str.ofString "first", Str.ofString "has_avoid", Str.ofString "has_best", Str.ofString "avoid", Str.ofString "best", Str.ofString "operations", Str.ofString "entries", Str.ofString "merged", Str.ofString "book", Str.ofString "octets", Str.ofString "blamed", Str.ofString "tried", Str.ofString "key", Str.ofString "move"])]
noncomputable abbrev FnG (q : Str × Nat × Nat × List Str) : Prop := ∃ d fn, (recsOf vw)[q.2.2.1]? = some d ∧ d.name = q.1 ∧ FT q.2.1 = some fn ∧ FnOk fn (tb0.ar q.2.1) d.params d.body d.scope q.2.2.2
noncomputable def fnK (q : Str × Nat × Nat × List Str) : Pf (FnG q) := match h1 : (recsOf vw)[q.2.2.1]? with
  | some d => match h2 : FT q.2.1 with
    | some fn => ifp (d.name = q.1) fun e0 => ifp (d.params.posonlyargs.isEmpty = true) fun a1 => ifp (d.params.vararg.isNone = true) fun a2 => ifp (d.params.kwonlyargs.isEmpty = true) fun a3 => ifp (d.params.kwarg.isNone = true) fun a4 =>
      ifp (d.params.args.map Arg.arg = q.2.2.2.take (tb0.ar q.2.1)) fun a5 => ifp (d.scope.kind = .function) fun a6 => ifp (d.scope.isGenerator = false) fun a7 => ifp (d.scope.isCoroutine = false) fun a8 => ifp (q.2.2.2.length = fn.slots) fun a9 => ifp (tb0.ar q.2.1 ≤ q.2.2.2.length) fun a10 =>
      ifp (∀ x ∈ q.2.2.2, d.scope.names.lookup x = some .local ∨ d.scope.names.lookup x = some .cell) fun a11 => ifp q.2.2.2.Nodup fun a12 => ifp (d.scope.names.map (·.1)).Nodup fun a13 => ((ck 100).ss d.scope q.2.2.2 fn.body d.body).bnd fun b =>
      pok ⟨d, fn, h1, e0, h2, a6, a7, a8, a9, a10, bind_of a1 a2 a3 a4 a5 a12 a10, a11, a12, a13, 100, b⟩
    | none => none
  | none => none
theorem fnT_all : (fnT.all fun q => (fnK q).isSome) = true := by kernel_rfl
theorem fnT_ok : ∀ q ∈ fnT, FnG q := fun q hq => (Option.get (fnK q) (List.all_eq_true.mp fnT_all q hq)).down
theorem fnL_T : fnL = fnT.map fun q => (q.1, q.2.1) := rfl
end Mine
end

/-! text J1 -/
section
set_option bootstrap.genMatcherCode false
open PySem PySem.W PyProof.Rows PySem.Challenge
set_option maxRecDepth 100000
set_option maxHeartbeats 4000000
set_option Elab.async false
namespace Mine

noncomputable abbrev KK (P : Params) : Frag := KB P
section
variable {P : Params} {loose : List Str} {mean : ExcName → Option Value} {mg mb : Str → Option Value} {h : Heap}

theorem gl_int {nm : Str} {i : Int} (X : (KK P).In h) (G : h.Ns mainGlobals mg) (e : ∃ t, nsIn (KK P) mainGlobals nm = some (some (.int i t))) : ∃ val, mg nm = some val ∧ Rep Tr h val (.int i) :=
  let ⟨t, e⟩ := e; ⟨_, mg_of X G e, .int i t⟩
theorem gl_str {nm : Str} {x : Str} (X : (KK P).In h) (G : h.Ns mainGlobals mg) (e : ∃ t, nsIn (KK P) mainGlobals nm = some (some (.str x t))) : ∃ val, mg nm = some val ∧ Rep Tr h val (.str x) :=
  let ⟨t, e⟩ := e; ⟨_, mg_of X G e, .str x t⟩
theorem gl_list {nm : Str} {l : List V} (X : (KK P).In h) (G : h.Ns mainGlobals mg) (e : ∃ a o vs n, nsIn (KK P) mainGlobals nm = some (some (.ref a)) ∧ (KK P).lookup a = some o ∧ o.cls = .type "list" ∧ o.data = .seq vs n ∧ RepL Tr h vs.toList l) : ∃ val, mg nm = some val ∧ Rep Tr h val (.list l) := by
  obtain ⟨a, o, vs, n, e1, e2, e3, e4, r⟩ := e
  exact ⟨_, mg_of X G e1, .list (vs := vs.toList) trivial ⟨o, X _ _ e2, e3, n, e4⟩ r⟩

theorem g_0 (X : (KK P).In h) (G : h.Ns mainGlobals mg) : ∃ val, mg "NO_KIND" = some val ∧ Rep Tr h val (.int 0) := gl_int X G ⟨_, by with_unfolding_all rfl⟩
theorem g_1 (X : (KK P).In h) (G : h.Ns mainGlobals mg) : ∃ val, mg "PAWN" = some val ∧ Rep Tr h val (.int 1) := gl_int X G ⟨_, by with_unfolding_all rfl⟩
theorem g_2 (X : (KK P).In h) (G : h.Ns mainGlobals mg) : ∃ val, mg "KNIGHT" = some val ∧ Rep Tr h val (.int 2) := gl_int X G ⟨_, by with_unfolding_all rfl⟩
theorem g_3 (X : (KK P).In h) (G : h.Ns mainGlobals mg) : ∃ val, mg "BISHOP" = some val ∧ Rep Tr h val (.int 3) := gl_int X G ⟨_, by with_unfolding_all rfl⟩
theorem g_4 (X : (KK P).In h) (G : h.Ns mainGlobals mg) : ∃ val, mg "ROOK" = some val ∧ Rep Tr h val (.int 4) := gl_int X G ⟨_, by with_unfolding_all rfl⟩
theorem g_5 (X : (KK P).In h) (G : h.Ns mainGlobals mg) : ∃ val, mg "QUEEN" = some val ∧ Rep Tr h val (.int 5) := gl_int X G ⟨_, by with_unfolding_all rfl⟩
theorem g_6 (X : (KK P).In h) (G : h.Ns mainGlobals mg) : ∃ val, mg "KING" = some val ∧ Rep Tr h val (.int 6) := gl_int X G ⟨_, by with_unfolding_all rfl⟩
theorem g_7 (X : (KK P).In h) (G : h.Ns mainGlobals mg) : ∃ val, mg "EMPTY" = some val ∧ Rep Tr h val (.int 0) := gl_int X G ⟨_, by with_unfolding_all rfl⟩
theorem g_8 (X : (KK P).In h) (G : h.Ns mainGlobals mg) : ∃ val, mg "PROMOTION" = some val ∧ Rep Tr h val (.int 1) := gl_int X G ⟨_, by with_unfolding_all rfl⟩
theorem g_9 (X : (KK P).In h) (G : h.Ns mainGlobals mg) : ∃ val, mg "EN_PASSANT" = some val ∧ Rep Tr h val (.int 2) := gl_int X G ⟨_, by with_unfolding_all rfl⟩
theorem g_10 (X : (KK P).In h) (G : h.Ns mainGlobals mg) : ∃ val, mg "CASTLING" = some val ∧ Rep Tr h val (.int 3) := gl_int X G ⟨_, by with_unfolding_all rfl⟩
theorem g_11 (X : (KK P).In h) (G : h.Ns mainGlobals mg) : ∃ val, mg "NO_MOVE" = some val ∧ Rep Tr h val (.int 0) := gl_int X G ⟨_, by with_unfolding_all rfl⟩
theorem g_12 (X : (KK P).In h) (G : h.Ns mainGlobals mg) : ∃ val, mg "LETTERS" = some val ∧ Rep Tr h val (.str (Str.ofString ".PNBRQK..pnbrqk")) := gl_str X G ⟨_, by with_unfolding_all rfl⟩
theorem g_13 (X : (KK P).In h) (G : h.Ns mainGlobals mg) : ∃ val, mg "ENTRY_SIZE" = some val ∧ Rep Tr h val (.int 16) := gl_int X G ⟨_, by with_unfolding_all rfl⟩
theorem g_14 (X : (KK P).In h) (G : h.Ns mainGlobals mg) : ∃ val, mg "MOST_WEIGHT" = some val ∧ Rep Tr h val (.int 65535) := gl_int X G ⟨_, by with_unfolding_all rfl⟩
theorem g_15 (X : (KK P).In h) (G : h.Ns mainGlobals mg) : ∃ val, mg "FILE_LETTERS" = some val ∧ Rep Tr h val (.str (Str.ofString "abcdefgh")) := gl_str X G ⟨_, by with_unfolding_all rfl⟩
theorem g_16 (X : (KK P).In h) (G : h.Ns mainGlobals mg) : ∃ val, mg "RANK_DIGITS" = some val ∧ Rep Tr h val (.str (Str.ofString "12345678")) := gl_str X G ⟨_, by with_unfolding_all rfl⟩
theorem g_17 (X : (KK P).In h) (G : h.Ns mainGlobals mg) : ∃ val, mg "SHORT" = some val ∧ Rep Tr h val (.str (Str.ofString "O-O")) := gl_str X G ⟨_, by with_unfolding_all rfl⟩
theorem g_18 (X : (KK P).In h) (G : h.Ns mainGlobals mg) : ∃ val, mg "LONG" = some val ∧ Rep Tr h val (.str (Str.ofString "O-O-O")) := gl_str X G ⟨_, by with_unfolding_all rfl⟩
theorem g_19 (X : (KK P).In h) (G : h.Ns mainGlobals mg) : ∃ val, mg "QUOTED" = some val ∧ Rep Tr h val (.int 0) := gl_int X G ⟨_, by with_unfolding_all rfl⟩
theorem g_20 (X : (KK P).In h) (G : h.Ns mainGlobals mg) : ∃ val, mg "NUMBER" = some val ∧ Rep Tr h val (.int 1) := gl_int X G ⟨_, by with_unfolding_all rfl⟩
theorem g_21 (X : (KK P).In h) (G : h.Ns mainGlobals mg) : ∃ val, mg "WORD" = some val ∧ Rep Tr h val (.int 2) := gl_int X G ⟨_, by with_unfolding_all rfl⟩
theorem g_22 (X : (KK P).In h) (G : h.Ns mainGlobals mg) : ∃ val, mg "_law_board" = some val ∧ Rep Tr h val (.list [(.int 4), (.int 2), (.int 0), (.int 6), (.int 0), (.int 0), (.int 1), (.int 0), (.int 0), (.int 0), (.int 0), (.int 10), (.int 12), (.int 0), (.int 0), (.int 0)]) := gl_list X G ⟨_, _, _, _, by with_unfolding_all rfl, by with_unfolding_all rfl, rfl, rfl, by repeat (first | exact .nil | refine .cons (.int _ _) ?_)⟩

theorem fn_of (T : Top vw loose mean mg mb h) {q : Str × Nat × Nat × List Str} (g : FnG q) : ∃ a o fd, mg q.1 = some (.ref a) ∧ h.get? a = some o ∧ o.data = .func fd ∧ FnD q.2.1 fd h := by
  obtain ⟨d, fn, hi, e, h1, ok⟩ := g
  obtain ⟨a, o, pm, code, doc, k1, k2, k3, k4⟩ := T.fn d (List.mem_of_getElem? hi)
  exact ⟨a, o, _, e ▸ k1, k2, k3, fn, _, _, _, _, _, _, _, q.2.2.2, h1, rfl, k4, ok⟩

theorem all_nil {α : Type} {p : α → Prop} : ∀ x ∈ ([] : List α), p x := fun _ h => by cases h
theorem all_cons {α : Type} {p : α → Prop} {a : α} {l : List α} (h : p a) (t : ∀ x ∈ l, p x) : ∀ x ∈ a :: l, p x := fun x hx => by
  rcases List.mem_cons.mp hx with rfl | hx
  · exact h
  · exact t x hx

theorem gl_each (X : (KK P).In h) (G : h.Ns mainGlobals mg) : ∀ q ∈ glL, ∃ val, mg q.1 = some val ∧ Rep Tr h val q.2 :=
  all_cons (p := fun q : Str × V => ∃ val, mg q.1 = some val ∧ Rep Tr h val q.2) (g_0 X G) <| all_cons (p := fun q : Str × V => ∃ val, mg q.1 = some val ∧ Rep Tr h val q.2) (g_1 X G) <| all_cons (p := fun q : Str × V => ∃ val, mg q.1 = some val ∧ Rep Tr h val q.2) (g_2 X G) <| all_cons (p := fun q : Str × V => ∃ val, mg q.1 = some val ∧ Rep Tr h val q.2) (g_3 X G) <| all_cons (p := fun q : Str × V => ∃ val, mg q.1 = some val ∧ Rep Tr h val q.2) (g_4 X G) <| all_cons (p := fun q : Str × V => ∃ val, mg q.1 = some val ∧ Rep Tr h val q.2) (g_5 X G) <| all_cons (p := fun q : Str × V => ∃ val, mg q.1 = some val ∧ Rep Tr h val q.2) (g_6 X G) <| all_cons (p := fun q : Str × V => ∃ val, mg q.1 = some val ∧ Rep Tr h val q.2) (g_7 X G) <| all_cons (p := fun q : Str × V => ∃ val, mg q.1 = some val ∧ Rep Tr h val q.2) (g_8 X G) <| all_cons (p := fun q : Str × V => ∃ val, mg q.1 = some val ∧ Rep Tr h val q.2) (g_9 X G) <| all_cons (p := fun q : Str × V => ∃ val, mg q.1 = some val ∧ Rep Tr h val q.2) (g_10 X G) <| all_cons (p := fun q : Str × V => ∃ val, mg q.1 = some val ∧ Rep Tr h val q.2) (g_11 X G) <| all_cons (p := fun q : Str × V => ∃ val, mg q.1 = some val ∧ Rep Tr h val q.2) (g_12 X G) <| all_cons (p := fun q : Str × V => ∃ val, mg q.1 = some val ∧ Rep Tr h val q.2) (g_13 X G) <| all_cons (p := fun q : Str × V => ∃ val, mg q.1 = some val ∧ Rep Tr h val q.2) (g_14 X G) <| all_cons (p := fun q : Str × V => ∃ val, mg q.1 = some val ∧ Rep Tr h val q.2) (g_15 X G) <| all_cons (p := fun q : Str × V => ∃ val, mg q.1 = some val ∧ Rep Tr h val q.2) (g_16 X G) <| all_cons (p := fun q : Str × V => ∃ val, mg q.1 = some val ∧ Rep Tr h val q.2) (g_17 X G) <| all_cons (p := fun q : Str × V => ∃ val, mg q.1 = some val ∧ Rep Tr h val q.2) (g_18 X G) <| all_cons (p := fun q : Str × V => ∃ val, mg q.1 = some val ∧ Rep Tr h val q.2) (g_19 X G) <| all_cons (p := fun q : Str × V => ∃ val, mg q.1 = some val ∧ Rep Tr h val q.2) (g_20 X G) <| all_cons (p := fun q : Str × V => ∃ val, mg q.1 = some val ∧ Rep Tr h val q.2) (g_21 X G) <| all_cons (p := fun q : Str × V => ∃ val, mg q.1 = some val ∧ Rep Tr h val q.2) (g_22 X G) <| all_nil
theorem gl_all (X : (KK P).In h) (G : h.Ns mainGlobals mg) : ∀ x v, tb0.gl x = some v → ∃ val, mg x = some val ∧ Rep Tr h val v := fun x v e =>
  gl_each X G (x, v) (PySem.mem_of_lookup (show glL.lookup x = some v from e))
theorem fn_all (T : Top vw loose mean mg mb h) : ∀ x f, tb0.fn x = some f → ∃ a o fd, mg x = some (.ref a) ∧ h.get? a = some o ∧ o.data = .func fd ∧ FnD f fd h := fun x f e => by
  have m := PySem.mem_of_lookup (show fnL.lookup x = some f from e)
  rw [fnL_T] at m
  obtain ⟨q, hq, e⟩ := List.mem_map.mp m
  cases e
  exact fn_of T (fnT_ok q hq)
end
end Mine
end

/-! text J2 -/
section
set_option bootstrap.genMatcherCode false
open PySem PySem.W PyProof.Rows PySem.Challenge PySem.Builtin PySem.Builtin.ObjectAttr
set_option maxRecDepth 100000
set_option maxHeartbeats 4000000
set_option Elab.async false
namespace Mine
noncomputable abbrev K2 (P : Params) : Frag := KB P
section
variable {P : Params} {mg mb : Str → Option Value} {h : Heap}

/-- a method, told of the ground's literal -/
theorem meth_of {K : Frag} {f : Addr} {ps : List Str} {Pb : Scope → List Stmt → Prop} (X : K.In h) (e : ∃ o fd body c oc vs t, K.lookup f = some o ∧ o.cls = .type "function" ∧ o.data = .func fd ∧ fd.code = .ref c ∧ K.lookup c = some oc ∧ oc.data = .fields vs ∧ vs[1]? = some (.str fd.qualname t) ∧ fd.body = .stmts body ∧ Pb fd.scope body ∧ fd.closure = [] ∧ fd.globals = mainGlobals ∧ fd.builtins = builtinsNs ∧
    fd.scope.kind = .function ∧ fd.scope.isGenerator = false ∧ fd.scope.isCoroutine = false ∧ (∀ x ∈ fd.scope.names, x.2 ≠ .cell) ∧ (∀ x ∈ ps, fd.scope.names.lookup x = some .local) ∧ (∀ vals : List Value, vals.length = ps.length → bindArgs fd ⟨vals, []⟩ = pure (ps.zip vals))) : Meth h f ps Pb := by
  obtain ⟨o, fd, body, c, oc, vs, t, h1, h2, h3, h4, h5, h6, h7, r⟩ := e
  exact ⟨o, fd, body, X _ _ h1, h2, h3, ⟨c, oc, vs, t, h4, X _ _ h5, h6, h7⟩, r⟩

theorem len2' {α : Type} {l : List α} (h : l.length = 2) : ∃ a b, l = [a, b] := by
  match l, h with
  | [a, b], _ => exact ⟨a, b, rfl⟩
theorem len3' {α : Type} {l : List α} (h : l.length = 3) : ∃ a b c, l = [a, b, c] := by
  match l, h with
  | [a, b, c], _ => exact ⟨a, b, c, rfl⟩

theorem kE : ∃ f, findCls (K2 P) (.ref 31) (.type "type") "__init__" = some (.val (.ref f)) ∧ keepIn (K2 P) (.ref f) = true ∧ findIn (K2 P) (.ref 63) "__init__" = some (some (.ref f)) ∧ ∃ o fd body c oc vs t, (K2 P).lookup f = some o ∧ o.cls = .type "function" ∧ o.data = .func fd ∧ fd.code = .ref c ∧ (K2 P).lookup c = some oc ∧ oc.data = .fields vs ∧ vs[1]? = some (.str fd.qualname t) ∧ fd.body = .stmts body ∧ BodyE fd.scope body ∧ fd.closure = [] ∧ fd.globals = mainGlobals ∧ fd.builtins = builtinsNs ∧
    fd.scope.kind = .function ∧ fd.scope.isGenerator = false ∧ fd.scope.isCoroutine = false ∧ (∀ x ∈ fd.scope.names, x.2 ≠ .cell) ∧ (∀ x ∈ [("self" : Str), "text"], fd.scope.names.lookup x = some .local) ∧ (∀ vals : List Value, vals.length = [("self" : Str), "text"].length → bindArgs fd ⟨vals, []⟩ = pure ([("self" : Str), "text"].zip vals)) := by
  refine ⟨_, by with_unfolding_all rfl, by kernel_rfl, by with_unfolding_all rfl, _, _, _, _, _, _, _, by with_unfolding_all rfl, rfl, rfl, rfl, by with_unfolding_all rfl, rfl, rfl, rfl, ⟨by decide +kernel, _, _, _, _, _, _, _, _, rfl, _, _, _, rfl, _, fun _ => rfl⟩, rfl, rfl, rfl, rfl, rfl, rfl, by decide +kernel, by decide +kernel, fun vals hl => ?_⟩
  obtain ⟨a, b, rfl⟩ := len2' hl
  rfl

theorem kB : ∃ f, findIn (K2 P) (.ref 113) "__init__" = some (some (.ref f)) ∧ ∃ o fd body c oc vs t, (K2 P).lookup f = some o ∧ o.cls = .type "function" ∧ o.data = .func fd ∧ fd.code = .ref c ∧ (K2 P).lookup c = some oc ∧ oc.data = .fields vs ∧ vs[1]? = some (.str fd.qualname t) ∧ fd.body = .stmts body ∧ BodyB fd.scope body ∧ fd.closure = [] ∧ fd.globals = mainGlobals ∧ fd.builtins = builtinsNs ∧
    fd.scope.kind = .function ∧ fd.scope.isGenerator = false ∧ fd.scope.isCoroutine = false ∧ (∀ x ∈ fd.scope.names, x.2 ≠ .cell) ∧ (∀ x ∈ [("self" : Str), "at"], fd.scope.names.lookup x = some .local) ∧ (∀ vals : List Value, vals.length = [("self" : Str), "at"].length → bindArgs fd ⟨vals, []⟩ = pure ([("self" : Str), "at"].zip vals)) := by
  refine ⟨_, by with_unfolding_all rfl, _, _, _, _, _, _, _, by with_unfolding_all rfl, rfl, rfl, rfl, by with_unfolding_all rfl, rfl, rfl, rfl, ⟨by decide +kernel, _, _, _, _, _, _, _, _, _, _, rfl, _, _, _, rfl, _, fun _ => rfl⟩, rfl, rfl, rfl, rfl, rfl, rfl, by decide +kernel, by decide +kernel, fun vals hl => ?_⟩
  obtain ⟨a, b, rfl⟩ := len2' hl
  rfl
theorem kD : ∃ f, findIn (K2 P) (.ref 94) "__init__" = some (some (.ref f)) ∧ ∃ o fd body c oc vs t, (K2 P).lookup f = some o ∧ o.cls = .type "function" ∧ o.data = .func fd ∧ fd.code = .ref c ∧ (K2 P).lookup c = some oc ∧ oc.data = .fields vs ∧ vs[1]? = some (.str fd.qualname t) ∧ fd.body = .stmts body ∧ BodyD fd.scope body ∧ fd.closure = [] ∧ fd.globals = mainGlobals ∧ fd.builtins = builtinsNs ∧
    fd.scope.kind = .function ∧ fd.scope.isGenerator = false ∧ fd.scope.isCoroutine = false ∧ (∀ x ∈ fd.scope.names, x.2 ≠ .cell) ∧ (∀ x ∈ [("self" : Str), "at", "text"], fd.scope.names.lookup x = some .local) ∧ (∀ vals : List Value, vals.length = [("self" : Str), "at", "text"].length → bindArgs fd ⟨vals, []⟩ = pure ([("self" : Str), "at", "text"].zip vals)) := by
  refine ⟨_, by with_unfolding_all rfl, _, _, _, _, _, _, _, by with_unfolding_all rfl, rfl, rfl, rfl, by with_unfolding_all rfl, rfl, rfl, rfl, ⟨by decide +kernel, _, _, _, _, _, _, _, _, rfl, _, _, _, rfl, _, fun _ => rfl⟩, rfl, rfl, rfl, rfl, rfl, rfl, by decide +kernel, by decide +kernel, fun vals hl => ?_⟩
  obtain ⟨a, b, c, rfl⟩ := len3' hl
  rfl
theorem line_set {C : Addr} (self : Value) : refuseLoop self "__setattr__" [.ref C, .ref 31, .type "Exception", .type "BaseException", .type "object"] = pure () := by kernel_rfl
theorem kCls (C : Addr) (hC : C = 113 ∨ C = 63 ∨ C = 94) {f : Addr} (hi : findIn (K2 P) (.ref C) "__init__" = some (some (.ref f))) : ClsK (K2 P) 31 C f := by
  rcases hC with rfl | rfl | rfl
  all_goals
    refine ⟨⟨_, by with_unfolding_all rfl, rfl, fun self => line_set self, by decide +kernel, by decide +kernel⟩, ⟨_, _, _, _, _, _, _, _, _, _, _, _, _, _, _, by with_unfolding_all rfl⟩, by kernel_rfl, by kernel_rfl, by kernel_rfl, by kernel_rfl, by kernel_rfl, by kernel_rfl, hi, by kernel_rfl⟩

theorem exG {loose : List Str} {mean : ExcName → Option Value} (X : (K2 P).In h) (T : Top vw loose mean mg mb h) : ExG mg mb h := by
  obtain ⟨fE, e1, e2, e3, mE⟩ := kE (P := P)
  obtain ⟨fB, b1, mB⟩ := kB (P := P)
  obtain ⟨fD, d1, mD⟩ := kD (P := P)
  refine ⟨K2 P, 31, fE, 113, fB, 63, 94, fD, X, ⟨by kernel_rfl, e1, by kernel_rfl, by kernel_rfl, e2, ⟨mg_none_of X T.g (by kernel_rfl), ?_⟩, mg_of X T.g (by kernel_rfl)⟩, meth_of X mE, meth_of X mB, meth_of X mD, kCls 113 (.inl rfl) b1, kCls 63 (.inr (.inl rfl)) e3, kCls 94 (.inr (.inr rfl)) d1, mg_of X T.g (by kernel_rfl), mg_of X T.g (by kernel_rfl), mg_of X T.g (by kernel_rfl), by decide, by decide⟩
  exact (T.builtins _ (by decide)).trans (by kernel_rfl)
end
end Mine
end

/-! text J3 -/
section
set_option bootstrap.genMatcherCode false
open PySem PySem.W PyProof.Rows PySem.Challenge
set_option maxRecDepth 100000
set_option maxHeartbeats 4000000
set_option Elab.async false
namespace Mine

theorem ints_of {R : WRecords} {xs : List WData} : WShape.hasItems R xs .int = true → ∃ l : List Int, xs = l.map .int := by
  induction xs with
  | nil => exact fun _ => ⟨[], rfl⟩
  | cons x xs ih =>
    intro h
    have h := Bool.and_eq_true_iff.mp h
    obtain ⟨l, rfl⟩ := ih h.2
    obtain ⟨i, rfl⟩ := hasW_int h.1
    exact ⟨i :: l, rfl⟩

theorem args_script {args : List WData} (h : WShape.hasAll [] args [.list .int] = true) : ∃ l : List Int, args = [.list (l.map .int)] := by
  obtain ⟨d, r, rfl, h1, h2⟩ := hasAllW_cons h
  obtain rfl := hasAllW_nil h2
  obtain ⟨xs, rfl, hx⟩ := hasW_list h1
  obtain ⟨l, rfl⟩ := ints_of hx
  exact ⟨l, rfl⟩

theorem reads_ints {R : WRecords} {cl : Str → Option Addr} {h : Heap} {l : List Int} : ∀ {vs : List Value} {as : List Addr}, ReadsAllW R cl h vs (l.map .int) as → RepL Tr h vs (l.map .int) := by
  induction l with
  | nil => intro vs as r; cases r; exact .nil
  | cons i l ih =>
    intro vs as r
    cases r with
    | cons r1 rs =>
      cases r1
      exact .cons (.int _ _) (ih rs)

theorem few_script {args : List WData} (h : rw_nt0440_01.row.toRowW.claim.pre args = true) : ∃ l : List Int, args = [.list (l.map .int)] ∧ l.length ≤ 63 := by
  obtain ⟨h1, h2⟩ := pre_splitW h
  obtain ⟨l, rfl⟩ := args_script h1
  refine ⟨l, rfl, ?_⟩
  have e : rw_nt0440_01.row.toRowW.pre = .and (.not (.lt (.lit (.int 63)) (.len (.arg 0)))) (.lit (.bool true)) := by with_unfolding_all rfl
  rw [e] at h2
  simp [WTm.holds, WTm.value] at h2
  by_cases q : (63 : Int) < (l.length : Int)
  · exfalso
    rw [show less? (WData.int 63) (WData.int ↑l.length) = some true from congrArg some (decide_eq_true q)] at h2
    simp at h2
  · omega
end Mine
end

/-! text J4 -/
section
set_option bootstrap.genMatcherCode false
open PySem PySem.W PyProof.Rows PySem.Challenge
set_option maxRecDepth 100000
set_option maxHeartbeats 4000000
set_option Elab.async false
namespace Mine
section
variable {P : Params} {loose : List Str} {mean : ExcName → Option Value} {mg mb : Str → Option Value} {h : Heap}

theorem blt_of (T : Top vw loose mean mg mb h) (X : (KK P).In h) {x : Str} {v : Value} (e : nsIn (KK P) mainGlobals x = some none) (hx : x ≠ "__name__") (hb : bootBuiltins x = some v) : mg x = none ∧ mb x = some v :=
  ⟨mg_none_of X T.g e, (T.builtins x hx).trans hb⟩

theorem gd_of (T : Top vw loose mean mg mb h) (X : (KK P).In h) : Gd mg mb h where
  g := T.g
  b := T.b
  gl := gl_all X T.g
  len := blt_of T X (by kernel_rfl) (by decide) (by kernel_rfl)
  min := blt_of T X (by kernel_rfl) (by decide) (by kernel_rfl)
  max := blt_of T X (by kernel_rfl) (by decide) (by kernel_rfl)
  sorted := blt_of T X (by kernel_rfl) (by decide) (by kernel_rfl)
  list := blt_of T X (by kernel_rfl) (by decide) (by kernel_rfl)
  bytes := blt_of T X (by kernel_rfl) (by decide) (by kernel_rfl)
  range := blt_of T X (by kernel_rfl) (by decide) (by kernel_rfl)
  ex := exG X T
  fn := fn_all T

theorem gg_of (T : Top vw loose mean mg mb h) : GG  h :=
  ⟨T.nolimit, T.seer (by kernel_rfl), rfl, mg, T.g⟩
end

theorem holds_of (Pure : ∀ l : List Int, l.length ≤ 63 → evC FT 150 41 [.list (l.map .int)] = .ok (.bool true)) : rw_nt0440_01.Holds := holdsB (by
  intro d kwd hn w s₀ s₁ mg mb G Y a o pm cd doc dV kV ha hdat hcd hdf hmg hgens args vals as hpre hlay hr hwell hne
  rw [hn] at hmg
  obtain ⟨l, rfl, hl⟩ := few_script hpre
  have X : (KK w.params).In s₁.heap := kIn_of (e := asB_KB) Y
  have T := G.T
  have gd := gd_of T X
  have rl : RepL Tr s₁.heap vals [.list (l.map .int)] := by
    cases hr with
    | cons r1 rs =>
      cases rs
      cases r1 with
      | list h1 h2 h3 h4 =>
        rename_i a' o' vs' n' as'
        exact .cons (.list (vs := vs'.toList) trivial ⟨o', h1, h2, n', by simpa using h3⟩ (reads_ints h4)) .nil
  have R : Rm0  s₁.heap [] callerA (149 + 1) s₁.heap := ⟨gg_of T, rfl, rfl, by decide, by decide, fun _ _ z => z, fun e he => by cases he⟩
  have pu := Pure l hl
  have key := callC (w := w) (sim_all w mg mb 149).ss gd R (x := "law") (f := 41) (vals := vals) (by rfl) rfl rl hmg (by rw [pu]; nofun)
  rw [pu] at key
  refine wpAny_mono key (fun v s' z => ?_) fun v s' z => ?_
  · obtain ⟨d, e, r, st⟩ := z
    cases e
    cases r
    refine ⟨.inl ⟨_, .bool true, [], rfl, fun _ => rfl, .bool true, ?_, fun _ => ⟨.nil, nofun⟩⟩, ?_, st.os, ?_⟩
    · with_unfolding_all rfl
    · exact OldK.of_keep fun b o e => st.keep.exact b o e (fun z => z) fun q => by cases q
    · exact AllBare.of_eq (st.gens.trans hgens)
  · obtain ⟨x, e, _⟩ := z
    cases e)
end Mine
end

theorem PySem.Challenge.cw_nt0440_01_holds : PySem.Challenge.rw_nt0440_01.Holds :=
  Mine.holds_of fun l hl => Mine.Q.law_ok 0 l hl
