import PyProof.Rows.All
import Wide.All
import OpenK.AllK
import Wide.FinOn
import HandS.ForMost
import KE.SortData
import KE.DataMinMax
import KE.DatumOrd
import PyProof.ReprReads
import KE.KDictKeyed
import HandS.IsInst
import HandS.Exc
import HandS.ExcOwn
import HandS.TupAny
import HandS.TupMul
import HandS.Style
import HandS.TupLe
import PyProof.Rows.NestShow
import PyProof.ReprRoads
import PyProof.FitsInt
import PyProof.CallFns
import HandS.NoneIn
import HandS.Iter
import HandS.Zip
import KE.GoesMore
import PyProof.EnumMake
import PyProof.EnumStmt
import PyProof.Draws
import HandS.Conv
import HandS.Dict
import HandS.DictComp
import KE.KDictDisplayH
import KE.KEqDict
import KE.KDictPairs
import KE.DataEq
import HandS.WordsExc
import PySem.Challenge.RW_hillandwater_k07_whole_streams_and_their
set_option Elab.async false
set_option linter.all false
set_option maxRecDepth 100000
set_option maxHeartbeats 4000000
set_option Elab.async false
set_option linter.all false
set_option maxRecDepth 100000
/-! Mir, part A: data, ownership trees, the syntax, the evaluator. -/
namespace Mir
open PySem L2

abbrev D := PyData

/-- a dict as data; t: its keys are tuples -/
def dictL (t : Bool) (kvs : List (D × D)) : List (D × D) := if t then (.list [], .none) :: kvs else kvs
def dictD (t : Bool) (kvs : List (D × D)) : D := .dict (dictL t kvs)

/-- what a name holds: data that is never changed any more, an owned list, an owned dict -/
inductive O where
  | d (x : D)
  | l (os : List O)
  | m (t : Bool) (kvs : List (D × D))

mutual
def O.data : O → D
  | .d x => x
  | .l os => .list (O.datas os)
  | .m t kvs => dictD t kvs
def O.datas : List O → List D
  | [] => []
  | o :: os => o.data :: O.datas os
end
/-- no owned parts within -/
def O.isD : O → Bool
  | .d _ => true
  | _ => false
def O.flat : O → Bool
  | .l os => os.all O.isD
  | _ => true

mutual
/-- data without lists and dicts -/
def noMut : D → Bool
  | .list _ => false
  | .dict _ => false
  | .tuple xs => noMutAll xs
  | _ => true
def noMutAll : List D → Bool
  | [] => true
  | x :: xs => noMut x && noMutAll xs
end

abbrev Tau := List (Option O)

/-- a raised error: its class, its arguments -/
structure Xn where
  cls : Str
  args : List D

inductive R (α : Type) where
  | ok (a : α) (τ : Tau)
  | ex (x : Xn) (τ : Tau)
  | st

def R.andThen {α β : Type} : R α → (α → Tau → R β) → R β
  | .ok a τ, f => f a τ
  | .ex x τ, _ => .ex x τ
  | .st, _ => .st
@[simp] theorem R.andThen_ok {α β : Type} (a : α) (τ : Tau) (f : α → Tau → R β) : (R.ok a τ).andThen f = f a τ := rfl
@[simp] theorem R.andThen_ex {α β : Type} (x : Xn) (τ : Tau) (f : α → Tau → R β) : (R.ex x τ : R α).andThen f = .ex x τ := rfl
@[simp] theorem R.andThen_st {α β : Type} (f : α → Tau → R β) : (R.st : R α).andThen f = .st := rfl

/-! ### keys: whole numbers; tuples of keys -/
mutual
def nkD : D → Option NestedKey
  | .int i => some (.num i)
  | .tuple xs => (nkDs xs).map NestedKey.tup
  | _ => none
def nkDs : List D → Option (List NestedKey)
  | [] => some []
  | x :: xs => match nkD x, nkDs xs with
    | some k, some ks => some (k :: ks)
    | _, _ => none
end
def isTupK : NestedKey → Bool
  | .tup _ => true
  | _ => false
def keyOf (t : Bool) (d : D) : Option NestedKey :=
  match nkD d with
  | some k => if isTupK k == t && decide (k.depth ≤ 8) then some k else none
  | none => none
def hitK (t : Bool) (k : NestedKey) (p : D × D) : Bool := decide (keyOf t p.1 = some k)
def valD (t : Bool) (kvs : List (D × D)) (k : NestedKey) : Option D := (kvs.find? (hitK t k)).map (·.2)
def setD (t : Bool) (kvs : List (D × D)) (kd : D) (k : NestedKey) (v : D) : List (D × D) :=
  if kvs.any (hitK t k) then kvs.map fun p => if hitK t k p then (p.1, v) else p else kvs ++ [(kd, v)]
def dropD (t : Bool) (kvs : List (D × D)) (k : NestedKey) : List (D × D) := kvs.filter fun p => !hitK t k p
/-- a dict that is seen -/
def dictO : O → Option (Bool × List (D × D))
  | .m t kvs => some (t, kvs)
  | .d (.dict ((.list [], .none) :: kvs)) => some (true, kvs)
  | .d (.dict ((.list [], _) :: _)) => none
  | .d (.dict kvs) => some (false, kvs)
  | _ => none

/-! ### syntax -/
inductive Ty where
  | int | bool | str | tuple | list | dict
  deriving DecidableEq
def Ty.name : Ty → String
  | .int => "int" | .bool => "bool" | .str => "str" | .tuple => "tuple" | .list => "list" | .dict => "dict"
inductive Bi where
  | len | abs | min | max | sum | all | any | tuple | list | int | sorted | repr
  deriving DecidableEq
def Bi.name : Bi → String
  | .len => "len" | .abs => "abs" | .min => "min" | .max => "max" | .sum => "sum" | .all => "all" | .any => "any"
  | .tuple => "tuple" | .list => "list" | .int => "int" | .sorted => "sorted" | .repr => "repr"
mutual
inductive E where
  | lit (x : D)
  | loc (i : Nat)
  | io (i : Nat)
  | con (x : Str)
  | tup (es : Es)
  | lst (es : Es)
  | bin (op : Operator) (a c : E)
  | neg (a : E)
  | not (a : E)
  | and (es : Es)
  | or (es : Es)
  | cmp (op : CmpOp) (a c : E)
  | chain (op op' : CmpOp) (a c e : E)
  | ite (c a e : E)
  | ix (a i : E)
  | sl (a lo hi : E)
  | rev (a : E)
  | lrg (a : E)
  | dnew (t : Bool)
  | dix (a k : E)
  | din (neg : Bool) (k a : E)
  | dget (a k x : E)
  | deq (neg : Bool) (a c : E)
  | dlen (a : E)
  | dof (t : Bool) (a : E)
  | dcomp (t : Bool) (tg : T) (vs : List Nat) (it : It) (cs : Es) (k v : E)
  | bi (f : Bi) (es : Es)
  | isi (a : E) (many : Bool) (tys : List Ty)
  | call (f : Str) (r : Bool) (es : Es)
  | mut (m : Str) (i : Nat) (es : Es)
  | comp (t : T) (vs : List Nat) (it : It) (cs : Es) (elt : E) (r : Bool)
inductive Es where
  | nil
  | cons (e : E) (es : Es)
inductive T where
  | nm (i : Nat)
  | tup (ts : Ts)
inductive Ts where
  | nil
  | cons (t : T) (ts : Ts)
inductive It where
  | seq (e : E)
  | rng (es : Es)
  | zip (es : Es)
  | enum (es : Es)
  | dct (a : E)
  | dits (a : E)
  | dvals (a : E)
end

def It.isSeq : It → Bool
  | .seq _ => true
  | .dct _ => true
  | _ => false
def Es.isNil : Es → Bool
  | .nil => true
  | _ => false
mutual
/-- nothing that stands is changed by it -/
def E.pure : E → Bool
  | .lit _ => true
  | .loc _ => true
  | .io _ => false
  | .con _ => true
  | .tup es => es.pure
  | .lst es => es.pure
  | .bin _ a c => a.pure && c.pure
  | .neg a => a.pure
  | .not a => a.pure
  | .and es => es.pure
  | .or es => es.pure
  | .cmp _ a c => a.pure && c.pure
  | .chain _ _ a c e => a.pure && c.pure && e.pure
  | .ite c a e => c.pure && a.pure && e.pure
  | .ix a i => a.pure && i.pure
  | .sl a lo hi => a.pure && lo.pure && hi.pure
  | .rev a => a.pure
  | .lrg a => a.pure
  | .dnew _ => true
  | .dix a k => a.pure && k.pure
  | .din _ k a => k.pure && a.pure
  | .dget a k x => a.pure && k.pure && x.pure
  | .deq _ a c => a.pure && c.pure
  | .dlen a => a.pure
  | .dof _ a => a.pure
  | .dcomp _ _ _ it cs k v => it.pure && cs.pure && k.pure && v.pure
  | .bi _ es => es.pure
  | .isi a _ _ => a.pure
  | .call _ _ es => es.pure
  | .mut _ _ _ => false
  | .comp _ _ it cs elt _ => it.pure && cs.pure && elt.pure
def Es.pure : Es → Bool
  | .nil => true
  | .cons e es => e.pure && es.pure
def It.pure : It → Bool
  | .seq e => e.pure
  | .rng es => es.pure
  | .zip es => es.pure
  | .enum es => es.pure
  | .dct a => a.pure
  | .dits a => a.pure
  | .dvals a => a.pure
end

inductive S where
  | expr (e : E)
  | asg (t : T) (e : E)
  | par (is : List Nat) (es : Es)
  | aug (i : Nat) (op : Operator) (e : E)
  | put (i : Nat) (k e : E)
  | put2 (i : Nat) (k k' e : E)
  | dput (i : Nat) (k e : E)
  | daug (i : Nat) (op : Operator) (k e : E)
  | dput2 (i : Nat) (k : E) (j : Nat) (k' e : E)
  | ifs (c : E) (a b : List S)
  | fors (t : T) (it : It) (body : List S)
  | whiles (c : E) (body : List S)
  | ret (e : E)
  | retN
  | raise (x : Str) (es : Es)
  | pass
  | brk
  | cont
  | never

structure Def where
  n : Nat
  np : Nat
  io : List Nat
  body : List S

structure Prog where
  fn : Str → Option Def
  con : Str → Option D

inductive CR where
  | ok (o : O) (outs : List O)
  | ex (x : Xn) (outs : List O)
  | st

structure Cl where
  call : Str → List O → CR
  io : Str → List Nat
  con : Str → Option D

/-! ### operations on data -/
def lim : Nat := 10000000

def opF : Operator → D → D → Option O
  | .Add, .int a, .int c => some (.d (.int (a + c)))
  | .Add, .str a, .str c => if a.length + c.length ≤ lim then some (.d (.str (a ++ c))) else none
  | .Add, .list xs, .list ys => if xs.length + ys.length ≤ lim then some (.l ((xs ++ ys).map .d)) else none
  | .Add, .tuple xs, .tuple ys => if xs.length + ys.length ≤ lim then some (.d (.tuple (xs ++ ys))) else none
  | .Sub, .int a, .int c => some (.d (.int (a - c)))
  | .Mult, .int a, .int c => if (-(2 ^ 64) < a ∧ a < 2 ^ 64) ∨ (-(2 ^ 64) < c ∧ c < 2 ^ 64) then some (.d (.int (a * c))) else none
  | .Mult, .list xs, .int k => if -1000 ≤ k ∧ k ≤ 1000 ∧ xs.length ≤ 1000 then some (.l ((List.replicate k.toNat xs).flatten.map .d)) else none
  | .Mult, .tuple xs, .int k => if k = 1 then some (.d (.tuple xs)) else if 2 ≤ k ∧ k ≤ 1000 ∧ xs.length ≤ 1000 ∧ xs.isEmpty = false then some (.d (.tuple (List.replicate k.toNat xs).flatten)) else none
  | .FloorDiv, .int a, .int c => if 0 < c ∧ c < 1073741824 then some (.d (.int (a / c))) else if c ≠ 0 ∧ c.natAbs < 1073741824 then some (.d (.int (a.fdiv c))) else none
  | .Mod, .int a, .int c => if 0 < c then some (.d (.int (a % c))) else none
  | .Pow, .int a, .int c => if 0 ≤ c ∧ c ≤ 1000000 ∧ a.natAbs < 2 ^ 64 then some (.d (.int (a ^ c.toNat))) else none
  | _, _, _ => none

def augF : Operator → D → D → Option D
  | .Add, .int a, .int c => some (.int (a + c))
  | .Sub, .int a, .int c => some (.int (a - c))
  | _, _, _ => none
def okDepth (a c : D) : Bool := decide (a.depth ≤ 40) && decide (c.depth ≤ 40)
def isNone : D → Bool
  | .none => true
  | _ => false
def alikeN (a c : D) : Bool := W.alike a c && PyData.plain a && PyData.plain c && !isNone a
def seqOf : D → Option (List D)
  | .list xs => some xs
  | .tuple xs => some xs
  | _ => none
def inF (a : D) : D → Option Bool
  | .list xs => if PyData.plain a && PyData.plainAll xs && okDepth a (.list xs) then some (xs.any fun y => PyData.eqv y a) else none
  | .tuple xs => if PyData.plain a && PyData.plainAll xs && okDepth a (.tuple xs) then some (xs.any fun y => PyData.eqv y a) else none
  | _ => none
def isF : D → D → Option Bool
  | a, .none => some (isNone a)
  | .bool a, .bool c => some (a == c)
  | _, _ => none
def cmpF : CmpOp → D → D → Option Bool
  | .Eq, a, c => if PyData.plain a && PyData.plain c && okDepth a c then some (PyData.eqv a c) else none
  | .NotEq, a, c => if PyData.plain a && PyData.plain c && okDepth a c then some (!PyData.eqv a c) else none
  | .Lt, a, c => if alikeN a c && okDepth a c then some (W.dataLt a c) else none
  | .Gt, a, c => if alikeN a c && okDepth a c then some (W.dataLt c a) else none
  | .LtE, a, c => if alikeN a c && okDepth a c then some (!W.dataLt c a) else none
  | .GtE, a, c => if alikeN a c && okDepth a c then some (!W.dataLt a c) else none
  | .In, a, c => inF a c
  | .NotIn, a, c => (inF a c).map (!·)
  | .Is, a, c => isF a c
  | .IsNot, a, c => (isF a c).map (!·)


/-! places, slices -/
def ixO : O → D → Option O
  | .d (.list xs), .int i => (atI xs i).map .d
  | .d (.tuple xs), .int i => (atI xs i).map .d
  | .l os, .int i => atI os i
  | _, _ => none
def cutG {α : Type} (xs : List α) (lo hi : Option Int) : List α :=
  (xs.drop (HT.sIx xs.length 0 lo)).take (HT.sIx xs.length xs.length hi - HT.sIx xs.length 0 lo)
def part : D → Option (Option Int)
  | .none => some none
  | .int i => some (some i)
  | _ => none
def slF (a : D) (lo hi : Option Int) : Option O :=
  match a with
  | .list xs => some (.l ((cutG xs lo hi).map .d))
  | .tuple xs => some (.d (.tuple (cutG xs lo hi)))
  | .dict [(.list [], .list ns)] => some (.l ((cutG ns lo hi).map .d))
  | _ => none
def revF : D → Option O
  | .list xs => some (.l (xs.reverse.map .d))
  | .tuple xs => some (.d (.tuple xs.reverse))
  | _ => none

/-! built-ins -/
def ints? : List D → Option (List Int)
  | [] => some []
  | .int i :: r => (ints? r).map (i :: ·)
  | _ => none
def bools? : List D → Option (List Bool)
  | [] => some []
  | .bool i :: r => (bools? r).map (i :: ·)
  | _ => none
def allAlike (xs : List D) : Bool := xs.all fun a => xs.all fun c => alikeN a c
def okMM (xs : List D) : Bool := allAlike xs && decide (PyData.depthAll xs ≤ 40)
def notTup : D → Bool
  | .tuple _ => false
  | _ => true
def fullTup : D → Bool
  | .tuple (_ :: _) => true
  | _ => false
def okSort (xs : List D) : Bool := okMM xs && (xs.all fullTup || xs.all notTup)
def sortD (xs : List D) : List D := xs.mergeSort (W.dataLe false id)

mutual
/-- how long a thing's text may be -/
def wsz : D → Nat
  | .none => 4
  | .bool _ => 5
  | .int i => if i.natAbs.log2 < 64 then 65 else lim + 1
  | .str _ => lim + 1
  | .list xs => wszs xs + 2
  | .tuple xs => wszs xs + 3
  | .dict _ => lim + 1
def wszs : List D → Nat
  | [] => 0
  | x :: xs => wsz x + 2 + wszs xs
end
def isSq : D → Bool
  | .str _ => false
  | .dict _ => false
  | _ => true
def okRepr (d : D) : Bool := isSq d && PyData.plain d && decide (d.depth ≤ 40) && decide (wsz d ≤ lim)
def biF : Bi → List D → Option O
  | .len, [.list xs] => some (.d (.int xs.length))
  | .len, [.tuple xs] => some (.d (.int xs.length))
  | .len, [.str x] => if x.length ≤ lim then some (.d (.int x.length)) else none
  | .abs, [.int i] => some (.d (.int (if i < 0 then -i else i)))
  | .min, [.int i, .int j] => some (.d (.int (if j < i then j else i)))
  | .max, [.int i, .int j] => some (.d (.int (if j > i then j else i)))
  | .min, [.list (x :: xs)] => if okMM (x :: xs) then some (.d (W.minD x xs)) else none
  | .max, [.list (x :: xs)] => if okMM (x :: xs) then some (.d (W.maxD x xs)) else none
  | .min, [.tuple (x :: xs)] => if okMM (x :: xs) then some (.d (W.minD x xs)) else none
  | .max, [.tuple (x :: xs)] => if okMM (x :: xs) then some (.d (W.maxD x xs)) else none
  | .sum, [.list xs] => (ints? xs).map fun ns => .d (.int ns.sum)
  | .sum, [.tuple xs] => (ints? xs).map fun ns => .d (.int ns.sum)
  | .all, [.list xs] => (bools? xs).map fun bs => .d (.bool (bs.all id))
  | .any, [.list xs] => (bools? xs).map fun bs => .d (.bool (bs.any id))
  | .tuple, [.list xs] => some (.d (.tuple xs))
  | .tuple, [.tuple xs] => some (.d (.tuple xs))
  | .list, [.list xs] => some (.l (xs.map .d))
  | .list, [.tuple xs] => some (.l (xs.map .d))
  | .int, [.int i] => some (.d (.int i))
  | .int, [.bool c] => some (.d (.int (if c then 1 else 0)))
  | .sorted, [.list xs] => if okSort xs then some (.l ((sortD xs).map .d)) else none
  | .repr, [d] => if okRepr d then some (.d (.str (PyData.shown d))) else none
  | _, _ => none

def isTy : D → Ty → Option Bool
  | .none, _ => some false
  | .bool _, t => some (t == .bool || t == .int)
  | .int _, t => some (t == .int)
  | .str _, t => some (t == .str)
  | .list _, t => some (t == .list)
  | .tuple _, t => some (t == .tuple)
  | .dict _, _ => none
def isAny (d : D) : List Ty → Option Bool
  | [] => some false
  | t :: ts => match isTy d t, isAny d ts with
    | some a, some c => some (a || c)
    | _, _ => none
/-- xs.pop(), xs.pop(k) -/
def popD (os : List O) (j : Nat) : Option (D × List O) :=
  match os[j]? with
  | some (.d x) => some (x, os.eraseIdx j)
  | _ => none
/-- x.m(..): what it hands back, what x is afterwards -/
def mutF : Str → List O → List O → Option (D × List O)
  | m, os, [x] => if m = "append" then (if os.length < lim then some (.none, os ++ [x]) else none)
    else if m = "extend" then (match x.flat, x.data with
      | true, .list ys => if os.length + ys.length < lim then some (.none, os ++ ys.map .d) else none
      | _, _ => none)
    else if m = "pop" then (match x.data with
      | .int k => if os.length ≤ lim then (ixN os.length k).bind (popD os) else none
      | _ => none)
    else none
  | m, os, [] => if m = "pop" then popD os (os.length - 1) else none
  | _, _, _ => none

/-! ### the evaluator -/
def getO (τ : Tau) (i : Nat) : Option O :=
  match τ[i]? with
  | some (some o) => some o
  | _ => none
def flatD (o : O) (τ : Tau) (f : D → Tau → R O) : R O := if o.flat then f o.data τ else .st
def R.ofO (x : Option O) (τ : Tau) : R O :=
  match x with
  | some o => .ok o τ
  | none => .st
def R.ofB (x : Option Bool) (τ : Tau) : R O :=
  match x with
  | some c => .ok (.d (.bool c)) τ
  | none => .st
/-- behind a part that changes nothing, where the outcome holds no list: all names hold what they held -/
def restore (r : Bool) (τ0 : Tau) : R O → R O
  | .ok (.d x) τ => if r && noMut x then .ok (.d x) τ0 else .ok (.d x) τ
  | r => r
def wipeT (τ : Tau) : List Nat → Tau
  | [] => τ
  | v :: vs => (wipeT τ vs).set v none
def backT (τ0 : Tau) (τ : Tau) : List Nat → Tau
  | [] => τ
  | v :: vs => (backT τ0 τ vs).set v ((τ0[v]?).getD none)
def setOuts (τ : Tau) : List Nat → List O → Option Tau
  | [], [] => some τ
  | i :: is, o :: os => setOuts (τ.set i (some o)) is os
  | _, _ => none
def getOs (τ : Tau) : List Nat → Option (List O)
  | [] => some []
  | i :: is => match getO τ i, getOs τ is with
    | some o, some os => some (o :: os)
    | _, _ => none
def E.isIo : E → Option Nat
  | .io i => some i
  | _ => none
def Es.kinds : Es → List (Option Nat)
  | .nil => []
  | .cons e es => e.isIo :: es.kinds
def iosK : List (Option Nat) → List Nat
  | [] => []
  | some i :: r => i :: iosK r
  | none :: r => iosK r
def iopK : Nat → List (Option Nat) → List Nat
  | _, [] => []
  | k, some _ :: r => k :: iopK (k + 1) r
  | k, none :: r => iopK (k + 1) r
def Es.ios (es : Es) : List Nat := iosK es.kinds
/-- the places of the arguments that are handed over -/
def Es.iop (es : Es) : List Nat := iopK 0 es.kinds
def ofCR (τ : Tau) (is : List Nat) : CR → R O
  | .ok o outs => match setOuts τ is outs with
    | some τ' => .ok o τ'
    | none => .st
  | .ex x outs => match setOuts τ is outs with
    | some τ' => .ex x τ'
    | none => .st
  | .st => .st
mutual
def T.set : T → D → Tau → Option Tau
  | .nm i, x, τ => if i < τ.length then some (τ.set i (some (.d x))) else none
  | .tup ts, x, τ => match x with
    | .tuple xs => ts.sets xs τ
    | .list xs => ts.sets xs τ
    | _ => none
def Ts.sets : Ts → List D → Tau → Option Tau
  | .nil, [], τ => some τ
  | .cons t ts, x :: xs, τ => match t.set x τ with
    | some τ' => ts.sets xs τ'
    | none => none
  | _, _, _ => none
end
def consO : Option O → List O → List O
  | some o, os => o :: os
  | none, os => os
/-- a comprehension's turns: f gives the item's element, where its tests hold -/
def compL (set : D → Tau → Option Tau) (f : Tau → R (Option O)) : List D → Tau → R (List O)
  | [], τ => .ok [] τ
  | x :: xs, τ => match set x τ with
    | some τ1 => (f τ1).andThen fun y τ2 => (compL set f xs τ2).andThen fun ys τ3 => .ok (consO y ys) τ3
    | none => .st
/-- no error leaves a comprehension -/
def noEx {α : Type} : R α → R α
  | .ok a τ => .ok a τ
  | _ => .st
def asB : R O → R Bool
  | .ok (.d (.bool c)) τ => .ok c τ
  | .ok _ _ => .st
  | .ex x τ => .ex x τ
  | .st => .st
def itemsO : O → Option (List D)
  | .d x => seqOf x
  | .l os => if os.all O.isD then some (O.datas os) else none
  | .m _ _ => none
def rangeL (lo hi : Int) : List D := (List.range (hi - lo).toNat).map fun (i : Nat) => .int (lo + (i : Int))
def rngF : List D → Option (List D)
  | [.int n] => if -lim ≤ n ∧ n ≤ lim then some (rangeL 0 n) else none
  | [.int a, .int n] => if -lim ≤ a ∧ a ≤ lim ∧ -lim ≤ n ∧ n ≤ lim then some (rangeL a n) else none
  | _ => none
/-- list(range(n)) -/
def lrgF : D → Option O
  | .int n => if -lim ≤ n ∧ n ≤ lim then some (.l ((rangeL 0 n).map .d)) else none
  | _ => none
def pairsL : List D → List D → List D
  | x :: xs, y :: ys => .tuple [x, y] :: pairsL xs ys
  | _, _ => []
def enumL : Nat → List D → List D
  | _, [] => []
  | i, x :: xs => .tuple [.int i, x] :: enumL (i + 1) xs
def itemsB (b : Bool) (o : O) : Option (List D) := if b then itemsO o else seqOf o.data
def isTup (o : O) : Bool :=
  match o.data with
  | .tuple _ => true
  | _ => false
def zipF (b : Bool) : List O → Option (List D)
  | [x, y] => if isTup x == isTup y then match itemsB b x, itemsB b y with
    | some xs, some ys => some (pairsL xs ys)
    | _, _ => none
    else none
  | _ => none
def enumF (b : Bool) : List O → Option (List D)
  | [x] => (itemsB b x).map (enumL 0)
  | _ => none

/-! dicts -/
def dixF (x : O) (kd : D) : Option O :=
  match dictO x with
  | some (t, kvs) => match keyOf t kd with
    | some k => (valD t kvs k).map .d
    | none => none
  | none => none
def dinF (neg : Bool) (kd : D) (x : O) : Option Bool :=
  match dictO x with
  | some (t, kvs) => match keyOf t kd with
    | some k => some (kvs.any (hitK t k) != neg)
    | none => none
  | none => none
def dgetF (x : O) (kd : D) (z : O) : Option O :=
  match dictO x, z with
  | some (t, kvs), .d y => match keyOf t kd with
    | some k => some (.d ((valD t kvs k).getD y))
    | none => none
  | _, _ => none
def eqEnt (t : Bool) (kvs : List (D × D)) (p : D × D) : Option Bool :=
  match keyOf t p.1 with
  | some k => match valD t kvs k with
    | some v => if PyData.plain p.2 && PyData.plain v && okDepth p.2 v then some (PyData.eqv p.2 v) else none
    | none => some false
  | none => none
def eqEnts (t : Bool) (kvs : List (D × D)) : List (D × D) → Option Bool
  | [] => some true
  | p :: ps => match eqEnt t kvs p with
    | some true => eqEnts t kvs ps
    | some false => some false
    | none => none
def deqF (neg : Bool) (x y : O) : Option Bool :=
  match dictO x, dictO y with
  | some (t, kvs), some (t', kvs') => if t = t' then (if kvs.length = kvs'.length then (eqEnts t kvs' kvs).map (· != neg) else some neg) else none
  | _, _ => none
def dlenF (x : O) : Option O := (dictO x).map fun p => .d (.int p.2.length)
/-- pairs, one after another -/
def pairD (t : Bool) (acc : List (D × D)) : D → Option (List (D × D))
  | .tuple [kd, v] => (keyOf t kd).map fun k => setD t acc kd k v
  | _ => none
def pairsD (t : Bool) : List (D × D) → List D → Option (List (D × D))
  | acc, [] => some acc
  | acc, d :: ds => match pairD t acc d with
    | some acc => pairsD t acc ds
    | none => none
def dofF (t : Bool) (x : O) : Option O :=
  match x.flat, x.data with
  | true, .list ds => if ds.length ≤ lim then (pairsD t [] ds).map (.m t) else none
  | _, _ => none
def mkPair (k v : O) : O := .d (.tuple [k.data, v.data])
def dctF (b : Bool) (o : O) : Option (List (D × D)) := (dictO (if b then o else .d o.data)).map (·.2)
def dputF (t : Bool) (kvs : List (D × D)) (kd v : D) : Option O :=
  match keyOf t kd with
  | some k => if kvs.length < lim then some (.m t (setD t kvs kd k v)) else none
  | none => none
section
variable (cl : Cl)
mutual
def evalG : Bool → E → Tau → R O
  | _, .lit x, τ => .ok (.d x) τ
  | b, .loc i, τ => match getO τ i with
    | some o => if b then .ok o τ else .ok (.d o.data) (τ.set i (some (.d o.data)))
    | none => .st
  | _, .io _, _ => .st
  | _, .con x, τ => match cl.con x with
    | some v => .ok (.d v) τ
    | none => .st
  | _, .tup es, τ => (evalOs false es τ).andThen fun os τ => .ok (.d (.tuple (O.datas os))) τ
  | _, .lst es, τ => (evalOs false es τ).andThen fun os τ => .ok (.l os) τ
  | _, .bin op a c, τ => (evalG c.pure a τ).andThen fun x τ => (evalG true c τ).andThen fun y τ => flatD x τ fun dx τ => flatD y τ fun dy τ => R.ofO (opF op dx dy) τ
  | _, .neg a, τ => (evalG true a τ).andThen fun x τ => match x with
    | .d (.int i) => .ok (.d (.int (-i))) τ
    | _ => .st
  | _, .not a, τ => (asB (evalG true a τ)).andThen fun c τ => .ok (.d (.bool (!c))) τ
  | b, .and es, τ => evalAnd b es τ
  | b, .or es, τ => evalOr b es τ
  | _, .cmp op a c, τ => (evalG c.pure a τ).andThen fun x τ => (evalG true c τ).andThen fun y τ => R.ofB (cmpF op x.data y.data) τ
  | _, .chain op op' a c e, τ => (evalG (c.pure && e.pure) a τ).andThen fun x τ => (evalG e.pure c τ).andThen fun y τ => match cmpF op x.data y.data with
    | some true => (evalG true e τ).andThen fun z τ => R.ofB (cmpF op' y.data z.data) τ
    | some false => .ok (.d (.bool false)) τ
    | none => .st
  | b, .ite c a e, τ => (asB (evalG true c τ)).andThen fun k τ => if k then evalG b a τ else evalG b e τ
  | b, .ix a i, τ => (evalG i.pure a τ).andThen fun x τ => (evalG true i τ).andThen fun k τ => match ixO x k.data with
    | some o => if b || o.isD then .ok o τ else .st
    | none => .st
  | _, .sl a lo hi, τ => (evalG (lo.pure && hi.pure) a τ).andThen fun x τ => (evalG true lo τ).andThen fun l τ => match part l.data with
    | some l => (evalG true hi τ).andThen fun h τ => match part h.data with
      | some h => flatD x τ fun dx τ => R.ofO (slF dx l h) τ
      | none => .st
    | none => .st
  | _, .rev a, τ => (evalG true a τ).andThen fun x τ => flatD x τ fun dx τ => R.ofO (revF dx) τ
  | _, .dnew t, τ => .ok (.m t []) τ
  | _, .dix a k, τ => (evalG k.pure a τ).andThen fun x τ => (evalG true k τ).andThen fun y τ => R.ofO (dixF x y.data) τ
  | _, .din neg k a, τ => (evalG a.pure k τ).andThen fun y τ => (evalG true a τ).andThen fun x τ => R.ofB (dinF neg y.data x) τ
  | _, .dget a k x, τ => (evalG (k.pure && x.pure) a τ).andThen fun o τ => if (dictO o).isSome = false then .st else (evalG x.pure k τ).andThen fun y τ => (evalG true x τ).andThen fun z τ => R.ofO (dgetF o y.data z) τ
  | _, .deq neg a c, τ => (evalG c.pure a τ).andThen fun x τ => (evalG true c τ).andThen fun y τ => R.ofB (deqF neg x y) τ
  | _, .dlen a, τ => (evalG true a τ).andThen fun x τ => R.ofO (dlenF x) τ
  | _, .dof t a, τ => (evalG true a τ).andThen fun x τ => R.ofO (dofF t x) τ
  | _, .dcomp t tg vs it cs k v, τ => (evalIt true it τ).andThen fun xs τ1 => if (it.isSeq || decide (xs.length ≤ lim)) = false then .st else
      (noEx (compL (fun x τ => tg.set x (wipeT τ vs)) (fun τ => (evalTests cs τ).andThen fun c τ => if c then (evalG false k τ).andThen fun y τ => (evalG false v τ).andThen fun z τ => .ok (some (mkPair y z)) τ else .ok none τ) xs (wipeT τ1 vs))).andThen fun os τ2 =>
        match pairsD t [] (O.datas os) with
        | some kvs => .ok (.m t kvs) (backT τ1 τ2 vs)
        | none => .st
  | _, .lrg a, τ => (evalG true a τ).andThen fun y τ => R.ofO (lrgF y.data) τ
  | _, .bi f es, τ => (evalOs es.pure es τ).andThen fun os τ => if os.all O.flat then R.ofO (biF f (O.datas os)) τ else .st
  | _, .isi a _ tys, τ => (evalG true a τ).andThen fun x τ => R.ofB (isAny x.data tys) τ
  | _, .call f r es, τ => restore r τ ((evalAs es τ).andThen fun os τ => if es.iop = cl.io f then ofCR τ es.ios (cl.call f os) else .st)
  | _, .mut m i es, τ => match getO τ i with
    | some (.l _) => (evalOs false es τ).andThen fun os τ => match getO τ i with
      | some (.l xs) => match mutF m xs os with
        | some (x, xs') => .ok (.d x) (τ.set i (some (.l xs')))
        | none => .st
      | _ => .st
    | _ => .st
  | _, .comp t vs it cs elt r, τ => restore r τ ((evalIt (cs.pure && elt.pure) it τ).andThen fun xs τ1 => if (it.isSeq || decide (xs.length ≤ lim)) = false then .st else
      (noEx (compL (fun x τ => t.set x (wipeT τ vs)) (fun τ => (evalTests cs τ).andThen fun c τ => if c then (evalG false elt τ).andThen fun y τ => .ok (some y) τ else .ok none τ) xs (wipeT τ1 vs))).andThen fun os τ2 =>
        .ok (.l os) (backT τ1 τ2 vs))
def evalAnd : Bool → Es → Tau → R O
  | _, .nil, _ => .st
  | b, .cons e es, τ => if es.isNil then evalG b e τ else (asB (evalG true e τ)).andThen fun k τ => if k then evalAnd b es τ else .ok (.d (.bool false)) τ
def evalOr : Bool → Es → Tau → R O
  | _, .nil, _ => .st
  | b, .cons e es, τ => if es.isNil then evalG b e τ else (asB (evalG true e τ)).andThen fun k τ => if k then .ok (.d (.bool true)) τ else evalOr b es τ
def evalOs : Bool → Es → Tau → R (List O)
  | _, .nil, τ => .ok [] τ
  | b, .cons e es, τ => (evalG b e τ).andThen fun o τ => (evalOs b es τ).andThen fun os τ => .ok (o :: os) τ
/-- a def's arguments: data; an object that is handed over -/
def evalAs : Es → Tau → R (List O)
  | .nil, τ => .ok [] τ
  | .cons e es, τ => match e.isIo with
    | some i => match getO τ i with
      | some _ => (evalAs es τ).andThen fun os τ => match getO τ i with
        | some o => .ok (o :: os) τ
        | none => .st
      | none => .st
    | none => (evalG false e τ).andThen fun o τ => (evalAs es τ).andThen fun os τ => .ok (.d o.data :: os) τ
def evalTests : Es → Tau → R Bool
  | .nil, τ => .ok true τ
  | .cons e es, τ => (asB (evalG true e τ)).andThen fun c τ => if c then evalTests es τ else .ok false τ
def evalIt : Bool → It → Tau → R (List D)
  | b, .seq e, τ => (evalG b e τ).andThen fun o τ => match itemsB b o with
    | some xs => .ok xs τ
    | none => .st
  | _, .rng es, τ => (evalOs es.pure es τ).andThen fun os τ => match rngF (O.datas os) with
    | some xs => .ok xs τ
    | none => .st
  | b, .zip es, τ => (evalOs (b && es.pure) es τ).andThen fun os τ => match zipF (b && es.pure) os with
    | some xs => .ok xs τ
    | none => .st
  | b, .enum es, τ => (evalOs (b && es.pure) es τ).andThen fun os τ => match enumF (b && es.pure) os with
    | some xs => .ok xs τ
    | none => .st
  | b, .dct a, τ => (evalG b a τ).andThen fun o τ => match dctF b o with
    | some kvs => .ok (kvs.map (·.1)) τ
    | none => .st
  | b, .dits a, τ => (evalG b a τ).andThen fun o τ => match dctF b o with
    | some kvs => .ok (kvs.map fun p => .tuple [p.1, p.2]) τ
    | none => .st
  | b, .dvals a, τ => (evalG b a τ).andThen fun o τ => match dctF b o with
    | some kvs => .ok (kvs.map (·.2)) τ
    | none => .st
end
end

inductive F where
  | nx (τ : Tau)
  | rt (o : O) (τ : Tau)
  | bk (τ : Tau)
  | ct (τ : Tau)
  | ex (x : Xn) (τ : Tau)
  | st
def R.toF {α : Type} : R α → (α → Tau → F) → F
  | .ok a τ, f => f a τ
  | .ex x τ, _ => .ex x τ
  | .st, _ => .st
@[simp] theorem R.toF_ok {α : Type} (a : α) (τ : Tau) (f : α → Tau → F) : (R.ok a τ).toF f = f a τ := rfl
@[simp] theorem R.toF_ex {α : Type} (x : Xn) (τ : Tau) (f : α → Tau → F) : (R.ex x τ : R α).toF f = .ex x τ := rfl
@[simp] theorem R.toF_st {α : Type} (f : α → Tau → F) : (R.st : R α).toF f = .st := rfl
def F.seq : F → (Tau → F) → F
  | .nx τ, f => f τ
  | x, _ => x
def nxO : Option Tau → F
  | some τ => .nx τ
  | none => .st
/-- a loop's turn is over -/
def F.turn : F → (Tau → F) → F
  | .nx τ, f => f τ
  | .ct τ, f => f τ
  | .bk τ, _ => .nx τ
  | x, _ => x
def forL (set : D → Tau → Option Tau) (f : Tau → F) : List D → Tau → F
  | [], τ => .nx τ
  | x :: xs, τ => match set x τ with
    | some τ1 => (f τ1).turn fun τ2 => forL set f xs τ2
    | none => .st
def whileL (c : Tau → R Bool) (f : Tau → F) : Nat → Tau → F
  | 0, _ => .st
  | n + 1, τ => (c τ).toF fun k τ1 => if k then (f τ1).turn fun τ2 => whileL c f n τ2 else .nx τ1
def wfuel : Nat := 1000000
/-- os[k] = y, in an owned list -/
def putO (os : List O) (k : D) (y : O) : Option (List O) :=
  match k with
  | .int k => (ixN os.length k).map fun j => os.set j y
  | _ => none
def subO (os : List O) (k : D) : Option (Nat × List O) :=
  match k with
  | .int k => match ixN os.length k with
    | some j => match os[j]? with
      | some (.l xs) => some (j, xs)
      | _ => none
    | none => none
  | _ => none
def setAll (τ : Tau) : List Nat → List O → Option Tau
  | [], [] => some τ
  | i :: is, o :: os => if i < τ.length then setAll (τ.set i (some o)) is os else none
  | _, _ => none

/-- one store into a dict -/
def dputS (cl : Cl) (i : Nat) (k : E) (d : D) (τ : Tau) (f : Tau → F) : F :=
  match getO τ i with
  | some (.m _ _) => (evalG cl false k τ).toF fun x τ => match getO τ i with
    | some (.m t kvs) => match dputF t kvs x.data d with
      | some o => f (τ.set i (some o))
      | none => .st
    | _ => .st
  | _ => .st
section
variable (cl : Cl)
mutual
def evalS : S → Tau → F
  | .expr e, τ => (evalG cl false e τ).toF fun _ τ => .nx τ
  | .asg (.nm i) e, τ => (evalG cl false e τ).toF fun o τ => if i < τ.length then .nx (τ.set i (some o)) else .st
  | .asg t e, τ => (evalG cl false e τ).toF fun o τ => nxO (t.set o.data τ)
  | .par is es, τ => (evalOs cl false es τ).toF fun os τ => nxO (setAll τ is os)
  | .aug i op e, τ => match getO τ i with
    | some (.d x) => (evalG cl true e τ).toF fun y τ => match augF op x y.data with
      | some z => .nx (τ.set i (some (.d z)))
      | none => .st
    | _ => .st
  | .put i k e, τ => (evalG cl false e τ).toF fun y τ => match getO τ i with
    | some (.l _) => (evalG cl true k τ).toF fun x τ => match getO τ i with
      | some (.l os) => match putO os x.data y with
        | some os' => .nx (τ.set i (some (.l os')))
        | none => .st
      | _ => .st
    | _ => .st
  | .put2 i k k' e, τ => (evalG cl false e τ).toF fun y τ => (evalG cl true k τ).toF fun x τ => (evalG cl true k' τ).toF fun x' τ => match getO τ i with
    | some (.l os) => match subO os x.data with
      | some (j, xs) => match putO xs x'.data y with
        | some xs' => .nx (τ.set i (some (.l (os.set j (.l xs')))))
        | none => .st
      | none => .st
    | _ => .st
  | .dput i k e, τ => (evalG cl false e τ).toF fun y τ => match getO τ i with
    | some (.m _ _) => (evalG cl false k τ).toF fun x τ => match getO τ i with
      | some (.m t kvs) => match dputF t kvs x.data y.data with
        | some o => .nx (τ.set i (some o))
        | none => .st
      | _ => .st
    | _ => .st
  | .daug i op k e, τ => match getO τ i with
    | some (.m _ _) => (evalG cl false k τ).toF fun x τ => match getO τ i with
      | some (.m t kvs) => match keyOf t x.data with
        | some kk => match valD t kvs kk with
          | some v => (evalG cl true e τ).toF fun y τ => match augF op v y.data with
            | some z => match getO τ i with
              | some (.m t kvs) => match dputF t kvs x.data z with
                | some o => .nx (τ.set i (some o))
                | none => .st
              | _ => .st
            | none => .st
          | none => .st
        | none => .st
      | _ => .st
    | _ => .st
  | .dput2 i k j k' e, τ => (evalG cl false e τ).toF fun y τ => match y.data with
    | .tuple [d1, d2] => dputS cl i k d1 τ fun τ => dputS cl j k' d2 τ .nx
    | _ => .st
  | .ifs c a b, τ => (asB (evalG cl true c τ)).toF fun k τ => if k then evalSs a τ else evalSs b τ
  | .fors t it body, τ => (evalIt cl false it τ).toF fun xs τ => forL t.set (fun τ => evalSs body τ) xs τ
  | .whiles c body, τ => whileL (fun τ => asB (evalG cl true c τ)) (fun τ => evalSs body τ) wfuel τ
  | .ret (.loc i), τ => match getO τ i with
    | some o => .rt o (τ.set i none)
    | none => .st
  | .ret e, τ => (evalG cl false e τ).toF fun o τ => .rt o τ
  | .retN, τ => .rt (.d .none) τ
  | .raise x es, τ => (evalOs cl false es τ).toF fun os τ => .ex ⟨x, O.datas os⟩ τ
  | .pass, τ => .nx τ
  | .never, _ => .st
  | .brk, τ => .bk τ
  | .cont, τ => .ct τ
def evalSs : List S → Tau → F
  | [], τ => .nx τ
  | s :: ss, τ => (evalS s τ).seq fun τ => evalSs ss τ
end
end
def outsOf (io : List Nat) (τ : Tau) (f : List O → CR) : CR :=
  match getOs τ io with
  | some os => f os
  | none => .st
def runDef (cl : Cl) (d : Def) (args : List O) : CR :=
  if args.length = d.np then
    match evalSs cl d.body (args.map some ++ List.replicate (d.n - d.np) none) with
    | .rt o τ => outsOf d.io τ fun os => .ok o os
    | .nx τ => outsOf d.io τ fun os => .ok (.d .none) os
    | .ex x τ => outsOf d.io τ fun os => .ex x os
    | _ => .st
  else .st
def Prog.io (P : Prog) (f : Str) : List Nat :=
  match P.fn f with
  | some d => d.io
  | none => []
def evalCall (P : Prog) : Nat → Str → List O → CR
  | 0, _, _ => .st
  | n + 1, f, args => match P.fn f with
    | some d => runDef ⟨evalCall P n, P.io, P.con⟩ d args
    | none => .st
end Mir
set_option Elab.async false
set_option linter.all false
set_option maxRecDepth 100000
set_option maxHeartbeats 4000000
/-! Mir, part B: how data lie in the abstract heap. -/
namespace Mir
open PySem L2 PyProof.Rows

/-- a def of the text, as data -/
def fnD (f : Str) : D := .dict [(.list [], .str f)]
/-- the script -/
def scrD (ns : List Int) : D := .dict [(.list [], .list (ns.map .int))]

/-! ### dicts: the object itself is known -/
mutual
def pureK : NestedKey → Bool
  | .num _ => true
  | .tup ks => pureKs ks
  | _ => false
def pureKs : List NestedKey → Bool
  | [] => true
  | k :: ks => pureK k && pureKs ks
end
mutual
def hashK : NestedKey → Int
  | .num i => hashInt i
  | .tup ks => reduceHash (Builtin.Tuple.tupleHashOf (hashKs ks))
  | _ => 0
def hashKs : List NestedKey → List Int
  | [] => []
  | k :: ks => hashK k :: hashKs ks
end
mutual
theorem hash_pure (w : World) : ∀ k : NestedKey, pureK k = true → k.hash w = hashK k
  | .num i, _ => by rw [NestedKey.hash, hashK]
  | .tup ks, h => by rw [NestedKey.hash, hashK, hashes_pure w ks (by simpa [pureK] using h)]
  | .none, h => by simp [pureK] at h
  | .text _, h => by simp [pureK] at h
theorem hashes_pure (w : World) : ∀ ks : List NestedKey, pureKs ks = true → NestedKey.hashes w ks = hashKs ks
  | [], _ => by rw [NestedKey.hashes, hashKs]
  | k :: ks, h => by
    have h' : pureK k = true ∧ pureKs ks = true := by simpa [pureKs] using h
    rw [NestedKey.hashes, hashKs, hash_pure w k h'.1, hashes_pure w ks h'.2]
end
def dOb (a : Addr) (od : Obj) : HO := .ext fun h => h.get? a = some od
/-- what stands in a dict's object: key, the key's value, the value -/
structure DIs (t : Bool) (od : Obj) (ps : List (NestedKey × V × V)) : Prop where
  ex : od.ExactDict
  es : ∃ (es : Array DictEntry) (ep : Nat), od.data = .dict es ep ∧ Paired (fun (p : NestedKey × V × V) (e : DictEntry) => e.hash = hashK p.1 ∧ RelV p.2.1 e.key ∧ RelV p.2.2 e.val) ps es.toList
  nd : (ps.map (·.1)).Nodup
  kd : ∀ p ∈ ps, isTupK p.1 = t ∧ pureK p.1 = true ∧ p.1.depth ≤ 8
  ky : t = false → ∀ p ∈ ps, ∃ i, p.1 = .num i ∧ p.2.1 = .int i
  sz : ps.length ≤ sizeLine
section
variable (K : PySem.W.Frag) (mg : Str → Option Value)
mutual
inductive Rep (H : Hp) : V → D → Prop
  | non : Rep H .non .none
  | bl (b : Bool) : Rep H (.bl b) (.bool b)
  | int (i : Int) : Rep H (.int i) (.int i)
  | str (x : Str) : Rep H (.str x) (.str x)
  | lst {a : Addr} {xs : List V} {ds : List D} : H a = some (.lst xs) → Reps H xs ds → Rep H (.ref a) (.list ds)
  | tup {a : Addr} {xs : List V} {ds : List D} : SqT K H a xs → Reps H xs ds → Rep H (.ref a) (.tuple ds)
  | fn {f : Str} {a : Addr} : mg f = some (.ref a) → Rep H (.ref a) (.dict [(.list [], .str f)])
  | scr {a : Addr} {ns : List Int} {ds : List D} : SqL K H a (ns.map V.int) → ds = ns.map PyData.int → Rep H (.ref a) (.dict [(.list [], .list ds)])
  | dct {a : Addr} {od : Obj} {t : Bool} {ps : List (NestedKey × V × V)} {kvs ds : List (D × D)} : H a = some (dOb a od) → (a == sysModules) = false → DIs t od ps → ds = dictL t kvs → kvs.map (fun p => keyOf t p.1) = ps.map (fun p => some p.1) →
      Reps H (ps.map (·.2.1)) (kvs.map (·.1)) → Reps H (ps.map (·.2.2)) (kvs.map (·.2)) → Rep H (.ref a) (.dict ds)
inductive Reps (H : Hp) : List V → List D → Prop
  | nil : Reps H [] []
  | cons {v : V} {vs : List V} {d : D} {ds : List D} : Rep H v d → Reps H vs ds → Reps H (v :: vs) (d :: ds)
end
end
section
variable {K : PySem.W.Frag} {mg : Str → Option Value} {H H' : Hp}
theorem Same.seqL {a : Addr} {xs : List V} (e : Same H H') (h : SqL K H a xs) : SqL K H' a xs := e.seq h
theorem Same.seqT {a : Addr} {xs : List V} (e : Same H H') (h : SqT K H a xs) : SqT K H' a xs := by
  rcases h with (h | ⟨o, h⟩) | h
  · exact .inl (.inl (e _ _ h))
  · exact .inl (.inr ⟨o, e _ _ h⟩)
  · exact .inr h
mutual
theorem Rep.mono' (e : Same H H') : ∀ {v : V} {d : D}, Rep K mg H v d → Rep K mg H' v d
  | _, _, .non => .non
  | _, _, .bl b => .bl b
  | _, _, .int i => .int i
  | _, _, .str x => .str x
  | _, _, .lst hs ha => .lst (e _ _ hs) (Reps.mono' e ha)
  | _, _, .tup hs ha => .tup (Same.seqT e hs) (Reps.mono' e ha)
  | _, _, .fn hf => .fn hf
  | _, _, .scr hs e1 => .scr (e.seq hs) e1
  | _, _, .dct h1 h2 h3 h4 h5 h6 h7 => .dct (e _ _ h1) h2 h3 h4 h5 (Reps.mono' e h6) (Reps.mono' e h7)
theorem Reps.mono' (e : Same H H') : ∀ {vs : List V} {ds : List D}, Reps K mg H vs ds → Reps K mg H' vs ds
  | _, _, .nil => .nil
  | _, _, .cons h t => .cons (Rep.mono' e h) (Reps.mono' e t)
end
theorem Rep.mono (e : Same H H') (d : D) (v : V) (h : Rep K mg H v d) : Rep K mg H' v d := Rep.mono' e h
theorem Reps.mono (e : Same H H') (ds : List D) (vs : List V) (h : Reps K mg H vs ds) : Reps K mg H' vs ds := Reps.mono' e h
theorem Reps.length : ∀ {vs : List V} {ds : List D}, Reps K mg H vs ds → vs.length = ds.length
  | _, _, .nil => rfl
  | _, _, .cons _ t => congrArg (· + 1) (Reps.length t)
theorem Reps.get : ∀ {vs : List V} {ds : List D} {i : Nat} {d : D}, Reps K mg H vs ds → ds[i]? = some d → ∃ v, vs[i]? = some v ∧ Rep K mg H v d
  | _, _, _, _, .nil, e => by simp at e
  | _, _, 0, d, .cons h _, e => by
    simp only [List.getElem?_cons_zero, Option.some.injEq] at e
    subst e; exact ⟨_, rfl, h⟩
  | _, _, i + 1, d, .cons _ t, e => by
    obtain ⟨v, h1, h2⟩ := Reps.get (i := i) (d := d) t (by simpa using e)
    exact ⟨v, by simpa using h1, h2⟩
theorem Reps.get' : ∀ {vs : List V} {ds : List D} {i : Nat} {v : V}, Reps K mg H vs ds → vs[i]? = some v → ∃ d, ds[i]? = some d ∧ Rep K mg H v d
  | _, _, _, _, .nil, e => by simp at e
  | _, _, 0, v, .cons h _, e => by
    simp only [List.getElem?_cons_zero, Option.some.injEq] at e
    subst e; exact ⟨_, rfl, h⟩
  | _, _, i + 1, v, .cons _ t, e => by
    obtain ⟨d, h1, h2⟩ := Reps.get' (i := i) (v := v) t (by simpa using e)
    exact ⟨d, by simpa using h1, h2⟩
theorem Reps.append : ∀ {vs ws : List V} {ds es : List D}, Reps K mg H vs ds → Reps K mg H ws es → Reps K mg H (vs ++ ws) (ds ++ es)
  | _, _, _, _, .nil, s => s
  | _, _, _, _, .cons r t, s => .cons r (Reps.append t s)
theorem Reps.take : ∀ {vs : List V} {ds : List D} (n : Nat), Reps K mg H vs ds → Reps K mg H (vs.take n) (ds.take n)
  | _, _, 0, _ => .nil
  | _, _, _ + 1, .nil => .nil
  | _, _, n + 1, .cons r t => .cons r (Reps.take n t)
theorem Reps.drop : ∀ {vs : List V} {ds : List D} (n : Nat), Reps K mg H vs ds → Reps K mg H (vs.drop n) (ds.drop n)
  | _, _, 0, r => r
  | _, _, _ + 1, .nil => .nil
  | _, _, n + 1, .cons _ t => Reps.drop n t
theorem Reps.reverse : ∀ {vs : List V} {ds : List D}, Reps K mg H vs ds → Reps K mg H vs.reverse ds.reverse
  | _, _, .nil => .nil
  | _, _, .cons r t => by
    rw [List.reverse_cons, List.reverse_cons]
    exact (Reps.reverse t).append (.cons r .nil)
theorem Reps.replicate {vs : List V} {ds : List D} (h : Reps K mg H vs ds) : ∀ n : Nat, Reps K mg H (List.replicate n vs).flatten (List.replicate n ds).flatten
  | 0 => .nil
  | n + 1 => by
    rw [List.replicate_succ, List.replicate_succ, List.flatten_cons, List.flatten_cons]
    exact h.append (Reps.replicate h n)
theorem Reps.ints : ∀ {vs : List V} {ds : List D} {ns : List Int}, Reps K mg H vs ds → ints? ds = some ns → vs = ns.map V.int
  | _, _, _, .nil, e => by cases e; rfl
  | _, _, _, .cons (d := d) (ds := ds) h t, e => by
    cases h with
    | int i =>
      cases q : ints? ds with
      | none => rw [ints?, q] at e; cases e
      | some ms => rw [ints?, q] at e; cases e; rw [Reps.ints t q]; rfl
    | _ => simp [ints?] at e
theorem Reps.bools : ∀ {vs : List V} {ds : List D} {ns : List Bool}, Reps K mg H vs ds → bools? ds = some ns → vs = ns.map V.bl
  | _, _, _, .nil, e => by cases e; rfl
  | _, _, _, .cons (d := d) (ds := ds) h t, e => by
    cases h with
    | bl i =>
      cases q : bools? ds with
      | none => rw [bools?, q] at e; cases e
      | some ms => rw [bools?, q] at e; cases e; rw [Reps.bools t q]; rfl
    | _ => simp [bools?] at e
theorem Reps.of_ints : ∀ ns : List Int, Reps K mg H (ns.map V.int) (ns.map PyData.int)
  | [] => .nil
  | n :: ns => .cons (.int n) (Reps.of_ints ns)

/-- data without lists hang on the tuples alone -/
def Imm (H H' : Hp) : Prop := (∀ b xs, H b = some (.tup xs) → H' b = some (.tup xs)) ∧ ∀ b o u, H b = some (.frz o u) → H' b = some (.frz o u)
mutual
theorem Rep.imm (e : Imm H H') : ∀ (d : D) (v : V), noMut d = true → Rep K mg H v d → Rep K mg H' v d
  | .none, _, _, h => by cases h; exact .non
  | .bool b, _, _, h => by cases h; exact .bl b
  | .int i, _, _, h => by cases h; exact .int i
  | .str x, _, _, h => by cases h; exact .str x
  | .list ds, _, n, h => by simp [noMut] at n
  | .tuple ds, _, n, h => by
    cases h with
    | tup hs ha =>
      refine .tup ?_ (Reps.imm e ds _ (by simpa [noMut] using n) ha)
      rcases hs with (h | ⟨o, h⟩) | h
      · exact .inl (.inl (e.1 _ _ h))
      · exact .inl (.inr ⟨o, e.2 _ _ _ h⟩)
      · exact .inr h
  | .dict kvs, _, n, h => by simp [noMut] at n
theorem Reps.imm (e : Imm H H') : ∀ (ds : List D) (vs : List V), noMutAll ds = true → Reps K mg H vs ds → Reps K mg H' vs ds
  | [], _, _, h => by cases h; exact .nil
  | d :: ds, _, n, h => by
    have n' : noMut d = true ∧ noMutAll ds = true := by simpa [noMutAll] using n
    cases h with
    | cons h1 h2 => exact .cons (Rep.imm e d _ n'.1 h1) (Reps.imm e ds _ n'.2 h2)
end
end
section
variable {X : Cx} {pins : List (Addr × Obj)} {σ : L2.St} {H : Hp} {s : Shared}
mutual
theorem Rep.reads (I : Inv X pins σ H s) : ∀ (d : D) (v : V) (u : Value), PyData.plain d = true → Rep X.K X.mg H v d → RelV v u → ∃ as, Reads s.heap u d as
  | .none, _, _, _, h, r => by
    cases h
    cases r
    exact ⟨_, Reads.none⟩
  | .bool b, _, _, _, h, r => by
    cases h
    cases r
    exact ⟨_, Reads.bool b⟩
  | .int i, _, _, _, h, r => by
    cases h
    obtain ⟨t, rfl⟩ := r
    exact ⟨_, Reads.int i t⟩
  | .str x, _, _, _, h, r => by
    cases h
    obtain ⟨t, rfl⟩ := r
    exact ⟨_, Reads.str x t⟩
  | .list ds, _, _, p, h, r => by
    cases h with
    | lst hs ha =>
      cases r
      obtain ⟨its, rv, ⟨o, n, ho, hc, _, hd⟩, _⟩ := I.list (SqL.of (K := X.K) hs)
      obtain ⟨as, hr⟩ := Reps.reads I ds _ its (by simpa [PyData.plain] using p) ha rv
      exact ⟨_, Reads.list ho hc hd hr⟩
  | .tuple ds, _, _, p, h, r => by
    cases h with
    | tup hs ha =>
      cases r
      obtain ⟨its, rv, ⟨o, ho, hc, n, hd⟩, _⟩ := I.tuple hs
      obtain ⟨as, hr⟩ := Reps.reads I ds _ its (by simpa [PyData.plain] using p) ha rv
      exact ⟨_, Reads.tuple ho hc hd hr⟩
  | .dict _, _, _, p, _, _ => by simp [PyData.plain] at p
theorem Reps.reads (I : Inv X pins σ H s) : ∀ (ds : List D) (vs : List V) (us : List Value), PyData.plainAll ds = true → Reps X.K X.mg H vs ds → Vals vs us → ∃ as, ReadsAll s.heap us ds as
  | [], _, _, _, h, r => by
    cases h
    cases r
    exact ⟨_, ReadsAll.nil⟩
  | d :: ds, _, _, p, h, r => by
    have p' : PyData.plain d = true ∧ PyData.plainAll ds = true := by simpa [PyData.plainAll] using p
    cases h with
    | cons h1 h2 =>
      cases r with
      | cons r1 r2 =>
        obtain ⟨as, q1⟩ := Rep.reads I d _ _ p'.1 h1 r1
        obtain ⟨bs, q2⟩ := Reps.reads I ds _ _ p'.2 h2 r2
        exact ⟨_, ReadsAll.cons q1 q2⟩
end
end

/-! ### what a name holds -/
section
variable (K : PySem.W.Frag) (mg : Str → Option Value)
mutual
/-- as: the addresses of the owned lists -/
def ROwn (Hf H : Hp) : O → V → List Addr → Prop
  | .d x, v, as => as = [] ∧ Rep K mg Hf v x
  | .l os, v, as => ∃ a vs bs, v = .ref a ∧ as = a :: bs ∧ Hf a = none ∧ H a = some (.lst vs) ∧ ROwns Hf H os vs bs
  | .m t kvs, v, as => ∃ a od ps, v = .ref a ∧ as = [a] ∧ Hf a = none ∧ H a = some (dOb a od) ∧ (a == sysModules) = false ∧ DIs t od ps ∧ kvs.map (fun p => keyOf t p.1) = ps.map (fun p => some p.1) ∧ Reps K mg Hf (ps.map (·.2.1)) (kvs.map (·.1)) ∧ Reps K mg Hf (ps.map (·.2.2)) (kvs.map (·.2))
def ROwns (Hf H : Hp) : List O → List V → List Addr → Prop
  | [], vs, as => vs = [] ∧ as = []
  | o :: os, vs, as => ∃ v vr a1 a2, vs = v :: vr ∧ as = a1 ++ a2 ∧ ROwn Hf H o v a1 ∧ ROwns Hf H os vr a2
end
mutual
/-- what a value is seen to be -/
def RVw (Hf H : Hp) : O → V → Prop
  | .d x, v => Rep K mg Hf v x
  | .l os, v => ∃ a vs, v = .ref a ∧ H a = some (.lst vs) ∧ RVws Hf H os vs
  | .m t kvs, v => ∃ a od ps, v = .ref a ∧ H a = some (dOb a od) ∧ (a == sysModules) = false ∧ DIs t od ps ∧ kvs.map (fun p => keyOf t p.1) = ps.map (fun p => some p.1) ∧ Reps K mg Hf (ps.map (·.2.1)) (kvs.map (·.1)) ∧ Reps K mg Hf (ps.map (·.2.2)) (kvs.map (·.2))
def RVws (Hf H : Hp) : List O → List V → Prop
  | [], vs => vs = []
  | o :: os, vs => ∃ v vr, vs = v :: vr ∧ RVw Hf H o v ∧ RVws Hf H os vr
end
end
section
variable {K : PySem.W.Frag} {mg : Str → Option Value} {Hf H Hf' H' : Hp}
mutual
theorem ROwn.vw : ∀ (o : O) (v : V) (as : List Addr), ROwn K mg Hf H o v as → RVw K mg Hf H o v
  | .d x, v, as, h => by
    rw [ROwn] at h; rw [RVw]; exact h.2
  | .l os, v, as, h => by
    rw [ROwn] at h; rw [RVw]
    obtain ⟨a, vs, bs, e, _, _, h1, h2⟩ := h
    exact ⟨a, vs, e, h1, ROwns.vw os vs bs h2⟩
  | .m t kvs, _, _, h => by
    rw [ROwn] at h; rw [RVw]
    obtain ⟨a, od, ps, e, _, _, h⟩ := h
    exact ⟨a, od, ps, e, h⟩
theorem ROwns.vw : ∀ (os : List O) (vs : List V) (as : List Addr), ROwns K mg Hf H os vs as → RVws K mg Hf H os vs
  | [], _, _, h => by
    rw [ROwns] at h; rw [RVws]; exact h.1
  | o :: os, _, _, h => by
    rw [ROwns] at h; rw [RVws]
    obtain ⟨v, vr, a1, a2, e, _, h1, h2⟩ := h
    exact ⟨v, vr, e, ROwn.vw o v a1 h1, ROwns.vw os vr a2 h2⟩
end
mutual
/-- the frozen part grows, the owned lists stay -/
theorem ROwn.keep (e : Same Hf Hf') : ∀ (o : O) (v : V) (as : List Addr), (∀ b ∈ as, ∀ u, H b = some u → H' b = some u ∧ Hf' b = none) → ROwn K mg Hf H o v as → ROwn K mg Hf' H' o v as
  | .d x, v, as, _, h => by
    rw [ROwn] at h ⊢; exact ⟨h.1, h.2.mono e⟩
  | .l os, v, as, k, h => by
    rw [ROwn] at h ⊢
    obtain ⟨a, vs, bs, e1, e2, _, h1, h2⟩ := h
    subst e2
    exact ⟨a, vs, bs, e1, rfl, (k a List.mem_cons_self _ h1).2, (k a List.mem_cons_self _ h1).1, ROwns.keep e os vs bs (fun b hb => k b (List.mem_cons_of_mem _ hb)) h2⟩
  | .m t kvs, _, _, k, h => by
    rw [ROwn] at h ⊢
    obtain ⟨a, od, ps, e1, e2, h0, h1, h2, h3, h4, h5, h6⟩ := h
    subst e2
    exact ⟨a, od, ps, e1, rfl, (k a List.mem_cons_self _ h1).2, (k a List.mem_cons_self _ h1).1, h2, h3, h4, h5.mono e, h6.mono e⟩
theorem ROwns.keep (e : Same Hf Hf') : ∀ (os : List O) (vs : List V) (as : List Addr), (∀ b ∈ as, ∀ u, H b = some u → H' b = some u ∧ Hf' b = none) → ROwns K mg Hf H os vs as → ROwns K mg Hf' H' os vs as
  | [], _, _, _, h => by
    rw [ROwns] at h ⊢; exact h
  | o :: os, _, _, k, h => by
    rw [ROwns] at h ⊢
    obtain ⟨v, vr, a1, a2, e1, e2, h1, h2⟩ := h
    subst e2
    exact ⟨v, vr, a1, a2, e1, rfl, ROwn.keep e o v a1 (fun b hb => k b (List.mem_append_left _ hb)) h1, ROwns.keep e os vr a2 (fun b hb => k b (List.mem_append_right _ hb)) h2⟩
end
mutual
theorem RVw.mono (e : Same Hf Hf') (k : Same H H') : ∀ (o : O) (v : V), RVw K mg Hf H o v → RVw K mg Hf' H' o v
  | .d x, v, h => by
    rw [RVw] at h ⊢; exact h.mono e
  | .l os, v, h => by
    rw [RVw] at h ⊢
    obtain ⟨a, vs, e1, h1, h2⟩ := h
    exact ⟨a, vs, e1, k _ _ h1, RVws.mono e k os vs h2⟩
  | .m t kvs, _, h => by
    rw [RVw] at h ⊢
    obtain ⟨a, od, ps, e1, h1, h2, h3, h4, h5, h6⟩ := h
    exact ⟨a, od, ps, e1, k _ _ h1, h2, h3, h4, h5.mono e, h6.mono e⟩
theorem RVws.mono (e : Same Hf Hf') (k : Same H H') : ∀ (os : List O) (vs : List V), RVws K mg Hf H os vs → RVws K mg Hf' H' os vs
  | [], _, h => by
    rw [RVws] at h ⊢; exact h
  | o :: os, _, h => by
    rw [RVws] at h ⊢
    obtain ⟨v, vr, e1, h1, h2⟩ := h
    exact ⟨v, vr, e1, RVw.mono e k o v h1, RVws.mono e k os vr h2⟩
end
mutual
/-- a view is the data, read off the whole heap -/
theorem RVw.rep (e : Same Hf H) : ∀ (o : O) (v : V), RVw K mg Hf H o v → Rep K mg H v o.data
  | .d x, v, h => by
    rw [RVw] at h; rw [O.data]; exact h.mono e
  | .l os, v, h => by
    rw [RVw] at h; rw [O.data]
    obtain ⟨a, vs, e1, h1, h2⟩ := h
    subst e1
    exact .lst h1 (RVws.rep e os vs h2)
  | .m t kvs, _, h => by
    rw [RVw] at h; rw [O.data]
    obtain ⟨a, od, ps, e1, h1, h2, h3, h4, h5, h6⟩ := h
    subst e1
    exact .dct h1 h2 h3 rfl h4 (h5.mono e) (h6.mono e)
theorem RVws.rep (e : Same Hf H) : ∀ (os : List O) (vs : List V), RVws K mg Hf H os vs → Reps K mg H vs (O.datas os)
  | [], _, h => by
    rw [RVws] at h; rw [O.datas]; subst h; exact .nil
  | o :: os, _, h => by
    rw [RVws] at h; rw [O.datas]
    obtain ⟨v, vr, e1, h1, h2⟩ := h
    subst e1
    exact .cons (RVw.rep e o v h1) (RVws.rep e os vr h2)
end
end

section
variable {K : PySem.W.Frag} {mg : Str → Option Value} {Hf H Hf' H' Hz : Hp}
mutual
/-- frozen from now on -/
theorem ROwn.rep (e : Same Hf Hz) : ∀ (o : O) (v : V) (as : List Addr), (∀ b ∈ as, ∀ u, H b = some u → Hz b = some u) → ROwn K mg Hf H o v as → Rep K mg Hz v o.data
  | .d x, v, as, _, h => by
    rw [ROwn] at h; rw [O.data]; exact h.2.mono e
  | .l os, v, as, k, h => by
    rw [ROwn] at h; rw [O.data]
    obtain ⟨a, vs, bs, e1, e2, _, h1, h2⟩ := h
    subst e1 e2
    exact .lst (k a List.mem_cons_self _ h1) (ROwns.rep e os vs bs (fun b hb => k b (List.mem_cons_of_mem _ hb)) h2)
  | .m t kvs, _, _, k, h => by
    rw [ROwn] at h; rw [O.data]
    obtain ⟨a, od, ps, e1, e2, h0, h1, h2, h3, h4, h5, h6⟩ := h
    subst e1 e2
    exact .dct (k a List.mem_cons_self _ h1) h2 h3 rfl h4 (h5.mono e) (h6.mono e)
theorem ROwns.rep (e : Same Hf Hz) : ∀ (os : List O) (vs : List V) (as : List Addr), (∀ b ∈ as, ∀ u, H b = some u → Hz b = some u) → ROwns K mg Hf H os vs as → Reps K mg Hz vs (O.datas os)
  | [], _, _, _, h => by
    rw [ROwns] at h; rw [O.datas, h.1]; exact .nil
  | o :: os, _, _, k, h => by
    rw [ROwns] at h; rw [O.datas]
    obtain ⟨v, vr, a1, a2, e1, e2, h1, h2⟩ := h
    subst e1 e2
    exact .cons (ROwn.rep e o v a1 (fun b hb => k b (List.mem_append_left _ hb)) h1) (ROwns.rep e os vr a2 (fun b hb => k b (List.mem_append_right _ hb)) h2)
end
mutual
/-- an owned address holds a list or a dict, not frozen -/
theorem ROwn.at : ∀ (o : O) (v : V) (as : List Addr), ROwn K mg Hf H o v as → ∀ b ∈ as, Hf b = none ∧ ∃ u, H b = some u
  | .d x, v, as, h, b, hb => by
    rw [ROwn] at h; rw [h.1] at hb; cases hb
  | .l os, v, as, h, b, hb => by
    rw [ROwn] at h
    obtain ⟨a, vs, bs, e1, e2, h0, h1, h2⟩ := h
    subst e2
    rcases List.mem_cons.mp hb with e | hb
    · subst e; exact ⟨h0, _, h1⟩
    · exact ROwns.at os vs bs h2 b hb
  | .m t kvs, _, _, h, b, hb => by
    rw [ROwn] at h
    obtain ⟨a, od, ps, e1, e2, h0, h1, _⟩ := h
    subst e2
    rw [List.mem_singleton.mp hb]
    exact ⟨h0, _, h1⟩
theorem ROwns.at : ∀ (os : List O) (vs : List V) (as : List Addr), ROwns K mg Hf H os vs as → ∀ b ∈ as, Hf b = none ∧ ∃ u, H b = some u
  | [], _, _, h, b, hb => by
    rw [ROwns] at h; rw [h.2] at hb; cases hb
  | o :: os, _, _, h, b, hb => by
    rw [ROwns] at h
    obtain ⟨v, vr, a1, a2, e1, e2, h1, h2⟩ := h
    subst e2
    rcases List.mem_append.mp hb with hb | hb
    · exact ROwn.at o v a1 h1 b hb
    · exact ROwns.at os vr a2 h2 b hb
end
/-- of what kind an owned object is -/
def OwnO (u : HO) : Prop := (∃ vs, u = .lst vs) ∨ ∃ a od, u = dOb a od
theorem OwnO.ntup {u : HO} (h : OwnO u) (xs : List V) : u ≠ .tup xs := fun e => by
  rcases h with ⟨vs, h⟩ | ⟨a, od, h⟩
  · rw [e] at h; cases h
  · rw [e] at h; cases h
theorem OwnO.nfrz {u : HO} (h : OwnO u) (o : Obj) (x : HO) : u ≠ .frz o x := fun e => by
  rcases h with ⟨vs, h⟩ | ⟨a, od, h⟩
  · rw [e] at h; cases h
  · rw [e] at h; cases h
mutual
theorem ROwn.atO : ∀ (o : O) (v : V) (as : List Addr), ROwn K mg Hf H o v as → ∀ b ∈ as, ∃ u, H b = some u ∧ OwnO u
  | .d x, v, as, h, b, hb => by
    rw [ROwn] at h; rw [h.1] at hb; cases hb
  | .l os, v, as, h, b, hb => by
    rw [ROwn] at h
    obtain ⟨a, vs, bs, e1, e2, h0, h1, h2⟩ := h
    subst e2
    rcases List.mem_cons.mp hb with e | hb
    · subst e; exact ⟨_, h1, .inl ⟨_, rfl⟩⟩
    · exact ROwns.atO os vs bs h2 b hb
  | .m t kvs, _, _, h, b, hb => by
    rw [ROwn] at h
    obtain ⟨a, od, ps, e1, e2, h0, h1, _⟩ := h
    subst e2
    rw [List.mem_singleton.mp hb]
    exact ⟨_, h1, .inr ⟨_, _, rfl⟩⟩
theorem ROwns.atO : ∀ (os : List O) (vs : List V) (as : List Addr), ROwns K mg Hf H os vs as → ∀ b ∈ as, ∃ u, H b = some u ∧ OwnO u
  | [], _, _, h, b, hb => by
    rw [ROwns] at h; rw [h.2] at hb; cases hb
  | o :: os, _, _, h, b, hb => by
    rw [ROwns] at h
    obtain ⟨v, vr, a1, a2, e1, e2, h1, h2⟩ := h
    subst e2
    rcases List.mem_append.mp hb with hb | hb
    · exact ROwn.atO o v a1 h1 b hb
    · exact ROwns.atO os vr a2 h2 b hb
end
theorem ROwns.length : ∀ {os : List O} {vs : List V} {as : List Addr}, ROwns K mg Hf H os vs as → vs.length = os.length
  | [], _, _, h => by rw [ROwns] at h; rw [h.1]; rfl
  | o :: os, _, _, h => by
    rw [ROwns] at h
    obtain ⟨v, vr, a1, a2, e1, e2, h1, h2⟩ := h
    rw [e1, List.length_cons, List.length_cons, ROwns.length h2]
theorem ROwns.append : ∀ {os ps : List O} {vs ws : List V} {as bs : List Addr}, ROwns K mg Hf H os vs as → ROwns K mg Hf H ps ws bs → ROwns K mg Hf H (os ++ ps) (vs ++ ws) (as ++ bs)
  | [], _, _, _, _, _, h, g => by
    rw [ROwns] at h; rw [h.1, h.2]; exact g
  | o :: os, ps, _, _, _, _, h, g => by
    rw [ROwns] at h
    obtain ⟨v, vr, a1, a2, e1, e2, h1, h2⟩ := h
    rw [List.cons_append, ROwns]
    exact ⟨v, vr ++ _, a1, a2 ++ _, by rw [e1]; rfl, by rw [e2, List.append_assoc], h1, ROwns.append h2 g⟩
/-- a list of data, frozen parts all -/
theorem ROwns.of_reps : ∀ {ds : List D} {vs : List V}, Reps K mg Hf vs ds → ROwns K mg Hf H (ds.map O.d) vs []
  | _, _, .nil => by rw [List.map_nil, ROwns]; exact ⟨rfl, rfl⟩
  | _, _, .cons r t => by
    rw [List.map_cons, ROwns]
    exact ⟨_, _, [], [], rfl, rfl, by rw [ROwn]; exact ⟨rfl, r⟩, ROwns.of_reps t⟩
theorem datas_map : ∀ ds : List D, O.datas (ds.map O.d) = ds
  | [] => by rw [List.map_nil, O.datas]
  | d :: ds => by rw [List.map_cons, O.datas, O.data, datas_map ds]
theorem datas_length : ∀ os : List O, (O.datas os).length = os.length
  | [] => by rw [O.datas] <;> rfl
  | o :: os => by rw [O.datas, List.length_cons, List.length_cons, datas_length os]
theorem RVws.flat : ∀ {os : List O} {vs : List V}, os.all O.isD = true → RVws K mg Hf H os vs → Reps K mg Hf vs (O.datas os)
  | [], _, _, h => by rw [RVws] at h; rw [O.datas, h]; exact .nil
  | o :: os, _, f, h => by
    rw [RVws] at h
    obtain ⟨v, vr, e1, h1, h2⟩ := h
    rw [List.all_cons, Bool.and_eq_true] at f
    subst e1
    rw [O.datas]
    cases o with
    | d x =>
      rw [RVw] at h1
      rw [O.data]
      exact .cons h1 (RVws.flat f.2 h2)
    | l _ => simp [O.isD] at f
    | m _ _ => simp [O.isD] at f
/-- a flat thing that is a list -/
theorem RVw.list {o : O} {v : V} {ds : List D} (e : Same Hf H) (f : o.flat = true) (ed : o.data = .list ds) (h : RVw K mg Hf H o v) : ∃ a vs, v = .ref a ∧ H a = some (.lst vs) ∧ Reps K mg Hf vs ds := by
  cases o with
  | d x =>
    rw [O.data] at ed
    subst ed
    rw [RVw] at h
    cases h with
    | lst h1 h2 => exact ⟨_, _, rfl, e _ _ h1, h2⟩
  | l os =>
    rw [O.data] at ed
    cases ed
    rw [RVw] at h
    obtain ⟨a, vs, e1, h1, h2⟩ := h
    exact ⟨a, vs, e1, h1, RVws.flat f h2⟩
  | m _ _ => rw [O.data] at ed; cases ed
theorem RVw.tuple {o : O} {v : V} {ds : List D} (ed : o.data = .tuple ds) (h : RVw K mg Hf H o v) : ∃ a vs, v = .ref a ∧ SqT K Hf a vs ∧ Reps K mg Hf vs ds := by
  cases o with
  | d x =>
    rw [O.data] at ed
    subst ed
    rw [RVw] at h
    cases h with
    | tup h1 h2 => exact ⟨_, _, rfl, h1, h2⟩
  | l os => rw [O.data] at ed; cases ed
  | m _ _ => rw [O.data] at ed; cases ed
theorem RVw.int {o : O} {v : V} {i : Int} (ed : o.data = .int i) (h : RVw K mg Hf H o v) : v = .int i := by
  cases o with
  | d x => rw [O.data] at ed; subst ed; rw [RVw] at h; cases h; rfl
  | l os => rw [O.data] at ed; cases ed
  | m _ _ => rw [O.data] at ed; cases ed
theorem RVw.bool {o : O} {v : V} {i : Bool} (ed : o.data = .bool i) (h : RVw K mg Hf H o v) : v = .bl i := by
  cases o with
  | d x => rw [O.data] at ed; subst ed; rw [RVw] at h; cases h; rfl
  | l os => rw [O.data] at ed; cases ed
  | m _ _ => rw [O.data] at ed; cases ed
theorem RVw.str {o : O} {v : V} {i : Str} (ed : o.data = .str i) (h : RVw K mg Hf H o v) : v = .str i := by
  cases o with
  | d x => rw [O.data] at ed; subst ed; rw [RVw] at h; cases h; rfl
  | l os => rw [O.data] at ed; cases ed
  | m _ _ => rw [O.data] at ed; cases ed
theorem RVw.none {o : O} {v : V} (ed : o.data = .none) (h : RVw K mg Hf H o v) : v = .non := by
  cases o with
  | d x => rw [O.data] at ed; subst ed; rw [RVw] at h; cases h; rfl
  | l os => rw [O.data] at ed; cases ed
  | m _ _ => rw [O.data] at ed; cases ed
end

/-! ### the state of a body's names; a step -/
def Wof (as : Nat → List Addr) (b : Addr) : Prop := ∃ i, b ∈ as i
structure Rel (K : PySem.W.Frag) (mg : Str → Option Value) (τ : Tau) (σ : L2.St) (H Hf : Hp) (as : Nat → List Addr) : Prop where
  len : τ.length = σ.length
  sub : Same Hf H
  slot : ∀ i o, getO τ i = some o → ∃ v, σ[i]? = some (some v) ∧ ROwn K mg Hf H o v (as i)
  emp : ∀ i, getO τ i = none → as i = []
  nd : ∀ i, (as i).Nodup
  sep : ∀ i j b, b ∈ as i → b ∈ as j → i = j
/-- w: owned things may be written -/
structure Stp (w : Bool) (W : Addr → Prop) (H Hf H' Hf' : Hp) (W' : Addr → Prop) : Prop where
  keep : ∀ b o, H b = some o → (w = true → ¬ W b) → H' b = some o
  grow : Same Hf Hf'
  froz : ∀ b o, Hf' b = some o → Hf b = some o ∨ W b ∨ H b = none
  own : ∀ b, W' b → W b ∨ H b = none
section
variable {w : Bool} {W W' W1 W1' W2 : Addr → Prop} {H Hf H' Hf' H1 Hf1 H2 Hf2 : Hp}
theorem Stp.refl (h : ∀ b, W' b → W b) : Stp w W H Hf H Hf W' := ⟨fun _ _ e _ => e, Same.refl _, fun _ _ e => .inl e, fun b q => .inl (h b q)⟩
theorem Stp.trans (a : Stp w W H Hf H1 Hf1 W1) (h : ∀ b, W1' b → W1 b) (c : Stp w W1' H1 Hf1 H2 Hf2 W2) : Stp w W H Hf H2 Hf2 W2 where
  keep := fun b o e n => by
    refine c.keep b o (a.keep b o e n) fun hw q => ?_
    rcases a.own b (h b q) with q | q
    · exact n hw q
    · rw [e] at q; cases q
  grow := a.grow.trans c.grow
  froz := fun b o e => by
    rcases c.froz b o e with q | q | q
    · exact a.froz b o q
    · rcases a.own b (h b q) with q | q
      · exact .inr (.inl q)
      · exact .inr (.inr q)
    · by_cases hw : W b
      · exact .inr (.inl hw)
      · refine .inr (.inr ?_)
        cases e2 : H b with
        | none => rfl
        | some u => rw [a.keep b u e2 fun _ => hw] at q; cases q
  own := fun b q => by
    rcases c.own b q with q | q
    · exact a.own b (h b q)
    · by_cases hw : W b
      · exact .inl hw
      · refine .inr ?_
        cases e2 : H b with
        | none => rfl
        | some u => rw [a.keep b u e2 fun _ => hw] at q; cases q
theorem Stp.sub (a : Stp w W H Hf H1 Hf1 W1) (h : ∀ b, W1' b → W1 b) : Stp w W H Hf H1 Hf1 W1' := ⟨a.keep, a.grow, a.froz, fun b q => a.own b (h b q)⟩
theorem Stp.weak {w' : Bool} (a : Stp w W H Hf H1 Hf1 W1) (h : w = true → w' = true) : Stp w' W H Hf H1 Hf1 W1 := ⟨fun b o e n => a.keep b o e fun q => n (h q), a.grow, a.froz, a.own⟩
/-- a new object -/
theorem Stp.new {p : Addr} {o : HO} (hp : H p = none) (h : ∀ b, W' b → W b ∨ b = p) : Stp w W H Hf (upd H p o) Hf W' :=
  ⟨fun b u e _ => by rw [upd_ne (ne_of_none e hp)]; exact e, Same.refl _, fun _ _ e => .inl e, fun b q => (h b q).imp id fun e => by rw [e]; exact hp⟩
/-- a new object, frozen -/
theorem Stp.newF {p : Addr} {o : HO} (hp : H p = none) (hs : Same Hf H) (h : ∀ b, W' b → W b) : Stp w W H Hf (upd H p o) (upd Hf p o) W' :=
  ⟨fun b u e _ => by rw [upd_ne (ne_of_none e hp)]; exact e, fun b u e => by rw [upd_ne (ne_of_none (hs _ _ e) hp)]; exact e, fun b u e => by
    by_cases hb : b = p
    · exact .inr (.inr (by rw [hb]; exact hp))
    · rw [upd_ne hb] at e; exact .inl e, fun b q => .inl (h b q)⟩
end
theorem Same.upd2 {Hf H : Hp} {p : Addr} {o : HO} (e : Same Hf H) : Same (upd Hf p o) (upd H p o) := fun b u q => by
  by_cases hb : b = p
  · subst hb; rw [upd_same] at q ⊢; exact q
  · rw [upd_ne hb] at q ⊢; exact e _ _ q
section
variable {K : PySem.W.Frag} {mg : Str → Option Value} {τ τ' : Tau} {σ : L2.St} {H Hf H' Hf' : Hp} {as : Nat → List Addr} {W' : Addr → Prop}
theorem Rel.at (r : Rel K mg τ σ H Hf as) {b : Addr} (h : Wof as b) : Hf b = none ∧ ∃ u, H b = some u := by
  obtain ⟨i, hb⟩ := h
  cases e : getO τ i with
  | none => rw [r.emp i e] at hb; cases hb
  | some o =>
    obtain ⟨v, _, h1⟩ := r.slot i o e
    exact h1.at _ _ _ b hb
theorem Rel.atO (r : Rel K mg τ σ H Hf as) {b : Addr} (h : Wof as b) : ∃ u, H b = some u ∧ OwnO u := by
  obtain ⟨i, hb⟩ := h
  cases e : getO τ i with
  | none => rw [r.emp i e] at hb; cases hb
  | some o =>
    obtain ⟨v, _, h1⟩ := r.slot i o e
    exact h1.atO _ _ _ b hb
/-- nothing owned is touched -/
theorem Rel.step (r : Rel K mg τ σ H Hf as) (hs : Same Hf' H') (g : Same Hf Hf') (k : ∀ b u, Wof as b → H b = some u → H' b = some u ∧ Hf' b = none) : Rel K mg τ σ H' Hf' as := by
  refine ⟨r.len, hs, fun i o e => ?_, r.emp, r.nd, r.sep⟩
  obtain ⟨v, h1, h2⟩ := r.slot i o e
  refine ⟨v, h1, ROwn.keep g _ _ _ (fun b hb u q => ?_) h2⟩
  exact k b u ⟨i, hb⟩ q
theorem Rel.new {p : Addr} {o : HO} (r : Rel K mg τ σ H Hf as) (hp : H p = none) : Rel K mg τ σ (upd H p o) Hf as := by
  refine r.step (fun b u e => by rw [upd_ne (ne_of_none (r.sub _ _ e) hp)]; exact r.sub _ _ e) (Same.refl _) fun b vs hb e => ⟨by rw [upd_ne (ne_of_none e hp)]; exact e, (r.at hb).1⟩
theorem Rel.newF {p : Addr} {o : HO} (r : Rel K mg τ σ H Hf as) (hp : H p = none) : Rel K mg τ σ (upd H p o) (upd Hf p o) as := by
  refine r.step (Same.upd2 r.sub) (fun b u e => by rw [upd_ne (ne_of_none (r.sub _ _ e) hp)]; exact e) fun b vs hb e => ⟨by rw [upd_ne (ne_of_none e hp)]; exact e, ?_⟩
  rw [upd_ne (ne_of_none e hp)]
  exact (r.at hb).1
end
theorem dictL_tag {t : Bool} {kvs r : List (D × D)} {v : D} {ps : List (NestedKey × V × V)} (h : (.list [], v) :: r = dictL t kvs) (hk : kvs.map (fun p => keyOf t p.1) = ps.map (fun p => some p.1)) : t = true ∧ v = .none ∧ kvs = r := by
  cases t with
  | true =>
    simp only [dictL, if_true] at h
    injection h with h1 h2
    injection h1 with h3 h4
    exact ⟨rfl, h4, h2.symm⟩
  | false =>
    simp only [dictL, Bool.false_eq_true, if_false] at h
    subst h
    cases ps with
    | nil => simp at hk
    | cons p ps =>
      simp only [List.map_cons] at hk
      injection hk with h1 h2
      simp [keyOf, nkD] at h1
theorem dictO_D {t : Bool} {kvs : List (D × D)} {ps : List (NestedKey × V × V)} (hk : kvs.map (fun p => keyOf t p.1) = ps.map (fun p => some p.1)) : dictO (.d (dictD t kvs)) = some (t, kvs) := by
  cases t with
  | true => rfl
  | false =>
    show dictO (.d (.dict kvs)) = _
    cases kvs with
    | nil => rfl
    | cons p kvs =>
      obtain ⟨k, v⟩ := p
      cases ps with
      | nil => simp at hk
      | cons q ps =>
        simp only [List.map_cons] at hk
        injection hk with h1 h2
        cases k <;> first | rfl | simp [keyOf, nkD] at h1
end Mir
set_option Elab.async false
set_option linter.all false
set_option maxRecDepth 100000
set_option maxHeartbeats 4000000
/-! Mir, part C: readings over the evaluator; expressions. -/
namespace Mir
open PySem L2 PyProof.Rows

section
variable (K : PySem.W.Frag) (mg : Str → Option Value) (Wx : WX)
def XRep (x : Xn) (cls : Value) (dd : Option Addr) : Prop := ∃ C, cls = .ref C ∧ mg x.cls = some (.ref C) ∧ x.args = [] ∧ dd = none
def PostX (w : Bool) (σ : L2.St) (H Hf : Hp) (as : Nat → List Addr) (x : Xn) (τ' : Tau) : Prop :=
  ∀ cls dd H' Hf' as', XRep mg x cls dd → Rel K mg τ' σ H' Hf' as' → Stp w (Wof as) H Hf H' Hf' (Wof as') → Wx cls dd σ H'
def RdM {α : Type} (w : Bool) (σ : L2.St) (H Hf : Hp) (as : Nat → List Addr) (r : R α) (P : α → Tau → Prop) : Prop :=
  match r with
  | .ok a τ' => P a τ'
  | .ex x τ' => PostX K mg Wx w σ H Hf as x τ'
  | .st => False
/-- b: seen only; else it is the reader's own -/
def Res (b w : Bool) (H Hf : Hp) (as : Nat → List Addr) (o : O) (v : V) (H' Hf' : Hp) (as' : Nat → List Addr) (ao : List Addr) : Prop :=
  RVw K mg Hf' H' o v ∧ (b = false → ROwn K mg Hf' H' o v ao ∧ ao.Nodup ∧ ∀ c ∈ ao, ¬ Wof as' c) ∧ Stp w (Wof as) H Hf H' Hf' (fun c => Wof as' c ∨ (b = false ∧ c ∈ ao))
def PostE (b w : Bool) (σ : L2.St) (H Hf : Hp) (as : Nat → List Addr) (Q : VK) (o : O) (τ' : Tau) : Prop :=
  ∀ v H' Hf' as' ao, Rel K mg τ' σ H' Hf' as' → Res K mg b w H Hf as o v H' Hf' as' ao → Q v H'
end
section
variable {K : PySem.W.Frag} {mg : Str → Option Value} {Wx : WX} {α β : Type} {w w' b : Bool} {σ : L2.St} {H Hf H' Hf' H1 Hf1 : Hp} {as as1 : Nat → List Addr} {W1 : Addr → Prop} {r : R α} {P P' : α → Tau → Prop}
theorem RdM.imp (h : RdM K mg Wx w σ H Hf as r P) (i : ∀ a τ', P a τ' → P' a τ') : RdM K mg Wx w σ H Hf as r P' := by
  cases r with
  | ok a τ' => exact i a τ' h
  | ex x τ' => exact h
  | st => exact h
theorem RdM.bind {f : α → Tau → R β} {P : β → Tau → Prop} (h : RdM K mg Wx w σ H Hf as (r.andThen f) P) : RdM K mg Wx w σ H Hf as r (fun a τ' => RdM K mg Wx w σ H Hf as (f a τ') P) := by
  cases r with
  | ok a τ' => exact h
  | ex x τ' => exact h
  | st => exact h
/-- from a later state; fewer things written -/
theorem RdM.rebase (h : RdM K mg Wx w σ H Hf as r P) (s : Stp w (Wof as) H Hf H1 Hf1 W1) (hs : ∀ c, Wof as1 c → W1 c) (hw : w' = true → w = true) : RdM K mg Wx w' σ H1 Hf1 as1 r P := by
  cases r with
  | ok a τ' => exact h
  | ex x τ' => exact fun cls dd H' Hf' as' hx hr hst => h cls dd H' Hf' as' hx hr (s.trans hs (hst.weak hw))
  | st => exact h
theorem PostX.weak {x : Xn} {τ' : Tau} (h : PostX K mg Wx w σ H Hf as x τ') (hw : w' = true → w = true) : PostX K mg Wx w' σ H Hf as x τ' := fun cls dd H' Hf' as' hx hr hst => h cls dd H' Hf' as' hx hr (hst.weak hw)
end

section
variable (X : Cx) (Wx : WX) (cl : Cl)
def RdE (w b : Bool) (c : E) : TE := fun σ H Q => ∃ τ Hf as, Rel X.K X.mg τ σ H Hf as ∧ RdM X.K X.mg Wx w σ H Hf as (evalG cl b c τ) (PostE X.K X.mg b w σ H Hf as Q)
def RdT (w : Bool) (c : E) : TT := fun σ H Q => ∃ τ Hf as, Rel X.K X.mg τ σ H Hf as ∧ RdM X.K X.mg Wx w σ H Hf as (asB (evalG cl true c τ))
  (fun k τ' => ∀ H' Hf' as', Rel X.K X.mg τ' σ H' Hf' as' → Stp w (Wof as) H Hf H' Hf' (Wof as') → Q k H')
end
theorem _root_.L2.PE.imp {X : Cx} {e : Expr} {t t' : TE} (h : PE X e t) (i : ∀ σ H Q, t' σ H Q → t σ H Q) : PE X e t' := ⟨fun pins s σ H Q I q => h.run pins s σ H Q I (i σ H Q q)⟩
theorem _root_.L2.PT.imp {X : Cx} {e : Expr} {t t' : TT} (h : PT X e t) (i : ∀ σ H Q, t' σ H Q → t σ H Q) : PT X e t' := ⟨fun pins s σ H Q I q => h.run pins s σ H Q I (i σ H Q q)⟩
theorem _root_.L2.PA.imp {X : Cx} {e : List Expr} {t t' : TA} (h : PA X e t) (i : ∀ σ H Q, t' σ H Q → t σ H Q) : PA X e t' := ⟨fun pos pins s σ H Q I q => h.run pos pins s σ H Q I (i σ H Q q)⟩

section
variable {K : PySem.W.Frag} {mg : Str → Option Value} {b w w' : Bool} {σ : L2.St} {H Hf H' Hf' H1 Hf1 H2 Hf2 : Hp} {as as1 as2 as' : Nat → List Addr} {o x : O} {v u : V} {ao : List Addr} {Q : VK} {τ τ' : Tau} {W1 : Addr → Prop}
/-- a value that is no object -/
theorem Res.val {d : D} (r : Rel K mg τ σ H Hf as) (h : Rep K mg Hf v d) : Res K mg b w H Hf as (.d d) v H Hf as [] :=
  ⟨by rw [RVw]; exact h, fun _ => ⟨by rw [ROwn]; exact ⟨rfl, h⟩, List.nodup_nil, fun c hc => by cases hc⟩, Stp.refl fun c q => q.elim id fun z => by cases z.2⟩
/-- from an elder state -/
theorem Res.from (s : Stp w (Wof as) H Hf H1 Hf1 W1) (hs : ∀ c, Wof as1 c → W1 c) (hw : w' = true → w = true) (r : Res K mg b w' H1 Hf1 as1 o v H' Hf' as' ao) : Res K mg b w H Hf as o v H' Hf' as' ao :=
  ⟨r.1, r.2.1, s.trans hs (r.2.2.weak hw)⟩
theorem Res.stp (r : Res K mg b w H Hf as o v H' Hf' as' ao) : Stp w (Wof as) H Hf H' Hf' (Wof as') := r.2.2.sub fun _ q => .inl q
/-- a new frozen object -/
theorem Res.newF {p : Addr} {ob : HO} {d : D} (r : Rel K mg τ σ H Hf as) (hp : H p = none) (h : Rep K mg (upd Hf p ob) (.ref p) d) : Res K mg b w H Hf as (.d d) (.ref p) (upd H p ob) (upd Hf p ob) as [] :=
  ⟨by rw [RVw]; exact h, fun _ => ⟨by rw [ROwn]; exact ⟨rfl, h⟩, List.nodup_nil, fun c hc => by cases hc⟩, Stp.newF hp r.sub fun c q => q.elim id fun z => by cases z.2⟩
/-- a new list of one's own -/
theorem Res.newL {p : Addr} {os : List O} {vs : List V} {ax : List Addr} (r : Rel K mg τ σ H Hf as) (hp : H p = none) (h : ROwns K mg Hf H os vs ax) (nd : ax.Nodup) (dj : ∀ c ∈ ax, ¬ Wof as c) :
    RVw K mg Hf (upd H p (.lst vs)) (.l os) (.ref p) ∧ ROwn K mg Hf (upd H p (.lst vs)) (.l os) (.ref p) (p :: ax) ∧ (p :: ax).Nodup ∧ ∀ c ∈ p :: ax, ¬ Wof as c := by
  have hf : Hf p = none := by
    cases e : Hf p with
    | none => rfl
    | some u => rw [r.sub _ _ e] at hp; cases hp
  have np : ∀ c ∈ ax, c ≠ p := fun c hc e => by
    obtain ⟨_, vs, e2⟩ := h.at _ _ _ c hc
    rw [e, hp] at e2; cases e2
  have ow : ROwn K mg Hf (upd H p (.lst vs)) (.l os) (.ref p) (p :: ax) := by
    rw [ROwn]
    refine ⟨p, vs, ax, rfl, rfl, hf, upd_same, ROwns.keep (Same.refl _) _ _ _ (fun c hc u e => ?_) h⟩
    rw [upd_ne (np c hc)]
    exact ⟨e, (h.at _ _ _ c hc).1⟩
  refine ⟨ow.vw, ow, List.nodup_cons.mpr ⟨fun hc => np p hc rfl, nd⟩, fun c hc => ?_⟩
  rcases List.mem_cons.mp hc with e | hc
  · subst e
    intro q
    obtain ⟨_, vs, e2⟩ := r.at q
    rw [hp] at e2; cases e2
  · exact dj c hc
/-- seen, and nothing has been written since -/
theorem RVw.after (h : RVw K mg Hf H o v) {W W' : Addr → Prop} (s : Stp false W H Hf H' Hf' W') : RVw K mg Hf' H' o v := h.mono s.grow (fun b u e => s.keep b u e fun z => by cases z) _ _
/-- one's own, and only what the names own has been written since -/
theorem ROwn.after (h : ROwn K mg Hf H o v ao) (dj : ∀ c ∈ ao, ¬ Wof as c) {W' : Addr → Prop} (s : Stp w (Wof as) H Hf H' Hf' W') : ROwn K mg Hf' H' o v ao := by
  refine h.keep s.grow _ _ _ (fun c hc u e => ⟨s.keep c u e fun _ => dj c hc, ?_⟩)
  cases q : Hf' c with
  | none => rfl
  | some z =>
    rcases s.froz c z q with q | q | q
    · rw [(h.at _ _ _ c hc).1] at q; cases q
    · exact (dj c hc q).elim
    · rw [e] at q; cases q
/-- the first of two parts, behind the second -/
theorem Res.keepVw {W' : Addr → Prop} (r1 : Res K mg b w' H Hf as x u H1 Hf1 as1 ao) (s : Stp w (Wof as1) H1 Hf1 H2 Hf2 W') (hb : b = true → w = false) : RVw K mg Hf2 H2 x u := by
  cases b with
  | true =>
    have := hb rfl
    subst this
    exact r1.1.after s
  | false => exact ((r1.2.1 rfl).1.after (r1.2.1 rfl).2.2 s).vw
end
end Mir
set_option Elab.async false
set_option linter.all false
set_option maxRecDepth 100000
set_option maxHeartbeats 1000000
namespace Mir
open PySem PySem.Spec L2 PyProof.Rows
/-! t * 1 is t -/
theorem tuple_mul1 (l : Addr) (items : Array Value) (n : Nat) (sl : Array (Option Value)) (dd : Option Addr) (u : Tok) (c1 : (items.isEmpty || (1 : Int) == 1) = true) :
    Meets (Builtin.«tuple.__mul__» ⟨[.ref l, .int 1 u], []⟩) (fun _ R s => s.heap.get? l = some { cls := .type "tuple", dict := dd, data := .seq items n, slots := sl } ∧
      R (.ok (.ret (Value.ref l))) s) :=
  .of_wp fun prog w A R s h => by
    obtain ⟨hp, g, d, tk, os⟩ := s
    obtain ⟨hl, h⟩ := h
    have f1 := AutoSeq1.idx_int
    have c0 : (decide ((1 : Int) < -(2 ^ 63)) || decide ((1 : Int) ≥ 2 ^ 63)) = false := by decide
    wp_walk using wpAny_loadPart' hl
    repeat (first
      | (refine wpAny_ite_false (decide_eq_false (by rw [c0]; exact Bool.false_ne_true)) ?_; wp_walk using wpAny_loadPart' hl)
      | (refine wpAny_ite_true (decide_eq_true (by rw [c1])) ?_; wp_walk using wpAny_loadPart' hl))
    exact ⟨_, rfl, h⟩
section
variable {X : Cx}
theorem op_rep1 : OpR X (binaryOp .Mult) (fun x y H Q => ∃ l xs, x = .ref l ∧ y = .int 1 ∧ SqT X.K H l xs ∧ Q (.ref l) H) := by
  intro pins s σ H x y v u Q I rx ry h
  obtain ⟨l, xs, rfl, rfl, hT, q⟩ := h
  cases rx
  obtain ⟨t, rfl⟩ := ry
  obtain ⟨its, r, ⟨⟨cls, dd, data, sl⟩, ho, hc, n, hd⟩, hs⟩ := I.tuple hT
  simp only at hc hd
  subst hc hd
  have c1 : (its.toArray.isEmpty || (1 : Int) == 1) = true := by simp
  refine wpAny_binaryOp_repeat_ref (T := "tuple") (U := "int") (by decide) ⟨_, ho, rfl⟩ (fun s' => typeIs_int s' 1 t) noFill_tuple_mul F.fills_int_mul F.slot_int_rmul repeat_tuple F.slot_int_index.lookup
    (call_meets F.slot_int_rmul (typeIs_int s 1 t) F.entry_int_rmul (F.args_int_rmul_2 _ _) (int_rmul_tuple 1 t l its.toArray n dd sl)
      ⟨ho, rfl, ⟨_, ho, rfl⟩, call_meets F.slot_tuple_mul ⟨_, ho, rfl⟩ F.entry_tuple_mul (F.args_tuple_mul_2 _ _) (tuple_mul1 l its.toArray n sl dd t c1) ⟨ho, ?_⟩⟩)
  exact ⟨.ref l, H, I, rfl, q⟩
end
end Mir
set_option Elab.async false
set_option linter.all false
set_option maxRecDepth 100000
set_option maxHeartbeats 1000000
namespace Mir
open PySem PySem.Spec L2 PyProof.Rows
/-! sum(t) of a tuple of ints -/
section
variable {prog : Program} {w : World} {A : Around} {E : Value → Shared → Prop} {s : Shared} {l : Addr} {xs : Array (Int × Tok)}
theorem sum_intTup {Q : Value → Shared → Prop} (hh : A.handled = none) (hl : s.heap.IsTuple l (intItems xs))
    (h : ∀ h' tk t', (∀ b o, s.heap.get? b = some o → h'.get? b = some o) → Q (.int (preSum (numAt xs) xs.size) t') { s with heap := h', toks := tk }) :
    wpAny (model prog w) A (call (.builtin "sum") [.ref l]) Q E s := by
  have hlt : l < s.heap.objs.size := by obtain ⟨_, e, _⟩ := hl; exact Heap.lt_size e
  refine call_sum_walkG (wpAny_pyIter_tuple hl ?_)
  refine ⟨_, _, _, _, _, _, numAt xs, rfl, Walks.tuple (A := A.in1) hh _ l (Nat.ne_of_lt hlt) (intItems xs), ⟨⟨_, Heap.get?_push_size _ rfl, rfl, rfl⟩, hl.push _⟩, fun c hc => ?_, (fun _ _ => intItems_at), fun h' tk t' hk => ?_⟩
  · show c < (s.heap.push _).objs.size
    rw [Heap.size_push]
    rcases List.mem_cons.mp hc with rfl | hc
    · exact Nat.lt_succ_self _
    · rcases List.mem_cons.mp hc with rfl | hc
      · exact Nat.lt_succ_of_lt hlt
      · cases hc
  · have hold : ∀ c o, s.heap.get? c = some o → h'.get? c = some o := fun c o e => by
      refine hk c o (fun hm => ?_) (Heap.get?_push_of_some _ e)
      rcases List.mem_cons.mp hm with e1 | hm
      · have := Heap.lt_size e; rw [e1] at this; exact Nat.lt_irrefl _ this
      · cases hm
    have := h h' tk t' hold
    simpa [intItems] using this
theorem sum_rawT {its : List Value} {ns : List Int} {Q : Value → Shared → Prop} (hh : A.handled = none) (hl : IsTup s.heap l its.toArray) (hi : IntsAre its ns)
    (h : ∀ h' tk t', (∀ b o, s.heap.get? b = some o → h'.get? b = some o) → Q (.int ns.sum t') { s with heap := h', toks := tk }) : wpAny (model prog w) A (call (.builtin "sum") [.ref l]) Q E s := by
  obtain ⟨xs, e⟩ := hi.allInts.items
  have hn : numsOf (intItems xs).toList = ns := by rw [← e]; exact hi.numsOf
  rw [nums_intItems] at hn
  rw [e] at hl
  refine sum_intTup hh hl fun h' tk t' hk => ?_
  have := h h' tk t' hk
  rw [preSum_eq, List.take_of_length_le (by simp), hn]; exact this
end
section
variable {X : Cx}
theorem cr_sumT (hc : X.calm = true) : CallR X (.builtin "sum") (fun vs H Q => ∃ (a : Addr) (ns : List Int), vs = [V.ref a] ∧ SqT X.K H a (ns.map V.int) ∧ Q (.int ns.sum) H) := by
  intro pins s σ H vs us Q I r h
  obtain ⟨a, ns, ev, hq, q⟩ := h
  subst ev
  obtain ⟨its, rv, hl, hz⟩ := I.tuple hq
  cases r with
  | cons r1 r2 =>
    cases r2
    cases r1
    exact sum_rawT (I.ok.hd hc) hl rv.ints fun h' tk t' hk => ⟨.int _, H, I.kept hk, ⟨_, rfl⟩, q⟩
end
end Mir
set_option Elab.async false
set_option linter.all false
set_option maxRecDepth 100000
set_option maxHeartbeats 4000000
/-! Mir, part D: operators, comparisons, places, built-ins, by values. -/
namespace Mir
open PySem L2 PyProof.Rows

section
variable (K : PySem.W.Frag) (mg : Str → Option Value)
/-- what an operation on data hands back -/
def Fin (Hf H : Hp) (o : O) (Q : VK) : Prop :=
  (∀ v d, o = .d d → Rep K mg Hf v d → Q v H) ∧
  (∀ p vs ds, o = .d (.tuple ds) → H p = none → Reps K mg Hf vs ds → Q (.ref p) (upd H p (.tup vs))) ∧
  (∀ p vs ds, o = .l (ds.map .d) → H p = none → Reps K mg Hf vs ds → Q (.ref p) (upd H p (.lst vs)))
end
section
variable {K : PySem.W.Frag} {mg : Str → Option Value} {b w w' : Bool} {σ : L2.St} {H Hf H' Hf' H1 Hf1 H2 Hf2 : Hp} {as as1 as2 as' : Nat → List Addr} {o x : O} {v u : V} {ao : List Addr} {Q : VK} {τ τ' : Tau} {W1 : Addr → Prop}
theorem Fin.of (r : Rel K mg τ σ H Hf as) (h : PostE K mg b w σ H Hf as Q o τ) : Fin K mg Hf H o Q := by
  refine ⟨fun v d e q => ?_, fun p vs ds e hp q => ?_, fun p vs ds e hp q => ?_⟩
  · subst e
    exact h v H Hf as [] r (Res.val r q)
  · subst e
    refine h _ _ _ as [] (r.newF hp) (Res.newF r hp ?_)
    exact .tup (.inl (.inl upd_same)) (Reps.mono (fun b u e => by rw [upd_ne (ne_of_none (r.sub _ _ e) hp)]; exact e) _ _ q)
  · subst e
    have ow := Res.newL (vs := vs) r hp (ROwns.of_reps q) List.nodup_nil (fun c hc => by cases hc)
    exact h _ _ _ as [p] (r.new hp) ⟨ow.1, fun _ => ow.2, Stp.new hp fun c q => q.elim .inl fun z => .inr (by simpa using z.2)⟩
theorem Fin.int {i : Int} (h : Fin K mg Hf H (.d (.int i)) Q) : Q (.int i) H := h.1 _ _ rfl (.int i)
theorem Fin.bool {i : Bool} (h : Fin K mg Hf H (.d (.bool i)) Q) : Q (.bl i) H := h.1 _ _ rfl (.bl i)
theorem Fin.str {i : Str} (h : Fin K mg Hf H (.d (.str i)) Q) : Q (.str i) H := h.1 _ _ rfl (.str i)
theorem Fin.non (h : Fin K mg Hf H (.d .none) Q) : Q .non H := h.1 _ _ rfl .non
end
theorem lim_le : (lim : Nat) ≤ sizeLine := by rw [sizeLine_eq]; unfold lim; omega
section
variable {X : Cx}
def rD (X : Cx) (op : Operator) : R2 := fun x y H Q => ∃ Hf ox oy o, Same Hf H ∧ RVw X.K X.mg Hf H ox x ∧ RVw X.K X.mg Hf H oy y ∧ ox.flat = true ∧ oy.flat = true ∧ opF op ox.data oy.data = some o ∧ Fin X.K X.mg Hf H o Q
theorem opD_ok (op : Operator) : OpR X (binaryOp op) (rD X op) := by
  intro pins s σ H x y v u Q I rx ry h
  obtain ⟨Hf, ox, oy, o, sb, vx, vy, fx, fy, he, q⟩ := h
  generalize ex : ox.data = dx at he
  generalize ey : oy.data = dy at he
  unfold opF at he
  split at he
  · cases he
    rw [vx.int ex] at rx; rw [vy.int ey] at ry
    exact op_add pins s σ H _ _ v u Q I rx ry ⟨_, _, rfl, rfl, q.int⟩
  · split at he
    · rename_i hl
      cases he
      rw [vx.str ex] at rx; rw [vy.str ey] at ry
      exact op_add_str pins s σ H _ _ v u Q I rx ry ⟨_, _, rfl, rfl, Nat.le_trans hl lim_le, q.str⟩
    · cases he
  · split at he
    · rename_i hl
      cases he
      obtain ⟨a, vs, e1, h1, r1⟩ := vx.list sb fx ex
      obtain ⟨c, ws, e2, h2, r2⟩ := vy.list sb fy ey
      subst e1 e2
      refine op_cat pins s σ H _ _ v u Q I rx ry ⟨a, c, vs, ws, rfl, rfl, h1, h2, ?_, fun p hp => q.2.2 p _ _ rfl hp (r1.append r2)⟩
      rw [r1.length, r2.length]
      exact Nat.le_trans hl lim_le
    · cases he
  · split at he
    · rename_i hl
      cases he
      obtain ⟨a, vs, e1, h1, r1⟩ := vx.tuple ex
      obtain ⟨c, ws, e2, h2, r2⟩ := vy.tuple ey
      subst e1 e2
      refine op_catA pins s σ H _ _ v u Q I rx ry ⟨a, c, vs, ws, rfl, rfl, Same.seqT sb h1, Same.seqT sb h2, ?_, fun e => ?_, fun e1 e => ?_, fun _ _ p hp => q.2.1 p _ _ rfl hp (r1.append r2)⟩
      · rw [r1.length, r2.length]
        exact Nat.le_trans hl lim_le
      · subst e
        cases r1
        exact q.1 _ _ rfl (.tup h2 r2)
      · subst e
        cases r2
        refine q.1 _ _ rfl ?_
        rw [List.append_nil]
        exact .tup h1 r1
    · cases he
  · cases he
    rw [vx.int ex] at rx; rw [vy.int ey] at ry
    exact op_sub pins s σ H _ _ v u Q I rx ry ⟨_, _, rfl, rfl, q.int⟩
  · split at he
    · rename_i hl
      cases he
      rw [vx.int ex] at rx; rw [vy.int ey] at ry
      exact op_mul pins s σ H _ _ v u Q I rx ry ⟨_, _, rfl, rfl, hl, q.int⟩
    · cases he
  · split at he
    · rename_i hl
      cases he
      obtain ⟨a, vs, e1, h1, r1⟩ := vx.list sb fx ex
      rw [vy.int ey] at ry
      subst e1
      refine op_rep pins s σ H _ _ v u Q I rx ry ⟨a, _, vs, rfl, rfl, h1, by omega, by omega, ?_, fun p hp => q.2.2 p _ _ rfl hp (r1.replicate _)⟩
      rw [r1.length, sizeLine_eq]
      refine Nat.le_trans (Nat.mul_le_mul hl.2.2 (show _ ≤ 1000 by omega)) (by decide)
    · cases he
  · split at he
    · rename_i hl
      cases he
      obtain ⟨a, vs, e1, h1, r1⟩ := vx.tuple ex
      rw [vy.int ey, hl] at ry
      subst e1
      exact op_rep1 pins s σ H _ _ v u Q I rx ry ⟨a, vs, rfl, rfl, Same.seqT sb h1, q.1 _ _ rfl (.tup h1 r1)⟩
    split at he
    · rename_i hl
      cases he
      obtain ⟨a, vs, e1, h1, r1⟩ := vx.tuple ex
      rw [vy.int ey] at ry
      subst e1
      refine op_repT pins s σ H _ _ v u Q I rx ry ⟨a, _, vs, rfl, rfl, Same.seqT sb h1, ?_, hl.1, hl.2.1, ?_, fun p hp => q.2.1 p _ _ rfl hp (r1.replicate _)⟩
      · intro e
        subst e
        cases r1
        exact absurd hl.2.2.2 (by decide)
      · rw [r1.length]
        exact hl.2.2.1
    · cases he
  · split at he
    · rename_i hl
      cases he
      rw [vx.int ex] at rx; rw [vy.int ey] at ry
      exact op_fdiv pins s σ H _ _ v u Q I rx ry ⟨_, _, rfl, rfl, hl, q.int⟩
    · split at he
      · rename_i hl
        cases he
        rw [vx.int ex] at rx; rw [vy.int ey] at ry
        exact op_fdivN pins s σ H _ _ v u Q I rx ry ⟨_, _, rfl, rfl, hl, q.int⟩
      · cases he
  · split at he
    · rename_i hl
      cases he
      rw [vx.int ex] at rx; rw [vy.int ey] at ry
      exact op_mod pins s σ H _ _ v u Q I rx ry ⟨_, _, rfl, rfl, hl, q.int⟩
    · cases he
  · split at he
    · rename_i hl
      cases he
      rw [vx.int ex] at rx; rw [vy.int ey] at ry
      exact op_pow pins s σ H _ _ v u Q I rx ry ⟨_, _, rfl, rfl, hl, q.int⟩
    · cases he
  · cases he
end


theorem isNone_iff (d : D) : isNone d = true ↔ d = .none := by cases d <;> simp [isNone]
theorem isNone_false {d : D} (h : isNone d = false) : d ≠ .none := fun e => by subst e; simp [isNone] at h
theorem alikeN_at {a c : D} (h : alikeN a c = true) : W.alike a c = true ∧ PyData.plain a = true ∧ PyData.plain c = true ∧ a ≠ .none := by
  unfold alikeN at h
  simp only [Bool.and_eq_true, Bool.not_eq_true'] at h
  exact ⟨h.1.1.1, h.1.1.2, h.1.2, isNone_false h.2⟩
theorem okDepth_at {a c : D} (h : okDepth a c = true) : a.depth ≤ 40 ∧ c.depth ≤ 40 := by
  unfold okDepth at h
  simpa [Bool.and_eq_true] using h
section
variable {X : Cx}
def rC (X : Cx) (op : CmpOp) : R2 := fun x y H Q => ∃ Hf ox oy c, Same Hf H ∧ RVw X.K X.mg Hf H ox x ∧ RVw X.K X.mg Hf H oy y ∧ cmpF op ox.data oy.data = some c ∧ Q (.bl c) H
theorem inD_ok {pins : List (Addr × Obj)} {s : Shared} {σ : L2.St} {H : Hp} {x y : V} {v u : Value} (hu : X.A.units + 64 < cLine) (I : Inv X pins σ H s) {da dc : D} {c : Bool} (rx : RelV x v) (ry : RelV y u)
    (vx : Rep X.K X.mg H x da) (vy : Rep X.K X.mg H y dc) (he : inF da dc = some c) {Q : Value → Shared → Prop} (hq : Q (.bool c) s) (hn : Q (.bool (!c)) s → True) :
    wpAny (model X.prog X.w) X.A (compareOp .In v u) Q X.xe s ∧ ∀ Q' : Value → Shared → Prop, Q' (.bool (!c)) s → wpAny (model X.prog X.w) X.A (compareOp .NotIn v u) Q' X.xe s := by
  unfold inF at he
  split at he
  · split at he
    · rename_i xs hc
      cases he
      simp only [Bool.and_eq_true] at hc
      obtain ⟨⟨p1, p2⟩, hd⟩ := hc
      have hd := okDepth_at hd
      obtain ⟨as, r1⟩ := Rep.reads I _ _ _ p1 vx rx
      obtain ⟨bs, r2⟩ := Rep.reads I _ _ _ (by simpa [PyData.plain] using p2) vy ry
      have hz : X.A.units + 1 + min (PyData.depthAll xs) da.depth < cLine := by
        have := Nat.min_le_right (PyData.depthAll xs) da.depth
        omega
      exact ⟨SeqAt.in_list_data r2 r1 p2 p1 hz hq, fun Q' hq' => SeqAt.notIn_list_data r2 r1 p2 p1 hz hq'⟩
    · cases he
  · split at he
    · rename_i xs hc
      cases he
      simp only [Bool.and_eq_true] at hc
      obtain ⟨⟨p1, p2⟩, hd⟩ := hc
      have hd := okDepth_at hd
      obtain ⟨as, r1⟩ := Rep.reads I _ _ _ p1 vx rx
      obtain ⟨bs, r2⟩ := Rep.reads I _ _ _ (by simpa [PyData.plain] using p2) vy ry
      have hz : X.A.units + 1 + min (PyData.depthAll xs) da.depth < cLine := by
        have := Nat.min_le_right (PyData.depthAll xs) da.depth
        omega
      exact ⟨SeqAt.in_tuple_data r2 r1 p2 p1 hz hq, fun Q' hq' => SeqAt.notIn_tuple_data r2 r1 p2 p1 hz hq'⟩
    · cases he
  · cases he
theorem cmpD_ok (hu : X.A.units + 64 < cLine) (op : CmpOp) : OpR X (compareOp op) (rC X op) := by
  intro pins s σ H x y v u Q I rx ry h
  obtain ⟨Hf, ox, oy, c, sb, vx, vy, he, q⟩ := h
  have gx := vx.rep sb
  have gy := vy.rep sb
  generalize ex : ox.data = dx at he gx
  generalize ey : oy.data = dy at he gy
  have fin : EP X pins σ Q (.bool c) s := ⟨.bl c, H, I, rfl, q⟩
  unfold cmpF at he
  split at he
  · split at he
    · rename_i hc
      cases he
      simp only [Bool.and_eq_true] at hc
      obtain ⟨⟨p1, p2⟩, hd⟩ := hc
      have hd := okDepth_at hd
      obtain ⟨as, r1⟩ := Rep.reads I _ _ _ p1 gx rx
      obtain ⟨bs, r2⟩ := Rep.reads I _ _ _ p2 gy ry
      have := Nat.min_le_left dx.depth dy.depth
      exact SeqAt.eq_plain r1 r2 p1 p2 (by omega) fin
    · cases he
  · split at he
    · rename_i hc
      cases he
      simp only [Bool.and_eq_true] at hc
      obtain ⟨⟨p1, p2⟩, hd⟩ := hc
      have hd := okDepth_at hd
      obtain ⟨as, r1⟩ := Rep.reads I _ _ _ p1 gx rx
      obtain ⟨bs, r2⟩ := Rep.reads I _ _ _ p2 gy ry
      have := Nat.min_le_left dx.depth dy.depth
      exact SeqAt.ne_plain r1 r2 p1 p2 (by omega) fin
    · cases he
  · split at he
    · rename_i hc
      cases he
      simp only [Bool.and_eq_true] at hc
      obtain ⟨h1, p1, p2, hn⟩ := alikeN_at hc.1
      have hd := okDepth_at hc.2
      obtain ⟨as, r1⟩ := Rep.reads I _ _ _ p1 gx rx
      obtain ⟨bs, r2⟩ := Rep.reads I _ _ _ p2 gy ry
      have := Nat.min_le_left dx.depth dy.depth
      exact PySem.W.lt_data r1 r2 h1 hn (by omega) fin
    · cases he
  · split at he
    · rename_i hc
      cases he
      simp only [Bool.and_eq_true] at hc
      obtain ⟨h1, p1, p2, hn⟩ := alikeN_at hc.1
      have hd := okDepth_at hc.2
      obtain ⟨as, r1⟩ := Rep.reads I _ _ _ p1 gx rx
      obtain ⟨bs, r2⟩ := Rep.reads I _ _ _ p2 gy ry
      have := Nat.min_le_left dx.depth dy.depth
      exact PySem.W.gt_data r1 r2 h1 hn (by omega) fin
    · cases he
  · split at he
    · rename_i hc
      cases he
      simp only [Bool.and_eq_true] at hc
      obtain ⟨h1, p1, p2, hn⟩ := alikeN_at hc.1
      have hd := okDepth_at hc.2
      obtain ⟨as, r1⟩ := Rep.reads I _ _ _ p1 gx rx
      obtain ⟨bs, r2⟩ := Rep.reads I _ _ _ p2 gy ry
      have := Nat.min_le_left dx.depth dy.depth
      exact PySem.W.le_data r1 r2 h1 hn (by omega) fin
    · cases he
  · split at he
    · rename_i hc
      cases he
      simp only [Bool.and_eq_true] at hc
      obtain ⟨h1, p1, p2, hn⟩ := alikeN_at hc.1
      have hd := okDepth_at hc.2
      obtain ⟨as, r1⟩ := Rep.reads I _ _ _ p1 gx rx
      obtain ⟨bs, r2⟩ := Rep.reads I _ _ _ p2 gy ry
      have := Nat.min_le_left dx.depth dy.depth
      exact PySem.W.ge_data r1 r2 h1 hn (by omega) fin
    · cases he
  · exact (inD_ok hu I rx ry gx gy he fin fun _ => True.intro).1
  · cases e : inF dx dy with
    | none => rw [e] at he; cases he
    | some k =>
      rw [e] at he
      cases he
      exact (inD_ok (Q := fun _ _ => True) hu I rx ry gx gy e True.intro fun _ => True.intro).2 _ fin
  · unfold isF at he
    split at he
    · cases he
      rw [vy.none ey] at ry
      refine op_isN pins s σ H _ _ v u Q I rx ry ⟨rfl, ?_⟩
      have : decide (x = V.non) = isNone dx := by
        cases gx <;> simp [isNone]
      rw [this]
      exact q
    · cases he
      rw [vx.bool ex] at rx; rw [vy.bool ey] at ry
      refine op_isBl pins s σ H _ _ v u Q I rx ry ⟨_, _, rfl, rfl, ?_⟩
      rw [← Bool.beq_eq_decide_eq]
      exact q
    · cases he
  · cases e : isF dx dy with
    | none => rw [e] at he; cases he
    | some k =>
      rw [e] at he
      cases he
      unfold isF at e
      split at e
      · cases e
        rw [vy.none ey] at ry
        refine op_notN pins s σ H _ _ v u Q I rx ry ⟨rfl, ?_⟩
        have : decide (x = V.non) = isNone dx := by
          cases gx <;> simp [isNone]
        rw [this]
        exact q
      · cases e
        rw [vx.bool ex] at rx; rw [vy.bool ey] at ry
        refine op_notBl pins s σ H _ _ v u Q I rx ry ⟨_, _, rfl, rfl, ?_⟩
        rw [← Bool.beq_eq_decide_eq]
        exact q
      · cases e
end

/-! ### places -/
theorem RVws.get {K : PySem.W.Frag} {mg : Str → Option Value} {Hf H : Hp} : ∀ {os : List O} {vs : List V} {i : Nat} {o : O}, RVws K mg Hf H os vs → os[i]? = some o → ∃ v, vs[i]? = some v ∧ RVw K mg Hf H o v
  | [], _, _, _, _, e => by simp at e
  | o :: os, _, 0, p, h, e => by
    simp only [List.getElem?_cons_zero, Option.some.injEq] at e
    subst e
    rw [RVws] at h
    obtain ⟨v, vr, e1, h1, h2⟩ := h
    subst e1
    exact ⟨v, rfl, h1⟩
  | o :: os, _, i + 1, p, h, e => by
    rw [RVws] at h
    obtain ⟨v, vr, e1, h1, h2⟩ := h
    subst e1
    obtain ⟨u, h3, h4⟩ := RVws.get (i := i) (o := p) h2 (by simpa using e)
    exact ⟨u, by simpa using h3, h4⟩
theorem RVws.length {K : PySem.W.Frag} {mg : Str → Option Value} {Hf H : Hp} : ∀ {os : List O} {vs : List V}, RVws K mg Hf H os vs → vs.length = os.length
  | [], _, h => by rw [RVws] at h; rw [h]; rfl
  | o :: os, _, h => by
    rw [RVws] at h
    obtain ⟨v, vr, e1, h1, h2⟩ := h
    rw [e1, List.length_cons, List.length_cons, RVws.length h2]
theorem atI_map {α β : Type} (xs : List α) (ys : List β) (i : Int) (hl : ys.length = xs.length) {x : α} (h : atI xs i = some x) : ∃ j : Nat, xs[j]? = some x ∧ atI ys i = ys[j]? := by
  unfold atI at h ⊢
  rw [hl]
  cases e : ixN xs.length i with
  | none => rw [e] at h; cases h
  | some j => rw [e] at h; exact ⟨j, h, rfl⟩
section
variable {X : Cx}
/-- xs[i]: the item as it stands -/
def rX (X : Cx) : R2 := fun x y H Q => ∃ Hf ox oy o, Same Hf H ∧ RVw X.K X.mg Hf H ox x ∧ RVw X.K X.mg Hf H oy y ∧ ixO ox oy.data = some o ∧ ∀ v, RVw X.K X.mg Hf H o v → Q v H
theorem ixD_ok : IxR X (rX X) := by
  intro value slice pins s σ H x y v u Q I rx ry h hs
  obtain ⟨Hf, ox, oy, o, sb, vx, vy, he, q⟩ := h
  generalize ey : oy.data = dy at he
  unfold ixO at he
  split at he
  · rename_i xs i
    rw [vy.int ey] at ry
    cases e : atI xs i with
    | none => rw [e] at he; cases he
    | some d =>
      rw [e] at he; cases he
      rw [RVw] at vx
      cases vx with
      | lst h1 h2 =>
        obtain ⟨j, e1, e2⟩ := atI_map xs _ i h2.length e
        obtain ⟨w, e3, g⟩ := h2.get e1
        exact ix_list value slice pins s σ H _ _ v u Q I rx ry ⟨_, _, i, w, rfl, rfl, SqL.of (sb _ _ h1), e2.trans e3, q w (by rw [RVw]; exact g)⟩ hs
  · rename_i xs i
    rw [vy.int ey] at ry
    cases e : atI xs i with
    | none => rw [e] at he; cases he
    | some d =>
      rw [e] at he; cases he
      rw [RVw] at vx
      cases vx with
      | tup h1 h2 =>
        obtain ⟨j, e1, e2⟩ := atI_map xs _ i h2.length e
        obtain ⟨w, e3, g⟩ := h2.get e1
        exact ix_tup value slice pins s σ H _ _ v u Q I rx ry ⟨_, _, i, w, rfl, rfl, Same.seqT sb h1, e2.trans e3, q w (by rw [RVw]; exact g)⟩ hs
  · rename_i os i
    rw [vy.int ey] at ry
    rw [RVw] at vx
    obtain ⟨a, vs, e0, h1, h2⟩ := vx
    subst e0
    obtain ⟨j, e1, e2⟩ := atI_map os vs i h2.length he
    obtain ⟨w, e3, g⟩ := h2.get e1
    exact ix_list value slice pins s σ H _ _ v u Q I rx ry ⟨_, _, i, w, rfl, rfl, SqL.of h1, e2.trans e3, q w g⟩ hs
  · cases he
theorem Reps.cut {K : PySem.W.Frag} {mg : Str → Option Value} {H : Hp} {vs : List V} {ds : List D} (h : Reps K mg H vs ds) (lo hi : Option Int) : Reps K mg H (cutV vs lo hi) (cutG ds lo hi) := by
  unfold cutV cutG
  rw [h.length]
  exact (h.drop _).take _
/-- xs[lo:hi] -/
def rS (X : Cx) : V → Option Int → Option Int → Hp → VK → Prop := fun x lo hi H Q => ∃ Hf ox o, Same Hf H ∧ RVw X.K X.mg Hf H ox x ∧ ox.flat = true ∧ slF ox.data lo hi = some o ∧ Fin X.K X.mg Hf H o Q
theorem slD_ok : SlR X (rS X) := by
  intro pins s σ H x v vl vu lo hi sl Q I rx hs pl pu h
  obtain ⟨Hf, ox, o, sb, vx, fx, he, q⟩ := h
  generalize ex : ox.data = dx at he
  unfold slF at he
  split at he
  · cases he
    obtain ⟨a, vs, e1, h1, r1⟩ := vx.list sb fx ex
    subst e1
    exact sl_list pins s σ H _ v vl vu lo hi sl Q I rx hs pl pu ⟨a, vs, rfl, SqL.of h1, fun p hp => q.2.2 p _ _ rfl hp (r1.cut lo hi)⟩
  · cases he
    obtain ⟨a, vs, e1, h1, r1⟩ := vx.tuple ex
    subst e1
    refine sl_tupA pins s σ H _ v vl vu lo hi sl Q I rx hs pl pu ⟨a, vs, rfl, Same.seqT sb h1, fun hw => q.1 _ _ rfl ?_, fun _ p hp => q.2.1 p _ _ rfl hp (r1.cut lo hi)⟩
    rename_i xs
    have e2 : cutG xs lo hi = xs := by
      unfold cutG
      rw [← r1.length, hw.1, hw.2, List.drop_zero, Nat.sub_zero, r1.length, List.take_length]
    rw [e2]
    exact .tup h1 r1
  · rename_i ns
    cases he
    have vx' : RVw X.K X.mg Hf H ox x := vx
    cases ox with
    | d z =>
      rw [O.data] at ex
      subst ex
      rw [RVw] at vx
      cases vx with
      | scr h1 e2 =>
        subst e2
        refine sl_list pins s σ H _ v vl vu lo hi sl Q I rx hs pl pu ⟨_, _, rfl, sb.seq h1, fun p hp => q.2.2 p _ _ rfl hp ?_⟩
        exact (Reps.of_ints _).cut lo hi
      | dct h1 h2 h3 h4 h5 h6 h7 => exact (by cases (dictL_tag h4 h5).2.1)
    | l os => rw [O.data] at ex; cases ex
    | m t kvs =>
      rw [O.data] at ex
      rw [RVw] at vx
      obtain ⟨a, od, ps, e1, h1, h2, h3, h4, h5, h6⟩ := vx
      unfold dictD at ex
      injection ex with ex
      cases (dictL_tag ex.symm h4).2.1
  · cases he
end

/-! ### built-ins -/
theorem depthAll_mem {xs : List D} {d : D} (h : d ∈ xs) : d.depth ≤ PyData.depthAll xs := by
  induction xs with
  | nil => cases h
  | cons x xs ih =>
    rw [PyData.depthAll]
    rcases List.mem_cons.mp h with e | h
    · subst e; exact Nat.le_max_left _ _
    · exact Nat.le_trans (ih h) (Nat.le_max_right _ _)
theorem plainAll_of {xs : List D} (h : ∀ x ∈ xs, PyData.plain x = true) : PyData.plainAll xs = true := by
  induction xs with
  | nil => rfl
  | cons x xs ih => simp only [PyData.plainAll, Bool.and_eq_true]; exact ⟨h x List.mem_cons_self, ih fun y hy => h y (List.mem_cons_of_mem _ hy)⟩
theorem okMM_at {xs : List D} (h : okMM xs = true) : W.AlikeAll xs ∧ PyData.plainAll xs = true ∧ PyData.depthAll xs ≤ 40 := by
  unfold okMM allAlike at h
  simp only [Bool.and_eq_true, List.all_eq_true, decide_eq_true_eq] at h
  refine ⟨⟨fun x hx y hy => (alikeN_at (h.1 x hx y hy)).1, fun x hx => (alikeN_at (h.1 x hx x hx)).2.2.2⟩, plainAll_of fun x hx => (alikeN_at (h.1 x hx x hx)).2.1, h.2⟩
theorem plainAll_mem {xs : List D} (h : PyData.plainAll xs = true) {x : D} (hx : x ∈ xs) : PyData.plain x = true := by
  induction xs with
  | nil => cases hx
  | cons y ys ih =>
    simp only [PyData.plainAll, Bool.and_eq_true] at h
    rcases List.mem_cons.mp hx with e | hx
    · subst e; exact h.1
    · exact ih h.2 hx
section
variable {X : Cx} {pins : List (Addr × Obj)} {σ : L2.St} {H Hf : Hp} {s : Shared}
/-- the item that min, max hand back -/
theorem item_fin {Q : VK} {vs : List V} {its : List Value} {ds : List D} (I : Inv X pins σ H s) (sb : Same Hf H) (r : Reps X.K X.mg Hf vs ds) (rv : Vals vs its) (pl : PyData.plainAll ds = true) {i : Nat} {v : Value} {h' : Heap} {tk : Nat} {bs : List Addr} {m : D}
    (hi : its.toArray[i]? = some v) (hr : Reads h' v m bs) (k : ∀ b o, s.heap.get? b = some o → h'.get? b = some o) (q : ∀ z, Rep X.K X.mg Hf z m → Q z H) : EP X pins σ Q v { s with heap := h', toks := tk } := by
  have hi' : its[i]? = some v := by simpa using hi
  have hlt : i < vs.length := by
    rw [rv.length]
    exact (List.getElem?_eq_some_iff.mp hi').1
  obtain ⟨z, hz⟩ : ∃ z, vs[i]? = some z := ⟨vs[i], List.getElem?_eq_getElem hlt⟩
  obtain ⟨u, hu, ru⟩ := rv.get hz
  rw [hi'] at hu
  cases hu
  obtain ⟨d, hd, g⟩ := r.get' hz
  have pd := plainAll_mem pl (List.mem_of_getElem? hd)
  obtain ⟨as, r1⟩ := Rep.reads I _ _ _ pd (g.mono sb) ru
  have e : d = m := SeqAt.plain_unique d m v _ _ pd (W.reads_keeps k r1) hr
  subst e
  exact ⟨z, H, I.kept k, ru, q z g⟩
def Bi.val (f : Bi) : Value := match f with
  | .tuple => .type "tuple" | .list => .type "list" | .int => .type "int"
  | f => .builtin f.name
def rB (X : Cx) (f : Bi) : List V → Hp → VK → Prop := fun vs H Q => ∃ Hf os o, Same Hf H ∧ RVws X.K X.mg Hf H os vs ∧ os.all O.flat = true ∧ biF f (O.datas os) = some o ∧ Fin X.K X.mg Hf H o Q
theorem one_of {K : PySem.W.Frag} {mg : Str → Option Value} {os : List O} {vs : List V} {d : D} (h : RVws K mg Hf H os vs) (e : O.datas os = [d]) : ∃ o v, os = [o] ∧ vs = [v] ∧ o.data = d ∧ RVw K mg Hf H o v := by
  match os, h, e with
  | [o], h, e =>
    simp only [O.datas] at e
    rw [RVws] at h
    obtain ⟨v, vr, e1, h1, h2⟩ := h
    rw [RVws] at h2
    subst e1 h2
    cases e
    exact ⟨o, v, rfl, rfl, rfl, h1⟩
  | [], _, e => simp [O.datas] at e
  | _ :: _ :: _, _, e => simp [O.datas] at e
theorem two_of {K : PySem.W.Frag} {mg : Str → Option Value} {os : List O} {vs : List V} {d e' : D} (h : RVws K mg Hf H os vs) (e : O.datas os = [d, e']) : ∃ o v o' v', os = [o, o'] ∧ vs = [v, v'] ∧ o.data = d ∧ o'.data = e' ∧ RVw K mg Hf H o v ∧ RVw K mg Hf H o' v' := by
  match os, h, e with
  | [o, o'], h, e =>
    simp only [O.datas] at e
    rw [RVws] at h
    obtain ⟨v, vr, e1, h1, h2⟩ := h
    rw [RVws] at h2
    obtain ⟨v', vr', e2, h3, h4⟩ := h2
    rw [RVws] at h4
    subst e1 e2 h4
    cases e
    exact ⟨o, v, o', v', rfl, rfl, rfl, rfl, h1, h3⟩
  | [], _, e => simp [O.datas] at e
  | [_], _, e => simp [O.datas] at e
  | _ :: _ :: _ :: _, _, e => simp [O.datas] at e
end

section
variable {X : Cx}
theorem each_reads {pins : List (Addr × Obj)} {σ : L2.St} {H : Hp} {s : Shared} (I : Inv X pins σ H s) : ∀ {ds : List D} {vs : List V} {its : List Value}, PyData.plainAll ds = true → Reps X.K X.mg H vs ds → Vals vs its → PySem.W.EachIs (fun v b => ∃ as, Reads s.heap v (id b) as) its ds
  | _, _, _, _, .nil, .nil => .nil
  | _, _, _, p, .cons h1 h2, .cons r1 r2 => by
    simp only [PyData.plainAll, Bool.and_eq_true] at p
    exact .cons (Rep.reads I _ _ _ p.1 h1 r1) (each_reads I p.2 h2 r2)
theorem each_rep {K : PySem.W.Frag} {mg : Str → Option Value} {H : Hp} : ∀ {ds : List D} {vs : List V} {its : List Value}, Reps K mg H vs ds → Vals vs its → PySem.W.EachIs (fun v b => ∃ z, RelV z v ∧ Rep K mg H z b) its ds
  | _, _, _, .nil, .nil => .nil
  | _, _, _, .cons h1 h2, .cons r1 r2 => .cons ⟨_, r1, h1⟩ (each_rep h2 r2)
theorem each_out {K : PySem.W.Frag} {mg : Str → Option Value} {H : Hp} : ∀ {ds : List D} {its : List Value}, PySem.W.EachIs (fun v b => ∃ z, RelV z v ∧ Rep K mg H z b) its ds → ∃ zs, Vals zs its ∧ Reps K mg H zs ds
  | _, _, .nil => ⟨[], .nil, .nil⟩
  | _, _, .cons ⟨z, r, g⟩ t => by
    obtain ⟨zs, r2, g2⟩ := each_out t
    exact ⟨z :: zs, .cons r r2, .cons g g2⟩
/-! texts -/
theorem from_len : ∀ (ts : List Str) (k : Nat) (acc : Str), (textFrom k acc ts).length ≤ acc.length + piled ts
  | [], _, acc => by rw [textFrom, piled_nil]; omega
  | t :: ts, k, acc => by
    rw [textFrom, piled_cons]
    have h1 := from_len ts (k + 1) (acc ++ (if k > 0 then ", " else "" : String) ++ t)
    rw [Str.length_append, Str.length_append] at h1
    have h2 : (((if k > 0 then ", " else "" : String) : String) : Str).length ≤ 2 := by split <;> decide
    omega
theorem list_len (ts : List Str) : (listText ts).length ≤ piled ts + 2 := by
  unfold listText
  rw [Str.length_append]
  have := from_len ts 0 ("[" : String)
  have e1 : (("[" : String) : Str).length = 1 := by decide
  have e2 : (("]" : String) : Str).length = 1 := by decide
  omega
theorem tup_len (ts : List Str) : (tupleText ts).length ≤ piled ts + 3 := by
  unfold tupleText
  rw [Str.length_append, Str.length_append]
  have e1 : (("(" : String) : Str).length = 1 := by decide
  have e2 : (((if ts.length == 1 then ",)" else ")" : String) : String) : Str).length ≤ 2 := by split <;> decide
  have e3 : (Str.join ", " ts).length ≤ piled ts := by
    cases ts with
    | nil => decide
    | cons t ts => have := join_length_add (t :: ts) (by simp); omega
  omega
mutual
theorem shown_ok : ∀ d : D, wsz d ≤ lim → PyData.showable d = true ∧ PyData.hasDict d = false ∧ (PyData.shown d).length ≤ wsz d
  | .none, _ => ⟨by simp [PyData.showable], by simp [PyData.hasDict], by rw [PyData.shown, wsz]; decide⟩
  | .bool b, _ => ⟨by simp [PyData.showable], by simp [PyData.hasDict], by rw [PyData.shown, wsz]; cases b <;> decide⟩
  | .int i, h => by
    rw [wsz] at h ⊢
    split at h
    · rename_i hi
      rw [if_pos hi]
      refine ⟨by simp [PyData.showable]; omega, by simp [PyData.hasDict], ?_⟩
      rw [PyData.shown]
      have := int_text_length_le (k := 64) (by decide) hi
      show (Str.ofString (toString i)).length ≤ 65
      rw [PySem.ofString_length]
      exact this
    · exact absurd h (by unfold lim; omega)
  | .str x, h => absurd h (by rw [wsz]; unfold lim; omega)
  | .dict x, h => absurd h (by rw [wsz]; unfold lim; omega)
  | .list xs, h => by
    rw [wsz] at h ⊢
    obtain ⟨h1, h2, h3⟩ := shown_oks xs (by omega)
    refine ⟨by simp only [PyData.showable]; exact h1, by simp only [PyData.hasDict]; exact h2, ?_⟩
    rw [PyData.shown]
    exact Nat.le_trans (list_len _) (by omega)
  | .tuple xs, h => by
    rw [wsz] at h ⊢
    obtain ⟨h1, h2, h3⟩ := shown_oks xs (by omega)
    refine ⟨by simp only [PyData.showable]; exact h1, by simp only [PyData.hasDict]; exact h2, ?_⟩
    rw [PyData.shown]
    exact Nat.le_trans (tup_len _) (by omega)
theorem shown_oks : ∀ xs : List D, wszs xs ≤ lim → PyData.showableAll xs = true ∧ PyData.hasDictAll xs = false ∧ piled (PyData.shownAll xs) ≤ wszs xs
  | [], _ => ⟨by simp [PyData.showableAll], by simp [PyData.hasDictAll], by rw [PyData.shownAll, wszs, piled_nil]; exact Nat.le_refl _⟩
  | x :: xs, h => by
    rw [wszs] at h ⊢
    obtain ⟨h1, h2, h3⟩ := shown_ok x (by omega)
    obtain ⟨h4, h5, h6⟩ := shown_oks xs (by omega)
    refine ⟨by simp only [PyData.showableAll, h1, h4]; rfl, by simp only [PyData.hasDictAll, h2, h5]; rfl, ?_⟩
    rw [PyData.shownAll, piled_cons]
    omega
end
theorem units_of {n : Nat} {A : Around} (r : Room n A) : A.units + 64 < cLine := r.units
theorem biD_ok (hc : X.calm = true) (hgd : X.A.guards = some []) (hu : X.A.units + 64 < cLine) (f : Bi) : CallR X f.val (rB X f) := by
  intro pins s σ H vs us Q I r h
  obtain ⟨Hf, os, o, sb, vw, fl, he, q⟩ := h
  have hh := I.ok.hd hc
  generalize ed : O.datas os = ds at he
  unfold biF at he
  split at he
  · -- len list
    cases he
    obtain ⟨o1, v1, e1, e2, e3, g⟩ := one_of vw ed
    subst e1 e2
    obtain ⟨a, ws, e4, h1, r1⟩ := g.list sb (by simpa using fl) e3
    subst e4
    refine call_len_seq pins s σ H _ us Q I r ⟨a, ws, rfl, .inl (SqL.of h1), ?_⟩
    rw [r1.length]
    exact q.int
  · cases he
    obtain ⟨o1, v1, e1, e2, e3, g⟩ := one_of vw ed
    subst e1 e2
    obtain ⟨a, ws, e4, h1, r1⟩ := g.tuple e3
    subst e4
    refine call_len_seq pins s σ H _ us Q I r ⟨a, ws, rfl, .inr (Same.seqT sb h1), ?_⟩
    rw [r1.length]
    exact q.int
  · split at he
    · rename_i hl
      cases he
      obtain ⟨o1, v1, e1, e2, e3, g⟩ := one_of vw ed
      subst e1 e2
      rw [g.str e3] at r
      exact call_len_str pins s σ H _ us Q I r ⟨_, rfl, Nat.le_trans hl lim_le, q.int⟩
    · cases he
  · cases he
    obtain ⟨o1, v1, e1, e2, e3, g⟩ := one_of vw ed
    subst e1 e2
    rw [g.int e3] at r
    exact call_abs pins s σ H _ us Q I r ⟨_, rfl, q.int⟩
  · cases he
    obtain ⟨o1, v1, o2, v2, e1, e2, e3, e4, g, g'⟩ := two_of vw ed
    subst e1 e2
    rw [g.int e3, g'.int e4] at r
    exact call_min2 hc pins s σ H _ us Q I r ⟨_, _, rfl, q.int⟩
  · cases he
    obtain ⟨o1, v1, o2, v2, e1, e2, e3, e4, g, g'⟩ := two_of vw ed
    subst e1 e2
    rw [g.int e3, g'.int e4] at r
    exact call_max2 hc pins s σ H _ us Q I r ⟨_, _, rfl, q.int⟩
  · split at he
    · rename_i hm
      cases he
      obtain ⟨o1, v1, e1, e2, e3, g⟩ := one_of vw ed
      subst e1 e2
      obtain ⟨a, ws, e4, h1, r1⟩ := g.list sb (by simpa using fl) e3
      subst e4
      obtain ⟨m1, m2, m3⟩ := okMM_at hm
      obtain ⟨its, rv, hl, _⟩ := I.list (SqL.of (K := X.K) h1)
      obtain ⟨as, rr⟩ := Reps.reads I _ _ _ m2 (r1.mono sb) rv
      rw [Vals.ref1 r]
      exact W.min_list_data hh hl.isList (by simpa using rr) m1 (by omega) fun i v h' tk bs hi hr k => item_fin I sb r1 rv m2 hi hr k fun z gz => q.1 z _ rfl gz
    · cases he
  · split at he
    · rename_i hm
      cases he
      obtain ⟨o1, v1, e1, e2, e3, g⟩ := one_of vw ed
      subst e1 e2
      obtain ⟨a, ws, e4, h1, r1⟩ := g.list sb (by simpa using fl) e3
      subst e4
      obtain ⟨m1, m2, m3⟩ := okMM_at hm
      obtain ⟨its, rv, hl, _⟩ := I.list (SqL.of (K := X.K) h1)
      obtain ⟨as, rr⟩ := Reps.reads I _ _ _ m2 (r1.mono sb) rv
      rw [Vals.ref1 r]
      exact W.max_list_data hh hl.isList (by simpa using rr) m1 (by omega) fun i v h' tk bs hi hr k => item_fin I sb r1 rv m2 hi hr k fun z gz => q.1 z _ rfl gz
    · cases he
  · split at he
    · rename_i hm
      cases he
      obtain ⟨o1, v1, e1, e2, e3, g⟩ := one_of vw ed
      subst e1 e2
      obtain ⟨a, ws, e4, h1, r1⟩ := g.tuple e3
      subst e4
      obtain ⟨m1, m2, m3⟩ := okMM_at hm
      obtain ⟨its, rv, hl, _⟩ := I.tuple (Same.seqT sb h1)
      obtain ⟨as, rr⟩ := Reps.reads I _ _ _ m2 (r1.mono sb) rv
      rw [Vals.ref1 r]
      exact W.min_tuple_data hh hl (by simpa using rr) m1 (by omega) fun i v h' tk bs hi hr k => item_fin I sb r1 rv m2 hi hr k fun z gz => q.1 z _ rfl gz
    · cases he
  · split at he
    · rename_i hm
      cases he
      obtain ⟨o1, v1, e1, e2, e3, g⟩ := one_of vw ed
      subst e1 e2
      obtain ⟨a, ws, e4, h1, r1⟩ := g.tuple e3
      subst e4
      obtain ⟨m1, m2, m3⟩ := okMM_at hm
      obtain ⟨its, rv, hl, _⟩ := I.tuple (Same.seqT sb h1)
      obtain ⟨as, rr⟩ := Reps.reads I _ _ _ m2 (r1.mono sb) rv
      rw [Vals.ref1 r]
      exact W.max_tuple_data hh hl (by simpa using rr) m1 (by omega) fun i v h' tk bs hi hr k => item_fin I sb r1 rv m2 hi hr k fun z gz => q.1 z _ rfl gz
    · cases he
  · rename_i xs
    obtain ⟨o1, v1, e1, e2, e3, g⟩ := one_of vw ed
    subst e1 e2
    cases ei : ints? xs with
    | none => rw [ei] at he; cases he
    | some ns =>
      rw [ei] at he; cases he
      obtain ⟨a, ws, e4, h1, r1⟩ := g.list sb (by simpa using fl) e3
      subst e4
      rw [r1.ints ei] at h1
      exact cr_sum hc pins s σ H _ us Q I r ⟨a, ns, rfl, SqL.of h1, q.int⟩
  · rename_i xs
    obtain ⟨o1, v1, e1, e2, e3, g⟩ := one_of vw ed
    subst e1 e2
    cases ei : ints? xs with
    | none => rw [ei] at he; cases he
    | some ns =>
      rw [ei] at he; cases he
      obtain ⟨a, ws, e4, h1, r1⟩ := g.tuple e3
      subst e4
      rw [r1.ints ei] at h1
      exact cr_sumT hc pins s σ H _ us Q I r ⟨a, ns, rfl, Same.seqT sb h1, q.int⟩
  · rename_i xs
    obtain ⟨o1, v1, e1, e2, e3, g⟩ := one_of vw ed
    subst e1 e2
    cases ei : bools? xs with
    | none => rw [ei] at he; cases he
    | some ns =>
      rw [ei] at he; cases he
      obtain ⟨a, ws, e4, h1, r1⟩ := g.list sb (by simpa using fl) e3
      subst e4
      rw [r1.bools ei] at h1
      exact cr_all hc pins s σ H _ us Q I r ⟨a, ns, rfl, SqL.of h1, q.bool⟩
  · rename_i xs
    obtain ⟨o1, v1, e1, e2, e3, g⟩ := one_of vw ed
    subst e1 e2
    cases ei : bools? xs with
    | none => rw [ei] at he; cases he
    | some ns =>
      rw [ei] at he; cases he
      obtain ⟨a, ws, e4, h1, r1⟩ := g.list sb (by simpa using fl) e3
      subst e4
      rw [r1.bools ei] at h1
      exact cr_any hc pins s σ H _ us Q I r ⟨a, ns, rfl, SqL.of h1, q.bool⟩
  · cases he
    obtain ⟨o1, v1, e1, e2, e3, g⟩ := one_of vw ed
    subst e1 e2
    obtain ⟨a, ws, e4, h1, r1⟩ := g.list sb (by simpa using fl) e3
    subst e4
    exact call_tuple_of pins s σ H _ us Q I r ⟨a, ws, rfl, .inl ⟨SqL.of h1, fun p hp => q.2.1 p _ _ rfl hp r1⟩⟩
  · cases he
    obtain ⟨o1, v1, e1, e2, e3, g⟩ := one_of vw ed
    subst e1 e2
    obtain ⟨a, ws, e4, h1, r1⟩ := g.tuple e3
    subst e4
    exact call_tuple_of pins s σ H _ us Q I r ⟨a, ws, rfl, .inr ⟨Same.seqT sb h1, q.1 _ _ rfl (.tup h1 r1)⟩⟩
  · cases he
    obtain ⟨o1, v1, e1, e2, e3, g⟩ := one_of vw ed
    subst e1 e2
    obtain ⟨a, ws, e4, h1, r1⟩ := g.list sb (by simpa using fl) e3
    subst e4
    exact call_list_of pins s σ H _ us Q I r ⟨a, ws, rfl, .inl (SqL.of h1), fun p hp => q.2.2 p _ _ rfl hp r1⟩
  · cases he
    obtain ⟨o1, v1, e1, e2, e3, g⟩ := one_of vw ed
    subst e1 e2
    obtain ⟨a, ws, e4, h1, r1⟩ := g.tuple e3
    subst e4
    exact call_list_of pins s σ H _ us Q I r ⟨a, ws, rfl, .inr (Same.seqT sb h1), fun p hp => q.2.2 p _ _ rfl hp r1⟩
  · cases he
    obtain ⟨o1, v1, e1, e2, e3, g⟩ := one_of vw ed
    subst e1 e2
    rw [g.int e3] at r
    exact call_int1 pins s σ H _ us Q I r (.inl ⟨_, rfl, q.int⟩)
  · cases he
    obtain ⟨o1, v1, e1, e2, e3, g⟩ := one_of vw ed
    subst e1 e2
    rw [g.bool e3] at r
    exact call_int1 pins s σ H _ us Q I r (.inr ⟨_, rfl, q.int⟩)
  · split at he
    · rename_i xs hm
      cases he
      obtain ⟨o1, v1, e1, e2, e3, g⟩ := one_of vw ed
      subst e1 e2
      obtain ⟨a, ws, e4, h1, r1⟩ := g.list sb (by simpa using fl) e3
      subst e4
      unfold okSort at hm
      rw [Bool.and_eq_true] at hm
      obtain ⟨m1, m2, m3⟩ := okMM_at hm.1
      obtain ⟨its, rv, hl, hz⟩ := I.list (SqL.of (K := X.K) h1)
      have er := each_reads I m2 (r1.mono sb) rv
      have e := each_rep (K := X.K) (mg := X.mg) r1 rv
      rw [Vals.ref1 r]
      have hlen : xs.length ≤ sizeLine := by rw [← r1.length]; exact hz
      refine PySem.W.sorted_data (enc := id) (R := fun v b => ∃ z, RelV z v ∧ Rep X.K X.mg Hf z b) hl.isList e er ?_ ?_ hlen (fun b hb => ?_) fun out hout eo => ?_
      · rw [List.map_id]
        exact m1.1
      · rw [List.map_id]
        rcases Bool.or_eq_true _ _ ▸ hm.2 with h2 | h2
        · refine .inl fun d hd => ?_
          have := List.all_eq_true.mp h2 d hd
          cases d with
          | tuple ys =>
            cases ys with
            | nil => simp [fullTup] at this
            | cons y ys => exact ⟨y, ys, rfl⟩
          | _ => simp [fullTup] at this
        · refine .inr fun d hd => ⟨m1.2 d hd, fun ys ey => ?_⟩
          have := List.all_eq_true.mp h2 d hd
          rw [ey] at this
          simp [notTup] at this
      · have := depthAll_mem hb
        show X.A.units + 2 + b.depth < cLine
        omega
      · obtain ⟨zs, rz, gz⟩ := each_out eo
        obtain ⟨ep, he'⟩ := PyProof.Rows.sortedAll_at s.heap its out.toArray
        have hzl : zs.length ≤ sizeLine := by
          rw [rz.length, hout]; exact hlen
        exact ⟨.ref _, upd H (s.heap.objs.size + 1) (.lst zs), I.laid (t' := s.toks) (fun _ _ => PyProof.Rows.sortedAll_old) (Nat.le_succ _) ⟨hzl, out, ep, rz, he'⟩, rfl, q.2.2 _ _ _ rfl (I.hok.fresh (Nat.le_succ _)) gz⟩
    · cases he
  · rename_i d
    split at he
    · rename_i hm
      cases he
      obtain ⟨o1, v1, e1, e2, e3, g⟩ := one_of vw ed
      subst e1 e2
      unfold okRepr at hm
      simp only [Bool.and_eq_true, decide_eq_true_eq] at hm
      obtain ⟨⟨⟨m1, m2⟩, m3⟩, m4⟩ := hm
      have gr := g.rep sb
      rw [e3] at gr
      have key : ∀ uv : Value, RelV v1 uv → wpAny (model X.prog X.w) X.A (call (.builtin "repr") [uv]) (EP X pins σ Q) X.xe s := by
        intro uv r1
        obtain ⟨as, rr⟩ := Rep.reads I d _ _ m2 gr r1
        obtain ⟨s1, s2, s3⟩ := shown_ok d m4
        have seq : ∀ a, uv = Value.ref a → wpAny (model X.prog X.w) X.A (call (.builtin "repr") [uv]) (EP X pins σ Q) X.xe s := fun a ea => by
          subst ea
          refine repr_of_reads' rr s1 (PyData.noDict_hsm s2) hgd (by omega) (fun _ _ z => z) (fun h' u tk hk => ?_) (Nat.le_trans s3 (Nat.le_trans m4 lim_le))
          exact ⟨.str (PyData.shown d), H, I.kept hk, ⟨u, rfl⟩, q.str⟩
        have fin : ∀ x : Str, x = PyData.shown d → EP X pins σ Q (.str x s.toks) { s with toks := s.toks + 1 } := fun x ex => ⟨.str x, H, I.tok _, ⟨_, rfl⟩, by rw [ex]; exact q.str⟩
        cases d with
        | list xs =>
          obtain ⟨a, ea⟩ := PyProof.Rows.isRef_of_reads rr rfl
          exact seq a ea
        | tuple xs =>
          obtain ⟨a, ea⟩ := PyProof.Rows.isRef_of_reads rr rfl
          exact seq a ea
        | none =>
          cases gr
          cases r1
          exact PySem.P.repr_of_none (fin _ (by rw [PyData.shown]))
        | bool c =>
          cases gr
          cases r1
          exact PySem.P.repr_of_bool (fin _ (by rw [PyData.shown]))
        | int i =>
          cases gr
          obtain ⟨t, rfl⟩ := r1
          exact PySem.P.repr_of_int (by simpa [PyData.showable] using s1) (fin _ (by rw [PyData.shown]))
        | str x => cases m1
        | dict x => cases m1
      cases r with
      | cons r1 r2 =>
        cases r2
        exact key _ r1
    · cases he
  · cases he
end
end Mir
set_option Elab.async false
set_option linter.all false
set_option maxRecDepth 100000
set_option maxHeartbeats 4000000
/-! Mir, part E: the text against the syntax; single constructs. -/
namespace Mir
open PySem L2 PyProof.Rows

def notStar : Expr → Bool
  | .Starred _ _ => false
  | _ => true
def notSlice : Expr → Bool
  | .Slice _ _ _ _ => false
  | _ => true
def notSet : Expr → Bool
  | .Set _ _ _ => false
  | _ => true
def notComp : Expr → Bool
  | .ListComp _ _ _ _ => false
  | .SetComp _ _ _ _ => false
  | .DictComp _ _ _ _ _ => false
  | _ => true
/-- its truth is that of its value -/
def plainT : Expr → Bool
  | .UnaryOp .Not _ _ => false
  | .BoolOp _ _ _ => false
  | .IfExp _ _ _ _ => false
  | .Compare _ _ _ _ => false
  | _ => true
theorem star_eq {e : Expr} {es : List Expr} {env : Env} (h : notStar e = true) : starEach (e :: es) env = (false, eval e env) :: starEach es env := by
  cases e <;> first | rfl | (simp [notStar] at h)
theorem plain_any {pos : Pos} {env : Env} : ∀ {es : List Expr}, es.all notStar = true → (backTo pos (starEach es env)).any (·.1) = false
  | [], _ => rfl
  | e :: es, h => by
    rw [List.all_cons, Bool.and_eq_true] at h
    rw [star_eq h.1]
    show (false || (backTo pos (starEach es env)).any (·.1)) = false
    rw [plain_any h.2]
    rfl
theorem plain_ix {e : Expr} (h : notSlice e = true) : PlainIx e := by
  intro o i
  cases e <;> first | rfl | (simp [notSlice] at h)
theorem folded_eq {e : Expr} {env : Env} (h : notSet e = true) (x : Value) : foldedSetIterable e env x = pure x := by
  cases e <;> first | rfl | (simp [notSet] at h)
theorem plainT_eq {e : Expr} {env : Env} (h : plainT e = true) (whole : Sem Value) : isTrue e env whole = (do let v ← whole; standAt e.pos; holding [v] (truthy v)) := by
  cases e <;> first | rfl | (simp [plainT] at h; done) | (rename_i op _ _; cases op <;> first | rfl | (simp [plainT] at h))
theorem swaps_eq {e : Expr} {t : Option Expr} {l : Nat} {env : Env} (h : notComp e = true) : swapsWith e t l env = pure false := by
  cases e <;> first | rfl | (simp [notComp] at h)

def okName (x : Str) : Bool := !(x == ("__debug__" : Str)) && !(x == ("__classdict__" : Str)) && !(x == ("__name__" : Str))
theorem okName_at {x : Str} (h : okName x = true) : (x == ("__debug__" : Str)) = false ∧ (x == ("__classdict__" : Str)) = false ∧ x ≠ "__name__" := by
  unfold okName at h
  simp only [Bool.and_eq_true, Bool.not_eq_true'] at h
  exact ⟨h.1.1, h.1.2, fun e => by rw [e] at h; exact absurd h.2 (by decide)⟩
def visB (sc : Scope) (x : Str) : Bool :=
  match sc.names.lookup x with
  | some .local => true
  | some .cell => true
  | some .free => true
  | _ => false
def locB (sc : Scope) (x : Str) : Bool :=
  match sc.names.lookup x with
  | some .local => true
  | some .cell => true
  | _ => false
def glB (sc : Scope) (x : Str) : Bool :=
  match sc.names.lookup x with
  | some .globalImplicit => true
  | _ => false

structure Ctx (X : Cx) (Wx : WX) (sc : Scope) : Prop where
  calm : X.calm = true
  nd : X.N.Nodup
  look : ∀ x k, sc.names.lookup x = some k → X.env.scope.names.lookup x = some k ∨ (k = .free ∧ X.env.scope.names.lookup x = some .cell)
  fn : ∀ x, sc.names.lookup x = some .cell → X.fn x = true
  tk : Takes X Wx
section
variable {X : Cx} {Wx : WX} {sc : Scope} {x : Str}
theorem Ctx.vis (C : Ctx X Wx sc) (h : visB sc x = true) : Vis X.env.scope x := by
  unfold visB at h
  split at h
  · rename_i e
    exact (C.look _ _ e).elim .inl fun z => by cases z.1
  · rename_i e
    exact (C.look _ _ e).elim (fun z => .inr (.inl z)) fun z => by cases z.1
  · rename_i e
    exact (C.look _ _ e).elim (fun z => .inr (.inr z)) fun z => .inr (.inl z.2)
  · cases h
theorem Ctx.loc (C : Ctx X Wx sc) (h : locB sc x = true) : Loc X.env.scope x ∧ (X.fn x = true ∨ X.env.scope.names.lookup x = some .local) := by
  unfold locB at h
  split at h
  · rename_i e
    exact (C.look _ _ e).elim (fun z => ⟨.inl z, .inr z⟩) fun z => by cases z.1
  · rename_i e
    exact (C.look _ _ e).elim (fun z => ⟨.inr z, .inl (C.fn _ e)⟩) fun z => by cases z.1
  · cases h
theorem Ctx.gl (C : Ctx X Wx sc) (h : glB sc x = true) : Gl X x := by
  unfold glB at h
  split at h
  · rename_i e
    exact (C.look _ _ e).elim id fun z => by cases z.1
  · cases h
end

/-- the call of a def: what it does with arguments os -/
def outT (n : Nat) : List Nat → List O → Tau
  | i :: is, o :: os => (outT n is os).set i (some o)
  | _, _ => List.replicate n none
def spF (K : PySem.W.Frag) (mg : Str → Option Value) (io : List Nat) (call : List O → CR) : Sp := fun vs H Q E =>
  ∃ os Hf as, Rel K mg (os.map some) (vs.map some) H Hf as ∧ match call os with
    | .ok o outs => outs.length = io.length ∧ ∀ v H' Hf' as' ao, Rel K mg (outT os.length io outs) (vs.map some) H' Hf' as' → ROwn K mg Hf' H' o v ao → ao.Nodup → (∀ c ∈ ao, ¬ Wof as' c) → Stp true (Wof as) H Hf H' Hf' (fun c => Wof as' c ∨ c ∈ ao) → Q v H'
    | .ex x outs => outs.length = io.length ∧ ∀ cls dd H' Hf' as', XRep mg x cls dd → Rel K mg (outT os.length io outs) (vs.map some) H' Hf' as' → Stp true (Wof as) H Hf H' Hf' (Wof as') → E cls dd H'
    | .st => False

/-- a def keeps its promise, where no object is being shown -/
structure FnG (P : Program) (w : World) (K : PySem.W.Frag) (mg : Str → Option Value) (base : Heap) (cx : CXT) (k : Nat) (f : Addr) (fd : FuncData) (ps : List Str) (sp : Sp) : Prop where
  ln : ∀ vs H Q E, sp vs H Q E → vs.length = ps.length
  go : ∀ (A : Around) (outer : List Env) (s : Shared) (H : Hp) (args : Args) (us : List Value) (vs : List V) (Q : VK) (E : XK), A.guards = some [] → Room k A → Env0 P w K mg base A outer s H → BindsTo s fd args (ps.zip us) → Vals vs us → sp vs H Q E → codeAny (model P w) A (.call (.ref f) args) (L2.CR cx outer P w H s Q E) s
structure GOk (X : Cx) (cl : Cl) (bs fs : List Str) (n : Nat) : Prop where
  room : Room n X.A
  gd : X.A.guards = some []
  con : ∀ x d, cl.con x = some d → ∃ u v, X.mg x = some u ∧ RelV v u ∧ Rep X.K X.mg (fun _ => none) v d
  bl : ∀ x ∈ bs, X.mg x = none
  fn : ∀ f ∈ fs, ∃ fa fd ps, FnG X.prog X.w X.K X.mg X.base (L2.CX X.prog X.w) n fa fd ps (spF X.K X.mg (cl.io f) (cl.call f)) ∧ X.mg f = some (.ref fa) ∧ PySem.W.keepIn X.K (.ref fa) = true ∧ Binds X.K fd ps []

/-! ### single constructs -/
def Snd (X : Cx) (Wx : WX) (cl : Cl) (c : E) (e : Expr) : Prop := ∀ w b, (c.pure || w) = true → PE X e (RdE X Wx cl w b c)
def SndT (X : Cx) (Wx : WX) (cl : Cl) (c : E) (e : Expr) : Prop := ∀ w, (c.pure || w) = true → PT X e (RdT X Wx cl w c)
theorem noneHp {K : PySem.W.Frag} {mg : Str → Option Value} {H : Hp} {v : V} {d : D} (h : Rep K mg (fun _ => none) v d) : Rep K mg H v d := h.mono (fun _ _ e => by cases e) _ _
section
variable {X : Cx} {Wx : WX} {sc : Scope} {cl : Cl} {bs fs : List Str} {n : Nat} {pos : Pos}
theorem getO_some {τ : Tau} {i : Nat} {o : O} (h : getO τ i = some o) : τ[i]? = some (some o) := by
  unfold getO at h
  split at h
  · rename_i e; cases h; exact e
  · cases h
theorem getO_of {τ : Tau} {i : Nat} {o : O} (h : τ[i]? = some (some o)) : getO τ i = some o := by
  unfold getO; rw [h]
theorem getO_set {τ : Tau} {i j : Nat} {o : O} : getO (τ.set i (some o)) j = if j = i ∧ i < τ.length then some o else getO τ j := by
  unfold getO
  by_cases h : j = i
  · subst h
    by_cases hl : j < τ.length
    · rw [List.getElem?_set_self hl, if_pos ⟨rfl, hl⟩]
    · rw [List.getElem?_eq_none (by simpa using hl), if_neg (fun z => hl z.2), List.getElem?_eq_none (by simpa using hl)]
  · rw [List.getElem?_set_ne (Ne.symm h), if_neg (fun z => h z.1)]
theorem getO_setN {τ : Tau} {i j : Nat} : getO (τ.set i none) j = if j = i then none else getO τ j := by
  unfold getO
  by_cases h : j = i
  · subst h
    rw [if_pos rfl]
    by_cases hl : j < τ.length
    · rw [List.getElem?_set_self hl]
    · rw [List.getElem?_eq_none (by simpa using hl)]
  · rw [List.getElem?_set_ne (Ne.symm h), if_neg h]
def put (as : Nat → List Addr) (i : Nat) (ao : List Addr) : Nat → List Addr := fun j => if j = i then ao else as j
theorem put_same {as : Nat → List Addr} {i : Nat} {ao : List Addr} : put as i ao i = ao := if_pos rfl
theorem put_ne {as : Nat → List Addr} {i j : Nat} {ao : List Addr} (h : j ≠ i) : put as i ao j = as j := if_neg h
theorem Wof_put {as : Nat → List Addr} {i : Nat} {ao : List Addr} {b : Addr} (h : Wof (put as i ao) b) : Wof as b ∨ b ∈ ao := by
  obtain ⟨j, hb⟩ := h
  by_cases e : j = i
  · subst e; rw [put_same] at hb; exact .inr hb
  · rw [put_ne e] at hb; exact .inl ⟨j, hb⟩
section
variable {K : PySem.W.Frag} {mg : Str → Option Value} {τ : Tau} {σ : L2.St} {H Hf : Hp} {as : Nat → List Addr} {i : Nat} {o : O} {v : V} {ao : List Addr}
/-- a name is stored -/
theorem Rel.setO (r : Rel K mg τ σ H Hf as) (hi : i < τ.length) (h : ROwn K mg Hf H o v ao) (nd : ao.Nodup) (dj : ∀ c ∈ ao, ¬ Wof as c) : Rel K mg (τ.set i (some o)) (σ.set i (some v)) H Hf (put as i ao) := by
  refine ⟨by simp [r.len], r.sub, fun j p e => ?_, fun j e => ?_, fun j => ?_, fun j k c h1 h2 => ?_⟩
  · rw [getO_set] at e
    by_cases hj : j = i
    · subst hj
      rw [if_pos ⟨rfl, hi⟩] at e
      cases e
      rw [put_same]
      exact ⟨v, List.getElem?_set_self (by rw [← r.len]; exact hi), h⟩
    · rw [if_neg (fun z => hj z.1)] at e
      rw [put_ne hj, List.getElem?_set_ne (Ne.symm hj)]
      exact r.slot j p e
  · rw [getO_set] at e
    by_cases hj : j = i
    · subst hj; rw [if_pos ⟨rfl, hi⟩] at e; cases e
    · rw [if_neg (fun z => hj z.1)] at e
      rw [put_ne hj]
      exact r.emp j e
  · by_cases hj : j = i
    · subst hj; rw [put_same]; exact nd
    · rw [put_ne hj]; exact r.nd j
  · by_cases hj : j = i
    · subst hj
      rw [put_same] at h1
      by_cases hk : k = j
      · exact hk.symm
      · rw [put_ne hk] at h2
        exact (dj c h1 ⟨k, h2⟩).elim
    · rw [put_ne hj] at h1
      by_cases hk : k = i
      · subst hk
        rw [put_same] at h2
        exact (dj c h2 ⟨j, h1⟩).elim
      · rw [put_ne hk] at h2
        exact r.sep j k c h1 h2
theorem Rel.setD {d : D} (r : Rel K mg τ σ H Hf as) (hi : i < τ.length) (h : Rep K mg Hf v d) : Rel K mg (τ.set i (some (.d d))) (σ.set i (some v)) H Hf (put as i []) :=
  r.setO hi (by rw [ROwn]; exact ⟨rfl, h⟩) List.nodup_nil fun c hc => by cases hc
/-- a name is forgotten -/
theorem Rel.setN (r : Rel K mg τ σ H Hf as) : Rel K mg (τ.set i none) σ H Hf (put as i []) := by
  refine ⟨by simp [r.len], r.sub, fun j p e => ?_, fun j e => ?_, fun j => ?_, fun j k c h1 h2 => ?_⟩
  · rw [getO_setN] at e
    by_cases hj : j = i
    · rw [if_pos hj] at e; cases e
    · rw [if_neg hj] at e
      rw [put_ne hj]
      exact r.slot j p e
  · rw [getO_setN] at e
    by_cases hj : j = i
    · subst hj; rw [put_same]
    · rw [if_neg hj] at e
      rw [put_ne hj]
      exact r.emp j e
  · by_cases hj : j = i
    · subst hj; rw [put_same]; exact List.nodup_nil
    · rw [put_ne hj]; exact r.nd j
  · by_cases hj : j = i
    · subst hj; rw [put_same] at h1; cases h1
    · rw [put_ne hj] at h1
      by_cases hk : k = i
      · subst hk; rw [put_same] at h2; cases h2
      · rw [put_ne hk] at h2; exact r.sep j k c h1 h2
end
/-- the addresses ao are frozen -/
def frz (Hf H : Hp) (ao : List Addr) : Hp := fun b => if b ∈ ao then H b else Hf b
theorem frz_in {Hf H : Hp} {ao : List Addr} {b : Addr} (h : b ∈ ao) : frz Hf H ao b = H b := if_pos h
theorem frz_out {Hf H : Hp} {ao : List Addr} {b : Addr} (h : b ∉ ao) : frz Hf H ao b = Hf b := if_neg h
section
variable {K : PySem.W.Frag} {mg : Str → Option Value} {τ : Tau} {σ : L2.St} {H Hf H' Hf' : Hp} {as as' : Nat → List Addr} {i : Nat} {o : O} {v : V} {ao : List Addr} {w : Bool}
theorem frz_same (s : Same Hf H) : Same Hf (frz Hf H ao) := fun b u e => by
  by_cases h : b ∈ ao
  · rw [frz_in h]; exact s _ _ e
  · rw [frz_out h]; exact e
theorem frz_sub (s : Same Hf H) : Same (frz Hf H ao) H := fun b u e => by
  by_cases h : b ∈ ao
  · rw [frz_in h] at e; exact e
  · rw [frz_out h] at e; exact s _ _ e
theorem Rel.frz (r : Rel K mg τ σ H Hf as) (dj : ∀ c ∈ ao, ¬ Wof as c) : Rel K mg τ σ H (frz Hf H ao) as :=
  r.step (frz_sub r.sub) (frz_same r.sub) fun b vs hb e => ⟨e, by rw [frz_out fun z => dj b z hb]; exact (r.at hb).1⟩
theorem Stp.frz {W W' : Addr → Prop} (s : Stp w W H Hf H' Hf' W') (h0 : Same Hf' H') (hao : ∀ c ∈ ao, W c ∨ H c = none) (hW : ∀ b, W' b → W b ∨ H b = none) : Stp w W H Hf H' (Mir.frz Hf' H' ao) W' :=
  ⟨s.keep, s.grow.trans (frz_same h0), fun b u e => by
    by_cases h : b ∈ ao
    · exact .inr (hao b h)
    · rw [frz_out h] at e; exact s.froz b u e, hW⟩
/-- a result of one's own is frozen -/
theorem Res.freeze (r : Rel K mg τ σ H' Hf' as') (s : Res K mg false w H Hf as o v H' Hf' as' ao) :
    Rel K mg τ σ H' (Mir.frz Hf' H' ao) as' ∧ Rep K mg (Mir.frz Hf' H' ao) v o.data ∧ Same Hf' (Mir.frz Hf' H' ao) ∧ Stp w (Wof as) H Hf H' (Mir.frz Hf' H' ao) (Wof as') := by
  obtain ⟨ow, nd, dj⟩ := s.2.1 rfl
  refine ⟨r.frz dj, ow.rep (frz_same r.sub) _ _ _ fun b hb u e => by rw [frz_in hb]; exact e, frz_same r.sub, ?_⟩
  exact s.stp.frz r.sub (fun c hc => s.2.2.own c (.inr ⟨rfl, hc⟩)) fun b hb => s.2.2.own b (.inl hb)
end
end
end Mir
set_option Elab.async false
set_option linter.all false
set_option maxRecDepth 100000
set_option maxHeartbeats 4000000
/-! Mir, part F: expressions, construct by construct. -/
namespace Mir
open PySem L2 PyProof.Rows

theorem orb {a c w : Bool} (h : (a && c || w) = true) : (a || w) = true ∧ (c || w) = true := by
  cases a <;> cases c <;> cases w <;> simp_all
theorem orw {a c w : Bool} (h : (a || c) = true) (h2 : (!a) = true → w = true) : (a || w) = true := by
  cases a <;> simp_all
theorem set_self {α : Type} {l : List (Option α)} {i : Nat} {v : Option α} (h : l[i]? = some v) : l.set i v = l := by
  obtain ⟨hl, e⟩ := List.getElem?_eq_some_iff.mp h
  rw [← e, List.set_getElem_self]
section
variable {X : Cx} {Wx : WX} {sc : Scope} {cl : Cl} {bs fs : List Str} {n : Nat} {pos : Pos}
section
variable {K : PySem.W.Frag} {mg : Str → Option Value} {τ : Tau} {σ : L2.St} {H Hf H' Hf' : Hp} {as as' : Nat → List Addr} {i : Nat} {o : O} {v : V} {ao : List Addr} {w : Bool}
/-- what a name owns is frozen -/
theorem Rel.frzSlot (r : Rel K mg τ σ H Hf as) (e : getO τ i = some o) (ev : σ[i]? = some (some v)) (h : ROwn K mg Hf H o v (as i)) :
    Rel K mg (τ.set i (some (.d o.data))) σ H (Mir.frz Hf H (as i)) (put as i []) ∧ Rep K mg (Mir.frz Hf H (as i)) v o.data ∧ Stp w (Wof as) H Hf H (Mir.frz Hf H (as i)) (Wof (put as i [])) := by
  have dj : ∀ c ∈ as i, ¬ Wof (put as i []) c := fun c hc ⟨j, hj⟩ => by
    by_cases e : j = i
    · subst e; rw [put_same] at hj; cases hj
    · rw [put_ne e] at hj; exact e (r.sep j i c hj hc)
  have rp : Rep K mg (Mir.frz Hf H (as i)) v o.data := h.rep (frz_same r.sub) _ _ _ fun b hb u e => by rw [frz_in hb]; exact e
  have r2 := (r.setN (i := i)).frz (ao := as i) dj
  have hl : i < (τ.set i none).length := by
    rw [List.length_set]
    exact (List.getElem?_eq_some_iff.mp (getO_some e)).1
  have r3 := r2.setD hl rp
  rw [List.set_set, set_self ev] at r3
  have ep : put (put as i []) i [] = put as i [] := by
    funext j
    by_cases e : j = i
    · subst e; rw [put_same, put_same]
    · rw [put_ne e, put_ne e]
  rw [ep] at r3
  have hw : ∀ b, Wof (put as i []) b → Wof as b := fun b hb => (Wof_put hb).elim id fun z => by cases z
  exact ⟨r3, rp, (Stp.refl hw).frz r.sub (fun c hc => .inl ⟨i, hc⟩) fun b hb => .inl (hw b hb)⟩
end
theorem Stp.keepW {b : Bool} {w : Bool} {W W' : Addr → Prop} {H Hf H' Hf' : Hp} (s : Stp w W H Hf H' Hf' W') : Stp w W H Hf H' Hf' (fun c => W' c ∨ (b = false ∧ c ∈ ([] : List Addr))) := s.sub fun c z => z.elim id fun z => by cases z.2
theorem snd_val {c : E} {e : Expr} {v : V} {d : D} (h : PE X e (tC v)) (ev : ∀ b τ, evalG cl b c τ = .ok (.d d) τ) (r : ∀ Hf, Rep X.K X.mg Hf v d) : Snd X Wx cl c e := fun w b _ => h.imp fun σ H Q q => by
  obtain ⟨τ, Hf, as, rel, q⟩ := q
  rw [ev] at q
  exact q v H Hf as [] rel (Res.val rel (r Hf))
theorem snd_loc {i : Nat} {x : Str} (C : Ctx X Wx sc) (hN : X.N[i]? = some x) (hv : visB sc x = true) (ho : okName x = true) : Snd X Wx cl (.loc i) (.Name x pos) := fun w b _ => by
  obtain ⟨h1, h2, _⟩ := okName_at ho
  refine (pe_var hN (C.vis hv) h1 h2).imp fun σ H Q q => ?_
  obtain ⟨τ, Hf, as, rel, q⟩ := q
  rw [evalG] at q
  cases e : getO τ i with
  | none => rw [e] at q; exact q.elim
  | some o =>
    rw [e] at q
    obtain ⟨v, ev, ow⟩ := rel.slot i o e
    refine ⟨v, ev, ?_⟩
    cases b with
    | true => exact q v H Hf as [] rel ⟨ow.vw, (fun z => by cases z), Stp.refl fun c z => z.elim id fun z => by cases z.1⟩
    | false =>
      obtain ⟨r, rp, st⟩ := rel.frzSlot (w := w) e ev ow
      exact q v H _ _ [] r ⟨by rw [RVw]; exact rp, fun _ => ⟨by rw [ROwn]; exact ⟨rfl, rp⟩, List.nodup_nil, fun c hc => by cases hc⟩, st.keepW⟩
theorem snd_con {x : Str} (C : Ctx X Wx sc) (G : GOk X cl bs fs n) (hg : glB sc x = true) (ho : okName x = true) : Snd X Wx cl (.con x) (.Name x pos) := fun w b _ => by
  obtain ⟨h1, h2, _⟩ := okName_at ho
  cases e : cl.con x with
  | none =>
    refine ⟨fun pins s σ H Q I q => ?_⟩
    obtain ⟨τ, Hf, as, rel, q⟩ := q
    rw [evalG, e] at q
    exact q.elim
  | some d =>
    obtain ⟨u, v, hm, rv, rp⟩ := G.con x d e
    refine (pe_glob (C.gl hg) hm rv h1).imp fun σ H Q q => ?_
    obtain ⟨τ, Hf, as, rel, q⟩ := q
    rw [evalG, e] at q
    exact q v H Hf as [] rel (Res.val rel (noneHp rp))
theorem wpure {a c : Bool} {w : Bool} (h : (c || w) = true) : (!c) = true → w = true := fun z => by cases c <;> simp_all
/-- two parts, one behind the other -/
theorem two_parts {β : Type} {a c : E} {w : Bool} (hw : (c.pure || w) = true) {k : O → O → Tau → R β} {P : β → Tau → Prop} {R' : V → V → Hp → Prop} {τ : Tau} {σ : L2.St} {H Hf : Hp} {as : Nat → List Addr} (rel : Rel X.K X.mg τ σ H Hf as)
    (q : RdM X.K X.mg Wx w σ H Hf as ((evalG cl c.pure a τ).andThen fun x τ => (evalG cl true c τ).andThen fun y τ => k x y τ) P)
    (fin : ∀ x y τ2 v u H2 Hf2 as2, Rel X.K X.mg τ2 σ H2 Hf2 as2 → RVw X.K X.mg Hf2 H2 x v → RVw X.K X.mg Hf2 H2 y u → Stp w (Wof as) H Hf H2 Hf2 (Wof as2) → RdM X.K X.mg Wx w σ H2 Hf2 as2 (k x y τ2) P → R' v u H2) :
    RdE X Wx cl w c.pure a σ H fun v H1 => RdE X Wx cl (!c.pure) true c σ H1 fun u H2 => R' v u H2 := by
  have wc := wpure (a := true) hw
  refine ⟨τ, Hf, as, rel, q.bind.imp fun x τ1 q => ?_⟩
  intro v H1 Hf1 as1 ao1 r1 s1
  have q2 : RdM X.K X.mg Wx w σ H1 Hf1 as1 ((evalG cl true c τ1).andThen fun y τ => k x y τ) P := q.rebase s1.2.2 (fun _ z => .inl z) id
  have q3 : RdM X.K X.mg Wx (!c.pure) σ H1 Hf1 as1 (evalG cl true c τ1) (fun y τ2 => RdM X.K X.mg Wx w σ H1 Hf1 as1 (k x y τ2) P) := by
    have z := q2.bind
    exact z.rebase (Stp.refl (W' := Wof as1) fun _ z => z) (fun _ z => z) wc
  refine ⟨τ1, Hf1, as1, r1, q3.imp fun y τ2 q => ?_⟩
  intro u H2 Hf2 as2 ao2 r2 s2
  have vx := s1.keepVw s2.2.2 (fun z => by rw [z] <;> rfl)
  refine fin x y τ2 v u H2 Hf2 as2 r2 vx s2.1 ((s1.2.2.trans (fun _ z => .inl z) (s2.2.2.weak wc)).sub fun _ z => .inl z) ?_
  exact q.rebase (s2.2.2.weak wc) (fun _ z => .inl z) id
/-- an outcome that is there already, from an earlier state -/
theorem PostE.from {b w : Bool} {σ : L2.St} {H Hf H1 Hf1 : Hp} {as as1 : Nat → List Addr} {o : O} {τ' : Tau} {Q : VK} (q : PostE X.K X.mg b w σ H Hf as Q o τ') (s : Stp w (Wof as) H Hf H1 Hf1 (Wof as1)) : PostE X.K X.mg b w σ H1 Hf1 as1 Q o τ' :=
  fun v' H' Hf' as' ao' r' s' => q v' H' Hf' as' ao' r' (Res.from s (fun _ z => z) id s')
section
variable {K : PySem.W.Frag} {mg : Str → Option Value} {w : Bool} {σ : L2.St} {H Hf : Hp} {as : Nat → List Addr} {τ : Tau}
theorem flatD_at {o : O} {f : D → Tau → R O} {P : O → Tau → Prop} (h : RdM K mg Wx w σ H Hf as (flatD o τ f) P) : o.flat = true ∧ RdM K mg Wx w σ H Hf as (f o.data τ) P := by
  unfold flatD at h
  cases e : o.flat with
  | true => rw [e] at h; exact ⟨rfl, h⟩
  | false => rw [e] at h; exact h.elim
theorem ofO_at {x : Option O} {P : O → Tau → Prop} (h : RdM K mg Wx w σ H Hf as (R.ofO x τ) P) : ∃ o, x = some o ∧ P o τ := by
  cases x with
  | none => exact h.elim
  | some o => exact ⟨o, rfl, h⟩
theorem ofB_at {x : Option Bool} {P : O → Tau → Prop} (h : RdM K mg Wx w σ H Hf as (R.ofB x τ) P) : ∃ k, x = some k ∧ P (.d (.bool k)) τ := by
  cases x with
  | none => exact h.elim
  | some o => exact ⟨o, rfl, h⟩
end
theorem snd_bin {op : Operator} {a c : E} {e1 e2 : Expr} (ha : Snd X Wx cl a e1) (hc : Snd X Wx cl c e2) : Snd X Wx cl (.bin op a c) (.BinOp e1 op e2 pos) := fun w b hp => by
  have hp := orb (show (a.pure && c.pure || w) = true by simpa [E.pure] using hp)
  refine (pe_op (opD_ok op) (ha w c.pure hp.1) (hc (!c.pure) true (by cases c.pure <;> rfl))).imp fun σ H Q q => ?_
  obtain ⟨τ, Hf, as, rel, q⟩ := q
  rw [evalG] at q
  refine two_parts hp.2 rel q fun x y τ2 v u H2 Hf2 as2 r2 vx vy st q => ?_
  obtain ⟨fx, q⟩ := flatD_at q
  obtain ⟨fy, q⟩ := flatD_at q
  obtain ⟨o, e, q⟩ := ofO_at q
  exact ⟨Hf2, x, y, o, r2.sub, vx, vy, fx, fy, e, Fin.of r2 (PostE.from q st)⟩
theorem val_bool {b w : Bool} {σ : L2.St} {H Hf H2 Hf2 : Hp} {as as2 : Nat → List Addr} {Q : VK} {k : Bool} {τ2 : Tau} (r2 : Rel X.K X.mg τ2 σ H2 Hf2 as2) (st : Stp w (Wof as) H Hf H2 Hf2 (Wof as2)) (q : PostE X.K X.mg b w σ H Hf as Q (.d (.bool k)) τ2) : Q (.bl k) H2 :=
  (Fin.of r2 (PostE.from q st)).bool
theorem snd_cmp {op : CmpOp} {a c : E} {e1 e2 : Expr} (hu : X.A.units + 64 < cLine) (hb : behindInMarks op e2 = false) (ha : Snd X Wx cl a e1) (hc : Snd X Wx cl c e2) : Snd X Wx cl (.cmp op a c) (.Compare e1 [op] [e2] pos) := fun w b hp => by
  have hp := orb (show (a.pure && c.pure || w) = true by simpa [E.pure] using hp)
  refine (pe_cmpR (cmpD_ok hu op) (ha w c.pure hp.1) (hc (!c.pure) true (by cases c.pure <;> rfl)) hb).imp fun σ H Q q => ?_
  obtain ⟨τ, Hf, as, rel, q⟩ := q
  rw [evalG] at q
  refine two_parts hp.2 rel q fun x y τ2 v u H2 Hf2 as2 r2 vx vy st q => ?_
  obtain ⟨k, e, q⟩ := ofB_at q
  exact ⟨Hf2, x, y, k, r2.sub, vx, vy, e, val_bool r2 st q⟩
theorem asB_bind {r : R O} {P : Bool → Tau → Prop} {K : PySem.W.Frag} {mg : Str → Option Value} {w : Bool} {σ : L2.St} {H Hf : Hp} {as : Nat → List Addr} (q : RdM K mg Wx w σ H Hf as (asB r) P) : RdM K mg Wx w σ H Hf as r (fun o τ' => ∃ k, o = .d (.bool k) ∧ P k τ') := by
  cases r with
  | ok o τ' =>
    cases o with
    | d x =>
      cases x with
      | bool k => exact ⟨k, rfl, q⟩
      | _ => exact q.elim
    | _ => exact q.elim
  | ex x τ' => exact q
  | st => exact q.elim
theorem sndT_cmp {op : CmpOp} {a c : E} {e1 e2 : Expr} (hu : X.A.units + 64 < cLine) (hb : behindInMarks op e2 = false) (ha : Snd X Wx cl a e1) (hc : Snd X Wx cl c e2) : SndT X Wx cl (.cmp op a c) (.Compare e1 [op] [e2] pos) := fun w hp => by
  have hp := orb (show (a.pure && c.pure || w) = true by simpa [E.pure] using hp)
  refine (pt_cmpR (cmpD_ok hu op) (ha w c.pure hp.1) (hc (!c.pure) true (by cases c.pure <;> rfl)) hb).imp fun σ H Q q => ?_
  obtain ⟨τ, Hf, as, rel, q⟩ := q
  have q := asB_bind q
  rw [evalG] at q
  refine two_parts (R' := fun v u H2 => rC X op v u H2 fun x' H' => ∃ k, x' = .bl k ∧ Q k H') hp.2 rel q fun x y τ2 v u H2 Hf2 as2 r2 vx vy st q => ?_
  obtain ⟨k, e, q⟩ := ofB_at q
  · obtain ⟨k', e2, q⟩ := q
    cases e2
    exact ⟨Hf2, x, y, k, r2.sub, vx, vy, e, k, rfl, q H2 Hf2 as2 r2 st⟩
/-- a test that is its value's truth -/
theorem sndT_val {c : E} {e : Expr} (h : Snd X Wx cl c e) (hp : plainT e = true) : SndT X Wx cl c e := fun w hw => by
  refine (pt_val (h w true hw) (fun whole => plainT_eq hp whole)).imp fun σ H Q q => ?_
  obtain ⟨τ, Hf, as, rel, q⟩ := q
  refine ⟨τ, Hf, as, rel, (asB_bind q).imp fun o τ' q => ?_⟩
  obtain ⟨k, e1, q⟩ := q
  subst e1
  intro v H' Hf' as' ao r s
  have e2 : v = .bl k := (s.1).bool rfl
  exact ⟨k, e2, q H' Hf' as' r s.stp⟩
theorem sndT_not {a : E} {e : Expr} (h : SndT X Wx cl a e) : SndT X Wx cl (.not a) (.UnaryOp .Not e pos) := fun w hw => by
  refine (pt_not (h w (by simpa [E.pure] using hw))).imp fun σ H Q q => ?_
  obtain ⟨τ, Hf, as, rel, q⟩ := q
  have q := asB_bind q
  rw [evalG] at q
  refine ⟨τ, Hf, as, rel, q.bind.imp fun k τ' q => ?_⟩
  intro H' Hf' as' r s
  obtain ⟨k', e1, q⟩ := q
  cases e1
  exact q H' Hf' as' r s
theorem snd_not {a : E} {e : Expr} (h : Snd X Wx cl a e) : Snd X Wx cl (.not a) (.UnaryOp .Not e pos) := fun w b hw => by
  refine (pe_not (h w true (by simpa [E.pure] using hw))).imp fun σ H Q q => ?_
  obtain ⟨τ, Hf, as, rel, q⟩ := q
  rw [evalG] at q
  refine ⟨τ, Hf, as, rel, (asB_bind q.bind).imp fun o τ' q => ?_⟩
  obtain ⟨k, e1, q⟩ := q
  subst e1
  intro v H' Hf' as' ao r s
  exact ⟨k, (s.1).bool rfl, val_bool r s.stp q⟩
theorem snd_neg {a : E} {e : Expr} (h : Snd X Wx cl a e) : Snd X Wx cl (.neg a) (.UnaryOp .USub e pos) := fun w b hw => by
  refine (pe_un un_neg (h w true (by simpa [E.pure] using hw))).imp fun σ H Q q => ?_
  obtain ⟨τ, Hf, as, rel, q⟩ := q
  rw [evalG] at q
  refine ⟨τ, Hf, as, rel, q.bind.imp fun o τ' q => ?_⟩
  intro v H' Hf' as' ao r s
  cases o with
  | d x =>
    cases x with
    | int i => exact ⟨i, (s.1).int rfl, (Fin.of r (PostE.from q s.stp)).int⟩
    | _ => exact q.elim
  | _ => exact q.elim
theorem snd_ix {a c : E} {e1 e2 : Expr} (hs : notSlice e2 = true) (ha : Snd X Wx cl a e1) (hc : Snd X Wx cl c e2) : Snd X Wx cl (.ix a c) (.Subscript e1 e2 pos) := fun w b hp => by
  have hp := orb (show (a.pure && c.pure || w) = true by simpa [E.pure] using hp)
  refine (pe_ix ixD_ok (ha w c.pure hp.1) (hc (!c.pure) true (by cases c.pure <;> rfl)) (plain_ix hs)).imp fun σ H Q q => ?_
  obtain ⟨τ, Hf, as, rel, q⟩ := q
  rw [evalG] at q
  refine two_parts hp.2 rel q fun x y τ2 v u H2 Hf2 as2 r2 vx vy st q => ?_
  cases e : ixO x y.data with
  | none => rw [e] at q; exact q.elim
  | some o =>
    rw [e] at q
    refine ⟨Hf2, x, y, o, r2.sub, vx, vy, e, fun z vz => ?_⟩
    have q : RdM X.K X.mg Wx w σ H2 Hf2 as2 (if (b || o.isD) = true then R.ok o τ2 else R.st) (PostE X.K X.mg b w σ H Hf as Q) := q
    by_cases hb : (b || o.isD) = true
    · rw [if_pos hb] at q
      refine PostE.from q st z H2 Hf2 as2 [] r2 ⟨vz, fun eb => ?_, Stp.keepW (Stp.refl fun _ z => z)⟩
      subst eb
      cases o with
      | d d =>
        rw [RVw] at vz
        exact ⟨by rw [ROwn]; exact ⟨rfl, vz⟩, List.nodup_nil, fun c hc => by cases hc⟩
      | l _ => simp [O.isD] at hb
      | m _ => simp [O.isD] at hb
    · rw [if_neg hb] at q; exact q.elim
end
end Mir
set_option Elab.async false
set_option linter.all false
set_option maxRecDepth 100000
set_option maxHeartbeats 4000000
/-! Mir, part G: lists of parts, displays, built-ins, isinstance, slices, and, or. -/
namespace Mir
open PySem L2 PyProof.Rows

def Es.len : Es → Nat
  | .nil => 0
  | .cons _ es => es.len + 1
section
variable {X : Cx} {Wx : WX} {sc : Scope} {cl : Cl} {bs fs : List Str} {n : Nat} {pos : Pos}
theorem evalOs_len : ∀ (es : Es) (b : Bool) (τ : Tau) (os : List O) (τ' : Tau), evalOs cl b es τ = .ok os τ' → os.length = es.len
  | .nil, b, τ, os, τ', h => by rw [evalOs] at h; cases h; rfl
  | .cons e es, b, τ, os, τ', h => by
    rw [evalOs] at h
    cases e1 : evalG cl b e τ with
    | ok o τ1 =>
      rw [e1] at h
      have h : (evalOs cl b es τ1).andThen (fun os τ => R.ok (o :: os) τ) = .ok os τ' := h
      cases e2 : evalOs cl b es τ1 with
      | ok ps τ2 =>
        rw [e2] at h
        cases h
        rw [List.length_cons, evalOs_len es b τ1 ps _ e2]
        rfl
      | ex x τ2 => rw [e2] at h; cases h
      | st => rw [e2] at h; cases h
    | ex x τ1 => rw [e1] at h; cases h
    | st => rw [e1] at h; cases h
inductive AllSnd (X : Cx) (Wx : WX) (cl : Cl) : Es → List Expr → Prop
  | nil : AllSnd X Wx cl .nil []
  | cons {c : E} {e : Expr} {cs : Es} {es : List Expr} : notStar e = true → Snd X Wx cl c e → SndT X Wx cl c e → AllSnd X Wx cl cs es → AllSnd X Wx cl (.cons c cs) (e :: es)
theorem AllSnd.star {cs : Es} {es : List Expr} (h : AllSnd X Wx cl cs es) : es.all notStar = true := by
  induction h with
  | nil => rfl
  | cons h1 _ _ _ ih => rw [List.all_cons, h1, ih]; rfl
/-- several results -/
def ResL (K : PySem.W.Frag) (mg : Str → Option Value) (b w : Bool) (H Hf : Hp) (as : Nat → List Addr) (os : List O) (vs : List V) (H' Hf' : Hp) (as' : Nat → List Addr) (ao : List Addr) : Prop :=
  RVws K mg Hf' H' os vs ∧ (b = false → ROwns K mg Hf' H' os vs ao ∧ ao.Nodup ∧ ∀ c ∈ ao, ¬ Wof as' c) ∧ Stp w (Wof as) H Hf H' Hf' (fun c => Wof as' c ∨ (b = false ∧ c ∈ ao))
def RdOs (X : Cx) (Wx : WX) (cl : Cl) (w b : Bool) (es : Es) : TA := fun σ H Q => ∃ τ Hf as, Rel X.K X.mg τ σ H Hf as ∧ RdM X.K X.mg Wx w σ H Hf as (evalOs cl b es τ)
  (fun os τ' => ∀ vs H' Hf' as' ao, Rel X.K X.mg τ' σ H' Hf' as' → ResL X.K X.mg b w H Hf as os vs H' Hf' as' ao → Q vs H')
theorem ROwns.after {K : PySem.W.Frag} {mg : Str → Option Value} {w : Bool} {H Hf H' Hf' : Hp} {as : Nat → List Addr} {os : List O} {vs : List V} {ao : List Addr} (h : ROwns K mg Hf H os vs ao) (dj : ∀ c ∈ ao, ¬ Wof as c) {W' : Addr → Prop} (s : Stp w (Wof as) H Hf H' Hf' W') : ROwns K mg Hf' H' os vs ao := by
  refine h.keep s.grow _ _ _ (fun c hc u e => ⟨s.keep c u e fun _ => dj c hc, ?_⟩)
  cases q : Hf' c with
  | none => rfl
  | some z =>
    rcases s.froz c z q with q | q | q
    · rw [(h.at _ _ _ c hc).1] at q; cases q
    · exact (dj c hc q).elim
    · rw [e] at q; cases q
theorem pa_os : ∀ {es : Es} {xs : List Expr}, AllSnd X Wx cl es xs → ∀ w b, (es.pure || w) = true → (b = true → es.pure = true) → PA X xs (RdOs X Wx cl w b es)
  | _, _, .nil, w, b, _, _ => pa_nil.imp fun σ H Q q => by
    obtain ⟨τ, Hf, as, rel, q⟩ := q
    rw [evalOs] at q
    refine q [] H Hf as [] rel ⟨by rw [RVws], fun _ => ⟨by rw [ROwns]; exact ⟨rfl, rfl⟩, List.nodup_nil, fun c hc => by cases hc⟩, Stp.keepW (Stp.refl fun _ z => z)⟩
  | _, _, .cons (c := c) (cs := cs) hs h1 _ ht, w, b, hp, hb => by
    have hp' := orb (show (c.pure && cs.pure || w) = true by simpa [Es.pure] using hp)
    cases b with
    | false =>
      refine (pa_cons (h1 w false hp'.1) (pa_os ht w false hp'.2 fun z => by cases z) (star_eq hs)).imp fun σ H Q q => ?_
      obtain ⟨τ, Hf, as, rel, q⟩ := q
      rw [evalOs] at q
      refine ⟨τ, Hf, as, rel, q.bind.imp fun o τ1 q => ?_⟩
      intro v H1 Hf1 as1 ao1 r1 s1
      refine ⟨τ1, Hf1, as1, r1, ((q.rebase s1.2.2 (fun _ z => .inl z) id).bind).imp fun os τ2 q => ?_⟩
      intro vs H2 Hf2 as2 ao2 r2 s2
      obtain ⟨ow1, nd1, dj1⟩ := s1.2.1 rfl
      obtain ⟨ow2, nd2, dj2⟩ := s2.2.1 rfl
      have ow := ow1.after dj1 s2.2.2
      have own : ROwns X.K X.mg Hf2 H2 (o :: os) (v :: vs) (ao1 ++ ao2) := by
        rw [ROwns]; exact ⟨v, vs, ao1, ao2, rfl, rfl, ow, ow2⟩
      have new2 : ∀ c ∈ ao1, c ∉ ao2 := fun c h1 h2 => by
        obtain ⟨_, ws, e⟩ := ow1.at _ _ _ c h1
        rcases s2.2.2.own c (.inr ⟨rfl, h2⟩) with z | z
        · exact dj1 c h1 z
        · rw [e] at z; cases z
      refine q (v :: vs) H2 Hf2 as2 (ao1 ++ ao2) r2 ⟨own.vw, fun _ => ⟨own, List.nodup_append.mpr ⟨nd1, nd2, fun a ha b hb e => new2 a ha (e ▸ hb)⟩, fun c hc => ?_⟩, ?_⟩
      · rcases List.mem_append.mp hc with h | h
        · intro z
          obtain ⟨_, ws, e⟩ := ow1.at _ _ _ c h
          rcases s2.2.2.own c (.inl z) with z | z
          · exact dj1 c h z
          · rw [e] at z; cases z
        · exact dj2 c h
      · have st := s1.2.2.trans (fun _ z => .inl z) s2.2.2
        refine ⟨st.keep, st.grow, st.froz, fun c z => ?_⟩
        rcases z with z | ⟨_, z⟩
        · exact st.own c (.inl z)
        · rcases List.mem_append.mp z with z | z
          · exact s1.2.2.own c (.inr ⟨rfl, z⟩)
          · exact st.own c (.inr ⟨rfl, z⟩)
    | true =>
      have hpp : c.pure = true ∧ cs.pure = true := by simpa [Es.pure] using hb rfl
      refine (pa_cons (h1 w true hp'.1) (pa_os ht false true (by rw [hpp.2] <;> rfl) fun _ => hpp.2) (star_eq hs)).imp fun σ H Q q => ?_
      obtain ⟨τ, Hf, as, rel, q⟩ := q
      rw [evalOs] at q
      refine ⟨τ, Hf, as, rel, q.bind.imp fun o τ1 q => ?_⟩
      intro v H1 Hf1 as1 ao1 r1 s1
      refine ⟨τ1, Hf1, as1, r1, ((q.rebase s1.2.2 (fun _ z => .inl z) (fun z => by cases z)).bind).imp fun os τ2 q => ?_⟩
      intro vs H2 Hf2 as2 ao2 r2 s2
      refine q (v :: vs) H2 Hf2 as2 [] r2 ⟨?_, (fun z => by cases z), ?_⟩
      · rw [RVws]; exact ⟨v, vs, rfl, s1.1.after s2.2.2, s2.1⟩
      · exact Stp.keepW ((s1.2.2.trans (fun _ z => .inl z) (s2.2.2.weak fun z => by cases z)).sub fun _ z => .inl z)
theorem RdM.eq {K : PySem.W.Frag} {mg : Str → Option Value} {α : Type} {w : Bool} {σ : L2.St} {H Hf : Hp} {as : Nat → List Addr} {r : R α} {P : α → Tau → Prop} (h : RdM K mg Wx w σ H Hf as r P) : RdM K mg Wx w σ H Hf as r (fun a τ' => r = .ok a τ' ∧ P a τ') := by
  cases r with
  | ok a τ' => exact ⟨rfl, h⟩
  | ex x τ' => exact h
  | st => exact h
theorem datas_eq : ∀ os : List O, O.datas os = os.map O.data
  | [] => by rw [O.datas] <;> rfl
  | o :: os => by rw [O.datas, datas_eq os] <;> rfl
theorem snd_tup {es : Es} {xs : List Expr} {k : Nat} (hl : es.len ≤ 1000) (A : AllSnd X Wx cl es xs) : Snd X Wx cl (.tup es) (.Tuple xs k pos) := fun w b hp => by
  refine (pe_tup (pa_os A w false (by simpa [E.pure] using hp) fun z => by cases z)).imp fun σ H Q q => ?_
  obtain ⟨τ, Hf, as, rel, q⟩ := q
  rw [evalG] at q
  refine ⟨τ, Hf, as, rel, q.bind.eq.imp fun os τ1 ⟨eo, q⟩ => ?_⟩
  intro vs H1 Hf1 as1 ao r s
  obtain ⟨ow, nd, dj⟩ := s.2.1 rfl
  have el : vs.length = es.len := by rw [s.1.length, evalOs_len es false τ os τ1 eo]
  refine ⟨by rw [el, sizeLine_eq]; omega, fun p hp => ?_⟩
  have rf := r.frz (ao := ao) dj
  have rp : Reps X.K X.mg (frz Hf1 H1 ao) vs (O.datas os) := ow.rep (frz_same r.sub) _ _ _ fun b hb u e => by rw [frz_in hb]; exact e
  have st : Stp w (Wof as) H Hf H1 (frz Hf1 H1 ao) (Wof as1) := (s.2.2.sub fun _ z => .inl z).frz r.sub (fun c hc => s.2.2.own c (.inr ⟨rfl, hc⟩)) fun c z => s.2.2.own c (.inl z)
  refine (PostE.from q st) _ _ _ as1 [] (rf.newF hp) (Res.newF rf hp ?_)
  exact .tup (.inl (.inl upd_same)) (rp.mono (fun b u e => by rw [upd_ne (ne_of_none (rf.sub _ _ e) hp)]; exact e) _ _)
theorem snd_lst {es : Es} {xs : List Expr} (hl : es.len ≤ 1000) (A : AllSnd X Wx cl es xs) : Snd X Wx cl (.lst es) (.List xs pos) := fun w b hp => by
  refine (pe_lst (pa_os A w false (by simpa [E.pure] using hp) fun z => by cases z)).imp fun σ H Q q => ?_
  obtain ⟨τ, Hf, as, rel, q⟩ := q
  rw [evalG] at q
  refine ⟨τ, Hf, as, rel, q.bind.eq.imp fun os τ1 ⟨eo, q⟩ => ?_⟩
  intro vs H1 Hf1 as1 ao r s
  obtain ⟨ow, nd, dj⟩ := s.2.1 rfl
  have el : vs.length = es.len := by rw [s.1.length, evalOs_len es false τ os τ1 eo]
  refine ⟨by rw [el, sizeLine_eq]; omega, fun p hp => ?_⟩
  have nl := Res.newL r hp ow nd dj
  refine q (.ref p) _ Hf1 as1 (p :: ao) (r.new hp) ⟨nl.1, fun _ => nl.2, ?_⟩
  have st := s.2.2.trans (W1' := fun c => Wof as1 c ∨ (false = false ∧ c ∈ ao)) (fun _ z => z) (Stp.new (w := w) (Hf := Hf1) (o := HO.lst vs) (W' := fun c => Wof as1 c ∨ (b = false ∧ c ∈ p :: ao)) hp fun c z => ?_)
  · exact st
  · rcases z with z | ⟨_, z⟩
    · exact .inl (.inl z)
    · rcases List.mem_cons.mp z with z | z
      · exact .inr z
      · exact .inl (.inr ⟨rfl, z⟩)
/-! ### and, or -/
def RdA (X : Cx) (Wx : WX) (cl : Cl) (isAnd w b : Bool) (es : Es) : TE := fun σ H Q => ∃ τ Hf as, Rel X.K X.mg τ σ H Hf as ∧ RdM X.K X.mg Wx w σ H Hf as (if isAnd then evalAnd cl b es τ else evalOr cl b es τ) (PostE X.K X.mg b w σ H Hf as Q)
def RdAT (X : Cx) (Wx : WX) (cl : Cl) (isAnd w : Bool) (es : Es) : TT := fun σ H Q => ∃ τ Hf as, Rel X.K X.mg τ σ H Hf as ∧ RdM X.K X.mg Wx w σ H Hf as (asB (if isAnd then evalAnd cl true es τ else evalOr cl true es τ))
  (fun k τ' => ∀ H' Hf' as', Rel X.K X.mg τ' σ H' Hf' as' → Stp w (Wof as) H Hf H' Hf' (Wof as') → Q k H')
theorem vac {e : Expr} {t : TE} (h : ∀ σ H Q, t σ H Q → False) : PE X e t := ⟨fun _ _ σ H Q _ q => (h σ H Q q).elim⟩
theorem snd_and : ∀ {es : Es} {xs : List Expr}, AllSnd X Wx cl es xs → ∀ w b, (es.pure || w) = true → PE X (.BoolOp .And xs pos) (RdA X Wx cl true w b es)
  | _, _, .nil, w, b, _ => vac fun σ H Q q => by
    obtain ⟨τ, Hf, as, rel, q⟩ := q
    rw [if_pos rfl, evalAnd] at q
    exact q
  | _, _, .cons (c := c) (cs := cs) hs h1 _ ht, w, b, hp => by
    have hp' := orb (show (c.pure && cs.pure || w) = true by simpa [Es.pure] using hp)
    cases ht with
    | nil =>
      refine (pe_one (h1 w b hp'.1)).imp fun σ H Q q => ?_
      obtain ⟨τ, Hf, as, rel, q⟩ := q
      rw [if_pos rfl, evalAnd, if_pos (show Es.nil.isNil = true from rfl)] at q
      exact ⟨τ, Hf, as, rel, q⟩
    | cons hs2 h2 h2' ht2 =>
      rename_i c2 e2 cs2 es2
      refine (pe_and (h1 w true hp'.1) (snd_and (.cons hs2 h2 h2' ht2) w b hp'.2)).imp fun σ H Q q => ?_
      obtain ⟨τ, Hf, as, rel, q⟩ := q
      rw [if_pos rfl, evalAnd, if_neg (show ¬ (Es.cons c2 cs2).isNil = true from Bool.false_ne_true)] at q
      refine ⟨τ, Hf, as, rel, (asB_bind q.bind).imp fun o τ1 q => ?_⟩
      obtain ⟨k, e1, q⟩ := q
      subst e1
      intro v H1 Hf1 as1 ao1 r1 s1
      refine ⟨k, s1.1.bool rfl, ?_⟩
      cases k with
      | true =>
        rw [if_pos rfl] at q ⊢
        refine ⟨τ1, Hf1, as1, r1, ?_⟩
        rw [if_pos rfl]
        exact (q.rebase s1.2.2 (fun _ z => .inl z) id).imp fun o τ2 q => PostE.from q s1.stp
      | false =>
        rw [if_neg Bool.false_ne_true] at q ⊢
        exact val_bool r1 s1.stp q
theorem snd_or : ∀ {es : Es} {xs : List Expr}, AllSnd X Wx cl es xs → ∀ w b, (es.pure || w) = true → PE X (.BoolOp .Or xs pos) (RdA X Wx cl false w b es)
  | _, _, .nil, w, b, _ => vac fun σ H Q q => by
    obtain ⟨τ, Hf, as, rel, q⟩ := q
    rw [if_neg Bool.false_ne_true, evalOr] at q
    exact q
  | _, _, .cons (c := c) (cs := cs) hs h1 _ ht, w, b, hp => by
    have hp' := orb (show (c.pure && cs.pure || w) = true by simpa [Es.pure] using hp)
    cases ht with
    | nil =>
      refine (pe_one (h1 w b hp'.1)).imp fun σ H Q q => ?_
      obtain ⟨τ, Hf, as, rel, q⟩ := q
      rw [if_neg Bool.false_ne_true, evalOr, if_pos (show Es.nil.isNil = true from rfl)] at q
      exact ⟨τ, Hf, as, rel, q⟩
    | cons hs2 h2 h2' ht2 =>
      rename_i c2 e2 cs2 es2
      refine (pe_or (h1 w true hp'.1) (snd_or (.cons hs2 h2 h2' ht2) w b hp'.2)).imp fun σ H Q q => ?_
      obtain ⟨τ, Hf, as, rel, q⟩ := q
      rw [if_neg Bool.false_ne_true, evalOr, if_neg (show ¬ (Es.cons c2 cs2).isNil = true from Bool.false_ne_true)] at q
      refine ⟨τ, Hf, as, rel, (asB_bind q.bind).imp fun o τ1 q => ?_⟩
      obtain ⟨k, e1, q⟩ := q
      subst e1
      intro v H1 Hf1 as1 ao1 r1 s1
      refine ⟨k, s1.1.bool rfl, ?_⟩
      cases k with
      | false =>
        rw [if_neg Bool.false_ne_true] at q ⊢
        refine ⟨τ1, Hf1, as1, r1, ?_⟩
        rw [if_neg Bool.false_ne_true]
        exact (q.rebase s1.2.2 (fun _ z => .inl z) id).imp fun o τ2 q => PostE.from q s1.stp
      | true =>
        rw [if_pos rfl] at q ⊢
        exact val_bool r1 s1.stp q
theorem _root_.L2.PW.imp {X : Cx} {e : Expr} {t t' : TT} (h : PW X e t) (i : ∀ σ H Q, t' σ H Q → t σ H Q) : PW X e t' := ⟨fun wh pins s σ H Q I q => h.run wh pins s σ H Q I (i σ H Q q)⟩
theorem vacW {e : Expr} {t : TT} (h : ∀ σ H Q, t σ H Q → False) : PW X e t := ⟨fun _ _ _ σ H Q _ q => (h σ H Q q).elim⟩
theorem asB_of {K : PySem.W.Frag} {mg : Str → Option Value} {r : R O} {P : Bool → Tau → Prop} {w : Bool} {σ : L2.St} {H Hf : Hp} {as : Nat → List Addr} (q : RdM K mg Wx w σ H Hf as r (fun o τ' => ∃ k, o = .d (.bool k) ∧ P k τ')) : RdM K mg Wx w σ H Hf as (asB r) P := by
  cases r with
  | ok o τ' =>
    obtain ⟨k, e, q⟩ := q
    subst e
    exact q
  | ex x τ' => exact q
  | st => exact q.elim
theorem sndT_and : ∀ {es : Es} {xs : List Expr}, AllSnd X Wx cl es xs → ∀ w, (es.pure || w) = true → PW X (.BoolOp .And xs pos) (RdAT X Wx cl true w es)
  | _, _, .nil, w, _ => vacW fun σ H Q q => by
    obtain ⟨τ, Hf, as, rel, q⟩ := q
    rw [if_pos rfl, evalAnd] at q
    exact q
  | _, _, .cons (c := c) (cs := cs) hs _ h1 ht, w, hp => by
    have hp' := orb (show (c.pure && cs.pure || w) = true by simpa [Es.pure] using hp)
    cases ht with
    | nil =>
      refine (pw_and1 (h1 w hp'.1)).imp fun σ H Q q => ?_
      obtain ⟨τ, Hf, as, rel, q⟩ := q
      rw [if_pos rfl, evalAnd, if_pos (show Es.nil.isNil = true from rfl)] at q
      exact ⟨τ, Hf, as, rel, q⟩
    | cons hs2 h2 h2' ht2 =>
      rename_i c2 e2 cs2 es2
      refine (pw_and (h1 w hp'.1) (sndT_and (.cons hs2 h2 h2' ht2) w hp'.2)).imp fun σ H Q q => ?_
      obtain ⟨τ, Hf, as, rel, q⟩ := q
      have q := asB_bind q
      rw [if_pos rfl, evalAnd, if_neg (show ¬ (Es.cons c2 cs2).isNil = true from Bool.false_ne_true)] at q
      refine ⟨τ, Hf, as, rel, q.bind.imp fun k τ1 q => ?_⟩
      intro H1 Hf1 as1 r1 s1
      cases k with
      | true =>
        rw [if_pos rfl] at q ⊢
        refine ⟨τ1, Hf1, as1, r1, ?_⟩
        rw [if_pos rfl]
        refine asB_of ((q.rebase s1 (fun _ z => z) id).imp fun o τ2 q => ?_)
        obtain ⟨k, e, q⟩ := q
        exact ⟨k, e, fun H' Hf' as' r' s' => q H' Hf' as' r' (s1.trans (fun _ z => z) s')⟩
      | false =>
        rw [if_neg Bool.false_ne_true] at q ⊢
        obtain ⟨k, e, q⟩ := q
        cases e
        exact q H1 Hf1 as1 r1 s1
theorem sndT_or : ∀ {es : Es} {xs : List Expr}, AllSnd X Wx cl es xs → ∀ w, (es.pure || w) = true → PW X (.BoolOp .Or xs pos) (RdAT X Wx cl false w es)
  | _, _, .nil, w, _ => vacW fun σ H Q q => by
    obtain ⟨τ, Hf, as, rel, q⟩ := q
    rw [if_neg Bool.false_ne_true, evalOr] at q
    exact q
  | _, _, .cons (c := c) (cs := cs) hs _ h1 ht, w, hp => by
    have hp' := orb (show (c.pure && cs.pure || w) = true by simpa [Es.pure] using hp)
    cases ht with
    | nil =>
      refine (pw_or1 (h1 w hp'.1)).imp fun σ H Q q => ?_
      obtain ⟨τ, Hf, as, rel, q⟩ := q
      rw [if_neg Bool.false_ne_true, evalOr, if_pos (show Es.nil.isNil = true from rfl)] at q
      exact ⟨τ, Hf, as, rel, q⟩
    | cons hs2 h2 h2' ht2 =>
      rename_i c2 e2 cs2 es2
      refine (pw_or (h1 w hp'.1) (sndT_or (.cons hs2 h2 h2' ht2) w hp'.2)).imp fun σ H Q q => ?_
      obtain ⟨τ, Hf, as, rel, q⟩ := q
      have q := asB_bind q
      rw [if_neg Bool.false_ne_true, evalOr, if_neg (show ¬ (Es.cons c2 cs2).isNil = true from Bool.false_ne_true)] at q
      refine ⟨τ, Hf, as, rel, q.bind.imp fun k τ1 q => ?_⟩
      intro H1 Hf1 as1 r1 s1
      cases k with
      | false =>
        rw [if_neg Bool.false_ne_true] at q ⊢
        refine ⟨τ1, Hf1, as1, r1, ?_⟩
        rw [if_neg Bool.false_ne_true]
        refine asB_of ((q.rebase s1 (fun _ z => z) id).imp fun o τ2 q => ?_)
        obtain ⟨k, e, q⟩ := q
        exact ⟨k, e, fun H' Hf' as' r' s' => q H' Hf' as' r' (s1.trans (fun _ z => z) s')⟩
      | true =>
        rw [if_pos rfl] at q ⊢
        obtain ⟨k, e, q⟩ := q
        cases e
        exact q H1 Hf1 as1 r1 s1
end
end Mir
set_option Elab.async false
set_option linter.all false
set_option maxRecDepth 100000
set_option maxHeartbeats 4000000
/-! Mir, part H: built-ins, isinstance, slices, chains, choices, mutators. -/
namespace Mir
open PySem L2 PyProof.Rows

theorem boot_bi (f : Bi) : bootBuiltins (Str.ofString f.name) = some f.val := by cases f <;> decide +kernel
section
variable {X : Cx} {Wx : WX} {sc : Scope} {cl : Cl} {bs fs : List Str} {n : Nat} {pos p : Pos}
theorem snd_bi {f : Bi} {es : Es} {xs : List Expr} {x : Str} (C : Ctx X Wx sc) (G : GOk X cl bs fs n) (hx : x = Str.ofString f.name) (hin : x ∈ bs) (hg : glB sc x = true) (ho : okName x = true) (A : AllSnd X Wx cl es xs) :
    Snd X Wx cl (.bi f es) (.Call (.Name x p) xs [] pos) := fun w b hp => by
  have hpe : (es.pure || w) = true := by simpa [E.pure] using hp
  obtain ⟨h1, h2, h3⟩ := okName_at ho
  have hu := G.room.units
  cases A with
  | nil =>
    refine vac fun σ H Q q => ?_
    obtain ⟨τ, Hf, as, rel, q⟩ := q
    rw [evalG, evalOs] at q
    cases f <;> exact q
  | cons hs s1 s2 t =>
    rename_i c e cs es'
    have A : AllSnd X Wx cl (.cons c cs) (e :: es') := .cons hs s1 s2 t
    have pa := pa_os A w (Es.cons c cs).pure hpe id
    have key : ∀ σ H Q, RdE X Wx cl w b (.bi f (.cons c cs)) σ H Q → tCB (rB X f) (RdOs X Wx cl w (Es.cons c cs).pure (.cons c cs)) σ H Q := fun σ H Q q => by
      obtain ⟨τ, Hf, as, rel, q⟩ := q
      rw [evalG] at q
      refine ⟨τ, Hf, as, rel, q.bind.imp fun os τ1 q => ?_⟩
      intro vs H1 Hf1 as1 ao r s
      cases fl : os.all O.flat with
      | false => rw [fl] at q; exact q.elim
      | true =>
        rw [fl] at q
        have q : RdM X.K X.mg Wx w σ H Hf as (R.ofO (biF f (O.datas os)) τ1) (PostE X.K X.mg b w σ H Hf as Q) := q
        obtain ⟨o, e, q⟩ := ofO_at q
        exact ⟨Hf1, os, o, r.sub, s.1, fl, e, Fin.of r (PostE.from q (s.2.2.sub fun _ z => .inl z))⟩
    have hb := boot_bi f
    have hm := G.bl x hin
    have hgl := C.gl hg
    have hpl := plain_any (pos := pos) (env := X.env) (AllSnd.star t)
    have hst := star_eq (es := es') (env := X.env) hs
    subst hx
    cases f with
    | tuple => exact (pe_callTy (biD_ok C.calm G.gd hu .tuple) hgl hm hb pa h3 h1 hst hpl).imp key
    | list => exact (pe_callTy (biD_ok C.calm G.gd hu .list) hgl hm hb pa h3 h1 hst hpl).imp key
    | int => exact (pe_callTy (biD_ok C.calm G.gd hu .int) hgl hm hb pa h3 h1 hst hpl).imp key
    | len => exact (pe_callB (biD_ok C.calm G.gd hu .len) hgl hm hb pa h3 h1 hst hpl).imp key
    | abs => exact (pe_callB (biD_ok C.calm G.gd hu .abs) hgl hm hb pa h3 h1 hst hpl).imp key
    | min => exact (pe_callB (biD_ok C.calm G.gd hu .min) hgl hm hb pa h3 h1 hst hpl).imp key
    | max => exact (pe_callB (biD_ok C.calm G.gd hu .max) hgl hm hb pa h3 h1 hst hpl).imp key
    | sum => exact (pe_callB (biD_ok C.calm G.gd hu .sum) hgl hm hb pa h3 h1 hst hpl).imp key
    | all => exact (pe_callB (biD_ok C.calm G.gd hu .all) hgl hm hb pa h3 h1 hst hpl).imp key
    | any => exact (pe_callB (biD_ok C.calm G.gd hu .any) hgl hm hb pa h3 h1 hst hpl).imp key
    | sorted => exact (pe_callB (biD_ok C.calm G.gd hu .sorted) hgl hm hb pa h3 h1 hst hpl).imp key
    | repr => exact (pe_callB (biD_ok C.calm G.gd hu .repr) hgl hm hb pa h3 h1 hst hpl).imp key

/-! ### isinstance -/
def tyN : D → String
  | .none => "NoneType" | .bool _ => "bool" | .int _ => "int" | .str _ => "str" | .list _ => "list" | .tuple _ => "tuple" | .dict _ => "dict"
theorem ty_of {K : PySem.W.Frag} {mg : Str → Option Value} {H : Hp} {v : V} {d : D} (r : Rep K mg H v d) (h : ∀ kvs, d ≠ .dict kvs) : TyX K H v (.type (tyN d)) := by
  cases r with
  | non => exact .base .non
  | bl b => exact .base (.bl b)
  | int i => exact .base (.int i)
  | str x => exact .base (.str x)
  | lst h1 _ => exact .base (.lst h1)
  | tup h1 _ =>
    rcases h1 with (h1 | ⟨o, h1⟩) | ⟨o, its, m, h1, h2, _⟩
    · exact .base (.tup h1)
    · exact .fTuple h1
    · exact .kTuple h1 h2
  | fn _ => exact (h _ rfl).elim
  | scr _ _ => exact (h _ rfl).elim
  | dct _ _ _ _ _ _ _ => exact (h _ rfl).elim
def tyO : D → Option Ty
  | .none => none | .bool _ => some .bool | .int _ => some .int | .str _ => some .str | .list _ => some .list | .tuple _ => some .tuple | .dict _ => some .dict
def nmO : Option Ty → String
  | none => "NoneType"
  | some t => t.name
def isO : Option Ty → Ty → Bool
  | none, _ => false
  | some .bool, t => t == .bool || t == .int
  | some a, t => t == a
theorem tyN_eq (d : D) : tyN d = nmO (tyO d) := by cases d <;> rfl
theorem isTy_eq {d : D} {t : Ty} {r : Bool} (h : isTy d t = some r) : r = isO (tyO d) t ∧ tyO d ≠ some .dict := by
  cases d with
  | dict kvs => rw [isTy] at h; cases h
  | none => rw [isTy] at h; cases h; exact ⟨rfl, by decide⟩
  | bool _ => rw [isTy] at h; cases h; exact ⟨rfl, by simp [tyO]⟩
  | int _ => rw [isTy] at h; cases h; exact ⟨rfl, by simp [tyO]⟩
  | str _ => rw [isTy] at h; cases h; exact ⟨rfl, by simp [tyO]⟩
  | list _ => rw [isTy] at h; cases h; exact ⟨rfl, by simp [tyO]⟩
  | tuple _ => rw [isTy] at h; cases h; exact ⟨rfl, by simp [tyO]⟩
theorem kit_o : ∀ (o : Option Ty) (t : Ty), o ≠ some .dict → L2.kitB (nmO o) t.name = some (isO o t) := by
  intro o t h
  cases o with
  | none => cases t <;> decide +kernel
  | some a => cases a <;> first | exact absurd rfl h | (cases t <;> decide +kernel)
theorem isTy_kit {K : PySem.W.Frag} {d : D} {t : Ty} {r : Bool} (h : isTy d t = some r) : (∀ kvs, d ≠ .dict kvs) ∧ PySem.W.kitOne K (.type (tyN d)) (.type t.name) = some r := by
  obtain ⟨e, nd⟩ := isTy_eq h
  refine ⟨fun kvs e => by subst e; exact nd rfl, kit_ty ?_⟩
  rw [tyN_eq, e]
  exact kit_o _ _ nd
theorem isAny_at {K : PySem.W.Frag} {d : D} : ∀ {ts : List Ty} {r : Bool}, isAny d ts = some r → ts ≠ [] → PySem.W.kitAny K (.type (tyN d)) (ts.map fun t => .type t.name) = some r ∧ ∀ kvs, d ≠ .dict kvs
  | [], _, _, h => (h rfl).elim
  | [t], r, h, _ => by
    simp only [isAny] at h
    cases e : isTy d t with
    | none => rw [e] at h; cases h
    | some a =>
      rw [e] at h
      simp only [Bool.or_false, Option.some.injEq] at h
      subst h
      obtain ⟨h1, h2⟩ := isTy_kit (K := K) e
      refine ⟨?_, h1⟩
      rw [List.map_cons]
      cases a with
      | true => exact kitAny_cons h2 (fun z => by cases z) fun _ => rfl
      | false => exact kitAny_cons h2 (fun _ => by rfl) fun z => by cases z
  | t :: t2 :: ts, r, h, _ => by
    rw [isAny] at h
    cases e : isTy d t with
    | none => rw [e] at h; cases h
    | some a =>
      cases e2 : isAny d (t2 :: ts) with
      | none => rw [e, e2] at h; cases h
      | some c =>
        rw [e, e2] at h
        simp only [Option.some.injEq] at h
        subst h
        obtain ⟨h1, h2⟩ := isTy_kit (K := K) e
        obtain ⟨h3, _⟩ := isAny_at (K := K) e2 (by simp)
        refine ⟨?_, h1⟩
        rw [List.map_cons]
        cases a with
        | true => exact kitAny_cons h2 (fun z => by cases z) fun _ => rfl
        | false => exact kitAny_cons h2 (fun _ => by rw [Bool.false_or]; exact h3) fun z => by cases z
theorem boot_ty (t : Ty) : bootBuiltins (Str.ofString t.name) = some (.type t.name) := by cases t <;> decide +kernel
theorem boot_isi : bootBuiltins (Str.ofString "isinstance") = some (.builtin "isinstance") := by decide +kernel
/-- the classes' names, as arguments -/
inductive TyNames (sc : Scope) (bs : List Str) : List Ty → List Expr → Prop
  | nil : TyNames sc bs [] []
  | cons {t : Ty} {x : Str} {q : Pos} {ts : List Ty} {es : List Expr} : x = Str.ofString t.name → x ∈ bs → glB sc x = true → okName x = true → TyNames sc bs ts es → TyNames sc bs (t :: ts) (.Name x q :: es)
def tTys (ts : List Ty) : TA := fun _ H Q => Q (ts.map fun t => V.ty t.name) H
theorem pa_tys (C : Ctx X Wx sc) (G : GOk X cl bs fs n) : ∀ {ts : List Ty} {es : List Expr}, TyNames sc bs ts es → PA X es (tTys ts)
  | _, _, .nil => pa_nil.imp fun σ H Q q => q
  | _, _, .cons hx hin hg ho t => by
    obtain ⟨h1, h2, h3⟩ := okName_at ho
    subst hx
    exact (pa_cons (pe_bltn (v := V.ty _) (C.gl hg) (G.bl _ hin) (boot_ty _) rfl h3 h1) (pa_tys C G t) (star_eq rfl)).imp fun σ H Q q => q
theorem snd_isi1 {a : E} {e : Expr} {t : Ty} {x y : Str} {p2 : Pos} (C : Ctx X Wx sc) (G : GOk X cl bs fs n) (hx : x = Str.ofString "isinstance") (hin : x ∈ bs) (hg : glB sc x = true) (ho : okName x = true)
    (hs : notStar e = true) (A : Snd X Wx cl a e) (T : TyNames sc bs [t] [.Name y p2]) : Snd X Wx cl (.isi a false [t]) (.Call (.Name x p) [e, .Name y p2] [] pos) := fun w b hp => by
  obtain ⟨h1, h2, h3⟩ := okName_at ho
  have hst2 : starEach [Expr.Name y p2] X.env = (false, eval (.Name y p2) X.env) :: starEach [] X.env := star_eq rfl
  have hpl : (backTo pos (starEach [Expr.Name y p2] X.env)).any (·.1) = false := plain_any rfl
  subst hx
  refine (pe_callB call_isi (C.gl hg) (G.bl _ hin) boot_isi (pa_cons (A w true (by simpa [E.pure] using hp)) (pa_tys C G T) (star_eq hs)) h3 h1 (star_eq hs) hpl).imp fun σ H Q q => ?_
  obtain ⟨τ, Hf, as, rel, q⟩ := q
  rw [evalG] at q
  refine ⟨τ, Hf, as, rel, q.bind.imp fun o τ1 q => ?_⟩
  intro v H1 Hf1 as1 ao r s
  obtain ⟨k, e, q⟩ := ofB_at q
  have e' : isTy o.data t = some k := by
    rw [isAny] at e
    cases q : isTy o.data t with
    | none => rw [q] at e; cases e
    | some a => rw [q] at e; simpa [isAny] using e
  obtain ⟨nd, hk⟩ := isTy_kit (K := X.K) e'
  exact ⟨v, V.ty t.name, _, _, k, rfl, .ty _, ty_of (s.1.rep r.sub) nd, hk, val_bool r (s.2.2.sub fun _ z => .inl z) q⟩
theorem clsV_all : ∀ ts : List Ty, Paired ClsV (ts.map fun t => V.ty t.name) (ts.map fun t => Value.type t.name)
  | [] => .nil
  | t :: ts => .cons (.ty _) (clsV_all ts)
theorem TyNames.len {ts : List Ty} {es : List Expr} (h : TyNames sc bs ts es) : es.all notStar = true := by
  induction h with
  | nil => rfl
  | cons _ _ _ _ _ ih => rw [List.all_cons, ih]; rfl
theorem snd_isiT {a : E} {e : Expr} {ts : List Ty} {es : List Expr} {x : Str} {k : Nat} {p2 : Pos} (C : Ctx X Wx sc) (G : GOk X cl bs fs n) (hx : x = Str.ofString "isinstance") (hin : x ∈ bs) (hg : glB sc x = true) (ho : okName x = true)
    (hs : notStar e = true) (A : Snd X Wx cl a e) (T : TyNames sc bs ts es) (hn : ts ≠ []) (hl : ts.length ≤ 1000) : Snd X Wx cl (.isi a true ts) (.Call (.Name x p) [e, .Tuple es k p2] [] pos) := fun w b hp => by
  obtain ⟨h1, h2, h3⟩ := okName_at ho
  have hst2 : starEach [Expr.Tuple es k p2] X.env = (false, eval (.Tuple es k p2) X.env) :: starEach [] X.env := star_eq rfl
  have hpl : (backTo pos (starEach [Expr.Tuple es k p2] X.env)).any (·.1) = false := plain_any rfl
  subst hx
  refine (pe_callB call_isiT (C.gl hg) (G.bl _ hin) boot_isi (pa_cons (A w true (by simpa [E.pure] using hp)) (pa_cons (pe_tup (pa_tys C G T)) pa_nil hst2) (star_eq hs)) h3 h1 (star_eq hs) hpl).imp fun σ H Q q => ?_
  obtain ⟨τ, Hf, as, rel, q⟩ := q
  rw [evalG] at q
  refine ⟨τ, Hf, as, rel, q.bind.imp fun o τ1 q => ?_⟩
  intro v H1 Hf1 as1 ao r s
  obtain ⟨k, e, q⟩ := ofB_at q
  refine ⟨by rw [List.length_map, sizeLine_eq]; omega, fun tp htp => ?_⟩
  obtain ⟨hk, nd⟩ := isAny_at (K := X.K) e hn
  have rp : Rep X.K X.mg (upd H1 tp (.tup (ts.map fun t => V.ty t.name))) v o.data := (s.1.rep r.sub).mono (fun b u e => by rw [upd_ne (ne_of_none e htp)]; exact e) _ _
  refine ⟨v, tp, _, _, _, k, rfl, upd_same, clsV_all ts, ty_of rp nd, hk, ?_⟩
  have r2 := r.new (o := HO.tup (ts.map fun t => V.ty t.name)) htp
  have st2 : Stp w (Wof as1) H1 Hf1 (upd H1 tp (.tup (ts.map fun t => V.ty t.name))) Hf1 (Wof as1) := Stp.new htp fun _ z => .inl z
  exact val_bool r2 ((s.2.2.sub (W1' := Wof as1) fun _ z => .inl z).trans (fun _ z => z) st2) q

/-! ### slices -/
theorem po_any {e : Expr} {te : TE} (h : PE X e te) : PO X (some e) (fun σ H Q => te σ H fun x H1 => (x = .non ∧ Q none H1) ∨ ∃ i, x = .int i ∧ Q (some i) H1) := by
  refine ⟨fun pins s σ H Q I hw => ?_⟩
  rw [evalPart_some]
  refine thn (h.run pins s σ H _ I hw) fun u s1 hx => ?_
  obtain ⟨x, H1, I1, r1, q1 | ⟨i, e1, q1⟩⟩ := hx
  · obtain ⟨e1, q1⟩ := q1
    subst e1
    obtain rfl : u = Value.none := r1
    exact ⟨none, H1, I1, .none, q1⟩
  · subst e1
    obtain ⟨t, rfl⟩ := r1
    exact ⟨some i, H1, I1, .int i t, q1⟩
def RdP (X : Cx) (Wx : WX) (cl : Cl) (w : Bool) (c : E) : TO := fun σ H Q => ∃ τ Hf as, Rel X.K X.mg τ σ H Hf as ∧ RdM X.K X.mg Wx w σ H Hf as (evalG cl true c τ)
  (fun x τ' => ∃ l, part x.data = some l ∧ ∀ H' Hf' as', Rel X.K X.mg τ' σ H' Hf' as' → Stp w (Wof as) H Hf H' Hf' (Wof as') → Q l H')
theorem _root_.L2.PO.imp {X : Cx} {e : Option Expr} {t t' : TO} (h : PO X e t) (i : ∀ σ H Q, t' σ H Q → t σ H Q) : PO X e t' := ⟨fun pins s σ H Q I q => h.run pins s σ H Q I (i σ H Q q)⟩
inductive PartSnd (X : Cx) (Wx : WX) (cl : Cl) : E → Option Expr → Prop
  | no : PartSnd X Wx cl (.lit .none) none
  | so {c : E} {e : Expr} : Snd X Wx cl c e → PartSnd X Wx cl c (some e)
theorem po_part {c : E} {e : Option Expr} (h : PartSnd X Wx cl c e) (w : Bool) (hp : (c.pure || w) = true) : PO X e (RdP X Wx cl w c) := by
  cases h with
  | no =>
    refine po_none.imp fun σ H Q q => ?_
    obtain ⟨τ, Hf, as, rel, q⟩ := q
    rw [evalG] at q
    obtain ⟨l, e1, q⟩ := q
    cases e1
    exact q H Hf as rel (Stp.refl fun _ z => z)
  | so h =>
    refine (po_any (h w true hp)).imp fun σ H Q q => ?_
    obtain ⟨τ, Hf, as, rel, q⟩ := q
    refine ⟨τ, Hf, as, rel, q.imp fun x τ1 q => ?_⟩
    intro v H1 Hf1 as1 ao r s
    obtain ⟨l, e1, q⟩ := q
    have q := q H1 Hf1 as1 r s.stp
    generalize ed : x.data = d at e1
    unfold part at e1
    split at e1
    · cases e1
      exact .inl ⟨s.1.none ed, q⟩
    · cases e1
      exact .inr ⟨_, s.1.int ed, q⟩
    · cases e1
theorem orb3 {a c e w : Bool} (h : (a && c && e || w) = true) : (a || w) = true ∧ (c || w) = true ∧ (e || w) = true := by
  cases a <;> cases c <;> cases e <;> cases w <;> simp_all
theorem snd_sl {a lo hi : E} {e : Expr} {l h : Option Expr} {p2 : Pos} (ha : Snd X Wx cl a e) (hl : PartSnd X Wx cl lo l) (hh : PartSnd X Wx cl hi h) : Snd X Wx cl (.sl a lo hi) (.Subscript e (.Slice l h none p2) pos) := fun w b hp => by
  obtain ⟨h1, h2, h3⟩ := orb3 (show (a.pure && lo.pure && hi.pure || w) = true by simpa [E.pure] using hp)
  have wl : (!lo.pure) = true → w = true := fun z => by cases q : lo.pure <;> simp_all
  have wh : (!hi.pure) = true → w = true := fun z => by cases q : hi.pure <;> simp_all
  refine (pe_slice slD_ok (ha w (lo.pure && hi.pure) h1) (po_part hl (!lo.pure) (by cases lo.pure <;> rfl)) (po_part hh (!hi.pure) (by cases hi.pure <;> rfl))).imp fun σ H Q q => ?_
  obtain ⟨τ, Hf, as, rel, q⟩ := q
  rw [evalG] at q
  refine ⟨τ, Hf, as, rel, q.bind.imp fun x τ1 q => ?_⟩
  intro v H1 Hf1 as1 ao1 r1 s1
  have q2 := (q.rebase (w' := w) s1.2.2 (fun _ z => .inl z) id).bind
  refine ⟨τ1, Hf1, as1, r1, (q2.rebase (Stp.refl (W' := Wof as1) fun _ z => z) (fun _ z => z) wl).imp fun y τ2 q => ?_⟩
  cases ey : part y.data with
  | none => rw [ey] at q; exact q.elim
  | some l' =>
    rw [ey] at q
    refine ⟨l', rfl, fun H2 Hf2 as2 r2 s2 => ?_⟩
    have q3 := (q.rebase (w' := w) (s2.weak wl) (fun _ z => z) id).bind
    refine ⟨τ2, Hf2, as2, r2, (q3.rebase (Stp.refl (W' := Wof as2) fun _ z => z) (fun _ z => z) wh).imp fun z τ3 q => ?_⟩
    cases ez : part z.data with
    | none => rw [ez] at q; exact q.elim
    | some h' =>
      rw [ez] at q
      refine ⟨h', rfl, fun H3 Hf3 as3 r3 s3 => ?_⟩
      have s23 : Stp (!lo.pure || !hi.pure) (Wof as1) H1 Hf1 H3 Hf3 (Wof as3) := (s2.weak fun z => by rw [z] <;> rfl).trans (fun _ z => z) (s3.weak fun z => by rw [z]; cases lo.pure <;> rfl)
      have vx : RVw X.K X.mg Hf3 H3 x v := s1.keepVw s23 (fun z => by cases q : lo.pure <;> simp_all)
      have q := q.rebase (w' := w) (s3.weak wh) (fun _ z => z) id
      obtain ⟨fx, q⟩ := flatD_at q
      obtain ⟨o, e, q⟩ := ofO_at q
      have st : Stp w (Wof as) H Hf H3 Hf3 (Wof as3) := s1.stp.trans (fun _ z => z) (((s2.weak wl).trans (fun _ z => z) (s3.weak wh)))
      exact ⟨Hf3, x, o, r3.sub, vx, fx, e, Fin.of r3 (PostE.from q st)⟩
end
end Mir
set_option Elab.async false
set_option linter.all false
set_option maxRecDepth 100000
set_option maxHeartbeats 4000000
/-! Mir, part I: reversed lists, chains, choices, calls, mutators. -/
namespace Mir
open PySem L2 PyProof.Rows

/-! reversed tuples: t[::-1] -/
theorem places_rev (n : Nat) : Builtin.Slice.slicePlaces ((n : Int) - 1) (-1) (-1) = n := by
  unfold Builtin.Slice.slicePlaces
  have h1 : ¬ ((-1 : Int) > 0) := by decide
  rw [if_neg h1]
  have e : (n : Int) - 1 - -1 - 1 = (n : Int) - 1 := by omega
  rw [e, show (- -1 : Int) = 1 by decide, Int.ediv_one]
  split <;> omega
theorem pick_rev (xs : Array Value) : ((List.range xs.size).filterMap fun (m : Nat) => xs[(((xs.size : Int) - 1) + (m : Int) * (-1)).toNat]?).toArray = xs.toList.reverse.toArray := by
  have e : (fun (m : Nat) => xs[(((xs.size : Int) - 1) + (m : Int) * (-1)).toNat]?) = (fun k => xs[k]?) ∘ fun (k : Nat) => (((xs.size : Int) - 1) + (k : Int) * (-1)).toNat := rfl
  rw [e, ← List.filterMap_map]
  have e2 : (List.range xs.size).map (fun (k : Nat) => (((xs.size : Int) - 1) + (k : Int) * (-1)).toNat) = (List.range xs.size).map fun k => xs.size - 1 - k := by
    apply List.map_congr_left
    intro k hk
    have := List.mem_range.mp hk
    omega
  rw [e2, PySem.W.krv_range, List.filterMap_reverse, PySem.W.krv_all]
section
variable {prog : Program} {w : World} {A : Around} {E : Value → Shared → Prop} {s : Shared}
theorem sliceApplied_rev {sl : Addr} {vl vu vs : Value} {n : Nat} {Q : Int × Int × Nat → Shared → Prop} (hs : s.heap.IsSliceOf sl vl vu vs) (pl : IsPart vl none) (pu : IsPart vu none) (ps : IsPart vs (some (-1)))
    (h : Q ((n : Int) - 1, -1, n) s) : wpAny (model prog w) A (Builtin.Slice.sliceApplied (.ref sl) (pure (n : Int))) Q E s := by
  obtain ⟨os, hos, hcs, hds⟩ := id hs
  unfold Builtin.Slice.sliceApplied Builtin.Slice.sliceFields
  refine wpAny_bind (wpAny_bind (wpAny_field hos hds (x := vl) rfl (wpAny_bind (wpAny_field hos hds (x := vu) rfl (wpAny_bind (wpAny_field hos hds (x := vs) rfl (wpAny_pure ?_)))))))
  refine wpAny_bind (HT.slicePart_ ps ?_)
  show wpAny _ _ (if ((-1 : Int) == 0) = true then _ else _) _ _ s
  rw [if_neg (by decide)]
  refine wpAny_bind (HT.slicePart_ pl (wpAny_bind (HT.slicePart_ pu (wpAny_bind (wpAny_pure ?_)))))
  show wpAny _ _ (pure ((n : Int) - 1, (-1 : Int), Builtin.Slice.slicePlaces ((n : Int) - 1) (-1) (-1))) _ _ s
  rw [places_rev]
  exact wpAny_pure h
theorem getItem_tuple_rev {t sl : Addr} {items : Array Value} {vl vu vs : Value} {Q : Value → Shared → Prop} (ht : IsTup s.heap t items) (hs : s.heap.IsSliceOf sl vl vu vs) (pl : IsPart vl none) (pu : IsPart vu none) (ps : IsPart vs (some (-1)))
    (h : Q (.ref s.heap.objs.size) { s with heap := s.heap.push { cls := .type "tuple", data := .seq items.toList.reverse.toArray } })
    (hsz : items.size ≤ sizeLine) : wpAny (model prog w) A (getItem (.ref t) (.ref sl)) Q E s := by
  have htake : sizeOk (.seq items.toList.reverse.toArray) := by
    show items.toList.reverse.toArray.size ≤ sizeLine
    rw [List.size_toArray, List.length_reverse, Array.length_toList]
    exact hsz
  obtain ⟨os, hos, hcs, hds⟩ := id hs
  have hTs : s.TypeIs (.ref sl) "slice" := ⟨os, hos, hcs⟩
  unfold getItem
  try with_reducible refine wpAny_holding ?_
  first | refine wpAny_bind (wpAny_pure ?_) | skip
  refine wpAny_bind (wpAny_sequenceKey ht.typeIs (by decide) ?_)
  refine wpAny_bind (wpAny_callSpecial?_slot (name := Str.ofString "__getitem__") ht.typeIs PyProof.Rows.slot_tuple_getitem
    (wpAny_call_entry PyProof.Rows.slot_tuple_getitem ht.typeIs entry_tuple_getitem ?_ (args_tuple_getitem _ _)))
  show wpAny _ _ (Builtin.Tuple.tupleItemsOf (.ref t) >>= _) _ _ s
  refine wpAny_bind (tupleItemsOf_ ht ?_)
  refine wpAny_bind (wpAny_typeOf hTs ?_)
  rw [if_pos (by decide)]
  refine wpAny_bind (sliceApplied_rev hs pl pu ps ?_)
  have hno : ¬ ((((items.size : Int) - 1) == 0 && (-1 : Int) == 1 && items.size == items.size) = true) := by
    intro q
    rw [Bool.and_eq_true, Bool.and_eq_true] at q
    exact absurd (eq_of_beq q.1.2) (by decide)
  show wpAny _ _ (if (((items.size : Int) - 1) == 0 && (-1 : Int) == 1 && items.size == items.size) = true then _ else _) _ _ s
  rw [if_neg hno, pick_rev]
  first
    | exact wpAny_bind (m := Builtin.Tuple.tupleExact _) (wpAny_newObj_type (wpAny_pure ⟨_, rfl, wpAny_pure h⟩) htake)
    | exact wpAny_bind (m := Builtin.Tuple.tupleExact _) (wpAny_newObj_type (wpAny_bind (wpAny_pure (wpAny_pure ⟨_, rfl, wpAny_pure h⟩))) htake)
    | exact wpAny_bind (wpAny_bind (m := Builtin.Tuple.tupleExact _) (wpAny_newObj_type (wpAny_pure (wpAny_pure ⟨_, rfl, wpAny_pure h⟩)) htake))
    | exact wpAny_bind (wpAny_bind (m := Builtin.Tuple.tupleExact _) (wpAny_newObj_type (wpAny_pure ⟨_, rfl, wpAny_pure h⟩) htake))
end
def tRevA (K : PySem.W.Frag) (te : TE) : TE := fun σ H Q => te σ H fun x H1 => ∃ a xs, x = .ref a ∧ ((SqL K H1 a xs ∧ ∀ p, H1 p = none → Q (.ref p) (upd H1 p (.lst xs.reverse))) ∨ (SqT K H1 a xs ∧ ∀ p, H1 p = none → Q (.ref p) (upd H1 p (.tup xs.reverse))))
section
variable {X : Cx}
theorem pe_revA {e : Expr} {te : TE} {k : Nat} {p1 p2 p3 pos : Pos} (he : PE X e te) : PE X (.Subscript e (.Slice none none (some (.UnaryOp .USub (.Constant (.int 1) k p1) p2)) p3) pos) (tRevA X.K te) := by
  refine ⟨fun pins s σ H Q I h => ?_⟩
  refine Subscript_ (thn (he.run pins s σ H _ I h) fun v s1 ⟨x, H1, I1, r1, q1⟩ => ?_)
  obtain ⟨a, xs, ex, q⟩ := q1
  subst ex
  cases r1
  have hst : PO X (some (.UnaryOp .USub (.Constant (.int 1) k p1) p2)) (tPart (tUn (rU fun i => .int (-i)) (tC (.int 1)))) := po_some (pe_un un_neg pe_int)
  refine wpAny_Slice (thn (po_none.run pins s1 σ H1 (fun o H2 => o = none ∧ H2 = H1) I1 ⟨rfl, rfl⟩) fun vl s2 ⟨l, H2, I2, pl, el, e2⟩ => ?_)
  subst el e2
  refine thn (po_none.run pins s2 σ H2 (fun o H3 => o = none ∧ H3 = H2) I2 ⟨rfl, rfl⟩) fun vu s3 ⟨u, H3, I3, pu, eu, e3⟩ => ?_
  subst eu e3
  refine thn (hst.run pins s3 σ H3 (fun o H4 => o = some (-1) ∧ H4 = H3) I3 ⟨1, rfl, -1, rfl, rfl, rfl⟩) fun vs s4 ⟨o, H4, I4, ps, eo, e4⟩ => ?_
  subst eo e4
  have I5 : Inv X pins σ H4 { s4 with heap := s4.heap.push { cls := .type "slice", data := .fields #[vl, vu, vs] } } := I4.kept (t' := s4.toks) fun b ob q => Heap.get?_push_of_some _ q
  show wpAny (model X.prog X.w) X.A (subscriptTail e (.Slice none none (some (.UnaryOp .USub (.Constant (.int 1) k p1) p2)) p3) (.ref a) (.ref s4.heap.objs.size)) (EP X pins σ Q) X.xe { s4 with heap := s4.heap.push { cls := .type "slice", data := .fields #[vl, vu, vs] } }
  rcases q with ⟨hx, q⟩ | ⟨hx, q⟩
  · obtain ⟨its, r, ht, hz⟩ := I5.list hx
    have hlen := r.length
    refine tail_any (ops := [.ref a, .ref s4.heap.objs.size]) ht.isList.typeIs (PySem.slot_list_getitem.lookup) ?_ (by with_unfolding_all rfl)
    refine wpAny_getItem_list_slice ht.isList (Heap.IsSliceOf.new _ vl vu vs) pl pu ps (by decide) ?_ (by rw [List.size_toArray]; omega)
    rw [PySem.W.krv_pick]
    refine ⟨.ref _, _, I5.laid (t' := s4.toks) (o := .lst xs.reverse) (fun b ob q => Heap.get?_push_of_some _ q) (Nat.le_refl _) ?_, rfl, q _ (I5.hok.fresh (Nat.le_refl _))⟩
    exact ⟨by rw [List.length_reverse]; exact hz, _, 0, r.reverse, Heap.get?_push_size _ rfl⟩
  · obtain ⟨its, r, ht, hz⟩ := I5.tuple hx
    have hlen := r.length
    refine tail_any (ops := [.ref a, .ref s4.heap.objs.size]) ht.typeIs (PyProof.Rows.slot_tuple_getitem.lookup) ?_ (by with_unfolding_all rfl)
    refine getItem_tuple_rev ht (Heap.IsSliceOf.new _ vl vu vs) pl pu ps ?_ (by rw [List.size_toArray]; omega)
    refine ⟨.ref _, _, I5.laid (t' := s4.toks) (o := .tup xs.reverse) (fun b ob q => Heap.get?_push_of_some _ q) (Nat.le_refl _) ?_, rfl, q _ (I5.hok.fresh (Nat.le_refl _))⟩
    exact ⟨by rw [List.length_reverse]; exact hz, _, r.reverse, IsTup.new _ _⟩
end
theorem snd_rev {X : Cx} {Wx : WX} {cl : Cl} {pos : Pos} {a : E} {e : Expr} {k : Nat} {p1 p2 p3 : Pos} (ha : Snd X Wx cl a e) :
    Snd X Wx cl (.rev a) (.Subscript e (.Slice none none (some (.UnaryOp .USub (.Constant (.int 1) k p1) p2)) p3) pos) := fun w b hp => by
  refine (pe_revA (ha w true (by simpa [E.pure] using hp))).imp fun σ H Q q => ?_
  obtain ⟨τ, Hf, as, rel, q⟩ := q
  rw [evalG] at q
  refine ⟨τ, Hf, as, rel, q.bind.imp fun x τ1 q => ?_⟩
  intro v H1 Hf1 as1 ao r s
  obtain ⟨fx, q⟩ := flatD_at q
  obtain ⟨o, e1, q⟩ := ofO_at q
  generalize ed : x.data = dx at e1
  unfold revF at e1
  split at e1
  · cases e1
    obtain ⟨a, vs, ev, hl, rp⟩ := s.1.list r.sub fx ed
    exact ⟨a, vs, ev, .inl ⟨SqL.of hl, fun p hp => (Fin.of r (PostE.from q s.stp)).2.2 p _ _ rfl hp rp.reverse⟩⟩
  · cases e1
    obtain ⟨a, vs, ev, hl, rp⟩ := s.1.tuple ed
    exact ⟨a, vs, ev, .inr ⟨Same.seqT r.sub hl, fun p hp => (Fin.of r (PostE.from q s.stp)).2.1 p _ _ rfl hp rp.reverse⟩⟩
  · cases e1
section
variable {X : Cx} {Wx : WX} {sc : Scope} {cl : Cl} {bs fs : List Str} {n : Nat} {pos p : Pos}
theorem RdE.test {w : Bool} {c : E} {σ : L2.St} {H : Hp} {Q : Bool → Hp → Prop} (q : RdT X Wx cl w c σ H Q) : RdE X Wx cl w true c σ H (fun x H' => ∃ k, x = .bl k ∧ Q k H') := by
  obtain ⟨τ, Hf, as, rel, q⟩ := q
  refine ⟨τ, Hf, as, rel, (asB_bind q).imp fun o τ' q => ?_⟩
  obtain ⟨k, e1, q⟩ := q
  subst e1
  intro v H' Hf' as' ao r s
  exact ⟨k, (s.1).bool rfl, q H' Hf' as' r s.stp⟩
theorem chain_rd {op op' : CmpOp} {a c e : E} {w b : Bool} (h1 : (a.pure || w) = true) (h2 : (c.pure || w) = true) (h3 : (e.pure || w) = true) : ∀ σ H Q, RdE X Wx cl w b (.chain op op' a c e) σ H Q →
    tChain (rC X op) (rC X op') (RdE X Wx cl w (c.pure && e.pure) a) (RdE X Wx cl (!c.pure) e.pure c) (RdE X Wx cl (!e.pure) true e) σ H Q := fun σ H Q q => by
  have wc := wpure (a := true) h2
  have we := wpure (a := true) h3
  obtain ⟨τ, Hf, as, rel, q⟩ := q
  rw [evalG] at q
  refine ⟨τ, Hf, as, rel, q.bind.imp fun x τ1 q => ?_⟩
  intro v H1 Hf1 as1 ao1 r1 s1
  have q2 := (q.rebase (w' := w) s1.2.2 (fun _ z => .inl z) id).bind
  refine ⟨τ1, Hf1, as1, r1, (q2.rebase (Stp.refl (W' := Wof as1) fun _ z => z) (fun _ z => z) wc).imp fun y τ2 q => ?_⟩
  intro u H2 Hf2 as2 ao2 r2 s2
  have q := q.rebase (w' := w) (s2.2.2.weak wc) (fun _ z => .inl z) id
  have vx := s1.keepVw s2.2.2 (fun z => by cases q : c.pure <;> simp_all)
  have st2 : Stp w (Wof as) H Hf H2 Hf2 (Wof as2) := s1.stp.trans (fun _ z => z) (s2.stp.weak wc)
  cases ek : cmpF op x.data y.data with
  | none => rw [ek] at q; exact q.elim
  | some k =>
    rw [ek] at q
    refine ⟨Hf2, x, y, k, r2.sub, vx, s2.1, ek, k, rfl, ?_⟩
    cases k with
    | false =>
      rw [if_neg Bool.false_ne_true]
      exact val_bool r2 st2 q
    | true =>
      rw [if_pos rfl]
      have q3 := RdM.bind q
      refine ⟨τ2, Hf2, as2, r2, (q3.rebase (Stp.refl (W' := Wof as2) fun _ z => z) (fun _ z => z) we).imp fun z τ3 q => ?_⟩
      intro v3 H3 Hf3 as3 ao3 r3 s3
      have vy := s2.keepVw s3.2.2 (fun z => by rw [z] <;> rfl)
      have q := q.rebase (w' := w) (s3.2.2.weak we) (fun _ z => .inl z) id
      obtain ⟨k', e', q⟩ := ofB_at q
      exact ⟨Hf3, y, z, k', r3.sub, vy, s3.1, e', val_bool r3 (st2.trans (fun _ z => z) (s3.stp.weak we)) q⟩
theorem snd_chain {op op' : CmpOp} {a c e : E} {e1 e2 e3 : Expr} (hu : X.A.units + 64 < cLine) (hm : lastMarks [op, op'] [e2, e3] = false) (ha : Snd X Wx cl a e1) (hc : Snd X Wx cl c e2) (he : Snd X Wx cl e e3) :
    Snd X Wx cl (.chain op op' a c e) (.Compare e1 [op, op'] [e2, e3] pos) := fun w b hp => by
  obtain ⟨h1, h2, h3⟩ := orb3 (show (a.pure && c.pure && e.pure || w) = true by simpa [E.pure] using hp)
  exact (pe_chain (cmpD_ok hu op) (cmpD_ok hu op') (ha w _ h1) (hc (!c.pure) _ (by cases c.pure <;> rfl)) (he (!e.pure) true (by cases e.pure <;> rfl)) hm).imp (chain_rd h1 h2 h3)
theorem sndT_chain {op op' : CmpOp} {a c e : E} {e1 e2 e3 : Expr} (hu : X.A.units + 64 < cLine) (hm : lastMarks [op, op'] [e2, e3] = false) (ha : Snd X Wx cl a e1) (hc : Snd X Wx cl c e2) (he : Snd X Wx cl e e3) :
    SndT X Wx cl (.chain op op' a c e) (.Compare e1 [op, op'] [e2, e3] pos) := fun w hp => by
  obtain ⟨h1, h2, h3⟩ := orb3 (show (a.pure && c.pure && e.pure || w) = true by simpa [E.pure] using hp)
  exact (pt_chain (cmpD_ok hu op) (cmpD_ok hu op') (ha w _ h1) (hc (!c.pure) _ (by cases c.pure <;> rfl)) (he (!e.pure) true (by cases e.pure <;> rfl)) hm).imp fun σ H Q q => chain_rd h1 h2 h3 σ H _ (RdE.test q)
theorem snd_ite {c a e : E} {e1 e2 e3 : Expr} (hc : SndT X Wx cl c e1) (ha : Snd X Wx cl a e2) (he : Snd X Wx cl e e3) : Snd X Wx cl (.ite c a e) (.IfExp e1 e2 e3 pos) := fun w b hp => by
  obtain ⟨h1, h2, h3⟩ := orb3 (show (c.pure && a.pure && e.pure || w) = true by simpa [E.pure] using hp)
  refine (pe_ifExp (hc w h1) (ha w b h2) (he w b h3)).imp fun σ H Q q => ?_
  obtain ⟨τ, Hf, as, rel, q⟩ := q
  rw [evalG] at q
  refine ⟨τ, Hf, as, rel, q.bind.imp fun k τ1 q => ?_⟩
  intro H1 Hf1 as1 r1 s1
  cases k with
  | true =>
    rw [if_pos rfl] at q ⊢
    exact ⟨τ1, Hf1, as1, r1, (q.rebase (w' := w) s1 (fun _ z => z) id).imp fun o τ2 q => PostE.from q s1⟩
  | false =>
    rw [if_neg Bool.false_ne_true] at q ⊢
    exact ⟨τ1, Hf1, as1, r1, (q.rebase (w' := w) s1 (fun _ z => z) id).imp fun o τ2 q => PostE.from q s1⟩
theorem pt_ite {c : Expr} {a b : Expr} {tA tB tC : TT} (hc : PT X c tA) (ha : PT X a tB) (hb : PT X b tC) : PT X (.IfExp c a b pos) (fun σ H Q => tA σ H fun k H1 => if k = true then tB σ H1 Q else tC σ H1 Q) := by
  refine ⟨fun pins s σ H Q I h => ?_⟩
  refine isTrue_IfExp (thn (hc.run pins s σ H _ I h) fun d s1 ⟨H1, I1, q1⟩ => ?_)
  cases d with
  | true => exact ha.run pins s1 σ H1 Q I1 q1
  | false => exact hb.run pins s1 σ H1 Q I1 q1
theorem sndT_ite {c a e : E} {e1 e2 e3 : Expr} (hc : SndT X Wx cl c e1) (ha : SndT X Wx cl a e2) (he : SndT X Wx cl e e3) : SndT X Wx cl (.ite c a e) (.IfExp e1 e2 e3 pos) := fun w hp => by
  obtain ⟨h1, h2, h3⟩ := orb3 (show (c.pure && a.pure && e.pure || w) = true by simpa [E.pure] using hp)
  refine (pt_ite (hc w h1) (ha w h2) (he w h3)).imp fun σ H Q q => ?_
  obtain ⟨τ, Hf, as, rel, q⟩ := q
  have q := asB_bind q
  rw [evalG] at q
  refine ⟨τ, Hf, as, rel, q.bind.imp fun k τ1 q => ?_⟩
  intro H1 Hf1 as1 r1 s1
  cases k with
  | true =>
    rw [if_pos rfl] at q ⊢
    refine ⟨τ1, Hf1, as1, r1, asB_of ((q.rebase (w' := w) s1 (fun _ z => z) id).imp fun o τ2 q => ?_)⟩
    obtain ⟨k, e, q⟩ := q
    exact ⟨k, e, fun H' Hf' as' r' s' => q H' Hf' as' r' (s1.trans (fun _ z => z) s')⟩
  | false =>
    rw [if_neg Bool.false_ne_true] at q ⊢
    refine ⟨τ1, Hf1, as1, r1, asB_of ((q.rebase (w' := w) s1 (fun _ z => z) id).imp fun o τ2 q => ?_)⟩
    obtain ⟨k, e, q⟩ := q
    exact ⟨k, e, fun H' Hf' as' r' s' => q H' Hf' as' r' (s1.trans (fun _ z => z) s')⟩
end
end Mir
set_option Elab.async false
set_option linter.all false
set_option maxRecDepth 100000
set_option maxHeartbeats 4000000
/-! Mir, part J: calls of defs. -/
namespace Mir
open PySem L2 PyProof.Rows

section
variable {K : PySem.W.Frag} {mg : Str → Option Value} {Wx : WX} {τ τ' : Tau} {σ : L2.St} {H Hf H' Hf' : Hp} {as as' : Nat → List Addr} {w w' b : Bool} {Q : VK}
theorem Res.weak {o : O} {v : V} {ao : List Addr} (r : Res K mg b w' H Hf as o v H' Hf' as' ao) (h : w' = true → w = true) : Res K mg b w H Hf as o v H' Hf' as' ao := ⟨r.1, r.2.1, r.2.2.weak h⟩
theorem restore_at {r : Bool} {r0 : R O} (rel : Rel K mg τ σ H Hf as) (h1 : w' = true → w = true) (h2 : r = true → w' = false) (q : RdM K mg Wx w σ H Hf as (restore r τ r0) (PostE K mg b w σ H Hf as Q)) : RdM K mg Wx w' σ H Hf as r0 (PostE K mg b w' σ H Hf as Q) := by
  cases r0 with
  | st => exact q
  | ex x τ1 => exact PostX.weak q h1
  | ok o τ1 =>
    cases o with
    | l os => exact fun v H' Hf' as' ao r s => q v H' Hf' as' ao r (s.weak h1)
    | m kvs => exact fun v H' Hf' as' ao r s => q v H' Hf' as' ao r (s.weak h1)
    | d x =>
      rw [restore] at q
      cases hc : (r && noMut x) with
      | false =>
        rw [hc] at q
        exact fun v H' Hf' as' ao r s => q v H' Hf' as' ao r (s.weak h1)
      | true =>
        rw [hc] at q
        rw [Bool.and_eq_true] at hc
        have hw := h2 hc.1
        subst hw
        intro v H' Hf' as' ao r' s
        have q : PostE K mg b w σ H Hf as Q (.d x) τ := q
        classical
        obtain ⟨g, hg⟩ : ∃ g : Hp, ∀ c, (Wof as c → g c = Hf c) ∧ (¬ Wof as c → g c = Hf' c) := ⟨fun c => if Wof as c then Hf c else Hf' c, fun c => ⟨fun h => if_pos h, fun h => if_neg h⟩⟩
        have nw : ∀ c u, Hf c = some u → ¬ Wof as c := fun c u e z => by rw [(rel.at z).1] at e; cases e
        have gr : Same Hf g := fun c u e => by rw [(hg c).2 (nw c u e)]; exact s.2.2.grow c u e
        have sb : Same g H' := fun c u e => by
          by_cases z : Wof as c
          · rw [(hg c).1 z, (rel.at z).1] at e; cases e
          · rw [(hg c).2 z] at e; exact r'.sub c u e
        have kp : ∀ c u, H c = some u → H' c = some u := fun c u e => s.2.2.keep c u e fun z => by cases z
        have rel2 : Rel K mg τ σ H' g as := rel.step sb gr fun c vs hc e => ⟨kp c _ e, by rw [(hg c).1 hc]; exact (rel.at hc).1⟩
        have im : Imm Hf' g := by
          refine ⟨fun c xs e => ?_, fun c o u e => ?_⟩
          · by_cases z : Wof as c
            · obtain ⟨vs, e2, e4⟩ := rel.atO z
              have e3 := kp c _ e2
              rw [r'.sub c _ e] at e3; exact (e4.ntup xs (Option.some.inj e3).symm).elim
            · rw [(hg c).2 z]; exact e
          · by_cases z : Wof as c
            · obtain ⟨vs, e2, e4⟩ := rel.atO z
              have e3 := kp c _ e2
              rw [r'.sub c _ e] at e3; exact (e4.nfrz o u (Option.some.inj e3).symm).elim
            · rw [(hg c).2 z]; exact e
        have rp : Rep K mg g v x := by
          have z := s.1
          rw [RVw] at z
          exact Rep.imm im x v hc.2 z
        refine q v H' g as [] rel2 ⟨by rw [RVw]; exact rp, fun _ => ⟨by rw [ROwn]; exact ⟨rfl, rp⟩, List.nodup_nil, fun c hc => by cases hc⟩, ?_⟩
        refine ⟨fun c u e _ => kp c u e, gr, fun c u e => ?_, fun c z => z.elim .inl fun z => by cases z.2⟩
        by_cases z : Wof as c
        · exact .inr (.inl z)
        · rw [(hg c).2 z] at e; exact s.2.2.froz c u e
end

/-! ### arguments -/
section
variable (K : PySem.W.Frag) (mg : Str → Option Value) (τ : Tau) (σ : L2.St) (Hf : Hp)
def ArgsAt : Es → List O → List V → Prop
  | .nil, os, vs => os = [] ∧ vs = []
  | .cons e es, os, vs => ∃ o v or vr, os = o :: or ∧ vs = v :: vr ∧ ArgsAt es or vr ∧ match e.isIo with
    | some i => getO τ i = some o ∧ σ[i]? = some (some v)
    | none => ∃ d, o = .d d ∧ Rep K mg Hf v d
end
section
variable {X : Cx} {Wx : WX} {sc : Scope} {cl : Cl} {bs fs : List Str} {n : Nat} {pos p : Pos}
inductive ArgSnd (X : Cx) (Wx : WX) (cl : Cl) : Es → List Expr → Prop
  | nil : ArgSnd X Wx cl .nil []
  | io {i : Nat} {x : Str} {pos : Pos} {cs : Es} {es : List Expr} : X.N[i]? = some x → Vis X.env.scope x → okName x = true → ArgSnd X Wx cl cs es → ArgSnd X Wx cl (.cons (.io i) cs) (.Name x pos :: es)
  | cons {c : E} {e : Expr} {cs : Es} {es : List Expr} : c.isIo = none → notStar e = true → Snd X Wx cl c e → ArgSnd X Wx cl cs es → ArgSnd X Wx cl (.cons c cs) (e :: es)
theorem ArgSnd.star {cs : Es} {es : List Expr} (h : ArgSnd X Wx cl cs es) : es.all notStar = true := by
  induction h with
  | nil => rfl
  | io _ _ _ _ ih => rw [List.all_cons, ih]; rfl
  | cons _ h1 _ _ ih => rw [List.all_cons, h1, ih]; rfl
def RdAs (X : Cx) (Wx : WX) (cl : Cl) (w : Bool) (es : Es) : TA := fun σ H Q => ∃ τ Hf as, Rel X.K X.mg τ σ H Hf as ∧ RdM X.K X.mg Wx w σ H Hf as (evalAs cl es τ)
  (fun os τ' => ∀ vs H' Hf' as', Rel X.K X.mg τ' σ H' Hf' as' → ArgsAt X.K X.mg τ' σ Hf' es os vs → Stp w (Wof as) H Hf H' Hf' (Wof as') → Q vs H')
theorem pa_as : ∀ {es : Es} {xs : List Expr}, ArgSnd X Wx cl es xs → ∀ w, (es.pure || w) = true → PA X xs (RdAs X Wx cl w es)
  | _, _, .nil, w, _ => pa_nil.imp fun σ H Q q => by
    obtain ⟨τ, Hf, as, rel, q⟩ := q
    rw [evalAs] at q
    exact q [] H Hf as rel (by rw [ArgsAt]; exact ⟨rfl, rfl⟩) (Stp.refl fun _ z => z)
  | _, _, .io (i := i) (cs := cs) hN hv ho ht, w, hp => by
    have hp' := orb (show ((E.io i).pure && cs.pure || w) = true by simpa [Es.pure] using hp)
    have hw : w = true := by simpa [E.pure] using hp'.1
    subst hw
    obtain ⟨h1, h2, _⟩ := okName_at ho
    refine (pa_cons (pe_var hN hv h1 h2) (pa_as ht true (by simp)) (star_eq rfl)).imp fun σ H Q q => ?_
    obtain ⟨τ, Hf, as, rel, q⟩ := q
    rw [evalAs] at q
    have q : RdM X.K X.mg Wx true σ H Hf as (match getO τ i with
      | some _ => (evalAs cl cs τ).andThen fun os τ => match getO τ i with
        | some o => .ok (o :: os) τ
        | none => .st
      | none => .st) _ := q
    cases e0 : getO τ i with
    | none => rw [e0] at q; exact q.elim
    | some o0 =>
      rw [e0] at q
      obtain ⟨v, ev, _⟩ := rel.slot i o0 e0
      refine ⟨v, ev, τ, Hf, as, rel, (RdM.bind q).imp fun os τ1 q => ?_⟩
      intro vs H1 Hf1 as1 r1 a1 s1
      cases e1 : getO τ1 i with
      | none => rw [e1] at q; exact q.elim
      | some o =>
        rw [e1] at q
        exact q (v :: vs) H1 Hf1 as1 r1 (by rw [ArgsAt]; exact ⟨o, v, os, vs, rfl, rfl, a1, e1, ev⟩) s1
  | _, _, .cons (c := c) (cs := cs) hi hs h1 ht, w, hp => by
    have hp' := orb (show (c.pure && cs.pure || w) = true by simpa [Es.pure] using hp)
    refine (pa_cons (h1 w false hp'.1) (pa_as ht w hp'.2) (star_eq hs)).imp fun σ H Q q => ?_
    obtain ⟨τ, Hf, as, rel, q⟩ := q
    rw [evalAs, hi] at q
    refine ⟨τ, Hf, as, rel, (RdM.bind q).imp fun o τ1 q => ?_⟩
    intro v H1 Hf1 as1 ao1 r1 s1
    obtain ⟨r2, rp, _, st⟩ := s1.freeze r1
    refine ⟨τ1, _, as1, r2, ((q.rebase (w' := w) st (fun _ z => z) id).bind).imp fun os τ2 q => ?_⟩
    intro vs H2 Hf2 as2 r3 a3 s3
    exact q (v :: vs) H2 Hf2 as2 r3 (by rw [ArgsAt]; exact ⟨_, v, os, vs, rfl, rfl, a3, by rw [hi]; exact ⟨_, rfl, rp.mono s3.grow⟩⟩) (st.trans (fun _ z => z) s3)
theorem ArgsAt.len {K : PySem.W.Frag} {mg : Str → Option Value} {τ : Tau} {σ : L2.St} {Hf : Hp} : ∀ {es : Es} {os : List O} {vs : List V}, ArgsAt K mg τ σ Hf es os vs → os.length = vs.length ∧ es.kinds.length = vs.length
  | .nil, _, _, h => by
    rw [ArgsAt] at h
    obtain ⟨rfl, rfl⟩ := h
    exact ⟨rfl, rfl⟩
  | .cons e es, _, _, h => by
    rw [ArgsAt] at h
    obtain ⟨o, v, or, vr, rfl, rfl, h, _⟩ := h
    have := ArgsAt.len h
    exact ⟨by simp [this.1], by simp [Es.kinds, this.2]⟩
theorem ArgsAt.get {K : PySem.W.Frag} {mg : Str → Option Value} {τ : Tau} {σ : L2.St} {Hf : Hp} : ∀ {es : Es} {os : List O} {vs : List V}, ArgsAt K mg τ σ Hf es os vs → ∀ (p : Nat) (k : Option Nat), es.kinds[p]? = some k → ∃ (o : O) (v : V), os[p]? = some o ∧ vs[p]? = some v ∧ match k with
    | some i => getO τ i = some o ∧ σ[i]? = some (some v)
    | none => ∃ d, o = .d d ∧ Rep K mg Hf v d
  | .nil, _, _, _, p, k, e => by simp [Es.kinds] at e
  | .cons c es, _, _, h, p, k, e => by
    rw [ArgsAt] at h
    obtain ⟨o, v, or, vr, rfl, rfl, h, h2⟩ := h
    cases p with
    | zero =>
      simp only [Es.kinds, List.getElem?_cons_zero, Option.some.injEq] at e
      subst e
      exact ⟨o, v, rfl, rfl, h2⟩
    | succ p =>
      simp only [Es.kinds, List.getElem?_cons_succ] at e
      simpa using ArgsAt.get h p k e

/-! ### places -/
theorem iopK_at : ∀ (ks : List (Option Nat)) (s k p : Nat), (iopK s ks)[k]? = some p → ∃ i, (iosK ks)[k]? = some i ∧ s ≤ p ∧ ks[p - s]? = some (some i)
  | [], s, k, p, h => by simp [iopK] at h
  | none :: r, s, k, p, h => by
    rw [iopK] at h
    obtain ⟨i, h1, h2, h3⟩ := iopK_at r (s + 1) k p h
    refine ⟨i, h1, by omega, ?_⟩
    have : p - s = (p - (s + 1)) + 1 := by omega
    rw [this, List.getElem?_cons_succ]; exact h3
  | some i :: r, s, 0, p, h => by
    simp only [iopK, List.getElem?_cons_zero, Option.some.injEq] at h
    subst h
    exact ⟨i, rfl, Nat.le_refl _, by simp⟩
  | some i :: r, s, k + 1, p, h => by
    simp only [iopK, List.getElem?_cons_succ] at h
    obtain ⟨j, h1, h2, h3⟩ := iopK_at r (s + 1) k p h
    refine ⟨j, by simpa [iosK] using h1, by omega, ?_⟩
    have : p - s = (p - (s + 1)) + 1 := by omega
    rw [this, List.getElem?_cons_succ]; exact h3
theorem iopK_ge : ∀ (ks : List (Option Nat)) (s p : Nat), p ∈ iopK s ks → s ≤ p
  | [], s, p, h => by simp [iopK] at h
  | none :: r, s, p, h => by
    rw [iopK] at h
    have := iopK_ge r (s + 1) p h
    omega
  | some i :: r, s, p, h => by
    rw [iopK] at h
    rcases List.mem_cons.mp h with h | h
    · omega
    · have := iopK_ge r (s + 1) p h
      omega
theorem iopK_nd : ∀ (ks : List (Option Nat)) (s : Nat), (iopK s ks).Nodup
  | [], s => by simp [iopK]
  | none :: r, s => by rw [iopK]; exact iopK_nd r _
  | some i :: r, s => by
    rw [iopK]
    refine List.nodup_cons.mpr ⟨fun h => ?_, iopK_nd r _⟩
    have := iopK_ge r (s + 1) s h
    omega
theorem io_len : ∀ (ks : List (Option Nat)) (s : Nat), (iopK s ks).length = (iosK ks).length
  | [], s => rfl
  | none :: r, s => by rw [iopK, iosK]; exact io_len r _
  | some i :: r, s => by rw [iopK, iosK, List.length_cons, List.length_cons, io_len r]
theorem iosK_mem : ∀ (ks : List (Option Nat)) (i : Nat), i ∈ iosK ks ↔ some i ∈ ks
  | [], i => by simp [iosK]
  | none :: r, i => by rw [iosK, iosK_mem r]; simp
  | some j :: r, i => by rw [iosK, List.mem_cons, iosK_mem r, List.mem_cons, Option.some.injEq]
theorem pure_kinds : ∀ (es : Es), es.pure = true → ∀ k ∈ es.kinds, k = none
  | .nil, _, k, hk => by simp [Es.kinds] at hk
  | .cons e es, h, k, hk => by
    rw [Es.pure, Bool.and_eq_true] at h
    rw [Es.kinds] at hk
    rcases List.mem_cons.mp hk with hk | hk
    · subst hk
      cases e <;> first | rfl | (simp [E.pure] at h)
    · exact pure_kinds es h.2 k hk
theorem outT_len (n : Nat) : ∀ (ps : List Nat) (os : List O), (outT n ps os).length = n
  | [], _ => by simp [outT]
  | _ :: _, [] => by simp [outT]
  | p :: ps, o :: os => by rw [outT, List.length_set]; exact outT_len n ps os
theorem outT_at (n : Nat) : ∀ (ps : List Nat) (os : List O), ps.Nodup → (∀ p ∈ ps, p < n) → ∀ (k p : Nat) (o : O), ps[k]? = some p → os[k]? = some o → getO (outT n ps os) p = some o
  | [], _, _, _, k, p, o, h, _ => by simp at h
  | _ :: _, [], _, _, k, p, o, _, h => by simp at h
  | q :: ps, u :: os, nd, hl, k, p, o, h1, h2 => by
    rw [outT, getO_set, outT_len]
    rw [List.nodup_cons] at nd
    cases k with
    | zero =>
      simp only [List.getElem?_cons_zero, Option.some.injEq] at h1 h2
      subst h1 h2
      rw [if_pos ⟨rfl, hl _ List.mem_cons_self⟩]
    | succ k =>
      simp only [List.getElem?_cons_succ] at h1 h2
      have hm : p ∈ ps := List.mem_of_getElem? h1
      rw [if_neg (show ¬ (p = q ∧ q < n) from fun z => nd.1 (z.1 ▸ hm))]
      exact outT_at n ps os nd.2 (fun p hp => hl p (List.mem_cons_of_mem _ hp)) k p o h1 h2

/-! ### what comes back -/
section
variable {K : PySem.W.Frag} {mg : Str → Option Value} {τ : Tau} {σ : L2.St} {H Hf H' Hf' : Hp} {as as' : Nat → List Addr} {w : Bool}
theorem wipeT_len (τ : Tau) : ∀ is : List Nat, (wipeT τ is).length = τ.length
  | [] => rfl
  | i :: is => by rw [wipeT, List.length_set, wipeT_len τ is]
theorem Rel.wipeT (r : Rel K mg τ σ H Hf as) : ∀ is : List Nat, ∃ as', Rel K mg (wipeT τ is) σ H Hf as' ∧ (∀ j, j ∈ is → as' j = []) ∧ ∀ j, j ∉ is → as' j = as j
  | [] => ⟨as, r, fun j h => by simp at h, fun _ _ => rfl⟩
  | i :: is => by
    obtain ⟨as', r', h1, h2⟩ := Rel.wipeT r is
    refine ⟨put as' i [], r'.setN, fun j h => ?_, fun j h => ?_⟩
    · by_cases e : j = i
      · rw [e, put_same]
      · rw [put_ne e]
        exact h1 j ((List.mem_cons.mp h).resolve_left e)
    · rw [List.mem_cons, not_or] at h
      rw [put_ne h.1]
      exact h2 j h.2
theorem wipeT_set {τ : Tau} {i : Nat} {o : Option O} : ∀ {is : List Nat}, i ∉ is → Mir.wipeT (τ.set i o) is = (Mir.wipeT τ is).set i o
  | [], _ => rfl
  | j :: is, h => by
    rw [List.mem_cons, not_or] at h
    rw [Mir.wipeT, wipeT_set h.2, List.set_comm _ _ h.1]
    rfl
inductive Outs3 (K : PySem.W.Frag) (mg : Str → Option Value) (σ : L2.St) (H Hf : Hp) : List Nat → List O → List (List Addr) → Prop
  | nil : Outs3 K mg σ H Hf [] [] []
  | cons {i : Nat} {o : O} {v : V} {ao : List Addr} {is : List Nat} {os : List O} {aos : List (List Addr)} : σ[i]? = some (some v) → ROwn K mg Hf H o v ao → Outs3 K mg σ H Hf is os aos → Outs3 K mg σ H Hf (i :: is) (o :: os) (ao :: aos)
theorem setOuts_rel : ∀ {is : List Nat} {outs : List O} {aos : List (List Addr)}, Outs3 K mg σ H Hf is outs aos → ∀ {τ : Tau} {as : Nat → List Addr}, is.Nodup → Rel K mg (wipeT τ is) σ H Hf as → aos.flatten.Nodup → (∀ c ∈ aos.flatten, ¬ Wof as c) →
    ∃ τ' as', setOuts τ is outs = some τ' ∧ Rel K mg τ' σ H Hf as' ∧ ∀ c, Wof as' c → Wof as c ∨ c ∈ aos.flatten
  | _, _, _, .nil, τ, as, _, r, _, _ => ⟨τ, as, rfl, r, fun c h => .inl h⟩
  | _, _, _, .cons (i := i) (o := o) (v := v) (ao := ao) (is := is) (os := os) (aos := aos) hv ow t, τ, as, nd, r, fd, dj => by
    rw [List.nodup_cons] at nd
    rw [List.flatten_cons, List.nodup_append] at fd
    have hl : i < τ.length := by
      have := (List.getElem?_eq_some_iff.mp hv).1
      rw [← r.len, wipeT_len] at this
      exact this
    have r1 := r.setO (o := o) (v := v) (ao := ao) (i := i) (by rw [wipeT_len]; exact hl) ow fd.1 fun c hc => dj c (by rw [List.flatten_cons]; exact List.mem_append_left _ hc)
    rw [set_self hv, Mir.wipeT, List.set_set, ← wipeT_set nd.1] at r1
    obtain ⟨τ', as', e1, r2, h2⟩ := setOuts_rel t nd.2 r1 fd.2.1 fun c hc z => by
      rcases Wof_put z with z | z
      · exact dj c (by rw [List.flatten_cons]; exact List.mem_append_right _ hc) z
      · exact fd.2.2 c z c hc rfl
    refine ⟨τ', as', e1, r2, fun c hc => ?_⟩
    rw [List.flatten_cons, List.mem_append]
    rcases h2 c hc with z | z
    · rcases Wof_put z with z | z
      · exact .inl z
      · exact .inr (.inl z)
    · exact .inr (.inr z)
theorem flat_nd {τ : Tau} {as : Nat → List Addr} (r : Rel K mg τ σ H Hf as) : ∀ {ps : List Nat}, ps.Nodup → (ps.map as).flatten.Nodup
  | [], _ => by simp
  | p :: ps, h => by
    rw [List.nodup_cons] at h
    rw [List.map_cons, List.flatten_cons, List.nodup_append]
    refine ⟨r.nd p, flat_nd r h.2, fun a ha b hb e => ?_⟩
    subst e
    rw [List.mem_flatten] at hb
    obtain ⟨l, hl, hb⟩ := hb
    obtain ⟨q, hq, rfl⟩ := List.mem_map.mp hl
    have := r.sep p q a ha hb
    subst this
    exact h.1 hq
theorem outs3_of {vs : List V} {τc : Tau} {asc : Nat → List Addr} (rc : Rel K mg τc (vs.map some) H Hf asc) : ∀ (ks : List (Option Nat)) (s : Nat) (outs : List O), (∀ (p i : Nat), ks[p]? = some (some i) → ∃ v : V, vs[s + p]? = some v ∧ σ[i]? = some (some v)) →
    (∀ (k p : Nat) (o : O), (iopK s ks)[k]? = some p → outs[k]? = some o → getO τc p = some o) → outs.length = (iopK s ks).length → Outs3 K mg σ H Hf (iosK ks) outs ((iopK s ks).map asc)
  | [], s, outs, _, _, h => by
    have : outs = [] := List.length_eq_zero_iff.mp (by simpa [iopK] using h)
    subst this
    exact .nil
  | none :: r, s, outs, h1, h2, h => by
    rw [iosK, iopK]
    refine outs3_of rc r (s + 1) outs (fun p i e => ?_) (by simpa [iopK] using h2) (by simpa [iopK] using h)
    have := h1 (p + 1) i (by simpa using e)
    have e2 : s + 1 + p = s + (p + 1) := by omega
    rw [e2]; exact this
  | some i :: r, s, [], h1, h2, h => by simp [iopK] at h
  | some i :: r, s, o :: outs, h1, h2, h => by
    rw [iosK, iopK, List.map_cons]
    obtain ⟨v, e1, e2⟩ := h1 0 i (by simp)
    have g := h2 0 s o (by simp [iopK]) (by simp)
    obtain ⟨v', e3, ow⟩ := rc.slot s o g
    rw [Nat.add_zero] at e1
    rw [List.getElem?_map, e1] at e3
    cases e3
    refine .cons e2 ow (outs3_of rc r (s + 1) outs (fun p i e => ?_) (fun k p o hk ho => h2 (k + 1) p o (by simpa [iopK] using hk) (by simpa using ho)) (by simpa [iopK] using h))
    have := h1 (p + 1) i (by simpa using e)
    have e2 : s + 1 + p = s + (p + 1) := by omega
    rw [e2]; exact this
end
end
end Mir
set_option Elab.async false
set_option linter.all false
set_option maxRecDepth 100000
set_option maxHeartbeats 4000000
/-! Mir, part K: a def is called; a list's method. -/
namespace Mir
open PySem L2 PyProof.Rows

section
variable {X : Cx} {Wx : WX} {sc : Scope} {cl : Cl} {bs fs : List Str} {n : Nat} {pos p : Pos}
def callR (cl : Cl) (f : Str) (es : Es) (τ : Tau) : R O := (evalAs cl es τ).andThen fun os τ => if es.iop = cl.io f then ofCR τ es.ios (cl.call f os) else .st
/-- the callee's view of the arguments -/
def ascOf (ks : List (Option Nat)) (as : Nat → List Addr) (p : Nat) : List Addr :=
  match ks[p]? with
  | some (some i) => as i
  | _ => []
theorem asc_mem {ks : List (Option Nat)} {as : Nat → List Addr} {c : Addr} (h : Wof (ascOf ks as) c) : ∃ i ∈ iosK ks, c ∈ as i := by
  obtain ⟨p, hp⟩ := h
  unfold ascOf at hp
  split at hp
  · rename_i i e
    exact ⟨i, (iosK_mem ks i).mpr (List.mem_of_getElem? e), hp⟩
  · cases hp
theorem kinds_inj : ∀ (ks : List (Option Nat)) (p q i : Nat), (iosK ks).Nodup → ks[p]? = some (some i) → ks[q]? = some (some i) → p = q
  | [], p, q, i, _, h, _ => by simp at h
  | none :: r, 0, q, i, _, h, _ => by simp at h
  | none :: r, p + 1, 0, i, _, _, h => by simp at h
  | none :: r, p + 1, q + 1, i, nd, h1, h2 => by
    rw [kinds_inj r p q i (by simpa [iosK] using nd) (by simpa using h1) (by simpa using h2)]
  | some j :: r, 0, 0, i, _, _, _ => rfl
  | some j :: r, 0, q + 1, i, nd, h1, h2 => by
    simp only [List.getElem?_cons_zero, Option.some.injEq] at h1
    subst h1
    rw [iosK, List.nodup_cons, iosK_mem] at nd
    exact (nd.1 (List.mem_of_getElem? (by simpa using h2))).elim
  | some j :: r, p + 1, 0, i, nd, h1, h2 => by
    simp only [List.getElem?_cons_zero, Option.some.injEq] at h2
    subst h2
    rw [iosK, List.nodup_cons, iosK_mem] at nd
    exact (nd.1 (List.mem_of_getElem? (by simpa using h1))).elim
  | some j :: r, p + 1, q + 1, i, nd, h1, h2 => by
    rw [iosK, List.nodup_cons] at nd
    rw [kinds_inj r p q i nd.2 (by simpa using h1) (by simpa using h2)]
theorem setOuts_len : ∀ {is : List Nat} {outs : List O} {τ τ' : Tau}, setOuts τ is outs = some τ' → outs.length = is.length
  | [], [], _, _, _ => rfl
  | [], _ :: _, _, _, h => by simp [setOuts] at h
  | _ :: _, [], _, _, h => by simp [setOuts] at h
  | i :: is, o :: os, τ, τ', h => by
    rw [setOuts] at h
    rw [List.length_cons, List.length_cons, setOuts_len h]
theorem call_rd {f : Str} {es : Es} {w b : Bool} (nd : es.ios.Nodup) (hw : (es.pure || w) = true) : ∀ σ H (Q : VK), (∃ τ Hf as, Rel X.K X.mg τ σ H Hf as ∧ RdM X.K X.mg Wx w σ H Hf as (callR cl f es τ) (PostE X.K X.mg b w σ H Hf as Q)) →
    tCallS (spF X.K X.mg (cl.io f) (cl.call f)) (WE Wx) (RdAs X Wx cl w es) σ H Q := fun σ H Q q => by
  obtain ⟨τ, Hf, as, rel, q⟩ := q
  unfold callR at q
  refine ⟨τ, Hf, as, rel, q.bind.imp fun os τ1 q => ?_⟩
  intro vs H1 Hf1 as1 r1 a1 s1
  by_cases hio : es.iop = cl.io f
  case neg => rw [if_neg hio] at q; exact q.elim
  rw [if_pos hio] at q
  have ln := a1.len
  -- the callee's names
  have dj0 : ∀ c, Wof (ascOf es.kinds as1) c → ∃ i ∈ es.ios, c ∈ as1 i := fun c h => asc_mem h
  have relc : Rel X.K X.mg (os.map some) (vs.map some) H1 Hf1 (ascOf es.kinds as1) := by
    refine ⟨by simp [ln.1], r1.sub, fun p o e => ?_, fun p e => ?_, fun p => ?_, fun p q' c h1 h2 => ?_⟩
    · have e := getO_some e
      have hp : p < es.kinds.length := by
        have := (List.getElem?_eq_some_iff.mp e).1
        rw [List.length_map, ln.1, ← ln.2] at this
        exact this
      obtain ⟨o', v, e1, e2, e3⟩ := a1.get p _ (List.getElem?_eq_getElem hp)
      rw [List.getElem?_map, e1] at e
      cases e
      refine ⟨v, by rw [List.getElem?_map, e2]; rfl, ?_⟩
      unfold ascOf
      rw [List.getElem?_eq_getElem hp]
      cases hk : es.kinds[p] with
      | none =>
        rw [hk] at e3
        obtain ⟨d, e4, rp⟩ := e3
        subst e4
        show ROwn X.K X.mg Hf1 H1 (.d d) v []
        rw [ROwn]
        exact ⟨rfl, rp⟩
      | some i =>
        rw [hk] at e3
        obtain ⟨v', e4, ow⟩ := r1.slot i o e3.1
        rw [e3.2] at e4
        cases e4
        exact ow
    · unfold ascOf
      split
      · rename_i i ek
        obtain ⟨o', v, e1, e2, e3⟩ := a1.get p _ ek
        have z : getO (os.map some) p = some o' := getO_of (by rw [List.getElem?_map, e1] <;> rfl)
        rw [e] at z
        cases z
      · rfl
    · unfold ascOf
      split
      · exact r1.nd _
      · exact List.nodup_nil
    · unfold ascOf at h1 h2
      split at h1
      · rename_i i ek
        split at h2
        · rename_i j ek2
          have := r1.sep i j c h1 h2
          subst this
          exact kinds_inj es.kinds p q' i nd ek ek2
        · cases h2
      · cases h1
  have hwW : w = true ∨ ∀ c, ¬ Wof (ascOf es.kinds as1) c := by
    cases w with
    | true => exact .inl rfl
    | false =>
      refine .inr fun c h => ?_
      obtain ⟨i, hi, _⟩ := asc_mem h
      have := pure_kinds es (by simpa using hw) _ ((iosK_mem _ _).mp hi)
      cases this
  -- what stands behind the call
  have back : ∀ (outs : List O) (τ2 : Tau) (H' Hf' : Hp) (asc' : Nat → List Addr) (W' : Addr → Prop), outs.length = (cl.io f).length → setOuts τ1 es.ios outs = some τ2 → Rel X.K X.mg (outT os.length (cl.io f) outs) (vs.map some) H' Hf' asc' → (∀ c, Wof asc' c → W' c) →
      Stp true (Wof (ascOf es.kinds as1)) H1 Hf1 H' Hf' W' → ∃ as2, Rel X.K X.mg τ2 σ H' Hf' as2 ∧ (∀ c, Wof as2 c → Wof as1 c ∨ Wof asc' c) ∧ (∀ c, Wof as2 c → (H1 c ≠ none ∧ ¬ Wof (ascOf es.kinds as1) c) ∨ Wof asc' c) ∧ Stp w (Wof as) H Hf H' Hf' (fun c => Wof as2 c ∨ W' c) := by
    intro outs τ2 H' Hf' asc' W' hlen hset relc' hW' st
    obtain ⟨asw, rw1, hw1, hw2⟩ := r1.wipeT es.ios
    have djw : ∀ c, Wof asw c → ¬ Wof (ascOf es.kinds as1) c := fun c ⟨j, hj⟩ h => by
      obtain ⟨i, hi, hc⟩ := asc_mem h
      by_cases hm : j ∈ es.ios
      · rw [hw1 j hm] at hj; cases hj
      · rw [hw2 j hm] at hj
        have := r1.sep i j c hc hj
        subst this
        exact hm hi
    have wsub : ∀ c, Wof asw c → Wof as1 c := fun c ⟨j, hj⟩ => by
      by_cases hm : j ∈ es.ios
      · rw [hw1 j hm] at hj; cases hj
      · rw [hw2 j hm] at hj; exact ⟨j, hj⟩
    have csub : ∀ c, Wof (ascOf es.kinds as1) c → Wof as1 c := fun c h => by
      obtain ⟨i, _, hc⟩ := asc_mem h
      exact ⟨i, hc⟩
    have rw2 : Rel X.K X.mg (wipeT τ1 es.ios) σ H' Hf' asw := rw1.step relc'.sub st.grow fun c ws hc e => by
      refine ⟨st.keep c _ e fun _ => djw c hc, ?_⟩
      cases z : Hf' c with
      | none => rfl
      | some u =>
        rcases st.froz c u z with q | q | q
        · rw [(rw1.at hc).1] at q; cases q
        · exact (djw c hc q).elim
        · rw [e] at q; cases q
    have hlen2 : outs.length = (iopK 0 es.kinds).length := by rw [hlen, ← hio] <;> rfl
    have o3 : Outs3 X.K X.mg σ H' Hf' es.ios outs ((iopK 0 es.kinds).map asc') := by
      refine outs3_of relc' es.kinds 0 outs (fun p i e => ?_) (fun k p o hk ho => ?_) hlen2
      · obtain ⟨o, v, _, e2, e3⟩ := a1.get p _ e
        exact ⟨v, by rw [Nat.zero_add]; exact e2, e3.2⟩
      · have hio' : cl.io f = iopK 0 es.kinds := hio.symm
        rw [hio']
        refine outT_at _ _ _ (iopK_nd _ _) (fun p hp => ?_) k p o hk ho
        obtain ⟨k, hk⟩ := List.mem_iff_getElem?.mp hp
        obtain ⟨i, _, _, h3⟩ := iopK_at _ _ _ _ hk
        have := (List.getElem?_eq_some_iff.mp h3).1
        rw [ln.2, ← ln.1] at this
        simpa using this
    have sub2 : ∀ c, c ∈ ((iopK 0 es.kinds).map asc').flatten → Wof asc' c := fun c hc => by
      rw [List.mem_flatten] at hc
      obtain ⟨l, hl, hc⟩ := hc
      obtain ⟨q, _, rfl⟩ := List.mem_map.mp hl
      exact ⟨q, hc⟩
    obtain ⟨τ', as2, e1, r2, h2⟩ := setOuts_rel o3 nd rw2 (flat_nd relc' (iopK_nd _ _)) fun c hc z => by
      rcases st.own c (hW' c (sub2 c hc)) with q | q
      · exact djw c z q
      · obtain ⟨_, ws, e⟩ := rw1.at z
        rw [e] at q; cases q
    rw [e1] at hset
    cases hset
    have hsub : ∀ c, Wof as2 c → Wof as1 c ∨ Wof asc' c := fun c hc => (h2 c hc).elim (fun z => .inl (wsub c z)) fun z => .inr (sub2 c z)
    refine ⟨as2, r2, hsub, fun c hc => ?_, ?_⟩
    · rcases h2 c hc with z | z
      · obtain ⟨_, ws, e⟩ := rw1.at z
        exact .inl ⟨by rw [e]; simp, djw c z⟩
      · exact .inr (sub2 c z)
    · refine s1.trans (W1' := Wof as1) (fun _ z => z) ⟨fun c u e hn => st.keep c u e fun _ => ?_, st.grow, fun c u e => ?_, fun c hc => ?_⟩
      · rcases hwW with hw | hw
        · exact fun z => hn hw (csub c z)
        · exact hw c
      · exact (st.froz c u e).imp id fun z => z.imp (csub c) id
      · rcases hc with hc | hc
        · rcases hsub c hc with z | z
          · exact .inl z
          · exact (st.own c (hW' c z)).imp (csub c) id
        · exact (st.own c hc).imp (csub c) id
  refine ⟨os, Hf1, _, relc, ?_⟩
  cases ec : cl.call f os with
  | st => rw [ec] at q; exact q.elim
  | ok o outs =>
    rw [ec] at q
    have q : RdM X.K X.mg Wx w σ H Hf as (match setOuts τ1 es.ios outs with | some τ' => R.ok o τ' | none => .st) _ := q
    cases es2 : setOuts τ1 es.ios outs with
    | none => rw [es2] at q; exact q.elim
    | some τ2 =>
      rw [es2] at q
      have q : PostE X.K X.mg b w σ H Hf as Q o τ2 := q
      have hl : outs.length = (cl.io f).length := by
        have := setOuts_len es2
        rw [← hio]
        show outs.length = (iopK 0 es.kinds).length
        rw [io_len]
        exact this
      refine ⟨hl, fun v H' Hf' asc' ao relc' ow nda dja st => ?_⟩
      obtain ⟨as2, r2, hs, hn, st2⟩ := back outs τ2 H' Hf' asc' _ hl es2 relc' (fun c z => .inl z) st
      refine q v H' Hf' as2 ao r2 ⟨ow.vw, fun _ => ⟨ow, nda, fun c hc z => ?_⟩, ⟨st2.keep, st2.grow, st2.froz, fun c z => st2.own c (z.imp id fun z => .inr z.2)⟩⟩
      rcases hn c z with z1 | z1
      · rcases st.own c (.inr hc) with z2 | z2
        · exact z1.2 z2
        · exact z1.1 z2
      · exact dja c hc z1
  | ex x outs =>
    rw [ec] at q
    have q : RdM X.K X.mg Wx w σ H Hf as (match setOuts τ1 es.ios outs with | some τ' => (R.ex x τ' : R O) | none => .st) _ := q
    cases es2 : setOuts τ1 es.ios outs with
    | none => rw [es2] at q; exact q.elim
    | some τ2 =>
      rw [es2] at q
      have q : PostX X.K X.mg Wx w σ H Hf as x τ2 := q
      have hl : outs.length = (cl.io f).length := by
        have := setOuts_len es2
        rw [← hio]
        show outs.length = (iopK 0 es.kinds).length
        rw [io_len]
        exact this
      refine ⟨hl, fun cls dd H' Hf' asc' hx relc' st => ?_⟩
      obtain ⟨as2, r2, hs, hn, st2⟩ := back outs τ2 H' Hf' asc' _ hl es2 relc' (fun c z => z) st
      exact q cls dd H' Hf' as2 hx r2 (st2.sub fun _ z => .inl z)
theorem run_G {cx : CXT} {k : Nat} {f : Addr} {fd : FuncData} {ps : List Str} {sp : Sp} {E : L2.St → XK} {pins : List (Addr × Obj)} {σ : L2.St} {H : Hp} {s : Shared} {Q : VK} {us : List Value} {vs : List V} (F : FnG X.prog X.w X.K X.mg X.base cx k f fd ps sp) (hgd : X.A.guards = some []) (hr : Room k X.A) (hb : Binds X.K fd ps []) (hx : PassesAt cx X σ (E σ))
    (I : Inv X pins σ H s) (rv : Vals vs us) (h : sp vs H Q (E σ)) : wpAny (model X.prog X.w) X.A (call (.ref f) us) (EP X pins σ Q) X.xe s := by
  have e1 : us.length = ps.length := rv.length.symm.trans (F.ln _ _ _ _ h)
  have e2 : BindsTo s fd ⟨us, []⟩ (ps.zip us) := by
    have z := hb s us I.kIn (by rw [List.append_nil]; exact e1)
    rwa [List.append_nil] at z
  refine wpAny_call (codeAny_mono (F.go X.A X.stack s H ⟨us, []⟩ us vs Q (E σ) hgd hr I.env0 e2 rv h) ?_)
  intro res s2 hq
  match res, hq with
  | .error e, hq => exact hx pins H s e s2 I hq
  | .ok (.ret u), hq => exact I.after hq
  | .ok .next, hq => exact hq.elim
  | .ok .brk, hq => exact hq.elim
  | .ok .cont, hq => exact hq.elim
theorem pe_callG0 {cx : CXT} {k : Nat} {f : Addr} {fd : FuncData} {ps : List Str} {sp : Sp} {E : L2.St → XK} {x : Str} (F : FnG X.prog X.w X.K X.mg X.base cx k f fd ps sp) (hgd : X.A.guards = some []) (hr : Room k X.A) (hg : Gl X x) (hm : X.mg x = some (.ref f)) (hk : PySem.W.keepIn X.K (.ref f) = true) (hb : Binds X.K fd ps []) (hx : ∀ σ, PassesAt cx X σ (E σ))
    (hdb : (x == ("__debug__" : Str)) = false) : PE X (.Call (.Name x p) [] [] pos) (tCallS sp E tNil) := ⟨fun pins s σ H Q I h =>
  wpAny_Call_Name_kw (ld_glob I hg hm (PySem.W.callWith_K0 I.kIn hk (run_G (us := []) F hgd hr hb (hx σ) I .nil h)) hdb)⟩
theorem pe_callG {cx : CXT} {k : Nat} {f : Addr} {fd : FuncData} {ps : List Str} {sp : Sp} {E : L2.St → XK} {x : Str} {e : Expr} {es : List Expr} {t : TA} (F : FnG X.prog X.w X.K X.mg X.base cx k f fd ps sp) (hgd : X.A.guards = some []) (hr : Room k X.A) (hg : Gl X x) (hm : X.mg x = some (.ref f)) (hk : PySem.W.keepIn X.K (.ref f) = true) (hb : Binds X.K fd ps []) (hx : ∀ σ, PassesAt cx X σ (E σ))
    (ha : PA X (e :: es) t) (hdb : (x == ("__debug__" : Str)) = false) (he : starEach (e :: es) X.env = (false, eval e X.env) :: starEach es X.env) (hpl : (backTo pos (starEach es X.env)).any (·.1) = false) : PE X (.Call (.Name x p) (e :: es) [] pos) (tCallS sp E t) := ⟨fun pins s σ H Q I h =>
  wpAny_Call_Name_kw (ld_glob I hg hm (PySem.W.callWith_K (h₀ := X.base) I.ok.mod.kin hk (thn (ha.run pos pins s σ H _ I h) fun us s1 ⟨vs, H1, I1, rv, q⟩ => ⟨I1.kIn, run_G F hgd hr hb (hx σ) I1 rv q⟩) he hpl) hdb)⟩
theorem snd_call {f : Str} {r : Bool} {es : Es} {xs : List Expr} (C : Ctx X Wx sc) (G : GOk X cl bs fs n) (hf : f ∈ fs) (hr : r = true → es.pure = true) (nd : es.ios.Nodup) (hg : glB sc f = true) (ho : okName f = true) (A : ArgSnd X Wx cl es xs) : Snd X Wx cl (.call f r es) (.Call (.Name f p) xs [] pos) := fun w b hp => by
  have hpe : (es.pure || w) = true := by simpa [E.pure] using hp
  obtain ⟨h1, h2, h3⟩ := okName_at ho
  -- the flag within
  obtain ⟨w', hw1, hw2, hw3⟩ : ∃ w', (w' = true → w = true) ∧ (r = true → w' = false) ∧ (es.pure || w') = true := by
    cases hep : es.pure with
    | true => exact ⟨false, (fun z => by cases z), (fun _ => rfl), rfl⟩
    | false => exact ⟨w, id, (fun z => by rw [hr z] at hep; cases hep), by simpa [hep] using hpe⟩
  obtain ⟨fa, fd, ps, F, hm, hk, hb⟩ := G.fn f hf
  · have key : ∀ σ H Q, RdE X Wx cl w b (.call f r es) σ H Q → tCallS (spF X.K X.mg (cl.io f) (cl.call f)) (WE Wx) (RdAs X Wx cl w' es) σ H Q := fun σ H Q q => by
      obtain ⟨τ, Hf, as, rel, q⟩ := q
      rw [evalG] at q
      exact call_rd nd hw3 σ H Q ⟨τ, Hf, as, rel, restore_at rel hw1 hw2 q⟩
    have pa := pa_as A w' hw3
    cases A with
    | nil =>
      refine (pe_callG0 F G.gd G.room (C.gl hg) hm hk hb (fun σ => passAt C.tk σ) h1).imp fun σ H Q q => ?_
      have q := key σ H Q q
      obtain ⟨τ, Hf, as, rel, q⟩ := q
      rw [evalAs] at q
      exact q [] H Hf as rel (by rw [ArgsAt]; exact ⟨rfl, rfl⟩) (Stp.refl fun _ z => z)
    | io a1 a2 a3 t => exact (pe_callG F G.gd G.room (C.gl hg) hm hk hb (fun σ => passAt C.tk σ) pa h1 (star_eq rfl) (plain_any t.star)).imp key
    | cons a1 a2 a3 t => exact (pe_callG F G.gd G.room (C.gl hg) hm hk hb (fun σ => passAt C.tk σ) pa h1 (star_eq a2) (plain_any t.star)).imp key
end
end Mir
set_option Elab.async false
set_option linter.all false
set_option maxRecDepth 100000
set_option maxHeartbeats 4000000
/-! Mir, part L: append, extend. -/
namespace Mir
open PySem L2 PyProof.Rows

section
variable {K : PySem.W.Frag} {mg : Str → Option Value} {Hf H : Hp}
theorem ROwns.of : ∀ {ds : List D} {vs : List V}, Reps K mg Hf vs ds → ROwns K mg Hf H (ds.map .d) vs []
  | [], _, h => by cases h; rw [List.map_nil, ROwns]; exact ⟨rfl, rfl⟩
  | d :: ds, _, h => by
    cases h with
    | cons h1 h2 =>
      rw [List.map_cons, ROwns]
      exact ⟨_, _, [], [], rfl, rfl, by rw [ROwn]; exact ⟨rfl, h1⟩, ROwns.of h2⟩
end
section
variable {X : Cx} {Wx : WX} {sc : Scope} {cl : Cl} {bs fs : List Str} {n : Nat} {pos p apos : Pos}
section
variable {K : PySem.W.Frag} {mg : Str → Option Value} {τ : Tau} {σ : L2.St} {H Hf : Hp} {as : Nat → List Addr} {i : Nat}
/-- an owned list is rewritten: grown at its end -/
theorem Rel.grow {os ps : List O} {a : Addr} {vs ws : List V} {b1 b2 : List Addr} (r : Rel K mg τ σ H Hf as) (e : getO τ i = some (.l os)) (ev : σ[i]? = some (some (.ref a))) (hf : Hf a = none) (hH : H a = some (.lst vs))
    (ea : as i = a :: b1) (ow : ROwns K mg Hf H os vs b1) (ow2 : ROwns K mg Hf H ps ws b2) (nd2 : b2.Nodup) (dj2 : ∀ c ∈ b2, ¬ Wof as c) :
    Rel K mg (τ.set i (some (.l (os ++ ps)))) σ (upd H a (.lst (vs ++ ws))) Hf (put as i (a :: (b1 ++ b2))) ∧ ∀ w W, (∀ c, Wof as c → W c) → (∀ c ∈ b2, W c ∨ H c = none) → w = true → Stp w W H Hf (upd H a (.lst (vs ++ ws))) Hf (Wof (put as i (a :: (b1 ++ b2)))) := by
  have nd := r.nd i
  rw [ea, List.nodup_cons] at nd
  have hai : a ∈ as i := by rw [ea]; exact List.mem_cons_self
  have r1 := r.setN (i := i)
  have na : ∀ c, Wof (put as i []) c → c ≠ a := fun c ⟨j, hj⟩ e => by
    subst e
    by_cases h : j = i
    · subst h; rw [put_same] at hj; cases hj
    · rw [put_ne h] at hj
      exact h (r.sep j i c hj hai)
  have na2 : ∀ c ∈ b2, c ≠ a := fun c hc e => dj2 c hc ⟨i, by rw [e]; exact hai⟩
  have na1 : ∀ c ∈ b1, c ≠ a := fun c hc e => nd.1 (e ▸ hc)
  have sb : Same Hf (upd H a (.lst (vs ++ ws))) := fun c u q => by
    rw [upd_ne (fun e => by rw [e, hf] at q; cases q)]
    exact r.sub c u q
  have r2 : Rel K mg (τ.set i none) σ (upd H a (.lst (vs ++ ws))) Hf (put as i []) := r1.step sb (Same.refl _) fun c xs hc q => ⟨by rw [upd_ne (na c hc)]; exact q, (r1.at hc).1⟩
  have own : ROwn K mg Hf (upd H a (.lst (vs ++ ws))) (.l (os ++ ps)) (.ref a) (a :: (b1 ++ b2)) := by
    rw [ROwn]
    refine ⟨a, _, _, rfl, rfl, hf, upd_same, ?_⟩
    have k : ∀ c, c ≠ a → ∀ u, H c = some u → upd H a (.lst (vs ++ ws)) c = some u := fun c hc u q => by rw [upd_ne hc]; exact q
    exact (ROwns.keep (Same.refl _) _ _ _ (fun c hc u q => ⟨k c (na1 c hc) u q, (ow.at _ _ _ c hc).1⟩) ow).append (ROwns.keep (Same.refl _) _ _ _ (fun c hc u q => ⟨k c (na2 c hc) u q, (ow2.at _ _ _ c hc).1⟩) ow2)
  have hl : i < (τ.set i none).length := by
    rw [List.length_set]
    exact (List.getElem?_eq_some_iff.mp (getO_some e)).1
  have wi : ∀ c, c ∈ as i → ¬ Wof (put as i []) c := fun c hc ⟨j, hj⟩ => by
    by_cases h : j = i
    · subst h; rw [put_same] at hj; cases hj
    · rw [put_ne h] at hj
      exact h (r.sep j i c hj hc)
  have ws : ∀ c, Wof (put as i []) c → Wof as c := fun c h => (Wof_put h).elim id fun z => by cases z
  have r3 := r2.setO hl own (by
    rw [List.nodup_cons, List.mem_append, not_or]
    refine ⟨⟨nd.1, fun h => na2 a h rfl⟩, List.nodup_append.mpr ⟨nd.2, nd2, fun x hx y hy e => ?_⟩⟩
    subst e
    exact dj2 x hy ⟨i, by rw [ea]; exact List.mem_cons_of_mem _ hx⟩) (fun c hc => by
    rcases List.mem_cons.mp hc with h | h
    · exact wi c (by rw [h]; exact hai)
    · rcases List.mem_append.mp h with h | h
      · exact wi c (by rw [ea]; exact List.mem_cons_of_mem _ h)
      · exact fun z => dj2 c h (ws c z))
  rw [List.set_set, set_self ev] at r3
  have ep : ∀ l, put (put as i []) i l = put as i l := fun l => by
    funext j
    by_cases e : j = i
    · subst e; rw [put_same, put_same]
    · rw [put_ne e, put_ne e, put_ne e]
  rw [ep] at r3
  refine ⟨r3, fun w W hW h2 hw => ⟨fun c u q hn => ?_, Same.refl _, fun c u q => .inl q, fun c hc => ?_⟩⟩
  · rw [upd_ne (fun e => hn hw (hW c ⟨i, by rw [e]; exact hai⟩))]
    exact q
  · rcases Wof_put hc with h | h
    · exact .inl (hW c h)
    · rcases List.mem_cons.mp h with h | h
      · exact .inl (hW c ⟨i, by rw [h]; exact hai⟩)
      · rcases List.mem_append.mp h with h | h
        · exact .inl (hW c ⟨i, by rw [ea]; exact List.mem_cons_of_mem _ h⟩)
        · exact h2 c h
end
section
variable {K : PySem.W.Frag} {mg : Str → Option Value} {Hf H : Hp}
/-- an owned list gets new contents -/
theorem Rel.lput {τ : Tau} {σ : L2.St} {as : Nat → List Addr} {i : Nat} {os : List O} {a : Addr} {ws : List V} {b2 : List Addr} (r : Rel K mg τ σ H Hf as) (ev : σ[i]? = some (some (.ref a))) (hf : Hf a = none) (hai : a ∈ as i) (hl : i < τ.length)
    (ow : ROwns K mg Hf H os ws b2) (nd2 : (a :: b2).Nodup) (hb : ∀ c ∈ b2, c ∈ as i ∨ ¬ Wof as c) (W : Addr → Prop) (hW : ∀ c, Wof as c → W c) (hb2 : ∀ c ∈ b2, W c ∨ H c = none) :
    Rel K mg (τ.set i (some (.l os))) σ (upd H a (.lst ws)) Hf (put as i (a :: b2)) ∧ Stp true W H Hf (upd H a (.lst ws)) Hf (Wof (put as i (a :: b2))) := by
  have r1 := r.setN (i := i)
  have na : ∀ c, Wof (put as i []) c → c ≠ a := fun c ⟨j, hj⟩ e => by
    subst e
    by_cases h : j = i
    · subst h; rw [put_same] at hj; cases hj
    · rw [put_ne h] at hj
      exact h (r.sep j i c hj hai)
  have sb : Same Hf (upd H a (.lst ws)) := fun c u q => by
    rw [upd_ne (fun e => by rw [e, hf] at q; cases q)]
    exact r.sub c u q
  have r2 : Rel K mg (τ.set i none) σ (upd H a (.lst ws)) Hf (put as i []) := r1.step sb (Same.refl _) fun c xs hc q => ⟨by rw [upd_ne (na c hc)]; exact q, (r1.at hc).1⟩
  have own : ROwn K mg Hf (upd H a (.lst ws)) (.l os) (.ref a) (a :: b2) := by
    rw [ROwn]
    refine ⟨a, _, _, rfl, rfl, hf, upd_same, ROwns.keep (Same.refl _) _ _ _ (fun c hc u q => ⟨?_, (ow.at _ _ _ c hc).1⟩) ow⟩
    rw [upd_ne (show c ≠ a from fun e => (List.nodup_cons.mp nd2).1 (by rw [← e]; exact hc))]
    exact q
  have wi : ∀ c, c ∈ as i → ¬ Wof (put as i []) c := fun c hc ⟨j, hj⟩ => by
    by_cases h : j = i
    · subst h; rw [put_same] at hj; cases hj
    · rw [put_ne h] at hj
      exact h (r.sep j i c hj hc)
  have wsub : ∀ c, Wof (put as i []) c → Wof as c := fun c h => (Wof_put h).elim id fun z => by cases z
  have r3 := r2.setO (by rw [List.length_set]; exact hl) own nd2 (fun c hc => by
    rcases List.mem_cons.mp hc with h | h
    · exact wi c (by rw [h]; exact hai)
    · rcases hb c h with h | h
      · exact wi c h
      · exact fun z => h (wsub c z))
  rw [List.set_set, set_self ev] at r3
  have ep : ∀ l, put (put as i []) i l = put as i l := fun l => by
    funext j
    by_cases e : j = i
    · subst e; rw [put_same, put_same]
    · rw [put_ne e, put_ne e, put_ne e]
  rw [ep] at r3
  refine ⟨r3, fun c u q hn => ?_, Same.refl _, fun c u q => .inl q, fun c hc => ?_⟩
  · rw [upd_ne (fun e => hn rfl (hW c ⟨i, by rw [e]; exact hai⟩))]
    exact q
  · rcases Wof_put hc with h | h
    · exact .inl (hW c h)
    · rcases List.mem_cons.mp h with h | h
      · exact .inl (hW c ⟨i, by rw [h]; exact hai⟩)
      · exact hb2 c h
end
theorem ROwns.erase {K : PySem.W.Frag} {mg : Str → Option Value} {Hf H : Hp} : ∀ {os : List O} {vs : List V} {as : List Addr} {j : Nat} {x : D}, ROwns K mg Hf H os vs as → os[j]? = some (.d x) → ∃ v, vs[j]? = some v ∧ Rep K mg Hf v x ∧ ROwns K mg Hf H (os.eraseIdx j) (vs.eraseIdx j) as
  | [], _, _, _, _, _, e => by simp at e
  | o :: os, _, _, 0, x, h, e => by
    simp only [List.getElem?_cons_zero, Option.some.injEq] at e
    subst e
    rw [ROwns] at h
    obtain ⟨v, vr, a1, a2, rfl, rfl, h1, h2⟩ := h
    rw [ROwn] at h1
    obtain ⟨rfl, h1⟩ := h1
    exact ⟨v, rfl, h1, h2⟩
  | o :: os, _, _, j + 1, x, h, e => by
    rw [ROwns] at h
    obtain ⟨v, vr, a1, a2, rfl, rfl, h1, h2⟩ := h
    obtain ⟨w, e1, g, h3⟩ := ROwns.erase (j := j) (x := x) h2 (by simpa using e)
    refine ⟨w, by simpa using e1, g, ?_⟩
    rw [List.eraseIdx_cons_succ, List.eraseIdx_cons_succ, ROwns]
    exact ⟨v, _, a1, a2, rfl, rfl, h1, h3⟩
/-- what a list's method does, from what mutF says -/
def rM (X : Cx) (m : Str) : V → List V → Hp → VK → Prop := fun x vs H Q => ∃ a u ws, x = .ref a ∧ H a = some (.lst u) ∧ ((m = "append" ∧ ∃ y, vs = [y] ∧ ws = [y]) ∨ (m = "extend" ∧ ∃ b, vs = [.ref b] ∧ H b = some (.lst ws))) ∧ u.length + ws.length ≤ sizeLine ∧ Q .non (upd H a (.lst (u ++ ws)))
theorem mtM_append : MtR X "list.append" (rM X "append") := by
  intro pins s σ H x vs v us Q I rx rv h
  obtain ⟨a, u, ws, e1, hH, h1, hz, q⟩ := h
  rcases h1 with ⟨_, y, e2, e3⟩ | ⟨e, _⟩
  · subst e2 e3
    exact mt_append pins s σ H x _ v us Q I rx rv ⟨a, u, y, e1, rfl, hH, by have : u.length + 1 ≤ sizeLine := hz; omega, q⟩
  · exact absurd e (by decide)
theorem mtM_extend : MtR X "list.extend" (rM X "extend") := by
  intro pins s σ H x vs v us Q I rx rv h
  obtain ⟨a, u, ws, e1, hH, h1, hz, q⟩ := h
  rcases h1 with ⟨e, _⟩ | ⟨_, b, e2, hb⟩
  · exact absurd e (by decide)
  · exact mt_extend pins s σ H x _ v us Q I rx rv ⟨a, b, u, ws, e1, e2, hH, hb, hz, q⟩
theorem pe_mut {m : Str} {e o : Expr} {te : TE} {t : TA} (hm : m = "append" ∨ m = "extend") (ho : PE X o te) (ha : PA X [e] t) (hbase : ∀ y, attributeBase o y X.env (eval o X.env) = eval o X.env) (hs : notStar e = true) (hline : (apos.endLine == pos.line) = true) :
    PE X (.Call (.Attribute o m apos) [e] [] pos) (tBM X.K "list" (rM X m) te t) := by
  have h2 : starEach [e] X.env = (false, eval e X.env) :: starEach [] X.env := star_eq hs
  have h3 : (backTo pos (starEach [] X.env)).any (·.1) = false := rfl
  have h1 : ((backTo pos (starEach [e] X.env)).all (fun x => !x.1) && (backToKw pos (keywordEach [] X.env)).all (fun x => x.1.isSome) && decide ([e].length + ([] : List Keyword).length + (if ([] : List Keyword).isEmpty then 0 else 1) < 30)) = true := by
    rw [h2]; rfl
  rcases hm with hm | hm
  · subst hm
    exact pe_bm PySem.F.plainAttrs_list PySem.F.slot_list_append PySem.F.type_list_append mtM_append ho ha (hbase _) h1 hline h2 h3
  · subst hm
    exact pe_bm PySem.F.plainAttrs_list PySem.F.slot_list_extend PySem.F.type_list_extend mtM_extend ho ha (hbase _) h1 hline h2 h3
theorem snd_mut {m x : Str} {i : Nat} {es : Es} {xs : List Expr} (C : Ctx X Wx sc) (hm : m = "append" ∨ m = "extend") (h1 : es.len = 1) (hN : X.N[i]? = some x) (hv : visB sc x = true) (ho : okName x = true) (hline : (apos.endLine == pos.line) = true) (A : AllSnd X Wx cl es xs) :
    Snd X Wx cl (.mut m i es) (.Call (.Attribute (.Name x p) m apos) xs [] pos) := fun w b hp => by
  have hw : w = true := by simpa [E.pure] using hp
  subst hw
  obtain ⟨o1, o2, _⟩ := okName_at ho
  have pa := pa_os A true false (by simp) (fun z => by cases z)
  cases A with
  | nil => simp [Es.len] at h1
  | cons hs s1 s2 t =>
    rename_i c e cs es'
    cases t with
    | cons _ _ _ t => simp [Es.len] at h1
    | nil =>
      refine (pe_mut hm (pe_var hN (C.vis hv) o1 o2) pa (fun y => rfl) hs hline).imp fun σ H Q q => ?_
      obtain ⟨τ, Hf, as, rel, q⟩ := q
      rw [evalG] at q
      cases e0 : getO τ i with
      | none => rw [e0] at q; exact q.elim
      | some o0 =>
        rw [e0] at q
        cases o0 with
        | d _ => exact q.elim
        | m _ => exact q.elim
        | l xs0 =>
          obtain ⟨v, ev, ow⟩ := rel.slot i _ e0
          rw [ROwn] at ow
          obtain ⟨a, vs0, bs0, rfl, ea, hfa, hHa, ows⟩ := ow
          refine ⟨_, ev, .inl ⟨rfl, _, SqL.of hHa⟩, τ, Hf, as, rel, (RdM.bind q).eq.imp fun os τ1 ⟨eo, q⟩ => ?_⟩
          intro ws H1 Hf1 as1 ao r1 s1
          cases e1 : getO τ1 i with
          | none => rw [e1] at q; exact q.elim
          | some o1 =>
            rw [e1] at q
            cases o1 with
            | d _ => exact q.elim
            | m _ => exact q.elim
            | l xs1 =>
              have q : RdM X.K X.mg Wx true σ H Hf as (match mutF m xs1 os with | some (x, xs') => R.ok (.d x) (τ1.set i (some (.l xs'))) | none => .st) (PostE X.K X.mg b true σ H Hf as Q) := q
              obtain ⟨v', ev', ow'⟩ := r1.slot i _ e1
              rw [ev] at ev'
              cases ev'
              rw [ROwn] at ow'
              obtain ⟨a', vs1, bs1, e', ea', hfa', hHa', ows'⟩ := ow'
              cases e'
              obtain ⟨own, nd, dj⟩ := s1.2.1 rfl
              have lim_le : lim ≤ sizeLine := by rw [sizeLine_eq]; decide
              have fin : ∀ (ps : List O) (ws2 : List V) (b2 : List Addr), ROwns X.K X.mg Hf1 H1 ps ws2 b2 → b2.Nodup → (∀ c ∈ b2, c ∈ ao) → RdM X.K X.mg Wx true σ H Hf as (R.ok (.d .none) (τ1.set i (some (.l (xs1 ++ ps))))) (PostE X.K X.mg b true σ H Hf as Q) → Q .non (upd H1 a (.lst (vs1 ++ ws2))) := by
                intro ps ws2 b2 ow2 nd2 hsub q
                obtain ⟨r2, hst⟩ := r1.grow e1 ev hfa' hHa' ea' ows' ow2 nd2 fun c hc => dj c (hsub c hc)
                have q : PostE X.K X.mg b true σ H Hf as Q (.d .none) (τ1.set i (some (.l (xs1 ++ ps)))) := q
                refine q .non _ Hf1 _ [] r2 ⟨by rw [RVw]; exact .non, fun _ => ⟨by rw [ROwn]; exact ⟨rfl, .non⟩, List.nodup_nil, fun c hc => by cases hc⟩, ?_⟩
                refine Stp.keepW (s1.2.2.trans (W1' := fun c => Wof as1 c ∨ (false = false ∧ c ∈ ao)) (fun _ z => z) (hst true _ (fun c z => .inl z) (fun c hc => .inl (.inr ⟨rfl, hsub c hc⟩)) rfl))
              cases os with
              | nil =>
                have := evalOs_len _ _ _ _ _ eo
                simp [Es.len] at this
              | cons o or =>
                cases or with
                | cons _ _ =>
                  have := evalOs_len _ _ _ _ _ eo
                  simp [Es.len] at this
                | nil =>
                  have vw := s1.1
                  rw [RVws] at vw
                  obtain ⟨y, vr, rfl, vy, vw⟩ := vw
                  rw [RVws] at vw
                  subst vw
                  rcases hm with hm | hm
                  · subst hm
                    rw [mutF, if_pos rfl] at q
                    by_cases hl : xs1.length < lim
                    · rw [if_pos hl] at q
                      refine ⟨a, vs1, [y], rfl, hHa', .inl ⟨rfl, y, rfl, rfl⟩, ?_, fin [o] [y] ao own nd (fun c h => h) q⟩
                      rw [ows'.length, List.length_singleton]
                      have : 1 ≤ lim := by decide
                      omega
                    · rw [if_neg hl] at q; exact q.elim
                  · subst hm
                    rw [mutF, if_neg (by decide), if_pos rfl] at q
                    cases ef : o.flat with
                    | false => rw [ef] at q; exact q.elim
                    | true =>
                      rw [ef] at q
                      cases ed : o.data with
                      | list ys =>
                        rw [ed] at q
                        have q : RdM X.K X.mg Wx true σ H Hf as (match (if xs1.length + ys.length < lim then some (PyData.none, xs1 ++ ys.map O.d) else none : Option (D × List O)) with | some (x, xs') => R.ok (.d x) (τ1.set i (some (.l xs'))) | none => .st) (PostE X.K X.mg b true σ H Hf as Q) := q
                        by_cases hl : xs1.length + ys.length < lim
                        · rw [if_pos hl] at q
                          obtain ⟨c, zs, ey, hz, rp⟩ := vy.list r1.sub ef ed
                          subst ey
                          refine ⟨a, vs1, zs, rfl, hHa', .inr ⟨rfl, c, rfl, hz⟩, ?_, fin _ zs [] (ROwns.of rp) List.nodup_nil (fun c h => by cases h) q⟩
                          rw [ows'.length, rp.length]
                          omega
                        · rw [if_neg hl] at q; exact q.elim
                      | _ => rw [ed] at q; exact q.elim
theorem popD_at {os : List O} {j : Nat} {x : D} {os' : List O} (h : popD os j = some (x, os')) : os[j]? = some (.d x) ∧ os' = os.eraseIdx j := by
  unfold popD at h
  split at h
  · rename_i e
    cases h
    exact ⟨e, rfl⟩
  · cases h
theorem drop_erase {α : Type} : ∀ l : List α, l.dropLast = l.eraseIdx (l.length - 1)
  | [] => rfl
  | [_] => rfl
  | x :: y :: l => by
    have := drop_erase (y :: l)
    simp only [List.length_cons, Nat.add_sub_cancel, List.dropLast_cons_cons, List.eraseIdx_cons_succ] at this ⊢
    rw [this]
/-- an item leaves an owned list -/
theorem pop_end {b : Bool} {τ1 : Tau} {σ : L2.St} {H Hf H1 Hf1 : Hp} {as as1 : Nat → List Addr} {i j : Nat} {xs1 : List O} {os' : List O} {x : D} {a : Addr} {Q : VK} {W1 : Addr → Prop} (r1 : Rel X.K X.mg τ1 σ H1 Hf1 as1) (st : Stp true (Wof as) H Hf H1 Hf1 W1) (hw : ∀ c, Wof as1 c → W1 c) (ev : σ[i]? = some (some (.ref a))) (e1 : getO τ1 i = some (.l xs1)) (hp : popD xs1 j = some (x, os'))
    (q : PostE X.K X.mg b true σ H Hf as Q (.d x) (τ1.set i (some (.l os')))) : ∃ vs y, H1 a = some (.lst vs) ∧ vs.length = xs1.length ∧ vs[j]? = some y ∧ Q y (upd H1 a (.lst (vs.eraseIdx j))) := by
  obtain ⟨v', ev', ow'⟩ := r1.slot i _ e1
  rw [ev] at ev'
  cases ev'
  rw [ROwn] at ow'
  obtain ⟨a', vs1, bs1, e', ea', hfa', hHa', ows'⟩ := ow'
  cases e'
  obtain ⟨h1, rfl⟩ := popD_at hp
  obtain ⟨y, h2, rp, ow2⟩ := ows'.erase h1
  have nd := r1.nd i
  rw [ea'] at nd
  have hai : a ∈ as1 i := by rw [ea']; exact List.mem_cons_self
  have hl : i < τ1.length := by rw [r1.len]; exact (List.getElem?_eq_some_iff.mp ev).1
  obtain ⟨r2, s2⟩ := r1.lput ev hfa' hai hl ow2 nd (fun c hc => .inl (by rw [ea']; exact List.mem_cons_of_mem _ hc)) (Wof as1) (fun _ z => z) (fun c hc => .inl ⟨i, by rw [ea']; exact List.mem_cons_of_mem _ hc⟩)
  refine ⟨vs1, y, hHa', ows'.length, h2, q y _ Hf1 _ [] r2 ⟨by rw [RVw]; exact rp, fun _ => ⟨by rw [ROwn]; exact ⟨rfl, rp⟩, List.nodup_nil, fun c hc => by cases hc⟩, ?_⟩⟩
  exact (st.trans hw s2).sub fun c z => z.elim id fun z => by cases z.2
theorem snd_pop0 {x : Str} {i : Nat} (C : Ctx X Wx sc) (hN : X.N[i]? = some x) (hv : visB sc x = true) (ho : okName x = true) (hline : (apos.endLine == pos.line) = true) :
    Snd X Wx cl (.mut "pop" i .nil) (.Call (.Attribute (.Name x p) "pop" apos) [] [] pos) := fun w b hp => by
  have hw : w = true := by simpa [E.pure] using hp
  subst hw
  obtain ⟨o1, o2, _⟩ := okName_at ho
  refine (pe_bm0 PySem.F.plainAttrs_list PySem.F.slot_list_pop PySem.F.type_list_pop mt_pop (pe_var hN (C.vis hv) o1 o2) rfl hline).imp fun σ H Q q => ?_
  obtain ⟨τ, Hf, as, rel, q⟩ := q
  rw [evalG] at q
  cases e0 : getO τ i with
  | none => rw [e0] at q; exact q.elim
  | some o0 =>
    rw [e0] at q
    cases o0 with
    | d _ => exact q.elim
    | m _ => exact q.elim
    | l xs0 =>
      obtain ⟨v, ev, ow⟩ := rel.slot i _ e0
      have ow' := ow
      rw [ROwn] at ow'
      obtain ⟨a, vs0, bs0, rfl, ea, hfa, hHa, ows⟩ := ow'
      have q : RdM X.K X.mg Wx true σ H Hf as (match getO τ i with | some (.l xs) => (match mutF "pop" xs [] with | some (x, xs') => R.ok (.d x) (τ.set i (some (.l xs'))) | none => .st) | _ => .st) (PostE X.K X.mg b true σ H Hf as Q) := q
      rw [e0] at q
      have hm : mutF "pop" xs0 [] = popD xs0 (xs0.length - 1) := by rw [mutF, if_pos rfl]
      have q : RdM X.K X.mg Wx true σ H Hf as (match mutF "pop" xs0 [] with | some (x, xs') => R.ok (.d x) (τ.set i (some (.l xs'))) | none => .st) (PostE X.K X.mg b true σ H Hf as Q) := q
      rw [hm] at q
      cases ep : popD xs0 (xs0.length - 1) with
      | none => rw [ep] at q; exact q.elim
      | some z =>
        obtain ⟨y, os'⟩ := z
        rw [ep] at q
        obtain ⟨vs, u, h1, h2, h3, h4⟩ := pop_end rel (Stp.refl fun _ z => z) (fun _ z => z) ev e0 ep q
        refine ⟨_, ev, .inl ⟨rfl, _, SqL.of h1⟩, a, vs, u, rfl, rfl, h1, by rw [h2]; exact h3, ?_⟩
        have : vs.dropLast = vs.eraseIdx (xs0.length - 1) := by rw [← h2, drop_erase]
        rw [this]
        exact h4
theorem snd_pop1 {x : Str} {i : Nat} {c : E} {e : Expr} (C : Ctx X Wx sc) (hN : X.N[i]? = some x) (hv : visB sc x = true) (ho : okName x = true) (hline : (apos.endLine == pos.line) = true) (hs : notStar e = true) (he : Snd X Wx cl c e) (A : AllSnd X Wx cl (.cons c .nil) [e]) :
    Snd X Wx cl (.mut "pop" i (.cons c .nil)) (.Call (.Attribute (.Name x p) "pop" apos) [e] [] pos) := fun w b hp => by
  have hw : w = true := by simpa [E.pure] using hp
  subst hw
  obtain ⟨o1, o2, _⟩ := okName_at ho
  have pa := pa_os A true false (by simp) (fun z => by cases z)
  have h2 : starEach [e] X.env = (false, eval e X.env) :: starEach [] X.env := star_eq hs
  have h3 : (backTo pos (starEach [] X.env)).any (·.1) = false := rfl
  have h1 : ((backTo pos (starEach [e] X.env)).all (fun x => !x.1) && (backToKw pos (keywordEach [] X.env)).all (fun x => x.1.isSome) && decide ([e].length + ([] : List Keyword).length + (if ([] : List Keyword).isEmpty then 0 else 1) < 30)) = true := by
    rw [h2]; rfl
  refine (pe_bm PySem.F.plainAttrs_list PySem.F.slot_list_pop PySem.F.type_list_pop mt_popAt (pe_var hN (C.vis hv) o1 o2) pa rfl h1 hline h2 h3).imp fun σ H Q q => ?_
  obtain ⟨τ, Hf, as, rel, q⟩ := q
  rw [evalG] at q
  cases e0 : getO τ i with
  | none => rw [e0] at q; exact q.elim
  | some o0 =>
    rw [e0] at q
    cases o0 with
    | d _ => exact q.elim
    | m _ => exact q.elim
    | l xs0 =>
      obtain ⟨v, ev, ow⟩ := rel.slot i _ e0
      rw [ROwn] at ow
      obtain ⟨a, vs0, bs0, rfl, ea, hfa, hHa, ows⟩ := ow
      refine ⟨_, ev, .inl ⟨rfl, _, SqL.of hHa⟩, τ, Hf, as, rel, (RdM.bind q).eq.imp fun os τ1 ⟨eo, q⟩ => ?_⟩
      intro ws H1 Hf1 as1 ao r1 s1
      cases e1 : getO τ1 i with
      | none => rw [e1] at q; exact q.elim
      | some o1 =>
        rw [e1] at q
        cases o1 with
        | d _ => exact q.elim
        | m _ => exact q.elim
        | l xs1 =>
          have q : RdM X.K X.mg Wx true σ H Hf as (match mutF "pop" xs1 os with | some (x, xs') => R.ok (.d x) (τ1.set i (some (.l xs'))) | none => .st) (PostE X.K X.mg b true σ H Hf as Q) := q
          have hlen := evalOs_len _ _ _ _ _ eo
          match os, hlen, s1, q with
          | [o], _, s1, q =>
            have vw := s1.1
            rw [RVws] at vw
            obtain ⟨y, vr, rfl, vy, vw⟩ := vw
            rw [RVws] at vw
            subst vw
            rw [mutF, if_neg (by decide), if_neg (by decide), if_pos rfl] at q
            cases ed : o.data with
            | int k =>
              rw [ed] at q
              have q : RdM X.K X.mg Wx true σ H Hf as (match (if xs1.length ≤ lim then (ixN xs1.length k).bind (popD xs1) else none) with | some (x, xs') => R.ok (.d x) (τ1.set i (some (.l xs'))) | none => .st) (PostE X.K X.mg b true σ H Hf as Q) := q
              by_cases hl : xs1.length ≤ lim
              · rw [if_pos hl] at q
                cases ej : ixN xs1.length k with
                | none => rw [ej] at q; exact q.elim
                | some j =>
                  rw [ej] at q
                  have q : RdM X.K X.mg Wx true σ H Hf as (match popD xs1 j with | some (x, xs') => R.ok (.d x) (τ1.set i (some (.l xs'))) | none => .st) (PostE X.K X.mg b true σ H Hf as Q) := q
                  cases ep : popD xs1 j with
                  | none => rw [ep] at q; exact q.elim
                  | some z =>
                    obtain ⟨d', os'⟩ := z
                    rw [ep] at q
                    obtain ⟨vs, u, g1, g2, g3, g4⟩ := pop_end r1 s1.2.2 (fun _ z => .inl z) ev e1 ep q
                    obtain ⟨k1, k2, k3, k4⟩ := ixN_seq ej
                    have : lim = 10000000 := rfl
                    refine ⟨a, vs, k, j, u, rfl, by rw [vy.int ed], g1, by omega, by omega, by rw [g2]; exact k1, g3, g4⟩
              · rw [if_neg hl] at q; exact q.elim
            | _ => rw [ed] at q; exact q.elim
          | [], hlen, _, _ => simp [Es.len] at hlen
          | _ :: _ :: _, hlen, _, _ => simp [Es.len] at hlen
end
end Mir
set_option Elab.async false
set_option linter.all false
set_option maxRecDepth 100000
set_option maxHeartbeats 4000000
/-! Mir, part M: targets; what a loop goes over. -/
namespace Mir
open PySem L2 PyProof.Rows

mutual
def T.vars : T → List Nat
  | .nm i => [i]
  | .tup ts => ts.vars
def Ts.vars : Ts → List Nat
  | .nil => []
  | .cons t ts => t.vars ++ ts.vars
end
def Ts.count : Ts → Nat
  | .nil => 0
  | .cons _ ts => ts.count + 1
/-- names outside vs are as they were -/
def Upd (vs : List Nat) (σ σ' : L2.St) : Prop := σ'.length = σ.length ∧ ∀ i, i ∉ vs → σ'[i]? = σ[i]?
theorem Upd.refl (vs : List Nat) (σ : L2.St) : Upd vs σ σ := ⟨rfl, fun _ _ => rfl⟩
theorem Upd.trans {us vs : List Nat} {σ σ1 σ2 : L2.St} (a : Upd us σ σ1) (b : Upd vs σ1 σ2) : Upd (us ++ vs) σ σ2 := ⟨b.1.trans a.1, fun i h => by
  rw [List.mem_append, not_or] at h
  rw [b.2 i h.2, a.2 i h.1]⟩
theorem wipe_get (σ : L2.St) : ∀ (vs : List Nat) (i : Nat), (wipe σ vs)[i]? = if i ∈ vs ∧ i < σ.length then some none else σ[i]?
  | [], i => by simp [wipe]
  | v :: vs, i => by
    unfold wipe
    by_cases h : i = v
    · subst h
      by_cases hl : i < σ.length
      · rw [List.getElem?_set_self (by rw [wipe_length]; exact hl), if_pos ⟨List.mem_cons_self, hl⟩]
      · rw [List.getElem?_eq_none (by rw [List.length_set, wipe_length]; omega), if_neg (fun z => hl z.2), List.getElem?_eq_none (by omega)]
    · rw [List.getElem?_set_ne (Ne.symm h), wipe_get σ vs i]
      simp [h]
theorem Upd.wipe {us vs : List Nat} {σ σ' : L2.St} (u : Upd us σ σ') (h : ∀ i ∈ us, i ∈ vs) : L2.wipe σ' vs = L2.wipe σ vs := by
  apply List.ext_getElem?
  intro i
  rw [wipe_get, wipe_get, u.1]
  by_cases hi : i ∈ vs ∧ i < σ.length
  · rw [if_pos hi, if_pos hi]
  · rw [if_neg hi, if_neg hi]
    by_cases hv : i ∈ us
    · have : ¬ i < σ.length := fun z => hi ⟨h i hv, z⟩
      rw [List.getElem?_eq_none (by rw [u.1]; omega), List.getElem?_eq_none (by omega)]
    · exact u.2 i hv
theorem wipe_wipe {σ : L2.St} {vs : List Nat} : L2.wipe (L2.wipe σ vs) vs = L2.wipe σ vs := by
  apply List.ext_getElem?
  intro i
  rw [wipe_get, wipe_length, wipe_get]
  by_cases hi : i ∈ vs ∧ i < σ.length
  · rw [if_pos hi, if_pos hi]
  · rw [if_neg hi, if_neg hi]

theorem assignEach_cons {t : Expr} {ts : List Expr} {env : Env} (h : notStar t = true) : assignEach (t :: ts) env = (false, assign t env) :: assignEach ts env := by
  cases t <;> first | rfl | (simp [notStar] at h)
theorem assignEach_len {env : Env} : ∀ {ts : List Expr}, ts.all notStar = true → (assignEach ts env).length = ts.length ∧ (assignEach ts env).findIdx? (·.1) = none
  | [], _ => ⟨rfl, rfl⟩
  | t :: ts, h => by
    rw [List.all_cons, Bool.and_eq_true] at h
    rw [assignEach_cons h.1]
    have := assignEach_len (env := env) h.2
    refine ⟨by rw [List.length_cons, List.length_cons, this.1], ?_⟩
    rw [List.findIdx?_cons, this.2]
    rfl
def RdG (K : PySem.W.Frag) (mg : Str → Option Value) (t : T) : TG := fun v σ H Q => ∃ τ Hf as d τ', Rel K mg τ σ H Hf as ∧ Rep K mg Hf v d ∧ t.set d τ = some τ' ∧ ∀ σ' as', Rel K mg τ' σ' H Hf as' → (∀ c, Wof as' c → Wof as c) → Upd t.vars σ σ' → Q σ' H
def RdGs (K : PySem.W.Frag) (mg : Str → Option Value) (ts : Ts) : TGs := fun vs σ H Q => ∃ τ Hf as ds τ', Rel K mg τ σ H Hf as ∧ Reps K mg Hf vs ds ∧ ts.sets ds τ = some τ' ∧ ∀ σ' as', Rel K mg τ' σ' H Hf as' → (∀ c, Wof as' c → Wof as c) → Upd ts.vars σ σ' → Q σ' H
theorem _root_.L2.PG.imp {X : Cx} {e : Expr} {t t' : TG} (h : PG X e t) (i : ∀ v σ H Q, t' v σ H Q → t v σ H Q) : PG X e t' := ⟨fun pins s σ H v u Q I r q => h.run pins s σ H v u Q I r (i v σ H Q q)⟩
theorem _root_.L2.PGs.imp {X : Cx} {e : List Expr} {t t' : TGs} (h : PGs X e t) (i : ∀ v σ H Q, t' v σ H Q → t v σ H Q) : PGs X e t' := ⟨fun pins s σ H v u Q I r q => h.run pins s σ H v u Q I r (i v σ H Q q)⟩

section
variable {X : Cx} {Wx : WX} {sc : Scope} {cl : Cl} {bs fs : List Str} {n : Nat} {pos p apos : Pos}
theorem pg_nm {i : Nat} {x : Str} (C : Ctx X Wx sc) (hN : X.N[i]? = some x) (hl : locB sc x = true) : PG X (.Name x pos) (RdG X.K X.mg (.nm i)) := by
  obtain ⟨h1, h2⟩ := C.loc hl
  refine (pg_name C.nd hN h1 h2).imp fun v σ H Q q => ?_
  obtain ⟨τ, Hf, as, d, τ', rel, rp, e, q⟩ := q
  rw [T.set] at e
  by_cases hi : i < τ.length
  · rw [if_pos hi] at e
    cases e
    refine q _ _ (rel.setD hi rp) (fun c h => (Wof_put h).elim id fun z => by cases z) ⟨by simp, fun j hj => ?_⟩
    rw [T.vars, List.mem_singleton] at hj
    rw [List.getElem?_set_ne (fun z => hj z.symm)]
  · rw [if_neg hi] at e; cases e
theorem sets_len : ∀ (ts : Ts) (ds : List D) (τ τ' : Tau), ts.sets ds τ = some τ' → ds.length = ts.count
  | .nil, [], _, _, _ => rfl
  | .nil, _ :: _, _, _, h => by simp [Ts.sets] at h
  | .cons _ _, [], _, _, h => by simp [Ts.sets] at h
  | .cons t ts, d :: ds, τ, τ', h => by
    rw [Ts.sets] at h
    cases e : t.set d τ with
    | none => rw [e] at h; cases h
    | some τ1 =>
      rw [e] at h
      rw [List.length_cons, sets_len ts ds τ1 τ' h]
      rfl
theorem pg_both {es : List Expr} {k : Nat} {t : TGs} {n : Nat} (hc : X.calm = true) (h : PGs X es t)
    (hn : (assignEach es X.env).length = n) (hst : (assignEach es X.env).findIdx? (·.1) = none) : PG X (.Tuple es k pos) (fun v σ H Q => gTup X.K n t v σ H Q ∨ gUnl X.K n t v σ H Q) := by
  refine ⟨fun pins s σ H v u Q I r hw => ?_⟩
  rcases hw with hw | hw
  · exact (pg_tup hc h hn hst).run pins s σ H v u Q I r hw
  · exact (pg_unl hc h hn hst).run pins s σ H v u Q I r hw
theorem pg_tp {ts : Ts} {es : List Expr} {k : Nat} (C : Ctx X Wx sc) (hs : es.all notStar = true) (hl : es.length = ts.count) (h : PGs X es (RdGs X.K X.mg ts)) : PG X (.Tuple es k pos) (RdG X.K X.mg (.tup ts)) := by
  refine (pg_both C.calm h (assignEach_len hs).1 (assignEach_len hs).2).imp fun v σ H Q q => ?_
  obtain ⟨τ, Hf, as, d, τ', rel, rp, e, q⟩ := q
  cases d with
  | tuple ds =>
    have e : ts.sets ds τ = some τ' := by rw [T.set] at e; exact e
    cases rp with
    | tup h1 h2 =>
      refine .inl ⟨_, _, rfl, Same.seqT rel.sub h1, ?_, τ, Hf, as, ds, τ', rel, h2, e, q⟩
      rw [h2.length, hl]
      exact sets_len _ _ _ _ e
  | list ds =>
    have e : ts.sets ds τ = some τ' := by rw [T.set] at e; exact e
    cases rp with
    | lst h1 h2 =>
      refine .inr ⟨_, _, rfl, SqL.of (rel.sub _ _ h1), ?_, τ, Hf, as, ds, τ', rel, h2, e, q⟩
      rw [h2.length, hl]
      exact sets_len _ _ _ _ e
  | _ => simp [T.set] at e
theorem pgs_nl : PGs X [] (RdGs X.K X.mg .nil) := pgs_nil.imp fun v σ H Q q => by
  obtain ⟨τ, Hf, as, d, τ', rel, rp, e, q⟩ := q
  cases rp with
  | nil =>
    rw [Ts.sets] at e
    cases e
    exact ⟨rfl, q σ as rel (fun _ z => z) (Upd.refl _ _)⟩
  | cons _ _ => simp [Ts.sets] at e
theorem pgs_cn {t : T} {ts : Ts} {e : Expr} {es : List Expr} (hs : notStar e = true) (h1 : PG X e (RdG X.K X.mg t)) (h2 : PGs X es (RdGs X.K X.mg ts)) : PGs X (e :: es) (RdGs X.K X.mg (.cons t ts)) := by
  refine (pgs_cons h1 h2 (by rw [assignEach_cons hs] <;> rfl)).imp fun v σ H Q q => ?_
  obtain ⟨τ, Hf, as, ds, τ', rel, rp, e, q⟩ := q
  cases rp with
  | nil => simp [Ts.sets] at e
  | cons r1 r2 =>
    rw [Ts.sets] at e
    rename_i v vs d ds
    cases e1 : t.set d τ with
    | none => rw [e1] at e; cases e
    | some τ1 =>
      rw [e1] at e
      refine ⟨v, vs, rfl, τ, Hf, as, d, τ1, rel, r1, e1, fun σ1 as1 rel1 w1 u1 => ⟨τ1, Hf, as1, ds, τ', rel1, r2, e, fun σ2 as2 rel2 w2 u2 => ?_⟩⟩
      exact q σ2 as2 rel2 (fun c z => w1 c (w2 c z)) (by rw [Ts.vars]; exact u1.trans u2)

/-! ### what a loop goes over -/
def Yl (K : PySem.W.Frag) (mg : Str → Option Value) (H Hf : Hp) (x : V) (d : D) (H' : Hp) : Prop :=
  (H' = H ∧ Rep K mg Hf x d) ∨ ∃ q vs ds, x = .ref q ∧ H q = none ∧ H' = upd H q (.tup vs) ∧ d = .tuple ds ∧ Reps K mg Hf vs ds
def Walk (K : PySem.W.Frag) (mg : Str → Option Value) (b : Bool) (H Hf : Hp) (J : L2.It) (xs : List D) : Prop :=
  ∀ H2 Hf2, Same Hf Hf2 → Same Hf2 H2 → (b = true → Same H H2) → (∀ i d, xs[i]? = some d → J.go i H2 ∧ ∀ x H3, J.yld i H2 x H3 → Yl K mg H2 Hf2 x d H3) ∧ ∀ i, xs.length ≤ i → J.stop i H2
def RdI (X : Cx) (Wx : WX) (cl : Cl) (w b : Bool) (it : Mir.It) : TI := fun σ H R => ∃ τ Hf as, Rel X.K X.mg τ σ H Hf as ∧ RdM X.K X.mg Wx w σ H Hf as (evalIt cl b it τ)
  (fun xs τ' => ∀ J H' Hf' as', Rel X.K X.mg τ' σ H' Hf' as' → Stp w (Wof as) H Hf H' Hf' (Wof as') → Walk X.K X.mg b H' Hf' J xs → (it.isSeq = true → xs.length ≤ sizeLine) → R J H')
end
end Mir
set_option Elab.async false
set_option linter.all false
set_option maxRecDepth 100000
set_option maxHeartbeats 4000000
/-! Mir, part N: what a loop goes over: a sequence, range, zip, enumerate. -/
namespace Mir
open PySem L2 PyProof.Rows

/-- a sequence that is walked; t: a tuple -/
def SqAt (K : PySem.W.Frag) (mg : Str → Option Value) (b : Bool) (H Hf : Hp) (a : Addr) (vs : List V) (t : Bool) (ds : List D) : Prop :=
  Reps K mg Hf vs ds ∧ (t = true → SqT K Hf a vs) ∧ (t = false → Hf a = some (.lst vs) ∨ (b = true ∧ H a = some (.lst vs)))
section
variable {K : PySem.W.Frag} {mg : Str → Option Value} {b : Bool} {H Hf H2 Hf2 : Hp} {a a2 : Addr} {vs vs2 : List V} {t : Bool} {ds ds2 : List D} {o : O} {v : V} {ao : List Addr}
theorem SqAt.li (h : SqAt K mg b H Hf a vs false ds) (h1 : Same Hf Hf2) (h2 : Same Hf2 H2) (h3 : b = true → Same H H2) : SqL K H2 a vs := by
  rcases h.2.2 rfl with e | ⟨hb, e⟩
  · exact SqL.of (h2 _ _ (h1 _ _ e))
  · exact SqL.of (h3 hb _ _ e)
theorem SqAt.tu (h : SqAt K mg b H Hf a vs true ds) (h1 : Same Hf Hf2) (h2 : Same Hf2 H2) : SqT K H2 a vs := Same.seqT h2 (Same.seqT h1 (h.2.1 rfl))
theorem vw_sq (sb : Same Hf H) (h : RVw K mg Hf H o v) (e : itemsO o = some ds) : ∃ a vs, v = .ref a ∧ SqAt K mg true H Hf a vs (isTup o) ds := by
  cases o with
  | m _ _ => cases e
  | l os =>
    rw [itemsO] at e
    split at e
    · rename_i f
      cases e
      rw [RVw] at h
      obtain ⟨a, vs, e1, h1, h2⟩ := h
      exact ⟨a, vs, e1, RVws.flat f h2, (fun z => by cases z), fun _ => .inr ⟨rfl, h1⟩⟩
    · cases e
  | d x =>
    rw [itemsO] at e
    rw [RVw] at h
    cases x with
    | list xs =>
      cases e
      cases h with
      | lst h1 h2 => exact ⟨_, _, rfl, h2, (fun z => by cases z), fun _ => .inl h1⟩
    | tuple xs =>
      cases e
      cases h with
      | tup h1 h2 => exact ⟨_, _, rfl, h2, (fun _ => h1), fun z => by cases z⟩
    | _ => cases e
theorem rp_sq (h : Rep K mg Hf v o.data) (e : seqOf o.data = some ds) : ∃ a vs, v = .ref a ∧ SqAt K mg false H Hf a vs (isTup o) ds := by
  unfold isTup
  generalize o.data = x at h e
  cases x with
  | list xs =>
    cases e
    cases h with
    | lst h1 h2 => exact ⟨_, _, rfl, h2, (fun z => by cases z), fun _ => .inl h1⟩
  | tuple xs =>
    cases e
    cases h with
    | tup h1 h2 => exact ⟨_, _, rfl, h2, (fun _ => h1), fun z => by cases z⟩
  | _ => cases e
theorem walk_l (h : SqAt K mg b H Hf a vs false ds) : Walk K mg b H Hf (Itl K a) ds := fun H2 Hf2 h1 h2 h3 => by
  have hq := h.li h1 h2 h3
  have rp := Reps.mono h1 _ _ h.1
  refine ⟨fun i d e => ?_, fun i hi => ⟨vs, hq, by rw [rp.length]; exact hi⟩⟩
  obtain ⟨x, hx, rx⟩ := rp.get e
  refine ⟨⟨vs, x, hq, hx⟩, fun y H3 q => .inl ⟨q.1, ?_⟩⟩
  have := q.2 vs hq
  rw [hx] at this
  cases this
  exact rx
theorem walk_t (h : SqAt K mg b H Hf a vs true ds) : Walk K mg b H Hf (Itt K a) ds := fun H2 Hf2 h1 h2 h3 => by
  have hq := h.tu h1 h2
  have rp := Reps.mono h1 _ _ h.1
  refine ⟨fun i d e => ?_, fun i hi => ⟨vs, hq, by rw [rp.length]; exact hi⟩⟩
  obtain ⟨x, hx, rx⟩ := rp.get e
  refine ⟨⟨vs, x, hq, hx⟩, fun y H3 q => .inl ⟨q.1, ?_⟩⟩
  have := q.2 vs hq
  rw [hx] at this
  cases this
  exact rx
theorem rangeL_get {lo hi : Int} {i : Nat} {d : D} (h : (rangeL lo hi)[i]? = some d) : i < (hi - lo).toNat ∧ d = .int (lo + (i : Int)) := by
  unfold rangeL at h
  rw [List.getElem?_map] at h
  by_cases hl : i < (hi - lo).toNat
  · rw [List.getElem?_range hl] at h
    cases h
    exact ⟨hl, rfl⟩
  · rw [List.getElem?_eq_none (by simpa using hl)] at h
    cases h
theorem rangeL_len (lo hi : Int) : (rangeL lo hi).length = (hi - lo).toNat := by unfold rangeL; simp
theorem walk_r {lo hi : Int} : Walk K mg b H Hf (Itr lo (hi - lo).toNat) (rangeL lo hi) := fun H2 Hf2 h1 h2 h3 => by
  refine ⟨fun i d e => ?_, fun i hi => by rw [rangeL_len] at hi; exact hi⟩
  obtain ⟨hl, rfl⟩ := rangeL_get e
  exact ⟨hl, fun x H3 q => .inl ⟨q.1, by rw [q.2]; exact .int _⟩⟩
theorem pairsL_get : ∀ {xs ys : List D} {i : Nat} {d : D}, (pairsL xs ys)[i]? = some d → ∃ x y, xs[i]? = some x ∧ ys[i]? = some y ∧ d = .tuple [x, y]
  | [], _, i, d, h => by simp [pairsL] at h
  | _ :: _, [], i, d, h => by simp [pairsL] at h
  | x :: xs, y :: ys, 0, d, h => by
    simp only [pairsL, List.getElem?_cons_zero, Option.some.injEq] at h
    exact ⟨x, y, rfl, rfl, h.symm⟩
  | x :: xs, y :: ys, i + 1, d, h => by
    simp only [pairsL, List.getElem?_cons_succ] at h
    simpa using pairsL_get h
theorem pairsL_len : ∀ (xs ys : List D) (i : Nat), (pairsL xs ys).length ≤ i → xs.length ≤ i ∨ ys.length ≤ i
  | [], _, i, h => .inl (by simp)
  | _ :: _, [], i, h => .inr (by simp)
  | x :: xs, y :: ys, 0, h => by simp [pairsL] at h
  | x :: xs, y :: ys, i + 1, h => by
    have := pairsL_len xs ys i (by simpa [pairsL] using h)
    simpa using this
theorem enumL_get : ∀ {xs : List D} {k i : Nat} {d : D}, (enumL k xs)[i]? = some d → ∃ x, xs[i]? = some x ∧ d = .tuple [.int ((k + i : Nat) : Int), x]
  | [], k, i, d, h => by simp [enumL] at h
  | x :: xs, k, 0, d, h => by
    simp only [enumL, List.getElem?_cons_zero, Option.some.injEq] at h
    exact ⟨x, rfl, h.symm⟩
  | x :: xs, k, i + 1, d, h => by
    simp only [enumL, List.getElem?_cons_succ] at h
    obtain ⟨y, h1, h2⟩ := enumL_get h
    refine ⟨y, by simpa using h1, ?_⟩
    rw [h2]
    have : k + 1 + i = k + (i + 1) := by omega
    rw [this]
theorem enumL_len : ∀ (xs : List D) (k : Nat), (enumL k xs).length = xs.length
  | [], _ => rfl
  | x :: xs, k => by rw [enumL, List.length_cons, List.length_cons, enumL_len xs]
theorem two_rep {H Hf : Hp} {x y : V} {d e : D} (h1 : Rep K mg Hf x d) (h2 : Rep K mg Hf y e) : Reps K mg Hf [x, y] [d, e] := .cons h1 (.cons h2 .nil)
theorem walk_e (h : SqAt K mg b H Hf a vs false ds) : Walk K mg b H Hf (Ite K a) (enumL 0 ds) := fun H2 Hf2 h1 h2 h3 => by
  have hq := h.li h1 h2 h3
  have rp := Reps.mono h1 _ _ h.1
  refine ⟨fun i d e => ?_, fun i hi => ⟨vs, hq, by rw [rp.length]; rw [enumL_len] at hi; exact hi⟩⟩
  obtain ⟨x, ex, ed⟩ := enumL_get e
  obtain ⟨v, hv, rv⟩ := rp.get ex
  refine ⟨⟨vs, v, hq, hv⟩, fun y H3 q => ?_⟩
  obtain ⟨T, z, e1, e2, e3, e4⟩ := q
  have := e4 vs hq
  rw [hv] at this
  cases this
  rw [Nat.zero_add] at ed
  exact .inr ⟨T, _, _, e1, e2, e3, ed, .cons (.int _) (.cons rv .nil)⟩
theorem walk_z (h : SqAt K mg b H Hf a vs false ds) (g : SqAt K mg b H Hf a2 vs2 false ds2) : Walk K mg b H Hf (Itz K a a2) (pairsL ds ds2) := fun H2 Hf2 h1 h2 h3 => by
  have hq := h.li h1 h2 h3
  have gq := g.li h1 h2 h3
  have rp := Reps.mono h1 _ _ h.1
  have gp := Reps.mono h1 _ _ g.1
  refine ⟨fun i d e => ?_, fun i hi => ⟨vs, vs2, hq, gq, by rw [rp.length, gp.length]; exact pairsL_len _ _ _ hi⟩⟩
  obtain ⟨x, y, ex, ey, ed⟩ := pairsL_get e
  obtain ⟨v, hv, rv⟩ := rp.get ex
  obtain ⟨u, hu, ru⟩ := gp.get ey
  refine ⟨⟨vs, vs2, v, u, hq, gq, hv, hu⟩, fun y H3 q => ?_⟩
  obtain ⟨T, z, z2, e1, e2, e3, e4, e5⟩ := q
  have t1 := e4 vs hq
  have t2 := e5 vs2 gq
  rw [hv] at t1
  rw [hu] at t2
  cases t1
  cases t2
  exact .inr ⟨T, _, _, e1, e2, e3, ed, .cons rv (.cons ru .nil)⟩
theorem walk_zT (h : SqAt K mg b H Hf a vs true ds) (g : SqAt K mg b H Hf a2 vs2 true ds2) : Walk K mg b H Hf (RZ.ItzT K a a2) (pairsL ds ds2) := fun H2 Hf2 h1 h2 h3 => by
  have hq := h.tu h1 h2
  have gq := g.tu h1 h2
  have rp := Reps.mono h1 _ _ h.1
  have gp := Reps.mono h1 _ _ g.1
  refine ⟨fun i d e => ?_, fun i hi => ⟨vs, vs2, hq, gq, by rw [rp.length, gp.length]; exact pairsL_len _ _ _ hi⟩⟩
  obtain ⟨x, y, ex, ey, ed⟩ := pairsL_get e
  obtain ⟨v, hv, rv⟩ := rp.get ex
  obtain ⟨u, hu, ru⟩ := gp.get ey
  refine ⟨⟨vs, vs2, v, u, hq, gq, hv, hu⟩, fun y H3 q => ?_⟩
  obtain ⟨T, z, z2, e1, e2, e3, e4, e5⟩ := q
  have t1 := e4 vs hq
  have t2 := e5 vs2 gq
  rw [hv] at t1
  rw [hu] at t2
  cases t1
  cases t2
  exact .inr ⟨T, _, _, e1, e2, e3, ed, .cons rv (.cons ru .nil)⟩
end

section
variable {X : Cx} {Wx : WX} {sc : Scope} {cl : Cl} {bs fs : List Str} {n : Nat} {pos p apos tpos : Pos} {tg : Expr}
theorem pi_any {l : Expr} {tl : TE} (hl : PE X l tl) : PI X tg l (fun σ H R => tl σ H fun x H1 => ∃ a xs, x = .ref a ∧ ((SqL X.K H1 a xs ∧ (xs.length ≤ sizeLine → R (Itl X.K a) H1)) ∨ (SqT X.K H1 a xs ∧ (xs.length ≤ sizeLine → R (Itt X.K a) H1)))) := by
  refine ⟨fun pins s σ H R I h => thn (hl.run pins s σ H _ I h) fun v s1 hx => ?_⟩
  obtain ⟨x, H1, I1, rx, a, xs, ex, q⟩ := hx
  subst ex
  cases rx
  rcases q with ⟨hq, q⟩ | ⟨hq, q⟩
  · obtain ⟨its, _, hp, hz⟩ := I1.list hq
    exact wpAny_pyIter_list hp.isList (pi_one (tk := s1.toks) I1 _ (turn_list a _) ⟨_, Heap.get?_push_size _ rfl, rfl, rfl⟩ (q hz))
  · obtain ⟨its, _, hp, hz⟩ := I1.tuple hq
    exact wpAny_pyIter_tuple (show s1.heap.IsTuple a its.toArray from hp) (pi_one (tk := s1.toks) I1 _ (turn_tuple a _) ⟨_, Heap.get?_push_size _ rfl, rfl, rfl⟩ (q hz))
theorem _root_.L2.PI.imp {X : Cx} {tg e : Expr} {t t' : TI} (h : PI X tg e t) (i : ∀ σ H Q, t' σ H Q → t σ H Q) : PI X tg e t' := ⟨fun pins s σ H Q I q => h.run pins s σ H Q I (i σ H Q q)⟩
def SndI (X : Cx) (Wx : WX) (cl : Cl) (it : Mir.It) (tg e : Expr) : Prop := ∀ w b, (it.pure || w) = true → PI X tg e (RdI X Wx cl w b it)
theorem snd_seq {c : E} {e : Expr} (h : Snd X Wx cl c e) : SndI X Wx cl (.seq c) tg e := fun w b hp => by
  refine (pi_any (h w b (by simpa [It.pure] using hp))).imp fun σ H R q => ?_
  obtain ⟨τ, Hf, as, rel, q⟩ := q
  rw [evalIt] at q
  refine ⟨τ, Hf, as, rel, q.bind.imp fun o τ1 q => ?_⟩
  intro v H1 Hf1 as1 ao r s
  cases ex : itemsB b o with
  | none => rw [ex] at q; exact q.elim
  | some xs =>
    rw [ex] at q
    have fin : ∀ Hf2 as2, Rel X.K X.mg τ1 σ H1 Hf2 as2 → Stp w (Wof as) H Hf H1 Hf2 (Wof as2) → (∃ a vs, v = .ref a ∧ SqAt X.K X.mg b H1 Hf2 a vs (isTup o) xs) → ∃ a xs, v = .ref a ∧ ((SqL X.K H1 a xs ∧ (xs.length ≤ sizeLine → R (Itl X.K a) H1)) ∨ (SqT X.K H1 a xs ∧ (xs.length ≤ sizeLine → R (Itt X.K a) H1))) := fun Hf2 as2 r2 s2 ⟨a, vs, e1, sq⟩ => by
      refine ⟨a, vs, e1, ?_⟩
      have hl : vs.length = xs.length := Reps.length sq.1
      cases ht : isTup o with
      | false =>
        rw [ht] at sq
        exact .inl ⟨sq.li (Same.refl _) r2.sub fun _ => Same.refl _, fun hz => q _ H1 Hf2 as2 r2 s2 (walk_l sq) fun _ => by rw [← hl]; exact hz⟩
      | true =>
        rw [ht] at sq
        exact .inr ⟨sq.tu (Same.refl _) r2.sub, fun hz => q _ H1 Hf2 as2 r2 s2 (walk_t sq) fun _ => by rw [← hl]; exact hz⟩
    cases b with
    | true => exact fin Hf1 as1 r s.stp (vw_sq r.sub s.1 ex)
    | false =>
      obtain ⟨r2, rp, _, st⟩ := s.freeze r
      exact fin _ as1 r2 st (rp_sq rp ex)
theorem rng_at {ds : List D} {xs : List D} {vs : List V} {K : PySem.W.Frag} {mg : Str → Option Value} {H : Hp} (h : rngF ds = some xs) (r : Reps K mg H vs ds) : (∃ j : Int, vs = [.int j] ∧ (-lim ≤ j ∧ j ≤ lim) ∧ xs = rangeL 0 j) ∨ ∃ i j : Int, vs = [.int i, .int j] ∧ (-lim ≤ i ∧ i ≤ lim ∧ -lim ≤ j ∧ j ≤ lim) ∧ xs = rangeL i j := by
  unfold rngF at h
  split at h
  · rename_i j
    cases r with
    | cons r1 r2 =>
      cases r2
      cases r1
      split at h
      · cases h; exact .inl ⟨j, rfl, by assumption, rfl⟩
      · cases h
  · rename_i i j
    cases r with
    | cons r1 r2 =>
      cases r2 with
      | cons r2 r3 =>
        cases r3
        cases r1
        cases r2
        split at h
        · cases h; exact .inr ⟨i, j, rfl, by assumption, rfl⟩
        · cases h
  · cases h
end
end Mir
set_option Elab.async false
set_option linter.all false
set_option maxRecDepth 100000
set_option maxHeartbeats 4000000
/-! Mir, part Ne: enumerate over a tuple. -/
namespace PySem
open Sem (wp)
open AutoSeq1 (wpAny_loadPart')
namespace MirEnum
theorem make_T (t : Addr) (its : Array Value) :
    Meets (Builtin.«enumerate.__new__» ⟨[.type "enumerate", .ref t], []⟩) (fun _ R s => s.heap.IsTuple t its ∧
      R (.ok (.ret (.ref (s.heap.push { cls := .type "tuple_iterator", data := .fields #[.ref t, .int 0 0] }).objs.size))) { s with heap := (s.heap.push { cls := .type "tuple_iterator", data := .fields #[.ref t, .int 0 0] }).push { cls := .type "enumerate", data := .fields #[.none, .bool false, .ref s.heap.objs.size, rawInt 0, .none, .none] } }) :=
  .of_wp fun prog w A R s h => by
    obtain ⟨hp, g, d, tk, os⟩ := s
    obtain ⟨hT, h⟩ := h
    obtain ⟨o, ho, hc, n, hd⟩ := id hT
    obtain ⟨c, dct, dt, sl⟩ := o
    have hc : c = .type "tuple" := hc
    have hd : dt = .seq its n := hd
    subst hc hd
    have sub1 := sub_enumerate
    wp_walk using wpAny_loadPart' ho
    refine wpAny_stack_any fun st => wpAny_pure ?_
    split
    · rename_i c _ _ _ _ _
      cases (c == Value.type "enumerate") <;> (wp_walk using wpAny_loadPart' ho, wpAny_pyIter_tuple hT; exact ⟨_, rfl, h⟩)
    · wp_walk using wpAny_loadPart' ho, wpAny_pyIter_tuple hT
      exact ⟨_, rfl, h⟩
section
variable {prog : Program} {w : World} {A : Around} {E : Value → Shared → Prop} {s : Shared}
theorem call_T {t : Addr} {its : Array Value} {Q : Value → Shared → Prop} (hT : s.heap.IsTuple t its)
    (k : ∀ h', IsEnum h' (s.heap.objs.size + 1) s.heap.objs.size 0 .none → h'.IsTupleIter s.heap.objs.size t 0 → (∀ b o, s.heap.get? b = some o → h'.get? b = some o) → Q (.ref (s.heap.objs.size + 1)) { s with heap := h' }) :
    wpAny (model prog w) A (call (.type "enumerate") [.ref t]) Q E s := by
  refine callType_new F.called_enumerate (by decide) (F.typeCall_enumerate_1 _) (F.newCall_enumerate_1 _) (fun ob => F.args_object_init_2 ob _) F.entry_enumerate_new (make_T t its) ⟨hT, ?_⟩
  generalize eH : s.heap.push { cls := .type "tuple_iterator", data := .fields #[.ref t, .int 0 0] } = H1
  have z1 : H1.objs.size = s.heap.objs.size + 1 := by rw [← eH]; exact Heap.size_push ..
  have i1 : H1.get? s.heap.objs.size = some { cls := .type "tuple_iterator", data := .fields #[.ref t, .int 0 0] } := by rw [← eH]; exact Heap.get?_push_size _ rfl
  have k1 : ∀ b o, s.heap.get? b = some o → H1.get? b = some o := fun b o e => by rw [← eH]; exact Heap.get?_push_of_some _ e
  have e1 := Heap.get?_push_size H1 (o := { cls := .type "enumerate", data := .fields #[.none, .bool false, .ref s.heap.objs.size, rawInt 0, .none, .none] }) rfl
  show _ ∧ _
  rw [z1] at e1 ⊢
  exact ⟨⟨_, e1, rfl⟩, k _ e1 ⟨_, Heap.get?_push_of_some _ i1, rfl, rfl⟩ fun b o e => Heap.get?_push_of_some _ (k1 b o e)⟩
end
end MirEnum
end PySem
namespace Mir
open PySem L2 PySem.Spec PyProof.Rows
/-- the tuple at a, its items in new pairs -/
def IteT (K : PySem.W.Frag) (a : Addr) : L2.It :=
  ⟨fun i H => ∃ (xs : List V) (x : V), SqT K H a xs ∧ xs[i]? = some x, fun i H v H' => ∃ T x, v = .ref T ∧ H T = none ∧ H' = upd H T (.tup [.int (i : Nat), x]) ∧ ∀ xs, SqT K H a xs → xs[i]? = some x, fun i H => ∃ xs : List V, SqT K H a xs ∧ xs.length ≤ i⟩
theorem turn_eT {P : Program} {w : World} {K : PySem.W.Frag} {elts : List Expr} {kk : Nat} {tpos : Pos} (a e it : Addr) (hae : a ≠ e) (hai : a ≠ it) :
    Turn P w K (.Tuple elts kk tpos) (IteT K a) [e, it] e (fun i h => (∃ old, IsEnum h e it ((i : Nat) : Int) old) ∧ h.IsTupleIter it a i ∧ e ≠ it) where
  mem := List.mem_cons_self
  obj := by
    rintro i h ⟨⟨old, he⟩, ⟨o, ho, hc, hd⟩, _⟩ b hb
    rcases List.mem_cons.mp hb with z | z
    · rw [z]; exact ⟨_, he, fun v q => nomatch q⟩
    · refine ⟨o, by rw [List.mem_singleton.mp z]; exact ho, fun v q => ?_⟩
      rw [hd] at q
      cases q
  keep := by
    rintro i h h' ⟨⟨old, he⟩, hi, hne⟩ k
    exact ⟨⟨old, k e List.mem_cons_self _ he⟩, hi.at fun o q => k it (by simp) o q, hne⟩
  item := by
    intro X hP hw hK hc i pins s σ H E I hf st hg
    subst hP hw hK
    obtain ⟨⟨old, he⟩, hit, hne⟩ := st
    obtain ⟨xs, x, hq, hx⟩ := hg
    obtain ⟨its, rv, p, hz⟩ := I.tuple hq
    obtain ⟨u, hu, ru⟩ := rv.get hx
    have l1 : e < s.heap.objs.size := Heap.lt_size he
    have l2 : it < s.heap.objs.size := by obtain ⟨_, q, _⟩ := hit; exact Heap.lt_size q
    have li : i < its.toArray.size := by
      have := (List.getElem?_eq_some_iff.mp hu).1
      simpa using this
    refine wpAny_pyNext_enum_itemD (Draws.tuple (prog := X.prog) (w := X.w) (A := X.A.in1) (I.ok.hd hc) it a hai its.toArray) he ⟨hit, p⟩ li hne (by simp; exact ⟨hne, fun z => hae z.symm⟩) ?_
    intro y h' tk hy ho hst hT hsz hk
    have hy : its.toArray[i]? = some y := hy
    have ey : y = u := by
      have : its[i]? = some y := by simpa using hy
      rw [hu] at this
      cases this
      rfl
    subst ey
    refine ⟨_, rfl, wpAny_letOwnedTupleGo_enum (s := { s with heap := h', toks := tk + 1 }) ho fun h2 he2 sb => ?_⟩
    have hT2 := (sb.2 _ (Nat.ne_of_gt l1)).trans hT
    have new : ObjOk X.prog X.w (upd H s.heap.objs.size (.tup [.int (i : Nat), x])) h2 s.heap.objs.size (.tup [.int (i : Nat), x]) := ⟨by show 2 ≤ sizeLine; decide, [.int i tk, y], .cons ⟨_, rfl⟩ (.cons ru .nil), _, hT2, rfl, _, rfl⟩
    have kp : ∀ b ob, ¬ b ∈ [e, it] → s.heap.get? b = some ob → h2.get? b = some ob := by
      intro b ob hb q
      have n1 : b ≠ e := fun z => hb (by rw [z]; exact List.mem_cons_self)
      have n2 : b ≠ it := fun z => hb (by rw [z]; simp)
      exact (sb.2 b n1).trans (hk b ob n1 n2 q)
    have J : Inv X pins σ (upd H s.heap.objs.size (.tup [.int (i : Nat), x])) { s with heap := h2, toks := tk + 1 } := I.turnedNew (ch := [e, it]) kp hf (Nat.le_refl _) new
    refine ⟨.ref s.heap.objs.size, _, J, rfl, ⟨_, x, rfl, I.hok.fresh (Nat.le_refl _), rfl, fun ys hy2 => ?_⟩, ⟨⟨y, ?_⟩, hst.1.at fun o q => (sb.2 it (Ne.symm hne)).trans q, hne⟩, fun b hb => ?_⟩
    · rw [I.tuple_inj hy2 hq]
      exact hx
    · have e1 : ((i + 1 : Nat) : Int) = (i : Int) + 1 := by omega
      rw [e1]
      exact he2
    · have lb : b < s.heap.objs.size := by
        rcases List.mem_cons.mp hb with z | z
        · rw [z]; exact l1
        · rw [List.mem_singleton.mp z]; exact l2
      rw [upd_ne (Nat.ne_of_lt lb)]
      exact (hf b hb).1
  done := by
    intro X hP hw hK hc i pins s σ H E I hf st hg
    subst hP hw hK
    obtain ⟨⟨old, he⟩, hit, hne⟩ := st
    obtain ⟨xs, hq, hx⟩ := hg
    obtain ⟨its, rv, p, hz⟩ := I.tuple hq
    obtain ⟨f0, f1, f2, f3, f4, f5⟩ := hf it (by simp)
    have hn : its.toArray[i]? = none := by
      have := rv.length
      simp
      omega
    have Dr : Draws X.prog X.w X.A.in1 it [it, a] i (fun _ _ => False) (fun j h => j = i ∧ h.IsTupleIter it a i ∧ h.IsTuple a its.toArray) := {
      live := fun _ _ st => let ⟨o, ho, _⟩ := st.2.1; ⟨o, ho⟩
      frame := fun _ _ _ st k => ⟨st.1, st.2.1.at fun o q => k it (by simp) o q, st.2.2.at fun o q => k a (by simp) o q⟩
      item := fun j s Q E hj st _ => absurd st.1 (Nat.ne_of_lt hj)
      done := fun s Q E st hE => wpAny_nextOf_tuple_end (I.ok.hd hc) st.2.1 st.2.2 hn hE }
    exact wpAny_pyNext_enum_endD Dr he ⟨rfl, hit, p⟩ fun h' eb => ⟨rfl, I.turned (t' := s.toks) (fun b o hb q => eb b o hb q) f0 f1 f3 f4 f5⟩
  self := fun A i s Q E st h => wpAny_pyIter_enum st.1.choose_spec h
/-- a list, or a tuple -/
def iEnA (K : PySem.W.Frag) (ta : TA) : TI := fun σ H R => ta σ H fun vs H1 => ∃ a xs, vs = [.ref a] ∧ ((SqL K H1 a xs ∧ R (Ite K a) H1) ∨ (SqT K H1 a xs ∧ R (IteT K a) H1))
theorem pi_enA {X : Cx} {e : Expr} {ta : TA} {p pos tpos : Pos} {elts : List Expr} {kk : Nat} (hg : Gl X "enumerate") (hm : X.mg "enumerate" = none) (ha : PA X [e] ta) (hs : starEach [e] X.env = [(false, eval e X.env)]) :
    PI X (.Tuple elts kk tpos) (.Call (.Name "enumerate" p) [e] [] pos) (iEnA X.K ta) := by
  refine ⟨fun pins s σ H R I h => ?_⟩
  refine Call_ (ld_blt I hg hm boot_enumerate (PyProof.Rows.callWith_type1 (thn (ha.run pos pins s σ H _ I h) fun us s1 ⟨vs, H1, I1, r1, q1⟩ => ?_) hs rfl))
  obtain ⟨a, xs, ex, q⟩ := q1
  subst ex
  cases r1 with
  | cons r rr =>
    cases rr
    cases r
    have fresh : ∀ b, s1.heap.objs.size ≤ b → H1 b = none := fun b hb => I1.hok.fresh hb
    have two : ∀ b ∈ [s1.heap.objs.size + 1, s1.heap.objs.size], s1.heap.objs.size ≤ b := fun b hb => by
      rcases List.mem_cons.mp hb with z | z
      · rw [z]; exact Nat.le_add_right _ _
      · rw [List.mem_singleton.mp z]; exact Nat.le_refl _
    rcases q with ⟨hq, q⟩ | ⟨hq, q⟩
    · obtain ⟨its, rv, p', hz⟩ := I1.list hq
      refine call_enumerate_list p'.isList fun h' he hit hsz hk => wpAny_pyIter_enum he ?_
      have I2 : Inv X pins σ H1 { s1 with heap := h' } := I1.kept (t' := s1.toks) hk
      exact ⟨s1.heap.objs.size + 1, [s1.heap.objs.size + 1, s1.heap.objs.size], _, _, H1, rfl, I2, turn_enum a _ _, ⟨⟨.none, he⟩, hit, Nat.succ_ne_self _⟩, fun b hb => I1.fpOk (two b hb) (fresh b (two b hb)), q⟩
    · obtain ⟨its, rv, p', hz⟩ := I1.tuple hq
      have la : a < s1.heap.objs.size := by obtain ⟨o, ho, _⟩ := id p'; exact Heap.lt_size ho
      refine MirEnum.call_T p' fun h' he hit hk => wpAny_pyIter_enum he ?_
      have I2 : Inv X pins σ H1 { s1 with heap := h' } := I1.kept (t' := s1.toks) hk
      exact ⟨s1.heap.objs.size + 1, [s1.heap.objs.size + 1, s1.heap.objs.size], _, _, H1, rfl, I2, turn_eT a _ _ (Nat.ne_of_lt (Nat.lt_succ_of_lt la)) (Nat.ne_of_lt la), ⟨⟨.none, he⟩, hit, Nat.succ_ne_self _⟩, fun b hb => I1.fpOk (two b hb) (fresh b (two b hb)), q⟩
section
variable {K : PySem.W.Frag} {mg : Str → Option Value} {b : Bool} {H Hf : Hp} {a : Addr} {vs : List V} {ds : List D}
theorem walk_eT (h : SqAt K mg b H Hf a vs true ds) : Walk K mg b H Hf (IteT K a) (enumL 0 ds) := fun H2 Hf2 h1 h2 h3 => by
  have hq := h.tu h1 h2
  have rp := Reps.mono h1 _ _ h.1
  refine ⟨fun i d e => ?_, fun i hi => ⟨vs, hq, by rw [rp.length]; rw [enumL_len] at hi; exact hi⟩⟩
  obtain ⟨x, ex, ed⟩ := enumL_get e
  obtain ⟨v, hv, rv⟩ := rp.get ex
  refine ⟨⟨vs, v, hq, hv⟩, fun y H3 q => ?_⟩
  obtain ⟨T, z, e1, e2, e3, e4⟩ := q
  have := e4 vs hq
  rw [hv] at this
  cases this
  rw [Nat.zero_add] at ed
  exact .inr ⟨T, _, _, e1, e2, e3, ed, .cons (.int _) (.cons rv .nil)⟩
end
end Mir
set_option Elab.async false
set_option linter.all false
set_option maxRecDepth 100000
set_option maxHeartbeats 4000000
/-! Mir, part O: range, zip, enumerate. -/
namespace Mir
open PySem L2 PyProof.Rows

section
variable {X : Cx} {Wx : WX} {sc : Scope} {cl : Cl} {bs fs : List Str} {n : Nat} {pos p apos tpos : Pos} {tg : Expr}
theorem rd_rng {es : Es} {w b : Bool} {σ : L2.St} {H : Hp} {R : L2.It → Hp → Prop} (q : RdI X Wx cl w b (.rng es) σ H R) : RdOs X Wx cl w es.pure es σ H (fun vs H1 => vs.length = es.len ∧
    ((∃ j : Int, vs = [.int j] ∧ -(2 ^ 62) ≤ j ∧ j < 2 ^ 62 ∧ R (Itr 0 j.toNat) H1) ∨ ∃ i j : Int, vs = [.int i, .int j] ∧ (-(2 ^ 62) ≤ i ∧ i < 2 ^ 62 ∧ -(2 ^ 62) ≤ j ∧ j < 2 ^ 62) ∧ R (Itr i (j - i).toNat) H1)) := by
  have lim62 : (lim : Int) = 10000000 := by decide
  obtain ⟨τ, Hf, as, rel, q⟩ := q
  rw [evalIt] at q
  refine ⟨τ, Hf, as, rel, q.bind.eq.imp fun os τ1 ⟨eo, q⟩ => ?_⟩
  intro vs H1 Hf1 as1 ao r s
  cases ex : rngF (O.datas os) with
  | none => rw [ex] at q; exact q.elim
  | some xs =>
    rw [ex] at q
    have st : Stp w (Wof as) H Hf H1 Hf1 (Wof as1) := s.2.2.sub fun _ z => .inl z
    have rp : Reps X.K X.mg H1 vs (O.datas os) := s.1.rep r.sub
    refine ⟨by rw [s.1.length, evalOs_len _ _ _ _ _ eo], ?_⟩
    rcases rng_at ex rp with ⟨j, e1, h1, h2⟩ | ⟨i, j, e1, h1, h2⟩
    · refine .inl ⟨j, e1, by omega, by omega, ?_⟩
      have z := walk_r (K := X.K) (mg := X.mg) (b := b) (H := H1) (Hf := Hf1) (lo := 0) (hi := j)
      rw [← h2, Int.sub_zero] at z
      exact q _ H1 Hf1 as1 r st z fun z => by cases z
    · refine .inr ⟨i, j, e1, by omega, ?_⟩
      have z := walk_r (K := X.K) (mg := X.mg) (b := b) (H := H1) (Hf := Hf1) (lo := i) (hi := j)
      rw [← h2] at z
      exact q _ H1 Hf1 as1 r st z fun z => by cases z
theorem RdOs.mono {w b : Bool} {es : Es} {σ : L2.St} {H : Hp} {Q Q' : List V → Hp → Prop} (h : RdOs X Wx cl w b es σ H Q) (i : ∀ vs H', Q vs H' → Q' vs H') : RdOs X Wx cl w b es σ H Q' := by
  obtain ⟨τ, Hf, as, rel, q⟩ := h
  exact ⟨τ, Hf, as, rel, q.imp fun os τ' q vs H' Hf' as' ao r s => i _ _ (q vs H' Hf' as' ao r s)⟩
theorem snd_rng {es : Es} {xs : List Expr} {x : Str} (C : Ctx X Wx sc) (G : GOk X cl bs fs n) (hx : x = "range") (hin : x ∈ bs) (hg : glB sc x = true) (hl : es.len = 1 ∨ es.len = 2) (A : AllSnd X Wx cl es xs) : SndI X Wx cl (.rng es) tg (.Call (.Name x p) xs [] pos) := fun w b hp => by
  have hpe : (es.pure || w) = true := by simpa [It.pure] using hp
  have pa := pa_os A w es.pure hpe id
  have hm := G.bl x hin
  have hgl := C.gl hg
  subst hx
  cases A with
  | nil => simp [Es.len] at hl
  | cons hs1 _ _ t =>
    cases t with
    | nil =>
      refine (pi_range1 hgl hm pa (by rw [star_eq hs1] <;> rfl)).imp fun σ H R q => (rd_rng q).mono fun vs H1 h => ?_
      rcases h.2 with h2 | ⟨i, j, e, _⟩
      · exact h2
      · have := h.1
        rw [e] at this
        simp [Es.len] at this
    | cons hs2 _ _ t =>
      cases t with
      | nil =>
        refine (pi_range2 hgl hm pa (by rw [star_eq hs1, star_eq hs2] <;> rfl) (by rw [star_eq hs2] <;> rfl)).imp fun σ H R q => (rd_rng q).mono fun vs H1 h => ?_
        rcases h.2 with ⟨j, e, _⟩ | h2
        · have := h.1
          rw [e] at this
          simp [Es.len] at this
        · exact h2
      | cons _ _ _ t => simp [Es.len] at hl
/-- several results are frozen -/
theorem ResL.freeze {K : PySem.W.Frag} {mg : Str → Option Value} {τ : Tau} {σ : L2.St} {H Hf H' Hf' : Hp} {as as' : Nat → List Addr} {os : List O} {vs : List V} {ao : List Addr} {w : Bool} (r : Rel K mg τ σ H' Hf' as') (s : ResL K mg false w H Hf as os vs H' Hf' as' ao) :
    Rel K mg τ σ H' (frz Hf' H' ao) as' ∧ Reps K mg (frz Hf' H' ao) vs (O.datas os) ∧ Stp w (Wof as) H Hf H' (frz Hf' H' ao) (Wof as') := by
  obtain ⟨ow, nd, dj⟩ := s.2.1 rfl
  exact ⟨r.frz dj, ow.rep (frz_same r.sub) _ _ _ (fun b hb u e => by rw [frz_in hb]; exact e), (s.2.2.sub fun _ z => .inl z).frz r.sub (fun c hc => s.2.2.own c (.inr ⟨rfl, hc⟩)) fun c z => s.2.2.own c (.inl z)⟩
theorem Walk.weak {K : PySem.W.Frag} {mg : Str → Option Value} {H Hf : Hp} {b : Bool} {J : L2.It} {xs : List D} (h : Walk K mg false H Hf J xs) : Walk K mg b H Hf J xs := fun H2 Hf2 h1 h2 _ => h H2 Hf2 h1 h2 fun z => by cases z
/-- the operands of zip, enumerate -/
def OpsAt (K : PySem.W.Frag) (mg : Str → Option Value) (b : Bool) (H Hf : Hp) : List O → List V → Prop
  | [], vs => vs = []
  | o :: os, vs => ∃ v vr, vs = v :: vr ∧ (∀ ds, itemsB b o = some ds → ∃ a ws, v = .ref a ∧ SqAt K mg b H Hf a ws (isTup o) ds) ∧ OpsAt K mg b H Hf os vr
theorem ops_vw {K : PySem.W.Frag} {mg : Str → Option Value} {H Hf : Hp} (sb : Same Hf H) : ∀ {os : List O} {vs : List V}, RVws K mg Hf H os vs → OpsAt K mg true H Hf os vs
  | [], _, h => by rw [RVws] at h; exact h
  | o :: os, _, h => by
    rw [RVws] at h
    obtain ⟨v, vr, e, h1, h2⟩ := h
    exact ⟨v, vr, e, fun ds ed => vw_sq sb h1 ed, ops_vw sb h2⟩
theorem ops_rp {K : PySem.W.Frag} {mg : Str → Option Value} {H Hf : Hp} : ∀ {os : List O} {vs : List V}, Reps K mg Hf vs (O.datas os) → OpsAt K mg false H Hf os vs
  | [], _, h => by rw [O.datas] at h; cases h; rfl
  | o :: os, _, h => by
    rw [O.datas] at h
    cases h with
    | cons h1 h2 => exact ⟨_, _, rfl, fun ds ed => rp_sq h1 ed, ops_rp h2⟩
theorem rd_ops {es : Es} {w b : Bool} {σ : L2.St} {H : Hp} {f : Bool → List O → Option (List D)} {it : Mir.It} {R : L2.It → Hp → Prop} (hq : it.isSeq = false) (he : ∀ τ, evalIt cl b it τ = (evalOs cl (b && es.pure) es τ).andThen fun os τ => match f (b && es.pure) os with | some xs => .ok xs τ | none => .st)
    (q : RdI X Wx cl w b it σ H R) {Q : List V → Hp → Prop} (h : ∀ os xs vs H1 Hf1, Same Hf1 H1 → f (b && es.pure) os = some xs → OpsAt X.K X.mg (b && es.pure) H1 Hf1 os vs → (∀ J, Walk X.K X.mg (b && es.pure) H1 Hf1 J xs → R J H1) → Q vs H1) : RdOs X Wx cl w (b && es.pure) es σ H Q := by
  obtain ⟨τ, Hf, as, rel, q⟩ := q
  rw [he] at q
  refine ⟨τ, Hf, as, rel, q.bind.imp fun os τ1 q => ?_⟩
  intro vs H1 Hf1 as1 ao r s
  cases ex : f (b && es.pure) os with
  | none => rw [ex] at q; exact q.elim
  | some xs =>
    rw [ex] at q
    cases hb : b && es.pure with
    | true =>
      rw [hb] at ex s h
      have b1 : b = true := by cases b <;> simp_all
      subst b1
      exact h os xs vs H1 Hf1 r.sub ex (ops_vw r.sub s.1) fun J hJ => q J H1 Hf1 as1 r (s.2.2.sub fun _ z => .inl z) hJ fun z => by rw [hq] at z; cases z
    | false =>
      rw [hb] at ex s h
      obtain ⟨r2, rp, st⟩ := s.freeze r
      exact h os xs vs H1 _ r2.sub ex (ops_rp rp) fun J hJ => q J H1 _ as1 r2 st hJ.weak fun z => by rw [hq] at z; cases z
theorem snd_zip {es : Es} {xs ts : List Expr} {x : Str} {k : Nat} (C : Ctx X Wx sc) (G : GOk X cl bs fs n) (hx : x = "zip") (hin : x ∈ bs) (hg : glB sc x = true) (hl : es.len = 2) (A : AllSnd X Wx cl es xs) : SndI X Wx cl (.zip es) (.Tuple ts k tpos) (.Call (.Name x p) xs [] pos) := fun w b hp => by
  have hpe : (es.pure || w) = true := by simpa [It.pure] using hp
  have pa := pa_os A w (b && es.pure) hpe (fun z => by cases b <;> simp_all)
  have hm := G.bl x hin
  have hgl := C.gl hg
  subst hx
  cases A with
  | nil => simp [Es.len] at hl
  | cons hs1 _ _ t =>
    cases t with
    | nil => simp [Es.len] at hl
    | cons hs2 _ _ t =>
      cases t with
      | cons _ _ _ t => simp [Es.len] at hl
      | nil =>
        refine (RZ.pi_zipA hgl hm pa (star_eq hs1) (plain_any (by rw [List.all_cons, hs2] <;> rfl))).imp fun σ H R q => rd_ops (f := zipF) rfl (fun τ => by rw [evalIt] <;> rfl) q fun os xs vs H1 Hf1 sb ex op hR => ?_
        unfold zipF at ex
        split at ex
        · rename_i o1 o2
          split at ex
          · rename_i ht
            cases e1 : itemsB (b && (Es.cons _ (Es.cons _ Es.nil)).pure) o1 with
            | none => rw [e1] at ex; cases ex
            | some d1 =>
              cases e2 : itemsB (b && (Es.cons _ (Es.cons _ Es.nil)).pure) o2 with
              | none => rw [e1, e2] at ex; cases ex
              | some d2 =>
                rw [e1, e2] at ex
                cases ex
                obtain ⟨v1, vr, ev, g1, op⟩ := op
                obtain ⟨v2, vr2, ev2, g2, op⟩ := op
                have op : vr2 = [] := op
                subst ev ev2 op
                obtain ⟨a1, w1, f1, s1⟩ := g1 d1 e1
                obtain ⟨a2, w2, f2, s2⟩ := g2 d2 e2
                subst f1 f2
                have ht : isTup o1 = isTup o2 := by simpa using ht
                refine ⟨a1, a2, w1, w2, rfl, ?_⟩
                cases h1 : isTup o1 with
                | false =>
                  rw [← ht, h1] at s2
                  rw [h1] at s1
                  exact .inl ⟨s1.li (Same.refl _) sb fun _ => Same.refl _, s2.li (Same.refl _) sb fun _ => Same.refl _, hR _ (walk_z s1 s2)⟩
                | true =>
                  rw [← ht, h1] at s2
                  rw [h1] at s1
                  exact .inr ⟨s1.tu (Same.refl _) sb, s2.tu (Same.refl _) sb, hR _ (walk_zT s1 s2)⟩
          · cases ex
        · cases ex
theorem snd_enum {es : Es} {xs ts : List Expr} {x : Str} {k : Nat} (C : Ctx X Wx sc) (G : GOk X cl bs fs n) (hx : x = "enumerate") (hin : x ∈ bs) (hg : glB sc x = true) (hl : es.len = 1) (A : AllSnd X Wx cl es xs) : SndI X Wx cl (.enum es) (.Tuple ts k tpos) (.Call (.Name x p) xs [] pos) := fun w b hp => by
  have hpe : (es.pure || w) = true := by simpa [It.pure] using hp
  have pa := pa_os A w (b && es.pure) hpe (fun z => by cases b <;> simp_all)
  have hm := G.bl x hin
  have hgl := C.gl hg
  subst hx
  cases A with
  | nil => simp [Es.len] at hl
  | cons hs1 _ _ t =>
    cases t with
    | cons _ _ _ t => simp [Es.len] at hl
    | nil =>
      refine (pi_enA hgl hm pa (by rw [star_eq hs1] <;> rfl)).imp fun σ H R q => rd_ops (f := enumF) rfl (fun τ => by rw [evalIt] <;> rfl) q fun os xs vs H1 Hf1 sb ex op hR => ?_
      unfold enumF at ex
      split at ex
      · rename_i o1
        cases e1 : itemsB (b && (Es.cons _ Es.nil).pure) o1 with
        | none => rw [e1] at ex; cases ex
        | some d1 =>
          rw [e1] at ex
          cases ex
          obtain ⟨v1, vr, ev, g1, op⟩ := op
          have op : vr = [] := op
          subst ev op
          obtain ⟨a1, w1, f1, s1⟩ := g1 d1 e1
          subst f1
          refine ⟨a1, w1, rfl, ?_⟩
          cases ht : isTup o1 with
          | false =>
            rw [ht] at s1
            exact .inl ⟨s1.li (Same.refl _) sb fun _ => Same.refl _, hR _ (walk_e s1)⟩
          | true =>
            rw [ht] at s1
            exact .inr ⟨s1.tu (Same.refl _) sb, hR _ (walk_eT s1)⟩
      · cases ex
end

/-! list(range(n)) -/
theorem reps_map {α : Type} {K : PySem.W.Frag} {mg : Str → Option Value} {H : Hp} {f : α → V} {g : α → D} (h : ∀ i, Rep K mg H (f i) (g i)) : ∀ l : List α, Reps K mg H (l.map f) (l.map g)
  | [] => .nil
  | i :: l => .cons (h i) (reps_map h l)
theorem snd_lrg {X : Cx} {Wx : WX} {sc : Scope} {cl : Cl} {bs fs : List Str} {n : Nat} {pos pos2 p p2 : Pos} {a : E} {e : Expr} {x y : Str} (C : Ctx X Wx sc) (G : GOk X cl bs fs n) (hx : x = "list") (hin : x ∈ bs) (hg : glB sc x = true) (hy : y = "range") (hin2 : y ∈ bs) (hg2 : glB sc y = true) (hs : notStar e = true) (ha : Snd X Wx cl a e) :
    Snd X Wx cl (.lrg a) (.Call (.Name x p) [.Call (.Name y p2) [e] [] pos2] [] pos) := fun w b hp => by
  have lim62 : (lim : Int) = 10000000 := by decide
  have hm := G.bl x hin
  have hm2 := G.bl y hin2
  have hgl := C.gl hg
  have hgl2 := C.gl hg2
  subst hx hy
  refine (L2.pe_listRg C.calm hgl hm (L2.prg_1 hgl2 hm2 (ha w true (by simpa [E.pure] using hp)) (by rw [star_eq hs] <;> rfl))).imp fun σ H Q q => ?_
  obtain ⟨τ, Hf, as, rel, q⟩ := q
  rw [evalG] at q
  refine ⟨τ, Hf, as, rel, q.bind.imp fun o τ1 q => ?_⟩
  intro v H1 Hf1 as1 ao r s
  obtain ⟨o2, e2, q⟩ := ofO_at q
  generalize ed : o.data = d at e2
  unfold lrgF at e2
  split at e2
  · rename_i i
    split at e2
    · rename_i hi
      cases e2
      refine ⟨i, s.1.int ed, ⟨by omega, by omega, by omega, by omega, by omega⟩, fun p hp => ?_⟩
      refine (Fin.of r (PostE.from q s.stp)).2.2 p _ _ rfl hp ?_
      exact reps_map (fun j => .int _) _
    · cases e2
  · cases e2
end Mir
set_option Elab.async false
set_option linter.all false
set_option maxRecDepth 100000
set_option maxHeartbeats 4000000
/-! Mir, part P: list comprehensions. -/
namespace Mir
open PySem L2 PyProof.Rows

def WxF : WX := fun _ _ _ _ => False
theorem look_free {sc : Scope} : ∀ {names : List (Str × NameKind)} {x : Str}, names.lookup x = some .free →
    (names.map fun (n, k) => if (k == NameKind.free && sc.kind == .function && sc.names.lookup n == some .cell) then (n, NameKind.cell) else (n, k)).lookup x = some .free ∨
    (names.map fun (n, k) => if (k == NameKind.free && sc.kind == .function && sc.names.lookup n == some .cell) then (n, NameKind.cell) else (n, k)).lookup x = some .cell
  | [], _, h => by simp at h
  | (n, k) :: r, x, h => by
    rw [List.map_cons]
    dsimp only
    cases hx : x == n with
    | true =>
      rw [List.lookup_cons, hx] at h
      have hk : k = .free := by simpa using h
      subst hk
      by_cases hc : (NameKind.free == NameKind.free && sc.kind == .function && sc.names.lookup n == some .cell) = true
      · rw [if_pos hc, List.lookup_cons, hx]; exact .inr rfl
      · rw [if_neg hc, List.lookup_cons, hx]; exact .inl rfl
    | false =>
      rw [List.lookup_cons, hx] at h
      by_cases hc : (k == NameKind.free && sc.kind == .function && sc.names.lookup n == some .cell) = true
      · rw [if_pos hc, List.lookup_cons, hx]; exact look_free h
      · rw [if_neg hc, List.lookup_cons, hx]; exact look_free h
section
variable {X : Cx} {Wx : WX} {sc scope : Scope} {cl : Cl} {bs fs : List Str} {n : Nat} {pos p apos tpos : Pos} {tg : Expr}
theorem ctx_blk (C : Ctx X Wx sc) (s : Shared) (H : Hp) (a : Addr) (c : List (Str × Addr)) (fp : List Addr) : Ctx (X.blk s H scope (compEnvC scope c a X.env) fp) WxF scope := by
  refine ⟨C.calm, C.nd, fun x k e => ?_, fun x e => ?_, fun u s' h => ?_⟩
  · show (relS scope X.env.scope).names.lookup x = some k ∨ (k = .free ∧ (relS scope X.env.scope).names.lookup x = some .cell)
    by_cases hk : k = .free
    · subst hk
      rcases look_free (sc := X.env.scope) e with z | z
      · exact .inl z
      · exact .inr ⟨rfl, z⟩
    · exact .inl (lookup_relS_keep hk e)
  · show (scope.names.lookup x == some .cell) = true
    rw [e]; rfl
  · obtain ⟨_, _, _, _, _, _, _, _, _, _, _, _, _, _, _, _, z⟩ := h
    exact z
theorem g_blk (G : GOk X cl bs fs n) (s : Shared) (H : Hp) (e : Env) (fp : List Addr) : GOk (X.blk s H scope e fp) cl bs fs n := ⟨G.room, G.gd, G.con, G.bl, G.fn⟩
theorem blk_of {own : List (Str × Nat)} (C : Ctx X Wx sc) (h : blkC X.N sc scope own = true) : BlkOk X.N X.env.scope scope own := by
  have k := blkOk_by h
  refine ⟨k.kind, k.uniq, k.ix, fun y hy e => ?_, k.own⟩
  rcases k.free y hy e with z | z
  · rcases C.look _ _ z with z | z
    · exact .inl z
    · cases z.1
  · rcases C.look _ _ z with z | z
    · exact .inr z
    · exact .inl z.2

/-! ### a clause's tests -/
inductive TestsSnd (X : Cx) (Wx : WX) (cl : Cl) : Es → List Expr → Prop
  | nil : TestsSnd X Wx cl .nil []
  | one {c : E} {e : Expr} : SndT X Wx cl c e → TestsSnd X Wx cl (.cons c .nil) [e]
def RdTs (X : Cx) (Wx : WX) (cl : Cl) (w : Bool) (cs : Es) : TT := fun σ H Q => ∃ τ Hf as, Rel X.K X.mg τ σ H Hf as ∧ RdM X.K X.mg Wx w σ H Hf as (evalTests cl cs τ)
  (fun k τ' => ∀ H' Hf' as', Rel X.K X.mg τ' σ H' Hf' as' → Stp w (Wof as) H Hf H' Hf' (Wof as') → Q k H')
theorem pts_ok {cs : Es} {es : List Expr} (h : TestsSnd X Wx cl cs es) (w : Bool) (hp : (cs.pure || w) = true) : PTs X es (RdTs X Wx cl w cs) := by
  cases h with
  | nil =>
    refine ⟨fun pins s σ H Q I q => pts_nil.run pins s σ H Q I ?_⟩
    obtain ⟨τ, Hf, as, rel, q⟩ := q
    rw [evalTests] at q
    exact q H Hf as rel (Stp.refl fun _ z => z)
  | one h =>
    refine ⟨fun pins s σ H Q I q => (pts_one (h w (by simpa [Es.pure] using hp))).run pins s σ H Q I ?_⟩
    obtain ⟨τ, Hf, as, rel, q⟩ := q
    rw [evalTests] at q
    refine ⟨τ, Hf, as, rel, (RdM.bind q).imp fun k τ1 q => ?_⟩
    intro H1 Hf1 as1 r s
    cases k with
    | true =>
      rw [if_pos rfl, evalTests] at q
      exact q H1 Hf1 as1 r s
    | false =>
      rw [if_neg Bool.false_ne_true] at q
      exact q H1 Hf1 as1 r s

/-! ### no error -/
def RdN {α : Type} (r : R α) (P : α → Tau → Prop) : Prop :=
  match r with
  | .ok a τ => P a τ
  | _ => False
theorem RdN.m {α : Type} {r : R α} {P : α → Tau → Prop} {K : PySem.W.Frag} {mg : Str → Option Value} {w : Bool} {σ : L2.St} {H Hf : Hp} {as : Nat → List Addr} (h : RdN r P) : RdM K mg Wx w σ H Hf as r P := by
  cases r with
  | ok a τ => exact h
  | ex x τ => exact h.elim
  | st => exact h.elim
theorem RdN.imp {α : Type} {r : R α} {P P' : α → Tau → Prop} (h : RdN r P) (i : ∀ a τ, P a τ → P' a τ) : RdN r P' := by
  cases r with
  | ok a τ => exact i a τ h
  | ex x τ => exact h.elim
  | st => exact h.elim
theorem RdN.bind {α β : Type} {r : R α} {f : α → Tau → R β} {P : β → Tau → Prop} (h : RdN (r.andThen f) P) : RdN r (fun a τ => RdN (f a τ) P) := by
  cases r with
  | ok a τ => exact h
  | ex x τ => exact h
  | st => exact h
theorem noEx_at {α : Type} {r : R α} {P : α → Tau → Prop} {K : PySem.W.Frag} {mg : Str → Option Value} {w : Bool} {σ : L2.St} {H Hf : Hp} {as : Nat → List Addr} (h : RdM K mg Wx w σ H Hf as (noEx r) P) : RdN r P := by
  cases r with
  | ok a τ => exact h
  | ex x τ => exact h.elim
  | st => exact h.elim

/-! ### names that a block forgets -/
section
variable {K : PySem.W.Frag} {mg : Str → Option Value} {τ τ2 : Tau} {σ σ2 : L2.St} {H Hf H' Hf' : Hp} {as as' asw : Nat → List Addr} {w wt : Bool} {vs : List Nat}
theorem getO_setA {τ : Tau} {i j : Nat} {x : Option O} : getO (τ.set i x) j = if j = i ∧ i < τ.length then x else getO τ j := by
  cases x with
  | some o => exact getO_set
  | none =>
    rw [getO_setN]
    by_cases h : j = i
    · subst h
      rw [if_pos rfl]
      by_cases hl : j < τ.length
      · rw [if_pos ⟨rfl, hl⟩]
      · rw [if_neg (fun z => hl z.2)]
        unfold getO
        rw [List.getElem?_eq_none (by omega)]
    · rw [if_neg h, if_neg (fun z => h z.1)]
theorem getO_wipe (τ : Tau) : ∀ (vs : List Nat) (j : Nat), getO (wipeT τ vs) j = if j ∈ vs then none else getO τ j
  | [], j => by simp [wipeT]
  | v :: vs, j => by
    rw [wipeT, getO_setN, getO_wipe τ vs j]
    by_cases h : j = v
    · rw [if_pos h, if_pos (by rw [h]; exact List.mem_cons_self)]
    · rw [if_neg h]
      simp [h]
theorem backT_len (τ0 τ : Tau) : ∀ vs : List Nat, (backT τ0 τ vs).length = τ.length
  | [] => rfl
  | v :: vs => by rw [backT, List.length_set, backT_len τ0 τ vs]
theorem getO_get {τ : Tau} {j : Nat} : getO τ j = (τ[j]?).getD none := by
  unfold getO
  cases e : τ[j]? with
  | none => rfl
  | some x => cases x <;> rfl
theorem getO_back (τ0 τ : Tau) (hl : τ0.length = τ.length) : ∀ (vs : List Nat) (j : Nat), getO (backT τ0 τ vs) j = if j ∈ vs then getO τ0 j else getO τ j
  | [], j => by simp [backT]
  | v :: vs, j => by
    rw [backT, getO_setA, getO_back τ0 τ hl vs j, backT_len]
    by_cases h : j = v
    · subst h
      by_cases hj : j < τ.length
      · rw [if_pos ⟨rfl, hj⟩, if_pos List.mem_cons_self, getO_get]
      · rw [if_neg (fun z => hj z.2), if_pos List.mem_cons_self]
        have e1 : getO τ0 j = none := by unfold getO; rw [List.getElem?_eq_none (by omega)]
        have e2 : getO τ j = none := by unfold getO; rw [List.getElem?_eq_none (by omega)]
        rw [e1, e2]; simp
    · rw [if_neg (fun z => h z.1)]
      simp [h]
/-- the block's names are forgotten on both sides -/
theorem Rel.wipe2 (r : Rel K mg τ σ H Hf as) (vs : List Nat) : ∃ as', Rel K mg (Mir.wipeT τ vs) (L2.wipe σ vs) H Hf as' ∧ (∀ j, j ∈ vs → as' j = []) ∧ ∀ j, j ∉ vs → as' j = as j := by
  obtain ⟨as', r', h1, h2⟩ := r.wipeT vs
  refine ⟨as', ⟨by rw [wipeT_len, wipe_length]; exact r.len, r'.sub, fun i o e => ?_, r'.emp, r'.nd, r'.sep⟩, h1, h2⟩
  obtain ⟨v, hv, ow⟩ := r'.slot i o e
  rw [getO_wipe] at e
  by_cases hi : i ∈ vs
  · rw [if_pos hi] at e; cases e
  · exact ⟨v, by rw [wipe_get, if_neg (fun z => hi z.1)]; exact hv, ow⟩
theorem Stp.wid {W W' W2 : Addr → Prop} (s : Stp wt W H Hf H' Hf' W') (h : ∀ b, W b → W2 b) (hw : wt = true → w = true) : Stp w W2 H Hf H' Hf' W' :=
  ⟨fun b o e n => s.keep b o e fun z q => n (hw z) (h b q), s.grow, fun b o e => (s.froz b o e).imp id fun z => z.imp (h b) id, fun b q => (s.own b q).imp (h b) id⟩
/-- and stand again -/
theorem Rel.back {ao : List Addr} (r : Rel K mg τ σ H Hf as) (r2 : Rel K mg (Mir.wipeT τ2 vs) (L2.wipe σ vs) H' Hf' as') (h1 : ∀ j, j ∈ vs → asw j = []) (h2 : ∀ j, j ∉ vs → asw j = as j) (st : Stp wt (Wof asw) H Hf H' Hf' (fun c => Wof as' c ∨ c ∈ ao)) (dj : ∀ c ∈ ao, ¬ Wof as' c) :
    ∃ as2, Rel K mg (backT τ τ2 vs) σ H' Hf' as2 ∧ (∀ c ∈ ao, ¬ Wof as2 c) ∧ ∀ c, Wof as2 c → Wof as c ∨ Wof as' c := by
  classical
  have hl : τ.length = τ2.length := by have := r2.len; rw [wipeT_len, wipe_length] at this; rw [this]; exact r.len
  have hv0 : ∀ j ∈ vs, as' j = [] := fun j hj => r2.emp j (by rw [getO_wipe, if_pos hj])
  have nw : ∀ j ∈ vs, ∀ c ∈ as j, ¬ Wof asw c := fun j hj c hc ⟨k, hk⟩ => by
    by_cases hm : k ∈ vs
    · rw [h1 k hm] at hk; cases hk
    · rw [h2 k hm] at hk
      have := r.sep j k c hc hk
      subst this
      exact hm hj
  have far : ∀ j ∈ vs, ∀ c ∈ as j, ¬ Wof as' c ∧ c ∉ ao := fun j hj c hc => by
    obtain ⟨_, ws, e⟩ := r.at ⟨j, hc⟩
    have key : ¬ (Wof as' c ∨ c ∈ ao) := fun z => by
      rcases st.own c z with q | q
      · exact nw j hj c hc q
      · rw [e] at q; cases q
    exact ⟨fun z => key (.inl z), fun z => key (.inr z)⟩
  refine ⟨fun j => if j ∈ vs then as j else as' j, ⟨by rw [backT_len, ← hl]; exact r.len, r2.sub, fun i o e => ?_, fun i e => ?_, fun i => ?_, fun i j c hi hj => ?_⟩, fun c hc ⟨j, hj⟩ => ?_, fun c ⟨j, hj⟩ => ?_⟩
  · rw [getO_back _ _ hl] at e
    by_cases hi : i ∈ vs
    · rw [if_pos hi] at e
      rw [if_pos hi]
      obtain ⟨v, hv, ow⟩ := r.slot i o e
      refine ⟨v, hv, ow.keep st.grow _ _ _ fun c hc u q => ⟨st.keep c u q fun _ => nw i hi c hc, ?_⟩⟩
      cases z : Hf' c with
      | none => rfl
      | some y =>
        rcases st.froz c y z with q' | q' | q'
        · rw [(r.at ⟨i, hc⟩).1] at q'; cases q'
        · exact (nw i hi c hc q').elim
        · rw [q] at q'; cases q'
    · rw [if_neg hi] at e
      rw [if_neg hi]
      obtain ⟨v, hv, ow⟩ := r2.slot i o (by rw [getO_wipe, if_neg hi]; exact e)
      rw [wipe_get, if_neg (fun z => hi z.1)] at hv
      exact ⟨v, hv, ow⟩
  · rw [getO_back _ _ hl] at e
    by_cases hi : i ∈ vs
    · rw [if_pos hi] at e
      show (if i ∈ vs then as i else as' i) = []
      rw [if_pos hi]; exact r.emp i e
    · rw [if_neg hi] at e
      show (if i ∈ vs then as i else as' i) = []
      rw [if_neg hi]; exact r2.emp i (by rw [getO_wipe, if_neg hi]; exact e)
  · show (if i ∈ vs then as i else as' i).Nodup
    by_cases hi : i ∈ vs
    · rw [if_pos hi]; exact r.nd i
    · rw [if_neg hi]; exact r2.nd i
  · have hi : c ∈ (if i ∈ vs then as i else as' i) := hi
    have hj : c ∈ (if j ∈ vs then as j else as' j) := hj
    by_cases mi : i ∈ vs
    · rw [if_pos mi] at hi
      by_cases mj : j ∈ vs
      · rw [if_pos mj] at hj; exact r.sep i j c hi hj
      · rw [if_neg mj] at hj; exact ((far i mi c hi).1 ⟨j, hj⟩).elim
    · rw [if_neg mi] at hi
      by_cases mj : j ∈ vs
      · rw [if_pos mj] at hj; exact ((far j mj c hj).1 ⟨i, hi⟩).elim
      · rw [if_neg mj] at hj; exact r2.sep i j c hi hj
  · have hj : c ∈ (if j ∈ vs then as j else as' j) := hj
    by_cases mj : j ∈ vs
    · rw [if_pos mj] at hj; exact (far j mj c hj).2 hc
    · rw [if_neg mj] at hj; exact dj c hc ⟨j, hj⟩
  · have hj : c ∈ (if j ∈ vs then as j else as' j) := hj
    by_cases mj : j ∈ vs
    · rw [if_pos mj] at hj; exact .inl ⟨j, hj⟩
    · rw [if_neg mj] at hj; exact .inr ⟨j, hj⟩
/-- an item comes -/
theorem Yl.step {x : V} {d : D} (r : Rel K mg τ σ H Hf as) (y : Yl K mg H Hf x d H') : ∃ Hf', Rel K mg τ σ H' Hf' as ∧ Rep K mg Hf' x d ∧ Stp false (Wof as) H Hf H' Hf' (Wof as) := by
  rcases y with ⟨rfl, rp⟩ | ⟨q, ws, ds, rfl, hq, rfl, rfl, rp⟩
  · exact ⟨Hf, r, rp, Stp.refl fun _ z => z⟩
  · refine ⟨_, r.newF hq, .tup (.inl (.inl upd_same)) (rp.mono (fun b u e => by rw [upd_ne (ne_of_none (r.sub _ _ e) hq)]; exact e) _ _), Stp.newF hq r.sub fun _ z => z⟩
/-- an owned list grows by one -/
theorem own_snoc {os : List O} {a : Addr} {o : O} {y : V} {a1 a2 : List Addr} (h : ROwn K mg Hf H (.l os) (.ref a) a1) (n1 : a1.Nodup) (h2 : ROwn K mg Hf H o y a2) (n2 : a2.Nodup) (dj : ∀ c ∈ a1, c ∉ a2) : ∃ ws, H a = some (.lst ws) ∧ ws.length = os.length ∧
    ROwn K mg Hf (upd H a (.lst (ws ++ [y]))) (.l (os ++ [o])) (.ref a) (a1 ++ a2) ∧ (a1 ++ a2).Nodup ∧ a ∈ a1 := by
  rw [ROwn] at h
  obtain ⟨a', ws, b1, e, e1, hf, hH, ow⟩ := h
  cases e
  subst e1
  have k : ∀ c, c ≠ a → ∀ u, H c = some u → upd H a (.lst (ws ++ [y])) c = some u := fun c hc u q => by rw [upd_ne hc]; exact q
  have na : a ∉ b1 := (List.nodup_cons.mp n1).1
  refine ⟨ws, hH, ow.length, ?_, List.nodup_append.mpr ⟨n1, n2, fun x hx z hz e => dj x hx (e ▸ hz)⟩, List.mem_cons_self⟩
  rw [ROwn]
  refine ⟨a, _, b1 ++ a2, rfl, rfl, hf, upd_same, ?_⟩
  refine (ROwns.keep (Same.refl _) _ _ _ (fun c hc u q => ⟨k c (fun e => na (e ▸ hc)) u q, (ow.at _ _ _ c hc).1⟩) ow).append ?_
  rw [ROwns]
  refine ⟨y, [], a2, [], rfl, by simp, ROwn.keep (Same.refl _) _ _ _ (fun c hc u q => ⟨k c (fun e => dj a List.mem_cons_self (e ▸ hc)) u q, (h2.at _ _ _ c hc).1⟩) h2, by rw [ROwns]; exact ⟨rfl, rfl⟩⟩
end
end
end Mir
set_option Elab.async false
set_option linter.all false
set_option maxRecDepth 100000
set_option maxHeartbeats 4000000
/-! Mir, part Q: a list comprehension. -/
namespace Mir
open PySem L2 PyProof.Rows

section
variable {X : Cx} {Wx : WX} {sc scope : Scope} {cl : Cl} {bs fs : List Str} {n : Nat} {pos p apos tpos : Pos} {tg : Expr}
def turnF (cl : Cl) (cs : Es) (elt : E) (τ : Tau) : R (Option O) := (evalTests cl cs τ).andThen fun c τ => if c then (evalG cl false elt τ).andThen fun y τ => .ok (some y) τ else .ok none τ
def setW (t : T) (vs : List Nat) (x : D) (τ : Tau) : Option Tau := t.set x (wipeT τ vs)
/-- the block's state at a turn's beginning -/
def CompI (X : Cx) (cl : Cl) (t : T) (vs : List Nat) (cs : Es) (elt : E) (wt : Bool) (xs : List D) (σ : L2.St) (H1 Hf1 : Hp) (asw : Nat → List Addr) (a : Addr) (Q : VK) (i : Nat) (H : Hp) : Prop :=
  i ≤ xs.length ∧ ∃ τ Hf as os ao, Rel X.K X.mg (wipeT τ vs) (wipe σ vs) H Hf as ∧ ROwn X.K X.mg Hf H (.l os) (.ref a) ao ∧ ao.Nodup ∧ (∀ c ∈ ao, ¬ Wof as c) ∧ os.length ≤ i ∧
    Stp wt (Wof asw) H1 Hf1 H Hf (fun c => Wof as c ∨ c ∈ ao) ∧ RdN (compL (setW t vs) (turnF cl cs elt) (xs.drop i) τ) (fun ys τ2 => ∀ H' Hf' as' ao', Rel X.K X.mg (wipeT τ2 vs) (wipe σ vs) H' Hf' as' → ROwn X.K X.mg Hf' H' (.l (os ++ ys)) (.ref a) ao' → ao'.Nodup → (∀ c ∈ ao', ¬ Wof as' c) →
      Stp wt (Wof asw) H1 Hf1 H' Hf' (fun c => Wof as' c ∨ c ∈ ao') → Q (.ref a) H')
theorem wipeT_wipe {τ : Tau} : ∀ {vs : List Nat}, wipeT (wipeT τ vs) vs = wipeT τ vs := by
  have key : ∀ (τ : Tau) (vs : List Nat) (i : Nat), (wipeT τ vs)[i]? = if i ∈ vs ∧ i < τ.length then some none else τ[i]? := by
    intro τ vs
    induction vs with
    | nil => intro i; simp [wipeT]
    | cons v vs ih =>
      intro i
      rw [wipeT]
      by_cases h : i = v
      · subst h
        by_cases hl : i < τ.length
        · rw [List.getElem?_set_self (by rw [wipeT_len]; exact hl), if_pos ⟨List.mem_cons_self, hl⟩]
        · rw [List.getElem?_eq_none (by rw [List.length_set, wipeT_len]; omega), if_neg (fun z => hl z.2), List.getElem?_eq_none (by omega)]
      · rw [List.getElem?_set_ne (Ne.symm h), ih i]
        simp [h]
  intro vs
  apply List.ext_getElem?
  intro i
  rw [key, wipeT_len, key]
  by_cases hi : i ∈ vs ∧ i < τ.length
  · rw [if_pos hi, if_pos hi]
  · rw [if_neg hi, if_neg hi]
theorem compStp {wt : Bool} {W : Addr → Prop} {H1 Hf1 H2 Hf2 H3 Hf3 H5 Hf5 : Hp} {as2 as4 as5 : Nat → List Addr} {ao : List Addr} (st : Stp wt W H1 Hf1 H2 Hf2 (fun c => Wof as2 c ∨ c ∈ ao)) (w4 : ∀ c, Wof as4 c → Wof as2 c) (st3 : Stp false (Wof as2) H2 Hf2 H3 Hf3 (Wof as2)) (s5 : Stp wt (Wof as4) H3 Hf3 H5 Hf5 (Wof as5)) :
    Stp wt W H1 Hf1 H5 Hf5 (fun c => Wof as5 c ∨ c ∈ ao) := by
  have a := st3.weak (w' := wt) fun z => by cases z
  have c := a.trans (W1' := Wof as4) w4 s5
  have d := st.trans (W1' := Wof as2) (fun _ z => .inl z) c
  exact ⟨d.keep, d.grow, d.froz, fun b hb => hb.elim (fun z => d.own b z) fun z => st.own b (.inr z)⟩
theorem next_N {t : T} {vs : List Nat} {cs : Es} {elt : E} {y : Option O} {xs : List D} {τ : Tau} {P : List O → Tau → Prop} (h : RdN ((compL (setW t vs) (turnF cl cs elt) xs τ).andThen fun ys τ3 => .ok (consO y ys) τ3) P) : RdN (compL (setW t vs) (turnF cl cs elt) xs τ) (fun ys τ3 => P (consO y ys) τ3) := h.bind.imp fun _ _ q => q
theorem comp_rd {bb wt : Bool} {t : T} {vs : List Nat} {it : Mir.It} {cs : Es} {elt : E} {r : Bool} {w w' b0 : Bool} (hbb : bb = (cs.pure && elt.pure)) (hwtt : wt = !bb) (ht : ∀ i ∈ t.vars, i ∈ vs) (hw1 : w' = true → w = true) (hw2 : r = true → w' = false) (hp1 : (it.pure || w') = true) (hp2 : (cs.pure || w') = true) (hp3 : (elt.pure || w') = true) : ∀ σ H Q,
    RdE X Wx cl w b0 (.comp t vs it cs elt r) σ H Q → tLc (RdI X Wx cl w' bb it) (RdG X.K X.mg t) (RdTs X WxF cl wt cs) (RdE X WxF cl wt false elt) vs σ H Q := fun σ H Q q => by
  obtain ⟨τ, Hf, as, rel, q⟩ := q
  rw [evalG, ← hbb] at q
  have q := restore_at rel hw1 hw2 q
  refine ⟨τ, Hf, as, rel, (RdM.bind q).imp fun xs τ1 q => ?_⟩
  intro J H1 Hf1 as1 r1 s1 hJ hsz
  have hwt : wt = true → w' = true := fun z => by rw [hbb] at hwtt; cases h1 : cs.pure <;> cases h2 : elt.pure <;> simp_all
  have hwb : bb = true → wt = false := fun z => by rw [hwtt, z] <;> rfl
  intro a ha
  -- the size
  by_cases hs : (it.isSeq || decide (xs.length ≤ lim)) = false
  · rw [if_pos hs] at q; exact q.elim
  rw [if_neg hs] at q
  have hlen : xs.length ≤ sizeLine := by
    cases hq : it.isSeq with
    | true => exact hsz hq
    | false =>
      rw [hq] at hs
      have : xs.length ≤ lim := by simpa using hs
      have l2 : lim ≤ sizeLine := by rw [sizeLine_eq]; decide
      omega
  obtain ⟨asw, rw0, hw01, hw02⟩ := r1.wipe2 vs
  have wsub : ∀ c, Wof asw c → Wof as1 c := fun c ⟨j, hj⟩ => by
    by_cases hm : j ∈ vs
    · rw [hw01 j hm] at hj; cases hj
    · rw [hw02 j hm] at hj; exact ⟨j, hj⟩
  have q0 : RdN (compL (setW t vs) (turnF cl cs elt) xs (wipeT τ1 vs)) (fun os τ2 => PostE X.K X.mg b0 w' σ H Hf as Q (.l os) (backT τ1 τ2 vs)) := by
    have z := RdM.bind q
    exact noEx_at z
  -- the end
  have fin : ∀ os τ2 H' Hf' as' ao', PostE X.K X.mg b0 w' σ H Hf as Q (.l os) (backT τ1 τ2 vs) → Rel X.K X.mg (wipeT τ2 vs) (wipe σ vs) H' Hf' as' → ROwn X.K X.mg Hf' H' (.l os) (.ref a) ao' → ao'.Nodup → (∀ c ∈ ao', ¬ Wof as' c) →
      Stp wt (Wof asw) H1 Hf1 H' Hf' (fun c => Wof as' c ∨ c ∈ ao') → Q (.ref a) H' := by
    intro os τ2 H' Hf' as' ao' q r2 ow nd dj st
    obtain ⟨as2, r3, dj3, sub3⟩ := r1.back r2 hw01 hw02 st dj
    refine q (.ref a) H' Hf' as2 ao' r3 ⟨ow.vw, fun _ => ⟨ow, nd, dj3⟩, ?_⟩
    have st2 := s1.trans (fun _ z => z) (st.wid wsub hwt)
    refine ⟨st2.keep, st2.grow, st2.froz, fun c z => ?_⟩
    have own1 : ∀ c, (Wof as' c ∨ c ∈ ao') → Wof as c ∨ H c = none := fun c z => st2.own c z
    rcases z with z | z
    · rcases sub3 c z with z | z
      · exact s1.own c z
      · exact own1 c (.inl z)
    · exact own1 c (.inr z.2)
  -- what stands at each turn
  refine ⟨fun i m H => m = xs.length - i ∧ CompI X cl t vs cs elt wt xs σ H1 Hf1 asw a Q i H, ⟨xs.length, by simp, ?_⟩, ?_⟩
  · have hfa : Hf1 a = none := by
      cases e : Hf1 a with
      | none => rfl
      | some u => rw [r1.sub _ _ e] at ha; cases ha
    have na : ∀ c, Wof asw c → c ≠ a := fun c hc e => by
      obtain ⟨_, ws, e2⟩ := rw0.at hc
      rw [e, ha] at e2; cases e2
    refine ⟨Nat.zero_le _, wipeT τ1 vs, Hf1, asw, [], [a], ?_, by rw [ROwn]; exact ⟨a, [], [], rfl, rfl, hfa, upd_same, by rw [ROwns]; exact ⟨rfl, rfl⟩⟩, by simp, fun c hc z => ?_, by simp, ?_, ?_⟩
    · have e : wipeT (wipeT τ1 vs) vs = wipeT τ1 vs := wipeT_wipe
      rw [e]
      exact rw0.new ha
    · rw [List.mem_singleton] at hc
      exact na c z hc
    · exact Stp.new ha fun c z => z.imp id fun z => List.mem_singleton.mp z
    · rw [List.drop_zero]
      exact q0.imp fun ys τ2 q H' Hf' as' ao' r2 ow nd dj st => fin ys τ2 H' Hf' as' ao' q r2 (by simpa using ow) nd dj st
  · rintro i m H2 ⟨rfl, hi, τ2, Hf2, as2, os, ao, r2, ow, nd, dj, hol, st, qn⟩
    have later : bb = true → Same H1 H2 := fun hb c u e => st.keep c u e fun z => by
      rw [hwb hb] at z; cases z
    have hWk := hJ H2 Hf2 st.grow r2.sub later
    by_cases hlt : i < xs.length
    · refine .inr ⟨(hWk.1 i _ (List.getElem?_eq_getElem hlt)).1, CompI X cl t vs cs elt wt xs σ H1 Hf1 asw a Q (i + 1), fun H' h' => ⟨xs.length - (i + 1), by omega, rfl, h'⟩, fun x H3 y => ?_⟩
      have hy := (hWk.1 i _ (List.getElem?_eq_getElem hlt)).2 x H3 y
      obtain ⟨Hf3, r3, rp, st3⟩ := hy.step r2
      have e : xs.drop i = xs[i] :: xs.drop (i + 1) := List.drop_eq_getElem_cons hlt
      rw [e, compL] at qn
      cases es : setW t vs xs[i] τ2 with
      | none => rw [es] at qn; exact qn.elim
      | some τ3 =>
        rw [es] at qn
        refine ⟨_, Hf3, as2, xs[i], τ3, r3, rp, es, fun σ4 as4 r4 w4 u4 => ⟨?_, ?_⟩⟩
        · rw [u4.wipe ht, wipe_wipe]
        · have ow3 : ROwn X.K X.mg Hf3 H3 (.l os) (.ref a) ao := ow.after dj st3
          have dj4 : ∀ c ∈ ao, ¬ Wof as4 c := fun c hc z => dj c hc (w4 c z)
          have qf : RdN (turnF cl cs elt τ3) _ := RdN.bind qn
          unfold turnF at qf
          have qt := RdN.bind qf
          refine ⟨τ3, Hf3, as4, r4, RdN.m (qt.imp fun k τ5 q => ?_)⟩
          intro H5 Hf5 as5 r5 s5
          -- so far
          have st5 : Stp wt (Wof asw) H1 Hf1 H5 Hf5 (fun c => Wof as5 c ∨ c ∈ ao) := by
            exact compStp st w4 st3 s5
          have ow5 : ROwn X.K X.mg Hf5 H5 (.l os) (.ref a) ao := ow3.after dj4 s5
          have dj5 : ∀ c ∈ ao, ¬ Wof as5 c := fun c hc z => by
            rcases s5.own c z with z | z
            · exact dj4 c hc z
            · obtain ⟨_, ws, e⟩ := ow3.at _ _ _ c hc
              rw [e] at z; cases z
          cases k with
          | false =>
            rw [if_neg Bool.false_ne_true] at q ⊢
            have q := next_N (y := none) q
            obtain ⟨as6, r6, h61, h62⟩ := r5.wipe2 vs
            have w6 : ∀ c, Wof as6 c → Wof as5 c := fun c ⟨j, hj⟩ => by
              by_cases hm : j ∈ vs
              · rw [h61 j hm] at hj; cases hj
              · rw [h62 j hm] at hj; exact ⟨j, hj⟩
            rw [u4.wipe ht, wipe_wipe] at r6
            refine ⟨hlt, τ5, Hf5, as6, os, ao, r6, ow5, nd, fun c hc z => dj5 c hc (w6 c z), Nat.le_succ_of_le hol, st5.sub fun c z => z.imp (w6 c) id, q⟩
          | true =>
            rw [if_pos rfl] at q ⊢
            have q := RdN.bind q
            refine ⟨τ5, Hf5, as5, r5, RdN.m (q.imp fun o τ7 q => ?_)⟩
            intro y H7 Hf7 as7 ao7 r7 s7
            obtain ⟨ow7, nd7, dj7⟩ := s7.2.1 rfl
            have ow8 := ow5.after dj5 s7.2.2
            have dd : ∀ c ∈ ao, c ∉ ao7 := fun c hc z => by
              rcases s7.2.2.own c (.inr ⟨rfl, z⟩) with z | z
              · exact dj5 c hc z
              · obtain ⟨_, ws, e⟩ := ow5.at _ _ _ c hc
                rw [e] at z; cases z
            have dj8 : ∀ c ∈ ao, ¬ Wof as7 c := fun c hc z => by
              rcases s7.2.2.own c (.inl z) with z | z
              · exact dj5 c hc z
              · obtain ⟨_, ws, e⟩ := ow5.at _ _ _ c hc
                rw [e] at z; cases z
            obtain ⟨ws, hws, hwl, ow9, nd9, hain⟩ := own_snoc ow8 nd ow7 nd7 dd
            refine ⟨ws, hws, by rw [hwl]; omega, ?_⟩
            have q := next_N (y := some o) q
            obtain ⟨as6, r6, h61, h62⟩ := r7.wipe2 vs
            have w6 : ∀ c, Wof as6 c → Wof as7 c := fun c ⟨j, hj⟩ => by
              by_cases hm : j ∈ vs
              · rw [h61 j hm] at hj; cases hj
              · rw [h62 j hm] at hj; exact ⟨j, hj⟩
            rw [u4.wipe ht, wipe_wipe] at r6
            have hfa : Hf7 a = none := (ow8.at _ _ _ a hain).1
            have na : ∀ c, Wof as6 c → c ≠ a := fun c hc e => dj8 a hain (e ▸ w6 c hc)
            have r8 : Rel X.K X.mg (wipeT τ7 vs) (wipe σ vs) (upd H7 a (.lst (ws ++ [y]))) Hf7 as6 := r6.step (fun b u e => by rw [upd_ne (fun z => by rw [z, hfa] at e; cases e)]; exact r6.sub _ _ e) (Same.refl _) fun c ks hc e => ⟨by rw [upd_ne (na c hc)]; exact e, (r6.at hc).1⟩
            have st7 : Stp wt (Wof asw) H1 Hf1 H7 Hf7 (fun c => Wof as7 c ∨ c ∈ ao ++ ao7) := by
              have d := st5.trans (W1' := Wof as5) (fun _ z => .inl z) s7.2.2
              refine ⟨d.keep, d.grow, d.froz, fun c z => ?_⟩
              rcases z with z | z
              · exact d.own c (.inl z)
              · rcases List.mem_append.mp z with z | z
                · exact st5.own c (.inr z)
                · exact d.own c (.inr ⟨rfl, z⟩)
            refine ⟨hlt, τ7, Hf7, as6, os ++ [o], ao ++ ao7, r8, ow9, nd9, fun c hc z => ?_, by rw [List.length_append, List.length_singleton]; omega, ?_, ?_⟩
            · rcases List.mem_append.mp hc with h | h
              · exact dj8 c h (w6 c z)
              · exact dj7 c h (w6 c z)
            · refine ⟨fun c u e hn => ?_, st7.grow, st7.froz, fun c z => st7.own c (z.imp (w6 c) id)⟩
              rw [upd_ne (fun z => ?_)]
              · exact st7.keep c u e hn
              · subst z
                rw [ha] at e; cases e
            · refine q.imp fun ys τ8 q H' Hf' as' ao' r' ow' nd' dj' st' => q H' Hf' as' ao' r' (by rw [List.append_assoc] at ow'; exact ow') nd' dj' st'
    · have e : i = xs.length := by omega
      subst e
      refine .inl ⟨hWk.2 _ (Nat.le_refl _), ?_⟩
      rw [List.drop_length, compL] at qn
      exact qn H2 Hf2 as2 ao r2 (by simpa using ow) nd dj st
end
end Mir
set_option Elab.async false
set_option linter.all false
set_option maxRecDepth 100000
set_option maxHeartbeats 4000000
/-! Mir, part Da: dicts: from the object that is known to the library's rules, and back. -/
namespace Mir
open PySem L2 PyProof.Rows

mutual
theorem nkD_pure : ∀ (d : D) (k : NestedKey), nkD d = some k → pureK k = true
  | .int i, _, h => by simp [nkD] at h; subst h; rfl
  | .tuple xs, k, h => by
    rw [nkD] at h
    cases e : nkDs xs with
    | none => rw [e] at h; cases h
    | some ks => rw [e] at h; cases h; rw [pureK]; exact nkDs_pure xs ks e
  | .none, _, h => by simp [nkD] at h
  | .bool _, _, h => by simp [nkD] at h
  | .str _, _, h => by simp [nkD] at h
  | .list _, _, h => by simp [nkD] at h
  | .dict _, _, h => by simp [nkD] at h
theorem nkDs_pure : ∀ (ds : List D) (ks : List NestedKey), nkDs ds = some ks → pureKs ks = true
  | [], _, h => by simp [nkDs] at h; subst h; rfl
  | d :: ds, ks, h => by
    rw [nkDs] at h
    cases e : nkD d with
    | none => rw [e] at h; cases h
    | some k =>
      cases e2 : nkDs ds with
      | none => rw [e, e2] at h; cases h
      | some r =>
        rw [e, e2] at h
        cases h
        rw [pureKs, nkD_pure d k e, nkDs_pure ds r e2]
        rfl
end
theorem keyOf_at {t : Bool} {d : D} {k : NestedKey} (h : keyOf t d = some k) : nkD d = some k ∧ isTupK k = t ∧ pureK k = true ∧ k.depth ≤ 8 := by
  unfold keyOf at h
  split at h
  · rename_i k' e
    split at h
    · rename_i c
      cases h
      simp only [Bool.and_eq_true, beq_iff_eq, decide_eq_true_eq] at c
      exact ⟨e, c.1, nkD_pure _ _ e, c.2⟩
    · cases h
  · cases h
theorem key_num {d : D} {k : NestedKey} (h : keyOf false d = some k) : ∃ i, d = .int i ∧ k = .num i := by
  obtain ⟨h1, h2, _⟩ := keyOf_at h
  cases d with
  | int i => simp [nkD] at h1; exact ⟨i, rfl, h1.symm⟩
  | tuple xs =>
    rw [nkD] at h1
    cases e : nkDs xs with
    | none => rw [e] at h1; cases h1
    | some ks => rw [e] at h1; cases h1; cases h2
  | _ => simp [nkD] at h1
theorem key_tup {d : D} {k : NestedKey} (h : keyOf true d = some k) : ∃ xs, d = .tuple xs := by
  obtain ⟨h1, h2, _⟩ := keyOf_at h
  cases d with
  | int i => simp [nkD] at h1; subst h1; cases h2
  | tuple xs => exact ⟨xs, rfl⟩
  | _ => simp [nkD] at h1
section
variable {X : Cx} {pins : List (Addr × Obj)} {σ : L2.St} {H Hf : Hp} {s : Shared}
mutual
theorem nested_at (I : Inv X pins σ H s) : ∀ {v : V} {d : D}, Rep X.K X.mg H v d → ∀ {k : NestedKey} {u : Value}, nkD d = some k → RelV v u → NestedIs s.heap k u
  | _, _, .int i, k, u, h, r => by
    simp [nkD] at h
    subst h
    obtain ⟨t, rfl⟩ := r
    exact .int i t
  | _, _, .tup (ds := ds) hs ha, k, u, h, r => by
    rw [nkD] at h
    cases e : nkDs ds with
    | none => rw [e] at h; cases h
    | some ks =>
      rw [e] at h
      cases h
      cases r
      obtain ⟨its, rv, ⟨o, ho, hc, n, hd⟩, _⟩ := I.tuple hs
      exact .tup ho hc hd (by simpa using nested_ats I ha e rv)
  | _, _, .non, k, u, h, r => by simp [nkD] at h
  | _, _, .bl _, k, u, h, r => by simp [nkD] at h
  | _, _, .str _, k, u, h, r => by simp [nkD] at h
  | _, _, .lst _ _, k, u, h, r => by simp [nkD] at h
  | _, _, .fn _, k, u, h, r => by simp [nkD] at h
  | _, _, .scr _ _, k, u, h, r => by simp [nkD] at h
  | _, _, .dct _ _ _ _ _ _ _, k, u, h, r => by simp [nkD] at h
theorem nested_ats (I : Inv X pins σ H s) : ∀ {vs : List V} {ds : List D}, Reps X.K X.mg H vs ds → ∀ {ks : List NestedKey} {us : List Value}, nkDs ds = some ks → Vals vs us → NestedAll s.heap ks us
  | _, _, .nil, ks, us, h, r => by
    simp [nkDs] at h
    subst h
    cases r
    exact .nil
  | _, _, .cons (d := d) (ds := ds) h1 t, ks, us, h, r => by
    rw [nkDs] at h
    cases e : nkD d with
    | none => rw [e] at h; cases h
    | some k =>
      cases e2 : nkDs ds with
      | none => rw [e, e2] at h; cases h
      | some rs =>
        rw [e, e2] at h
        cases h
        cases r with
        | cons r1 r2 => exact .cons (nested_at I h1 e r1) (nested_ats I t e2 r2)
end
/-- a key that is a tuple -/
theorem key_ref (I : Inv X pins σ H s) {v : V} {d : D} {k : NestedKey} {u : Value} (h : Rep X.K X.mg H v d) (hk : keyOf true d = some k) (r : RelV v u) : ∃ b, v = .ref b ∧ u = .ref b ∧ (nestedKind X.prog X.w).is s.heap k b := by
  obtain ⟨xs, rfl⟩ := key_tup hk
  obtain ⟨h1, _, _, h4⟩ := keyOf_at hk
  have n := nested_at I h h1 r
  cases h with
  | tup hs ha =>
    cases r
    exact ⟨_, rfl, rfl, n, h4⟩
theorem key_int {v : V} {d : D} {k : NestedKey} {u : Value} (h : Rep X.K X.mg H v d) (hk : keyOf false d = some k) (r : RelV v u) : ∃ i t, v = .int i ∧ k = .num i ∧ u = .int i t := by
  obtain ⟨i, rfl, rfl⟩ := key_num hk
  cases h
  obtain ⟨t, rfl⟩ := r
  exact ⟨i, t, rfl, rfl, rfl⟩
end
/-! ### the dict at an address, by the library's words -/
def IntP (p : NestedKey × V × V) (q : Int × Value) : Prop := p.1 = .num q.1 ∧ p.2.1 = .int q.1 ∧ RelV p.2.2 q.2
def RefP (p : NestedKey × V × V) (x : NestedKey × Addr × Value) : Prop := p.1 = x.1 ∧ p.2.1 = .ref x.2.1 ∧ RelV p.2.2 x.2.2
def DAt (P : Program) (w : World) (h : Heap) (a : Addr) (ps : List (NestedKey × V × V)) : Bool → Prop
  | false => ∃ vs, Paired IntP ps vs ∧ h.DictOf (intKind P w) a vs
  | true => ∃ xs, Paired RefP ps xs ∧ h.DictOfH (nestedKind P w) a xs
theorem DAt.typeIs {P : Program} {w : World} {s : Shared} {a : Addr} {ps : List (NestedKey × V × V)} {t : Bool} (h : DAt P w s.heap a ps t) : s.TypeIs (.ref a) "dict" := by
  cases t with
  | false => obtain ⟨_, _, h⟩ := h; exact h.typeIs
  | true => obtain ⟨_, _, h⟩ := h; exact h.typeIs
section
variable {K : PySem.W.Frag} {mg : Str → Option Value} {H Hf : Hp}
/-- keys, values, as they stand in the object -/
theorem ints_of {P : Program} {w : World} : ∀ {ps : List (NestedKey × V × V)} {es : List DictEntry}, Paired (fun (p : NestedKey × V × V) (e : DictEntry) => e.hash = hashK p.1 ∧ RelV p.2.1 e.key ∧ RelV p.2.2 e.val) ps es → (∀ p ∈ ps, ∃ i, p.1 = .num i ∧ p.2.1 = .int i) →
    ∃ vs, Paired IntP ps vs ∧ Pairs (intKind P w) es vs ∧ vs.map (fun q => NestedKey.num q.1) = ps.map (·.1) ∧ ∀ e ∈ es, ∃ k, (intKind P w).is k e.key = true ∧ e.hash = (intKind P w).hash k
  | _, _, .nil, _ => ⟨[], .nil, .nil, rfl, (fun e he => by cases he)⟩
  | p :: ps, e :: es, .cons h t, hk => by
    obtain ⟨vs, h1, h2, h3, h4⟩ := ints_of (P := P) (w := w) t fun q hq => hk q (List.mem_cons_of_mem _ hq)
    obtain ⟨i, e1, e2⟩ := hk p List.mem_cons_self
    obtain ⟨a, b, c⟩ := h
    rw [e2] at b
    obtain ⟨tk, eb⟩ := b
    have isk : (intKind P w).is i e.key = true := by rw [eb]; simp [PySem.intKind, Value.isInt]
    refine ⟨(i, e.val) :: vs, .cons ⟨e1, e2, c⟩ h1, .cons isk rfl h2, by rw [List.map_cons, List.map_cons, h3, e1], fun x hx => ?_⟩
    rcases List.mem_cons.mp hx with z | z
    · subst z
      refine ⟨i, isk, ?_⟩
      rw [a, e1, hashK]
      rfl
    · exact h4 x z
end
section
variable {X : Cx} {pins : List (Addr × Obj)} {σ : L2.St} {H Hf : Hp} {s : Shared} {a : Addr} {od : Obj} {t : Bool} {ps : List (NestedKey × V × V)} {kvs : List (D × D)}
theorem refs_of (I : Inv X pins σ H s) : ∀ {ps : List (NestedKey × V × V)} {es : List DictEntry} {kds : List D}, Paired (fun (p : NestedKey × V × V) (e : DictEntry) => e.hash = hashK p.1 ∧ RelV p.2.1 e.key ∧ RelV p.2.2 e.val) ps es → kds.map (keyOf true) = ps.map (fun p => some p.1) → Reps X.K X.mg H (ps.map (·.2.1)) kds →
    ∃ xs, Paired RefP ps xs ∧ es = xs.map (entryOfKey (nestedKind X.prog X.w)) ∧ (∀ x ∈ xs, (nestedKind X.prog X.w).is s.heap x.1 x.2.1) ∧ xs.map (·.1) = ps.map (·.1)
  | _, _, _, .nil, _, _ => ⟨[], .nil, rfl, (fun x hx => by cases hx), rfl⟩
  | p :: ps, e :: es, kds, .cons h t, hk, rk => by
    cases kds with
    | nil => simp at hk
    | cons kd kds =>
      simp only [List.map_cons] at hk rk
      injection hk with hk1 hk2
      cases rk with
      | cons r1 r2 =>
        obtain ⟨xs, h1, h2, h3, h4⟩ := refs_of I t hk2 r2
        obtain ⟨ha, hb, hc⟩ := h
        obtain ⟨b, ev, eu, isk⟩ := key_ref I r1 hk1 hb
        obtain ⟨_, _, pk, _⟩ := keyOf_at hk1
        refine ⟨(p.1, b, e.val) :: xs, .cons ⟨rfl, ev, hc⟩ h1, ?_, fun x hx => ?_, by rw [List.map_cons, List.map_cons, h4]⟩
        · rw [List.map_cons, h2]
          congr 1
          obtain ⟨eh, ek, ev2⟩ := e
          simp only [entryOfKey]
          dsimp only at ha eu
          rw [ha, eu]
          congr 1
          exact (hash_pure X.w _ pk).symm
        · rcases List.mem_cons.mp hx with z | z
          · subst z; exact isk
          · exact h3 x z
theorem dat_of (I : Inv X pins σ H s) (e : H a = some (dOb a od)) (d : DIs t od ps) (hk : kvs.map (fun p => keyOf t p.1) = ps.map (fun p => some p.1)) (rk : Reps X.K X.mg H (ps.map (·.2.1)) (kvs.map (·.1))) : DAt X.prog X.w s.heap a ps t := by
  have hget : s.heap.get? a = some od := (I.hok a _ e).1
  obtain ⟨es, ep, hdat, hp⟩ := d.es
  cases t with
  | false =>
    obtain ⟨vs, h1, h2, h3, h4⟩ := ints_of (P := X.prog) (w := X.w) hp (d.ky rfl)
    refine ⟨vs, h1, od, es, ep, hget, d.ex, hdat, fun e he => h4 e (Array.mem_toList_iff.mpr he), h2, ?_⟩
    have := d.nd
    rw [← h3] at this
    have e2 : (vs.map fun q => NestedKey.num q.1) = (vs.map (·.1)).map NestedKey.num := by rw [List.map_map]; rfl
    rw [e2] at this
    exact List.Pairwise.of_map NestedKey.num (fun a b h e => h (by rw [e])) this
  | true =>
    obtain ⟨xs, h1, h2, h3, h4⟩ := refs_of I (kds := kvs.map (·.1)) hp (by rw [List.map_map]; exact hk) rk
    exact ⟨xs, h1, od, es, ep, hget, d.ex, hdat, h2, h3, by rw [h4]; exact d.nd⟩
end
section
variable {P : Program} {w : World} {h : Heap} {a : Addr} {t : Bool} {ps : List (NestedKey × V × V)}
theorem es_ints : ∀ {ps : List (NestedKey × V × V)} {vs : List (Int × Value)} {es : List DictEntry}, Paired IntP ps vs → Pairs (intKind P w) es vs → (∀ e ∈ es, ∃ k, (intKind P w).is k e.key = true ∧ e.hash = (intKind P w).hash k) →
    Paired (fun (p : NestedKey × V × V) (e : DictEntry) => e.hash = hashK p.1 ∧ RelV p.2.1 e.key ∧ RelV p.2.2 e.val) ps es ∧ ps.map (·.1) = vs.map (fun q => NestedKey.num q.1) ∧ ∀ p ∈ ps, ∃ i, p.1 = .num i ∧ p.2.1 = .int i
  | _, _, _, .nil, .nil, _ => ⟨.nil, rfl, fun p hp => by cases hp⟩
  | p :: ps, q :: vs, e :: es, .cons h1 t1, .cons k1 k2 k3, hh => by
    obtain ⟨r1, r2, r3⟩ := es_ints t1 k3 fun x hx => hh x (List.mem_cons_of_mem _ hx)
    obtain ⟨a1, a2, a3⟩ := h1
    obtain ⟨tk, ek⟩ := Value.isInt_shape k1
    obtain ⟨k', k4, k5⟩ := hh e List.mem_cons_self
    have ekk : k' = q.1 := (intKind P w).inj _ _ _ k4 k1
    subst ekk
    refine ⟨.cons ⟨?_, ?_, ?_⟩ r1, by rw [List.map_cons, List.map_cons, r2, a1], fun x hx => ?_⟩
    · rw [k5, a1, hashK]; rfl
    · rw [a2, ek]; exact ⟨tk, rfl⟩
    · rw [k2]; exact a3
    · rcases List.mem_cons.mp hx with z | z
      · subst z; exact ⟨_, a1, a2⟩
      · exact r3 x z
theorem es_refs : ∀ {ps : List (NestedKey × V × V)} {xs : List (NestedKey × Addr × Value)}, Paired RefP ps xs → (∀ p ∈ ps, pureK p.1 = true) →
    Paired (fun (p : NestedKey × V × V) (e : DictEntry) => e.hash = hashK p.1 ∧ RelV p.2.1 e.key ∧ RelV p.2.2 e.val) ps (xs.map (entryOfKey (nestedKind P w))) ∧ ps.map (·.1) = xs.map (·.1)
  | _, _, .nil, _ => ⟨.nil, rfl⟩
  | p :: ps, x :: xs, .cons h1 t1, hp => by
    obtain ⟨r1, r2⟩ := es_refs t1 fun q hq => hp q (List.mem_cons_of_mem _ hq)
    obtain ⟨a1, a2, a3⟩ := h1
    refine ⟨.cons ⟨?_, ?_, a3⟩ r1, by rw [List.map_cons, List.map_cons, r2, a1]⟩
    · show NestedKey.hash w x.1 = _
      rw [← a1]
      exact hash_pure w _ (hp p List.mem_cons_self)
    · rw [a2]; rfl
/-- what stands there after an operation, as an object that is known -/
theorem dis_of (d : DAt P w h a ps t) (kd : ∀ p ∈ ps, isTupK p.1 = t ∧ pureK p.1 = true ∧ p.1.depth ≤ 8) (sz : ps.length ≤ sizeLine) : ∃ od, h.get? a = some od ∧ DIs t od ps := by
  cases t with
  | false =>
    obtain ⟨vs, hp, o, es, ep, h1, h2, h3, h4, h5, h6⟩ := d
    obtain ⟨r1, r2, r3⟩ := es_ints hp h5 fun e he => h4 e (Array.mem_toList_iff.mp he)
    refine ⟨o, h1, h2, ⟨es, ep, h3, r1⟩, ?_, kd, fun _ => r3, sz⟩
    rw [r2]
    have e2 : (vs.map fun q => NestedKey.num q.1) = (vs.map (·.1)).map NestedKey.num := by rw [List.map_map]; rfl
    rw [e2]
    exact List.Pairwise.map NestedKey.num (fun a b h e => h (by cases e; rfl)) h6
  | true =>
    obtain ⟨xs, hp, o, es, ep, h1, h2, h3, h4, h5, h6⟩ := d
    obtain ⟨r1, r2⟩ := es_refs (P := P) (w := w) hp fun p hp => (kd p hp).2.1
    refine ⟨o, h1, h2, ⟨es, ep, h3, by rw [h4]; exact r1⟩, by rw [r2]; exact h6, kd, (fun z => by cases z), sz⟩
theorem dOb_ok {P : Program} {w : World} {H : Hp} {od : Obj} (h1 : h.get? a = some od) : ObjOk P w H h a (dOb a od) := ⟨h1, ⟨od, h1⟩, fun _ _ p st => st _ p⟩
end
end Mir
set_option Elab.async false
set_option linter.all false
set_option maxRecDepth 100000
set_option maxHeartbeats 4000000
/-! Mir, part Db: look-ups and stores. -/
namespace Mir
open PySem L2 PyProof.Rows

abbrev Ent := NestedKey × V × V
theorem isInt_k (P : Program) (w : World) (i : Int) (tk : Tok) : (PySem.intKind P w).is i (.int i tk) = true := by simp [PySem.intKind, Value.isInt]
def valP (ps : List Ent) (k : NestedKey) : Option V := (ps.find? fun p => decide (p.1 = k)).map (·.2.2)
def setP (ps : List Ent) (k : NestedKey) (kv v : V) : List Ent := if (ps.any fun p => decide (p.1 = k)) = true then ps.map fun p => if p.1 = k then (p.1, p.2.1, v) else p else ps ++ [(k, kv, v)]
theorem valP_cons (p : Ent) (ps : List Ent) (k : NestedKey) : valP (p :: ps) k = if p.1 = k then some p.2.2 else valP ps k := by
  unfold valP
  rw [List.find?_cons]
  by_cases h : p.1 = k
  · simp [h]
  · simp [h]
theorem valP_any (k : NestedKey) : ∀ ps : List Ent, (ps.any fun p => decide (p.1 = k)) = (valP ps k).isSome
  | [] => rfl
  | p :: ps => by
    rw [List.any_cons, valP_any k ps, valP_cons]
    by_cases c : p.1 = k <;> simp [c]
theorem val_int (i : Int) : ∀ {ps : List Ent} {vs : List (Int × Value)}, Paired IntP ps vs → RelO (valP ps (.num i)) (valueAt vs i) ∧ (ps.any fun p => decide (p.1 = .num i)) = vs.any fun q => decide (q.1 = i)
  | _, _, .nil => ⟨trivial, rfl⟩
  | p :: ps, q :: vs, .cons h t => by
    obtain ⟨r1, r2⟩ := val_int i t
    obtain ⟨a1, a2, a3⟩ := h
    rw [valP_cons, List.any_cons, List.any_cons, r2]
    by_cases c : q.1 = i
    · have c2 : p.1 = .num i := by rw [a1, c]
      rw [if_pos c2]
      refine ⟨?_, by simp [c, c2]⟩
      have : valueAt (q :: vs) i = some q.2 := by simp [valueAt, List.find?_cons, c]
      rw [this]
      exact a3
    · have c2 : ¬ p.1 = .num i := by rw [a1]; intro e; injection e with e; exact c e
      rw [if_neg c2]
      refine ⟨?_, by simp [c, c2]⟩
      have : valueAt (q :: vs) i = valueAt vs i := by simp [valueAt, List.find?_cons, c]
      rw [this]
      exact r1
theorem val_ref (k : NestedKey) : ∀ {ps : List Ent} {xs : List (NestedKey × Addr × Value)}, Paired RefP ps xs → RelO (valP ps k) ((atKey xs k).map (·.2)) ∧ (ps.any fun p => decide (p.1 = k)) = (atKey xs k).isSome
  | _, _, .nil => ⟨trivial, rfl⟩
  | p :: ps, x :: xs, .cons h t => by
    obtain ⟨r1, r2⟩ := val_ref k t
    obtain ⟨a1, a2, a3⟩ := h
    rw [valP_cons, List.any_cons, r2]
    by_cases c : x.1 = k
    · have c2 : p.1 = k := by rw [a1, c]
      rw [if_pos c2]
      have : atKey (x :: xs) k = some x.2 := by simp [atKey, List.find?_cons, c]
      rw [this]
      exact ⟨a3, by simp [c2]⟩
    · have c2 : ¬ p.1 = k := by rw [a1]; exact c
      rw [if_neg c2]
      have : atKey (x :: xs) k = atKey xs k := by simp [atKey, List.find?_cons, c]
      rw [this]
      exact ⟨r1, by simp [c2]⟩
theorem set_int {i : Int} {v : V} {u : Value} {ps : List Ent} {vs : List (Int × Value)} (h : Paired IntP ps vs) (r : RelV v u) : Paired IntP (setP ps (.num i) (.int i) v) (stored vs i u) := by
  have e := (val_int i h).2
  unfold setP stored
  rw [e]
  split
  · clear e
    rename_i c
    clear c
    induction h with
    | nil => exact .nil
    | cons h t ih =>
      obtain ⟨a1, a2, a3⟩ := h
      refine .cons ?_ ih
      rename_i p q ps vs
      dsimp only
      by_cases c : q.1 = i
      · have c2 : p.1 = .num i := by rw [a1, c]
        rw [if_pos c, if_pos c2]
        exact ⟨a1, a2, r⟩
      · have c2 : ¬ p.1 = .num i := by rw [a1]; intro e; injection e with e; exact c e
        rw [if_neg c, if_neg c2]
        exact ⟨a1, a2, a3⟩
  · clear e
    rename_i c
    clear c
    induction h with
    | nil => exact .cons ⟨rfl, rfl, r⟩ .nil
    | cons h t ih => exact .cons h ih
theorem set_ref {k : NestedKey} {b : Addr} {v : V} {u : Value} {ps : List Ent} {xs : List (NestedKey × Addr × Value)} (h : Paired RefP ps xs) (r : RelV v u) : Paired RefP (setP ps k (.ref b) v) (storedH xs k b u) := by
  have e := (val_ref k h).2
  unfold setP storedH
  rw [e]
  split
  · clear e
    rename_i c
    clear c
    induction h with
    | nil => exact .nil
    | cons h t ih =>
      obtain ⟨a1, a2, a3⟩ := h
      refine .cons ?_ ih
      rename_i p x ps xs
      unfold putAt
      dsimp only
      by_cases c : x.1 = k
      · have c2 : p.1 = k := by rw [a1, c]
        rw [if_pos c, if_pos c2]
        exact ⟨a1, a2, r⟩
      · have c2 : ¬ p.1 = k := by rw [a1]; exact c
        rw [if_neg c, if_neg c2]
        exact ⟨a1, a2, a3⟩
  · clear e
    rename_i c
    clear c
    induction h with
    | nil => exact .cons ⟨rfl, rfl, r⟩ .nil
    | cons h t ih => exact .cons h ih
section
variable {K : PySem.W.Frag} {mg : Str → Option Value} {H Hf : Hp} {t : Bool}
theorem hitK_eq {p : D × D} {q : Ent} {k : NestedKey} (h : keyOf t p.1 = some q.1) : hitK t k p = decide (q.1 = k) := by
  unfold hitK
  rw [h]
  by_cases c : q.1 = k <;> simp [c]
theorem val_rel (k : NestedKey) : ∀ {kvs : List (D × D)} {ps : List Ent}, kvs.map (fun p => keyOf t p.1) = ps.map (fun p => some p.1) → Reps K mg H (ps.map (·.2.2)) (kvs.map (·.2)) →
    (∀ d, valD t kvs k = some d → ∃ v, valP ps k = some v ∧ Rep K mg H v d) ∧ (valD t kvs k = none → valP ps k = none) ∧ (kvs.any (hitK t k)) = ps.any fun p => decide (p.1 = k)
  | [], [], _, _ => ⟨(fun d h => by cases h), (fun _ => rfl), rfl⟩
  | [], q :: ps, h, _ => by simp at h
  | p :: kvs, [], h, _ => by simp at h
  | p :: kvs, q :: ps, h, r => by
    simp only [List.map_cons] at h r
    injection h with h1 h2
    cases r with
    | cons r1 r2 =>
      obtain ⟨a, b, c⟩ := val_rel k h2 r2
      have e := hitK_eq (k := k) h1
      rw [valP_cons, List.any_cons, List.any_cons, c, e]
      have ev : valD t (p :: kvs) k = if q.1 = k then some p.2 else valD t kvs k := by
        unfold valD
        rw [List.find?_cons, e]
        by_cases c : q.1 = k <;> simp [c]
      rw [ev]
      refine ⟨fun d hd => ?_, fun hd => ?_, rfl⟩
      · split at hd
        · cases hd; rename_i cc; rw [if_pos cc]; exact ⟨_, rfl, r1⟩
        · rename_i cc; rw [if_neg cc]; exact a d hd
      · split at hd
        · cases hd
        · rename_i cc; rw [if_neg cc]; exact b hd
theorem set_rel {k : NestedKey} {kd d : D} {kv v : V} {kvs : List (D × D)} {ps : List Ent} (hk : keyOf t kd = some k) (h : kvs.map (fun p => keyOf t p.1) = ps.map (fun p => some p.1)) (r1 : Reps K mg H (ps.map (·.2.1)) (kvs.map (·.1))) (r2 : Reps K mg H (ps.map (·.2.2)) (kvs.map (·.2)))
    (rk : Rep K mg H kv kd) (rv : Rep K mg H v d) : (setD t kvs kd k d).map (fun p => keyOf t p.1) = (setP ps k kv v).map (fun p => some p.1) ∧ Reps K mg H ((setP ps k kv v).map (·.2.1)) ((setD t kvs kd k d).map (·.1)) ∧ Reps K mg H ((setP ps k kv v).map (·.2.2)) ((setD t kvs kd k d).map (·.2)) := by
  have e := (val_rel k h r2).2.2
  unfold setD setP
  rw [e]
  split
  · rename_i c
    clear e c
    induction kvs generalizing ps with
    | nil =>
      cases ps with
      | nil => exact ⟨rfl, .nil, .nil⟩
      | cons q ps => simp at h
    | cons p kvs ih =>
      cases ps with
      | nil => simp at h
      | cons q ps =>
        simp only [List.map_cons] at h r1 r2 ⊢
        injection h with h1 h2
        cases r1 with
        | cons a1 a2 =>
          cases r2 with
          | cons b1 b2 =>
            obtain ⟨i1, i2, i3⟩ := ih h2 a2 b2
            rw [hitK_eq (k := k) h1]
            by_cases cc : q.1 = k
            · rw [if_pos cc, if_pos (by simp [cc])]
              exact ⟨by rw [h1, i1], .cons a1 i2, .cons rv i3⟩
            · rw [if_neg cc, if_neg (by simp [cc])]
              exact ⟨by rw [h1, i1], .cons a1 i2, .cons b1 i3⟩
  · simp only [List.map_append, List.map_cons, List.map_nil]
    exact ⟨by rw [h, hk], r1.append (.cons rk .nil), r2.append (.cons rv .nil)⟩
theorem setP_len (ps : List Ent) (k : NestedKey) (kv v : V) : (setP ps k kv v).length ≤ ps.length + 1 := by
  unfold setP
  split <;> simp
theorem setP_kd {ps : List Ent} {k : NestedKey} {kv v : V} (h : ∀ p ∈ ps, isTupK p.1 = t ∧ pureK p.1 = true ∧ p.1.depth ≤ 8) (hk : isTupK k = t ∧ pureK k = true ∧ k.depth ≤ 8) : ∀ p ∈ setP ps k kv v, isTupK p.1 = t ∧ pureK p.1 = true ∧ p.1.depth ≤ 8 := fun p hp => by
  unfold setP at hp
  split at hp
  · obtain ⟨q, hq, rfl⟩ := List.mem_map.mp hp
    have := h q hq
    split <;> exact this
  · rcases List.mem_append.mp hp with z | z
    · exact h p z
    · rw [List.mem_singleton.mp z]; exact hk
end
/-! ### the operations -/
section
variable {X : Cx} {pins : List (Addr × Obj)} {σ : L2.St} {H Hf : Hp} {s : Shared} {a : Addr} {od : Obj} {t : Bool} {ps : List Ent} {kvs : List (D × D)} {A : Around} {E : Value → Shared → Prop}
/-- what a dict is seen to be, and the key that is asked -/
structure KAsk (X : Cx) (H Hf : Hp) (a : Addr) (od : Obj) (t : Bool) (ps : List Ent) (kvs : List (D × D)) (y : V) (kd : D) (k : NestedKey) : Prop where
  ob : H a = some (dOb a od)
  sys : (a == sysModules) = false
  dis : DIs t od ps
  ks : kvs.map (fun p => keyOf t p.1) = ps.map (fun p => some p.1)
  rk : Reps X.K X.mg H (ps.map (·.2.1)) (kvs.map (·.1))
  rv : Reps X.K X.mg Hf (ps.map (·.2.2)) (kvs.map (·.2))
  ky : keyOf t kd = some k
  ry : Rep X.K X.mg H y kd
variable {y : V} {kd : D} {k : NestedKey} {u : Value}
theorem Inv.tokd (I : Inv X pins σ H s) (n : Nat) : Inv X pins σ H { s with toks := n } := I.tok _
theorem ka_get {d : D} {Q : Value → Shared → Prop} (hu : A.units + 64 < cLine) (I : Inv X pins σ H s) (g : KAsk X H Hf a od t ps kvs y kd k) (ry : RelV y u) (hv : valD t kvs k = some d)
    (h : ∀ v w' s', Rep X.K X.mg Hf v d → RelV v w' → Inv X pins σ H s' → Q w' s') : wpAny (model X.prog X.w) A (getItem (.ref a) u) Q E s := by
  have dt := dat_of I g.ob g.dis g.ks g.rk
  obtain ⟨v, hv1, rv⟩ := (val_rel k g.ks g.rv).1 d hv
  cases t with
  | false =>
    obtain ⟨i, tk, rfl, rfl, rfl⟩ := key_int g.ry g.ky ry
    obtain ⟨vs, hp, dd⟩ := dt
    obtain ⟨w', hw, rw'⟩ := RelO.some_of (v := v) (o := valueAt vs i) (by have := (val_int i hp).1; rw [hv1] at this; exact this)
    exact wpAny_getItem_of (isInt_k X.prog X.w i tk) dd.mapOf hw (h v w' _ rv rw' (I.tok _))
  | true =>
    obtain ⟨b, rfl, rfl, isk⟩ := key_ref I g.ry g.ky ry
    obtain ⟨xs, hp, dd⟩ := dt
    obtain ⟨w', hw, rw'⟩ := RelO.some_of (v := v) (o := (atKey xs k).map (·.2)) (by have := (val_ref k hp).1; rw [hv1] at this; exact this)
    obtain ⟨p, hp1, hp2⟩ := Option.map_eq_some_iff.mp hw
    refine wpAny_getItem_heap (by show A.in1.units + 8 < cLine; exact Nat.lt_of_le_of_lt (by show A.units + 1 + 8 ≤ A.units + 64; omega) hu) isk dd hp1 ?_
    rw [hp2]
    exact h v w' _ rv rw' (I.tok _)
theorem ka_in {Q : Value → Shared → Prop} (hu : A.units + 64 < cLine) (I : Inv X pins σ H s) (g : KAsk X H Hf a od t ps kvs y kd k) (ry : RelV y u)
    (h : ∀ s', Inv X pins σ H s' → Q (.bool (kvs.any (hitK t k))) s') : wpAny (model X.prog X.w) A (compareOp .In u (.ref a)) Q E s := by
  have dt := dat_of I g.ob g.dis g.ks g.rk
  have e := (val_rel k g.ks g.rv).2.2
  rw [e] at h
  cases t with
  | false =>
    obtain ⟨i, tk, rfl, rfl, rfl⟩ := key_int g.ry g.ky ry
    obtain ⟨vs, hp, dd⟩ := dt
    refine wpAny_in_of (knd := PySem.intKind X.prog X.w) (isInt_k X.prog X.w i tk) g.sys dd.mapOf ?_
    have e2 := (val_int i hp).1.isSome_eq
    have e3 : (valP ps (.num i)).isSome = ps.any fun p => decide (p.1 = .num i) := (valP_any _ _).symm
    rw [← e2, e3]
    exact h _ (I.tok _)
  | true =>
    obtain ⟨b, rfl, rfl, isk⟩ := key_ref I g.ry g.ky ry
    obtain ⟨xs, hp, dd⟩ := dt
    refine wpAny_in_heap (by show A.in1.units + 8 < cLine; exact Nat.lt_of_le_of_lt (by show A.units + 1 + 8 ≤ A.units + 64; omega) hu) isk g.sys dd ?_
    rw [← (val_ref k hp).2]
    exact h _ (I.tok _)
theorem ka_notIn {Q : Value → Shared → Prop} (hu : A.units + 64 < cLine) (I : Inv X pins σ H s) (g : KAsk X H Hf a od t ps kvs y kd k) (ry : RelV y u)
    (h : ∀ s', Inv X pins σ H s' → Q (.bool (!kvs.any (hitK t k))) s') : wpAny (model X.prog X.w) A (compareOp .NotIn u (.ref a)) Q E s := by
  have dt := dat_of I g.ob g.dis g.ks g.rk
  have e := (val_rel k g.ks g.rv).2.2
  rw [e] at h
  cases t with
  | false =>
    obtain ⟨i, tk, rfl, rfl, rfl⟩ := key_int g.ry g.ky ry
    obtain ⟨vs, hp, dd⟩ := dt
    refine wpAny_notIn_of (knd := PySem.intKind X.prog X.w) (isInt_k X.prog X.w i tk) g.sys dd.mapOf ?_
    have e2 := (val_int i hp).1.isSome_eq
    have e3 : (valP ps (.num i)).isSome = ps.any fun p => decide (p.1 = .num i) := (valP_any _ _).symm
    rw [← e2, e3]
    exact h _ (I.tok _)
  | true =>
    obtain ⟨b, rfl, rfl, isk⟩ := key_ref I g.ry g.ky ry
    obtain ⟨xs, hp, dd⟩ := dt
    refine wpAny_notIn_heap (by show A.in1.units + 8 < cLine; exact Nat.lt_of_le_of_lt (by show A.units + 1 + 8 ≤ A.units + 64; omega) hu) isk g.sys dd ?_
    rw [← (val_ref k hp).2]
    exact h _ (I.tok _)
theorem ka_get2 {z : V} {zr : Value} {Q : Value → Shared → Prop} (hu : A.units + 64 < cLine) (I : Inv X pins σ H s) (g : KAsk X H Hf a od t ps kvs y kd k) (ry : RelV y u) (rz : RelV z zr)
    (h1 : ∀ v d w' s', valD t kvs k = some d → Rep X.K X.mg Hf v d → RelV v w' → Inv X pins σ H s' → Q w' s') (h2 : valD t kvs k = none → ∀ s', Inv X pins σ H s' → Q zr s') : wpAny (model X.prog X.w) A (call (.builtin "dict.get") [.ref a, u, zr]) Q E s := by
  have dt := dat_of I g.ob g.dis g.ks g.rk
  have vr := val_rel k g.ks g.rv
  cases t with
  | false =>
    obtain ⟨i, tk, rfl, rfl, rfl⟩ := key_int g.ry g.ky ry
    obtain ⟨vs, hp, dd⟩ := dt
    refine call_meetsIn PySem.F.slot_dict_get dd.typeIs PySem.F.entry_dict_get (PySem.F.args_dict_get_3 _ _ _) (meets_dict_get_default (PySem.intKind X.prog X.w) a (isInt_k X.prog X.w i tk) g.sys zr) ⟨_, dd.mapOf, ?_⟩
    have ro := (val_int i hp).1
    cases hd : valD false kvs (.num i) with
    | none =>
      rw [vr.2.1 hd] at ro
      cases hw : valueAt vs i with
      | none => exact h2 hd _ (I.tok _)
      | some w' => rw [hw] at ro; exact ro.elim
    | some d =>
      obtain ⟨v, hv, rv⟩ := vr.1 d hd
      rw [hv] at ro
      obtain ⟨w', hw, rw'⟩ := RelO.some_of ro
      rw [hw]
      exact h1 v d w' _ hd rv rw' (I.tok _)
  | true =>
    obtain ⟨b, rfl, rfl, isk⟩ := key_ref I g.ry g.ky ry
    obtain ⟨xs, hp, dd⟩ := dt
    refine call_meetsIn PySem.F.slot_dict_get dd.typeIs PySem.F.entry_dict_get (PySem.F.args_dict_get_3 _ _ _) (meetsH_dict_get_default (nestedKind X.prog X.w) a b g.sys zr) ⟨by show A.in1.units + 8 < cLine; exact Nat.lt_of_le_of_lt (by show A.units + 1 + 8 ≤ A.units + 64; omega) hu, k, xs, isk, dd, ?_⟩
    have ro := (val_ref k hp).1
    cases hd : valD true kvs k with
    | none =>
      rw [vr.2.1 hd] at ro
      cases hw : (atKey xs k).map (·.2) with
      | none => exact h2 hd _ (I.tok _)
      | some w' => rw [hw] at ro; exact ro.elim
    | some d =>
      obtain ⟨v, hv, rv⟩ := vr.1 d hd
      rw [hv] at ro
      obtain ⟨w', hw, rw'⟩ := RelO.some_of ro
      rw [hw]
      exact h1 v d w' _ hd rv rw' (I.tok _)
/-- d[y] = v: the object that stands there afterwards -/
theorem ka_set {v : V} {r : Value} {Q : Unit → Shared → Prop} (hu : A.units + 64 < cLine) (I : Inv X pins σ H s) (g : KAsk X H Hf a od t ps kvs y kd k) (ry : RelV y u) (rv : RelV v r) (hl : ps.length < sizeLine)
    (h : ∀ od' s', DIs t od' (setP ps k y v) → Inv X pins σ (upd H a (dOb a od')) s' → Q () s') : wpAny (model X.prog X.w) A (setItem (.ref a) u r) Q E s := by
  have dt := dat_of I g.ob g.dis g.ks g.rk
  obtain ⟨q1, q2, q3, q4⟩ := keyOf_at g.ky
  have hl2 : (setP ps k y v).length ≤ sizeLine := by have := setP_len ps k y v; omega
  have kd2 := setP_kd (kv := y) (v := v) g.dis.kd ⟨q2, q3, q4⟩
  have mu : Mut (H a) := by rw [g.ob]; exact True.intro
  cases t with
  | false =>
    obtain ⟨i, tk, rfl, rfl, rfl⟩ := key_int g.ry g.ky ry
    obtain ⟨vs, hp, dd⟩ := dt
    refine wpAny_setItem_pairs (knd := PySem.intKind X.prog X.w) (hsz := by rw [← Paired.length hp]; omega) (isInt_k X.prog X.w i tk) dd fun h' dd' hs => ?_
    obtain ⟨od', ho, di⟩ := dis_of (P := X.prog) (w := X.w) (t := false) ⟨_, set_int (i := i) hp rv, dd'⟩ kd2 hl2
    exact h od' _ di (d_write I mu hs ⟨od', ho⟩ (dOb_ok ho))
  | true =>
    obtain ⟨b, rfl, rfl, isk⟩ := key_ref I g.ry g.ky ry
    obtain ⟨xs, hp, dd⟩ := dt
    refine wpAny_setItem_heap (hsz := by rw [← Paired.length hp]; omega) (by show A.in1.units + 8 < cLine; exact Nat.lt_of_le_of_lt (by show A.units + 1 + 8 ≤ A.units + 64; omega) hu) isk dd fun h' dd' hs => ?_
    obtain ⟨od', ho, di⟩ := dis_of (P := X.prog) (w := X.w) (t := true) ⟨_, set_ref (k := k) (b := b) hp rv, dd'⟩ kd2 hl2
    exact h od' _ di (d_write I mu hs ⟨od', ho⟩ (dOb_ok ho))
/-- d[y] = v in a comprehension -/
theorem ka_dictSet {v : V} {r : Value} {Q : Unit → Shared → Prop} (hu : A.units + 64 < cLine) (I : Inv X pins σ H s) (g : KAsk X H Hf a od t ps kvs y kd k) (ry : RelV y u) (rv : RelV v r) (hl : ps.length < sizeLine)
    (h : ∀ od' s', DIs t od' (setP ps k y v) → Inv X pins σ (upd H a (dOb a od')) s' → Q () s') : wpAny (model X.prog X.w) A (dictSet a u r) Q E s := by
  have dt := dat_of I g.ob g.dis g.ks g.rk
  obtain ⟨q1, q2, q3, q4⟩ := keyOf_at g.ky
  have hl2 : (setP ps k y v).length ≤ sizeLine := by have := setP_len ps k y v; omega
  have kd2 := setP_kd (kv := y) (v := v) g.dis.kd ⟨q2, q3, q4⟩
  have mu : Mut (H a) := by rw [g.ob]; exact True.intro
  cases t with
  | false =>
    obtain ⟨i, tk, rfl, rfl, rfl⟩ := key_int g.ry g.ky ry
    obtain ⟨vs, hp, dd⟩ := dt
    refine wpAny_dictSet_pairs (knd := PySem.intKind X.prog X.w) (hsz := by rw [← Paired.length hp]; omega) (isInt_k X.prog X.w i tk) dd fun h' dd' hs => ?_
    obtain ⟨od', ho, di⟩ := dis_of (P := X.prog) (w := X.w) (t := false) ⟨_, set_int (i := i) hp rv, dd'⟩ kd2 hl2
    exact h od' _ di (d_write I mu hs ⟨od', ho⟩ (dOb_ok ho))
  | true =>
    obtain ⟨b, rfl, rfl, isk⟩ := key_ref I g.ry g.ky ry
    obtain ⟨xs, hp, dd⟩ := dt
    refine wpAny_dictSet_heap (hsz := by rw [← Paired.length hp]; omega) (by show A.units + 8 < cLine; omega) isk dd fun h' dd' hs => ?_
    obtain ⟨od', ho, di⟩ := dis_of (P := X.prog) (w := X.w) (t := true) ⟨_, set_ref (k := k) (b := b) hp rv, dd'⟩ kd2 hl2
    exact h od' _ di (d_write I mu hs ⟨od', ho⟩ (dOb_ok ho))
end
end Mir
set_option Elab.async false
set_option linter.all false
set_option maxRecDepth 100000
set_option maxHeartbeats 4000000
/-! Mir, part Dc: dicts in expressions. -/
namespace Mir
open PySem L2 PyProof.Rows

section
variable {K : PySem.W.Frag} {mg : Str → Option Value} {H Hf : Hp} {o : O} {x : V} {t : Bool} {kvs : List (D × D)}
theorem vw_dict (h : RVw K mg Hf H o x) (sb : Same Hf H) (e : dictO o = some (t, kvs)) : RVw K mg Hf H (.m t kvs) x := by
  cases o with
  | m t' kvs' => cases e; exact h
  | l os => cases e
  | d dd =>
    rw [RVw] at h
    cases h with
    | fn _ => cases e
    | scr _ _ => cases e
    | dct h1 h2 h3 h4 h5 h6 h7 =>
      subst h4
      have e2 := dictO_D h5
      unfold dictD at e2
      rw [e2] at e
      cases e
      rw [RVw]
      exact ⟨_, _, _, rfl, sb _ _ h1, h2, h3, h5, h6, h7⟩
    | _ => cases e
end
section
variable {X : Cx} {H Hf : Hp} {o : O} {x y : V} {t : Bool} {kvs : List (D × D)} {kd : D} {k : NestedKey}
theorem ask_of (h : RVw X.K X.mg Hf H (.m t kvs) x) (sb : Same Hf H) (ky : keyOf t kd = some k) (ry : Rep X.K X.mg H y kd) : ∃ a od ps, x = .ref a ∧ KAsk X H Hf a od t ps kvs y kd k := by
  rw [RVw] at h
  obtain ⟨a, od, ps, e, h1, h2, h3, h4, h5, h6⟩ := h
  exact ⟨a, od, ps, e, h1, h2, h3, h4, h5.mono sb, h6, ky, ry⟩
end
section
variable {X : Cx} {o i e e2 : Expr} {pos apos cpos : Pos} {td ty tx : TE}
def DVw (X : Cx) (H Hf : Hp) (x : V) (t : Bool) (kvs : List (D × D)) : Prop := Same Hf H ∧ RVw X.K X.mg Hf H (.m t kvs) x
theorem dvw_type {pins : List (Addr × Obj)} {σ : L2.St} {H Hf : Hp} {s : Shared} {x : V} {t : Bool} {kvs : List (D × D)} {u : Value} (I : Inv X pins σ H s) (d : DVw X H Hf x t kvs) (r : RelV x u) : ∃ a, x = .ref a ∧ u = .ref a ∧ s.TypeIs (.ref a) "dict" ∧ (∀ b, Value.ref a = .ref b → ∃ ob, s.heap.get? b = some ob ∧ ob.dict = none) ∧ (a == sysModules) = false := by
  obtain ⟨sb, d⟩ := d
  rw [RVw] at d
  obtain ⟨a, od, ps, e, h1, h2, h3, h4, h5, h6⟩ := d
  subst e
  have hget : s.heap.get? a = some od := (I.hok a _ h1).1
  have dt := dat_of I h1 h3 h4 (h5.mono sb)
  refine ⟨a, rfl, r, dt.typeIs, fun b q => ?_, h2⟩
  cases q
  exact ⟨od, hget, h3.ex.2.1⟩
theorem pe_dixA (hu : X.A.units + 64 < cLine) (ho : PE X o td) (hi : PE X i ty) (hs : NoSl i) : PE X (.Subscript o i pos) (fun σ H Q => td σ H fun x H1 => ty σ H1 fun y H2 => ∃ Hf t kvs kd k d, DVw X H2 Hf x t kvs ∧ Rep X.K X.mg H2 y kd ∧ keyOf t kd = some k ∧ valD t kvs k = some d ∧ ∀ v, Rep X.K X.mg Hf v d → Q v H2) := by
  refine ⟨fun pins s σ H Q I h => ?_⟩
  refine subD_of PySem.F.slot_dict_getitem.lookup hs (thn (ho.run pins s σ H _ I h) fun u s1 ⟨x, H1, I1, rx, q1⟩ => thn (hi.run pins s1 σ H1 _ I1 q1) fun iv s2 ⟨y, H2, I2, ry, Hf, t, kvs, kd, k, d, dv, rk, hk, hd, q2⟩ => ?_)
  obtain ⟨a, e1, e2, ty, _⟩ := dvw_type I2 dv rx
  subst e2
  obtain ⟨a', od, ps, e3, g⟩ := ask_of dv.2 dv.1 hk rk
  rw [e1] at e3
  cases e3
  exact ⟨ty, ka_get hu I2 g ry hd fun v w' s3 rv rw' I3 => ⟨v, H2, I3, rw', q2 v rv⟩⟩
theorem pc_dinA (hu : X.A.units + 64 < cLine) (hi : PE X i ty) (ho : PE X o td) : PC X .In i o (fun σ H Q => ty σ H fun y H1 => td σ H1 fun x H2 => ∃ Hf t kvs kd k, DVw X H2 Hf x t kvs ∧ Rep X.K X.mg H2 y kd ∧ keyOf t kd = some k ∧ Q (.bl (kvs.any (hitK t k))) H2) := by
  refine ⟨fun pins s σ H Q I h => ?_⟩
  refine thn (hi.run pins s σ H _ I h) fun iv s1 ⟨y, H1, I1, ry, q1⟩ => thn (ho.run pins s1 σ H1 _ I1 q1) fun u s2 ⟨x, H2, I2, rx, Hf, t, kvs, kd, k, dv, rk, hk, q2⟩ => ?_
  obtain ⟨a, e1, e2, ty, _⟩ := dvw_type I2 dv rx
  subst e2
  obtain ⟨a', od, ps, e3, g⟩ := ask_of dv.2 dv.1 hk rk
  rw [e1] at e3
  cases e3
  exact ka_in hu I2 g ry fun s3 I3 => ⟨.bl _, H2, I3, rfl, q2⟩
theorem pc_dnotinA (hu : X.A.units + 64 < cLine) (hi : PE X i ty) (ho : PE X o td) : PC X .NotIn i o (fun σ H Q => ty σ H fun y H1 => td σ H1 fun x H2 => ∃ Hf t kvs kd k, DVw X H2 Hf x t kvs ∧ Rep X.K X.mg H2 y kd ∧ keyOf t kd = some k ∧ Q (.bl (!kvs.any (hitK t k))) H2) := by
  refine ⟨fun pins s σ H Q I h => ?_⟩
  refine thn (hi.run pins s σ H _ I h) fun iv s1 ⟨y, H1, I1, ry, q1⟩ => thn (ho.run pins s1 σ H1 _ I1 q1) fun u s2 ⟨x, H2, I2, rx, Hf, t, kvs, kd, k, dv, rk, hk, q2⟩ => ?_
  obtain ⟨a, e1, e2, ty, _⟩ := dvw_type I2 dv rx
  subst e2
  obtain ⟨a', od, ps, e3, g⟩ := ask_of dv.2 dv.1 hk rk
  rw [e1] at e3
  cases e3
  exact ka_notIn hu I2 g ry fun s3 I3 => ⟨.bl _, H2, I3, rfl, q2⟩
theorem pe_dnewA (t : Bool) : PE X (.Dict [] [] pos) (fun _ H Q => ∀ p od, H p = none → (p == sysModules) = false → DIs t od [] → Q (.ref p) (upd H p (dOb p od))) := ⟨fun pins s σ H Q I h => by
  refine wpAny_Dict_empty ?_
  have hn : H s.heap.objs.size = none := I.hok.fresh (Nat.le_refl _)
  have di : DIs t { cls := .type "dict", data := .dict #[] } [] := ⟨⟨rfl, rfl, rfl⟩, ⟨#[], 0, rfl, .nil⟩, List.nodup_nil, (fun p hp => by cases hp), (fun _ p hp => by cases hp), Nat.zero_le _⟩
  exact ⟨.ref s.heap.objs.size, _, I.laid (a := s.heap.objs.size) (o := dOb s.heap.objs.size { cls := .type "dict", data := .dict #[] }) (t' := s.toks) (fun _ _ q => Heap.get?_push_of_some _ q) (Nat.le_refl _) (dOb_ok (Heap.get?_push_size _ rfl)), rfl,
    h _ _ hn (beq_eq_false_iff_ne.mpr (Ne.symm (Nat.ne_of_lt I.big))) di⟩⟩
end
section
variable {X : Cx} {Wx : WX} {cl : Cl} {pos apos cpos p : Pos} {w b : Bool} {a k x : E} {e1 e2 e3 : Expr}
theorem dix_at {x : O} {kd : D} {o : O} (e : dixF x kd = some o) : ∃ t kvs k d, dictO x = some (t, kvs) ∧ keyOf t kd = some k ∧ valD t kvs k = some d ∧ o = .d d := by
  unfold dixF at e
  split at e
  · rename_i t kvs h1
    split at e
    · rename_i k h2
      cases h3 : valD t kvs k with
      | none => rw [h3] at e; cases e
      | some d => rw [h3] at e; cases e; exact ⟨t, kvs, k, d, h1, h2, h3, rfl⟩
    · cases e
  · cases e
theorem din_at {neg : Bool} {x : O} {kd : D} {o : Bool} (e : dinF neg kd x = some o) : ∃ t kvs k, dictO x = some (t, kvs) ∧ keyOf t kd = some k ∧ o = (kvs.any (hitK t k) != neg) := by
  unfold dinF at e
  split at e
  · rename_i t kvs h1
    split at e
    · rename_i k h2
      cases e; exact ⟨t, kvs, k, h1, h2, rfl⟩
    · cases e
  · cases e
theorem snd_dix (hu : X.A.units + 64 < cLine) (hs : notSlice e2 = true) (ha : Snd X Wx cl a e1) (hk : Snd X Wx cl k e2) : Snd X Wx cl (.dix a k) (.Subscript e1 e2 pos) := fun w b hp => by
  have hp := orb (show (a.pure && k.pure || w) = true by simpa [E.pure] using hp)
  refine (pe_dixA hu (ha w k.pure hp.1) (hk (!k.pure) true (by cases k.pure <;> rfl)) (plain_ix hs)).imp fun σ H Q q => ?_
  obtain ⟨τ, Hf, as, rel, q⟩ := q
  rw [evalG] at q
  refine two_parts hp.2 rel q fun x y τ2 v u H2 Hf2 as2 r2 vx vy st q => ?_
  obtain ⟨o, e, q⟩ := ofO_at q
  obtain ⟨t, kvs, k, d, h1, h2, h3, rfl⟩ := dix_at e
  exact ⟨Hf2, t, kvs, y.data, k, d, ⟨r2.sub, vw_dict vx r2.sub h1⟩, vy.rep r2.sub, h2, h3, fun z rz => (Fin.of r2 (PostE.from q st)).1 z d rfl rz⟩
theorem din_rd {neg : Bool} (hp1 : (k.pure || w) = true) (hp2 : (a.pure || w) = true) {R : O → Tau → Prop} {Q : Bool → Hp → Prop} {τ : Tau} {σ : L2.St} {H Hf : Hp} {as : Nat → List Addr} (rel : Rel X.K X.mg τ σ H Hf as) (q : RdM X.K X.mg Wx w σ H Hf as (evalG cl b (.din neg k a) τ) R)
    (fin : ∀ c τ2 H2 Hf2 as2, Rel X.K X.mg τ2 σ H2 Hf2 as2 → Stp w (Wof as) H Hf H2 Hf2 (Wof as2) → R (.d (.bool c)) τ2 → Q c H2) :
    RdE X Wx cl w a.pure k σ H fun y H1 => RdE X Wx cl (!a.pure) true a σ H1 fun x H2 => ∃ Hf t kvs kd k, DVw X H2 Hf x t kvs ∧ Rep X.K X.mg H2 y kd ∧ keyOf t kd = some k ∧ Q (kvs.any (hitK t k) != neg) H2 := by
  rw [evalG] at q
  refine two_parts hp2 rel q fun y x τ2 v u H2 Hf2 as2 r2 vy vx st q => ?_
  obtain ⟨o, e, q⟩ := ofB_at q
  obtain ⟨t, kvs, k, h1, h2, rfl⟩ := din_at e
  exact ⟨Hf2, t, kvs, y.data, k, ⟨r2.sub, vw_dict vx r2.sub h1⟩, vy.rep r2.sub, h2, fin _ _ _ _ _ r2 st q⟩
def dinOp (neg : Bool) : CmpOp := if neg then .NotIn else .In
theorem snd_din {neg : Bool} (hu : X.A.units + 64 < cLine) (hb : behindInMarks (dinOp neg) e2 = false) (hk : Snd X Wx cl k e1) (ha : Snd X Wx cl a e2) : Snd X Wx cl (.din neg k a) (.Compare e1 [dinOp neg] [e2] pos) := fun w b hp => by
  have hq := orb (show (k.pure && a.pure || w) = true by simpa [E.pure] using hp)
  cases neg with
  | false =>
    refine (pe_cmp (pc_dinA hu (hk w a.pure hq.1) (ha (!a.pure) true (by cases a.pure <;> rfl))) hb).imp fun σ H Q q => ?_
    obtain ⟨τ, Hf, as, rel, q⟩ := q
    have z := din_rd (Q := fun c H' => Q (.bl c) H') hq.1 hq.2 rel q fun c τ2 H2 Hf2 as2 r2 st q => val_bool r2 st q
    simp only [Bool.bne_false] at z; exact z
  | true =>
    refine (pe_cmp (pc_dnotinA hu (hk w a.pure hq.1) (ha (!a.pure) true (by cases a.pure <;> rfl))) hb).imp fun σ H Q q => ?_
    obtain ⟨τ, Hf, as, rel, q⟩ := q
    have z := din_rd (Q := fun c H' => Q (.bl c) H') hq.1 hq.2 rel q fun c τ2 H2 Hf2 as2 r2 st q => val_bool r2 st q
    simp only [Bool.bne_true] at z; exact z
theorem sndT_din {neg : Bool} (hu : X.A.units + 64 < cLine) (hb : behindInMarks (dinOp neg) e2 = false) (hk : Snd X Wx cl k e1) (ha : Snd X Wx cl a e2) : SndT X Wx cl (.din neg k a) (.Compare e1 [dinOp neg] [e2] pos) := fun w hp => by
  have hq := orb (show (k.pure && a.pure || w) = true by simpa [E.pure] using hp)
  cases neg with
  | false =>
    refine (pt_cmp (pc_dinA hu (hk w a.pure hq.1) (ha (!a.pure) true (by cases a.pure <;> rfl))) hb).imp fun σ H Q q => ?_
    obtain ⟨τ, Hf, as, rel, q⟩ := q
    have z := din_rd (Q := fun c H' => ∃ d, V.bl c = .bl d ∧ Q d H') hq.1 hq.2 rel (asB_bind q) fun c τ2 H2 Hf2 as2 r2 st ⟨k', e, q⟩ => by cases e; exact ⟨c, rfl, q H2 Hf2 as2 r2 st⟩
    simp only [Bool.bne_false] at z; exact z
  | true =>
    refine (pt_cmp (pc_dnotinA hu (hk w a.pure hq.1) (ha (!a.pure) true (by cases a.pure <;> rfl))) hb).imp fun σ H Q q => ?_
    obtain ⟨τ, Hf, as, rel, q⟩ := q
    have z := din_rd (Q := fun c H' => ∃ d, V.bl c = .bl d ∧ Q d H') hq.1 hq.2 rel (asB_bind q) fun c τ2 H2 Hf2 as2 r2 st ⟨k', e, q⟩ => by cases e; exact ⟨c, rfl, q H2 Hf2 as2 r2 st⟩
    simp only [Bool.bne_true] at z; exact z
theorem snd_dnew {t : Bool} : Snd X Wx cl (.dnew t) (.Dict [] [] pos) := fun w b hp => by
  refine (pe_dnewA t).imp fun σ H Q q => ?_
  obtain ⟨τ, Hf, as, rel, q⟩ := q
  rw [evalG] at q
  intro p od hp hs di
  have hf : Hf p = none := by
    cases e : Hf p with
    | none => rfl
    | some u => rw [rel.sub _ _ e] at hp; cases hp
  have r2 := rel.new (o := dOb p od) hp
  refine q _ _ _ _ [p] r2 ⟨?_, fun _ => ⟨?_, by simp, fun c hc z => ?_⟩, Stp.new hp fun c q => q.elim .inl fun z => .inr (by simpa using z.2)⟩
  · rw [RVw]
    exact ⟨p, od, [], rfl, upd_same, hs, di, rfl, .nil, .nil⟩
  · rw [ROwn]
    exact ⟨p, od, [], rfl, rfl, hf, upd_same, hs, di, rfl, .nil, .nil⟩
  · rw [List.mem_singleton] at hc
    subst hc
    obtain ⟨_, ws, e⟩ := rel.at z
    rw [hp] at e; cases e
end
end Mir
set_option Elab.async false
set_option linter.all false
set_option maxRecDepth 100000
set_option maxHeartbeats 4000000
/-! Mir, part Dd: d.get(k, x), len(d), for k in d. -/
namespace Mir
open PySem L2 PyProof.Rows

/-! ### d.get(k, x) -/
section
variable {X : Cx} {o e f : Expr} {apos cpos : Pos} {td ty tx : TE}
theorem pe_dgetA (hu : X.A.units + 64 < cLine) (ho : PE X o td) (he : PE X e ty) (hf : PE X f tx) (m : M2 X o "get" apos e f cpos) : PE X (.Call (.Attribute o "get" apos) [e, f] [] cpos) (fun σ H Q => td σ H fun x H1 => ∃ Hf t kvs, DVw X H1 Hf x t kvs ∧ ty σ H1 fun y H2 => tx σ H2 fun z H3 =>
    ∃ Hf t kvs kd k, DVw X H3 Hf x t kvs ∧ Rep X.K X.mg H3 y kd ∧ keyOf t kd = some k ∧ (∀ d v, valD t kvs k = some d → Rep X.K X.mg Hf v d → Q v H3) ∧ (valD t kvs k = none → Q z H3)) := by
  refine ⟨fun pins s σ H Q I h => ?_⟩
  refine wpAny_Call_method m.base m.few m.line PySem.F.plainAttrs_dict PySem.F.slot_dict_get PySem.F.type_dict_get (thn (ho.run pins s σ H _ I h) fun u s1 ⟨x, H1, I1, rx, Hf, t, kvs, dv, q1⟩ => ?_)
  obtain ⟨a, e1, e2, t1, t2, _⟩ := dvw_type I1 dv rx
  subst e2
  refine ⟨t1, t2, ?_⟩
  rw [m.trees]
  refine Calls.callWith_builtin rfl (Calls.evalArgs_plain (Calls.spliced_cons (thn (he.run pins s1 σ H1 _ I1 q1) fun iv s2 ⟨y, H2, I2, ry, q2⟩ =>
    Calls.spliced_cons (thn (hf.run pins s2 σ H2 _ I2 q2) fun fv s3 ⟨z, H3, I3, rz, Hf, t, kvs, kd, k, dv, rk, hk, g1, g2⟩ => Calls.spliced_nil ?_))))
  obtain ⟨a', od, ps, e3, g⟩ := ask_of dv.2 dv.1 hk rk
  rw [e1] at e3
  cases e3
  exact ka_get2 hu I3 g ry rz (fun v d w' s' hv rv rw' I' => ⟨v, H3, I', rw', g1 d v hv rv⟩) fun hn s' I' => ⟨z, H3, I', rz, g2 hn⟩
end
/-! ### for k in d -/
section
variable {K : PySem.W.Frag} {mg : Str → Option Value} {P : Program} {w : World} {tg : Expr}
/-- the keys of the dict that stands at d -/
def ItD (d : Addr) (od : Obj) (ps : List (NestedKey × V × V)) : L2.It :=
  ⟨fun i H => H d = some (dOb d od) ∧ i < ps.length, fun i H x H' => H' = H ∧ ∃ q, ps[i]? = some q ∧ x = q.2.1, fun i H => H d = some (dOb d od) ∧ ps.length ≤ i⟩
theorem turn_D {t : Bool} {d : Addr} {od : Obj} {ps : List (NestedKey × V × V)} {es : Array DictEntry} {ep : Nat} (it : Addr) (hs : (d == sysModules) = false) (di : DIs t od ps) (hod : od.data = .dict es ep) : Turn P w K tg (ItD d od ps) [it] it (fun i h => h.IsKeyIter it d i ps.length ep) where
  mem := by simp
  obj := fun i h st b hb => by
    have e : b = it := by simpa using hb
    subst e
    obtain ⟨oi, e, c, dd⟩ := st
    exact ⟨oi, e, fun v z => by rw [dd] at z; cases z⟩
  keep := fun i h h' st k => st.at fun oi e => k it (by simp) oi e
  item := by
    intro X hP hw hK hc i pins s σ H E I hf st hg
    subst hP hw hK
    obtain ⟨hd, hi⟩ := hg
    obtain ⟨f0, f1, f2, f3, f4, f5⟩ := hf it (by simp)
    have hgd : s.heap.get? d = some od := (I.hok d _ hd).1
    obtain ⟨es', ep', hdt, pr⟩ := di.es
    obtain ⟨rfl, rfl⟩ := dict_ep hod hdt
    have hsz : es'.size = ps.length := by have := Paired.length pr; simpa using this.symm
    obtain ⟨q, hq⟩ : ∃ q, ps[i]? = some q := ⟨ps[i], List.getElem?_eq_getElem hi⟩
    obtain ⟨en, hen, _, hkey, _⟩ := paired_get pr hq
    have hen : es'[i]? = some en := by rw [← hen]; simp
    refine next_key_item st hgd hdt hsz hen fun h' st' sb => ?_
    have I1 : Inv X pins σ H { s with heap := h' } := I.turned (t' := s.toks) (fun b ob hb e => (sb.2 b hb).trans e) f0 f1 f3 f4 f5
    obtain ⟨oi, e, c, dd⟩ := id st'
    exact ⟨en.key, rfl, go_of (s := { s with heap := h' }) e c dd (by decide) ⟨q.2.1, H, I1, hkey, ⟨rfl, q, hq, rfl⟩, st', fun b hb => (hf b hb).1⟩⟩
  done := by
    intro X hP hw hK hc i pins s σ H E I hf st hg
    subst hP hw hK
    obtain ⟨hd, hi⟩ := hg
    obtain ⟨f0, f1, f2, f3, f4, f5⟩ := hf it (by simp)
    have hgd : s.heap.get? d = some od := (I.hok d _ hd).1
    obtain ⟨es', ep', hdt, pr⟩ := di.es
    obtain ⟨rfl, rfl⟩ := dict_ep hod hdt
    have hsz : es'.size = ps.length := by have := Paired.length pr; simpa using this.symm
    exact next_key_end (I.ok.hd hc) st hgd hdt hsz hi fun h' eb => ⟨rfl, I.turned (t' := s.toks) (fun b ob hb e => eb b ob hb e) f0 f1 f3 f4 f5⟩
  self := fun A i s Q E st h => by
    refine wpAny_pyIter_slot st.typeIs F.slot_dict_keyiterator_iter (wpAny_call_entry F.slot_dict_keyiterator_iter st.typeIs F.entry_dict_keyiterator_iter ?_ (F.args_dict_keyiterator_iter_1 _))
    show wpAny _ _ (ret (.ref it)) _ _ s
    exact wpAny_pure ⟨_, rfl, "dict_keyiterator", _, st.typeIs, F.slot_dict_keyiterator_next.lookup, h⟩
end
section
variable {X : Cx} {Wx : WX} {sc : Scope} {cl : Cl} {bs fs : List Str} {n : Nat} {pos apos cpos p : Pos} {w b : Bool} {a k x : E} {tg e e1 e2 e3 : Expr} {td : TE}
theorem pi_dct (he : PE X e td) : PI X tg e (fun σ H R => td σ H fun x H1 => ∃ d t od ps, x = .ref d ∧ (d == sysModules) = false ∧ DIs t od ps ∧ H1 d = some (dOb d od) ∧ R (ItD d od ps) H1) := by
  refine ⟨fun pins s σ H R I h => ?_⟩
  refine thn (he.run pins s σ H _ I h) fun u s1 ⟨x, H1, I1, rx, d, t, od, ps, ex, hs, di, hd, q⟩ => ?_
  subst ex
  obtain rfl : u = Value.ref d := rx
  have hgd : s1.heap.get? d = some od := (I1.hok d _ hd).1
  obtain ⟨es, ep, hdt, pr⟩ := di.es
  have hsz : es.size = ps.length := by have := Paired.length pr; simpa using this.symm
  refine iter_keys hs hgd di.ex hdt (pi_one (tk := s1.toks) I1 _ (turn_D _ hs di hdt) ⟨_, Heap.get?_push_size _ rfl, rfl, ?_⟩ q)
  rw [hsz] <;> rfl
theorem walk_D {K : PySem.W.Frag} {mg : Str → Option Value} {H Hf : Hp} {d : Addr} {od : Obj} {ps : List (NestedKey × V × V)} {ks : List D} (h : Hf d = some (dOb d od) ∨ (b = true ∧ H d = some (dOb d od))) (r : Reps K mg Hf (ps.map (·.2.1)) ks) : Walk K mg b H Hf (ItD d od ps) ks := fun H2 Hf2 h1 h2 h3 => by
  have hd : H2 d = some (dOb d od) := by
    rcases h with h | ⟨hb, h⟩
    · exact h2 _ _ (h1 _ _ h)
    · exact h3 hb _ _ h
  have rp := Reps.mono h1 _ _ r
  have hl : ps.length = ks.length := by have := rp.length; simpa using this
  refine ⟨fun i d e => ?_, fun i hi => ⟨hd, by omega⟩⟩
  obtain ⟨x, hx, rx⟩ := rp.get e
  rw [List.getElem?_map] at hx
  cases hq : ps[i]? with
  | none => rw [hq] at hx; cases hx
  | some q =>
    rw [hq] at hx
    have ex : q.2.1 = x := by simpa using hx
    have hi : i < ps.length := (List.getElem?_eq_some_iff.mp hq).1
    refine ⟨⟨hd, hi⟩, fun y H3 ⟨e1, q', hq', ey⟩ => .inl ⟨e1, ?_⟩⟩
    rw [hq] at hq'
    cases hq'
    rw [ey, ex]
    exact rx
theorem snd_dct (h : Snd X Wx cl a e) : SndI X Wx cl (.dct a) tg e := fun w b hp => by
  refine (pi_dct (h w b (by simpa [It.pure] using hp))).imp fun σ H R q => ?_
  obtain ⟨τ, Hf, as, rel, q⟩ := q
  rw [evalIt] at q
  refine ⟨τ, Hf, as, rel, q.bind.imp fun o τ1 q => ?_⟩
  intro v H1 Hf1 as1 ao r s
  cases ex : dctF b o with
  | none => rw [ex] at q; exact q.elim
  | some kvs =>
    rw [ex] at q
    have fin : ∀ Hf2 as2 o', Rel X.K X.mg τ1 σ H1 Hf2 as2 → Stp w (Wof as) H Hf H1 Hf2 (Wof as2) → RVw X.K X.mg Hf2 H1 o' v → (∃ t, dictO o' = some (t, kvs)) → (b = false → ∃ x, o' = .d x) → ∃ d t od ps, v = .ref d ∧ (d == sysModules) = false ∧ DIs t od ps ∧ H1 d = some (dOb d od) ∧ R (ItD d od ps) H1 := fun Hf2 as2 o' r2 s2 vv ⟨t, ht⟩ ho => by
      have hz : ∀ {d od ps}, DIs t od ps → (Hf2 d = some (dOb d od) ∨ (b = true ∧ H1 d = some (dOb d od))) → Reps X.K X.mg Hf2 (ps.map (·.2.1)) (kvs.map (·.1)) → R (ItD d od ps) H1 := fun {d od ps} di hd r =>
        q _ H1 Hf2 as2 r2 s2 (walk_D hd r) fun z => by
          have h1 := r.length
          have h2 := di.sz
          simp only [List.length_map] at h1 ⊢
          omega
      have gen := vw_dict vv r2.sub ht
      cases o' with
      | l os => cases ht
      | m t' kvs' =>
        cases ht
        rw [RVw] at vv
        obtain ⟨a, od, ps, e, h1, h2, h3, h4, h5, h6⟩ := vv
        refine ⟨a, _, od, ps, e, h2, h3, h1, hz h3 (.inr ⟨?_, h1⟩) h5⟩
        cases hb : b with
        | true => rfl
        | false => obtain ⟨x, ex⟩ := ho hb; cases ex
      | d dd =>
        rw [RVw] at vv
        cases vv with
        | fn _ => cases ht
        | scr _ _ => cases ht
        | dct h1 h2 h3 h4 h5 h6 h7 =>
          subst h4
          have e2 := dictO_D h5
          unfold dictD at e2
          rw [e2] at ht
          cases ht
          exact ⟨_, _, _, _, rfl, h2, h3, r2.sub _ _ h1, hz h3 (.inl h1) h6⟩
        | _ => cases ht
    unfold dctF at ex
    cases b with
    | true =>
      obtain ⟨p, e1, e2⟩ := Option.map_eq_some_iff.mp ex
      exact fin Hf1 as1 o r s.stp s.1 ⟨p.1, by rw [show o = (if true = true then o else .d o.data) from rfl, e1, ← e2]⟩ (fun z => by cases z)
    | false =>
      obtain ⟨r2, rp, _, st⟩ := s.freeze r
      obtain ⟨p, e1, e2⟩ := Option.map_eq_some_iff.mp ex
      exact fin _ as1 (.d o.data) r2 st (by rw [RVw]; exact rp) ⟨p.1, by rw [show (O.d o.data) = (if false = true then o else .d o.data) from rfl, e1, ← e2]⟩ fun _ => ⟨_, rfl⟩
end
end Mir
set_option Elab.async false
set_option linter.all false
set_option maxRecDepth 100000
set_option maxHeartbeats 4000000
/-! Mir, part De: dict comprehensions. -/
namespace Mir
open PySem L2 PyProof.Rows

/-! ### the walk: the block's turns, each pair stored at once -/
section
variable {X : Cx} {t : Bool}
def DNx (X : Cx) (t : Bool) (D : Addr) (Nx : Hp → Prop) (y z : V) (H5 : Hp) : Prop := ∃ Hf od ps kvs kd k, KAsk X H5 Hf D od t ps kvs y kd k ∧ ps.length < sizeLine ∧ ∀ od', DIs t od' (setP ps k y z) → Nx (upd H5 D (dOb D od'))
def tDcA (X : Cx) (t : Bool) (wi : TI) (g : TG) (tt : TT) (tk tv : TE) (vs : List Nat) : TE := fun σ H Q => wi σ H fun J H1 => ∀ D od, H1 D = none → (D == sysModules) = false → DIs t od [] → ∃ W : Nat → Nat → Hp → Prop, (∃ m, W 0 m (upd H1 D (dOb D od))) ∧ ∀ i m H, W i m H →
  (J.stop i H ∧ Q (.ref D) H) ∨ (J.go i H ∧ ∃ Nx : Hp → Prop, (∀ H', Nx H' → ∃ m', m' < m ∧ W (i + 1) m' H') ∧ ∀ x H', J.yld i H x H' → g x (wipe σ vs) H' fun σ2 H2 => wipe σ2 vs = wipe σ vs ∧ tt σ2 H2 fun b H3 =>
    if b = true then tk σ2 H3 fun y H4 => tv σ2 H4 fun z H5 => DNx X t D Nx y z H5 else Nx H3)
theorem dc_coreA {pins : List (Addr × Obj)} {s : Shared} {σ : L2.St} {H : Hp} {Q : VK} {kx vx tg iter : Expr} {ifs : List Expr} {scope : Scope} {own : List (Str × Nat)} {pos pos' : Pos} {wi : TI} {g : TG} {tt : TT} {tk tv : TE} {use : Option (Value → Sem Unit)} {Qf : Value → Shared → Prop} (hun : X.A.units + 64 < cLine) (hc : X.calm = true) (hN : X.N.Nodup) (I : Inv X pins σ H s) (hi : PI X tg iter wi) (ok : BlkOk X.N X.env.scope scope own)
    (hg : ∀ (s : Shared) (H : Hp) (C : Addr) (cl : List (Str × Addr)) (fp : List Addr), PG (X.blk s H scope (compEnvC scope cl C X.env) fp) tg g) (ht : ∀ (s : Shared) (H : Hp) (C : Addr) (cl : List (Str × Addr)) (fp : List Addr), PTs (X.blk s H scope (compEnvC scope cl C X.env) fp) ifs tt)
    (hk : ∀ (s : Shared) (H : Hp) (C : Addr) (cl : List (Str × Addr)) (fp : List Addr), PE (X.blk s H scope (compEnvC scope cl C X.env) fp) kx tk)
    (he : ∀ (s : Shared) (H : Hp) (C : Addr) (cl : List (Str × Addr)) (fp : List Addr), PE (X.blk s H scope (compEnvC scope cl C X.env) fp) vx tv) (hs : ∀ x, foldedSetIterable iter X.env x = pure x)
    (h : tDcA X t wi g tt tk tv (own.map (·.2)) σ H Q)
    (hend : ∀ D C s' m H', Inv X pins σ H' s' → Q (.ref D) H' → s'.heap.Ns C m → FpOk X pins H' C → compPost (model X.prog X.w) X.A X.xe use Qf (.ref D) C (.ok .next) s') :
    wpAny (model X.prog X.w) X.A (comprehension (.DictComp kx vx [⟨tg, iter, ifs, 0⟩] scope pos) scope X.env pos' newDict false (eval iter X.env) use) Qf X.xe s := by
  -- the block's free names have their cells
  have hfree : ∀ y ∈ scope.names, y.2 = .free → ∃ c, X.env.cells.lookup y.1 = some c := fun y hy e => (ok.free y hy e).elim (fun k => I.ok.has _ (.inl k)) fun k => I.ok.has _ (.inr k)
  refine wpAny_comprehension_free (use := use) rfl hs (closure_ok hfree) ok.kind (fun y hy e => by rw [ok.uniq y hy, e]) (thn (hi.run pins s σ H _ I h) fun xv s1 hx => thn hx fun itv s2 h2 => ?_)
  obtain ⟨it, fp, tn, J, H2, e, I2, T, st2, f2, q⟩ := h2
  subst e
  refine wpAny_newObj_type (newEnv_comp ?_)
  generalize hD : s2.heap.objs.size = D
  have hDn : H2 D = none := I2.hok.fresh (Nat.le_of_eq hD)
  have di : DIs t { cls := .type "dict", data := .dict #[] } [] := ⟨⟨rfl, rfl, rfl⟩, ⟨#[], 0, rfl, .nil⟩, List.nodup_nil, (fun p hp => by cases hp), (fun _ p hp => by cases hp), Nat.zero_le _⟩
  have hDs : (D == sysModules) = false := beq_eq_false_iff_ne.mpr (by rw [← hD]; exact Ne.symm (Nat.ne_of_lt I2.big))
  obtain ⟨W, ⟨m0, w0⟩, turn⟩ := q D _ hDn hDs di
  -- the new dict
  generalize hs3 : ({ s2 with heap := s2.heap.push { cls := .type "dict", data := .dict #[] } } : Shared) = s3
  generalize hH3 : upd H2 D (dOb D { cls := .type "dict", data := .dict #[] }) = H3 at w0
  have h3 : s3.heap = s2.heap.push { cls := .type "dict", data := .dict #[] } := by rw [← hs3]
  have I3 : Inv X pins σ H3 s3 := by
    rw [← hs3, ← hH3]
    refine I2.laid (t' := s2.toks) (fun b o e => Heap.get?_push_of_some _ e) (Nat.le_of_eq hD) (dOb_ok ?_)
    rw [← hD]
    exact Heap.get?_push_size _ rfl
  have sz : ∀ b ∈ fp, b < s2.heap.objs.size := fun b hb => by
    obtain ⟨o, e, _⟩ := T.obj _ _ st2 b hb
    exact Heap.lt_size e
  have f3 : ∀ b ∈ fp, FpOk X pins H3 b ∧ b < s3.heap.objs.size := fun b hb => by
    refine ⟨⟨?_, (f2 b hb).2⟩, by rw [h3, Heap.size_push]; exact Nat.lt_succ_of_lt (sz b hb)⟩
    rw [← hH3, upd_ne (by rw [← hD]; exact Nat.ne_of_lt (sz b hb))]
    exact (f2 b hb).1
  have st3 : tn 0 s3.heap := T.keep _ _ _ st2 fun b _ o e => by rw [h3]; exact Heap.get?_push_of_some _ e
  have I4 := block_start I3 ok hN f3
  have pg := hg s3 H3 s3.heap.objs.size (cellsFrom (s3.heap.objs.size + 1) scope.names (cloFrom X.env.cells scope.names [])) fp
  have pt := ht s3 H3 s3.heap.objs.size (cellsFrom (s3.heap.objs.size + 1) scope.names (cloFrom X.env.cells scope.names [])) fp
  have pk := hk s3 H3 s3.heap.objs.size (cellsFrom (s3.heap.objs.size + 1) scope.names (cloFrom X.env.cells scope.names [])) fp
  have pv := he s3 H3 s3.heap.objs.size (cellsFrom (s3.heap.objs.size + 1) scope.names (cloFrom X.env.cells scope.names [])) fp
  show codeAny _ _ (.compStart (.DictComp kx vx [⟨tg, iter, ifs, 0⟩] scope pos) 0 (.ref it) (.ref D) (compEnvC scope (cellsFrom (s3.heap.objs.size + 1) scope.names (cloFrom X.env.cells scope.names [])) s3.heap.objs.size X.env)) (compPost (model X.prog X.w) X.A X.xe use Qf (.ref D) s3.heap.objs.size) { s3 with heap := pushCells (s3.heap.push { cls := .type "dict", data := .dict #[] }) scope.names }
  generalize hce : compEnvC scope (cellsFrom (s3.heap.objs.size + 1) scope.names (cloFrom X.env.cells scope.names [])) s3.heap.objs.size X.env = ce at I4 pg pt pk pv ⊢
  have cL : ce.locals = s3.heap.objs.size := by subst hce; rfl
  generalize hs4 : ({ s3 with heap := pushCells (s3.heap.push { cls := .type "dict", data := .dict #[] }) scope.names } : Shared) = s4 at I4 ⊢
  have st4 : tn 0 s4.heap := T.keep _ _ _ st3 fun b _ o e => by rw [← hs4]; exact pushCells_keeps _ _ _ _ (Heap.get?_push_of_some _ e)
  have nfp : ∀ b ∈ fp, H3 b = none := fun b hb => (f3 b hb).1.1
  have stat : ∀ {σ' : L2.St} {H' : Hp} {s' : Shared}, Inv (X.blk s3 H3 scope ce fp) [] σ' H' s' → (∀ b ∈ fp, H' b = none) → ∀ b ∈ fp, FpOk (X.blk s3 H3 scope ce fp) [] H' b := fun {σ' H' s'} I' hn b hb =>
    ⟨hn b hb, (I'.ok.exf b hb).1, I'.ok.exfs b hb, .inl hb, fun x c e => (I'.ok.exf b hb).2 x c e, fun p hp => absurd (show p ∈ ([] : List (Addr × Obj)) ++ [] from hp) (by simp)⟩
  refine codeAny_compStart_dict ?loop (T.self X.A 0 _ _ _ st4 ?loop)
  refine compLoop_anyD (fun n s' => ∃ i H', Inv (X.blk s3 H3 scope ce fp) [] (wipe σ (own.map (·.2))) H' s' ∧ tn i s'.heap ∧ (∀ b ∈ fp, H' b = none) ∧ W i n H') ?_ m0 ⟨0, H3, I4, st4, nfp, w0⟩
  rintro n s5 ⟨i, H5, I5, st5, n5, w5⟩
  rcases turn i n H5 w5 with ⟨stop, qq⟩ | ⟨go, Nx, hNx, step⟩
  · refine thnF (T.done (X.blk s3 H3 scope ce fp) rfl rfl rfl hc i [] s5 _ H5 (fun _ _ => False) I5 (stat I5 n5) st5 stop) fun r s6 ⟨hr, I6⟩ => ?_
    subst hr
    have I7 : Inv X pins σ H5 s6 := I3.call' (ch := fp) I6.os I6.base I6.hok I6.bare fun b hb => ⟨(f3 b hb).1.2.2.2.1, (f3 b hb).1.2.1, (f3 b hb).1.2.2.2.2.1, (f3 b hb).1.2.2.2.2.2⟩
    have nC : H5 s3.heap.objs.size = none := cL ▸ I6.free
    obtain ⟨m, hn, _⟩ := I6.loc
    have hn : s6.heap.Ns s3.heap.objs.size m := cL ▸ hn
    exact hend D s3.heap.objs.size s6 m H5 I7 qq hn (I3.fpOk (Nat.le_refl _) nC)
  · refine thnF (T.item (X.blk s3 H3 scope ce fp) rfl rfl rfl hc i [] s5 _ H5 (fun _ _ => False) I5 (stat I5 n5) st5 go) fun r s6 ⟨u, hr, h6⟩ => ?_
    subst hr
    refine thnF h6 fun _ s7 ⟨x, H7, I7, r7, y7, st7, n7⟩ => ?_
    refine thnF (pg.run _ s7 _ H7 x u _ (I7.pinned (stat I7 n7) (T.obj _ _ st7)) r7 (step x H7 y7)) fun _ s8 ⟨σ8, H8, I8, hw8, q8⟩ => ?_
    refine thnF (pt.run _ s8 σ8 H8 _ I8 q8) fun b s9 ⟨H9, I9, q9⟩ => ?_
    have fin : ∀ {s' : Shared} {H' : Hp}, Inv (X.blk s3 H3 scope ce fp) ([] ++ pinsAt fp s7.heap) σ8 H' s' → Nx H' → ∃ m, m < n ∧ ∃ i H', Inv (X.blk s3 H3 scope ce fp) [] (wipe σ (own.map (·.2))) H' s' ∧ tn i s'.heap ∧ (∀ b ∈ fp, H' b = none) ∧ W i m H' := fun {s' H'} I' nx => by
      obtain ⟨m', hm, w'⟩ := hNx H' nx
      have pin' : ∀ b ∈ fp, ∀ o, s7.heap.get? b = some o → s'.heap.get? b = some o ∧ H' b = none := fun b hb o e =>
        let z := I'.pin (b, o) (List.mem_append_right _ (List.mem_append_right _ (mem_pinsAt hb e)))
        ⟨z.1, z.2.1⟩
      refine ⟨m', hm, i + 1, H', (I'.unpinned (pins := [])).weak (by rw [← hw8, wipe_length]) (fun j v e => ?_), T.keep _ _ _ st7 fun b hb o e => (pin' b hb o e).1, fun b hb => ?_, w'⟩
      · rw [← hw8] at e
        exact (wipe_some e).1
      · obtain ⟨o, e, _⟩ := T.obj _ _ st7 b hb
        exact (pin' b hb o e).2
    cases b with
    | false =>
      simp only [Bool.false_eq_true, if_false] at q9 ⊢
      exact fin I9 q9
    | true =>
      simp only [if_true] at q9 ⊢
      refine thnF (pk.run _ s9 σ8 H9 _ I9 q9) fun z s10 ⟨yk, H10, I10, r10, q10⟩ => ?_
      refine thnF (pv.run _ s10 σ8 H10 _ I10 q10) fun z2 s11 ⟨yv, H11, I11, r11, Hf, od, ps, kvs, kd, k, g, hz11, nx⟩ => ?_
      have g' : KAsk (X.blk s3 H3 scope ce fp) H11 Hf D od t ps kvs yk kd k := ⟨g.ob, g.sys, g.dis, g.ks, g.rk, g.rv, g.ky, g.ry⟩
      exact ka_dictSet (X := X.blk s3 H3 scope ce fp) hun I11 g' r10 r11 hz11 fun od' s12 di' I12 => fin I12 (nx od' di')
theorem pe_dcA {kx vx tg iter : Expr} {ifs : List Expr} {scope : Scope} {own : List (Str × Nat)} {pos : Pos} {wi : TI} {g : TG} {tt : TT} {tk tv : TE} (hun : X.A.units + 64 < cLine) (hc : X.calm = true) (hN : X.N.Nodup) (hi : PI X tg iter wi) (ok : BlkOk X.N X.env.scope scope own)
    (hg : ∀ (s : Shared) (H : Hp) (C : Addr) (cl : List (Str × Addr)) (fp : List Addr), PG (X.blk s H scope (compEnvC scope cl C X.env) fp) tg g) (ht : ∀ (s : Shared) (H : Hp) (C : Addr) (cl : List (Str × Addr)) (fp : List Addr), PTs (X.blk s H scope (compEnvC scope cl C X.env) fp) ifs tt)
    (hk : ∀ (s : Shared) (H : Hp) (C : Addr) (cl : List (Str × Addr)) (fp : List Addr), PE (X.blk s H scope (compEnvC scope cl C X.env) fp) kx tk)
    (he : ∀ (s : Shared) (H : Hp) (C : Addr) (cl : List (Str × Addr)) (fp : List Addr), PE (X.blk s H scope (compEnvC scope cl C X.env) fp) vx tv) (hs : ∀ x, foldedSetIterable iter X.env x = pure x) :
    PE X (.DictComp kx vx [⟨tg, iter, ifs, 0⟩] scope pos) (tDcA X t wi g tt tk tv (own.map (·.2))) := by
  refine ⟨fun pins s σ H Q I h => ?_⟩
  rw [arm_eval_DictComp]
  refine dc_coreA hun hc hN I hi ok hg ht hk he hs h fun D C s' m H' I' q hn f => ⟨m, hn, fun h'' sb => ?_⟩
  obtain ⟨g0, g1, g2, g3, g4, g5⟩ := f
  exact ⟨.ref D, H', I'.turned (t' := s'.toks) (fun b o hb e => (sb.2 b hb).trans e) g0 g1 g3 g4 g5, rfl, q⟩
/-- y = {.. for ..}, where the name is written before the block's frame goes -/
theorem ps_setDcA {i : Nat} {y : Str} {py : Pos} {kx vx tg iter : Expr} {ifs : List Expr} {scope : Scope} {own : List (Str × Nat)} {pos spos : Pos} {wi : TI} {g : TG} {tt : TT} {tk tv : TE} (hun : X.A.units + 64 < cLine) (hc : X.calm = true) (hN : X.N.Nodup) (hy : X.N[i]? = some y) (hyl : X.env.scope.names.lookup y = some .local)
    (hsw : swapsWith (.DictComp kx vx [⟨tg, iter, ifs, 0⟩] scope pos) (some (.Name y py)) spos.line X.env = pure true) (hi : PI X tg iter wi) (ok : BlkOk X.N X.env.scope scope own)
    (hg : ∀ (s : Shared) (H : Hp) (C : Addr) (cl : List (Str × Addr)) (fp : List Addr), PG (X.blk s H scope (compEnvC scope cl C X.env) fp) tg g) (ht : ∀ (s : Shared) (H : Hp) (C : Addr) (cl : List (Str × Addr)) (fp : List Addr), PTs (X.blk s H scope (compEnvC scope cl C X.env) fp) ifs tt)
    (hk : ∀ (s : Shared) (H : Hp) (C : Addr) (cl : List (Str × Addr)) (fp : List Addr), PE (X.blk s H scope (compEnvC scope cl C X.env) fp) kx tk)
    (he : ∀ (s : Shared) (H : Hp) (C : Addr) (cl : List (Str × Addr)) (fp : List Addr), PE (X.blk s H scope (compEnvC scope cl C X.env) fp) vx tv) (hs : ∀ x, foldedSetIterable iter X.env x = pure x) :
    PS X (.Assign [.Name y py] (.DictComp kx vx [⟨tg, iter, ifs, 0⟩] scope pos) spos) (tAsg (tDcA X t wi g tt tk tv (own.map (·.2))) (gName i)) := by
  refine ⟨fun pins s σ H D I h => ?_⟩
  rw [exec_Assign_Name_used _ _ _ _ hsw]
  refine wpAny_bind (wpAny_standAt (wpAny_bind ?_))
  show wpAny _ X.A (do let _ ← comprehension (.DictComp kx vx [⟨tg, iter, ifs, 0⟩] scope pos) scope X.env (firstIterPos [⟨tg, iter, ifs, 0⟩] pos) newDict false (eval iter X.env) (some (assign (.Name y py) X.env))) _ _ s
  have h : tDcA X t wi g tt tk tv (own.map (·.2)) σ H (fun x H1 => gName i x σ H1 D.nx) := h
  refine wpAny_bind (thn (dc_coreA (Qf := fun _ s' => SP X pins D .next s') hun hc hN I hi ok hg ht hk he hs h fun L C s' m H' I' q hn f => ?_) fun _ s' hq => wpAny_pure (wpAny_pure hq))
  show wpAny _ _ (assign (.Name y py) X.env (.ref L)) _ _ _
  refine wpAny_assign_Name (store_ok2 (v := V.ref L) I' hN hy (.inl hyl) rfl (fun s2 I2 ⟨a, sb, ha⟩ => ?_) (.inr hyl))
  obtain ⟨g0, g1, g2, g3, g4, g5⟩ := f
  have haC : C ≠ a := by
    rcases ha with z | z
    · rw [z]; exact g1
    · exact fun e => g4 y a z e.symm
  exact ⟨m, hn.sameBut sb haC, fun h3 sb3 => ⟨_, H', I2.turned (t' := s2.toks) (fun b o hb e => (sb3.2 b hb).trans e) g0 g1 g3 g4 g5, q⟩⟩
end
end Mir
set_option Elab.async false
set_option linter.all false
set_option maxRecDepth 100000
set_option maxHeartbeats 4000000
/-! Mir, part Df: dict comprehensions, as the evaluator sees them. -/
namespace Mir
open PySem L2 PyProof.Rows

section
variable {K : PySem.W.Frag} {mg : Str → Option Value} {w : Bool} {H Hf H' Hf' : Hp} {t : Bool} {kvs : List (D × D)} {a : Addr} {kd d : D} {k : NestedKey} {y z : V}
/-- an owned dict takes a pair -/
theorem own_dput (X : Cx) (h : ROwn X.K X.mg Hf H (.m t kvs) (.ref a) [a]) (sb : Same Hf H) (hk : keyOf t kd = some k) (ry : Rep X.K X.mg Hf y kd) (rz : Rep X.K X.mg Hf z d) : ∃ od ps, ps.length = kvs.length ∧ Hf a = none ∧ KAsk X H Hf a od t ps kvs y kd k ∧
    ∀ od', DIs t od' (setP ps k y z) → ROwn X.K X.mg Hf (upd H a (dOb a od')) (.m t (setD t kvs kd k d)) (.ref a) [a] := by
  rw [ROwn] at h
  obtain ⟨a', od, ps, e, _, hf, hH, hs, di, ks, rk, rv⟩ := h
  cases e
  have hl : ps.length = kvs.length := by have := congrArg List.length ks; simpa using this.symm
  refine ⟨od, ps, hl, hf, ⟨hH, hs, di, ks, rk.mono sb, rv, hk, ry.mono sb _ _⟩, fun od' di' => ?_⟩
  obtain ⟨s1, s2, s3⟩ := set_rel hk ks rk rv ry rz
  rw [ROwn]
  exact ⟨a, od', _, rfl, rfl, hf, upd_same, hs, di', s1, s2, s3⟩
theorem pairD_at {acc kvs : List (D × D)} {p : D} {ds : List D} (h : pairsD t acc (p :: ds) = some kvs) : ∃ acc', pairD t acc p = some acc' ∧ pairsD t acc' ds = some kvs := by
  rw [pairsD] at h
  cases e : pairD t acc p with
  | none => rw [e] at h; cases h
  | some acc' => rw [e] at h; exact ⟨acc', rfl, h⟩
theorem mkPair_at {acc acc' : List (D × D)} {x y : O} (h : pairD t acc (mkPair x y).data = some acc') : ∃ k, keyOf t x.data = some k ∧ acc' = setD t acc x.data k y.data := by
  unfold mkPair at h
  rw [O.data, pairD] at h
  cases e : keyOf t x.data with
  | none => rw [e] at h; cases h
  | some k => rw [e] at h; cases h; exact ⟨k, rfl, rfl⟩
theorem setD_len (kvs : List (D × D)) (kd : D) (k : NestedKey) (v : D) : (setD t kvs kd k v).length ≤ kvs.length + 1 := by
  unfold setD
  split <;> simp
end
section
variable {X : Cx} {Wx : WX} {sc scope : Scope} {cl : Cl} {bs fs : List Str} {n : Nat} {pos p apos tpos : Pos} {tg : Expr}
def turnD (cl : Cl) (cs : Es) (k v : E) (τ : Tau) : R (Option O) := (evalTests cl cs τ).andThen fun c τ => if c then (evalG cl false k τ).andThen fun y τ => (evalG cl false v τ).andThen fun z τ => .ok (some (mkPair y z)) τ else .ok none τ
theorem next_D {t : T} {vs : List Nat} {cs : Es} {k v : E} {y : Option O} {xs : List D} {τ : Tau} {P : List O → Tau → Prop} (h : RdN ((compL (setW t vs) (turnD cl cs k v) xs τ).andThen fun ys τ3 => .ok (consO y ys) τ3) P) : RdN (compL (setW t vs) (turnD cl cs k v) xs τ) (fun ys τ3 => P (consO y ys) τ3) := h.bind.imp fun _ _ q => q
theorem RdN.get {α : Type} {r : R α} {P : α → Tau → Prop} (h : RdN r P) : ∃ a τ, P a τ := by
  cases r with
  | ok a τ => exact ⟨a, τ, h⟩
  | ex x τ => exact h.elim
  | st => exact h.elim
/-- the block's state at a turn's beginning -/
def DcI (X : Cx) (cl : Cl) (t : Bool) (tg : T) (vs : List Nat) (cs : Es) (k v : E) (xs : List D) (σ : L2.St) (H1 Hf1 : Hp) (asw : Nat → List Addr) (a : Addr) (Q : VK) (i : Nat) (H : Hp) : Prop :=
  i ≤ xs.length ∧ ∃ τ Hf as kvs, Rel X.K X.mg (wipeT τ vs) (wipe σ vs) H Hf as ∧ ROwn X.K X.mg Hf H (.m t kvs) (.ref a) [a] ∧ ¬ Wof as a ∧ kvs.length ≤ i ∧
    Stp false (Wof asw) H1 Hf1 H Hf (fun c => Wof as c ∨ c ∈ [a]) ∧ RdN (compL (setW tg vs) (turnD cl cs k v) (xs.drop i) τ) (fun os τ2 => ∃ kvs', pairsD t kvs (O.datas os) = some kvs' ∧ ∀ H' Hf' as', Rel X.K X.mg (wipeT τ2 vs) (wipe σ vs) H' Hf' as' → ROwn X.K X.mg Hf' H' (.m t kvs') (.ref a) [a] → ¬ Wof as' a →
      Stp false (Wof asw) H1 Hf1 H' Hf' (fun c => Wof as' c ∨ c ∈ [a]) → Q (.ref a) H')
theorem dcomp_rd {t : Bool} {tg : T} {vs : List Nat} {it : Mir.It} {cs : Es} {k v : E} {w b0 : Bool} (ht : ∀ i ∈ tg.vars, i ∈ vs) (hp1 : (it.pure || w) = true) : ∀ σ H Q,
    RdE X Wx cl w b0 (.dcomp t tg vs it cs k v) σ H Q → tDcA X t (RdI X Wx cl w true it) (RdG X.K X.mg tg) (RdTs X WxF cl false cs) (RdE X WxF cl false false k) (RdE X WxF cl false false v) vs σ H Q := fun σ H Q q => by
  obtain ⟨τ, Hf, as, rel, q⟩ := q
  rw [evalG] at q
  refine ⟨τ, Hf, as, rel, (RdM.bind q).imp fun xs τ1 q => ?_⟩
  intro J H1 Hf1 as1 r1 s1 hJ hsz
  intro a od ha hsys di0
  by_cases hs : (it.isSeq || decide (xs.length ≤ lim)) = false
  · rw [if_pos hs] at q; exact q.elim
  rw [if_neg hs] at q
  have hlen : xs.length ≤ sizeLine := by
    cases hq : it.isSeq with
    | true => exact hsz hq
    | false =>
      rw [hq] at hs
      have : xs.length ≤ lim := by simpa using hs
      have l2 : lim ≤ sizeLine := by rw [sizeLine_eq]; decide
      omega
  obtain ⟨asw, rw0, hw01, hw02⟩ := r1.wipe2 vs
  have wsub : ∀ c, Wof asw c → Wof as1 c := fun c ⟨j, hj⟩ => by
    by_cases hm : j ∈ vs
    · rw [hw01 j hm] at hj; cases hj
    · rw [hw02 j hm] at hj; exact ⟨j, hj⟩
  have q0 : RdN (compL (setW tg vs) (turnD cl cs k v) xs (wipeT τ1 vs)) (fun os τ2 => ∃ kvs', pairsD t [] (O.datas os) = some kvs' ∧ PostE X.K X.mg b0 w σ H Hf as Q (.m t kvs') (backT τ1 τ2 vs)) := by
    have z := RdM.bind q
    refine (noEx_at z).imp fun os τ2 q => ?_
    cases e : pairsD t [] (O.datas os) with
    | none => rw [e] at q; exact q.elim
    | some kvs' => rw [e] at q; exact ⟨kvs', rfl, q⟩
  -- the end
  have fin : ∀ kvs' τ2 H' Hf' as', PostE X.K X.mg b0 w σ H Hf as Q (.m t kvs') (backT τ1 τ2 vs) → Rel X.K X.mg (wipeT τ2 vs) (wipe σ vs) H' Hf' as' → ROwn X.K X.mg Hf' H' (.m t kvs') (.ref a) [a] → ¬ Wof as' a →
      Stp false (Wof asw) H1 Hf1 H' Hf' (fun c => Wof as' c ∨ c ∈ [a]) → Q (.ref a) H' := by
    intro kvs' τ2 H' Hf' as' q r2 ow dj st
    obtain ⟨as2, r3, dj3, sub3⟩ := r1.back r2 hw01 hw02 st (ao := [a]) (fun c hc z => by rw [List.mem_singleton] at hc; subst hc; exact dj z)
    refine q (.ref a) H' Hf' as2 [a] r3 ⟨ow.vw, fun _ => ⟨ow, by simp, dj3⟩, ?_⟩
    have st2 := s1.trans (fun _ z => z) (st.wid (w := w) wsub (fun z => by cases z))
    refine ⟨st2.keep, st2.grow, st2.froz, fun c z => ?_⟩
    have own1 : ∀ c, (Wof as' c ∨ c ∈ [a]) → Wof as c ∨ H c = none := fun c z => st2.own c z
    rcases z with z | z
    · rcases sub3 c z with z | z
      · exact s1.own c z
      · exact own1 c (.inl z)
    · exact own1 c (.inr z.2)
  refine ⟨fun i m H => m = xs.length - i ∧ DcI X cl t tg vs cs k v xs σ H1 Hf1 asw a Q i H, ⟨xs.length, by simp, ?_⟩, ?_⟩
  · have hfa : Hf1 a = none := by
      cases e : Hf1 a with
      | none => rfl
      | some u => rw [r1.sub _ _ e] at ha; cases ha
    have na : ∀ c, Wof asw c → c ≠ a := fun c hc e => by
      obtain ⟨_, ws, e2⟩ := rw0.at hc
      rw [e, ha] at e2; cases e2
    refine ⟨Nat.zero_le _, wipeT τ1 vs, Hf1, asw, [], ?_, by rw [ROwn]; exact ⟨a, od, [], rfl, rfl, hfa, upd_same, hsys, di0, rfl, .nil, .nil⟩, fun z => na a z rfl, by simp, ?_, ?_⟩
    · have e : wipeT (wipeT τ1 vs) vs = wipeT τ1 vs := wipeT_wipe
      rw [e]
      exact rw0.new ha
    · exact Stp.new ha fun c z => z.imp id fun z => List.mem_singleton.mp z
    · rw [List.drop_zero]
      exact q0.imp fun os τ2 ⟨kvs', e, q⟩ => ⟨kvs', e, fun H' Hf' as' r2 ow dj st => fin kvs' τ2 H' Hf' as' q r2 ow dj st⟩
  · rintro i m H2 ⟨rfl, hi, τ2, Hf2, as2, kvs, r2, ow, dj, hol, st, qn⟩
    have later : true = true → Same H1 H2 := fun _ c u e => st.keep c u e fun z => by cases z
    have hWk := hJ H2 Hf2 st.grow r2.sub later
    by_cases hlt : i < xs.length
    · refine .inr ⟨(hWk.1 i _ (List.getElem?_eq_getElem hlt)).1, DcI X cl t tg vs cs k v xs σ H1 Hf1 asw a Q (i + 1), fun H' h' => ⟨xs.length - (i + 1), by omega, rfl, h'⟩, fun x H3 y => ?_⟩
      have hy := (hWk.1 i _ (List.getElem?_eq_getElem hlt)).2 x H3 y
      obtain ⟨Hf3, r3, rp, st3⟩ := hy.step r2
      have e : xs.drop i = xs[i] :: xs.drop (i + 1) := List.drop_eq_getElem_cons hlt
      rw [e, compL] at qn
      cases es : setW tg vs xs[i] τ2 with
      | none => rw [es] at qn; exact qn.elim
      | some τ3 =>
        rw [es] at qn
        refine ⟨_, Hf3, as2, xs[i], τ3, r3, rp, es, fun σ4 as4 r4 w4 u4 => ⟨?_, ?_⟩⟩
        · rw [u4.wipe ht, wipe_wipe]
        · have dja : ∀ c ∈ [a], ¬ Wof as2 c := fun c hc z => by rw [List.mem_singleton] at hc; subst hc; exact dj z
          have ow3 : ROwn X.K X.mg Hf3 H3 (.m t kvs) (.ref a) [a] := ow.after dja st3
          have dj4 : ∀ c ∈ [a], ¬ Wof as4 c := fun c hc z => dja c hc (w4 c z)
          have qf : RdN (turnD cl cs k v τ3) _ := RdN.bind qn
          unfold turnD at qf
          have qt := RdN.bind qf
          refine ⟨τ3, Hf3, as4, r4, RdN.m (qt.imp fun c τ5 q => ?_)⟩
          intro H5 Hf5 as5 r5 s5
          have st5 : Stp false (Wof asw) H1 Hf1 H5 Hf5 (fun c => Wof as5 c ∨ c ∈ [a]) := compStp st w4 st3 s5
          have ow5 : ROwn X.K X.mg Hf5 H5 (.m t kvs) (.ref a) [a] := ow3.after dj4 s5
          have dj5 : ∀ c ∈ [a], ¬ Wof as5 c := fun c hc z => by
            rcases s5.own c z with z | z
            · exact dj4 c hc z
            · obtain ⟨ws, e, _⟩ := ow3.atO _ _ _ c hc
              rw [e] at z; cases z
          cases c with
          | false =>
            rw [if_neg Bool.false_ne_true] at q ⊢
            have q := next_D (y := none) q
            obtain ⟨as6, r6, h61, h62⟩ := r5.wipe2 vs
            have w6 : ∀ c, Wof as6 c → Wof as5 c := fun c ⟨j, hj⟩ => by
              by_cases hm : j ∈ vs
              · rw [h61 j hm] at hj; cases hj
              · rw [h62 j hm] at hj; exact ⟨j, hj⟩
            rw [u4.wipe ht, wipe_wipe] at r6
            exact ⟨hlt, τ5, Hf5, as6, kvs, r6, ow5, fun z => dj5 a List.mem_cons_self (w6 a z), Nat.le_succ_of_le hol, st5.sub fun c z => z.imp (w6 c) id, q⟩
          | true =>
            rw [if_pos rfl] at q ⊢
            have q := RdN.bind q
            refine ⟨τ5, Hf5, as5, r5, RdN.m (q.imp fun o1 τ6 q => ?_)⟩
            intro y H6 Hf6 as6 ao6 r6 s6
            obtain ⟨r6', rp6, _, st6⟩ := s6.freeze r6
            have ow6 : ROwn X.K X.mg (frz Hf6 H6 ao6) H6 (.m t kvs) (.ref a) [a] := ow5.after dj5 st6
            have dj6 : ∀ c ∈ [a], ¬ Wof as6 c := fun c hc z => by
              rcases st6.own c z with z | z
              · exact dj5 c hc z
              · obtain ⟨ws, e, _⟩ := ow5.atO _ _ _ c hc
                rw [e] at z; cases z
            have q := RdN.bind q
            refine ⟨τ6, _, as6, r6', RdN.m (q.imp fun o2 τ7 q => ?_)⟩
            intro z H7 Hf7 as7 ao7 r7 s7
            obtain ⟨r7', rp7, _, st7⟩ := s7.freeze r7
            have ow7 : ROwn X.K X.mg (frz Hf7 H7 ao7) H7 (.m t kvs) (.ref a) [a] := ow6.after dj6 st7
            have dj7 : ∀ c ∈ [a], ¬ Wof as7 c := fun c hc z => by
              rcases st7.own c z with z | z
              · exact dj6 c hc z
              · obtain ⟨ws, e, _⟩ := ow6.atO _ _ _ c hc
                rw [e] at z; cases z
            have q := next_D (y := some (mkPair o1 o2)) q
            obtain ⟨ys, τz, kvs', ek, _⟩ := q.get
            rw [consO, O.datas] at ek
            obtain ⟨acc', e1, _⟩ := pairD_at ek
            obtain ⟨kk, hk, ea⟩ := mkPair_at e1
            obtain ⟨od2, ps, hl, hfa, g, hown⟩ := own_dput X ow7 r7'.sub hk (rp6.mono st7.grow _ _) rp7
            refine ⟨_, od2, ps, kvs, o1.data, kk, g, by omega, fun od' di' => ?_⟩
            have ow8 := hown od' di'
            obtain ⟨as8, r8, h81, h82⟩ := r7'.wipe2 vs
            have w8 : ∀ c, Wof as8 c → Wof as7 c := fun c ⟨j, hj⟩ => by
              by_cases hm : j ∈ vs
              · rw [h81 j hm] at hj; cases hj
              · rw [h82 j hm] at hj; exact ⟨j, hj⟩
            rw [u4.wipe ht, wipe_wipe] at r8
            have na : ∀ c, Wof as8 c → c ≠ a := fun c hc e => dj7 a List.mem_cons_self (e ▸ w8 c hc)
            have r9 : Rel X.K X.mg (wipeT τ7 vs) (wipe σ vs) (upd H7 a (dOb a od')) (frz Hf7 H7 ao7) as8 := r8.step (fun b u e => by rw [upd_ne (fun z => by rw [z, hfa] at e; cases e)]; exact r8.sub _ _ e) (Same.refl _) fun c ks hc e => ⟨by rw [upd_ne (na c hc)]; exact e, (r8.at hc).1⟩
            have st8 : Stp false (Wof asw) H1 Hf1 H7 (frz Hf7 H7 ao7) (fun c => Wof as7 c ∨ c ∈ [a]) := by
              have d6 := st5.trans (W1' := Wof as5) (fun _ z => .inl z) st6
              have d7 := d6.trans (W1' := Wof as6) (fun _ z => z) st7
              exact ⟨d7.keep, d7.grow, d7.froz, fun c z => z.elim (fun z => d7.own c z) fun z => st5.own c (.inr z)⟩
            refine ⟨hlt, τ7, _, as8, _, r9, ow8, fun z => dj7 a List.mem_cons_self (w8 a z), by have := setD_len (t := t) kvs o1.data kk o2.data; omega, ?_, ?_⟩
            · refine ⟨fun c u e hn => ?_, st8.grow, st8.froz, fun c z => st8.own c (z.imp (w8 c) id)⟩
              rw [upd_ne (fun z => ?_)]
              · exact st8.keep c u e hn
              · subst z
                rw [ha] at e; cases e
            · refine q.imp fun ys τ8 ⟨kvs', ek, q⟩ => ⟨kvs', ?_, q⟩
              rw [consO, O.datas] at ek
              obtain ⟨acc', e1, e2⟩ := pairD_at ek
              obtain ⟨kk', hk', ea⟩ := mkPair_at e1
              rw [hk] at hk'
              cases hk'
              rw [← ea]
              exact e2
    · have e : i = xs.length := by omega
      subst e
      refine .inl ⟨hWk.2 _ (Nat.le_refl _), ?_⟩
      rw [List.drop_length, compL] at qn
      obtain ⟨kvs', ek, qn⟩ := qn
      rw [O.datas, pairsD] at ek
      cases ek
      exact qn H2 Hf2 as2 r2 ow dj st
end
end Mir
set_option Elab.async false
set_option linter.all false
set_option maxRecDepth 100000
set_option maxHeartbeats 4000000
/-! Mir, part Dg: dict(a list of pairs). -/
namespace Mir
open PySem L2 PyProof.Rows

def setE (ps : List Ent) (e : Ent) : List Ent := setP ps e.1 e.2.1 e.2.2
/-- a pair as it stands in the heap, and what it is -/
def EntAt (P : Program) (w : World) (h : Heap) (t : Bool) (e : Ent) (p : Value × Value) : Prop :=
  (isTupK e.1 = t ∧ pureK e.1 = true ∧ e.1.depth ≤ 8) ∧ RelV e.2.1 p.1 ∧ RelV e.2.2 p.2 ∧ (t = false → ∃ i tk, e.1 = .num i ∧ e.2.1 = .int i ∧ p.1 = .int i tk) ∧ (t = true → ∃ b, e.2.1 = .ref b ∧ p.1 = .ref b ∧ (nestedKind P w).is h e.1 b)
section
variable {K : PySem.W.Frag} {mg : Str → Option Value} {Hf : Hp} {t : Bool}
/-- data and entries that tell the same dict -/
structure KI (K : PySem.W.Frag) (mg : Str → Option Value) (Hf : Hp) (t : Bool) (kvs : List (D × D)) (ps : List Ent) : Prop where
  ks : kvs.map (fun p => keyOf t p.1) = ps.map (fun p => some p.1)
  rk : Reps K mg Hf (ps.map (·.2.1)) (kvs.map (·.1))
  rv : Reps K mg Hf (ps.map (·.2.2)) (kvs.map (·.2))
end
section
variable {X : Cx} {pins : List (Addr × Obj)} {σ : L2.St} {H Hf : Hp} {s : Shared} {t : Bool}
theorem items_of (I : Inv X pins σ H s) (sb : Same Hf H) : ∀ {vs : List V} {ds : List D} {us : List Value} {acc out : List (D × D)} {ps : List Ent}, Reps X.K X.mg Hf vs ds → Vals vs us → pairsD t acc ds = some out → KI X.K X.mg Hf t acc ps →
    ∃ (es : List Ent) (prs : List (Value × Value)) (Ts : List Addr), us = Ts.map Value.ref ∧ Paired (fun T p => IsTup s.heap T #[p.1, p.2]) Ts prs ∧ Paired (EntAt X.prog X.w s.heap t) es prs ∧ es.length = ds.length ∧ KI X.K X.mg Hf t out (es.foldl setE ps)
  | _, _, _, acc, out, ps, .nil, r, h, k => by
    cases r
    rw [pairsD] at h
    cases h
    exact ⟨[], [], [], rfl, .nil, .nil, rfl, k⟩
  | _, _, _, acc, out, ps, .cons (d := d) (ds := ds) h1 ht, r, h, k => by
    obtain ⟨acc', e1, e2⟩ := pairD_at h
    cases r with
    | cons r1 rt =>
      unfold pairD at e1
      split at e1
      · rename_i kd v
        obtain ⟨kk, hk, ea⟩ := Option.map_eq_some_iff.mp e1
        cases h1 with
        | tup hs ha =>
          cases ha with
          | cons ra rb =>
            cases rb with
            | cons rb rc =>
              cases rc
              cases r1
              rename_i T y z
              obtain ⟨its, rv, hT, _⟩ := I.tuple (Same.seqT sb hs)
              cases rv with
              | cons q1 q2 =>
                cases q2 with
                | cons q2 q3 =>
                  cases q3
                  rename_i u1 u2
                  obtain ⟨s1, s2, s3⟩ := set_rel hk k.ks k.rk k.rv ra rb
                  rw [ea] at s1 s2 s3
                  obtain ⟨es, prs, Ts, i1, i2, i3, i4, i5⟩ := items_of I sb ht rt e2 ⟨s1, s2, s3⟩
                  obtain ⟨a1, a2, a3, a4⟩ := keyOf_at hk
                  have ray := ra.mono sb _ _
                  refine ⟨(kk, y, z) :: es, (u1, u2) :: prs, T :: Ts, by rw [i1]; rfl, .cons hT i2, .cons ⟨⟨a2, a3, a4⟩, q1, q2, fun et => ?_, fun et => ?_⟩ i3, by rw [List.length_cons, List.length_cons, i4], i5⟩
                  · subst et
                    obtain ⟨i, tk, b1, b2, b3⟩ := key_int ray hk q1
                    exact ⟨i, tk, b2, b1, b3⟩
                  · subst et
                    obtain ⟨b, b1, b2, b3⟩ := key_ref I ray hk q1
                    exact ⟨b, b1, b2, b3⟩
      · cases e1
theorem fold_kd : ∀ {es ps : List Ent}, (∀ e ∈ es, isTupK e.1 = t ∧ pureK e.1 = true ∧ e.1.depth ≤ 8) → (∀ p ∈ ps, isTupK p.1 = t ∧ pureK p.1 = true ∧ p.1.depth ≤ 8) → ∀ p ∈ es.foldl setE ps, isTupK p.1 = t ∧ pureK p.1 = true ∧ p.1.depth ≤ 8
  | [], ps, _, h => h
  | e :: es, ps, h1, h2 => by
    rw [List.foldl_cons]
    exact fold_kd (fun x hx => h1 x (List.mem_cons_of_mem _ hx)) (setP_kd h2 (h1 e List.mem_cons_self))
theorem fold_len : ∀ (es ps : List Ent), (es.foldl setE ps).length ≤ ps.length + es.length
  | [], ps => by simp
  | e :: es, ps => by
    rw [List.foldl_cons, List.length_cons]
    have h1 := fold_len es (setE ps e)
    have h2 : (setE ps e).length ≤ ps.length + 1 := setP_len _ _ _ _
    omega
theorem ent_kd {P : Program} {w : World} {h : Heap} : ∀ {es : List Ent} {prs : List (Value × Value)}, Paired (EntAt P w h t) es prs → ∀ e ∈ es, isTupK e.1 = t ∧ pureK e.1 = true ∧ e.1.depth ≤ 8
  | _, _, .nil, e, he => by cases he
  | _, _, .cons h1 ht, e, he => by
    rcases List.mem_cons.mp he with z | z
    · rw [z]; exact h1.1
    · exact ent_kd ht e z
theorem ent_int {P : Program} {w : World} {h : Heap} : ∀ {es : List Ent} {prs : List (Value × Value)}, Paired (EntAt P w h false) es prs → ∃ kvs : List (Int × Value), kvs.length = prs.length ∧ (∀ (j : Nat) (k v : Value), prs[j]? = some (k, v) → ∃ i, kvs[j]? = some (i, v) ∧ (intKind P w).is i k = true) ∧
    ∀ (ps : List Ent) (vs : List (Int × Value)), Paired IntP ps vs → Paired IntP (es.foldl setE ps) (merged vs kvs)
  | _, _, .nil => ⟨[], rfl, (fun j k v e => by simp at e), fun ps vs h => h⟩
  | _, _, .cons (a := e) (b := p) h1 ht => by
    obtain ⟨kvs, a1, a2, a3⟩ := ent_int ht
    obtain ⟨i, tk, e1, e2, e3⟩ := h1.2.2.2.1 rfl
    refine ⟨(i, p.2) :: kvs, by rw [List.length_cons, List.length_cons, a1], fun j k v hj => ?_, fun ps vs h => ?_⟩
    · cases j with
      | zero =>
        have hj : p = (k, v) := by simpa using hj
        subst hj
        refine ⟨i, rfl, ?_⟩
        have e3 : k = .int i tk := e3
        rw [e3]; exact isInt_k _ _ _ _
      | succ j => exact a2 j k v (by simpa using hj)
    · rw [List.foldl_cons]
      show Paired IntP _ (merged (stored vs i p.2) kvs)
      refine a3 _ _ ?_
      unfold setE
      rw [e1, e2]
      exact set_int h h1.2.2.1
theorem ent_ref {P : Program} {w : World} {h : Heap} : ∀ {es : List Ent} {prs : List (Value × Value)}, Paired (EntAt P w h true) es prs → ∃ xs : List (NestedKey × Addr × Value), xs.length = prs.length ∧ (∀ (j : Nat) (k v : Value), prs[j]? = some (k, v) → ∃ n b, xs[j]? = some (n, b, v) ∧ k = .ref b) ∧
    (∀ x ∈ xs, (nestedKind P w).is h x.1 x.2.1) ∧ ∀ (ps : List Ent) (vs : List (NestedKey × Addr × Value)), Paired RefP ps vs → Paired RefP (es.foldl setE ps) (storedAllH vs xs)
  | _, _, .nil => ⟨[], rfl, (fun j k v e => by simp at e), (fun x hx => by cases hx), fun ps vs h => h⟩
  | _, _, .cons (a := e) (b := p) h1 ht => by
    obtain ⟨xs, a1, a2, a3, a4⟩ := ent_ref ht
    obtain ⟨b, e1, e2, e3⟩ := h1.2.2.2.2 rfl
    refine ⟨(e.1, b, p.2) :: xs, by rw [List.length_cons, List.length_cons, a1], fun j k v hj => ?_, fun x hx => ?_, fun ps vs h => ?_⟩
    · cases j with
      | zero =>
        have hj : p = (k, v) := by simpa using hj
        subst hj
        exact ⟨e.1, b, rfl, e2⟩
      | succ j => exact a2 j k v (by simpa using hj)
    · rcases List.mem_cons.mp hx with z | z
      · rw [z]; exact e3
      · exact a3 x z
    · rw [List.foldl_cons]
      show Paired RefP _ (storedAllH (storedH vs e.1 b p.2) xs)
      refine a4 _ _ ?_
      unfold setE
      rw [e1]
      exact set_ref h h1.2.2.1
end
section
variable {X : Cx}
theorem tup_of_il {o : O} {ds : List D} (hf : o.flat = true) (hd : o.data = .list ds) : itemsO o = some ds ∧ isTup o = false := by
  cases o with
  | d x =>
    rw [O.data] at hd
    subst hd
    exact ⟨rfl, rfl⟩
  | l os =>
    rw [O.data] at hd
    injection hd with hd
    have hf : os.all O.isD = true := hf
    refine ⟨?_, ?_⟩
    · rw [itemsO, if_pos hf, hd]
    · unfold isTup
      rw [O.data]
  | m t kvs =>
    rw [O.data] at hd
    cases hd
theorem call_dictA (hcalm : X.calm = true) (hu : X.A.units + 64 < cLine) : CallR X (.type "dict") (fun xs H Q => ∃ (a : Addr) (vs : List V) (ds : List D) (Hf : Hp) (t : Bool) (out : List (D × D)), xs = [.ref a] ∧ Same Hf H ∧ SqL X.K H a vs ∧ Reps X.K X.mg Hf vs ds ∧ pairsD t [] ds = some out ∧
    ∀ p od ps, H p = none → (p == sysModules) = false → DIs t od ps → KI X.K X.mg Hf t out ps → Q (.ref p) (upd H p (dOb p od))) := by
  intro pins s σ H xs us Q I r q
  obtain ⟨a, vs, ds, Hf, t, out, ex, sb, hq, rp, hp, q⟩ := q
  subst ex
  obtain ⟨u, eu, rx⟩ := vals1 r
  subst eu
  cases rx
  obtain ⟨its, rv, pl, hz⟩ := I.list hq
  obtain ⟨es, prs, Ts, i1, i2, i3, i4, i5⟩ := items_of I sb rp rv hp (ps := []) ⟨rfl, .nil, .nil⟩
  subst i1
  obtain ⟨o, n, ho, hc, hd, hdat⟩ := pl
  have lT : Ts.length = prs.length := Paired.length i2
  have lE : es.length = prs.length := Paired.length i3
  have lV : vs.length = ds.length := rp.length
  have ok : PlainSeq "list" s.heap a (Ts.map Value.ref).toArray ∧ PairItems s.heap (Ts.map Value.ref).toArray (fun j => (Ts[j]?).getD 0) prs := by
    refine ⟨⟨o, n, ho, hc, hd, hdat⟩, by simp [lT], fun j k v hj => ?_⟩
    have hl : j < Ts.length := by rw [lT]; exact (List.getElem?_eq_some_iff.mp hj).1
    obtain ⟨p, hp1, hp2⟩ := paired_get i2 (List.getElem?_eq_getElem hl)
    rw [hj] at hp1
    cases hp1
    refine ⟨by simp [hl], ?_⟩
    show PairAt s.heap (Ts[j]?.getD 0) k v
    rw [List.getElem?_eq_getElem hl]
    exact .inl hp2
  have hsz : prs.length ≤ sizeLine := by omega
  have hm : (s.heap.objs.size == sysModules) = false := beq_eq_false_iff_ne.mpr (Nat.ne_of_gt I.big)
  have kd := fold_kd (ps := []) (ent_kd i3) (fun p hp => by cases hp)
  have fl : (es.foldl setE []).length ≤ sizeLine := by have := fold_len es []; simp only [List.length_nil, Nat.zero_add] at this; omega
  cases t with
  | false =>
    obtain ⟨kvs, a1, a2, a3⟩ := ent_int i3
    refine PySem.call_dict_pairs (knd := intKind X.prog X.w) (kvs := kvs) (PairArg.list a _ _ prs) (I.ok.hd hcalm) ok ⟨a1, fun j k v hj => a2 j k v hj⟩ hsz fun h' tk hd' hk => ?_
    obtain ⟨od, hod, di⟩ := dis_of (P := X.prog) (w := X.w) (t := false) ⟨_, a3 [] [] .nil, hd'⟩ kd fl
    exact ⟨.ref s.heap.objs.size, _, I.laid (t' := tk) (o := dOb s.heap.objs.size od) (fun b o e => hk b o (by simp) e) (Nat.le_refl _) (dOb_ok hod), rfl, q _ od _ (I.hok.fresh (Nat.le_refl _)) hm di i5⟩
  | true =>
    obtain ⟨xs, a1, a2, a3, a4⟩ := ent_ref i3
    refine PySem.call_dict_pairsH (knd := nestedKind X.prog X.w) (ps := xs) (PairArg.list a _ _ prs) (I.ok.hd hcalm) (by show X.A.units + 1 + 1 + 8 < cLine; omega) ok ⟨a1, fun j k v hj => a2 j k v hj⟩ (fun h' hk x hx => nestedKind_stays.stays (fun b o vs n e _ => hk b o (Nat.ne_of_lt (Heap.lt_size e)) (by simp) e) (a3 x hx)) hsz fun h' tk hd' hk => ?_
    obtain ⟨od, hod, di⟩ := dis_of (P := X.prog) (w := X.w) (t := true) ⟨_, a4 [] [] .nil, hd'⟩ kd fl
    exact ⟨.ref s.heap.objs.size, _, I.laid (t' := tk) (o := dOb s.heap.objs.size od) (fun b o e => hk b o (by simp) e) (Nat.le_refl _) (dOb_ok hod), rfl, q _ od _ (I.hok.fresh (Nat.le_refl _)) hm di i5⟩
end
section
variable {X : Cx} {Wx : WX} {sc : Scope} {cl : Cl} {bs fs : List Str} {n : Nat} {pos p : Pos} {t : Bool} {a : E} {e : Expr} {x : Str}
theorem boot_dict : bootBuiltins "dict" = some (.type "dict") := by decide +kernel
theorem dof_at {o r : O} (h : dofF t o = some r) : ∃ ds out, o.flat = true ∧ o.data = .list ds ∧ pairsD t [] ds = some out ∧ r = .m t out := by
  unfold dofF at h
  split at h
  · rename_i ds hf hd
    split at h
    · obtain ⟨out, h1, h2⟩ := Option.map_eq_some_iff.mp h
      exact ⟨ds, out, hf, hd, h1, h2.symm⟩
    · cases h
  · cases h
theorem snd_dof (C : Ctx X Wx sc) (G : GOk X cl bs fs n) (hx : x = "dict") (hin : x ∈ bs) (hg : glB sc x = true) (ho : okName x = true) (hs : notStar e = true) (ha : Snd X Wx cl a e) : Snd X Wx cl (.dof t a) (.Call (.Name x p) [e] [] pos) := fun w b hp => by
  obtain ⟨h1, h2, h3⟩ := okName_at ho
  have hm := G.bl x hin
  have hgl := C.gl hg
  subst hx
  refine (pe_callTy (call_dictA C.calm G.room.units) hgl hm boot_dict (pa_cons (ha w true (by simpa [E.pure] using hp)) pa_nil (star_eq hs)) h3 h1 (star_eq hs) rfl).imp fun σ H Q q => ?_
  obtain ⟨τ, Hf, as, rel, q⟩ := q
  rw [evalG] at q
  refine ⟨τ, Hf, as, rel, q.bind.imp fun o τ1 q => ?_⟩
  intro v H1 Hf1 as1 ao r s
  obtain ⟨o2, e2, q⟩ := ofO_at q
  obtain ⟨ds, out, hf, hd, hpd, rfl⟩ := dof_at e2
  obtain ⟨hi, ht⟩ := tup_of_il hf hd
  obtain ⟨l, vs, rfl, sq⟩ := vw_sq r.sub s.1 hi
  rw [ht] at sq
  refine ⟨l, vs, ds, Hf1, t, out, rfl, r.sub, sq.li (Same.refl _) r.sub (fun _ => Same.refl _), sq.1, hpd, fun p od ps hp' hs' di ki => ?_⟩
  have hfp : Hf1 p = none := by
    cases e : Hf1 p with
    | none => rfl
    | some u => rw [r.sub _ _ e] at hp'; cases hp'
  have st : Stp w (Wof as) H Hf H1 Hf1 (Wof as1) := s.stp
  have q := PostE.from q st
  refine q _ _ _ _ [p] (r.new (o := dOb p od) hp') ⟨?_, fun _ => ⟨?_, by simp, fun c hc z => ?_⟩, Stp.new hp' fun c q => q.elim .inl fun z => .inr (by simpa using z.2)⟩
  · rw [RVw]
    exact ⟨p, od, ps, rfl, upd_same, hs', di, ki.ks, ki.rk, ki.rv⟩
  · rw [ROwn]
    exact ⟨p, od, ps, rfl, rfl, hfp, upd_same, hs', di, ki.ks, ki.rk, ki.rv⟩
  · rw [List.mem_singleton] at hc
    subst hc
    obtain ⟨_, ws, e⟩ := r.at z
    rw [hp'] at e; cases e
end
end Mir
set_option Elab.async false
set_option linter.all false
set_option maxRecDepth 100000
set_option maxHeartbeats 4000000
/-! Mir, part Dh: == of dicts. -/
namespace Mir
open PySem L2 PyProof.Rows

/-- what a look-up tells of the entries -/
def FindIs (ps : List Ent) (k : NestedKey) : Option Nat → Prop
  | none => ∀ (j : Nat) (q : Ent), ps[j]? = some q → ¬ q.1 = k
  | some j => ∃ q, ps[j]? = some q ∧ q.1 = k
theorem valP_none {k : NestedKey} : ∀ {ps : List Ent}, FindIs ps k none → valP ps k = none
  | [], _ => rfl
  | p :: ps, h => by
    rw [valP_cons, if_neg (h 0 p rfl)]
    exact valP_none fun j q e => h (j + 1) q (by simpa using e)
theorem valP_at {k : NestedKey} : ∀ {ps : List Ent} {j : Nat} {q : Ent}, (ps.map (·.1)).Nodup → ps[j]? = some q → q.1 = k → valP ps k = some q.2.2
  | [], j, q, _, h, _ => by simp at h
  | p :: ps, 0, q, _, h, e => by
    have : p = q := by simpa using h
    subst this
    rw [valP_cons, if_pos e]
  | p :: ps, j + 1, q, nd, h, e => by
    rw [List.map_cons, List.nodup_cons] at nd
    have h : ps[j]? = some q := by simpa using h
    rw [valP_cons, if_neg fun e2 => nd.1 (by rw [e2, ← e]; exact List.mem_map.mpr ⟨q, List.mem_of_getElem? h, rfl⟩)]
    exact valP_at nd.2 h e
/-- a dict that is seen, its object known -/
structure DSee (X : Cx) (H Hf : Hp) (a : Addr) (od : Obj) (t : Bool) (ps : List Ent) (kvs : List (D × D)) : Prop where
  ob : H a = some (dOb a od)
  sys : (a == sysModules) = false
  dis : DIs t od ps
  ks : kvs.map (fun p => keyOf t p.1) = ps.map (fun p => some p.1)
  rk : Reps X.K X.mg H (ps.map (·.2.1)) (kvs.map (·.1))
  rv : Reps X.K X.mg H (ps.map (·.2.2)) (kvs.map (·.2))
section
variable {X : Cx} {pins : List (Addr × Obj)} {σ : L2.St} {H Hf : Hp} {s : Shared} {t : Bool} {a b : Addr} {oda odb : Obj} {ps ps2 : List Ent} {kvs kvs2 : List (D × D)} {A : Around} {E : Value → Shared → Prop}
theorem see_of {x : V} (h : RVw X.K X.mg Hf H (.m t kvs) x) (sb : Same Hf H) : ∃ a od ps, x = .ref a ∧ DSee X H Hf a od t ps kvs := by
  rw [RVw] at h
  obtain ⟨a, od, ps, e, h1, h2, h3, h4, h5, h6⟩ := h
  exact ⟨a, od, ps, e, h1, h2, h3, h4, h5.mono sb, h6.mono sb⟩
theorem ka_find {y : V} {kd : D} {k : NestedKey} {u : Value} {Q : Option Nat → Shared → Prop} (hu : A.units + 48 < cLine) (I : Inv X pins σ H s) (g : DSee X H Hf b odb t ps2 kvs2) (hk : keyOf t kd = some k) (ry : Rep X.K X.mg H y kd) (rv : RelV y u)
    (h : ∀ o, FindIs ps2 k o → Q o s) : wpAny (model X.prog X.w) A (dictFind b u (hashK k)) Q E s := by
  have dt := dat_of I g.ob g.dis g.ks g.rk
  cases t with
  | false =>
    obtain ⟨i, tk, rfl, rfl, rfl⟩ := key_int ry hk rv
    obtain ⟨vs, hp, o, es, ep, h1, h2, h3, h4, h5, h6⟩ := dt
    have isk := isInt_k X.prog X.w i tk
    have find := wpAny_dictFind_of (A := A) (E := E) (Q := Q) isk h1 h3 h4 (h _ ?_)
    · exact find
    · have hl : ps2.length = es.size := by rw [Paired.length hp, ← h5.length]; exact Array.length_toList
      cases hj : es.findIdx? fun e => (intKind X.prog X.w).is i e.key with
      | none =>
        intro j q hq e
        obtain ⟨p, hp1, hp2⟩ := paired_get hp hq
        have hlt : j < es.size := by rw [← hl]; exact (List.getElem?_eq_some_iff.mp hq).1
        obtain ⟨hkey, _⟩ := h5.get? (i := j) (e := es[j]) (k := p.1) (v := p.2) (by rw [Array.getElem?_toList]; exact Array.getElem?_eq_getElem hlt) hp1
        have e1 : p.1 = i := by
          have := hp2.1
          rw [e] at this
          injection this with this
          exact this.symm
        rw [e1] at hkey
        have := Array.findIdx?_eq_none_iff.mp hj es[j] (Array.getElem_mem hlt)
        rw [hkey] at this
        cases this
      | some j =>
        obtain ⟨hlt, hkey, _⟩ := Array.findIdx?_eq_some_iff_getElem.mp hj
        have hl2 : j < ps2.length := by rw [hl]; exact hlt
        refine ⟨ps2[j], List.getElem?_eq_getElem hl2, ?_⟩
        obtain ⟨p, hp1, hp2⟩ := paired_get hp (List.getElem?_eq_getElem hl2)
        obtain ⟨hkey2, _⟩ := h5.get? (i := j) (e := es[j]) (k := p.1) (v := p.2) (by rw [Array.getElem?_toList]; exact Array.getElem?_eq_getElem hlt) hp1
        have : p.1 = i := (intKind X.prog X.w).inj _ _ _ hkey2 hkey
        rw [hp2.1, this]
  | true =>
    obtain ⟨c, rfl, rfl, isk⟩ := key_ref I ry hk rv
    obtain ⟨xs, hp, o, es, ep, h1, h2, h3, h4, h5, h6⟩ := dt
    obtain ⟨_, _, pk, _⟩ := keyOf_at hk
    have eh : hashK k = (nestedKind X.prog X.w).hash k := (hash_pure X.w k pk).symm
    rw [eh]
    have find := wpAny_dictFind_heap (A := A) (E := E) (Q := Q) (knd := nestedKind X.prog X.w) (by show A.units + 8 < cLine; omega) isk h1 h3 h4 h5 h6 (fun hn => h none ?_) (fun j p hj => h (some j) ?_)
    · exact find
    · intro j q hq e
      obtain ⟨x, hx1, hx2⟩ := paired_get hp hq
      obtain ⟨n, p⟩ := x
      have : n = k := by have := hx2.1; rw [e] at this; exact this.symm
      subst this
      exact hn j p hx1
    · have hl : ps2.length = xs.length := Paired.length hp
      have hlt : j < ps2.length := by rw [hl]; exact (List.getElem?_eq_some_iff.mp hj).1
      refine ⟨ps2[j], List.getElem?_eq_getElem hlt, ?_⟩
      obtain ⟨x, hx1, hx2⟩ := paired_get hp (List.getElem?_eq_getElem hlt)
      rw [hj] at hx1
      cases hx1
      exact hx2.1
theorem eqEnts_cons {p : D × D} {r : List (D × D)} {c : Bool} (h : eqEnts t kvs2 (p :: r) = some c) : (eqEnt t kvs2 p = some false ∧ c = false) ∨ (eqEnt t kvs2 p = some true ∧ eqEnts t kvs2 r = some c) := by
  rw [eqEnts] at h
  split at h
  · exact .inr ⟨by assumption, h⟩
  · cases h; exact .inl ⟨by assumption, rfl⟩
  · cases h
theorem eqEnt_at {p : D × D} {k : NestedKey} {c : Bool} (hk : keyOf t p.1 = some k) (h : eqEnt t kvs2 p = some c) : (valD t kvs2 k = none ∧ c = false) ∨ ∃ v, valD t kvs2 k = some v ∧ PyData.plain p.2 = true ∧ PyData.plain v = true ∧ okDepth p.2 v = true ∧ c = PyData.eqv p.2 v := by
  unfold eqEnt at h
  rw [hk] at h
  dsimp only at h
  cases e : valD t kvs2 k with
  | none => rw [e] at h; cases h; exact .inl ⟨rfl, rfl⟩
  | some v =>
    rw [e] at h
    dsimp only at h
    split at h
    · rename_i hc
      simp only [Bool.and_eq_true] at hc
      cases h
      exact .inr ⟨v, rfl, hc.1.1, hc.1.2, hc.2, rfl⟩
    · cases h
theorem same_pairs {nm : String} {r : Bool} {Q : Bool → Shared → Prop} (hu : A.units + 48 < cLine) (I : Inv X pins σ H s) (g1 : DSee X H Hf a oda t ps kvs) (g2 : DSee X H Hf b odb t ps2 kvs2)
    (he : kvs.length = kvs2.length → eqEnts t kvs2 kvs = some r) (h : Q (decide (kvs.length = kvs2.length) && r) s) : wpAny (model X.prog X.w) A (Builtin.Dict.samePairs nm a b) Q E s := by
  have hoa : s.heap.get? a = some oda := (I.hok a _ g1.ob).1
  have hob : s.heap.get? b = some odb := (I.hok b _ g2.ob).1
  obtain ⟨es, ep, hda, pa⟩ := g1.dis.es
  obtain ⟨es', ep', hdb, pb⟩ := g2.dis.es
  have la : kvs.length = ps.length := by have := congrArg List.length g1.ks; simpa using this
  have lb : kvs2.length = ps2.length := by have := congrArg List.length g2.ks; simpa using this
  have ea : ps.length = es.size := by rw [Paired.length pa]; exact Array.length_toList
  have eb : ps2.length = es'.size := by rw [Paired.length pb]; exact Array.length_toList
  unfold Builtin.Dict.samePairs Builtin.Dict.showsAll
  rw [if_neg (show ¬ (a == sysModules) = true by rw [g1.sys]; exact Bool.false_ne_true), if_neg (show ¬ (b == sysModules) = true by rw [g2.sys]; exact Bool.false_ne_true)]
  refine wpAny_bind (wpAny_pure (wpAny_bind (wpAny_pure ?_)))
  refine wpAny_bind (wpAny_dictEntries hoa hda ?_)
  dsimp only
  refine wpAny_bind (wpAny_dictEntries hob hdb ?_)
  by_cases hsz : es.size = es'.size
  case neg =>
    rw [if_pos (by simpa using hsz)]
    rw [decide_eq_false (by omega), Bool.false_and] at h
    exact wpAny_bind (wpAny_rule (wpAny_pure h))
  case pos =>
    have hl : kvs.length = kvs2.length := by omega
    rw [decide_eq_true hl, Bool.true_and] at h
    have he := he hl
    rw [if_neg (by rw [hsz]; simp)]
    refine wpAny_bind (wpAny_dictEpoch hoa hda ?_)
    refine wpAny_bind ?_
    rw [Std.Legacy.Range.forIn_eq_forIn_range']
    simp only [Std.Legacy.Range.size, Nat.sub_zero, Nat.add_sub_cancel, Nat.div_one]
    refine wpAny_forIn_list _ (fun rest q s' => s' = s ∧ q = (none, ()) ∧ ∃ i, rest = List.range' i (es.size - i) ∧ i ≤ es.size ∧ eqEnts t kvs2 (kvs.drop i) = some r) _ ?_ ?_ _ _ ⟨rfl, rfl, 0, by simp, Nat.zero_le _, he⟩
    · rintro x rest q s' ⟨rfl, rfl, i, hr, hi, hpre⟩
      have hlt : i < es.size := by
        rcases Nat.lt_or_ge i es.size with h | h
        · exact h
        · rw [Nat.sub_eq_zero_of_le h] at hr; simp at hr
      obtain ⟨rfl, hrest⟩ : x = i ∧ rest = List.range' (i + 1) (es.size - (i + 1)) := by
        have e : es.size - i = (es.size - (i + 1)) + 1 := by omega
        rw [e, List.range'_succ] at hr
        injection hr with h1 h2
        exact ⟨h1, h2⟩
      refine wpAny_bind (wpAny_dictEntries hoa hda ?_)
      rw [Array.getElem?_eq_getElem hlt]
      have hk1 : x < kvs.length := by omega
      have hp1 : x < ps.length := by omega
      have hdrop : kvs.drop x = kvs[x] :: kvs.drop (x + 1) := List.drop_eq_getElem_cons hk1
      rw [hdrop] at hpre
      obtain ⟨en, hen, hh, hkey, hval⟩ := paired_get pa (List.getElem?_eq_getElem hp1)
      have hen : es[x] = en := by
        rw [Array.getElem?_toList, Array.getElem?_eq_getElem hlt] at hen
        exact Option.some.inj hen
      have hkk : keyOf t kvs[x].1 = some ps[x].1 := by
        have := congrArg (fun l => l[x]?) g1.ks
        simpa [hk1, hp1] using this
      have rky : Rep X.K X.mg H ps[x].2.1 kvs[x].1 := by
        obtain ⟨v, hv, rv⟩ := g1.rk.get (i := x) (d := kvs[x].1) (by simp [hk1])
        have : ps[x].2.1 = v := by simpa [hp1] using hv
        rw [this]; exact rv
      have rvy : Rep X.K X.mg H ps[x].2.2 kvs[x].2 := by
        obtain ⟨v, hv, rv⟩ := g1.rv.get (i := x) (d := kvs[x].2) (by simp [hk1])
        have : ps[x].2.2 = v := by simpa [hp1] using hv
        rw [this]; exact rv
      rw [hen]
      show wpAny _ _ (holding [en.key, en.val] _ >>= _) _ _ _
      rw [hh]
      refine wpAny_bind (wpAny_holding (wpAny_bind (ka_find hu I g2 hkk rky hkey fun o ho => ?_)))
      have vr := val_rel ps[x].1 g2.ks g2.rv
      cases o with
      | none =>
        have hn := valP_none ho
        refine wpAny_pure ?_
        show wpAny _ _ (if (!false) = true then _ else _) _ _ _
        rw [if_pos (by decide)]
        have hf : r = false := by
          rcases eqEnts_cons hpre with ⟨_, er⟩ | ⟨e1, _⟩
          · exact er
          · rcases eqEnt_at hkk e1 with ⟨_, z⟩ | ⟨v, hv, _⟩
            · cases z
            · obtain ⟨v', hv', _⟩ := vr.1 v hv
              rw [hn] at hv'; cases hv'
        rw [hf] at h
        exact wpAny_pure (wpAny_pure h)
      | some j =>
        obtain ⟨q, hq, eq⟩ := ho
        have hvP := valP_at g2.dis.nd hq eq
        obtain ⟨en2, hen2, _, _, hval2⟩ := paired_get pb hq
        have hj : j < es'.size := by rw [← eb]; exact (List.getElem?_eq_some_iff.mp hq).1
        have hen2 : es'[j] = en2 := by
          rw [Array.getElem?_toList, Array.getElem?_eq_getElem hj] at hen2
          exact Option.some.inj hen2
        refine wpAny_bind (wpAny_dictEntries hob hdb ?_)
        rw [Array.getElem?_eq_getElem hj, hen2]
        obtain ⟨v, hv⟩ : ∃ v, valD t kvs2 ps[x].1 = some v := by
          cases e : valD t kvs2 ps[x].1 with
          | some v => exact ⟨v, rfl⟩
          | none =>
            have := vr.2.1 e
            rw [hvP] at this; cases this
        obtain ⟨v', hv', rv⟩ := vr.1 v hv
        rw [hvP] at hv'
        cases hv'
        have at2 : ∀ c, eqEnt t kvs2 kvs[x] = some c → SeqAt.EqAt A s' en.val en2.val c := fun c ec => by
          rcases eqEnt_at hkk ec with ⟨z, _⟩ | ⟨v2, hv2, p1, p2, hd, rfl⟩
          · rw [hv] at z; cases z
          · rw [hv] at hv2
            cases hv2
            have hd := okDepth_at hd
            obtain ⟨as, r1⟩ := Rep.reads I _ _ _ p1 rvy hval
            obtain ⟨bs, r2⟩ := Rep.reads I _ _ _ p2 rv hval2
            have := Nat.min_le_left kvs[x].2.depth v.depth
            exact SeqAt.eqAt_plain _ _ _ _ _ _ _ _ r1 r2 p1 p2 (by omega)
        rcases eqEnts_cons hpre with ⟨e1, er⟩ | ⟨e1, er⟩
        · refine wpAny_holding (at2 _ e1 X.prog X.w _ _ ?_)
          rw [er] at h
          show wpAny _ _ (if (!false) = true then _ else _) _ _ _
          rw [if_pos (by decide)]
          exact wpAny_pure (wpAny_pure h)
        · refine wpAny_holding (at2 _ e1 X.prog X.w _ _ ?_)
          show wpAny _ _ (if (!true) = true then _ else _) _ _ _
          rw [if_neg (by decide)]
          refine wpAny_bind (wpAny_dictEpoch hoa hda ?_)
          rw [if_neg (by simp)]
          exact wpAny_pure ⟨rfl, rfl, x + 1, hrest, hlt, er⟩
    · rintro q s' ⟨rfl, rfl, i, hr, hi, hpre⟩
      have hin : i = es.size := by
        rcases Nat.lt_or_ge i es.size with h | h
        · have e : es.size - i = (es.size - (i + 1)) + 1 := by omega
          rw [e, List.range'_succ] at hr; exact nomatch hr
        · exact Nat.le_antisymm hi h
      refine wpAny_pure ?_
      rw [hin, ← ea, ← la, List.drop_length, eqEnts] at hpre
      cases hpre
      exact h
end
section
variable {X : Cx} {pins : List (Addr × Obj)} {σ : L2.St} {H Hf : Hp} {s : Shared} {t : Bool} {a b : Addr} {oda odb : Obj} {ps ps2 : List Ent} {kvs kvs2 : List (D × D)} {A : Around} {E : Value → Shared → Prop}
theorem DSee.typeIs (I : Inv X pins σ H s) (g : DSee X H Hf a oda t ps kvs) : s.TypeIs (.ref a) "dict" := ⟨oda, (I.hok a _ g.ob).1, g.dis.ex.1⟩
theorem ka_eq {r : Bool} {Q : Value → Shared → Prop} (hu : A.units + 64 < cLine) (I : Inv X pins σ H s) (g1 : DSee X H Hf a oda t ps kvs) (g2 : DSee X H Hf b odb t ps2 kvs2)
    (he : kvs.length = kvs2.length → eqEnts t kvs2 kvs = some r) (h : Q (.bool (decide (kvs.length = kvs2.length) && r)) s) : wpAny (model X.prog X.w) A (compareOp .Eq (.ref a) (.ref b)) Q E s := by
  have ta := g1.typeIs I
  have tb := g2.typeIs I
  refine wpAny_richCompare_same_room (op := .Eq) ta tb PySem.F.slot_dict_eq (wpAny_call_entry PySem.F.slot_dict_eq ta PySem.F.entry_dict_eq ?_ (PySem.F.args_dict_eq_2 _ _)) (by omega)
  show wpAny _ _ (Builtin.Dict.dictSlotArgs "__eq__" ⟨[.ref a, .ref b], []⟩ >>= _) _ _ s
  refine wpAny_bind ?_
  unfold Builtin.Dict.dictSlotArgs
  refine wpAny_bind (wpAny_notOrdered_dict ta ?_)
  show wpAny _ _ (pure (Value.ref a, Value.ref b)) _ _ s
  refine wpAny_pure ?_
  refine wpAny_bind (wpAny_isInstance (T := "dict") tb PySem.F.sub_dict_dict ?_)
  simp only [Bool.not_true, Bool.false_eq_true, if_false]
  refine wpAny_bind (wpAny_pure (wpAny_bind (wpAny_pure ?_)))
  refine wpAny_bind (same_pairs (by show A.units + 1 + 48 < cLine; omega) I g1 g2 he ?_)
  refine wpAny_pure ⟨_, rfl, ?_, ?_⟩
  · exact fun x => nomatch x
  · simpa using h
theorem ka_ne {r : Bool} {Q : Value → Shared → Prop} (hu : A.units + 64 < cLine) (I : Inv X pins σ H s) (g1 : DSee X H Hf a oda t ps kvs) (g2 : DSee X H Hf b odb t ps2 kvs2)
    (he : kvs.length = kvs2.length → eqEnts t kvs2 kvs = some r) (h : Q (.bool (!(decide (kvs.length = kvs2.length) && r))) s) : wpAny (model X.prog X.w) A (compareOp .NotEq (.ref a) (.ref b)) Q E s := by
  have ta := g1.typeIs I
  have tb := g2.typeIs I
  refine wpAny_richCompare_same_room (op := .NotEq) ta tb PySem.F.slot_dict_ne (wpAny_call_entry PySem.F.slot_dict_ne ta PySem.F.entry_dict_ne ?_ (PySem.F.args_dict_ne_2 _ _)) (by omega)
  show wpAny _ _ (Builtin.Dict.dictSlotArgs "__ne__" ⟨[.ref a, .ref b], []⟩ >>= _) _ _ s
  refine wpAny_bind ?_
  unfold Builtin.Dict.dictSlotArgs
  refine wpAny_bind (wpAny_notOrdered_dict ta ?_)
  show wpAny _ _ (pure (Value.ref a, Value.ref b)) _ _ s
  refine wpAny_pure ?_
  refine wpAny_bind (wpAny_isInstance (T := "dict") tb PySem.F.sub_dict_dict ?_)
  simp only [Bool.not_true, Bool.false_eq_true, if_false]
  refine wpAny_bind (wpAny_pure (wpAny_bind (wpAny_pure ?_)))
  refine wpAny_bind (same_pairs (by show A.units + 1 + 48 < cLine; omega) I g1 g2 he ?_)
  refine wpAny_pure ⟨_, rfl, ?_, ?_⟩
  · exact fun x => nomatch x
  · simpa using h
end
section
variable {X : Cx} {Wx : WX} {cl : Cl} {pos : Pos} {a c : E} {e1 e2 : Expr} {neg : Bool}
def deqOp (neg : Bool) : CmpOp := if neg then .NotEq else .Eq
theorem deq_at {x y : O} {r : Bool} (h : deqF neg x y = some r) : ∃ t kvs kvs2 r0, dictO x = some (t, kvs) ∧ dictO y = some (t, kvs2) ∧ (kvs.length = kvs2.length → eqEnts t kvs2 kvs = some r0) ∧ r = ((decide (kvs.length = kvs2.length) && r0) != neg) := by
  unfold deqF at h
  split at h
  · rename_i t kvs t' kvs' h1 h2
    split at h
    · rename_i et
      subst et
      split at h
      · rename_i hl
        obtain ⟨r0, e1, e2⟩ := Option.map_eq_some_iff.mp h
        exact ⟨t, kvs, kvs', r0, h1, h2, (fun _ => e1), by rw [decide_eq_true hl, Bool.true_and]; exact e2.symm⟩
      · rename_i hl
        cases h
        exact ⟨t, kvs, kvs', true, h1, h2, (fun z => (hl z).elim), by rw [decide_eq_false hl, Bool.false_and]; cases neg <;> rfl⟩
    · cases h
  · cases h
def rDeq (X : Cx) (neg : Bool) : R2 := fun x y H Q => ∃ Hf t kvs kvs2 r0, DVw X H Hf x t kvs ∧ DVw X H Hf y t kvs2 ∧ (kvs.length = kvs2.length → eqEnts t kvs2 kvs = some r0) ∧ Q (.bl ((decide (kvs.length = kvs2.length) && r0) != neg)) H
theorem deqD_ok (hu : X.A.units + 64 < cLine) : OpR X (compareOp (deqOp neg)) (rDeq X neg) := by
  intro pins s σ H x y v u Q I rx ry h
  obtain ⟨Hf, t, kvs, kvs2, r0, d1, d2, he, q⟩ := h
  obtain ⟨a, od, ps, e1, g1⟩ := see_of d1.2 d1.1
  obtain ⟨b, od2, ps2, e2, g2⟩ := see_of d2.2 d2.1
  subst e1 e2
  cases rx
  cases ry
  cases neg with
  | false => exact ka_eq hu I g1 g2 he ⟨.bl (decide (kvs.length = kvs2.length) && r0), H, I, rfl, by simpa using q⟩
  | true => exact ka_ne hu I g1 g2 he ⟨.bl (!(decide (kvs.length = kvs2.length) && r0)), H, I, rfl, by simpa using q⟩
theorem deq_rd {w : Bool} (hp : (c.pure || w) = true) {R : O → Tau → Prop} {Q : VK} {b0 : Bool} {τ : Tau} {σ : L2.St} {H Hf : Hp} {as : Nat → List Addr} (rel : Rel X.K X.mg τ σ H Hf as) (q : RdM X.K X.mg Wx w σ H Hf as (evalG cl b0 (.deq neg a c) τ) R)
    (fin : ∀ r τ2 H2 Hf2 as2, Rel X.K X.mg τ2 σ H2 Hf2 as2 → Stp w (Wof as) H Hf H2 Hf2 (Wof as2) → R (.d (.bool r)) τ2 → Q (.bl r) H2) :
    RdE X Wx cl w c.pure a σ H fun x H1 => RdE X Wx cl (!c.pure) true c σ H1 fun y H2 => rDeq X neg x y H2 Q := by
  rw [evalG] at q
  refine two_parts (R' := fun x y H2 => rDeq X neg x y H2 Q) hp rel q fun x y τ2 v u H2 Hf2 as2 r2 vx vy st q => ?_
  obtain ⟨o, e, q⟩ := ofB_at q
  obtain ⟨t, kvs, kvs2, r0, h1, h2, h3, rfl⟩ := deq_at e
  exact ⟨Hf2, t, kvs, kvs2, r0, ⟨r2.sub, vw_dict vx r2.sub h1⟩, ⟨r2.sub, vw_dict vy r2.sub h2⟩, h3, fin _ _ _ _ _ r2 st q⟩
theorem snd_deq (hu : X.A.units + 64 < cLine) (hb : behindInMarks (deqOp neg) e2 = false) (ha : Snd X Wx cl a e1) (hc : Snd X Wx cl c e2) : Snd X Wx cl (.deq neg a c) (.Compare e1 [deqOp neg] [e2] pos) := fun w b hp => by
  have hp := orb (show (a.pure && c.pure || w) = true by simpa [E.pure] using hp)
  refine (pe_cmpR (deqD_ok hu) (ha w c.pure hp.1) (hc (!c.pure) true (by cases c.pure <;> rfl)) hb).imp fun σ H Q q => ?_
  obtain ⟨τ, Hf, as, rel, q⟩ := q
  exact deq_rd (Q := Q) hp.2 rel q fun r τ2 H2 Hf2 as2 r2 st q => val_bool r2 st q
theorem sndT_deq (hu : X.A.units + 64 < cLine) (hb : behindInMarks (deqOp neg) e2 = false) (ha : Snd X Wx cl a e1) (hc : Snd X Wx cl c e2) : SndT X Wx cl (.deq neg a c) (.Compare e1 [deqOp neg] [e2] pos) := fun w hp => by
  have hp := orb (show (a.pure && c.pure || w) = true by simpa [E.pure] using hp)
  refine (pt_cmpR (deqD_ok hu) (ha w c.pure hp.1) (hc (!c.pure) true (by cases c.pure <;> rfl)) hb).imp fun σ H Q q => ?_
  obtain ⟨τ, Hf, as, rel, q⟩ := q
  exact deq_rd (Q := fun z H' => ∃ r, z = .bl r ∧ Q r H') hp.2 rel (asB_bind q) fun r τ2 H2 Hf2 as2 r2 st ⟨k', e, q⟩ => by cases e; exact ⟨r, rfl, q H2 Hf2 as2 r2 st⟩
end
end Mir
set_option Elab.async false
set_option linter.all false
set_option maxRecDepth 100000
set_option maxHeartbeats 4000000
/-! Mir, part R: the text's expressions against the syntax, as a test that computes. -/
namespace Mir
open PySem L2 PyProof.Rows

structure Nm where
  N : List Str
  bs : List Str
  fs : List Str
def mLit : D → Expr → Bool
  | .int i, .Constant (.int j) _ _ => i == j
  | .bool i, .Constant (.bool j) _ _ => i == j
  | .str i, .Constant (.str j) _ _ => i == j
  | .none, .Constant .none _ _ => true
  | _, _ => false
def isNoneLit : E → Bool
  | .lit .none => true
  | _ => false
def mName (M : Nm) (sc : Scope) (i : Nat) : Expr → Bool
  | .Name x _ => decide (M.N[i]? = some x) && visB sc x && okName x
  | _ => false
def mBlt (M : Nm) (sc : Scope) (f : String) : Expr → Bool
  | .Name x _ => decide (x = Str.ofString f) && decide (x ∈ M.bs) && glB sc x && okName x
  | _ => false
def mTys (M : Nm) (sc : Scope) : List Ty → List Expr → Bool
  | [], [] => true
  | t :: ts, e :: es => mBlt M sc t.name e && mTys M sc ts es
  | _, _ => false
mutual
def mT (M : Nm) (sc : Scope) : T → Expr → Bool
  | .nm i, e => match e with
    | .Name x _ => decide (M.N[i]? = some x) && locB sc x
    | _ => false
  | .tup ts, e => match e with
    | .Tuple xs _ _ => mTs M sc ts xs
    | _ => false
def mTs (M : Nm) (sc : Scope) : Ts → List Expr → Bool
  | .nil, es => es.isEmpty
  | .cons t ts, es => match es with
    | e :: es => notStar e && mT M sc t e && mTs M sc ts es
    | [] => false
end
def isTupE : Expr → Bool
  | .Tuple _ _ _ => true
  | _ => false
def ownOf (M : Nm) (vs : List Nat) : List (Str × Nat) := vs.map fun i => ((M.N[i]?).getD "", i)
mutual
def mE (M : Nm) : Scope → E → Expr → Bool
  | _, .lit d, e => mLit d e
  | sc, .loc i, e => mName M sc i e
  | _, .io _, _ => false
  | sc, .con x, e => match e with
    | .Name y _ => decide (x = y) && glB sc y && okName y
    | _ => false
  | sc, .tup es, e => match e with
    | .Tuple xs _ _ => decide (es.len ≤ 1000) && mEs M sc es xs
    | _ => false
  | sc, .lst es, e => match e with
    | .List xs _ => decide (es.len ≤ 1000) && mEs M sc es xs
    | _ => false
  | sc, .bin op a c, e => match e with
    | .BinOp e1 op' e2 _ => decide (op = op') && mE M sc a e1 && mE M sc c e2
    | _ => false
  | sc, .neg a, e => match e with
    | .UnaryOp .USub e1 _ => mE M sc a e1
    | _ => false
  | sc, .not a, e => match e with
    | .UnaryOp .Not e1 _ => mE M sc a e1
    | _ => false
  | sc, .and es, e => match e with
    | .BoolOp .And xs _ => mEs M sc es xs
    | _ => false
  | sc, .or es, e => match e with
    | .BoolOp .Or xs _ => mEs M sc es xs
    | _ => false
  | sc, .cmp op a c, e => match e with
    | .Compare e1 [op'] [e2] _ => decide (op = op') && !behindInMarks op e2 && mE M sc a e1 && mE M sc c e2
    | _ => false
  | sc, .chain op op2 a c d, e => match e with
    | .Compare e1 [op', op2'] [e2, e3] _ => decide (op = op') && decide (op2 = op2') && !lastMarks [op, op2] [e2, e3] && mE M sc a e1 && mE M sc c e2 && mE M sc d e3
    | _ => false
  | sc, .ite c a d, e => match e with
    | .IfExp e1 e2 e3 _ => mE M sc c e1 && mE M sc a e2 && mE M sc d e3
    | _ => false
  | sc, .ix a i, e => match e with
    | .Subscript e1 e2 _ => notSlice e2 && mE M sc a e1 && mE M sc i e2
    | _ => false
  | sc, .sl a lo hi, e => match e with
    | .Subscript e1 (.Slice l h none _) _ => mE M sc a e1 && (match l with | some x => mE M sc lo x | none => isNoneLit lo) && (match h with | some x => mE M sc hi x | none => isNoneLit hi)
    | _ => false
  | sc, .rev a, e => match e with
    | .Subscript e1 (.Slice none none (some (.UnaryOp .USub (.Constant (.int j) _ _) _)) _) _ => decide (j = 1) && mE M sc a e1
    | _ => false
  | sc, .lrg a, e => match e with
    | .Call e1 [.Call e2 [x] [] _] [] _ => mBlt M sc "list" e1 && mBlt M sc "range" e2 && notStar x && mE M sc a x
    | _ => false
  | sc, .bi f es, e => match e with
    | .Call e1 xs [] _ => mBlt M sc f.name e1 && mEs M sc es xs
    | _ => false
  | sc, .isi a many tys, e => match e with
    | .Call e1 [e2, e3] [] _ => mBlt M sc "isinstance" e1 && notStar e2 && mE M sc a e2 && (if many then match e3 with
        | .Tuple ts _ _ => !tys.isEmpty && decide (tys.length ≤ 1000) && mTys M sc tys ts
        | _ => false
      else decide (tys.length = 1) && mTys M sc tys [e3])
    | _ => false
  | sc, .call f r es, e => match e with
    | .Call (.Name x _) xs [] _ => decide (f = x) && decide (f ∈ M.fs) && (!r || es.pure) && decide es.ios.Nodup && glB sc f && okName f && mAs M sc es xs
    | _ => false
  | sc, .mut m i es, e => match e with
    | .Call (.Attribute o y apos) xs [] pos => decide (m = y) && (decide (m = "append") || decide (m = "extend") || decide (m = "pop")) && (decide (es.len = 1) || decide (m = "pop") && es.isNil) && mName M sc i o && (apos.endLine == pos.line) && mEs M sc es xs
    | _ => false
  | sc, .comp t vs it cs elt r, e => match e with
    | .ListComp e1 [⟨tg, iter, ifs, 0⟩] scope _ => blkC M.N sc scope (ownOf M vs) && (t.vars.all fun i => decide (i ∈ vs)) && (!r || (it.pure && cs.pure && elt.pure)) && notSet iter && mT M scope t tg && mI M sc it tg iter &&
        mTests M scope cs ifs && mE M scope elt e1
    | _ => false
  | _, .dnew _, e => match e with
    | .Dict [] [] _ => true
    | _ => false
  | sc, .dix a k, e => match e with
    | .Subscript e1 e2 _ => notSlice e2 && mE M sc a e1 && mE M sc k e2
    | _ => false
  | sc, .din neg k a, e => match e with
    | .Compare e1 [op'] [e2] _ => decide (dinOp neg = op') && !behindInMarks (dinOp neg) e2 && mE M sc k e1 && mE M sc a e2
    | _ => false
  | _, .dget _ _ _, _ => false
  | sc, .deq neg a c, e => match e with
    | .Compare e1 [op'] [e2] _ => decide (deqOp neg = op') && !behindInMarks (deqOp neg) e2 && mE M sc a e1 && mE M sc c e2
    | _ => false
  | _, .dlen _, _ => false
  | sc, .dof _ a, e => match e with
    | .Call e1 [x] [] _ => mBlt M sc "dict" e1 && notStar x && mE M sc a x
    | _ => false
  | sc, .dcomp _ t vs it cs k v, e => match e with
    | .DictComp e1 e2 [⟨tg, iter, ifs, 0⟩] scope _ => blkC M.N sc scope (ownOf M vs) && (t.vars.all fun i => decide (i ∈ vs)) && (cs.pure && k.pure && v.pure) && notSet iter && mT M scope t tg && mI M sc it tg iter &&
        mTests M scope cs ifs && mE M scope k e1 && mE M scope v e2
    | _ => false
def mEs (M : Nm) : Scope → Es → List Expr → Bool
  | _, .nil, es => es.isEmpty
  | sc, .cons c cs, es => match es with
    | e :: es => notStar e && mE M sc c e && mEs M sc cs es
    | [] => false
def mTests (M : Nm) : Scope → Es → List Expr → Bool
  | _, .nil, es => es.isEmpty
  | sc, .cons c cs, es => match es with
    | [e] => cs.isNil && mE M sc c e
    | _ => false
def mAs (M : Nm) : Scope → Es → List Expr → Bool
  | _, .nil, es => es.isEmpty
  | sc, .cons c cs, es => match es with
    | e :: es => (match c.isIo with
      | some i => mName M sc i e
      | none => notStar e && mE M sc c e) && mAs M sc cs es
    | [] => false
def mI (M : Nm) : Scope → It → Expr → Expr → Bool
  | sc, .seq c, _, e => mE M sc c e
  | sc, .rng es, _, e => match e with
    | .Call e1 xs [] _ => mBlt M sc "range" e1 && (decide (es.len = 1) || decide (es.len = 2)) && mEs M sc es xs
    | _ => false
  | sc, .zip es, tg, e => match e with
    | .Call e1 xs [] _ => mBlt M sc "zip" e1 && isTupE tg && decide (es.len = 2) && mEs M sc es xs
    | _ => false
  | sc, .enum es, tg, e => match e with
    | .Call e1 xs [] _ => mBlt M sc "enumerate" e1 && isTupE tg && decide (es.len = 1) && mEs M sc es xs
    | _ => false
  | sc, .dct a, _, e => mE M sc a e
  | _, .dits _, _, _ => false
  | _, .dvals _, _, _ => false
end
end Mir
set_option Elab.async false
set_option linter.all false
set_option maxRecDepth 100000
set_option maxHeartbeats 4000000
/-! Mir, part S: the test is right: expressions. -/
namespace Mir
open PySem L2 PyProof.Rows

section
variable {M : Nm} {X : Cx} {Wx : WX} {sc : Scope} {cl : Cl} {n : Nat}
theorem mName_at {i : Nat} {e : Expr} (h : mName M sc i e = true) : ∃ x p, e = .Name x p ∧ M.N[i]? = some x ∧ visB sc x = true ∧ okName x = true := by
  unfold mName at h
  split at h
  · simp only [Bool.and_eq_true, decide_eq_true_eq] at h
    exact ⟨_, _, rfl, h.1.1, h.1.2, h.2⟩
  · cases h
theorem mBlt_at {f : String} {e : Expr} (h : mBlt M sc f e = true) : ∃ x p, e = .Name x p ∧ x = Str.ofString f ∧ x ∈ M.bs ∧ glB sc x = true ∧ okName x = true := by
  unfold mBlt at h
  split at h
  · simp only [Bool.and_eq_true, decide_eq_true_eq] at h
    exact ⟨_, _, rfl, h.1.1.1, h.1.1.2, h.1.2, h.2⟩
  · cases h
theorem mTys_at : ∀ {ts : List Ty} {es : List Expr}, mTys M sc ts es = true → TyNames sc M.bs ts es
  | [], [], _ => .nil
  | t :: ts, e :: es, h => by
    rw [mTys, Bool.and_eq_true] at h
    obtain ⟨x, p, rfl, h1, h2, h3, h4⟩ := mBlt_at h.1
    exact .cons h1 h2 h3 h4 (mTys_at h.2)
  | [], _ :: _, h => by simp [mTys] at h
  | _ :: _, [], h => by simp [mTys] at h
theorem snd_lit {d : D} {e : Expr} (h : mLit d e = true) : Snd X Wx cl (.lit d) e ∧ plainT e = true := by
  unfold mLit at h
  split at h
  · rename_i i j _ _
    have e : i = j := by simpa using h
    rw [e]
    exact ⟨snd_val pe_int (fun b τ => by rw [evalG]) fun _ => .int _, rfl⟩
  · rename_i i j _ _
    have e : i = j := by simpa using h
    rw [e]
    exact ⟨snd_val pe_bl (fun b τ => by rw [evalG]) fun _ => .bl _, rfl⟩
  · rename_i i j _ _
    have e : i = j := by simpa using h
    rw [e]
    exact ⟨snd_val pe_str (fun b τ => by rw [evalG]) fun _ => .str _, rfl⟩
  · exact ⟨snd_val pe_non (fun b τ => by rw [evalG]) fun _ => .non, rfl⟩
  · cases h
theorem sndT_andE {es : Es} {xs : List Expr} {pos : Pos} (A : AllSnd X Wx cl es xs) : SndT X Wx cl (.and es) (.BoolOp .And xs pos) := fun w hp => ((sndT_and A w (by simpa [E.pure] using hp)).imp fun σ H Q q => by
  obtain ⟨τ, Hf, as, rel, q⟩ := q
  rw [evalG] at q
  exact ⟨τ, Hf, as, rel, q⟩).pt
theorem sndT_orE {es : Es} {xs : List Expr} {pos : Pos} (A : AllSnd X Wx cl es xs) : SndT X Wx cl (.or es) (.BoolOp .Or xs pos) := fun w hp => ((sndT_or A w (by simpa [E.pure] using hp)).imp fun σ H Q q => by
  obtain ⟨τ, Hf, as, rel, q⟩ := q
  rw [evalG] at q
  exact ⟨τ, Hf, as, rel, q⟩).pt
theorem snd_andE {es : Es} {xs : List Expr} {pos : Pos} (A : AllSnd X Wx cl es xs) : Snd X Wx cl (.and es) (.BoolOp .And xs pos) := fun w b hp => (snd_and A w b (by simpa [E.pure] using hp)).imp fun σ H Q q => by
  obtain ⟨τ, Hf, as, rel, q⟩ := q
  rw [evalG] at q
  exact ⟨τ, Hf, as, rel, q⟩
theorem snd_orE {es : Es} {xs : List Expr} {pos : Pos} (A : AllSnd X Wx cl es xs) : Snd X Wx cl (.or es) (.BoolOp .Or xs pos) := fun w b hp => (snd_or A w b (by simpa [E.pure] using hp)).imp fun σ H Q q => by
  obtain ⟨τ, Hf, as, rel, q⟩ := q
  rw [evalG] at q
  exact ⟨τ, Hf, as, rel, q⟩
mutual
theorem sT (M : Nm) : ∀ (t : T) (X : Cx) (Wx : WX) (sc : Scope) (e : Expr), X.N = M.N → Ctx X Wx sc → mT M sc t e = true → PG X e (RdG X.K X.mg t)
  | .nm i, X, Wx, sc, e, hN, C, h => by
    unfold mT at h
    split at h
    · simp only [Bool.and_eq_true, decide_eq_true_eq] at h
      exact pg_nm C (by rw [hN]; exact h.1) h.2
    · cases h
  | .tup ts, X, Wx, sc, e, hN, C, h => by
    unfold mT at h
    split at h
    · obtain ⟨h1, h2, h3⟩ := sTs M ts X Wx sc _ hN C h
      exact pg_tp C h1 h2 h3
    · cases h
theorem sTs (M : Nm) : ∀ (ts : Ts) (X : Cx) (Wx : WX) (sc : Scope) (es : List Expr), X.N = M.N → Ctx X Wx sc → mTs M sc ts es = true → es.all notStar = true ∧ es.length = ts.count ∧ PGs X es (RdGs X.K X.mg ts)
  | .nil, X, Wx, sc, es, hN, C, h => by
    unfold mTs at h
    have : es = [] := by simpa using h
    subst this
    exact ⟨rfl, rfl, pgs_nl⟩
  | .cons t ts, X, Wx, sc, es, hN, C, h => by
    unfold mTs at h
    split at h
    · simp only [Bool.and_eq_true] at h
      obtain ⟨h1, h2, h3⟩ := sTs M ts X Wx sc _ hN C h.2
      refine ⟨by rw [List.all_cons, h.1.1, h1]; rfl, by rw [List.length_cons, h2]; rfl, pgs_cn h.1.1 (sT M t X Wx sc _ hN C h.1.2) h3⟩
    · cases h
end
theorem snd_comp {t : T} {vs : List Nat} {it : Mir.It} {cs : Es} {elt : E} {r : Bool} {scope : Scope} {e1 tg iter : Expr} {ifs : List Expr} {pos : Pos} {fs bs : List Str} (C : Ctx X Wx sc) (hb : blkC X.N sc scope (ownOf M vs) = true) (ht : ∀ i ∈ t.vars, i ∈ vs) (hr : r = true → (it.pure && cs.pure && elt.pure) = true) (hs : notSet iter = true)
    (hT : ∀ X' : Cx, X'.N = X.N → Ctx X' WxF scope → PG X' tg (RdG X'.K X'.mg t)) (hI : SndI X Wx cl it tg iter) (hc : ∀ X' : Cx, X'.N = X.N → Ctx X' WxF scope → GOk X' cl bs fs n → TestsSnd X' WxF cl cs ifs) (he : ∀ X' : Cx, X'.N = X.N → Ctx X' WxF scope → GOk X' cl bs fs n → Snd X' WxF cl elt e1)
    (G : GOk X cl bs fs n) : Snd X Wx cl (.comp t vs it cs elt r) (.ListComp e1 [⟨tg, iter, ifs, 0⟩] scope pos) := fun w b0 hp => by
  have hpp : (it.pure && cs.pure && elt.pure || w) = true := by simpa [E.pure] using hp
  obtain ⟨w', hw1, hw2, hw3⟩ : ∃ w', (w' = true → w = true) ∧ (r = true → w' = false) ∧ (it.pure && cs.pure && elt.pure || w') = true := by
    cases hep : (it.pure && cs.pure && elt.pure) with
    | true => exact ⟨false, (fun z => by cases z), (fun _ => rfl), rfl⟩
    | false => exact ⟨w, id, (fun z => by rw [hr z] at hep; cases hep), by rw [hep] at hpp; simpa using hpp⟩
  obtain ⟨p1, p2, p3⟩ := orb3 hw3
  have hown : (ownOf M vs).map (·.2) = vs := by unfold ownOf; rw [List.map_map]; exact List.map_id _
  have key := pe_lc (g := RdG X.K X.mg t) (te := RdE X WxF cl (!(cs.pure && elt.pure)) false elt) (tt := RdTs X WxF cl (!(cs.pure && elt.pure)) cs) (pos := pos) C.calm C.nd (hI w' (cs.pure && elt.pure) p1) (blk_of C hb)
    (fun s H a c fp => hT (X.blk s H scope (compEnvC scope c a X.env) fp) rfl (ctx_blk C s H a c fp))
    (fun s H a c fp => pts_ok (X := X.blk s H scope (compEnvC scope c a X.env) fp) (hc (X.blk s H scope (compEnvC scope c a X.env) fp) rfl (ctx_blk C s H a c fp) (g_blk G s H _ fp)) _ (by cases cs.pure <;> cases elt.pure <;> rfl))
    (fun s H a c fp => he (X.blk s H scope (compEnvC scope c a X.env) fp) rfl (ctx_blk C s H a c fp) (g_blk G s H _ fp) _ false (by cases cs.pure <;> cases elt.pure <;> rfl)) (folded_eq hs)
  rw [hown] at key
  exact key.imp (comp_rd rfl rfl ht hw1 hw2 p1 p2 p3)
theorem snd_dcomp {d : Bool} {t : T} {vs : List Nat} {it : Mir.It} {cs : Es} {k v : E} {scope : Scope} {e1 e2 tg iter : Expr} {ifs : List Expr} {pos : Pos} {fs bs : List Str} (C : Ctx X Wx sc) (hb : blkC X.N sc scope (ownOf M vs) = true) (ht : ∀ i ∈ t.vars, i ∈ vs) (hr : (cs.pure && k.pure && v.pure) = true) (hs : notSet iter = true)
    (hT : ∀ X' : Cx, X'.N = X.N → Ctx X' WxF scope → PG X' tg (RdG X'.K X'.mg t)) (hI : SndI X Wx cl it tg iter) (hc : ∀ X' : Cx, X'.N = X.N → Ctx X' WxF scope → GOk X' cl bs fs n → TestsSnd X' WxF cl cs ifs) (hk : ∀ X' : Cx, X'.N = X.N → Ctx X' WxF scope → GOk X' cl bs fs n → Snd X' WxF cl k e1) (he : ∀ X' : Cx, X'.N = X.N → Ctx X' WxF scope → GOk X' cl bs fs n → Snd X' WxF cl v e2)
    (G : GOk X cl bs fs n) : Snd X Wx cl (.dcomp d t vs it cs k v) (.DictComp e1 e2 [⟨tg, iter, ifs, 0⟩] scope pos) := fun w b0 hp => by
  simp only [Bool.and_eq_true] at hr
  obtain ⟨⟨r1, r2⟩, r3⟩ := hr
  have p1 : (it.pure || w) = true := by simpa [E.pure, r1, r2, r3] using hp
  have hown : (ownOf M vs).map (·.2) = vs := by unfold ownOf; rw [List.map_map]; exact List.map_id _
  have key := pe_dcA (t := d) (g := RdG X.K X.mg t) (tk := RdE X WxF cl false false k) (tv := RdE X WxF cl false false v) (tt := RdTs X WxF cl false cs) (pos := pos) G.room.units C.calm C.nd (hI w true p1) (blk_of C hb)
    (fun s H a c fp => hT (X.blk s H scope (compEnvC scope c a X.env) fp) rfl (ctx_blk C s H a c fp))
    (fun s H a c fp => pts_ok (X := X.blk s H scope (compEnvC scope c a X.env) fp) (hc (X.blk s H scope (compEnvC scope c a X.env) fp) rfl (ctx_blk C s H a c fp) (g_blk G s H _ fp)) _ (by rw [r1]; rfl))
    (fun s H a c fp => hk (X.blk s H scope (compEnvC scope c a X.env) fp) rfl (ctx_blk C s H a c fp) (g_blk G s H _ fp) _ false (by rw [r2]; rfl))
    (fun s H a c fp => he (X.blk s H scope (compEnvC scope c a X.env) fp) rfl (ctx_blk C s H a c fp) (g_blk G s H _ fp) _ false (by rw [r3]; rfl)) (folded_eq hs)
  rw [hown] at key
  exact key.imp (dcomp_rd ht p1)
theorem both {c : E} {e : Expr} (h : Snd X Wx cl c e) (hp : plainT e = true) : Snd X Wx cl c e ∧ SndT X Wx cl c e := ⟨h, sndT_val h hp⟩
theorem isNoneLit_at {c : E} (h : isNoneLit c = true) : c = .lit .none := by
  unfold isNoneLit at h
  split at h
  · rfl
  · cases h
theorem or_at {r p : Bool} (h : (!r || p) = true) (z : r = true) : p = true := by
  subst z
  simpa using h
mutual
theorem sE (M : Nm) : ∀ (c : E) (X : Cx) (Wx : WX) (sc : Scope) (e : Expr), X.N = M.N → Ctx X Wx sc → GOk X cl M.bs M.fs n → mE M sc c e = true → Snd X Wx cl c e ∧ SndT X Wx cl c e
  | .lit d, X, Wx, sc, e, hN, C, G, h => by
    unfold mE at h
    obtain ⟨h1, h2⟩ := snd_lit (X := X) (Wx := Wx) (cl := cl) h
    exact ⟨h1, sndT_val h1 h2⟩
  | .loc i, X, Wx, sc, e, hN, C, G, h => by
    unfold mE at h
    obtain ⟨x, p, rfl, h1, h2, h3⟩ := mName_at h
    exact both (snd_loc (cl := cl) (pos := p) C (by rw [hN]; exact h1) h2 h3) rfl
  | .io i, X, Wx, sc, e, hN, C, G, h => by
    unfold mE at h
    cases h
  | .con x, X, Wx, sc, e, hN, C, G, h => by
    unfold mE at h
    split at h
    · simp only [Bool.and_eq_true, decide_eq_true_eq] at h
      obtain ⟨⟨rfl, h2⟩, h3⟩ := h
      exact both (snd_con C G h2 h3) rfl
    · cases h
  | .tup es, X, Wx, sc, e, hN, C, G, h => by
    unfold mE at h
    split at h
    · simp only [Bool.and_eq_true, decide_eq_true_eq] at h
      exact both (snd_tup h.1 (sEs M es X Wx sc _ hN C G h.2)) rfl
    · cases h
  | .lst es, X, Wx, sc, e, hN, C, G, h => by
    unfold mE at h
    split at h
    · simp only [Bool.and_eq_true, decide_eq_true_eq] at h
      exact both (snd_lst h.1 (sEs M es X Wx sc _ hN C G h.2)) rfl
    · cases h
  | .bin op a c, X, Wx, sc, e, hN, C, G, h => by
    unfold mE at h
    split at h
    · simp only [Bool.and_eq_true, decide_eq_true_eq] at h
      obtain ⟨⟨rfl, h2⟩, h3⟩ := h
      exact both (snd_bin (op := op) (sE M a X Wx sc _ hN C G h2).1 (sE M c X Wx sc _ hN C G h3).1) rfl
    · cases h
  | .neg a, X, Wx, sc, e, hN, C, G, h => by
    unfold mE at h
    split at h
    · exact both (snd_neg (sE M a X Wx sc _ hN C G h).1) rfl
    · cases h
  | .not a, X, Wx, sc, e, hN, C, G, h => by
    unfold mE at h
    split at h
    · have k := sE M a X Wx sc _ hN C G h
      exact ⟨snd_not k.1, sndT_not k.2⟩
    · cases h
  | .and es, X, Wx, sc, e, hN, C, G, h => by
    unfold mE at h
    split at h
    · have A := sEs M es X Wx sc _ hN C G h
      exact ⟨snd_andE A, sndT_andE A⟩
    · cases h
  | .or es, X, Wx, sc, e, hN, C, G, h => by
    unfold mE at h
    split at h
    · have A := sEs M es X Wx sc _ hN C G h
      exact ⟨snd_orE A, sndT_orE A⟩
    · cases h
  | .cmp op a c, X, Wx, sc, e, hN, C, G, h => by
    unfold mE at h
    split at h
    · simp only [Bool.and_eq_true, decide_eq_true_eq, Bool.not_eq_true'] at h
      obtain ⟨⟨⟨rfl, h2⟩, h3⟩, h4⟩ := h
      have k1 := (sE M a X Wx sc _ hN C G h3).1
      have k2 := (sE M c X Wx sc _ hN C G h4).1
      exact ⟨snd_cmp G.room.units h2 k1 k2, sndT_cmp G.room.units h2 k1 k2⟩
    · cases h
  | .chain op op2 a c d, X, Wx, sc, e, hN, C, G, h => by
    unfold mE at h
    split at h
    · simp only [Bool.and_eq_true, decide_eq_true_eq, Bool.not_eq_true'] at h
      obtain ⟨⟨⟨⟨⟨rfl, rfl⟩, h2⟩, h3⟩, h4⟩, h5⟩ := h
      have k1 := (sE M a X Wx sc _ hN C G h3).1
      have k2 := (sE M c X Wx sc _ hN C G h4).1
      have k3 := (sE M d X Wx sc _ hN C G h5).1
      exact ⟨snd_chain G.room.units h2 k1 k2 k3, sndT_chain G.room.units h2 k1 k2 k3⟩
    · cases h
  | .ite c a d, X, Wx, sc, e, hN, C, G, h => by
    unfold mE at h
    split at h
    · simp only [Bool.and_eq_true] at h
      have k1 := sE M c X Wx sc _ hN C G h.1.1
      have k2 := sE M a X Wx sc _ hN C G h.1.2
      have k3 := sE M d X Wx sc _ hN C G h.2
      exact ⟨snd_ite k1.2 k2.1 k3.1, sndT_ite k1.2 k2.2 k3.2⟩
    · cases h
  | .ix a i, X, Wx, sc, e, hN, C, G, h => by
    unfold mE at h
    split at h
    · simp only [Bool.and_eq_true] at h
      exact both (snd_ix h.1.1 (sE M a X Wx sc _ hN C G h.1.2).1 (sE M i X Wx sc _ hN C G h.2).1) rfl
    · cases h
  | .sl a lo hi, X, Wx, sc, e, hN, C, G, h => by
    unfold mE at h
    split at h
    · rename_i e1 l hh p1 p2
      simp only [Bool.and_eq_true] at h
      have k1 : PartSnd X Wx cl lo l := by
        cases l with
        | none =>
          have z : isNoneLit lo = true := h.1.2
          rw [isNoneLit_at z]
          exact .no
        | some x => exact .so (sE M lo X Wx sc _ hN C G h.1.2).1
      have k2 : PartSnd X Wx cl hi hh := by
        cases hh with
        | none =>
          have z : isNoneLit hi = true := h.2
          rw [isNoneLit_at z]
          exact .no
        | some x => exact .so (sE M hi X Wx sc _ hN C G h.2).1
      exact both (snd_sl (pos := p2) (p2 := p1) (sE M a X Wx sc _ hN C G h.1.1).1 k1 k2) rfl
    · cases h
  | .rev a, X, Wx, sc, e, hN, C, G, h => by
    unfold mE at h
    split at h
    · simp only [Bool.and_eq_true, decide_eq_true_eq] at h
      obtain ⟨rfl, h2⟩ := h
      exact both (snd_rev (sE M a X Wx sc _ hN C G h2).1) rfl
    · cases h
  | .lrg a, X, Wx, sc, e, hN, C, G, h => by
    unfold mE at h
    split at h
    · simp only [Bool.and_eq_true] at h
      obtain ⟨⟨⟨h1, h2⟩, h3⟩, h4⟩ := h
      obtain ⟨x, p, rfl, a1, a2, a3, a4⟩ := mBlt_at h1
      obtain ⟨y, p2, rfl, b1, b2, b3, b4⟩ := mBlt_at h2
      exact both (snd_lrg C G a1 a2 a3 b1 b2 b3 h3 (sE M a X Wx sc _ hN C G h4).1) rfl
    · cases h
  | .bi f es, X, Wx, sc, e, hN, C, G, h => by
    unfold mE at h
    split at h
    · simp only [Bool.and_eq_true] at h
      obtain ⟨x, p, rfl, h1, h2, h3, h4⟩ := mBlt_at h.1
      exact both (snd_bi (p := p) C G h1 h2 h3 h4 (sEs M es X Wx sc _ hN C G h.2)) rfl
    · cases h
  | .isi a many tys, X, Wx, sc, e, hN, C, G, h => by
    unfold mE at h
    split at h
    · simp only [Bool.and_eq_true] at h
      obtain ⟨⟨⟨hb, hs⟩, ha⟩, ht⟩ := h
      obtain ⟨x, p, rfl, h1, h2, h3, h4⟩ := mBlt_at hb
      have ka := (sE M a X Wx sc _ hN C G ha).1
      cases many with
      | true =>
        rw [if_pos rfl] at ht
        split at ht
        · simp only [Bool.and_eq_true, decide_eq_true_eq, Bool.not_eq_true'] at ht
          exact both (snd_isiT (p := p) C G h1 h2 h3 h4 hs ka (mTys_at ht.2) (fun e => by rw [e] at ht; simp at ht) ht.1.2) rfl
        · cases ht
      | false =>
        rw [if_neg Bool.false_ne_true] at ht
        simp only [Bool.and_eq_true, decide_eq_true_eq] at ht
        obtain ⟨hl, ht⟩ := ht
        cases tys with
        | nil => simp at hl
        | cons t ts =>
          cases ts with
          | cons _ _ => simp at hl
          | nil =>
            have T := mTys_at ht
            have T' := T
            cases T' with
            | cons _ _ _ _ _ =>
              exact both (snd_isi1 (p := p) C G h1 h2 h3 h4 hs ka T) rfl
    · cases h
  | .call f r es, X, Wx, sc, e, hN, C, G, h => by
    unfold mE at h
    split at h
    · simp only [Bool.and_eq_true, decide_eq_true_eq] at h
      obtain ⟨⟨⟨⟨⟨⟨rfl, h2⟩, h3⟩, h4⟩, h5⟩, h6⟩, h7⟩ := h
      exact both (snd_call C G h2 (or_at h3) h4 h5 h6 (sAs M es X Wx sc _ hN C G h7)) rfl
    · cases h
  | .mut m i es, X, Wx, sc, e, hN, C, G, h => by
    unfold mE at h
    split at h
    · simp only [Bool.and_eq_true, Bool.or_eq_true, decide_eq_true_eq] at h
      obtain ⟨⟨⟨⟨⟨rfl, h2⟩, h3⟩, h4⟩, h5⟩, h6⟩ := h
      obtain ⟨x, p, rfl, g1, g2, g3⟩ := mName_at h4
      by_cases hm : m = "pop"
      · subst hm
        have A := sEs M es X Wx sc _ hN C G h6
        cases A with
        | nil => exact both (snd_pop0 (p := p) C (by rw [hN]; exact g1) g2 g3 h5) rfl
        | cons hs s1 s2 t =>
          cases t with
          | nil => exact both (snd_pop1 (p := p) C (by rw [hN]; exact g1) g2 g3 h5 hs s1 (.cons hs s1 s2 .nil)) rfl
          | cons _ _ _ t =>
            rcases h3 with h3 | h3
            · simp [Es.len] at h3
            · cases h3.2
      · have h2 : m = "append" ∨ m = "extend" := by
          rcases h2 with h2 | h2
          · exact h2
          · exact (hm h2).elim
        have h3 : es.len = 1 := by
          rcases h3 with h3 | h3
          · exact h3
          · exact (hm h3.1).elim
        exact both (snd_mut (p := p) C h2 h3 (by rw [hN]; exact g1) g2 g3 h5 (sEs M es X Wx sc _ hN C G h6)) rfl
    · cases h
  | .comp t vs it cs elt r, X, Wx, sc, e, hN, C, G, h => by
    unfold mE at h
    split at h
    · simp only [Bool.and_eq_true] at h
      obtain ⟨⟨⟨⟨⟨⟨⟨h1, h2⟩, h3⟩, h4⟩, h5⟩, h6⟩, h7⟩, h8⟩ := h
      exact both (snd_comp (M := M) (r := r) C (by rw [hN]; exact h1) (fun i hi => by simpa using List.all_eq_true.mp h2 i hi) (or_at h3) h4 (fun X' e' C' => sT M t X' WxF _ _ (e'.trans hN) C' h5) (sI M it X Wx sc _ _ hN C G h6)
        (fun X' e' C' G' => sTests M cs X' WxF _ _ (e'.trans hN) C' G' h7) (fun X' e' C' G' => (sE M elt X' WxF _ _ (e'.trans hN) C' G' h8).1) G) rfl
    · cases h
  | .dnew t, X, Wx, sc, e, hN, C, G, h => by
    unfold mE at h
    split at h
    · exact both snd_dnew rfl
    · cases h
  | .dix a k, X, Wx, sc, e, hN, C, G, h => by
    unfold mE at h
    split at h
    · simp only [Bool.and_eq_true] at h
      exact both (snd_dix G.room.units h.1.1 (sE M a X Wx sc _ hN C G h.1.2).1 (sE M k X Wx sc _ hN C G h.2).1) rfl
    · cases h
  | .din neg k a, X, Wx, sc, e, hN, C, G, h => by
    unfold mE at h
    split at h
    · simp only [Bool.and_eq_true, Bool.not_eq_true', decide_eq_true_eq] at h
      obtain ⟨⟨⟨rfl, h2⟩, h3⟩, h4⟩ := h
      have k1 := (sE M k X Wx sc _ hN C G h3).1
      have k2 := (sE M a X Wx sc _ hN C G h4).1
      exact ⟨snd_din G.room.units h2 k1 k2, sndT_din G.room.units h2 k1 k2⟩
    · cases h
  | .dget _ _ _, X, Wx, sc, e, hN, C, G, h => by unfold mE at h; cases h
  | .deq neg a c, X, Wx, sc, e, hN, C, G, h => by
    unfold mE at h
    split at h
    · simp only [Bool.and_eq_true, Bool.not_eq_true', decide_eq_true_eq] at h
      obtain ⟨⟨⟨rfl, h2⟩, h3⟩, h4⟩ := h
      have k1 := (sE M a X Wx sc _ hN C G h3).1
      have k2 := (sE M c X Wx sc _ hN C G h4).1
      exact ⟨snd_deq G.room.units h2 k1 k2, sndT_deq G.room.units h2 k1 k2⟩
    · cases h
  | .dlen _, X, Wx, sc, e, hN, C, G, h => by unfold mE at h; cases h
  | .dof t a, X, Wx, sc, e, hN, C, G, h => by
    unfold mE at h
    split at h
    · simp only [Bool.and_eq_true] at h
      obtain ⟨⟨h1, h3⟩, h4⟩ := h
      obtain ⟨x, p, rfl, a1, a2, a3, a4⟩ := mBlt_at h1
      exact both (snd_dof C G a1 a2 a3 a4 h3 (sE M a X Wx sc _ hN C G h4).1) rfl
    · cases h
  | .dcomp d t vs it cs k v, X, Wx, sc, e, hN, C, G, h => by
    unfold mE at h
    split at h
    · rw [Bool.and_eq_true, Bool.and_eq_true, Bool.and_eq_true, Bool.and_eq_true, Bool.and_eq_true, Bool.and_eq_true, Bool.and_eq_true, Bool.and_eq_true] at h
      obtain ⟨⟨⟨⟨⟨⟨⟨⟨h1, h2⟩, h3⟩, h4⟩, h5⟩, h6⟩, h7⟩, h8⟩, h9⟩ := h
      exact both (snd_dcomp (M := M) C (by rw [hN]; exact h1) (fun i hi => by simpa using List.all_eq_true.mp h2 i hi) h3 h4 (fun X' e' C' => sT M t X' WxF _ _ (e'.trans hN) C' h5) (sI M it X Wx sc _ _ hN C G h6)
        (fun X' e' C' G' => sTests M cs X' WxF _ _ (e'.trans hN) C' G' h7) (fun X' e' C' G' => (sE M k X' WxF _ _ (e'.trans hN) C' G' h8).1) (fun X' e' C' G' => (sE M v X' WxF _ _ (e'.trans hN) C' G' h9).1) G) rfl
    · cases h
theorem sEs (M : Nm) : ∀ (cs : Es) (X : Cx) (Wx : WX) (sc : Scope) (es : List Expr), X.N = M.N → Ctx X Wx sc → GOk X cl M.bs M.fs n → mEs M sc cs es = true → AllSnd X Wx cl cs es
  | .nil, X, Wx, sc, es, hN, C, G, h => by
    unfold mEs at h
    have : es = [] := by simpa using h
    subst this
    exact .nil
  | .cons c cs, X, Wx, sc, es, hN, C, G, h => by
    unfold mEs at h
    split at h
    · simp only [Bool.and_eq_true] at h
      have k := sE M c X Wx sc _ hN C G h.1.2
      exact .cons h.1.1 k.1 k.2 (sEs M cs X Wx sc _ hN C G h.2)
    · cases h
theorem sTests (M : Nm) : ∀ (cs : Es) (X : Cx) (Wx : WX) (sc : Scope) (es : List Expr), X.N = M.N → Ctx X Wx sc → GOk X cl M.bs M.fs n → mTests M sc cs es = true → TestsSnd X Wx cl cs es
  | .nil, X, Wx, sc, es, hN, C, G, h => by
    unfold mTests at h
    have : es = [] := by simpa using h
    subst this
    exact .nil
  | .cons c cs, X, Wx, sc, es, hN, C, G, h => by
    unfold mTests at h
    split at h
    · simp only [Bool.and_eq_true] at h
      cases cs with
      | nil => exact .one (sE M c X Wx sc _ hN C G h.2).2
      | cons _ _ => simp [Es.isNil] at h
    · cases h
theorem sAs (M : Nm) : ∀ (cs : Es) (X : Cx) (Wx : WX) (sc : Scope) (es : List Expr), X.N = M.N → Ctx X Wx sc → GOk X cl M.bs M.fs n → mAs M sc cs es = true → ArgSnd X Wx cl cs es
  | .nil, X, Wx, sc, es, hN, C, G, h => by
    unfold mAs at h
    have : es = [] := by simpa using h
    subst this
    exact .nil
  | .cons c cs, X, Wx, sc, es, hN, C, G, h => by
    unfold mAs at h
    split at h
    · simp only [Bool.and_eq_true] at h
      obtain ⟨h1, h2⟩ := h
      have A := sAs M cs X Wx sc _ hN C G h2
      cases hi : c.isIo with
      | none =>
        rw [hi] at h1
        simp only [Bool.and_eq_true] at h1
        exact .cons hi h1.1 (sE M c X Wx sc _ hN C G h1.2).1 A
      | some i =>
        rw [hi] at h1
        obtain ⟨x, p, rfl, g1, g2, g3⟩ := mName_at h1
        have e : c = .io i := by
          cases c <;> simp [E.isIo] at hi
          rw [hi]
        subst e
        exact .io (by rw [hN]; exact g1) (C.vis g2) g3 A
    · cases h
theorem sI (M : Nm) : ∀ (it : Mir.It) (X : Cx) (Wx : WX) (sc : Scope) (tg e : Expr), X.N = M.N → Ctx X Wx sc → GOk X cl M.bs M.fs n → mI M sc it tg e = true → SndI X Wx cl it tg e
  | .seq c, X, Wx, sc, tg, e, hN, C, G, h => by
    unfold mI at h
    exact snd_seq (sE M c X Wx sc _ hN C G h).1
  | .rng es, X, Wx, sc, tg, e, hN, C, G, h => by
    unfold mI at h
    split at h
    · simp only [Bool.and_eq_true, Bool.or_eq_true, decide_eq_true_eq] at h
      obtain ⟨x, p, rfl, h1, h2, h3, h4⟩ := mBlt_at h.1.1
      exact snd_rng C G h1 h2 h3 h.1.2 (sEs M es X Wx sc _ hN C G h.2)
    · cases h
  | .zip es, X, Wx, sc, tg, e, hN, C, G, h => by
    unfold mI at h
    split at h
    · simp only [Bool.and_eq_true, decide_eq_true_eq] at h
      obtain ⟨x, p, rfl, h1, h2, h3, h4⟩ := mBlt_at h.1.1.1
      have ht := h.1.1.2
      unfold isTupE at ht
      split at ht
      · exact snd_zip C G h1 h2 h3 h.1.2 (sEs M es X Wx sc _ hN C G h.2)
      · cases ht
    · cases h
  | .enum es, X, Wx, sc, tg, e, hN, C, G, h => by
    unfold mI at h
    split at h
    · simp only [Bool.and_eq_true, decide_eq_true_eq] at h
      obtain ⟨x, p, rfl, h1, h2, h3, h4⟩ := mBlt_at h.1.1.1
      have ht := h.1.1.2
      unfold isTupE at ht
      split at ht
      · exact snd_enum C G h1 h2 h3 h.1.2 (sEs M es X Wx sc _ hN C G h.2)
      · cases ht
    · cases h
  | .dct a, X, Wx, sc, tg, e, hN, C, G, h => by
    unfold mI at h
    exact snd_dct (sE M a X Wx sc _ hN C G h).1
  | .dits _, X, Wx, sc, tg, e, hN, C, G, h => by unfold mI at h; cases h
  | .dvals _, X, Wx, sc, tg, e, hN, C, G, h => by unfold mI at h; cases h
end
end
end Mir
set_option Elab.async false
set_option linter.all false
set_option maxRecDepth 100000
set_option maxHeartbeats 4000000
/-! Mir, part T: statements, one by one. -/
namespace Mir
open PySem L2 PyProof.Rows

def Fx (io : List Nat) (σ σ' : L2.St) : Prop := σ'.length = σ.length ∧ ∀ i ∈ io, σ'[i]? = σ[i]?
theorem Fx.refl (io : List Nat) (σ : L2.St) : Fx io σ σ := ⟨rfl, fun _ _ => rfl⟩
theorem Fx.trans {io : List Nat} {σ σ1 σ2 : L2.St} (a : Fx io σ σ1) (b : Fx io σ1 σ2) : Fx io σ σ2 := ⟨b.1.trans a.1, fun i h => (b.2 i h).trans (a.2 i h)⟩
theorem Fx.set {io : List Nat} {σ : L2.St} {i : Nat} {v : Option V} (h : i ∉ io) : Fx io σ (σ.set i v) := ⟨by simp, fun j hj => by rw [List.getElem?_set_ne (show ¬ i = j from fun e => h (by rw [e]; exact hj))]⟩
theorem Upd.fx {io vs : List Nat} {σ σ' : L2.St} (u : Upd vs σ σ') (h : ∀ i ∈ vs, i ∉ io) : Fx io σ σ' := ⟨u.1, fun i hi => u.2 i fun z => h i z hi⟩
section
variable (K : PySem.W.Frag) (mg : Str → Option Value) (Wx : WX) (io : List Nat) (σ : L2.St) (H Hf : Hp) (as : Nat → List Addr)
def Ok1 (P : L2.St → Hp → Prop) (τ' : Tau) : Prop := ∀ σ' H' Hf' as', Rel K mg τ' σ' H' Hf' as' → Stp true (Wof as) H Hf H' Hf' (Wof as') → Fx io σ σ' → P σ' H'
def FdM (f : F) (D : Ends) : Prop :=
  match f with
  | .nx τ' => Ok1 K mg io σ H Hf as D.nx τ'
  | .bk τ' => Ok1 K mg io σ H Hf as D.bk τ'
  | .ct τ' => Ok1 K mg io σ H Hf as D.ct τ'
  | .rt o τ' => ∀ v σ' H' Hf' as' ao, Rel K mg τ' σ' H' Hf' as' → ROwn K mg Hf' H' o v ao → ao.Nodup → (∀ c ∈ ao, ¬ Wof as' c) → Stp true (Wof as) H Hf H' Hf' (fun c => Wof as' c ∨ c ∈ ao) → Fx io σ σ' → D.rt v H'
  | .ex x τ' => ∀ cls dd σ' H' Hf' as', XRep mg x cls dd → Rel K mg τ' σ' H' Hf' as' → Stp true (Wof as) H Hf H' Hf' (Wof as') → Fx io σ σ' → Wx cls dd σ' H'
  | .st => False
end
section
variable {K : PySem.W.Frag} {mg : Str → Option Value} {Wx : WX} {io : List Nat} {σ σ1 : L2.St} {H Hf H1 Hf1 : Hp} {as as1 : Nat → List Addr} {f : F} {D : Ends} {W1 : Addr → Prop}
theorem Ok1.rebase {P : L2.St → Hp → Prop} {τ' : Tau} (h : Ok1 K mg io σ H Hf as P τ') (s : Stp true (Wof as) H Hf H1 Hf1 W1) (hs : ∀ c, Wof as1 c → W1 c) (x : Fx io σ σ1) : Ok1 K mg io σ1 H1 Hf1 as1 P τ' :=
  fun σ' H' Hf' as' r s' x' => h σ' H' Hf' as' r (s.trans hs s') (x.trans x')
theorem FdM.rebase (h : FdM K mg Wx io σ H Hf as f D) (s : Stp true (Wof as) H Hf H1 Hf1 W1) (hs : ∀ c, Wof as1 c → W1 c) (x : Fx io σ σ1) : FdM K mg Wx io σ1 H1 Hf1 as1 f D := by
  cases f with
  | nx τ' => exact Ok1.rebase h s hs x
  | bk τ' => exact Ok1.rebase h s hs x
  | ct τ' => exact Ok1.rebase h s hs x
  | rt o τ' => exact fun v σ' H' Hf' as' ao r ow nd dj s' x' => h v σ' H' Hf' as' ao r ow nd dj (s.trans hs s') (x.trans x')
  | ex e τ' => exact fun cls dd σ' H' Hf' as' hx r s' x' => h cls dd σ' H' Hf' as' hx r (s.trans hs s') (x.trans x')
  | st => exact h
theorem FdM.toF {α : Type} {r : R α} {k : α → Tau → F} (h : FdM K mg Wx io σ H Hf as (r.toF k) D) : RdM K mg Wx true σ H Hf as r (fun a τ' => FdM K mg Wx io σ H Hf as (k a τ') D) := by
  cases r with
  | ok a τ' => exact h
  | ex x τ' => exact fun cls dd H' Hf' as' hx r s => h cls dd σ H' Hf' as' hx r s (Fx.refl _ _)
  | st => exact h
theorem FdM.seq {g : Tau → F} (h : FdM K mg Wx io σ H Hf as (f.seq g) D) : FdM K mg Wx io σ H Hf as f { D with nx := fun σ' H' => ∃ τ Hf' as', Rel K mg τ σ' H' Hf' as' ∧ FdM K mg Wx io σ' H' Hf' as' (g τ) D } := by
  cases f with
  | nx τ' => exact fun σ' H' Hf' as' r s x => ⟨τ', Hf', as', r, FdM.rebase h s (fun _ z => z) x⟩
  | bk τ' => exact h
  | ct τ' => exact h
  | rt o τ' => exact h
  | ex e τ' => exact h
  | st => exact h
theorem FdM.turn {g : Tau → F} (h : FdM K mg Wx io σ H Hf as (f.turn g) D) {N : L2.St → Hp → Prop} (hN : ∀ τ' σ' H' Hf' as', Rel K mg τ' σ' H' Hf' as' → Stp true (Wof as) H Hf H' Hf' (Wof as') → FdM K mg Wx io σ' H' Hf' as' (g τ') D → N σ' H') : FdM K mg Wx io σ H Hf as f { D with nx := N, ct := N, bk := D.nx } := by
  cases f with
  | nx τ' => exact fun σ' H' Hf' as' r s x => hN τ' σ' H' Hf' as' r s (FdM.rebase h s (fun _ z => z) x)
  | bk τ' => exact h
  | ct τ' => exact fun σ' H' Hf' as' r s x => hN τ' σ' H' Hf' as' r s (FdM.rebase h s (fun _ z => z) x)
  | rt o τ' => exact h
  | ex e τ' => exact h
  | st => exact h
end
def RdS (X : Cx) (Wx : WX) (cl : Cl) (io : List Nat) (s : S) : TS := fun D σ H => ∃ τ Hf as, Rel X.K X.mg τ σ H Hf as ∧ FdM X.K X.mg Wx io σ H Hf as (evalS cl s τ) D
def RdSs (X : Cx) (Wx : WX) (cl : Cl) (io : List Nat) (ss : List S) : TS := fun D σ H => ∃ τ Hf as, Rel X.K X.mg τ σ H Hf as ∧ FdM X.K X.mg Wx io σ H Hf as (evalSs cl ss τ) D
theorem _root_.L2.PS.imp {X : Cx} {e : Stmt} {t t' : TS} (h : PS X e t) (i : ∀ D σ H, t' D σ H → t D σ H) : PS X e t' := ⟨fun pins s σ H D I q => h.run pins s σ H D I (i D σ H q)⟩
theorem _root_.L2.PSs.imp {X : Cx} {e : List Stmt} {t t' : TS} (h : PSs X e t) (i : ∀ D σ H, t' D σ H → t D σ H) : PSs X e t' := ⟨fun pins s σ H D I q => h.run pins s σ H D I (i D σ H q)⟩
structure SCtx (X : Cx) (Wx : WX) (sc : Scope) : Prop extends Ctx X Wx sc where
  own : PassesOwn (model X.prog X.w) X.A X.env X.xe
  kind : X.env.scope.kind = .function
section
variable {X : Cx} {Wx : WX} {sc : Scope} {cl : Cl} {io : List Nat} {bs fs : List Str} {n : Nat} {pos p : Pos}
theorem ss_nil : PSs X [] (RdSs X Wx cl io []) := pss_nil.imp fun D σ H q => by
  obtain ⟨τ, Hf, as, rel, q⟩ := q
  rw [evalSs] at q
  exact q σ H Hf as rel (Stp.refl fun _ z => z) (Fx.refl _ _)
theorem ss_cons {s : S} {ss : List S} {st : Stmt} {sts : List Stmt} (h1 : PS X st (RdS X Wx cl io s)) (h2 : PSs X sts (RdSs X Wx cl io ss)) : PSs X (st :: sts) (RdSs X Wx cl io (s :: ss)) := (pss_cons h1 h2).imp fun D σ H q => by
  obtain ⟨τ, Hf, as, rel, q⟩ := q
  rw [evalSs] at q
  exact ⟨τ, Hf, as, rel, q.seq⟩
theorem st_pass : PS X (.Pass pos) (RdS X Wx cl io .pass) := ps_pass.imp fun D σ H q => by
  obtain ⟨τ, Hf, as, rel, q⟩ := q
  rw [evalS] at q
  exact q σ H Hf as rel (Stp.refl fun _ z => z) (Fx.refl _ _)
theorem st_doc {x : Str} {j : Nat} : PS X (.Expr (.Constant (.str x) j p) pos) (RdS X Wx cl io .pass) := ps_doc.imp fun D σ H q => by
  obtain ⟨τ, Hf, as, rel, q⟩ := q
  rw [evalS] at q
  exact q σ H Hf as rel (Stp.refl fun _ z => z) (Fx.refl _ _)
theorem st_brk : PS X (.Break pos) (RdS X Wx cl io .brk) := ps_break.imp fun D σ H q => by
  obtain ⟨τ, Hf, as, rel, q⟩ := q
  rw [evalS] at q
  exact q σ H Hf as rel (Stp.refl fun _ z => z) (Fx.refl _ _)
theorem st_cont : PS X (.Continue pos) (RdS X Wx cl io .cont) := ps_continue.imp fun D σ H q => by
  obtain ⟨τ, Hf, as, rel, q⟩ := q
  rw [evalS] at q
  exact q σ H Hf as rel (Stp.refl fun _ z => z) (Fx.refl _ _)
theorem st_never {st : Stmt} : PS X st (RdS X Wx cl io .never) := ps_never.imp fun D σ H q => by
  obtain ⟨τ, Hf, as, rel, q⟩ := q
  rw [evalS] at q
  exact q
theorem st_expr {e : E} {x : Expr} (hn : notComp x = true) (h : Snd X Wx cl e x) : PS X (.Expr x pos) (RdS X Wx cl io (.expr e)) := (ps_expr (h true false (by simp)) (swaps_eq hn)).imp fun D σ H q => by
  obtain ⟨τ, Hf, as, rel, q⟩ := q
  rw [evalS] at q
  refine ⟨τ, Hf, as, rel, q.toF.imp fun o τ1 q => ?_⟩
  intro v H1 Hf1 as1 ao r s
  exact q σ H1 Hf1 as1 r s.stp (Fx.refl _ _)
theorem st_retN : PS X (.Return none pos) (RdS X Wx cl io .retN) := ps_retN.imp fun D σ H q => by
  obtain ⟨τ, Hf, as, rel, q⟩ := q
  rw [evalS] at q
  exact q .non σ H Hf as [] rel (by rw [ROwn]; exact ⟨rfl, .non⟩) List.nodup_nil (fun c hc => by cases hc) (Stp.refl fun _ z => z.elim id fun z => by cases z) (Fx.refl _ _)
theorem st_retE {e : E} {x : Expr} (he : ∀ τ, evalS cl (.ret e) τ = (evalG cl false e τ).toF fun o τ => .rt o τ) (h : Snd X Wx cl e x) : PS X (.Return (some x) pos) (RdS X Wx cl io (.ret e)) := (ps_ret (h true false (by simp))).imp fun D σ H q => by
  obtain ⟨τ, Hf, as, rel, q⟩ := q
  rw [he] at q
  refine ⟨τ, Hf, as, rel, q.toF.imp fun o τ1 q => ?_⟩
  intro v H1 Hf1 as1 ao r s
  obtain ⟨ow, nd, dj⟩ := s.2.1 rfl
  exact q v σ H1 Hf1 as1 ao r ow nd dj (s.2.2.sub fun c z => z.imp id fun z => ⟨rfl, z⟩) (Fx.refl _ _)
theorem st_retL {i : Nat} {x : Str} (C : Ctx X Wx sc) (hN : X.N[i]? = some x) (hv : visB sc x = true) (ho : okName x = true) : PS X (.Return (some (.Name x p)) pos) (RdS X Wx cl io (.ret (.loc i))) := by
  obtain ⟨h1, h2, _⟩ := okName_at ho
  refine (ps_ret (pe_var hN (C.vis hv) h1 h2)).imp fun D σ H q => ?_
  obtain ⟨τ, Hf, as, rel, q⟩ := q
  rw [evalS] at q
  cases e : getO τ i with
  | none => rw [e] at q; exact q.elim
  | some o =>
    rw [e] at q
    obtain ⟨v, ev, ow⟩ := rel.slot i o e
    refine ⟨v, ev, ?_⟩
    refine q v σ H Hf (put as i []) (as i) rel.setN ow (rel.nd i) (fun c hc z => ?_) (Stp.refl fun c z => ?_) (Fx.refl _ _)
    · obtain ⟨j, hj⟩ := z
      by_cases ji : j = i
      · subst ji; rw [put_same] at hj; cases hj
      · rw [put_ne ji] at hj; exact ji (rel.sep j i c hj hc)
    · rcases z with z | z
      · exact (Wof_put z).elim id fun z => by cases z
      · exact ⟨i, z⟩
theorem st_ifs {c : E} {a b : List S} {e : Expr} {sa sb : List Stmt} (hc : SndT X Wx cl c e) (ha : PSs X sa (RdSs X Wx cl io a)) (hb : PSs X sb (RdSs X Wx cl io b)) : PS X (.If e sa sb pos) (RdS X Wx cl io (.ifs c a b)) := (ps_if (hc true (by simp)) ha hb).imp fun D σ H q => by
  obtain ⟨τ, Hf, as, rel, q⟩ := q
  rw [evalS] at q
  refine ⟨τ, Hf, as, rel, q.toF.imp fun k τ1 q => ?_⟩
  intro H1 Hf1 as1 r s
  cases k with
  | true =>
    rw [if_pos rfl] at q ⊢
    exact ⟨τ1, Hf1, as1, r, q.rebase s (fun _ z => z) (Fx.refl _ _)⟩
  | false =>
    rw [if_neg Bool.false_ne_true] at q ⊢
    exact ⟨τ1, Hf1, as1, r, q.rebase s (fun _ z => z) (Fx.refl _ _)⟩
theorem st_whiles {c : E} {body : List S} {e : Expr} {sb : List Stmt} (C : SCtx X Wx sc) (hc : SndT X Wx cl c e) (hb : PSs X sb (RdSs X Wx cl io body)) : PS X (.While e sb [] pos) (RdS X Wx cl io (.whiles c body)) := (ps_while C.own (hc true (by simp)) hb).imp fun D σ H q => by
  obtain ⟨τ, Hf, as, rel, q⟩ := q
  rw [evalS] at q
  refine ⟨fun m σ H => ∃ τ Hf as, Rel X.K X.mg τ σ H Hf as ∧ FdM X.K X.mg Wx io σ H Hf as (whileL (fun τ => asB (evalG cl true c τ)) (fun τ => evalSs cl body τ) m τ) D, ⟨wfuel, τ, Hf, as, rel, q⟩, ?_⟩
  rintro m σ H ⟨τ, Hf, as, rel, q⟩
  cases m with
  | zero => exact q.elim
  | succ m =>
    rw [whileL] at q
    refine ⟨τ, Hf, as, rel, q.toF.imp fun k τ1 q => ?_⟩
    intro H1 Hf1 as1 r s
    cases k with
    | true =>
      rw [if_pos rfl] at q ⊢
      refine ⟨fun σ' H' => ∃ τ Hf as, Rel X.K X.mg τ σ' H' Hf as ∧ FdM X.K X.mg Wx io σ' H' Hf as (whileL (fun τ => asB (evalG cl true c τ)) (fun τ => evalSs cl body τ) m τ) D, fun σ' H' h => ⟨m, Nat.lt_succ_self _, h⟩, τ1, Hf1, as1, r, ?_⟩
      exact (q.rebase s (fun _ z => z) (Fx.refl _ _)).turn fun τ' σ' H' Hf' as' r' _ q' => ⟨τ', Hf', as', r', q'⟩
    | false =>
      rw [if_neg Bool.false_ne_true] at q ⊢
      exact q σ H1 Hf1 as1 r s (Fx.refl _ _)
theorem st_fors {t : T} {it : Mir.It} {body : List S} {tg iter : Expr} {sb : List Stmt} (C : SCtx X Wx sc) (hs : notSet iter = true) (hv : ∀ i ∈ t.vars, i ∉ io) (hi : SndI X Wx cl it tg iter) (hg : PG X tg (RdG X.K X.mg t)) (hb : PSs X sb (RdSs X Wx cl io body)) : PS X (.For tg iter sb [] pos) (RdS X Wx cl io (.fors t it body)) :=
  (ps_for C.own C.calm (hi true false (by simp)) hg hb (folded_eq hs)).imp fun D σ H q => by
  obtain ⟨τ, Hf, as, rel, q⟩ := q
  rw [evalS] at q
  refine ⟨τ, Hf, as, rel, q.toF.imp fun xs τ1 q => ?_⟩
  intro J H1 Hf1 as1 r1 s1 hJ _
  refine ⟨fun i m σ H => m = xs.length - i ∧ i ≤ xs.length ∧ ∃ τ Hf as, Rel X.K X.mg τ σ H Hf as ∧ Same Hf1 Hf ∧ FdM X.K X.mg Wx io σ H Hf as (forL t.set (fun τ => evalSs cl body τ) (xs.drop i) τ) D,
    ⟨xs.length, by simp, Nat.zero_le _, τ1, Hf1, as1, r1, Same.refl _, by rw [List.drop_zero]; exact q.rebase s1 (fun _ z => z) (Fx.refl _ _)⟩, ?_⟩
  rintro i m σ2 H2 ⟨rfl, hi, τ2, Hf2, as2, r2, g2, q2⟩
  have hWk := hJ H2 Hf2 g2 r2.sub fun z => by cases z
  by_cases hlt : i < xs.length
  · refine .inr ⟨(hWk.1 i _ (List.getElem?_eq_getElem hlt)).1, fun σ' H' => i + 1 ≤ xs.length ∧ ∃ τ Hf as, Rel X.K X.mg τ σ' H' Hf as ∧ Same Hf1 Hf ∧ FdM X.K X.mg Wx io σ' H' Hf as (forL t.set (fun τ => evalSs cl body τ) (xs.drop (i + 1)) τ) D, fun σ' H' h => ⟨xs.length - (i + 1), by omega, rfl, h⟩, fun x H3 y => ?_⟩
    have hy := (hWk.1 i _ (List.getElem?_eq_getElem hlt)).2 x H3 y
    obtain ⟨Hf3, r3, rp, st3⟩ := hy.step r2
    have e : xs.drop i = xs[i] :: xs.drop (i + 1) := List.drop_eq_getElem_cons hlt
    rw [e, forL] at q2
    cases es : t.set xs[i] τ2 with
    | none => rw [es] at q2; exact q2.elim
    | some τ3 =>
      rw [es] at q2
      refine ⟨τ2, Hf3, as2, xs[i], τ3, r3, rp, es, fun σ4 as4 r4 w4 u4 => ⟨τ3, Hf3, as4, r4, ?_⟩⟩
      have q2 : FdM X.K X.mg Wx io σ2 H2 Hf2 as2 ((evalSs cl body τ3).turn fun τ2 => forL t.set (fun τ => evalSs cl body τ) (xs.drop (i + 1)) τ2) D := q2
      refine (q2.rebase (st3.weak fun z => by cases z) w4 (u4.fx hv)).turn fun τ' σ' H' Hf' as' r' s' q' => ⟨hlt, τ', Hf', as', r', (g2.trans st3.grow).trans s'.grow, q'⟩
  · have e : i = xs.length := by omega
    subst e
    refine .inl ⟨hWk.2 _ (Nat.le_refl _), ?_⟩
    rw [List.drop_length, forL] at q2
    exact q2 σ2 H2 Hf2 as2 r2 (Stp.refl fun _ z => z) (Fx.refl _ _)
end
end Mir
set_option Elab.async false
set_option linter.all false
set_option maxRecDepth 100000
set_option maxHeartbeats 4000000
/-! Mir, part U: statements that store. -/
namespace Mir
open PySem L2 PyProof.Rows

section
variable {X : Cx} {Wx : WX} {sc : Scope} {cl : Cl} {io : List Nat} {bs fs : List Str} {n : Nat} {pos p : Pos}
theorem st_asg {i : Nat} {e : E} {st : Stmt} (hi : i ∉ io) (h : PS X st (tAsg (RdE X Wx cl true false e) (gName i))) : PS X st (RdS X Wx cl io (.asg (.nm i) e)) := h.imp fun D σ H q => by
  obtain ⟨τ, Hf, as, rel, q⟩ := q
  rw [evalS] at q
  refine ⟨τ, Hf, as, rel, q.toF.imp fun o τ1 q => ?_⟩
  intro v H1 Hf1 as1 ao r s
  obtain ⟨ow, nd, dj⟩ := s.2.1 rfl
  by_cases hl : i < τ1.length
  · rw [if_pos hl] at q
    refine q _ H1 Hf1 _ (r.setO hl ow nd dj) (s.2.2.sub fun c z => ?_) (Fx.set hi)
    exact (Wof_put z).imp id fun z => ⟨rfl, z⟩
  · rw [if_neg hl] at q; exact q.elim
theorem st_asgT {ts : Ts} {e : E} {x tg : Expr} (C : Ctx X Wx sc) (hv : ∀ i ∈ (T.tup ts).vars, i ∉ io) (he : Snd X Wx cl e x) (hg : PG X tg (RdG X.K X.mg (.tup ts))) (ht : ∃ es k p, tg = .Tuple es k p) (hw : swappedStores [tg] x X.env = pure none) :
    PS X (.Assign [tg] x pos) (RdS X Wx cl io (.asg (.tup ts) e)) := by
  obtain ⟨es, k, p, rfl⟩ := ht
  have h1 : (assignEach [Expr.Tuple es k p] X.env).map (·.2) = [assign (.Tuple es k p) X.env] := rfl
  have hs : swapsWithSole [Expr.Tuple es k p] x pos.line X.env = pure false := by
    show swapsWith x (some (.Tuple es k p)) pos.line X.env = pure false
    cases x <;> rfl
  refine (ps_asg (he true false (by simp)) hg hs hw h1).imp fun D σ H q => ?_
  obtain ⟨τ, Hf, as, rel, q⟩ := q
  have he2 : evalS cl (.asg (.tup ts) e) τ = (evalG cl false e τ).toF fun o τ => nxO ((T.tup ts).set o.data τ) := by
    rw [evalS]
    intro i z
    cases z
  rw [he2] at q
  refine ⟨τ, Hf, as, rel, q.toF.imp fun o τ1 q => ?_⟩
  intro v H1 Hf1 as1 ao r s
  obtain ⟨r2, rp, _, st⟩ := s.freeze r
  cases e1 : (T.tup ts).set o.data τ1 with
  | none => rw [e1] at q; exact q.elim
  | some τ2 =>
    rw [e1] at q
    exact ⟨τ1, _, as1, o.data, τ2, r2, rp, e1, fun σ' as' r' w' u' => q σ' H1 _ as' r' (st.sub w') (u'.fx hv)⟩
/-- several stores -/
def sset (σ : L2.St) : List Nat → List V → L2.St
  | i :: is, v :: vs => sset (σ.set i (some v)) is vs
  | _, _ => σ
theorem setAll_rel {K : PySem.W.Frag} {mg : Str → Option Value} {H Hf : Hp} : ∀ {is : List Nat} {os : List O} {vs : List V} {ao : List Addr} {τ τ' : Tau} {σ : L2.St} {as : Nat → List Addr}, Rel K mg τ σ H Hf as → ROwns K mg Hf H os vs ao → ao.Nodup → (∀ c ∈ ao, ¬ Wof as c) → setAll τ is os = some τ' → (∀ i ∈ is, i ∉ io) →
    ∃ as', Rel K mg τ' (sset σ is vs) H Hf as' ∧ (∀ c, Wof as' c → Wof as c ∨ c ∈ ao) ∧ Fx io σ (sset σ is vs) ∧ is.length = vs.length
  | [], [], vs, ao, τ, τ', σ, as, r, ow, nd, dj, e, _ => by
    rw [ROwns] at ow
    obtain ⟨rfl, rfl⟩ := ow
    cases e
    exact ⟨as, r, fun c z => .inl z, Fx.refl _ _, rfl⟩
  | [], _ :: _, _, _, _, _, _, _, _, _, _, _, e, _ => by simp [setAll] at e
  | _ :: _, [], _, _, _, _, _, _, _, _, _, _, e, _ => by simp [setAll] at e
  | i :: is, o :: os, vs, ao, τ, τ', σ, as, r, ow, nd, dj, e, hio => by
    rw [ROwns] at ow
    obtain ⟨v, vr, a1, a2, rfl, rfl, o1, o2⟩ := ow
    rw [setAll] at e
    rw [List.nodup_append] at nd
    by_cases hl : i < τ.length
    · rw [if_pos hl] at e
      have r1 := r.setO hl o1 nd.1 fun c hc => dj c (List.mem_append_left _ hc)
      obtain ⟨as', r2, h2, fx, hlen⟩ := setAll_rel r1 o2 nd.2.1 (fun c hc z => by
        rcases Wof_put z with z | z
        · exact dj c (List.mem_append_right _ hc) z
        · exact nd.2.2 c z c hc rfl) e fun j hj => hio j (List.mem_cons_of_mem _ hj)
      refine ⟨as', r2, fun c z => ?_, (Fx.set (hio i List.mem_cons_self)).trans fx, by rw [List.length_cons, List.length_cons, hlen]⟩
      rw [List.mem_append]
      rcases h2 c z with z | z
      · exact (Wof_put z).imp id .inl
      · exact .inr (.inr z)
    · rw [if_neg hl] at e; cases e
theorem rd_par {is : List Nat} {es : Es} {D : Ends} {σ : L2.St} {H : Hp} (hio : ∀ i ∈ is, i ∉ io) (q : RdS X Wx cl io (.par is es) D σ H) : RdOs X Wx cl true false es σ H fun vs H1 => is.length = vs.length ∧ D.nx (sset σ is vs) H1 := by
  obtain ⟨τ, Hf, as, rel, q⟩ := q
  rw [evalS] at q
  refine ⟨τ, Hf, as, rel, q.toF.imp fun os τ1 q => ?_⟩
  intro vs H1 Hf1 as1 ao r s
  obtain ⟨ow, nd, dj⟩ := s.2.1 rfl
  cases e1 : setAll τ1 is os with
  | none => rw [e1] at q; exact q.elim
  | some τ2 =>
    rw [e1] at q
    obtain ⟨as', r2, h2, fx, hl⟩ := setAll_rel r ow nd dj e1 hio
    exact ⟨hl, q _ H1 Hf1 as' r2 (s.2.2.sub fun c z => (h2 c z).imp id fun z => ⟨rfl, z⟩) fx⟩
theorem st_par2 {i j : Nat} {x y : Str} {es : Es} {a b : Expr} {px py pt pt2 : Pos} {kt k2 : Nat} (C : Ctx X Wx sc) (hi : X.N[i]? = some x) (hj : X.N[j]? = some y) (hij : i ≠ j) (hx : X.env.scope.names.lookup x = some .local) (hy : X.env.scope.names.lookup y = some .local)
    (hw : swappedStores [.Tuple [.Name x px, .Name y py] kt pt] (.Tuple [a, b] k2 pt2) X.env = pure (some [x, y])) (hio : ∀ k ∈ [i, j], k ∉ io) (A : AllSnd X Wx cl es [a, b]) :
    PS X (.Assign [.Tuple [.Name x px, .Name y py] kt pt] (.Tuple [a, b] k2 pt2) pos) (RdS X Wx cl io (.par [i, j] es)) :=
  (ps_par C.calm C.nd hi hj hij hx hy (pa_os A true false (by simp) fun z => by cases z) hw rfl).imp fun D σ H q => (rd_par hio q).mono fun vs H1 ⟨hl, h⟩ => by
    match vs, hl with
    | [v, w], _ => exact ⟨v, w, rfl, h⟩
theorem st_par3 {i j l : Nat} {x y z : Str} {es : Es} {a b c : Expr} {px py pz pt pt2 : Pos} {kt k2 : Nat} (C : Ctx X Wx sc) (hi : X.N[i]? = some x) (hj : X.N[j]? = some y) (hl : X.N[l]? = some z) (hij : i ≠ j) (hil : i ≠ l) (hjl : j ≠ l) (hx : X.env.scope.names.lookup x = some .local) (hy : X.env.scope.names.lookup y = some .local)
    (hz : X.env.scope.names.lookup z = some .local) (hw : swappedStores [.Tuple [.Name x px, .Name y py, .Name z pz] kt pt] (.Tuple [a, b, c] k2 pt2) X.env = pure (some [x, y, z])) (hio : ∀ k ∈ [i, j, l], k ∉ io) (A : AllSnd X Wx cl es [a, b, c]) :
    PS X (.Assign [.Tuple [.Name x px, .Name y py, .Name z pz] kt pt] (.Tuple [a, b, c] k2 pt2) pos) (RdS X Wx cl io (.par [i, j, l] es)) :=
  (ps_par3 C.calm C.nd hi hj hl hij hil hjl hx hy hz (pa_os A true false (by simp) fun z => by cases z) hw rfl).imp fun D σ H q => (rd_par hio q).mono fun vs H1 ⟨hl, h⟩ => by
    match vs, hl with
    | [u, v, w], _ => exact ⟨u, v, w, rfl, h⟩

/-! ### name op= e -/
def rIp (X : Cx) (op : Operator) : TIp := fun x y H Q => ∃ Hf ox oy z, Same Hf H ∧ Rep X.K X.mg Hf x ox ∧ RVw X.K X.mg Hf H oy y ∧ augF op ox oy.data = some z ∧ ∀ v, Rep X.K X.mg Hf v z → Q v H
theorem ip_ok (op : Operator) : PIp X op (rIp X op) := by
  intro pins s σ H x y v u Q I r1 r2 h
  obtain ⟨Hf, ox, oy, z, sb, rx, vy, e, q⟩ := h
  generalize ed : oy.data = dy at e
  unfold augF at e
  split at e
  · cases e
    cases rx
    have ey := vy.int ed
    subst ey
    exact ip_add pins s σ H _ _ v u Q I r1 r2 ⟨_, _, rfl, rfl, q _ (.int _)⟩
  · cases e
    cases rx
    have ey := vy.int ed
    subst ey
    exact ip_sub pins s σ H _ _ v u Q I r1 r2 ⟨_, _, rfl, rfl, q _ (.int _)⟩
  · cases e
theorem st_aug {i : Nat} {x : Str} {op : Operator} {e : E} {ex : Expr} (C : Ctx X Wx sc) (hN : X.N[i]? = some x) (hl : locB sc x = true) (hio : i ∉ io) (h : Snd X Wx cl e ex) : PS X (.AugAssign (.Name x p) op ex pos) (RdS X Wx cl io (.aug i op e)) := by
  obtain ⟨h1, h2⟩ := C.loc hl
  refine (ps_aug C.nd hN h1 (h true true (by simp)) (ip_ok op) h2).imp fun D σ H q => ?_
  obtain ⟨τ, Hf, as, rel, q⟩ := q
  rw [evalS] at q
  cases e0 : getO τ i with
  | none => rw [e0] at q; exact q.elim
  | some o0 =>
    rw [e0] at q
    cases o0 with
    | l _ => exact q.elim
    | m _ => exact q.elim
    | d x0 =>
      obtain ⟨v, ev, ow⟩ := rel.slot i _ e0
      rw [ROwn] at ow
      refine ⟨v, ev, τ, Hf, as, rel, (FdM.toF q).imp fun y τ1 q => ?_⟩
      intro u H1 Hf1 as1 ao r s
      cases ez : augF op x0 y.data with
      | none => rw [ez] at q; exact q.elim
      | some z =>
        rw [ez] at q
        refine ⟨Hf1, x0, y, z, r.sub, ow.2.mono s.2.2.grow, s.1, ez, fun v' rv => ?_⟩
        have hl1 : i < τ1.length := by rw [r.len]; exact (List.getElem?_eq_some_iff.mp ev).1
        exact q _ H1 Hf1 _ (r.setD hl1 rv) (s.2.2.sub fun c z => (Wof_put z).elim .inl fun z => by cases z) (Fx.set hio)

/-! ### xs[k] = e -/
section
variable {K : PySem.W.Frag} {mg : Str → Option Value} {Hf H : Hp}
theorem ROwns.set : ∀ {os : List O} {vs : List V} {as : List Addr} {j : Nat} {o : O} {v : V} {ao : List Addr}, ROwns K mg Hf H os vs as → ROwn K mg Hf H o v ao → as.Nodup → ao.Nodup → (∀ c ∈ as, c ∉ ao) → j < os.length → ∃ as', ROwns K mg Hf H (os.set j o) (vs.set j v) as' ∧ as'.Nodup ∧ ∀ c ∈ as', c ∈ as ∨ c ∈ ao
  | [], _, _, _, _, _, _, _, _, _, _, _, hj => by simp at hj
  | p :: os, _, _, 0, o, v, ao, h, g, n1, n2, dj, _ => by
    rw [ROwns] at h
    obtain ⟨w, vr, a1, a2, rfl, rfl, h1, h2⟩ := h
    rw [List.nodup_append] at n1
    refine ⟨ao ++ a2, ?_, List.nodup_append.mpr ⟨n2, n1.2.1, fun x hx y hy e => ?_⟩, fun c hc => ?_⟩
    · rw [List.set_cons_zero, List.set_cons_zero, ROwns]
      exact ⟨v, vr, ao, a2, rfl, rfl, g, h2⟩
    · subst e
      exact dj x (List.mem_append_right _ hy) hx
    · rcases List.mem_append.mp hc with hc | hc
      · exact .inr hc
      · exact .inl (List.mem_append_right _ hc)
  | p :: os, _, _, j + 1, o, v, ao, h, g, n1, n2, dj, hj => by
    rw [ROwns] at h
    obtain ⟨w, vr, a1, a2, rfl, rfl, h1, h2⟩ := h
    rw [List.nodup_append] at n1
    obtain ⟨as', i1, i2, i3⟩ := ROwns.set (j := j) h2 g n1.2.1 n2 (fun c hc => dj c (List.mem_append_right _ hc)) (by simpa using hj)
    refine ⟨a1 ++ as', ?_, List.nodup_append.mpr ⟨n1.1, i2, fun x hx y hy e => ?_⟩, fun c hc => ?_⟩
    · rw [List.set_cons_succ, List.set_cons_succ, ROwns]
      exact ⟨w, _, a1, as', rfl, rfl, h1, i1⟩
    · subst e
      rcases i3 x hy with z | z
      · exact n1.2.2 x hx x z rfl
      · exact dj x (List.mem_append_left _ hx) z
    · rcases List.mem_append.mp hc with hc | hc
      · exact .inl (List.mem_append_left _ hc)
      · rcases i3 c hc with z | z
        · exact .inl (List.mem_append_right _ z)
        · exact .inr z
end
theorem pg_subs {o i : Expr} {to ti : TE} {t : TSet} (hs : notSlice i = true) (ho : PE X o to) (hi : PE X i ti) (h : PSet X t) : PG X (.Subscript o i pos) (gSub to ti t) := pg_sub ho hi h (by cases i <;> first | (intro _; rfl) | (simp [notSlice] at hs))
theorem ixN_lt {n : Nat} {k : Int} {j : Nat} (h : ixN n k = some j) : j < n := by
  unfold ixN at h
  split at h <;> (try split at h) <;> simp_all <;> omega
theorem st_put {i : Nat} {x : Str} {k e : E} {kx ex : Expr} {px : Pos} (C : Ctx X Wx sc) (hN : X.N[i]? = some x) (hv : visB sc x = true) (ho : okName x = true) (hs : notSlice kx = true) (hk : Snd X Wx cl k kx) (h : Snd X Wx cl e ex) : PS X (.Assign [.Subscript (.Name x px) kx p] ex pos) (RdS X Wx cl io (.put i k e)) := by
  obtain ⟨h1, h2, _⟩ := okName_at ho
  have hsw : swapsWithSole [Expr.Subscript (.Name x px) kx p] ex pos.line X.env = pure false := by
    show swapsWith ex (some (.Subscript (.Name x px) kx p)) pos.line X.env = pure false
    cases ex <;> rfl
  refine (ps_asg (h true false (by simp)) (pg_subs hs (pe_var hN (C.vis hv) h1 h2) (hk true true (by simp)) set_list) hsw rfl rfl).imp fun D σ H q => ?_
  obtain ⟨τ, Hf, as, rel, q⟩ := q
  rw [evalS] at q
  refine ⟨τ, Hf, as, rel, q.toF.imp fun y τ1 q => ?_⟩
  intro v H1 Hf1 as1 ao r s
  obtain ⟨ow, nd, dj⟩ := s.2.1 rfl
  cases e0 : getO τ1 i with
  | none => rw [e0] at q; exact q.elim
  | some o0 =>
    rw [e0] at q
    cases o0 with
    | d _ => exact q.elim
    | m _ => exact q.elim
    | l xs0 =>
      obtain ⟨v0, ev, ow0⟩ := r.slot i _ e0
      refine ⟨v0, ev, τ1, Hf1, as1, r, ((FdM.toF q).rebase (w' := true) s.2.2 (fun _ z => .inl z) id).imp fun kk τ2 q => ?_⟩
      intro kv H2 Hf2 as2 ao2 r2 s2
      cases e1 : getO τ2 i with
      | none => rw [e1] at q; exact q.elim
      | some o1 =>
        rw [e1] at q
        cases o1 with
        | d _ => exact q.elim
        | m _ => exact q.elim
        | l os =>
          cases ed : kk.data with
          | int ki =>
            have q : FdM X.K X.mg Wx io σ H Hf as (match putO os kk.data y with | some os' => F.nx (τ2.set i (some (.l os'))) | none => .st) D := q
            rw [ed] at q
            cases ej : ixN os.length ki with
            | none => rw [putO, ej] at q; exact q.elim
            | some j =>
              rw [putO, ej] at q
              have q : Ok1 X.K X.mg io σ H Hf as D.nx (τ2.set i (some (.l (os.set j y)))) := q
              obtain ⟨v1, ev1, ow1⟩ := r2.slot i _ e1
              rw [ev] at ev1
              cases ev1
              rw [ROwn] at ow1
              obtain ⟨a, vs, b1, rfl, ea, hf, hH, ows⟩ := ow1
              have ow2 := ow.after dj s2.2.2
              have dj2 : ∀ c ∈ ao, ¬ Wof as2 c := fun c hc z => by
                rcases s2.2.2.own c (.inl z) with z | z
                · exact dj c hc z
                · obtain ⟨_, ws, e⟩ := ow.at _ _ _ c hc
                  rw [e] at z; cases z
              have nda := r2.nd i
              rw [ea, List.nodup_cons] at nda
              have hj := ixN_lt ej
              obtain ⟨b2, os2, nd2, sub2⟩ := ROwns.set (j := j) ows ow2 nda.2 nd (fun c hc z => dj2 c z ⟨i, by rw [ea]; exact List.mem_cons_of_mem _ hc⟩) hj
              have hl2 : i < τ2.length := by rw [r2.len]; exact (List.getElem?_eq_some_iff.mp ev).1
              have hai : a ∈ as2 i := by rw [ea]; exact List.mem_cons_self
              have key := r2.lput (b2 := b2) ev hf hai hl2 os2 (List.nodup_cons.mpr ⟨fun z => by
                rcases sub2 a z with z | z
                · exact nda.1 z
                · exact dj2 a z ⟨i, hai⟩, nd2⟩) (fun c hc => by
                rcases sub2 c hc with z | z
                · exact .inl (by rw [ea]; exact List.mem_cons_of_mem _ z)
                · exact .inr (dj2 c z)) (fun c => Wof as2 c ∨ c ∈ ao) (fun c z => .inl z) (fun c hc => by
                rcases sub2 c hc with z | z
                · exact .inl (.inl ⟨i, by rw [ea]; exact List.mem_cons_of_mem _ z⟩)
                · exact .inl (.inr z))
              refine ⟨a, vs, ki, j, rfl, s2.1.int ed, hH, by rw [ows.length]; exact ej, ?_⟩
              refine q σ _ Hf2 _ key.1 ?_ (Fx.refl _ _)
              have st2 : Stp true (Wof as) H Hf H2 Hf2 (fun c => Wof as2 c ∨ c ∈ ao) := by
                have d := s.2.2.trans (W1' := Wof as1) (fun _ z => .inl z) s2.2.2
                exact ⟨d.keep, d.grow, d.froz, fun c z => z.elim (fun z => d.own c (.inl z)) fun z => s.2.2.own c (.inr ⟨rfl, z⟩)⟩
              exact st2.trans (fun _ z => z) key.2
          | _ => rw [ed] at q; exact q.elim
end
end Mir
set_option Elab.async false
set_option linter.all false
set_option maxRecDepth 100000
set_option maxHeartbeats 4000000
/-! Mir, part Ub: stores into an owned dict. -/
namespace Mir
open PySem L2 PyProof.Rows

section
variable {K : PySem.W.Frag} {mg : Str → Option Value} {Hf H : Hp}
/-- the object that a name owns is another one now -/
theorem Rel.mput {τ : Tau} {σ : L2.St} {as : Nat → List Addr} {i : Nat} {o : O} {a : Addr} {ob : HO} (r : Rel K mg τ σ H Hf as) (ev : σ[i]? = some (some (.ref a))) (hf : Hf a = none) (hai : a ∈ as i) (hl : i < τ.length)
    (own : ROwn K mg Hf (upd H a ob) o (.ref a) [a]) (W : Addr → Prop) (hW : ∀ c, Wof as c → W c) :
    Rel K mg (τ.set i (some o)) σ (upd H a ob) Hf (put as i [a]) ∧ Stp true W H Hf (upd H a ob) Hf (Wof (put as i [a])) := by
  have r1 := r.setN (i := i)
  have far : ∀ c, c ∈ as i → ¬ Wof (put as i []) c := fun c hc ⟨j, hj⟩ => by
    by_cases h : j = i
    · subst h; rw [put_same] at hj; cases hj
    · rw [put_ne h] at hj
      exact h (r.sep j i c hj hc)
  have na : ∀ c, Wof (put as i []) c → c ≠ a := fun c hc e => far a hai (e ▸ hc)
  have sb : Same Hf (upd H a ob) := fun c u q => by
    rw [upd_ne (fun e => by rw [e, hf] at q; cases q)]
    exact r.sub c u q
  have r2 : Rel K mg (τ.set i none) σ (upd H a ob) Hf (put as i []) := r1.step sb (Same.refl _) fun c xs hc q => ⟨by rw [upd_ne (na c hc)]; exact q, (r1.at hc).1⟩
  have r3 := r2.setO (by rw [List.length_set]; exact hl) own (by simp) (fun c hc => by rw [List.mem_singleton.mp hc]; exact far a hai)
  rw [List.set_set, set_self ev] at r3
  have ep : put (put as i []) i [a] = put as i [a] := by
    funext j
    by_cases e : j = i
    · subst e; rw [put_same, put_same]
    · rw [put_ne e, put_ne e, put_ne e]
  rw [ep] at r3
  refine ⟨r3, fun c u q hn => ?_, Same.refl _, fun c u q => .inl q, fun c hc => ?_⟩
  · rw [upd_ne (fun e => hn rfl (hW c ⟨i, by rw [e]; exact hai⟩))]
    exact q
  · rcases Wof_put hc with h | h
    · exact .inl (hW c h)
    · exact .inl (hW c ⟨i, by rw [List.mem_singleton.mp h]; exact hai⟩)
end
section
variable {X : Cx} {Wx : WX} {sc : Scope} {cl : Cl} {io : List Nat} {bs fs : List Str} {n : Nat} {pos p pos' tpos : Pos} {o i value : Expr} {td ty tv : TE}
/-- d[y] = v -/
theorem ps_dputA (hu : X.A.units + 64 < cLine) (ho : PE X o td) (hi : PE X i ty) (hv : PE X value tv) (hs : swapsWith value (some (.Subscript o i pos')) pos.line X.env = pure false) :
    PS X (.Assign [.Subscript o i pos'] value pos) (fun D σ H => tv σ H fun v H1 => td σ H1 fun x H2 => ty σ H2 fun y H3 => ∃ a Hf od t ps kvs kd k, x = .ref a ∧ KAsk X H3 Hf a od t ps kvs y kd k ∧ ps.length < sizeLine ∧ ∀ od', DIs t od' (setP ps k y v) → D.nx σ (upd H3 a (dOb a od'))) := by
  refine ⟨fun pins s σ H D I h => ?_⟩
  refine wpAny_Assign_Subscript (thn (hv.run pins s σ H _ I h) fun r s1 ⟨v, H1, I1, rv, q1⟩ => thn (ho.run pins s1 σ H1 _ I1 q1) fun u s2 ⟨x, H2, I2, rx, q2⟩ => thn (hi.run pins s2 σ H2 _ I2 q2) fun iv s3 ⟨y, H3, I3, ry, a, Hf, od, t, ps, kvs, kd, k, ex, g, hz, q3⟩ => ?_) hs
  subst ex
  obtain rfl : u = Value.ref a := rx
  exact ka_set hu I3 g ry rv hz fun od' s4 di I4 => ⟨σ, _, I4, q3 od' di⟩
/-- d[y] op= v -/
theorem ps_daugA {op : Operator} {rd : V → V → Hp → VK → Prop} (hu : X.A.units + 64 < cLine) (ho : PE X o td) (hi : PE X i ty) (hv : PE X value tv) (hop : PIp X op rd)
    (ha : ∀ ov iv new, augStore i ov iv new = (do holding [new, ov, iv] (setItem ov iv new); release [new, ov, iv] []; pure .next)) : PS X (.AugAssign (.Subscript o i tpos) op value pos) (fun D σ H => td σ H fun x H1 => ty σ H1 fun y H2 => ∃ a Hf od t ps kvs kd k d, x = .ref a ∧ KAsk X H2 Hf a od t ps kvs y kd k ∧ valD t kvs k = some d ∧
      ∀ v, Rep X.K X.mg Hf v d → tv σ H2 fun y2 H3 => rd v y2 H3 fun z H4 => ∃ Hf od t ps kvs, KAsk X H4 Hf a od t ps kvs y kd k ∧ ps.length < sizeLine ∧ ∀ od', DIs t od' (setP ps k y z) → D.nx σ (upd H4 a (dOb a od'))) := by
  refine ⟨fun pins s σ H D I h => ?_⟩
  refine wpAny_AugAssign_SubscriptAny (thn (ho.run pins s σ H _ I h) fun u s1 ⟨x, H1, I1, rx, q1⟩ => thn (hi.run pins s1 σ H1 _ I1 q1) fun iv s2 ⟨y, H2, I2, ry, a, Hf, od, t, ps, kvs, kd, k, d, ex, g, hd, q2⟩ => ?_) ha
  subst ex
  obtain rfl : u = Value.ref a := rx
  refine ka_get hu I2 g ry hd fun v w' s3 rv rw' I3 => thn (hv.run pins s3 σ H2 _ I3 (q2 v rv)) fun w2 s4 ⟨y2, H3, I4, ry2, q3⟩ => thn (hop pins s4 σ H3 v y2 w' w2 _ I4 rw' ry2 q3) fun w3 s5 ⟨z, H4, I5, rz, Hf, od, t, ps, kvs, g5, hz, q4⟩ => ?_
  exact ka_set hu I5 g5 ry rz hz fun od' s6 di I6 => ⟨σ, _, I6, q4 od' di⟩
end
section
variable {X : Cx} {Wx : WX} {sc : Scope} {cl : Cl} {io : List Nat} {bs fs : List Str} {n : Nat} {pos p : Pos}
theorem dput_at {t : Bool} {kvs : List (D × D)} {kd v : D} {o : O} (h : dputF t kvs kd v = some o) : ∃ k, keyOf t kd = some k ∧ kvs.length < lim ∧ o = .m t (setD t kvs kd k v) := by
  unfold dputF at h
  split at h
  · rename_i k hk
    split at h
    · rename_i hl
      cases h
      exact ⟨k, hk, hl, rfl⟩
    · cases h
  · cases h
theorem st_dput {i : Nat} {x : Str} {k e : E} {kx ex : Expr} {px : Pos} (C : Ctx X Wx sc) (hu : X.A.units + 64 < cLine) (hN : X.N[i]? = some x) (hv : visB sc x = true) (ho : okName x = true) (hs : notSlice kx = true) (hk : Snd X Wx cl k kx) (h : Snd X Wx cl e ex) : PS X (.Assign [.Subscript (.Name x px) kx p] ex pos) (RdS X Wx cl io (.dput i k e)) := by
  obtain ⟨h1, h2, _⟩ := okName_at ho
  have hsw : swapsWith ex (some (.Subscript (.Name x px) kx p)) pos.line X.env = pure false := by cases ex <;> rfl
  refine (ps_dputA hu (pe_var hN (C.vis hv) h1 h2) (hk true false (by simp)) (h true false (by simp)) hsw).imp fun D σ H q => ?_
  obtain ⟨τ, Hf, as, rel, q⟩ := q
  rw [evalS] at q
  refine ⟨τ, Hf, as, rel, q.toF.imp fun y τ1 q => ?_⟩
  intro v H1 Hf1 as1 ao r s
  obtain ⟨r1, rp, _, st⟩ := s.freeze r
  cases e0 : getO τ1 i with
  | none => rw [e0] at q; exact q.elim
  | some o0 =>
    rw [e0] at q
    cases o0 with
    | d _ => exact q.elim
    | l _ => exact q.elim
    | m t0 kvs0 =>
      obtain ⟨v0, ev, ow0⟩ := r1.slot i _ e0
      refine ⟨v0, ev, τ1, _, as1, r1, ((FdM.toF q).rebase (w' := true) st (fun _ z => z) id).imp fun kk τ2 q => ?_⟩
      intro kv H2 Hf2 as2 ao2 r2 s2
      obtain ⟨r3, rp3, _, st3⟩ := s2.freeze r2
      cases e1 : getO τ2 i with
      | none => rw [e1] at q; exact q.elim
      | some o1 =>
        rw [e1] at q
        cases o1 with
        | d _ => exact q.elim
        | l _ => exact q.elim
        | m t kvs =>
          have q : FdM X.K X.mg Wx io σ H Hf as (match dputF t kvs kk.data y.data with | some o => F.nx (τ2.set i (some o)) | none => .st) D := q
          cases e2 : dputF t kvs kk.data y.data with
          | none => rw [e2] at q; exact q.elim
          | some o2 =>
            rw [e2] at q
            have q : Ok1 X.K X.mg io σ H Hf as D.nx (τ2.set i (some o2)) := q
            obtain ⟨kn, hkn, hl, rfl⟩ := dput_at e2
            obtain ⟨v1, ev1, ow1⟩ := r3.slot i _ e1
            rw [ev] at ev1
            cases ev1
            have ow2 := ow1
            rw [ROwn] at ow2
            obtain ⟨a, _, _, rfl, ea, _⟩ := ow2
            rw [ea] at ow1
            obtain ⟨od, ps, hpl, hfa, g, hown⟩ := own_dput X ow1 r3.sub hkn rp3 (rp.mono st3.grow _ _)
            have hl2 : i < τ2.length := by rw [r3.len]; exact (List.getElem?_eq_some_iff.mp ev).1
            have hz : lim ≤ sizeLine := by rw [sizeLine_eq]; decide
            refine ⟨a, _, od, t, ps, kvs, kk.data, kn, rfl, g, by omega, fun od' di => ?_⟩
            have key := r3.mput ev hfa (by rw [ea]; exact List.mem_cons_self) hl2 (hown od' di) (Wof as2) (fun _ z => z)
            exact q σ _ _ _ key.1 ((st.trans (fun _ z => z) st3).trans (fun _ z => z) key.2) (Fx.refl _ _)
theorem plain_sub {kx : Expr} (hs : notSlice kx = true) : ∀ ov iv new, augStore kx ov iv new = (do holding [new, ov, iv] (setItem ov iv new); release [new, ov, iv] []; pure .next) := by
  intro ov iv new
  cases kx <;> first | rfl | (simp [notSlice] at hs)
theorem st_daug {i : Nat} {x : Str} {op : Operator} {k e : E} {kx ex : Expr} {px : Pos} (C : Ctx X Wx sc) (hu : X.A.units + 64 < cLine) (hN : X.N[i]? = some x) (hv : visB sc x = true) (ho : okName x = true) (hs : notSlice kx = true) (hk : Snd X Wx cl k kx) (h : Snd X Wx cl e ex) : PS X (.AugAssign (.Subscript (.Name x px) kx p) op ex pos) (RdS X Wx cl io (.daug i op k e)) := by
  obtain ⟨h1, h2, _⟩ := okName_at ho
  refine (ps_daugA hu (pe_var hN (C.vis hv) h1 h2) (hk true false (by simp)) (h true true (by simp)) (ip_ok op) (plain_sub hs)).imp fun D σ H q => ?_
  obtain ⟨τ, Hf, as, rel, q⟩ := q
  rw [evalS] at q
  cases e0 : getO τ i with
  | none => rw [e0] at q; exact q.elim
  | some o0 =>
    rw [e0] at q
    cases o0 with
    | d _ => exact q.elim
    | l _ => exact q.elim
    | m t0 kvs0 =>
      obtain ⟨v0, ev, ow0⟩ := rel.slot i _ e0
      refine ⟨v0, ev, τ, Hf, as, rel, (FdM.toF q).imp fun kk τ2 q => ?_⟩
      intro kv H2 Hf2 as2 ao2 r2 s2
      obtain ⟨r3, rp3, _, st3⟩ := s2.freeze r2
      cases e1 : getO τ2 i with
      | none => rw [e1] at q; exact q.elim
      | some o1 =>
        rw [e1] at q
        cases o1 with
        | d _ => exact q.elim
        | l _ => exact q.elim
        | m t kvs =>
          cases e2 : keyOf t kk.data with
          | none =>
            have q : FdM X.K X.mg Wx io σ H Hf as (match keyOf t kk.data with | some kk' => _ | none => F.st) D := q
            rw [e2] at q
            exact q.elim
          | some kn =>
            have q : FdM X.K X.mg Wx io σ H Hf as (match keyOf t kk.data with | some kk' => _ | none => F.st) D := q
            rw [e2] at q
            cases e3 : valD t kvs kn with
            | none =>
              have q : FdM X.K X.mg Wx io σ H Hf as (match valD t kvs kn with | some v => _ | none => F.st) D := q
              rw [e3] at q
              exact q.elim
            | some d =>
              have q : FdM X.K X.mg Wx io σ H Hf as (match valD t kvs kn with | some v => _ | none => F.st) D := q
              rw [e3] at q
              obtain ⟨v1, ev1, ow1⟩ := r3.slot i _ e1
              rw [ev] at ev1
              cases ev1
              have ow2 := ow1
              rw [ROwn] at ow2
              obtain ⟨a, _, _, rfl, ea, _⟩ := ow2
              rw [ea] at ow1
              obtain ⟨od, ps, hpl, hfa, g, _⟩ := own_dput X ow1 r3.sub e2 rp3 rp3
              refine ⟨a, _, od, t, ps, kvs, kk.data, kn, d, rfl, g, e3, fun v rv => ?_⟩
              refine ⟨τ2, _, as2, r3, ((FdM.toF q).rebase (w' := true) st3 (fun _ z => z) id).imp fun y τ4 q => ?_⟩
              intro u H4 Hf4 as4 ao4 r4 s4
              have s44 := s4.2.2
              cases e5 : augF op d y.data with
              | none => rw [e5] at q; exact q.elim
              | some z =>
                rw [e5] at q
                refine ⟨Hf4, d, y, z, r4.sub, rv.mono s44.grow _ _, s4.1, e5, fun zv rz => ?_⟩
                cases e6 : getO τ4 i with
                | none => rw [e6] at q; exact q.elim
                | some o6 =>
                  rw [e6] at q
                  cases o6 with
                  | d _ => exact q.elim
                  | l _ => exact q.elim
                  | m t6 kvs6 =>
                    have q : FdM X.K X.mg Wx io σ H Hf as (match dputF t6 kvs6 kk.data z with | some o => F.nx (τ4.set i (some o)) | none => .st) D := q
                    cases e7 : dputF t6 kvs6 kk.data z with
                    | none => rw [e7] at q; exact q.elim
                    | some o7 =>
                      rw [e7] at q
                      have q9 : Ok1 X.K X.mg io σ H Hf as D.nx (τ4.set i (some o7)) := q
                      obtain ⟨kn', hkn', hl, rfl⟩ := dput_at e7
                      have ekn : kn' = kn := by
                        have z1 := (keyOf_at hkn').1
                        have z2 := (keyOf_at e2).1
                        rw [z1] at z2
                        exact Option.some.inj z2
                      subst ekn
                      obtain ⟨v6, ev6, ow6⟩ := r4.slot i _ e6
                      rw [ev] at ev6
                      cases ev6
                      have ow7 := ow6
                      rw [ROwn] at ow7
                      obtain ⟨a', _, _, ea', ea6, _⟩ := ow7
                      cases ea'
                      rw [ea6] at ow6
                      obtain ⟨od6, ps6, hpl6, hfa6, g6, hown6⟩ := own_dput X ow6 r4.sub hkn' (rp3.mono s44.grow _ _) rz
                      have hl2 : i < τ4.length := by rw [r4.len]; exact (List.getElem?_eq_some_iff.mp ev).1
                      have hz : lim ≤ sizeLine := by rw [sizeLine_eq]; decide
                      refine ⟨_, od6, t6, ps6, kvs6, g6, by omega, fun od' di => ?_⟩
                      have key := r4.mput ev hfa6 (by rw [ea6]; exact List.mem_cons_self) hl2 (hown6 od' di) (Wof as4) (fun _ z => z)
                      exact q9 σ _ _ _ key.1 ((st3.trans (fun _ z => z) (s44.sub fun _ z => .inl z)).trans (fun _ z => z) key.2) (Fx.refl _ _)
theorem set_dict (hu : X.A.units + 64 < cLine) : PSet X (fun o i v H Q => ∃ a Hf od t ps kvs kd k, o = .ref a ∧ KAsk X H Hf a od t ps kvs i kd k ∧ ps.length < sizeLine ∧ ∀ od', DIs t od' (setP ps k i v) → Q (upd H a (dOb a od'))) := by
  intro pins s σ H o i v ov iv u Q I ro ri rv h
  obtain ⟨a, Hf, od, t, ps, kvs, kd, k, rfl, g, hz, q⟩ := h
  cases ro
  exact ka_set hu I g ri rv hz fun od' s' di I' => ⟨_, I', q od' di⟩
/-- one store, as a target of a tuple -/
def RdDp (X : Cx) (Wx : WX) (cl : Cl) (io : List Nat) (i : Nat) (k : E) : TG := fun v σ H Q => ∃ τ Hf as d f D, Rel X.K X.mg τ σ H Hf as ∧ Rep X.K X.mg Hf v d ∧ FdM X.K X.mg Wx io σ H Hf as (dputS cl i k d τ f) D ∧
  ∀ τ' H' Hf' as', Rel X.K X.mg τ' σ H' Hf' as' → Stp true (Wof as) H Hf H' Hf' (Wof as') → FdM X.K X.mg Wx io σ H Hf as (f τ') D → Q σ H'
theorem pg_dput {i : Nat} {x : Str} {k : E} {kx : Expr} {px q : Pos} (C : Ctx X Wx sc) (hu : X.A.units + 64 < cLine) (hN : X.N[i]? = some x) (hv : visB sc x = true) (ho : okName x = true) (hs : notSlice kx = true) (hk : Snd X Wx cl k kx) :
    PG X (.Subscript (.Name x px) kx q) (RdDp X Wx cl io i k) := by
  obtain ⟨h1, h2, _⟩ := okName_at ho
  refine (pg_subs hs (pe_var hN (C.vis hv) h1 h2) (hk true false (by simp)) (set_dict hu)).imp fun v σ H Q q => ?_
  obtain ⟨τ, Hf, as, d, f, D, rel, rv, q, fin⟩ := q
  unfold dputS at q
  cases e0 : getO τ i with
  | none => rw [e0] at q; exact q.elim
  | some o0 =>
    rw [e0] at q
    cases o0 with
    | d _ => exact q.elim
    | l _ => exact q.elim
    | m t0 kvs0 =>
      obtain ⟨v0, ev, ow0⟩ := rel.slot i _ e0
      refine ⟨v0, ev, τ, Hf, as, rel, (FdM.toF q).imp fun kk τ2 q => ?_⟩
      intro kv H2 Hf2 as2 ao2 r2 s2
      obtain ⟨r3, rp3, _, st3⟩ := s2.freeze r2
      cases e1 : getO τ2 i with
      | none => rw [e1] at q; exact q.elim
      | some o1 =>
        rw [e1] at q
        cases o1 with
        | d _ => exact q.elim
        | l _ => exact q.elim
        | m t kvs =>
          have q : FdM X.K X.mg Wx io σ H Hf as (match dputF t kvs kk.data d with | some o => f (τ2.set i (some o)) | none => .st) D := q
          cases e2 : dputF t kvs kk.data d with
          | none => rw [e2] at q; exact q.elim
          | some o2 =>
            rw [e2] at q
            have q : FdM X.K X.mg Wx io σ H Hf as (f (τ2.set i (some o2))) D := q
            obtain ⟨kn, hkn, hl, rfl⟩ := dput_at e2
            obtain ⟨v1, ev1, ow1⟩ := r3.slot i _ e1
            rw [ev] at ev1
            cases ev1
            have ow2 := ow1
            rw [ROwn] at ow2
            obtain ⟨a, _, _, rfl, ea, _⟩ := ow2
            rw [ea] at ow1
            obtain ⟨od, ps, hpl, hfa, g, hown⟩ := own_dput X ow1 r3.sub hkn rp3 (rv.mono st3.grow _ _)
            have hl2 : i < τ2.length := by rw [r3.len]; exact (List.getElem?_eq_some_iff.mp ev).1
            have hz : lim ≤ sizeLine := by rw [sizeLine_eq]; decide
            refine ⟨a, _, od, t, ps, kvs, kk.data, kn, rfl, g, by omega, fun od' di => ?_⟩
            have key := r3.mput ev hfa (by rw [ea]; exact List.mem_cons_self) hl2 (hown od' di) (Wof as2) (fun _ z => z)
            exact fin _ _ _ _ key.1 (st3.trans (fun _ z => z) key.2) q
theorem st_dput2 {i j : Nat} {x y : Str} {k k' e : E} {kx ky : Expr} {es : List Expr} {kt ke : Nat} {px py q1 q2 pt pe : Pos} (C : Ctx X Wx sc) (hu : X.A.units + 64 < cLine) (hN : X.N[i]? = some x) (hv : visB sc x = true) (ho : okName x = true) (hN2 : X.N[j]? = some y) (hv2 : visB sc y = true) (ho2 : okName y = true)
    (hs : notSlice kx = true) (hs2 : notSlice ky = true) (hk : Snd X Wx cl k kx) (hk2 : Snd X Wx cl k' ky) (h : Snd X Wx cl e (.Tuple es ke pe)) (hw : swappedStores [.Tuple [.Subscript (.Name x px) kx q1, .Subscript (.Name y py) ky q2] kt pt] (.Tuple es ke pe) X.env = pure none) :
    PS X (.Assign [.Tuple [.Subscript (.Name x px) kx q1, .Subscript (.Name y py) ky q2] kt pt] (.Tuple es ke pe) pos) (RdS X Wx cl io (.dput2 i k j k' e)) := by
  have hg : PG X (.Tuple [.Subscript (.Name x px) kx q1, .Subscript (.Name y py) ky q2] kt pt) (gTup X.K 2 (gCons (RdDp X Wx cl io i k) (gCons (RdDp X Wx cl io j k') gNil))) := pg_tup (X := X) (n := 2) C.calm (pgs_cons (pg_dput (io := io) (q := q1) (px := px) C hu hN hv ho hs hk) (pgs_cons (pg_dput (io := io) (q := q2) (px := py) C hu hN2 hv2 ho2 hs2 hk2) pgs_nil))
  refine (ps_asg (h true false (by simp)) hg rfl hw rfl).imp fun D σ H q => ?_
  obtain ⟨τ, Hf, as, rel, q⟩ := q
  rw [evalS] at q
  refine ⟨τ, Hf, as, rel, q.toF.imp fun o τ1 q => ?_⟩
  intro v H1 Hf1 as1 ao r s
  obtain ⟨r2, rp, _, st⟩ := s.freeze r
  split at q
  · rename_i d1 d2 ed
    rw [ed] at rp
    cases rp with
    | tup g1 g2 =>
      cases g2 with
      | cons a1 a2 =>
        cases a2 with
        | cons a2 a3 =>
          cases a3
          refine ⟨_, _, rfl, Same.seqT r2.sub g1, rfl, _, _, rfl, τ1, _, as1, d1, _, D, r2, a1, q.rebase st (fun _ z => z) (Fx.refl _ _), fun τ3 H3 Hf3 as3 r3 st3 q3 => ?_⟩
          refine ⟨_, _, rfl, τ3, Hf3, as3, d2, _, D, r3, a2.mono st3.grow _ _, q3.rebase st3 (fun _ z => z) (Fx.refl _ _), fun τ4 H4 Hf4 as4 r4 st4 q4 => ?_⟩
          exact ⟨rfl, q4 σ H4 Hf4 as4 r4 st4 (Fx.refl _ _)⟩
  · exact q.elim
/-! a, b = x, y through a real pair (some name is seen from within a block) -/
theorem rd_parT {is : List Nat} {es : Es} {D : Ends} {σ : L2.St} {H : Hp} (hio : ∀ i ∈ is, i ∉ io) (q : RdS X Wx cl io (.par is es) D σ H) : RdOs X Wx cl true false es σ H fun vs H1 => is.length = vs.length ∧ ∀ p, H1 p = none → D.nx (sset σ is vs) (upd H1 p (.tup vs)) := by
  obtain ⟨τ, Hf, as, rel, q⟩ := q
  rw [evalS] at q
  refine ⟨τ, Hf, as, rel, q.toF.imp fun os τ1 q => ?_⟩
  intro vs H1 Hf1 as1 ao r s
  obtain ⟨ow, nd, dj⟩ := s.2.1 rfl
  cases e1 : setAll τ1 is os with
  | none => rw [e1] at q; exact q.elim
  | some τ2 =>
    rw [e1] at q
    obtain ⟨_, _, _, _, hl⟩ := setAll_rel r ow nd dj e1 hio
    refine ⟨hl, fun p hp => ?_⟩
    have ow' : ROwns X.K X.mg Hf1 (upd H1 p (.tup vs)) os vs ao := ROwns.keep (Same.refl _) _ _ _ (fun c hc u q => ⟨by rw [upd_ne (ne_of_none q hp)]; exact q, (ow.at _ _ _ c hc).1⟩) ow
    obtain ⟨as', r2, h2, fx, _⟩ := setAll_rel (r.new (o := .tup vs) hp) ow' nd dj e1 hio
    have st := s.2.2.trans (fun _ z => z) (Stp.new (w := true) (Hf := Hf1) (o := .tup vs) (W' := fun c => Wof as1 c ∨ (false = false ∧ c ∈ ao)) hp fun c z => .inl z)
    exact q _ _ Hf1 as' r2 (st.sub fun c z => (h2 c z).imp id fun z => ⟨rfl, z⟩) fx
theorem st_parT2 {i j : Nat} {x y : Str} {es : Es} {a b : Expr} {px py pt pt2 : Pos} {kt k2 : Nat} (C : Ctx X Wx sc) (hi : X.N[i]? = some x) (hj : X.N[j]? = some y) (hx : locB sc x = true) (hy : locB sc y = true)
    (hw : swappedStores [.Tuple [.Name x px, .Name y py] kt pt] (.Tuple [a, b] k2 pt2) X.env = pure none) (hio : ∀ k ∈ [i, j], k ∉ io) (A : AllSnd X Wx cl es [a, b]) :
    PS X (.Assign [.Tuple [.Name x px, .Name y py] kt pt] (.Tuple [a, b] k2 pt2) pos) (RdS X Wx cl io (.par [i, j] es)) := by
  obtain ⟨x1, x2⟩ := C.loc hx
  obtain ⟨y1, y2⟩ := C.loc hy
  have hg : PG X (.Tuple [.Name x px, .Name y py] kt pt) (gTup X.K 2 (gCons (gName i) (gCons (gName j) gNil))) := pg_tup C.calm (pgs_cons (pg_name C.nd hi x1 x2) (pgs_cons (pg_name C.nd hj y1 y2) pgs_nil))
  refine (ps_asg (pe_tup (pa_os A true false (by simp) fun z => by cases z)) hg rfl hw rfl).imp fun D σ H q => (rd_parT hio q).mono fun vs H1 ⟨hl, h⟩ => ?_
  match vs, hl with
  | [v, w], _ => exact ⟨by rw [sizeLine_eq]; show 2 ≤ 16777216; decide, fun p hp => ⟨p, [v, w], rfl, SqT.of upd_same, rfl, v, [w], rfl, w, [], rfl, rfl, h p hp⟩⟩
end
end Mir
set_option Elab.async false
set_option linter.all false
set_option maxRecDepth 100000
set_option maxHeartbeats 4000000
/-! Mir, part V: the text's statements against the syntax. -/
namespace Mir
open PySem L2 PyProof.Rows

def swB (sc scope : Scope) (y : Str) (py lpos : Pos) : Bool := (sc.names.lookup y == some .local) && py.line == lpos.line && !(scope.names.any fun (n, k) => n == y && (k == .local || k == .cell))
def isStar : Expr → Bool
  | .Starred .. => true
  | _ => false
def swF (sc : Scope) (ts vs : List Expr) : Option (Option (List Str)) :=
  if !(ts.length == 2 || ts.length == 3) || vs.length != ts.length then some none
  else if vs.any isStar then some none
  else
    let line := (ts.head?.map (·.pos.line)).getD 0
    let names := ts.filterMap fun
      | .Name id pos => if sc.names.lookup id == some .local && pos.line == line then some id else none
      | _ => none
    if names.length != ts.length || names.eraseDups.length != names.length then some none
    else if vs.all (foldedForSure 8) then some none
    else if vs.all (constantsAlone 8) then none
    else some (some names)
def locE (sc : Scope) : Expr → Bool
  | .Name x _ => locB sc x
  | _ => true
section
variable {X : Cx} {Wx : WX} {sc : Scope} {cl : Cl} {io : List Nat} {bs fs : List Str} {n : Nat} {pos p : Pos}
theorem kind_eq (C : Ctx X Wx sc) {x : Str} (h : locB sc x = true) : X.env.kindOf x = sc.names.lookup x := by
  show X.env.scope.names.lookup x = sc.names.lookup x
  unfold locB at h
  split at h
  · rename_i e
    rw [e]
    exact (C.look _ _ e).elim id fun z => by cases z.1
  · rename_i e
    rw [e]
    exact (C.look _ _ e).elim id fun z => by cases z.1
  · cases h
theorem blockKind_eq (C : SCtx X Wx sc) : X.env.blockKind = .function := by unfold Env.blockKind; rw [C.kind]; rfl
theorem swaps_lc {elt : Expr} {gs : List Comprehension} {scope : Scope} {lpos py : Pos} {y : Str} {l : Nat} (C : SCtx X Wx sc) (h : locB sc y = true) : swapsWith (.ListComp elt gs scope lpos) (some (.Name y py)) l X.env = pure (swB sc scope y py lpos) := by
  have e : swapsWith (.ListComp elt gs scope lpos) (some (.Name y py)) l X.env = pure (X.env.blockKind == .function && X.env.kindOf y == some .local && py.line == lpos.line && !(scope.names.any fun (n, k) => n == y && (k == .local || k == .cell))) := rfl
  rw [e, blockKind_eq C, kind_eq C.toCtx h]
  rfl
theorem swaps_dc {ek ev : Expr} {gs : List Comprehension} {scope : Scope} {lpos py : Pos} {y : Str} {l : Nat} (C : SCtx X Wx sc) (h : locB sc y = true) : swapsWith (.DictComp ek ev gs scope lpos) (some (.Name y py)) l X.env = pure (swB sc scope y py lpos) := by
  have e : swapsWith (.DictComp ek ev gs scope lpos) (some (.Name y py)) l X.env = pure (X.env.blockKind == .function && X.env.kindOf y == some .local && py.line == lpos.line && !(scope.names.any fun (n, k) => n == y && (k == .local || k == .cell))) := rfl
  rw [e, blockKind_eq C, kind_eq C.toCtx h]
  rfl
theorem fm_congr {α β : Type} {f g : α → Option β} : ∀ {l : List α}, (∀ t ∈ l, f t = g t) → l.filterMap f = l.filterMap g
  | [], _ => rfl
  | t :: l, h => by
    rw [List.filterMap_cons, List.filterMap_cons, h t List.mem_cons_self, fm_congr fun u hu => h u (List.mem_cons_of_mem _ hu)]
theorem any_congr {α : Type} {f g : α → Bool} (h : ∀ t, f t = g t) (l : List α) : l.any f = l.any g := by
  have : f = g := funext h
  rw [this]
theorem swapped_eq {ts vs : List Expr} {k k2 : Nat} {p1 p2 : Pos} {r : Option (List Str)} (C : SCtx X Wx sc) (hl : ts.all (locE sc) = true) (h : swF sc ts vs = some r) : swappedStores [.Tuple ts k p1] (.Tuple vs k2 p2) X.env = pure r := by
  unfold swF at h
  unfold swappedStores
  dsimp only at h ⊢
  rw [blockKind_eq C]
  generalize hn : List.filterMap _ ts = names
  generalize hn2 : List.filterMap _ ts = names2 at h
  generalize ha : vs.any _ = anyS
  have e1 : names = names2 := by
    rw [← hn, ← hn2]
    refine fm_congr fun t ht => ?_
    have := List.all_eq_true.mp hl t ht
    cases t <;> first | rfl | (rename_i x _; have e := kind_eq C.toCtx (x := x) this; dsimp only; rw [e])
  have e2 : vs.any isStar = anyS := by
    rw [← ha]
    exact any_congr (fun t => by cases t <;> rfl) vs
  subst e1
  rw [e2] at h
  have e3 : (ScopeKind.function != ScopeKind.function) = false := rfl
  rw [e3, Bool.or_false]
  by_cases c1 : (!(ts.length == 2 || ts.length == 3) || vs.length != ts.length) = true
  · rw [if_pos c1] at h ⊢; cases h; rfl
  rw [if_neg c1] at h ⊢
  by_cases c2 : anyS = true
  · rw [if_pos c2] at h ⊢; cases h; rfl
  rw [if_neg c2] at h ⊢
  by_cases c3 : (names.length != ts.length || names.eraseDups.length != names.length) = true
  · rw [if_pos c3] at h ⊢; cases h; rfl
  rw [if_neg c3] at h ⊢
  by_cases c4 : vs.all (foldedForSure 8) = true
  · rw [if_pos c4] at h ⊢; cases h; rfl
  rw [if_neg c4] at h ⊢
  by_cases c5 : vs.all (constantsAlone 8) = true
  · rw [if_pos c5] at h; cases h
  rw [if_neg c5] at h ⊢
  cases h
  rfl
theorem st_comp {M : Nm} {t : T} {vs : List Nat} {it : Mir.It} {cs : Es} {elt : E} {r : Bool} {scope : Scope} {e1 tg iter : Expr} {ifs : List Expr} {py : Pos} {i : Nat} {y : Str} (C : SCtx X Wx sc) (hb : blkC X.N sc scope (ownOf M vs) = true) (ht : ∀ i ∈ t.vars, i ∈ vs) (hr : r = true → (it.pure && cs.pure && elt.pure) = true) (hs : notSet iter = true)
    (hT : ∀ X' : Cx, X'.N = X.N → Ctx X' WxF scope → PG X' tg (RdG X'.K X'.mg t)) (hI : SndI X Wx cl it tg iter) (hc : ∀ X' : Cx, X'.N = X.N → Ctx X' WxF scope → GOk X' cl bs fs n → TestsSnd X' WxF cl cs ifs) (he : ∀ X' : Cx, X'.N = X.N → Ctx X' WxF scope → GOk X' cl bs fs n → Snd X' WxF cl elt e1)
    (G : GOk X cl bs fs n) (hy : X.N[i]? = some y) (hyl : X.env.scope.names.lookup y = some .local) (hsw : swapsWith (.ListComp e1 [⟨tg, iter, ifs, 0⟩] scope p) (some (.Name y py)) pos.line X.env = pure true) :
    PS X (.Assign [.Name y py] (.ListComp e1 [⟨tg, iter, ifs, 0⟩] scope p) pos) (tAsg (RdE X Wx cl true false (.comp t vs it cs elt r)) (gName i)) := by
  obtain ⟨w', hw1, hw2, hw3⟩ : ∃ w', (w' = true → true = true) ∧ (r = true → w' = false) ∧ (it.pure && cs.pure && elt.pure || w') = true := by
    cases hep : (it.pure && cs.pure && elt.pure) with
    | true => exact ⟨false, (fun z => by cases z), (fun _ => rfl), rfl⟩
    | false => exact ⟨true, id, (fun z => by rw [hr z] at hep; cases hep), rfl⟩
  obtain ⟨p1, p2, p3⟩ := orb3 hw3
  have hown : (ownOf M vs).map (·.2) = vs := by unfold ownOf; rw [List.map_map]; exact List.map_id _
  have key := ps_setLc (g := RdG X.K X.mg t) (te := RdE X WxF cl (!(cs.pure && elt.pure)) false elt) (tt := RdTs X WxF cl (!(cs.pure && elt.pure)) cs) (pos := p) C.calm C.nd hy hyl hsw (hI w' (cs.pure && elt.pure) p1) (blk_of C.toCtx hb)
    (fun s H a c fp => hT (X.blk s H scope (compEnvC scope c a X.env) fp) rfl (ctx_blk C.toCtx s H a c fp))
    (fun s H a c fp => pts_ok (X := X.blk s H scope (compEnvC scope c a X.env) fp) (hc (X.blk s H scope (compEnvC scope c a X.env) fp) rfl (ctx_blk C.toCtx s H a c fp) (g_blk G s H _ fp)) _ (by cases cs.pure <;> cases elt.pure <;> rfl))
    (fun s H a c fp => he (X.blk s H scope (compEnvC scope c a X.env) fp) rfl (ctx_blk C.toCtx s H a c fp) (g_blk G s H _ fp) _ false (by cases cs.pure <;> cases elt.pure <;> rfl)) (folded_eq hs)
  rw [hown] at key
  exact key.imp fun D σ H q => comp_rd rfl rfl ht hw1 hw2 p1 p2 p3 σ H _ q
theorem st_dcomp {M : Nm} {d : Bool} {t : T} {vs : List Nat} {it : Mir.It} {cs : Es} {k v : E} {scope : Scope} {e1 e2 tg iter : Expr} {ifs : List Expr} {py : Pos} {i : Nat} {y : Str} (C : SCtx X Wx sc) (hb : blkC X.N sc scope (ownOf M vs) = true) (ht : ∀ i ∈ t.vars, i ∈ vs) (hr : (cs.pure && k.pure && v.pure) = true) (hs : notSet iter = true)
    (hT : ∀ X' : Cx, X'.N = X.N → Ctx X' WxF scope → PG X' tg (RdG X'.K X'.mg t)) (hI : SndI X Wx cl it tg iter) (hc : ∀ X' : Cx, X'.N = X.N → Ctx X' WxF scope → GOk X' cl bs fs n → TestsSnd X' WxF cl cs ifs) (hk : ∀ X' : Cx, X'.N = X.N → Ctx X' WxF scope → GOk X' cl bs fs n → Snd X' WxF cl k e1) (he : ∀ X' : Cx, X'.N = X.N → Ctx X' WxF scope → GOk X' cl bs fs n → Snd X' WxF cl v e2)
    (G : GOk X cl bs fs n) (hy : X.N[i]? = some y) (hyl : X.env.scope.names.lookup y = some .local) (hsw : swapsWith (.DictComp e1 e2 [⟨tg, iter, ifs, 0⟩] scope p) (some (.Name y py)) pos.line X.env = pure true) :
    PS X (.Assign [.Name y py] (.DictComp e1 e2 [⟨tg, iter, ifs, 0⟩] scope p) pos) (tAsg (RdE X Wx cl true false (.dcomp d t vs it cs k v)) (gName i)) := by
  simp only [Bool.and_eq_true] at hr
  obtain ⟨⟨r1, r2⟩, r3⟩ := hr
  have hown : (ownOf M vs).map (·.2) = vs := by unfold ownOf; rw [List.map_map]; exact List.map_id _
  have key := ps_setDcA (t := d) (g := RdG X.K X.mg t) (tk := RdE X WxF cl false false k) (tv := RdE X WxF cl false false v) (tt := RdTs X WxF cl false cs) (pos := p) G.room.units C.calm C.nd hy hyl hsw (hI true true (by simp)) (blk_of C.toCtx hb)
    (fun s H a c fp => hT (X.blk s H scope (compEnvC scope c a X.env) fp) rfl (ctx_blk C.toCtx s H a c fp))
    (fun s H a c fp => pts_ok (X := X.blk s H scope (compEnvC scope c a X.env) fp) (hc (X.blk s H scope (compEnvC scope c a X.env) fp) rfl (ctx_blk C.toCtx s H a c fp) (g_blk G s H _ fp)) _ (by rw [r1]; rfl))
    (fun s H a c fp => hk (X.blk s H scope (compEnvC scope c a X.env) fp) rfl (ctx_blk C.toCtx s H a c fp) (g_blk G s H _ fp) _ false (by rw [r2]; rfl))
    (fun s H a c fp => he (X.blk s H scope (compEnvC scope c a X.env) fp) rfl (ctx_blk C.toCtx s H a c fp) (g_blk G s H _ fp) _ false (by rw [r3]; rfl)) (folded_eq hs)
  rw [hown] at key
  exact key.imp fun D σ H q => dcomp_rd ht (by simp) σ H _ q
def isLC : Expr → Bool
  | .ListComp .. => true
  | .DictComp .. => true
  | _ => false
def notTuple : Expr → Bool
  | .Tuple .. => false
  | _ => true
def nmLoc (M : Nm) (sc : Scope) (i : Nat) : Expr → Bool
  | .Name x _ => decide (M.N[i]? = some x) && decide (sc.names.lookup x = some .local)
  | _ => false
def namesOf (ts : List Expr) : List Str := ts.filterMap fun
  | .Name x _ => some x
  | _ => none
def mAsg (M : Nm) (io : List Nat) (sc : Scope) : T → E → Expr → Expr → Bool
  | .nm i, e, tg, x => (match tg with
    | .Name y _ => decide (M.N[i]? = some y) && locB sc y && decide (i ∉ io)
    | _ => false) && (notComp x || isLC x) && mE M sc e x
  | .tup ts, e, tg, x => isTupE tg && mT M sc (.tup ts) tg && ((T.tup ts).vars.all fun i => decide (i ∉ io)) && mE M sc e x && (match tg, x with
    | .Tuple ts _ _, .Tuple vs _ _ => ts.all (locE sc) && decide (swF sc ts vs = some none)
    | _, _ => notTuple x)
def mNmC (M : Nm) (sc : Scope) (i : Nat) : Expr → Bool
  | .Name x _ => decide (M.N[i]? = some x) && locB sc x
  | _ => false
/-- a, b = x, y through a real pair -/
def mParT (M : Nm) (io : List Nat) (sc : Scope) (is : List Nat) (ts xs : List Expr) (es : Es) : Bool :=
  match is, ts, xs with
  | [i, j], [a, b], [_, _] => mNmC M sc i a && mNmC M sc j b && (is.all fun i => decide (i ∉ io)) && ts.all (locE sc) && decide (swF sc ts xs = some none) && mEs M sc es xs
  | _, _, _ => false
mutual
def mS (M : Nm) (io : List Nat) (sc : Scope) : S → Stmt → Bool
  | .expr e, st => match st with
    | .Expr x _ => notComp x && mE M sc e x
    | _ => false
  | .asg t e, st => match st with
    | .Assign [tg] x _ => mAsg M io sc t e tg x
    | _ => false
  | .par is es, st => match st with
    | .Assign [.Tuple ts _ _] (.Tuple xs _ _) _ => ((match is, ts with
      | [i, j], [a, b] => nmLoc M sc i a && nmLoc M sc j b && decide (i ≠ j)
      | [i, j, l], [a, b, c] => nmLoc M sc i a && nmLoc M sc j b && nmLoc M sc l c && decide (i ≠ j) && decide (i ≠ l) && decide (j ≠ l)
      | _, _ => false) && (is.all fun i => decide (i ∉ io)) && ts.all (locE sc) && decide (swF sc ts xs = some (some (namesOf ts))) && mEs M sc es xs) || mParT M io sc is ts xs es
    | _ => false
  | .aug i op e, st => match st with
    | .AugAssign (.Name y _) op' x _ => decide (op = op') && decide (M.N[i]? = some y) && locB sc y && decide (i ∉ io) && mE M sc e x
    | _ => false
  | .put i k e, st => match st with
    | .Assign [.Subscript o k' _] x _ => mName M sc i o && notSlice k' && mE M sc k k' && mE M sc e x
    | _ => false
  | .put2 _ _ _ _, _ => false
  | .dput i k e, st => match st with
    | .Assign [.Subscript o k' _] x _ => mName M sc i o && notSlice k' && mE M sc k k' && mE M sc e x
    | _ => false
  | .dput2 i k j k' e, st => match st with
    | .Assign [.Tuple [.Subscript o1 k1 q1, .Subscript o2 k2 q2] _ _] x _ => mName M sc i o1 && notSlice k1 && mE M sc k k1 && mName M sc j o2 && notSlice k2 && mE M sc k' k2 && mE M sc e x && (match x with
      | .Tuple vs _ _ => decide (swF sc [.Subscript o1 k1 q1, .Subscript o2 k2 q2] vs = some none)
      | _ => false)
    | _ => false
  | .daug i op k e, st => match st with
    | .AugAssign (.Subscript o k' _) op' x _ => decide (op = op') && mName M sc i o && notSlice k' && mE M sc k k' && mE M sc e x
    | _ => false
  | .ifs c a b, st => match st with
    | .If c' a' b' _ => mE M sc c c' && mSs M io sc a a' && mSs M io sc b b'
    | _ => false
  | .fors t it body, st => match st with
    | .For tg iter body' [] _ => notSet iter && (t.vars.all fun i => decide (i ∉ io)) && mT M sc t tg && mI M sc it tg iter && mSs M io sc body body'
    | _ => false
  | .whiles c body, st => match st with
    | .While c' body' [] _ => mE M sc c c' && mSs M io sc body body'
    | _ => false
  | .ret e, st => match st with
    | .Return (some x) _ => mE M sc e x
    | _ => false
  | .retN, st => match st with
    | .Return none _ => true
    | _ => false
  | .raise _ _, _ => false
  | .pass, st => match st with
    | .Pass _ => true
    | .Expr (.Constant (.str _) _ _) _ => true
    | _ => false
  | .brk, st => match st with
    | .Break _ => true
    | _ => false
  | .cont, st => match st with
    | .Continue _ => true
    | _ => false
  | .never, _ => true
def mSs (M : Nm) (io : List Nat) (sc : Scope) : List S → List Stmt → Bool
  | [], sts => sts.isEmpty
  | s :: ss, sts => match sts with
    | st :: sts => mS M io sc s st && mSs M io sc ss sts
    | [] => false
end
end
end Mir
set_option Elab.async false
set_option linter.all false
set_option maxRecDepth 100000
set_option maxHeartbeats 4000000
/-! Mir, part W: statements are sound. -/
namespace Mir
open PySem L2 PyProof.Rows

section
variable {X : Cx} {Wx : WX} {sc : Scope} {cl : Cl} {io : List Nat} {n : Nat} {pos p : Pos}
theorem allIo {vs : List Nat} (h : (vs.all fun i => decide (i ∉ io)) = true) : ∀ i ∈ vs, i ∉ io := fun i hi => by simpa using List.all_eq_true.mp h i hi
theorem nmLoc_at {M : Nm} {i : Nat} {e : Expr} (C : Ctx X Wx sc) (hN : X.N = M.N) (h : nmLoc M sc i e = true) : ∃ x p, e = .Name x p ∧ X.N[i]? = some x ∧ X.env.scope.names.lookup x = some .local := by
  unfold nmLoc at h
  split at h
  · simp only [Bool.and_eq_true, decide_eq_true_eq] at h
    refine ⟨_, _, rfl, by rw [hN]; exact h.1, ?_⟩
    exact (C.look _ _ h.2).elim id fun z => by cases z.1
  · cases h
theorem comp_of {M : Nm} {e : E} {elt : Expr} {gs : List Comprehension} {scope : Scope} {lp : Pos} (h : mE M sc e (.ListComp elt gs scope lp) = true) : ∃ t vs it cs c r, e = .comp t vs it cs c r := by
  cases e with
  | comp t vs it cs c r => exact ⟨t, vs, it, cs, c, r, rfl⟩
  | lit d => unfold mE at h; cases d <;> simp [mLit] at h
  | loc i => unfold mE at h; simp [mName] at h
  | _ => unfold mE at h; simp at h
theorem dcomp_of {M : Nm} {e : E} {ek ev : Expr} {gs : List Comprehension} {scope : Scope} {lp : Pos} (h : mE M sc e (.DictComp ek ev gs scope lp) = true) : ∃ d t vs it cs k v, e = .dcomp d t vs it cs k v := by
  cases e with
  | dcomp d t vs it cs k v => exact ⟨d, t, vs, it, cs, k, v, rfl⟩
  | lit d => unfold mE at h; cases d <;> simp [mLit] at h
  | loc i => unfold mE at h; simp [mName] at h
  | _ => unfold mE at h; simp at h
theorem sAsgN {M : Nm} {i : Nat} {e : E} {tg x : Expr} (hN : X.N = M.N) (C : SCtx X Wx sc) (G : GOk X cl M.bs M.fs n) (h : mAsg M io sc (.nm i) e tg x = true) : PS X (.Assign [tg] x pos) (RdS X Wx cl io (.asg (.nm i) e)) := by
  unfold mAsg at h
  simp only [Bool.and_eq_true] at h
  obtain ⟨⟨h1, h2⟩, h3⟩ := h
  split at h1
  · rename_i y py
    simp only [Bool.and_eq_true, decide_eq_true_eq] at h1
    obtain ⟨⟨g1, g2⟩, g3⟩ := h1
    rw [← hN] at g1
    obtain ⟨l1, l2⟩ := C.toCtx.loc g2
    have hE := (sE M e X Wx sc x hN C.toCtx G h3).1
    cases hx : isLC x with
    | false =>
      rw [hx, Bool.or_false] at h2
      exact st_asg g3 (ps_set C.nd g1 l1 (hE true false (by simp)) (swaps_eq h2) l2)
    | true =>
      cases x with
      | ListComp elt gs scope lp =>
        have hsw := swaps_lc (elt := elt) (gs := gs) (scope := scope) (lpos := lp) (py := py) (l := pos.line) C g2
        cases hb : swB sc scope y py lp with
        | false =>
          rw [hb] at hsw
          exact st_asg g3 (ps_set C.nd g1 l1 (hE true false (by simp)) hsw l2)
        | true =>
          rw [hb] at hsw
          have hloc : X.env.scope.names.lookup y = some .local := by
            have z := hb
            unfold swB at z
            simp only [Bool.and_eq_true, beq_iff_eq] at z
            exact (C.look _ _ z.1.1).elim id fun z => by cases z.1
          obtain ⟨t, vs, it, cs, c, r, rfl⟩ := comp_of h3
          unfold mE at h3
          split at h3
          · rename_i heq
            cases heq
            simp only [Bool.and_eq_true] at h3
            obtain ⟨⟨⟨⟨⟨⟨⟨k1, k2⟩, k3⟩, k4⟩, k5⟩, k6⟩, k7⟩, k8⟩ := h3
            exact st_asg g3 (st_comp (M := M) C (by rw [hN]; exact k1) (fun i hi => by simpa using List.all_eq_true.mp k2 i hi) (or_at k3) k4 (fun X' e' C' => sT M t X' WxF _ _ (e'.trans hN) C' k5) (sI M it X Wx sc _ _ hN C.toCtx G k6)
              (fun X' e' C' G' => sTests M cs X' WxF _ _ (e'.trans hN) C' G' k7) (fun X' e' C' G' => (sE M c X' WxF _ _ (e'.trans hN) C' G' k8).1) G g1 hloc hsw)
          · cases h3
      | DictComp ek ev gs scope lp =>
        have hsw := swaps_dc (ek := ek) (ev := ev) (gs := gs) (scope := scope) (lpos := lp) (py := py) (l := pos.line) C g2
        cases hb : swB sc scope y py lp with
        | false =>
          rw [hb] at hsw
          exact st_asg g3 (ps_set C.nd g1 l1 (hE true false (by simp)) hsw l2)
        | true =>
          rw [hb] at hsw
          have hloc : X.env.scope.names.lookup y = some .local := by
            have z := hb
            unfold swB at z
            simp only [Bool.and_eq_true, beq_iff_eq] at z
            exact (C.look _ _ z.1.1).elim id fun z => by cases z.1
          obtain ⟨d, t, vs, it, cs, k, v, rfl⟩ := dcomp_of h3
          unfold mE at h3
          split at h3
          · rename_i heq
            cases heq
            rw [Bool.and_eq_true, Bool.and_eq_true, Bool.and_eq_true, Bool.and_eq_true, Bool.and_eq_true, Bool.and_eq_true, Bool.and_eq_true, Bool.and_eq_true] at h3
            obtain ⟨⟨⟨⟨⟨⟨⟨⟨k1, k2⟩, k3⟩, k4⟩, k5⟩, k6⟩, k7⟩, k8⟩, k9⟩ := h3
            exact st_asg g3 (st_dcomp (M := M) C (by rw [hN]; exact k1) (fun i hi => by simpa using List.all_eq_true.mp k2 i hi) k3 k4 (fun X' e' C' => sT M t X' WxF _ _ (e'.trans hN) C' k5) (sI M it X Wx sc _ _ hN C.toCtx G k6)
              (fun X' e' C' G' => sTests M cs X' WxF _ _ (e'.trans hN) C' G' k7) (fun X' e' C' G' => (sE M k X' WxF _ _ (e'.trans hN) C' G' k8).1) (fun X' e' C' G' => (sE M v X' WxF _ _ (e'.trans hN) C' G' k9).1) G g1 hloc hsw)
          · cases h3
      | _ => simp [isLC] at hx
  · cases h1
theorem isTupE_at {e : Expr} (h : isTupE e = true) : ∃ es k p, e = .Tuple es k p := by
  unfold isTupE at h
  split at h
  · exact ⟨_, _, _, rfl⟩
  · cases h
theorem swF_len {ts xs : List Expr} {r : List Str} (h : swF sc ts xs = some (some r)) : xs.length = ts.length := by
  unfold swF at h
  by_cases c : xs.length = ts.length
  · exact c
  · rw [if_pos (by simp [c])] at h
    cases h
theorem len2 {α : Type} {l : List α} (h : l.length = 2) : ∃ a b, l = [a, b] := by
  match l, h with
  | [a, b], _ => exact ⟨a, b, rfl⟩
theorem len3 {α : Type} {l : List α} (h : l.length = 3) : ∃ a b c, l = [a, b, c] := by
  match l, h with
  | [a, b, c], _ => exact ⟨a, b, c, rfl⟩
theorem sAsgT {M : Nm} {ts : Ts} {e : E} {tg x : Expr} (hN : X.N = M.N) (C : SCtx X Wx sc) (G : GOk X cl M.bs M.fs n) (h : mAsg M io sc (.tup ts) e tg x = true) : PS X (.Assign [tg] x pos) (RdS X Wx cl io (.asg (.tup ts) e)) := by
  unfold mAsg at h
  simp only [Bool.and_eq_true] at h
  obtain ⟨⟨⟨⟨h1, h2⟩, h3⟩, h4⟩, h5⟩ := h
  obtain ⟨es, k, p, rfl⟩ := isTupE_at h1
  refine st_asgT C.toCtx (allIo h3) (sE M e X Wx sc x hN C.toCtx G h4).1 (sT M (.tup ts) X Wx sc _ hN C.toCtx h2) ⟨_, _, _, rfl⟩ ?_
  cases x with
  | Tuple vs k2 p2 =>
    have h5 : (es.all (locE sc) && decide (swF sc es vs = some none)) = true := h5
    simp only [Bool.and_eq_true, decide_eq_true_eq] at h5
    exact swapped_eq C h5.1 h5.2
  | _ => rfl
theorem nmC_at {M : Nm} {i : Nat} {e : Expr} (hN : X.N = M.N) (h : mNmC M sc i e = true) : ∃ x p, e = .Name x p ∧ X.N[i]? = some x ∧ locB sc x = true := by
  unfold mNmC at h
  split at h
  · simp only [Bool.and_eq_true, decide_eq_true_eq] at h
    exact ⟨_, _, rfl, by rw [hN]; exact h.1, h.2⟩
  · cases h
theorem sParT {M : Nm} {is : List Nat} {es : Es} {ts xs : List Expr} {kt k2 : Nat} {pt p2 : Pos} (hN : X.N = M.N) (C : SCtx X Wx sc) (G : GOk X cl M.bs M.fs n) (h : mParT M io sc is ts xs es = true) : PS X (.Assign [.Tuple ts kt pt] (.Tuple xs k2 p2) pos) (RdS X Wx cl io (.par is es)) := by
  unfold mParT at h
  split at h
  · simp only [Bool.and_eq_true, decide_eq_true_eq] at h
    obtain ⟨⟨⟨⟨⟨h1, h2⟩, h3⟩, h4⟩, h5⟩, h6⟩ := h
    obtain ⟨x, px, rfl, a1, a2⟩ := nmC_at hN h1
    obtain ⟨y, py, rfl, b1, b2⟩ := nmC_at hN h2
    exact st_parT2 C.toCtx a1 b1 a2 b2 (swapped_eq C h4 h5) (allIo h3) (sEs M es X Wx sc _ hN C.toCtx G h6)
  · cases h
mutual
theorem sS (M : Nm) : ∀ (s : S) (st : Stmt), X.N = M.N → SCtx X Wx sc → GOk X cl M.bs M.fs n → mS M io sc s st = true → PS X st (RdS X Wx cl io s)
  | .expr e, st, hN, C, G, h => by
    unfold mS at h
    split at h
    · rw [Bool.and_eq_true] at h
      exact st_expr h.1 (sE M e X Wx sc _ hN C.toCtx G h.2).1
    · cases h
  | .asg t e, st, hN, C, G, h => by
    unfold mS at h
    split at h
    · cases t with
      | nm i => exact sAsgN hN C G h
      | tup ts => exact sAsgT hN C G h
    · cases h
  | .par is es, st, hN, C, G, h => by
    unfold mS at h
    split at h
    · rw [Bool.or_eq_true] at h
      rcases h with h | h
      case inr => exact sParT hN C G h
      simp only [Bool.and_eq_true, decide_eq_true_eq] at h
      obtain ⟨⟨⟨⟨h1, h2⟩, h3⟩, h4⟩, h5⟩ := h
      have A := sEs M es X Wx sc _ hN C.toCtx G h5
      have hw := fun k k2 p1 p2 => swapped_eq (k := k) (k2 := k2) (p1 := p1) (p2 := p2) C h3 h4
      split at h1
      · simp only [Bool.and_eq_true, decide_eq_true_eq] at h1
        obtain ⟨⟨g1, g2⟩, g3⟩ := h1
        obtain ⟨x, px, rfl, a1, a2⟩ := nmLoc_at C.toCtx hN g1
        obtain ⟨y, py, rfl, b1, b2⟩ := nmLoc_at C.toCtx hN g2
        obtain ⟨a, b, rfl⟩ := len2 (swF_len h4)
        exact st_par2 C.toCtx a1 b1 g3 a2 b2 (hw _ _ _ _) (allIo h2) A
      · simp only [Bool.and_eq_true, decide_eq_true_eq] at h1
        obtain ⟨⟨⟨⟨⟨g1, g2⟩, g3⟩, g4⟩, g5⟩, g6⟩ := h1
        obtain ⟨x, px, rfl, a1, a2⟩ := nmLoc_at C.toCtx hN g1
        obtain ⟨y, py, rfl, b1, b2⟩ := nmLoc_at C.toCtx hN g2
        obtain ⟨z, pz, rfl, c1, c2⟩ := nmLoc_at C.toCtx hN g3
        obtain ⟨a, b, c, rfl⟩ := len3 (swF_len h4)
        exact st_par3 C.toCtx a1 b1 c1 g4 g5 g6 a2 b2 c2 (hw _ _ _ _) (allIo h2) A
      · cases h1
    · cases h
  | .aug i op e, st, hN, C, G, h => by
    unfold mS at h
    split at h
    · simp only [Bool.and_eq_true, decide_eq_true_eq] at h
      obtain ⟨⟨⟨⟨rfl, h2⟩, h3⟩, h4⟩, h5⟩ := h
      exact st_aug C.toCtx (by rw [hN]; exact h2) h3 h4 (sE M e X Wx sc _ hN C.toCtx G h5).1
    · cases h
  | .put i k e, st, hN, C, G, h => by
    unfold mS at h
    split at h
    · simp only [Bool.and_eq_true] at h
      obtain ⟨⟨⟨h1, h2⟩, h3⟩, h4⟩ := h
      obtain ⟨x, px, rfl, a1, a2, a3⟩ := mName_at h1
      exact st_put C.toCtx (by rw [hN]; exact a1) a2 a3 h2 (sE M k X Wx sc _ hN C.toCtx G h3).1 (sE M e X Wx sc _ hN C.toCtx G h4).1
    · cases h
  | .put2 _ _ _ _, st, hN, C, G, h => by
    unfold mS at h
    cases h
  | .dput i k e, st, hN, C, G, h => by
    unfold mS at h
    split at h
    · simp only [Bool.and_eq_true] at h
      obtain ⟨⟨⟨h1, h2⟩, h3⟩, h4⟩ := h
      obtain ⟨x, px, rfl, a1, a2, a3⟩ := mName_at h1
      exact st_dput C.toCtx G.room.units (by rw [hN]; exact a1) a2 a3 h2 (sE M k X Wx sc _ hN C.toCtx G h3).1 (sE M e X Wx sc _ hN C.toCtx G h4).1
    · cases h
  | .dput2 i k j k' e, st, hN, C, G, h => by
    unfold mS at h
    split at h
    · rename_i x _
      simp only [Bool.and_eq_true] at h
      obtain ⟨⟨⟨⟨⟨⟨⟨h1, h2⟩, h3⟩, h4⟩, h5⟩, h6⟩, h7⟩, h8⟩ := h
      obtain ⟨x1, px, rfl, a1, a2, a3⟩ := mName_at h1
      obtain ⟨y1, py, rfl, b1, b2, b3⟩ := mName_at h4
      split at h8
      · simp only [decide_eq_true_eq] at h8
        exact st_dput2 C.toCtx G.room.units (by rw [hN]; exact a1) a2 a3 (by rw [hN]; exact b1) b2 b3 h2 h5 (sE M k X Wx sc _ hN C.toCtx G h3).1 (sE M k' X Wx sc _ hN C.toCtx G h6).1 (sE M e X Wx sc _ hN C.toCtx G h7).1 (swapped_eq C rfl h8)
      · cases h8
    · cases h
  | .daug i op k e, st, hN, C, G, h => by
    unfold mS at h
    split at h
    · simp only [Bool.and_eq_true, decide_eq_true_eq] at h
      obtain ⟨⟨⟨⟨rfl, h1⟩, h2⟩, h3⟩, h4⟩ := h
      obtain ⟨x, px, rfl, a1, a2, a3⟩ := mName_at h1
      exact st_daug C.toCtx G.room.units (by rw [hN]; exact a1) a2 a3 h2 (sE M k X Wx sc _ hN C.toCtx G h3).1 (sE M e X Wx sc _ hN C.toCtx G h4).1
    · cases h
  | .ifs c a b, st, hN, C, G, h => by
    unfold mS at h
    split at h
    · simp only [Bool.and_eq_true] at h
      exact st_ifs (sE M c X Wx sc _ hN C.toCtx G h.1.1).2 (sSs M a _ hN C G h.1.2) (sSs M b _ hN C G h.2)
    · cases h
  | .fors t it body, st, hN, C, G, h => by
    unfold mS at h
    split at h
    · simp only [Bool.and_eq_true] at h
      obtain ⟨⟨⟨⟨h1, h2⟩, h3⟩, h4⟩, h5⟩ := h
      exact st_fors C h1 (allIo h2) (sI M it X Wx sc _ _ hN C.toCtx G h4) (sT M t X Wx sc _ hN C.toCtx h3) (sSs M body _ hN C G h5)
    · cases h
  | .whiles c body, st, hN, C, G, h => by
    unfold mS at h
    split at h
    · simp only [Bool.and_eq_true] at h
      exact st_whiles C (sE M c X Wx sc _ hN C.toCtx G h.1).2 (sSs M body _ hN C G h.2)
    · cases h
  | .ret e, st, hN, C, G, h => by
    unfold mS at h
    split at h
    · cases e with
      | loc i =>
        unfold mE at h
        obtain ⟨x, px, rfl, a1, a2, a3⟩ := mName_at h
        exact st_retL C.toCtx (by rw [hN]; exact a1) a2 a3
      | _ => exact st_retE (fun τ => by rw [evalS]; intro i z; cases z) (sE M _ X Wx sc _ hN C.toCtx G h).1
    · cases h
  | .retN, st, hN, C, G, h => by
    unfold mS at h
    split at h
    · exact st_retN
    · cases h
  | .raise _ _, st, hN, C, G, h => by
    unfold mS at h
    cases h
  | .pass, st, hN, C, G, h => by
    unfold mS at h
    split at h
    · exact st_pass
    · exact st_doc
    · cases h
  | .brk, st, hN, C, G, h => by
    unfold mS at h
    split at h
    · exact st_brk
    · cases h
  | .cont, st, hN, C, G, h => by
    unfold mS at h
    split at h
    · exact st_cont
    · cases h
  | .never, st, hN, C, G, h => st_never
theorem sSs (M : Nm) : ∀ (ss : List S) (sts : List Stmt), X.N = M.N → SCtx X Wx sc → GOk X cl M.bs M.fs n → mSs M io sc ss sts = true → PSs X sts (RdSs X Wx cl io ss)
  | [], sts, hN, C, G, h => by
    unfold mSs at h
    have : sts = [] := by simpa using h
    subst this
    exact ss_nil
  | s :: ss, sts, hN, C, G, h => by
    unfold mSs at h
    split at h
    · rw [Bool.and_eq_true] at h
      exact ss_cons (sS M s _ hN C G h.1) (sSs M ss _ hN C G h.2)
    · cases h
end
end
end Mir
set_option Elab.async false
set_option linter.all false
set_option maxRecDepth 100000
set_option maxHeartbeats 4000000
/-! Mir, part X: defs, the whole text. -/
namespace Mir
open PySem L2 PyProof.Rows

structure DefT where
  f : Str
  qual : Str
  st : Stmt
  N : List Str
  ps : List Str
  d : Def
def fnScopeB (N ps : List Str) (sc : Scope) : Bool :=
  (match sc.kind with | .function => true | _ => false) && !sc.isCoroutine && !sc.isGenerator && decide N.Nodup && decide (N.take ps.length = ps) && (ps.all fun x => decide (sc.names.lookup x = some .local) || decide (sc.names.lookup x = some .cell)) && (sc.names.all fun y => decide (y.2 ≠ .free))
theorem fnScope_of {N ps : List Str} {sc : Scope} (h : fnScopeB N ps sc = true) : FnScope N ps sc := by
  unfold fnScopeB at h
  simp only [Bool.and_eq_true, decide_eq_true_eq, Bool.not_eq_true', List.all_eq_true, Bool.or_eq_true] at h
  obtain ⟨⟨⟨⟨⟨⟨h1, h2⟩, h3⟩, h4⟩, h5⟩, h6⟩, h7⟩ := h
  refine ⟨?_, h2, h3, h4, h5, h6, h7⟩
  split at h1
  · assumption
  · cases h1
def defOk (bs fs : List Str) (t : DefT) : Bool :=
  fnScopeB t.N t.ps (defScope t.st) && decide (t.d.n = t.N.length) && decide (t.d.np = t.ps.length) && (t.d.io.all fun i => decide (i < t.d.np)) && decide t.d.io.Nodup && mSs ⟨t.N, bs, fs⟩ t.d.io (defScope t.st) t.d.body (defBody t.st)
section
variable {K : PySem.W.Frag} {mg : Str → Option Value} {τ : Tau} {σ : L2.St} {H Hf : Hp} {as : Nat → List Addr}
theorem Rel.pad (r : Rel K mg τ σ H Hf as) (k : Nat) : Rel K mg (τ ++ List.replicate k none) (σ ++ List.replicate k none) H Hf as := by
  have g : ∀ i, getO (τ ++ List.replicate k none) i = getO τ i := fun i => by
    rw [getO_get, getO_get]
    by_cases h : i < τ.length
    · rw [List.getElem?_append_left h]
    · rw [List.getElem?_append_right (by omega), List.getElem?_eq_none (l := τ) (by omega)]
      cases e : (List.replicate k (none : Option O))[i - τ.length]? with
      | none => rfl
      | some x =>
        rw [List.getElem?_replicate] at e
        split at e
        · cases e; rfl
        · cases e
  refine ⟨by simp [r.len], r.sub, fun i o e => ?_, fun i e => r.emp i (by rw [← g]; exact e), r.nd, r.sep⟩
  rw [g] at e
  obtain ⟨v, h1, h2⟩ := r.slot i o e
  exact ⟨v, by rw [List.getElem?_append_left (List.getElem?_eq_some_iff.mp h1).1]; exact h1, h2⟩
theorem getOs_len : ∀ {io : List Nat} {outs : List O}, getOs τ io = some outs → outs.length = io.length
  | [], outs, h => by rw [getOs] at h; cases h; rfl
  | i :: io, outs, h => by
    rw [getOs] at h
    cases e1 : getO τ i with
    | none => rw [e1] at h; cases h
    | some o =>
      cases e2 : getOs τ io with
      | none => rw [e1, e2] at h; cases h
      | some os =>
        rw [e1, e2] at h
        cases h
        rw [List.length_cons, List.length_cons, getOs_len e2]
theorem outT_of (n : Nat) : ∀ {io : List Nat} {outs : List O} {j : Nat} {o : O}, getOs τ io = some outs → getO (outT n io outs) j = some o → j ∈ io ∧ getO τ j = some o
  | [], outs, j, o, h, g => by
    rw [getOs] at h
    cases h
    rw [outT, getO_get, List.getElem?_replicate] at g
    · split at g <;> cases g
    · intro i is p os h1 h2; cases h1
  | i :: io, outs, j, o, h, g => by
    rw [getOs] at h
    cases e1 : getO τ i with
    | none => rw [e1] at h; cases h
    | some u =>
      cases e2 : getOs τ io with
      | none => rw [e1, e2] at h; cases h
      | some os =>
        rw [e1, e2] at h
        cases h
        rw [outT, getO_set] at g
        split at g
        · rename_i hj
          cases g
          exact ⟨by rw [hj.1]; exact List.mem_cons_self, by rw [hj.1]; exact e1⟩
        · obtain ⟨h1, h2⟩ := outT_of n e2 g
          exact ⟨List.mem_cons_of_mem _ h1, h2⟩
theorem outT_in (n : Nat) : ∀ {io : List Nat} {outs : List O} {j : Nat}, outs.length = io.length → j ∈ io → j < n → getO (outT n io outs) j ≠ none
  | [], _, j, _, h, _ => by cases h
  | i :: io, [], j, h, _, _ => by simp at h
  | i :: io, o :: os, j, h, hj, hl => by
    rw [outT, getO_set, outT_len]
    by_cases e : j = i
    · rw [if_pos ⟨e, by omega⟩]; simp
    · rw [if_neg (fun z => e z.1)]
      exact outT_in n (by simpa using h) ((List.mem_cons.mp hj).resolve_left e) hl
/-- what a def hands back -/
theorem Rel.outs {vs : List V} {σ' : L2.St} {outs : List O} {io : List Nat} {k : Nat} (r : Rel K mg τ σ' H Hf as) (fx : Fx io (vs.map some ++ List.replicate k none) σ') (hio : ∀ i ∈ io, i < vs.length) (e : getOs τ io = some outs) :
    ∃ as', Rel K mg (outT vs.length io outs) (vs.map some) H Hf as' ∧ ∀ c, Wof as' c → Wof as c := by
  classical
  refine ⟨fun j => if j ∈ io then as j else [], ⟨by rw [outT_len]; simp, r.sub, fun j o g => ?_, fun j g => ?_, fun j => ?_, fun i j c hi hj => ?_⟩, fun c ⟨j, hj⟩ => ?_⟩
  · obtain ⟨h1, h2⟩ := outT_of _ e g
    obtain ⟨v, h3, h4⟩ := r.slot j o h2
    refine ⟨v, ?_, by rw [if_pos h1]; exact h4⟩
    have := fx.2 j h1
    rw [h3, List.getElem?_append_left (by simpa using hio j h1)] at this
    exact this.symm
  · show (if j ∈ io then as j else []) = []
    by_cases h : j ∈ io
    · exact (outT_in _ (getOs_len e) h (hio j h) g).elim
    · rw [if_neg h]
  · show (if j ∈ io then as j else []).Nodup
    split
    · exact r.nd j
    · exact List.nodup_nil
  · have hi : c ∈ (if i ∈ io then as i else []) := hi
    have hj : c ∈ (if j ∈ io then as j else []) := hj
    split at hi
    · split at hj
      · exact r.sep i j c hi hj
      · cases hj
    · cases hi
  · have hj : c ∈ (if j ∈ io then as j else []) := hj
    split at hj
    · exact ⟨j, hj⟩
    · cases hj
end
/-- a def of the text, from its body's derivation -/
theorem fnG_of {P : Program} {w : World} {K : PySem.W.Frag} {mg : Str → Option Value} {base : Heap} {k : Nat} {x qual : Str} {st : Stmt} {f : Addr} {fd : FuncData} {N ps : List Str} {sp : Sp} (F : Fun K x qual st f fd) (sc : FnScope N ps (defScope st)) (ln : ∀ vs H Q E, sp vs H Q E → vs.length = ps.length)
    (bd : ∀ (cdv : Value) (A : Around) (outer : List Env) (s : Shared) (H : Hp) (vs : List V) (Q : VK) (E : XK), A.guards = some [] → Room k (A.deeper (envOfC qual (defScope st) s.heap.objs.size f cdv)) → sp vs H Q E → ∃ t, PSs (cxOf (L2.CX P w) P w K mg base N qual (defScope st) f cdv A outer s H E) (defBody st) t ∧ t { nx := fun _ H' => Q .non H', rt := Q } (start N vs) H) :
    FnG P w K mg base (L2.CX P w) (k + 1) f fd ps sp := by
  obtain ⟨oc, od, kV, dc, pm, an, cdv, ct, osl, rfl, lk, hcd⟩ := F.ex
  refine ⟨ln, ?_⟩
  intro A outer s H args us vs Q E hgd hr e0 hb rv hsp
  have hk1 : K.In s.heap := e0.mod.kin.keeps fun b o q => (e0.bs b o q).1
  have hk2 : s.heap.NoLimit := e0.mod.nolimit.keeps fun b o q => (e0.bs b o q).1
  have hcell : ∀ y ∈ ps.zip us, (defScope st).names.lookup y.1 = some .local ∨ ((defScope st).names.lookup y.1 = some .cell ∧ ((cellsFrom (s.heap.objs.size + 1) (defScope st).names []).lookup y.1).isSome = true) := by
    rintro ⟨nm, v⟩ hy
    exact (sc.par nm (List.of_mem_zip hy).1).imp id fun q => ⟨q, PySem.W.cellsFrom_some _ _ _ (.inl q)⟩
  refine codeAny_call_function hr.depth (hk1 _ _ lk) rfl sc.co sc.gen rfl (PySem.W.codeRec_of hk1 hcd) (hb _ _ _ _ (wpAny_newFunctionEnv_cells sc.kind hcell ?_))
  rintro env rfl s1 xx
  refine ⟨hk2.keeps xx.toInCall.keep, codeAny_func ?_⟩
  obtain ⟨t, h1, h2⟩ := bd cdv A outer s H vs Q E hgd (hr.deeper _) hsp
  refine wpAny_mono (h1.run [] s1 (start N vs) H _ (inv_start sc hr.hd e0 (ln _ _ _ _ hsp) rv xx) h2) ?_ fun _ _ q => q
  intro fl s2 hs
  match fl, hs with
  | .ret u, hs =>
    obtain ⟨v, σ2, H2, J, q1, q2⟩ := hs
    exact ⟨v, H2, J.os, J.bare, J.base, J.hok, q1, q2⟩
  | .next, hs =>
    obtain ⟨σ2, H2, J, q2⟩ := hs
    exact ⟨.non, H2, J.os, J.bare, J.base, J.hok, rfl, q2⟩
  | .brk, ⟨_, _, _, hs⟩ => exact hs.elim
  | .cont, ⟨_, _, _, hs⟩ => exact hs.elim
theorem def_ok {P : Program} {w : World} {K : PySem.W.Frag} {mg : Str → Option Value} {base : Heap} {cl : Cl} {bs fs : List Str} {k : Nat} {t : DefT} {fa : Addr} {fd : FuncData} (F : Fun K t.f t.qual t.st fa fd) (ok : defOk bs fs t = true)
    (G : ∀ X : Cx, X.prog = P → X.w = w → X.K = K → X.mg = mg → X.base = base → Room k X.A → X.A.guards = some [] → GOk X cl bs fs k) : FnG P w K mg base (L2.CX P w) (k + 1) fa fd t.ps (spF K mg t.d.io (runDef cl t.d)) := by
  unfold defOk at ok
  simp only [Bool.and_eq_true, decide_eq_true_eq, List.all_eq_true] at ok
  obtain ⟨⟨⟨⟨⟨h1, h2⟩, h3⟩, h4⟩, h5⟩, h6⟩ := ok
  have S := fnScope_of h1
  have hlen : ∀ (vs : List V) (H : Hp) (Q : VK) (E : XK), spF K mg t.d.io (runDef cl t.d) vs H Q E → vs.length = t.ps.length := fun vs H Q E h => by
    obtain ⟨os, Hf, as, rel, q⟩ := h
    have hl := rel.len
    rw [List.length_map, List.length_map] at hl
    unfold runDef at q
    by_cases c : os.length = t.d.np
    · rw [← hl, c, h3]
    · rw [if_neg c] at q; exact q.elim
  refine fnG_of F S hlen fun cdv A outer s H vs Q E hgd hr hsp => ?_
  have hvl := hlen vs H Q E hsp
  refine ⟨RdSs (cxOf (L2.CX P w) P w K mg base t.N t.qual (defScope t.st) fa cdv A outer s H E) (fun cls d _ H => E cls d H) cl t.d.io t.d.body, ?_, ?_⟩
  · have C : SCtx (cxOf (L2.CX P w) P w K mg base t.N t.qual (defScope t.st) fa cdv A outer s H E) (fun cls d _ H => E cls d H) (defScope t.st) :=
      { calm := rfl, nd := S.nd, look := fun x k e => .inl e, fn := fun x _ => rfl, tk := takes_of rfl rfl rfl rfl, own := passes_of rfl, kind := S.kind }
    exact sSs ⟨t.N, bs, fs⟩ t.d.body (defBody t.st) rfl C (G _ rfl rfl rfl rfl rfl hr hgd) h6
  · obtain ⟨os, Hf, as, rel, q⟩ := hsp
    have hol : os.length = vs.length := by have := rel.len; simpa using this
    have hc : os.length = t.d.np := by rw [hol, hvl, h3]
    have hio : ∀ i ∈ t.d.io, i < vs.length := fun i hi => by
      have := h4 i hi
      rw [hvl, ← h3]
      exact this
    have ek : t.N.length - vs.length = t.d.n - t.d.np := by rw [h2, h3, hvl]
    refine ⟨os.map some ++ List.replicate (t.d.n - t.d.np) none, Hf, as, ?_, ?_⟩
    · show Rel K mg _ (vs.map some ++ List.replicate (t.N.length - vs.length) none) H Hf as
      rw [ek]
      exact rel.pad _
    · show FdM K mg (fun cls d _ H => E cls d H) t.d.io (vs.map some ++ List.replicate (t.N.length - vs.length) none) H Hf as _ _
      rw [ek]
      cases e : evalSs cl t.d.body (os.map some ++ List.replicate (t.d.n - t.d.np) none) with
      | st =>
        have er : runDef cl t.d os = .st := by
          unfold runDef
          rw [if_pos hc, e]
        rw [er] at q
        exact q.elim
      | bk τ' =>
        have er : runDef cl t.d os = .st := by
          unfold runDef
          rw [if_pos hc, e]
        rw [er] at q
        exact q.elim
      | ct τ' =>
        have er : runDef cl t.d os = .st := by
          unfold runDef
          rw [if_pos hc, e]
        rw [er] at q
        exact q.elim
      | nx τ' =>
        cases eo : getOs τ' t.d.io with
        | none =>
          have er : runDef cl t.d os = .st := by
            unfold runDef
            rw [if_pos hc, e]
            show outsOf t.d.io τ' _ = _
            unfold outsOf
            rw [eo]
          rw [er] at q
          exact q.elim
        | some outs =>
          have er : runDef cl t.d os = .ok (.d .none) outs := by
            unfold runDef
            rw [if_pos hc, e]
            show outsOf t.d.io τ' _ = _
            unfold outsOf
            rw [eo]
          rw [er] at q
          obtain ⟨_, q⟩ := q
          intro σ' H' Hf' as' r st fx
          obtain ⟨as2, r2, sub2⟩ := r.outs fx hio eo
          exact q .non H' Hf' as2 [] (by rw [hol]; exact r2) (by rw [ROwn]; exact ⟨rfl, .non⟩) List.nodup_nil (fun c hc => by cases hc) (st.sub fun c z => z.elim (sub2 c) fun z => by cases z)
      | rt o τ' =>
        cases eo : getOs τ' t.d.io with
        | none =>
          have er : runDef cl t.d os = .st := by
            unfold runDef
            rw [if_pos hc, e]
            show outsOf t.d.io τ' _ = _
            unfold outsOf
            rw [eo]
          rw [er] at q
          exact q.elim
        | some outs =>
          have er : runDef cl t.d os = .ok o outs := by
            unfold runDef
            rw [if_pos hc, e]
            show outsOf t.d.io τ' _ = _
            unfold outsOf
            rw [eo]
          rw [er] at q
          obtain ⟨_, q⟩ := q
          intro v σ' H' Hf' as' ao r ow nd dj st fx
          obtain ⟨as2, r2, sub2⟩ := r.outs fx hio eo
          exact q v H' Hf' as2 ao (by rw [hol]; exact r2) ow nd (fun c hc z => dj c hc (sub2 c z)) (st.sub fun c z => z.imp (sub2 c) id)
      | ex x τ' =>
        cases eo : getOs τ' t.d.io with
        | none =>
          have er : runDef cl t.d os = .st := by
            unfold runDef
            rw [if_pos hc, e]
            show outsOf t.d.io τ' _ = _
            unfold outsOf
            rw [eo]
          rw [er] at q
          exact q.elim
        | some outs =>
          have er : runDef cl t.d os = .ex x outs := by
            unfold runDef
            rw [if_pos hc, e]
            show outsOf t.d.io τ' _ = _
            unfold outsOf
            rw [eo]
          rw [er] at q
          obtain ⟨_, q⟩ := q
          intro cls dd σ' H' Hf' as' hx r st fx
          obtain ⟨as2, r2, sub2⟩ := r.outs fx hio eo
          exact q cls dd H' Hf' as2 hx (by rw [hol]; exact r2) (st.sub fun c z => sub2 c z)

/-! ### the whole text -/
/-- where the text's defs and constants stand -/
structure Txt (K : PySem.W.Frag) (mg : Str → Option Value) (P : Prog) (bs fs : List Str) : Prop where
  con : ∀ x d, P.con x = some d → ∃ u v, mg x = some u ∧ RelV v u ∧ Rep K mg (fun _ => none) v d
  bl : ∀ x ∈ bs, mg x = none
  fn : ∀ f ∈ fs, ∃ t fa fd, t.f = f ∧ P.fn f = some t.d ∧ Fun K t.f t.qual t.st fa fd ∧ mg f = some (.ref fa) ∧ Binds K fd t.ps [] ∧ defOk bs fs t = true
theorem FnG.imp {P : Program} {w : World} {K : PySem.W.Frag} {mg : Str → Option Value} {base : Heap} {cx : CXT} {k : Nat} {f : Addr} {fd : FuncData} {ps : List Str} {sp sp' : Sp} (F : FnG P w K mg base cx k f fd ps sp) (i : ∀ vs H Q E, sp' vs H Q E → sp vs H Q E) : FnG P w K mg base cx k f fd ps sp' :=
  ⟨fun vs H Q E q => F.ln vs H Q E (i _ _ _ _ q), fun A outer s H args us vs Q E g1 g2 g3 g4 g5 q => F.go A outer s H args us vs Q E g1 g2 g3 g4 g5 (i _ _ _ _ q)⟩
theorem fn_st {P : Program} {w : World} {K : PySem.W.Frag} {mg : Str → Option Value} {base : Heap} {cx : CXT} {k : Nat} {f : Addr} {fd : FuncData} {ps : List Str} {io : List Nat} : FnG P w K mg base cx k f fd ps (spF K mg io (fun _ => .st)) :=
  ⟨fun vs H Q E h => by obtain ⟨_, _, _, _, h⟩ := h; exact h.elim, fun A outer s H args us vs Q E _ _ _ _ _ h => by obtain ⟨_, _, _, _, h⟩ := h; exact h.elim⟩
theorem all_ok {p : Program} {w : World} {K : PySem.W.Frag} {mg : Str → Option Value} {base : Heap} {P : Prog} {bs fs : List Str} (T : Txt K mg P bs fs) : ∀ n, ∀ f ∈ fs, ∃ fa fd ps, FnG p w K mg base (L2.CX p w) n fa fd ps (spF K mg (P.io f) (evalCall P n f)) ∧ mg f = some (.ref fa) ∧ PySem.W.keepIn K (.ref fa) = true ∧ Binds K fd ps []
  | 0, f, hf => by
    obtain ⟨t, fa, fd, e, ep, F, hm, hb, ok⟩ := T.fn f hf
    refine ⟨fa, fd, t.ps, ?_, hm, F.kp, hb⟩
    have z : evalCall P 0 f = fun _ => .st := by funext os; rw [evalCall]
    rw [z]
    exact fn_st
  | n + 1, f, hf => by
    obtain ⟨t, fa, fd, e, ep, F, hm, hb, ok⟩ := T.fn f hf
    refine ⟨fa, fd, t.ps, ?_, hm, F.kp, hb⟩
    have z : evalCall P (n + 1) f = runDef ⟨evalCall P n, P.io, P.con⟩ t.d := by funext os; rw [evalCall, ep]
    have zi : P.io f = t.d.io := by unfold Prog.io; rw [ep]
    rw [z, zi]
    refine def_ok F ok fun X hP hw hK hmg hbase hr hgd => ?_
    subst hP hw hK hmg hbase
    exact ⟨hr, hgd, T.con, T.bl, fun f hf => by
      obtain ⟨fa, fd, ps, h1, h2, h3, h4⟩ := all_ok T n f hf
      exact ⟨fa, fd, ps, h1, h2, h3, h4⟩⟩
/-- one def, over the others -/
theorem one_ok {p : Program} {w : World} {K : PySem.W.Frag} {mg : Str → Option Value} {base : Heap} {P : Prog} {bs fs : List Str} (T : Txt K mg P bs fs) (n : Nat) {t : DefT} {fa : Addr} {fd : FuncData} (ep : P.fn t.f = some t.d) (F : Fun K t.f t.qual t.st fa fd) (ok : defOk bs fs t = true) :
    FnG p w K mg base (L2.CX p w) (n + 1) fa fd t.ps (spF K mg (P.io t.f) (evalCall P (n + 1) t.f)) := by
  have z : evalCall P (n + 1) t.f = runDef ⟨evalCall P n, P.io, P.con⟩ t.d := by funext os; rw [evalCall, ep]
  have zi : P.io t.f = t.d.io := by unfold Prog.io; rw [ep]
  rw [z, zi]
  refine def_ok F ok fun X hP hw hK hmg hbase hr hgd => ?_
  subst hP hw hK hmg hbase
  exact ⟨hr, hgd, T.con, T.bl, fun f hf => all_ok T n f hf⟩
/-- the law's promise -/
def spTop (K : PySem.W.Frag) : Sp := fun vs H Q _ => ∃ (a : Addr) (ns : List Int), vs = [.ref a] ∧ SqL K H a (ns.map V.int) ∧ ns.length ≤ 63 ∧ ∀ H', Q (.bl true) H'
theorem law_ok {p : Program} {w : World} {K : PySem.W.Frag} {mg : Str → Option Value} {base : Heap} {P : Prog} {k : Nat} {fa : Addr} {fd : FuncData} {ps : List Str} {x : Str} (h : ∀ ns : List Int, ns.length ≤ 63 → evalCall P k x [.d (scrD ns)] = .ok (.d (.bool true)) []) (hio : P.io x = [])
    (F : FnG p w K mg base (L2.CX p w) k fa fd ps (spF K mg (P.io x) (evalCall P k x))) : FnG p w K mg base (L2.CX p w) k fa fd ps (spTop K) := F.imp fun vs H Q E q => by
  obtain ⟨a, ns, rfl, hS, hl, q⟩ := q
  refine ⟨[.d (scrD ns)], H, fun _ => [], ⟨rfl, Same.refl _, fun i o e => ?_, fun i _ => rfl, fun i => List.nodup_nil, fun i j b hb => by cases hb⟩, ?_⟩
  · have e := getO_some e
    match i, e with
    | 0, e =>
      cases e
      exact ⟨_, rfl, by rw [ROwn]; exact ⟨rfl, .scr hS rfl⟩⟩
    | i + 1, e => simp at e
  · rw [h ns hl, hio]
    refine ⟨rfl, fun v H' Hf' as' ao r ow nd dj st => ?_⟩
    rw [ROwn] at ow
    have := ow.2
    cases this
    exact q _
/-- the law is asked: nothing but the script stands -/
theorem top_call {P : Program} {w : World} {K : PySem.W.Frag} {mg mb : Str → Option Value} {cx : CXT} {k : Nat} {fa a : Addr} {fd : FuncData} {x : Str} {sp : Sp} {s1 : Shared} {vs : List Value} {ns : List Int}
    (hK : K.In s1.heap) (hns : s1.heap.Ns mainGlobals mg) (hb : s1.heap.Ns builtinsNs mb) (hbb : ∀ x : Str, x ≠ "__name__" → mb x = bootBuiltins x) (hlim : s1.heap.NoLimit) (hg : s1.gens = #[])
    (ha : s1.heap.get? a = some { cls := .type "list", data := .seq vs.toArray }) (hi : IntsAre vs ns) (hl : ns.length ≤ sizeLine) (hr : Room k callerA)
    (F : ∀ base : Heap, K.In base → base.Ns mainGlobals mg → FnG P w K mg base cx k fa fd [x] sp) (hbind : ∀ (s : Shared) (u : Value), BindsTo s fd ⟨[u], []⟩ [(x, u)])
    (hsp : ∀ H : Hp, SqL K H a (ns.map V.int) → sp [.ref a] H (fun v _ => v = .bl true) fun _ _ _ => False)
    (hcx : ∀ H e s', cx [] H s1 (fun _ _ _ => False) e s' → False) :
    codeAny (model P w) callerA (.call (.ref fa) ⟨[.ref a], []⟩) (fun r s' => r = .ok (.ret (.bool true)) ∧ OldK s1.heap s'.heap ∧ s'.os = s1.os ∧ AllBare s'.gens) s1 := by
  have rv := vals_ints hi
  have hlen := hi.length
  have core : ∀ H : Hp, (∀ b u, H b = some u → b = a ∧ ∃ o ys, u = .frz o (.lst ys)) → SqL K H a (ns.map V.int) → HOk P w H s1.heap → (H a ≠ none → K.lookup a = none) →
      codeAny (model P w) callerA (.call (.ref fa) ⟨[.ref a], []⟩) (fun r s' => r = .ok (.ret (.bool true)) ∧ OldK s1.heap s'.heap ∧ s'.os = s1.os ∧ AllBare s'.gens) s1 := by
    intro H hO hS hok hKa
    have hid : ∀ {b : Addr} {o : Obj}, s1.heap.get? b = some o → H b = none → (hidT s1.heap H).get? b = some o := fun e n => hidT_get e n
    have free : ∀ {b : Addr} {o : Obj} {es : Array DictEntry} {ep : Nat}, s1.heap.get? b = some o → o.data = .dict es ep → H b = none := by
      intro b o es ep e d
      cases q : H b with
      | none => rfl
      | some u =>
        obtain ⟨rfl, _⟩ := hO b u q
        rw [ha] at e
        cases e
        cases d
    have nsK : ∀ {b : Addr} {m : Str → Option Value}, s1.heap.Ns b m → (hidT s1.heap H).Ns b m := by
      rintro b m ⟨o, es, ep, e, d, q⟩
      exact ⟨o, es, ep, hid e (free e d), d, q⟩
    have hKb : K.In (hidT s1.heap H) := by
      intro b o e
      refine hid (hK b o e) ?_
      cases q : H b with
      | none => rfl
      | some u =>
        obtain ⟨rfl, _⟩ := hO b u q
        rw [hKa (by rw [q]; exact fun z => by cases z)] at e
        cases e
    obtain ⟨mc, l1, l2⟩ := hlim
    have e0 : Env0 P w K mg (hidT s1.heap H) callerA [] s1 H := ⟨rfl, ⟨hKb, nsK hns, ⟨mb, nsK hb, hbb⟩, mc, nsK l1, l2⟩, fun b o e => of_hidT e, Nat.le_of_eq (hidT_size _ _), trivial, (fun b z => nomatch (show b ∈ ([] : List Addr) from z)), hok, .of_eq hg⟩
    refine codeAny_mono ((F _ hKb (nsK hns)).go callerA [] s1 H ⟨[.ref a], []⟩ [.ref a] [.ref a] _ _ rfl hr e0 (hbind s1 (.ref a)) (.cons rfl .nil) (hsp H hS)) ?_
    intro res s2 hq
    match res, hq with
    | .error e, hq => exact (hcx H e s2 hq).elim
    | .ok .next, hq => exact hq.elim
    | .ok .brk, hq => exact hq.elim
    | .ok .cont, hq => exact hq.elim
    | .ok (.ret u), hq =>
      obtain ⟨v, H2, os, bare, un, hok2, rr, q⟩ := hq
      have q : v = .bl true := q
      subst q
      have rr : u = Value.bool true := rr
      subst rr
      refine ⟨rfl, OldK.of_keep fun b o e => ?_, os, bare⟩
      cases q : H b with
      | none => exact un.keep b o e q (fun z => nomatch (show b ∈ ([] : List Addr) from z)) (fun z => nomatch z)
      | some u =>
        obtain ⟨_, ob, ys, rfl⟩ := hO b u q
        have z1 := (hok b _ q).1
        have z2 := (hok2 b _ (un.frzs b ob _ q)).1
        rw [e] at z1
        cases z1
        exact z2
  cases hk : K.lookup a with
  | some o =>
    have e := hK a o hk
    rw [ha] at e
    cases e
    exact core (fun _ => none) (fun b u z => nomatch (show (none : Option HO) = some u from z)) (.inr ⟨_, vs.toArray, _, hk, rfl, rfl, rfl, by rw [List.size_toArray, hlen]; exact hl, by simpa using rv⟩) (fun b u z => nomatch (show (none : Option HO) = some u from z)) fun z => absurd rfl z
  | none =>
    have g : ∀ b u, (if b = a then some (HO.frz { cls := .type "list", data := .seq vs.toArray } (.lst (ns.map V.int))) else none) = some u → b = a ∧ u = HO.frz { cls := .type "list", data := .seq vs.toArray } (.lst (ns.map V.int)) := by
      intro b u z
      split at z
      · rename_i hb
        cases z
        exact ⟨hb, rfl⟩
      · cases z
    refine core (fun b => if b = a then some (.frz { cls := .type "list", data := .seq vs.toArray } (.lst (ns.map V.int))) else none) (fun b u z => ⟨(g b u z).1, _, _, (g b u z).2⟩) (.inl (.inr ⟨_, if_pos rfl⟩)) (fun b u z => ?_) fun _ => hk
    obtain ⟨rfl, rfl⟩ := g b u z
    exact ⟨ha, by rw [List.length_map]; exact hl, vs, _, rv, ha⟩
theorem walk_all {k : Nat} {l : PySem.W.OpenLaw} {q : Program} {loose : List Str} {XP : (Str → Option Value) → Heap → Prop} {YP : World → Heap → Prop} {d : DefRec} {K : Params → PySem.W.Frag} (hr : Room k callerA) (hn : l.most = some 63) (hdf : d.params.defaults = [])
    (hY : ∀ (w : World) (h : Heap), YP w h → (K w.params).In h)
    (F : ∀ (w : World) (mg : Str → Option Value) (fa : Addr) (h : Heap), (K w.params).In h → h.Ns mainGlobals mg → mg d.name = some (.ref fa) →
      ∃ fd : FuncData, (∀ (s : Shared) (u : Value), BindsTo s fd ⟨[u], []⟩ [("script", u)]) ∧ ∀ base : Heap, (K w.params).In base → base.Ns mainGlobals mg → FnG l.prog w (K w.params) mg base (L2.CX l.prog w) k fa fd ["script"] (spTop (K w.params))) :
    PySem.W.WalkO q loose XP YP l.row.toRowW d [] (fun f vs => PySem.call f vs) := by
  refine Att.attach_call hn hdf ?_
  intro w s0 s1 mg mb fa o pm cd doc a vs ns G Y ho hd hcd hmg hobj hints hlen hg
  have hK := hY w _ Y
  obtain ⟨fd, hb, hF⟩ := F w mg fa _ hK G.T.g hmg
  refine top_call hK G.T.g G.T.b G.T.builtins G.T.nolimit hg hobj hints (Nat.le_trans hlen (by rw [sizeLine_eq]; omega)) hr hF hb (fun H hS => ⟨a, ns, rfl, hS, hlen, fun _ => rfl⟩) ?_
  intro H e s2 z
  obtain ⟨_, _, _, _, _, _, _, _, _, _, _, _, z⟩ := z
  exact z
end Mir
set_option Elab.async false
set_option linter.all false
set_option maxRecDepth 100000
set_option maxHeartbeats 4000000
/-! Mir, part Y: tools for what a def computes. -/
namespace Mir
open PySem L2 PySem.W

@[simp] theorem getO_c0 {x : Option O} {τ : Tau} : getO (x :: τ) 0 = x := by cases x <;> rfl
@[simp] theorem getO_cs {x : Option O} {τ : Tau} {i : Nat} : getO (x :: τ) (i + 1) = getO τ i := rfl
theorem call_of {P : Prog} {n : Nat} {f : Str} {d : Def} {args : List O} (h : P.fn f = some d) : evalCall P (n + 1) f args = runDef ⟨evalCall P n, P.io, P.con⟩ d args := by
  rw [evalCall, h]
theorem io_of {P : Prog} {f : Str} {d : Def} (h : P.fn f = some d) : P.io f = d.io := by unfold Prog.io; rw [h]
@[simp] theorem asB_ok {c : Bool} {τ : Tau} : asB (.ok (.d (.bool c)) τ) = .ok c τ := rfl
@[simp] theorem asB_st : asB .st = .st := rfl
@[simp] theorem ofO_some {o : O} {τ : Tau} : R.ofO (some o) τ = .ok o τ := rfl
@[simp] theorem ofB_some {c : Bool} {τ : Tau} : R.ofB (some c) τ = .ok (.d (.bool c)) τ := rfl
@[simp] theorem flatD_d {x : D} {τ : Tau} {f : D → Tau → R O} : flatD (.d x) τ f = f x τ := rfl
@[simp] theorem data_d {x : D} : (O.d x).data = x := by rw [O.data]
@[simp] theorem data_l {os : List O} : (O.l os).data = .list (O.datas os) := by rw [O.data]
@[simp] theorem datas_nil : O.datas [] = [] := by rw [O.datas]
@[simp] theorem datas_cons {o : O} {os : List O} : O.datas (o :: os) = o.data :: O.datas os := by rw [O.datas]
@[simp] theorem datas_map' {ds : List D} : O.datas (ds.map .d) = ds := datas_map ds
@[simp] theorem isD_d {x : D} : (O.d x).isD = true := rfl
@[simp] theorem flat_d {x : D} : (O.d x).flat = true := rfl
@[simp] theorem flat_l {ds : List D} : (O.l (ds.map .d)).flat = true := by
  show (ds.map O.d).all O.isD = true
  simp
@[simp] theorem seq_nx {τ : Tau} {f : Tau → F} : (F.nx τ).seq f = f τ := rfl
@[simp] theorem seq_rt {o : O} {τ : Tau} {f : Tau → F} : (F.rt o τ).seq f = .rt o τ := rfl
@[simp] theorem restore_f {τ : Tau} {r : R O} : restore false τ r = r := by
  cases r with
  | ok o τ' => cases o <;> rfl
  | ex _ _ => rfl
  | st => rfl
@[simp] theorem restore_i {τ τ' : Tau} {i : Int} : restore true τ (.ok (.d (.int i)) τ') = .ok (.d (.int i)) τ := rfl
@[simp] theorem restore_b {τ τ' : Tau} {i : Bool} : restore true τ (.ok (.d (.bool i)) τ') = .ok (.d (.bool i)) τ := rfl
@[simp] theorem restore_n {τ τ' : Tau} : restore true τ (.ok (.d .none) τ') = .ok (.d .none) τ := rfl
@[simp] theorem restore_l {τ τ' : Tau} {b : Bool} {os : List O} : restore b τ (.ok (.l os) τ') = .ok (.l os) τ' := rfl
theorem restore_t {τ τ' : Tau} {xs : List D} (h : noMut (.tuple xs) = true) : restore true τ (.ok (.d (.tuple xs)) τ') = .ok (.d (.tuple xs)) τ := by
  show (if (true && noMut (.tuple xs)) = true then _ else _) = _
  rw [h]; rfl
@[simp] theorem iop_eq (es : Es) : es.iop = iopK 0 es.kinds := rfl
@[simp] theorem ios_eq (es : Es) : es.ios = iosK es.kinds := rfl
@[simp] theorem kinds_n : Es.nil.kinds = [] := rfl
@[simp] theorem kinds_c {e : E} {es : Es} : (Es.cons e es).kinds = e.isIo :: es.kinds := rfl
@[simp] theorem iopK_n {k : Nat} : iopK k [] = [] := rfl
@[simp] theorem iopK_c0 {k : Nat} {r : List (Option Nat)} : iopK k (none :: r) = iopK (k + 1) r := rfl
@[simp] theorem iopK_c1 {k i : Nat} {r : List (Option Nat)} : iopK k (some i :: r) = k :: iopK (k + 1) r := rfl
@[simp] theorem iosK_n : iosK [] = [] := rfl
@[simp] theorem iosK_c0 {r : List (Option Nat)} : iosK (none :: r) = iosK r := rfl
@[simp] theorem iosK_c1 {i : Nat} {r : List (Option Nat)} : iosK (some i :: r) = i :: iosK r := rfl
@[simp] theorem ofCR_ok {τ : Tau} {o : O} : ofCR τ [] (.ok o []) = .ok o τ := rfl
@[simp] theorem ofCR_ok1 {τ : Tau} {i : Nat} {o u : O} : ofCR τ [i] (.ok o [u]) = .ok o (τ.set i (some u)) := rfl
@[simp] theorem setOuts_n {τ : Tau} : setOuts τ [] [] = some τ := rfl
/-! comparing -/
theorem okD {α β : Type} [DecidableEq α] [Datum α] [DecidableEq β] [Datum β] (x : α) (y : β) (h1 : Datum.depth α ≤ 40 := by decide) (h2 : Datum.depth β ≤ 40 := by decide) : okDepth (Datum.toD x) (Datum.toD y) = true := by
  unfold okDepth
  rw [Bool.and_eq_true, decide_eq_true_eq, decide_eq_true_eq]
  exact ⟨Nat.le_trans (Datum.depth_le x) h1, Nat.le_trans (Datum.depth_le y) h2⟩
@[simp] theorem cmp_eq_i (a c : Int) : cmpF .Eq (.int a) (.int c) = some (decide (a = c)) := by
  simp [cmpF, PyData.plain, okDepth, PyData.depth, PyData.eqv]
  rw [Bool.eq_iff_iff]; simp
@[simp] theorem cmp_ne_i (a c : Int) : cmpF .NotEq (.int a) (.int c) = some (decide (a ≠ c)) := by
  simp [cmpF, PyData.plain, okDepth, PyData.depth, PyData.eqv]
  rw [Bool.eq_iff_iff]; simp
theorem alikeN_i (a c : Int) : alikeN (.int a) (.int c) = true := by simp [alikeN, PyData.plain, isNone, W.alike]
theorem okd_i (a c : Int) : okDepth (.int a) (.int c) = true := by simp [okDepth, PyData.depth]
theorem cmp_lt_if (a c : D) : cmpF .Lt a c = if (alikeN a c && okDepth a c) = true then some (W.dataLt a c) else none := by cases a <;> rfl
theorem cmp_gt_if (a c : D) : cmpF .Gt a c = if (alikeN a c && okDepth a c) = true then some (W.dataLt c a) else none := by cases a <;> rfl
theorem cmp_le_if (a c : D) : cmpF .LtE a c = if (alikeN a c && okDepth a c) = true then some (!W.dataLt c a) else none := by cases a <;> rfl
theorem cmp_ge_if (a c : D) : cmpF .GtE a c = if (alikeN a c && okDepth a c) = true then some (!W.dataLt a c) else none := by cases a <;> rfl
theorem cmp_eq_if (a c : D) : cmpF .Eq a c = if (PyData.plain a && PyData.plain c && okDepth a c) = true then some (PyData.eqv a c) else none := by cases a <;> rfl
theorem cmp_ne_if (a c : D) : cmpF .NotEq a c = if (PyData.plain a && PyData.plain c && okDepth a c) = true then some (!PyData.eqv a c) else none := by cases a <;> rfl
theorem okAl (a c : Int) : (alikeN (.int a) (.int c) && okDepth (.int a) (.int c)) = true := by rw [alikeN_i, okd_i] <;> rfl
@[simp] theorem cmp_lt_i (a c : Int) : cmpF .Lt (.int a) (.int c) = some (decide (a < c)) := by
  rw [cmp_lt_if, if_pos (okAl a c), dataLt_int]
@[simp] theorem cmp_gt_i (a c : Int) : cmpF .Gt (.int a) (.int c) = some (decide (c < a)) := by
  rw [cmp_gt_if, if_pos (okAl a c), dataLt_int]
@[simp] theorem cmp_le_i (a c : Int) : cmpF .LtE (.int a) (.int c) = some (decide (a ≤ c)) := by
  rw [cmp_le_if, if_pos (okAl a c), dataLt_int]
  have : (!decide (c < a)) = decide (a ≤ c) := by rw [Bool.eq_iff_iff]; simp
  rw [this]
@[simp] theorem cmp_ge_i (a c : Int) : cmpF .GtE (.int a) (.int c) = some (decide (c ≤ a)) := by
  rw [cmp_ge_if, if_pos (okAl a c), dataLt_int]
  have : (!decide (a < c)) = decide (c ≤ a) := by rw [Bool.eq_iff_iff]; simp
  rw [this]
/-! one step of the evaluator -/
section
variable {cl : Cl} {b : Bool} {τ : Tau}
@[simp] theorem ev_lit {x : D} : evalG cl b (.lit x) τ = .ok (.d x) τ := by rw [evalG]
@[simp] theorem ev_loc {i : Nat} : evalG cl b (.loc i) τ = match getO τ i with | some o => if b then .ok o τ else .ok (.d o.data) (τ.set i (some (.d o.data))) | none => .st := by rw [evalG] <;> rfl
@[simp] theorem ev_con {x : Str} : evalG cl b (.con x) τ = match cl.con x with | some v => .ok (.d v) τ | none => .st := by rw [evalG] <;> rfl
@[simp] theorem ev_tup {es : Es} : evalG cl b (.tup es) τ = (evalOs cl false es τ).andThen fun os τ => .ok (.d (.tuple (O.datas os))) τ := by rw [evalG]
@[simp] theorem ev_lst {es : Es} : evalG cl b (.lst es) τ = (evalOs cl false es τ).andThen fun os τ => .ok (.l os) τ := by rw [evalG]
@[simp] theorem ev_bin {op : Operator} {a c : E} : evalG cl b (.bin op a c) τ = (evalG cl c.pure a τ).andThen fun x τ => (evalG cl true c τ).andThen fun y τ => flatD x τ fun dx τ => flatD y τ fun dy τ => R.ofO (opF op dx dy) τ := by rw [evalG]
@[simp] theorem ev_neg {a : E} : evalG cl b (.neg a) τ = (evalG cl true a τ).andThen fun x τ => match x with | .d (.int i) => .ok (.d (.int (-i))) τ | _ => .st := by rw [evalG] <;> rfl
@[simp] theorem ev_not {a : E} : evalG cl b (.not a) τ = (asB (evalG cl true a τ)).andThen fun c τ => .ok (.d (.bool (!c))) τ := by rw [evalG]
@[simp] theorem ev_and {es : Es} : evalG cl b (.and es) τ = evalAnd cl b es τ := by rw [evalG]
@[simp] theorem ev_or {es : Es} : evalG cl b (.or es) τ = evalOr cl b es τ := by rw [evalG]
@[simp] theorem ev_cmp {op : CmpOp} {a c : E} : evalG cl b (.cmp op a c) τ = (evalG cl c.pure a τ).andThen fun x τ => (evalG cl true c τ).andThen fun y τ => R.ofB (cmpF op x.data y.data) τ := by rw [evalG]
@[simp] theorem ev_chain {op op' : CmpOp} {a c e : E} : evalG cl b (.chain op op' a c e) τ = (evalG cl (c.pure && e.pure) a τ).andThen fun x τ => (evalG cl e.pure c τ).andThen fun y τ => match cmpF op x.data y.data with
    | some true => (evalG cl true e τ).andThen fun z τ => R.ofB (cmpF op' y.data z.data) τ
    | some false => .ok (.d (.bool false)) τ
    | none => .st := by rw [evalG] <;> rfl
@[simp] theorem ev_ite {c a e : E} : evalG cl b (.ite c a e) τ = (asB (evalG cl true c τ)).andThen fun k τ => if k then evalG cl b a τ else evalG cl b e τ := by rw [evalG]
@[simp] theorem ev_ix {a i : E} : evalG cl b (.ix a i) τ = (evalG cl i.pure a τ).andThen fun x τ => (evalG cl true i τ).andThen fun k τ => match ixO x k.data with
    | some o => if b || o.isD then .ok o τ else .st
    | none => .st := by rw [evalG] <;> rfl
@[simp] theorem ev_sl {a lo hi : E} : evalG cl b (.sl a lo hi) τ = (evalG cl (lo.pure && hi.pure) a τ).andThen fun x τ => (evalG cl true lo τ).andThen fun l τ => match part l.data with
    | some l => (evalG cl true hi τ).andThen fun h τ => match part h.data with
      | some h => flatD x τ fun dx τ => R.ofO (slF dx l h) τ
      | none => .st
    | none => .st := by rw [evalG] <;> rfl
@[simp] theorem ev_lrg {a : E} : evalG cl b (.lrg a) τ = (evalG cl true a τ).andThen fun y τ => R.ofO (lrgF y.data) τ := by rw [evalG]
@[simp] theorem ev_rev {a : E} : evalG cl b (.rev a) τ = (evalG cl true a τ).andThen fun x τ => flatD x τ fun dx τ => R.ofO (revF dx) τ := by rw [evalG]
@[simp] theorem ev_bi {f : Bi} {es : Es} : evalG cl b (.bi f es) τ = (evalOs cl es.pure es τ).andThen fun os τ => if os.all O.flat then R.ofO (biF f (O.datas os)) τ else .st := by rw [evalG]
@[simp] theorem ev_isi {a : E} {m : Bool} {tys : List Ty} : evalG cl b (.isi a m tys) τ = (evalG cl true a τ).andThen fun x τ => R.ofB (isAny x.data tys) τ := by rw [evalG]
@[simp] theorem ev_call {f : Str} {r : Bool} {es : Es} : evalG cl b (.call f r es) τ = restore r τ ((evalAs cl es τ).andThen fun os τ => if es.iop = cl.io f then ofCR τ es.ios (cl.call f os) else .st) := by rw [evalG]
@[simp] theorem ev_mut {m : Str} {i : Nat} {es : Es} : evalG cl b (.mut m i es) τ = match getO τ i with
    | some (.l _) => (evalOs cl false es τ).andThen fun os τ => match getO τ i with
      | some (.l xs) => match mutF m xs os with
        | some (x, xs') => .ok (.d x) (τ.set i (some (.l xs')))
        | none => .st
      | _ => .st
    | _ => .st := by rw [evalG] <;> rfl
end
/-! comprehensions -/
theorem back_wipe {τ τ' : Tau} {vs : List Nat} (h : wipeT τ' vs = wipeT τ vs) : backT τ τ' vs = τ := by
  have hl : τ'.length = τ.length := by rw [← wipeT_len τ' vs, ← wipeT_len τ vs, h]
  have kw : ∀ (τ : Tau) (vs : List Nat) (i : Nat), i ∉ vs → (wipeT τ vs)[i]? = τ[i]? := by
    intro τ vs
    induction vs with
    | nil => intro i _; rfl
    | cons v vs ih =>
      intro i hi
      rw [List.mem_cons, not_or] at hi
      rw [wipeT, List.getElem?_set_ne (Ne.symm hi.1), ih i hi.2]
  have kb : ∀ (vs : List Nat) (i : Nat), (backT τ τ' vs)[i]? = if i ∈ vs then τ[i]? else τ'[i]? := by
    intro vs
    induction vs with
    | nil => intro i; simp [backT]
    | cons v vs ih =>
      intro i
      rw [backT]
      by_cases e : i = v
      · subst e
        rw [if_pos List.mem_cons_self]
        by_cases hi : i < τ.length
        · rw [List.getElem?_set_self (by rw [backT_len, hl]; exact hi), List.getElem?_eq_getElem hi]
          rfl
        · rw [List.getElem?_eq_none (by rw [List.length_set, backT_len, hl]; omega), List.getElem?_eq_none (by omega)]
      · rw [List.getElem?_set_ne (Ne.symm e), ih i]
        simp [e]
  apply List.ext_getElem?
  intro i
  rw [kb]
  by_cases hi : i ∈ vs
  · rw [if_pos hi]
  · rw [if_neg hi, ← kw τ' vs i hi, h, kw τ vs i hi]
theorem compL_pure {α : Type} {set : D → Tau → Option Tau} {f : Tau → R (Option O)} {e : α → D} {F : α → Option O} {vs : List Nat} {W : Tau} : ∀ {xs : List α}, (∀ x ∈ xs, ∀ τ, wipeT τ vs = W → ∃ τ1 τ2, set (e x) τ = some τ1 ∧ f τ1 = .ok (F x) τ2 ∧ wipeT τ2 vs = W) → ∀ τ, wipeT τ vs = W → ∃ τ', compL set f (xs.map e) τ = .ok (xs.filterMap F) τ' ∧ wipeT τ' vs = W
  | [], _, τ, h => ⟨τ, rfl, h⟩
  | x :: xs, hf, τ, h => by
    obtain ⟨τ1, τ2, h1, h2, h3⟩ := hf x List.mem_cons_self τ h
    obtain ⟨τ', h4, h5⟩ := compL_pure (fun y hy => hf y (List.mem_cons_of_mem _ hy)) τ2 h3
    refine ⟨τ', ?_, h5⟩
    rw [List.map_cons, compL, h1]
    show (f τ1).andThen _ = _
    rw [h2]
    show (compL set f (xs.map e) τ2).andThen _ = _
    rw [h4, List.filterMap_cons]
    cases F x <;> rfl
def TurnIs (vs : List Nat) (W : Tau) (y : Option O) : R (Option O) → Prop
  | .ok y' τb => y' = y ∧ wipeT τb vs = W
  | _ => False
@[simp] theorem turnIs_ok {vs : List Nat} {W τb : Tau} {y y' : Option O} : TurnIs vs W y (.ok y' τb) = (y' = y ∧ wipeT τb vs = W) := rfl
def OneTurn (vs : List Nat) (W : Tau) (y : Option O) (f : Tau → R (Option O)) : Option Tau → Prop
  | some τa => TurnIs vs W y (f τa)
  | none => False
@[simp] theorem oneTurn_some {vs : List Nat} {W τa : Tau} {y : Option O} {f : Tau → R (Option O)} : OneTurn vs W y f (some τa) = TurnIs vs W y (f τa) := rfl
theorem oneTurn_at {vs : List Nat} {W : Tau} {y : Option O} {f : Tau → R (Option O)} {x : Option Tau} (h : OneTurn vs W y f x) : ∃ τa τb, x = some τa ∧ f τa = .ok y τb ∧ wipeT τb vs = W := by
  cases x with
  | none => exact h.elim
  | some τa =>
    have h : TurnIs vs W y (f τa) := h
    cases e : f τa with
    | ok y' τb =>
      rw [e] at h
      exact ⟨τa, τb, rfl, by rw [e, h.1], h.2⟩
    | ex x τ => rw [e] at h; exact h.elim
    | st => rw [e] at h; exact h.elim
theorem comp_pure {cl : Cl} {b : Bool} {t : T} {vs : List Nat} {it : Mir.It} {cs : Es} {elt : E} {r : Bool} {τ τ1 : Tau} {α : Type} {xs : List α} {e : α → D} (F : α → Option O) (hi : evalIt cl (cs.pure && elt.pure) it τ = .ok (xs.map e) τ1) (hl : (it.isSeq || decide (xs.length ≤ lim)) = true)
    (hf : ∀ x ∈ xs, OneTurn vs (wipeT τ1 vs) (F x) (turnF cl cs elt) (t.set (e x) (wipeT τ1 vs))) : evalG cl b (.comp t vs it cs elt r) τ = .ok (.l (xs.filterMap F)) τ1 := by
  obtain ⟨τ', h1, h2⟩ := compL_pure (set := fun x τ => t.set x (wipeT τ vs)) (f := turnF cl cs elt) (F := F) (e := e) (vs := vs) (W := wipeT τ1 vs) (xs := xs) (fun x hx τ h => by rw [h]; exact oneTurn_at (hf x hx)) (wipeT τ1 vs) wipeT_wipe
  rw [evalG, hi]
  show restore r τ (if (it.isSeq || decide ((xs.map e).length ≤ lim)) = false then .st else (noEx (compL (fun x τ => t.set x (wipeT τ vs)) (turnF cl cs elt) (xs.map e) (wipeT τ1 vs))).andThen fun os τ2 => .ok (.l os) (backT τ1 τ2 vs)) = _
  rw [List.length_map, hl, if_neg (by decide), h1]
  show restore r τ (.ok (.l (xs.filterMap F)) (backT τ1 τ' vs)) = _
  rw [back_wipe h2]
  cases r <;> rfl
/-- each item gives data -/
theorem comp_map {cl : Cl} {b : Bool} {t : T} {vs : List Nat} {it : Mir.It} {cs : Es} {elt : E} {r : Bool} {τ τ1 : Tau} {α : Type} {xs : List α} {e : α → D} (g : α → D) (hi : evalIt cl (cs.pure && elt.pure) it τ = .ok (xs.map e) τ1) (hl : (it.isSeq || decide (xs.length ≤ lim)) = true)
    (hf : ∀ x ∈ xs, OneTurn vs (wipeT τ1 vs) (some (.d (g x))) (turnF cl cs elt) (t.set (e x) (wipeT τ1 vs))) : evalG cl b (.comp t vs it cs elt r) τ = .ok (.l ((xs.map g).map .d)) τ1 := by
  rw [comp_pure (fun x => some (.d (g x))) hi hl hf]
  have : xs.filterMap (fun x => some (O.d (g x))) = (xs.map g).map .d := by
    rw [List.map_map]
    exact List.filterMap_eq_map' ▸ rfl
  rw [this]
@[simp] theorem bools_map {α : Type} (p : α → Bool) : ∀ xs : List α, bools? (xs.map fun x => .bool (p x)) = some (xs.map p)
  | [] => rfl
  | x :: xs => by rw [List.map_cons, bools?, bools_map p xs] <;> rfl
@[simp] theorem ints_map {α : Type} (p : α → Int) : ∀ xs : List α, ints? (xs.map fun x => .int (p x)) = some (xs.map p)
  | [] => rfl
  | x :: xs => by rw [List.map_cons, ints?, ints_map p xs] <;> rfl
/-! built-ins -/
@[simp] theorem bi_len_l {xs : List D} : biF .len [.list xs] = some (.d (.int xs.length)) := rfl
@[simp] theorem bi_len_t {xs : List D} : biF .len [.tuple xs] = some (.d (.int xs.length)) := rfl
@[simp] theorem bi_abs {i : Int} : biF .abs [.int i] = some (.d (.int (if i < 0 then -i else i))) := rfl
@[simp] theorem bi_min2 {i j : Int} : biF .min [.int i, .int j] = some (.d (.int (if j < i then j else i))) := rfl
@[simp] theorem bi_max2 {i j : Int} : biF .max [.int i, .int j] = some (.d (.int (if j > i then j else i))) := rfl
@[simp] theorem bi_sum {xs : List D} : biF .sum [.list xs] = (ints? xs).map fun ns => .d (.int ns.sum) := rfl
@[simp] theorem bi_all {xs : List D} : biF .all [.list xs] = (bools? xs).map fun bs => .d (.bool (bs.all id)) := rfl
@[simp] theorem bi_any {xs : List D} : biF .any [.list xs] = (bools? xs).map fun bs => .d (.bool (bs.any id)) := rfl
@[simp] theorem bi_tup_l {xs : List D} : biF .tuple [.list xs] = some (.d (.tuple xs)) := rfl
@[simp] theorem bi_tup_t {xs : List D} : biF .tuple [.tuple xs] = some (.d (.tuple xs)) := rfl
@[simp] theorem bi_list_l {xs : List D} : biF .list [.list xs] = some (.l (xs.map .d)) := rfl
@[simp] theorem bi_list_t {xs : List D} : biF .list [.tuple xs] = some (.l (xs.map .d)) := rfl
@[simp] theorem bi_int_i {i : Int} : biF .int [.int i] = some (.d (.int i)) := rfl
@[simp] theorem op_add_i {a c : Int} : opF .Add (.int a) (.int c) = some (.d (.int (a + c))) := rfl
@[simp] theorem op_sub_i {a c : Int} : opF .Sub (.int a) (.int c) = some (.d (.int (a - c))) := rfl
theorem op_mul_i {a c : Int} (h : (-(2 ^ 64) < a ∧ a < 2 ^ 64) ∨ (-(2 ^ 64) < c ∧ c < 2 ^ 64)) : opF .Mult (.int a) (.int c) = some (.d (.int (a * c))) := by
  show (if (-(2 ^ 64) < a ∧ a < 2 ^ 64) ∨ (-(2 ^ 64) < c ∧ c < 2 ^ 64) then some (O.d (.int (a * c))) else none) = _
  rw [if_pos h]
theorem two64 : (2 : Int) ^ 64 = 18446744073709551616 := by decide
theorem op_mul_s {a c : Int} (h : -1000000000000 ≤ a ∧ a ≤ 1000000000000) : opF .Mult (.int a) (.int c) = some (.d (.int (a * c))) := by
  apply op_mul_i
  left
  rw [two64]
  omega
theorem op_mul_r {a c : Int} (h : -1000000000000 ≤ c ∧ c ≤ 1000000000000) : opF .Mult (.int a) (.int c) = some (.d (.int (a * c))) := by
  apply op_mul_i
  right
  rw [two64]
  omega
theorem op_div_i {a c : Int} (h : 0 < c ∧ c < 1073741824) : opF .FloorDiv (.int a) (.int c) = some (.d (.int (a / c))) := by
  show (if 0 < c ∧ c < 1073741824 then some (O.d (.int (a / c))) else if c ≠ 0 ∧ c.natAbs < 1073741824 then some (O.d (.int (a.fdiv c))) else none) = _
  rw [if_pos h]
theorem op_div_n {a c : Int} (h : ¬ (0 < c ∧ c < 1073741824)) (h2 : c ≠ 0 ∧ c.natAbs < 1073741824) : opF .FloorDiv (.int a) (.int c) = some (.d (.int (a.fdiv c))) := by
  show (if 0 < c ∧ c < 1073741824 then some (O.d (.int (a / c))) else if c ≠ 0 ∧ c.natAbs < 1073741824 then some (O.d (.int (a.fdiv c))) else none) = _
  rw [if_neg h, if_pos h2]
theorem op_mod_i {a c : Int} (h : 0 < c) : opF .Mod (.int a) (.int c) = some (.d (.int (a % c))) := by
  show (if 0 < c then some (O.d (.int (a % c))) else none) = _
  rw [if_pos h]
@[simp] theorem ixO_t {xs : List D} {i : Int} : ixO (.d (.tuple xs)) (.int i) = (atI xs i).map .d := rfl
@[simp] theorem ixO_l {xs : List D} {i : Int} : ixO (.d (.list xs)) (.int i) = (atI xs i).map .d := rfl
@[simp] theorem ixO_o {os : List O} {i : Int} : ixO (.l os) (.int i) = atI os i := rfl
theorem ixN_nat {n k : Nat} (h : k < n) : ixN n (k : Int) = some k := by
  unfold ixN
  rw [if_pos (by omega), if_pos (by omega)]
  simp
theorem at_nat {α : Type} {xs : List α} {k : Nat} {x : α} (h : xs[k]? = some x) : atI xs (k : Int) = some x := by
  unfold atI
  rw [ixN_nat (List.getElem?_eq_some_iff.mp h).1]
  exact h
@[simp] theorem atI_0 {α : Type} {x : α} {xs : List α} : atI (x :: xs) 0 = some x := at_nat (k := 0) rfl
@[simp] theorem atI_1 {α : Type} {x y : α} {xs : List α} : atI (x :: y :: xs) 1 = some y := at_nat (k := 1) rfl
@[simp] theorem atI_2 {α : Type} {x y z : α} {xs : List α} : atI (x :: y :: z :: xs) 2 = some z := at_nat (k := 2) rfl
@[simp] theorem atI_3 {α : Type} {x y z u : α} {xs : List α} : atI (x :: y :: z :: u :: xs) 3 = some u := at_nat (k := 3) rfl
@[simp] theorem atI_4 {α : Type} {x y z u v : α} {xs : List α} : atI (x :: y :: z :: u :: v :: xs) 4 = some v := at_nat (k := 4) rfl
/-! loops -/
def LoopTurn (K : Tau → Prop) : F → Prop
  | .nx τ => K τ
  | .ct τ => K τ
  | _ => False
@[simp] theorem loopTurn_nx {K : Tau → Prop} {τ : Tau} : LoopTurn K (.nx τ) = K τ := rfl
@[simp] theorem loopTurn_ct {K : Tau → Prop} {τ : Tau} : LoopTurn K (.ct τ) = K τ := rfl
def LoopSet (K : Tau → Prop) (f : Tau → F) : Option Tau → Prop
  | some τ => LoopTurn K (f τ)
  | none => False
@[simp] theorem loopSet_some {K : Tau → Prop} {f : Tau → F} {τ : Tau} : LoopSet K f (some τ) = LoopTurn K (f τ) := rfl
/-- every turn ends as the word says, for what was gone over so far -/
theorem forL_inv {α : Type} {set : D → Tau → Option Tau} {f : Tau → F} {e : α → D} (I : List α → Tau → Prop) : ∀ (xs done : List α), (∀ dn x rest τ, done ++ xs = dn ++ x :: rest → I dn τ → LoopSet (I (dn ++ [x])) f (set (e x) τ)) → ∀ τ, I done τ → ∃ τ', forL set f (xs.map e) τ = .nx τ' ∧ I (done ++ xs) τ'
  | [], done, _, τ, h => ⟨τ, rfl, by rw [List.append_nil]; exact h⟩
  | x :: xs, done, hf, τ, h => by
    have h1 := hf done x xs τ rfl h
    rw [List.map_cons, forL]
    cases e1 : set (e x) τ with
    | none => rw [e1] at h1; exact h1.elim
    | some τ1 =>
      rw [e1] at h1
      have h1 : LoopTurn (I (done ++ [x])) (f τ1) := h1
      have ea : done ++ [x] ++ xs = done ++ x :: xs := by simp
      have rec1 := forL_inv I xs (done ++ [x]) (fun dn y rest τ hd => hf dn y rest τ (by rw [← ea]; exact hd))
      cases e2 : f τ1 with
      | nx τ2 =>
        rw [e2] at h1
        obtain ⟨τ', h2, h3⟩ := rec1 τ2 h1
        rw [ea] at h3
        exact ⟨τ', by show (f τ1).turn _ = _; rw [e2]; exact h2, h3⟩
      | ct τ2 =>
        rw [e2] at h1
        obtain ⟨τ', h2, h3⟩ := rec1 τ2 h1
        rw [ea] at h3
        exact ⟨τ', by show (f τ1).turn _ = _; rw [e2]; exact h2, h3⟩
      | _ => rw [e2] at h1; exact h1.elim
theorem rangeL_0 {n : Int} {k : Nat} (h : n.toNat = k) : rangeL 0 n = (List.range k).map fun i => PyData.int ((i : Nat) : Int) := by
  unfold rangeL
  rw [Int.sub_zero, h]
  refine List.map_congr_left fun i _ => ?_
  rw [Int.zero_add]
theorem rng_1 {n : Int} {k : Nat} (h : n.toNat = k) (h1 : -10000000 ≤ n) (h2 : n ≤ 10000000) : rngF [.int n] = some ((List.range k).map fun i => PyData.int ((i : Nat) : Int)) := by
  show (if -lim ≤ n ∧ n ≤ lim then some (rangeL 0 n) else none) = _
  have : (lim : Int) = 10000000 := by decide
  rw [if_pos (by omega), rangeL_0 h]
/-! one step of a statement -/
section
variable {cl : Cl} {τ : Tau}
@[simp] theorem es_expr {e : E} : evalS cl (.expr e) τ = (evalG cl false e τ).toF fun _ τ => .nx τ := by rw [evalS]
@[simp] theorem es_asg {i : Nat} {e : E} : evalS cl (.asg (.nm i) e) τ = (evalG cl false e τ).toF fun o τ => if i < τ.length then .nx (τ.set i (some o)) else .st := by rw [evalS]
@[simp] theorem es_asgT {ts : Ts} {e : E} : evalS cl (.asg (.tup ts) e) τ = (evalG cl false e τ).toF fun o τ => nxO ((T.tup ts).set o.data τ) := by
  rw [evalS]
  intro i z
  cases z
@[simp] theorem es_par {is : List Nat} {es : Es} : evalS cl (.par is es) τ = (evalOs cl false es τ).toF fun os τ => nxO (setAll τ is os) := by rw [evalS]
@[simp] theorem es_aug {i : Nat} {op : Operator} {e : E} : evalS cl (.aug i op e) τ = match getO τ i with
    | some (.d x) => (evalG cl true e τ).toF fun y τ => match augF op x y.data with
      | some z => .nx (τ.set i (some (.d z)))
      | none => .st
    | _ => .st := by rw [evalS] <;> rfl
@[simp] theorem es_put {i : Nat} {k e : E} : evalS cl (.put i k e) τ = (evalG cl false e τ).toF fun y τ => match getO τ i with
    | some (.l _) => (evalG cl true k τ).toF fun x τ => match getO τ i with
      | some (.l os) => match putO os x.data y with
        | some os' => .nx (τ.set i (some (.l os')))
        | none => .st
      | _ => .st
    | _ => .st := by rw [evalS] <;> rfl
@[simp] theorem es_ifs {c : E} {a b : List S} : evalS cl (.ifs c a b) τ = (asB (evalG cl true c τ)).toF fun k τ => if k then evalSs cl a τ else evalSs cl b τ := by rw [evalS]
@[simp] theorem es_retL {i : Nat} : evalS cl (.ret (.loc i)) τ = match getO τ i with | some o => .rt o (τ.set i none) | none => .st := by rw [evalS] <;> rfl
theorem es_ret {e : E} (h : ∀ i, e ≠ .loc i) : evalS cl (.ret e) τ = (evalG cl false e τ).toF fun o τ => .rt o τ := by
  rw [evalS]
  intro i z
  exact h i z
@[simp] theorem es_ret_bi {f : Bi} {es : Es} : evalS cl (.ret (.bi f es)) τ = (evalG cl false (.bi f es) τ).toF fun o τ => .rt o τ := es_ret fun _ z => by cases z
@[simp] theorem es_ret_lit {x : D} : evalS cl (.ret (.lit x)) τ = (evalG cl false (.lit x) τ).toF fun o τ => .rt o τ := es_ret fun _ z => by cases z
@[simp] theorem es_ret_and {es : Es} : evalS cl (.ret (.and es)) τ = (evalG cl false (.and es) τ).toF fun o τ => .rt o τ := es_ret fun _ z => by cases z
@[simp] theorem es_ret_or {es : Es} : evalS cl (.ret (.or es)) τ = (evalG cl false (.or es) τ).toF fun o τ => .rt o τ := es_ret fun _ z => by cases z
@[simp] theorem es_ret_not {a : E} : evalS cl (.ret (.not a)) τ = (evalG cl false (.not a) τ).toF fun o τ => .rt o τ := es_ret fun _ z => by cases z
@[simp] theorem es_ret_neg {a : E} : evalS cl (.ret (.neg a)) τ = (evalG cl false (.neg a) τ).toF fun o τ => .rt o τ := es_ret fun _ z => by cases z
@[simp] theorem es_ret_cmp {op : CmpOp} {a c : E} : evalS cl (.ret (.cmp op a c)) τ = (evalG cl false (.cmp op a c) τ).toF fun o τ => .rt o τ := es_ret fun _ z => by cases z
@[simp] theorem es_ret_chain {op op' : CmpOp} {a c e : E} : evalS cl (.ret (.chain op op' a c e)) τ = (evalG cl false (.chain op op' a c e) τ).toF fun o τ => .rt o τ := es_ret fun _ z => by cases z
@[simp] theorem es_ret_bin {op : Operator} {a c : E} : evalS cl (.ret (.bin op a c)) τ = (evalG cl false (.bin op a c) τ).toF fun o τ => .rt o τ := es_ret fun _ z => by cases z
@[simp] theorem es_ret_ix {a c : E} : evalS cl (.ret (.ix a c)) τ = (evalG cl false (.ix a c) τ).toF fun o τ => .rt o τ := es_ret fun _ z => by cases z
@[simp] theorem es_ret_sl {a c d : E} : evalS cl (.ret (.sl a c d)) τ = (evalG cl false (.sl a c d) τ).toF fun o τ => .rt o τ := es_ret fun _ z => by cases z
@[simp] theorem es_ret_rev {a : E} : evalS cl (.ret (.rev a)) τ = (evalG cl false (.rev a) τ).toF fun o τ => .rt o τ := es_ret fun _ z => by cases z
@[simp] theorem es_ret_ite {c a e : E} : evalS cl (.ret (.ite c a e)) τ = (evalG cl false (.ite c a e) τ).toF fun o τ => .rt o τ := es_ret fun _ z => by cases z
@[simp] theorem es_ret_isi {a : E} {m : Bool} {t : List Ty} : evalS cl (.ret (.isi a m t)) τ = (evalG cl false (.isi a m t) τ).toF fun o τ => .rt o τ := es_ret fun _ z => by cases z
@[simp] theorem es_ret_tup {es : Es} : evalS cl (.ret (.tup es)) τ = (evalG cl false (.tup es) τ).toF fun o τ => .rt o τ := es_ret fun _ z => by cases z
@[simp] theorem es_ret_lst {es : Es} : evalS cl (.ret (.lst es)) τ = (evalG cl false (.lst es) τ).toF fun o τ => .rt o τ := es_ret fun _ z => by cases z
@[simp] theorem es_ret_con {x : Str} : evalS cl (.ret (.con x)) τ = (evalG cl false (.con x) τ).toF fun o τ => .rt o τ := es_ret fun _ z => by cases z
@[simp] theorem es_ret_call {f : Str} {r : Bool} {es : Es} : evalS cl (.ret (.call f r es)) τ = (evalG cl false (.call f r es) τ).toF fun o τ => .rt o τ := es_ret fun _ z => by cases z
@[simp] theorem es_ret_comp {t : T} {vs : List Nat} {it : Mir.It} {cs : Es} {elt : E} {r : Bool} : evalS cl (.ret (.comp t vs it cs elt r)) τ = (evalG cl false (.comp t vs it cs elt r) τ).toF fun o τ => .rt o τ := es_ret fun _ z => by cases z
@[simp] theorem es_retN : evalS cl .retN τ = .rt (.d .none) τ := by rw [evalS]
@[simp] theorem es_pass : evalS cl .pass τ = .nx τ := by rw [evalS]
@[simp] theorem es_brk : evalS cl .brk τ = .bk τ := by rw [evalS]
@[simp] theorem es_cont : evalS cl .cont τ = .ct τ := by rw [evalS]
theorem fors_ok {α : Type} {t : T} {it : Mir.It} {body : List S} {e : α → D} {xs : List α} {τ1 : Tau} (I : List α → Tau → Prop) (hi : evalIt cl false it τ = .ok (xs.map e) τ1) (h0 : I [] τ1)
    (hf : ∀ dn x rest τ, xs = dn ++ x :: rest → I dn τ → LoopSet (I (dn ++ [x])) (fun τ => evalSs cl body τ) (t.set (e x) τ)) : ∃ τ', evalS cl (.fors t it body) τ = .nx τ' ∧ I xs τ' := by
  obtain ⟨τ', h1, h2⟩ := forL_inv (set := t.set) (f := fun τ => evalSs cl body τ) I xs [] (fun dn x rest τ h => hf dn x rest τ (by simpa using h)) τ1 h0
  refine ⟨τ', ?_, by simpa using h2⟩
  rw [evalS, hi]
  exact h1
end
@[simp] theorem mut_append {os : List O} {o : O} : mutF "append" os [o] = if os.length < lim then some (.none, os ++ [o]) else none := rfl
theorem mut_extend {os : List O} {ys : List D} (h : os.length + ys.length < lim) : mutF "extend" os [.l (ys.map .d)] = some (.none, os ++ ys.map .d) := by
  have e1 : (O.l (ys.map .d)).flat = true := flat_l
  have e2 : (O.l (ys.map .d)).data = .list ys := by rw [data_l, datas_map]
  unfold mutF
  dsimp only
  rw [if_neg (by decide), if_pos rfl, e1, e2]
  dsimp only
  rw [if_pos h]
theorem flat_len {α β : Type} {f : α → List β} {m : Nat} : ∀ {l : List α}, (∀ x ∈ l, (f x).length = m) → (l.flatMap f).length = l.length * m
  | [], _ => by simp
  | x :: l, h => by
    rw [List.flatMap_cons, List.length_append, h x List.mem_cons_self, flat_len fun y hy => h y (List.mem_cons_of_mem _ hy), List.length_cons, Nat.succ_mul]
    omega
/-! least, greatest -/
def minI : List Int → Int
  | [] => 0
  | x :: xs => xs.foldl min x
def maxI : List Int → Int
  | [] => 0
  | x :: xs => xs.foldl max x
theorem okMM_i (ns : List Int) : okMM (ns.map .int) = true := by
  unfold okMM allAlike
  rw [Bool.and_eq_true]
  constructor
  · rw [List.all_eq_true]
    intro a ha
    rw [List.all_eq_true]
    intro c hc
    obtain ⟨i, _, rfl⟩ := List.mem_map.mp ha
    obtain ⟨j, _, rfl⟩ := List.mem_map.mp hc
    exact alikeN_i i j
  · rw [decide_eq_true_eq]
    exact Nat.le_trans (depthAll_map (α := Int) ns) (by decide)
@[simp] theorem bi_min_i {ns : List Int} (h : ns ≠ []) : biF .min [.list (ns.map .int)] = some (.d (.int (minI ns))) := by
  cases ns with
  | nil => exact (h rfl).elim
  | cons x xs =>
    show (if okMM (.int x :: xs.map .int) = true then some (O.d (W.minD (.int x) (xs.map .int))) else none) = _
    have e := okMM_i (x :: xs)
    rw [List.map_cons] at e
    rw [if_pos e, minD_ints]
    rfl
@[simp] theorem bi_max_i {ns : List Int} (h : ns ≠ []) : biF .max [.list (ns.map .int)] = some (.d (.int (maxI ns))) := by
  cases ns with
  | nil => exact (h rfl).elim
  | cons x xs =>
    show (if okMM (.int x :: xs.map .int) = true then some (O.d (W.maxD (.int x) (xs.map .int))) else none) = _
    have e := okMM_i (x :: xs)
    rw [List.map_cons] at e
    rw [if_pos e, maxD_ints]
    rfl
@[simp] theorem ints_i : ∀ ns : List Int, ints? (ns.map .int) = some ns
  | [] => rfl
  | n :: ns => by rw [List.map_cons, ints?, ints_i ns] <;> rfl
@[simp] theorem itemsB_l {b : Bool} {ds : List D} : itemsB b (.l (ds.map .d)) = some ds := by
  unfold itemsB
  cases b with
  | false =>
    rw [if_neg Bool.false_ne_true, data_l, datas_map]
    rfl
  | true =>
    rw [if_pos rfl]
    show (if (ds.map O.d).all O.isD then some (O.datas (ds.map .d)) else none) = _
    have e : (ds.map O.d).all O.isD = true := flat_l
    rw [e, datas_map]
    rfl
@[simp] theorem itemsB_dl {b : Bool} {ds : List D} : itemsB b (.d (.list ds)) = some ds := by cases b <;> rfl
@[simp] theorem itemsB_dt {b : Bool} {ds : List D} : itemsB b (.d (.tuple ds)) = some ds := by cases b <;> rfl
section
variable {α : Type} [DecidableEq α] [DatumOrd α]
theorem alikeN_D (a c : α) : alikeN (Datum.toD a) (Datum.toD c) = true := by
  unfold alikeN
  rw [DatumOrd.alike, Datum.plain, Datum.plain]
  have := DatumOrd.notNone a
  cases h : (Datum.toD a) <;> first | rfl | exact absurd h this
theorem okMM_D (h : Datum.depth α ≤ 40) (xs : List α) : okMM (xs.map Datum.toD) = true := by
  unfold okMM allAlike
  rw [Bool.and_eq_true]
  constructor
  · rw [List.all_eq_true]
    intro a ha
    rw [List.all_eq_true]
    intro c hc
    obtain ⟨i, _, rfl⟩ := List.mem_map.mp ha
    obtain ⟨j, _, rfl⟩ := List.mem_map.mp hc
    exact alikeN_D i j
  · rw [decide_eq_true_eq]
    exact Nat.le_trans (depthAll_map xs) h
theorem bi_min_D (h : Datum.depth α ≤ 40) (x : α) (xs : List α) : biF .min [.list (Datum.toD x :: xs.map Datum.toD)] = some (.d (Datum.toD (minOf x xs))) := by
  show (if okMM (Datum.toD x :: xs.map Datum.toD) = true then some (O.d (W.minD (Datum.toD x) (xs.map Datum.toD))) else none) = _
  have e := okMM_D h (x :: xs)
  rw [List.map_cons] at e
  rw [if_pos e, minD_map]
theorem bi_max_D (h : Datum.depth α ≤ 40) (x : α) (xs : List α) : biF .max [.list (Datum.toD x :: xs.map Datum.toD)] = some (.d (Datum.toD (maxOf x xs))) := by
  show (if okMM (Datum.toD x :: xs.map Datum.toD) = true then some (O.d (W.maxD (Datum.toD x) (xs.map Datum.toD))) else none) = _
  have e := okMM_D h (x :: xs)
  rw [List.map_cons] at e
  rw [if_pos e, maxD_map]
end
@[simp] theorem flat_n : (O.l []).flat = true := rfl
@[simp] theorem flat_c {o : O} {os : List O} : (O.l (o :: os)).flat = (o.isD && (O.l os).flat) := rfl
/-! a body, statement by statement -/
theorem step {cl : Cl} {body : List S} {τ τ' : Tau} (i : Nat) (hi : i < body.length) (h : evalS cl (body.getD i .pass) τ = .nx τ') : evalSs cl (body.drop i) τ = evalSs cl (body.drop (i + 1)) τ' := by
  rw [List.getD_eq_getElem?_getD, List.getElem?_eq_getElem hi] at h
  rw [List.drop_eq_getElem_cons hi, evalSs]
  have h : evalS cl body[i] τ = .nx τ' := h
  rw [h]
  rfl
theorem stepR {cl : Cl} {body : List S} {τ τ' : Tau} {o : O} (i : Nat) (hi : i < body.length) (h : evalS cl (body.getD i .pass) τ = .rt o τ') : evalSs cl (body.drop i) τ = .rt o τ' := by
  rw [List.getD_eq_getElem?_getD, List.getElem?_eq_getElem hi] at h
  rw [List.drop_eq_getElem_cons hi, evalSs]
  have h : evalS cl body[i] τ = .rt o τ' := h
  rw [h]
  rfl
theorem run_of {P : Prog} {n : Nat} {f : Str} {d : Def} {args : List O} {o : O} {outs : List O} {τ τ' : Tau} (h : P.fn f = some d) (hn : args.length = d.np) (h0 : args.map some ++ List.replicate (d.n - d.np) none = τ) (h1 : evalSs ⟨evalCall P n, P.io, P.con⟩ (d.body.drop 0) τ = .rt o τ') (h2 : getOs τ' d.io = some outs) : evalCall P (n + 1) f args = .ok o outs := by
  rw [call_of h]
  unfold runDef
  rw [if_pos hn, h0]
  rw [List.drop_zero] at h1
  rw [h1]
  show outsOf d.io τ' _ = _
  unfold outsOf
  rw [h2]
end Mir
set_option Elab.async false
set_option linter.all false
set_option maxRecDepth 100000
set_option maxHeartbeats 4000000
/-! Mir, part Z: typed values; what must be shown so that a part ends well. -/
namespace Mir
open PySem L2 PySem.W PyProof.Rows

/-! ### encodings -/
section
variable {α β γ δ ε : Type}
def eI : Int → D := .int
def eB : Bool → D := .bool
def eS : Str → D := .str
def eU : Unit → D := fun _ => .none
def eD : D → D := fun x => x
def eT (f : α → D) (xs : List α) : D := .tuple (xs.map f)
def eL (f : α → D) (xs : List α) : D := .list (xs.map f)
def eP (f : α → D) (g : β → D) (p : α × β) : D := .tuple [f p.1, g p.2]
def eP3 (f : α → D) (g : β → D) (h : γ → D) (p : α × β × γ) : D := .tuple [f p.1, g p.2.1, h p.2.2]
def eP4 (f : α → D) (g : β → D) (h : γ → D) (k : δ → D) (p : α × β × γ × δ) : D := .tuple [f p.1, g p.2.1, h p.2.2.1, k p.2.2.2]
def eO (f : α → D) : Option α → D
  | none => .none
  | some a => f a
/-- an owned list -/
def oL (f : α → D) (xs : List α) : O := .l (xs.map fun a => .d (f a))
end
/-- data of a type: equal just when equal -/
class En {α : Type} [DecidableEq α] (f : α → D) where
  n : Nat
  plain : ∀ a, PyData.plain (f a) = true
  eqv : ∀ a b, PyData.eqv (f a) (f b) = decide (a = b)
  le : ∀ a, (f a).depth ≤ n
/-- ordered data -/
class EnO {α : Type} [DecidableEq α] (f : α → D) extends En f where
  lt : α → α → Bool
  alike : ∀ a b, W.alike (f a) (f b) = true
  notNone : ∀ a, f a ≠ .none
  lt_eq : ∀ a b, W.dataLt (f a) (f b) = lt a b
class NM {α : Type} (f : α → D) : Prop where
  nm : ∀ a, noMut (f a) = true
class NN {α : Type} (f : α → D) : Prop where
  l : ∀ a, PyData.eqv .none (f a) = false
  r : ∀ a, PyData.eqv (f a) .none = false
section
variable {α β γ δ : Type}
abbrev En.dat [DecidableEq α] (f : α → D) [En f] : Datum α := ⟨f, En.plain, En.eqv, En.n f, En.le⟩
abbrev EnO.dat [DecidableEq α] (f : α → D) [EnO f] : DatumOrd α := { En.dat f with lt := EnO.lt f, alike := EnO.alike, notNone := EnO.notNone, lt_eq := EnO.lt_eq }
abbrev ofDat [DecidableEq α] (i : Datum α) (f : α → D) (h : f = i.toD) : En f := ⟨i.depth, by rw [h]; exact i.plain, by rw [h]; exact i.eqv, by rw [h]; exact i.depth_le⟩
abbrev ofDatO [DecidableEq α] (i : DatumOrd α) (f : α → D) (h : f = i.toD) : EnO f := { ofDat i.toDatum f h with lt := i.lt, alike := by rw [h]; exact i.alike, notNone := by rw [h]; exact i.notNone, lt_eq := by rw [h]; exact i.lt_eq }
instance : EnO eI := ofDatO inferInstance eI rfl
instance : EnO eB := ofDatO inferInstance eB rfl
instance : EnO eS := ofDatO inferInstance eS rfl
instance : En eU := ofDat inferInstance eU rfl
instance [DecidableEq α] [DecidableEq β] (f : α → D) (g : β → D) [i : En f] [j : En g] : En (eP f g) :=
  letI := En.dat f
  letI := En.dat g
  ofDat (inferInstance : Datum (α × β)) (eP f g) rfl
instance [DecidableEq α] (f : α → D) [i : En f] : En (eL f) :=
  letI := En.dat f
  ofDat (inferInstance : Datum (List α)) (eL f) rfl
instance [DecidableEq α] (f : α → D) [i : En f] : En (eT f) :=
  letI := En.dat f
  letI d : Datum (Tup α) := inferInstance
  ⟨d.depth, fun xs => d.plain ⟨xs⟩, fun xs ys => (d.eqv ⟨xs⟩ ⟨ys⟩).trans (by simp), fun xs => d.depth_le ⟨xs⟩⟩
instance [DecidableEq α] [DecidableEq β] (f : α → D) (g : β → D) [i : EnO f] [j : EnO g] : EnO (eP f g) :=
  letI := EnO.dat f
  letI := EnO.dat g
  letI d : DatumOrd (α × β) := inferInstance
  { (inferInstance : En (eP f g)) with lt := fun p q => if p.1 = q.1 then EnO.lt g p.2 q.2 else EnO.lt f p.1 q.1, alike := d.alike, notNone := d.notNone, lt_eq := d.lt_eq }
instance [DecidableEq α] (f : α → D) [i : EnO f] : EnO (eL f) :=
  letI := EnO.dat f
  letI d : DatumOrd (List α) := inferInstance
  { (inferInstance : En (eL f)) with lt := d.lt, alike := d.alike, notNone := d.notNone, lt_eq := d.lt_eq }
/-- the first difference decides, else the shorter one is less -/
def ltL (lt : α → α → Bool) [DecidableEq α] : List α → List α → Bool
  | [], [] => false
  | [], _ :: _ => true
  | _ :: _, [] => false
  | x :: xs, y :: ys => if x = y then ltL lt xs ys else lt x y
theorem ltL_eq [DecidableEq α] (f : α → D) [i : EnO f] : ∀ xs ys : List α, @listLt α _ (EnO.dat f) xs ys = ltL (EnO.lt f) xs ys
  | [], [] => rfl
  | [], _ :: _ => rfl
  | _ :: _, [] => rfl
  | x :: xs, y :: ys => by
    unfold listLt ltL
    rw [ltL_eq f xs ys]
    rfl
instance [DecidableEq α] (f : α → D) [i : EnO f] : EnO (eT f) :=
  letI := EnO.dat f
  letI d : DatumOrd (Tup α) := inferInstance
  { (inferInstance : En (eT f)) with lt := ltL (EnO.lt f), alike := fun a b => d.alike ⟨a⟩ ⟨b⟩, notNone := fun a => d.notNone ⟨a⟩, lt_eq := fun a b => (d.lt_eq ⟨a⟩ ⟨b⟩).trans (ltL_eq f a b) }
/-! three, four -/
theorem eqv_t (xs ys : List D) : PyData.eqv (.tuple xs) (.tuple ys) = PyData.eqvAll xs ys := by simp only [PyData.eqv]
theorem eqvAll_n : PyData.eqvAll [] [] = true := by simp only [PyData.eqvAll]
theorem eqvAll_c (x y : D) (xs ys : List D) : PyData.eqvAll (x :: xs) (y :: ys) = (PyData.eqv x y && PyData.eqvAll xs ys) := by simp only [PyData.eqvAll]
theorem depth_t (xs : List D) (n : Nat) (h : ∀ x ∈ xs, x.depth ≤ n) : (PyData.tuple xs).depth ≤ n + 1 := by
  have : ∀ xs : List D, (∀ x ∈ xs, x.depth ≤ n) → PyData.depthAll xs ≤ n := by
    intro xs
    induction xs with
    | nil => intro _; exact Nat.zero_le _
    | cons x xs ih =>
      intro h
      rw [PyData.depthAll]
      exact Nat.max_le.mpr ⟨h x List.mem_cons_self, ih fun y hy => h y (List.mem_cons_of_mem _ hy)⟩
  have := this xs h
  simp only [PyData.depth]
  omega
instance [DecidableEq α] [DecidableEq β] [DecidableEq γ] (f : α → D) (g : β → D) (h : γ → D) [En f] [En g] [En h] : En (eP3 f g h) where
  n := max (En.n f) (max (En.n g) (En.n h)) + 1
  plain p := by simp [eP3, PyData.plain, PyData.plainAll, En.plain]
  eqv p q := by
    obtain ⟨a, b, c⟩ := p
    obtain ⟨a', b', c'⟩ := q
    simp [eP3, eqv_t, eqvAll_n, eqvAll_c, En.eqv]
  le p := by
    refine depth_t _ _ fun x hx => ?_
    have h1 := En.le (f := f) p.1
    have h2 := En.le (f := g) p.2.1
    have h3 := En.le (f := h) p.2.2
    simp at hx
    rcases hx with e | e | e <;> subst e <;> omega
instance [DecidableEq α] [DecidableEq β] [DecidableEq γ] [DecidableEq δ] (f : α → D) (g : β → D) (h : γ → D) (k : δ → D) [En f] [En g] [En h] [En k] : En (eP4 f g h k) where
  n := max (En.n f) (max (En.n g) (max (En.n h) (En.n k))) + 1
  plain p := by simp [eP4, PyData.plain, PyData.plainAll, En.plain]
  eqv p q := by
    obtain ⟨a, b, c, d⟩ := p
    obtain ⟨a', b', c', d'⟩ := q
    simp [eP4, eqv_t, eqvAll_n, eqvAll_c, En.eqv]
  le p := by
    refine depth_t _ _ fun x hx => ?_
    have h1 := En.le (f := f) p.1
    have h2 := En.le (f := g) p.2.1
    have h3 := En.le (f := h) p.2.2.1
    have h4 := En.le (f := k) p.2.2.2
    simp at hx
    rcases hx with e | e | e | e <;> subst e <;> omega
instance [DecidableEq α] [DecidableEq β] [DecidableEq γ] (f : α → D) (g : β → D) (h : γ → D) [EnO f] [EnO g] [EnO h] : EnO (eP3 f g h) where
  lt p q := if p.1 = q.1 then (if p.2.1 = q.2.1 then EnO.lt h p.2.2 q.2.2 else EnO.lt g p.2.1 q.2.1) else EnO.lt f p.1 q.1
  alike p q := by
    show PySem.W.alike (.tuple [_, _, _]) (.tuple [_, _, _]) = true
    simp only [PySem.W.alike, PySem.W.alikeAll, EnO.alike, Bool.and_self]
  notNone p := fun e => by cases e
  lt_eq p q := by
    refine (dataLt_tuple _ _).trans ?_
    by_cases e1 : p.1 = q.1
    · rw [if_pos e1, dataLt_all_yes (EnO.alike _ _) (by rw [En.eqv]; simp [e1])]
      by_cases e2 : p.2.1 = q.2.1
      · rw [if_pos e2, dataLt_all_yes (EnO.alike _ _) (by rw [En.eqv]; simp [e2]), ← EnO.lt_eq]
        by_cases e3 : p.2.2 = q.2.2
        · rw [dataLt_all_yes (EnO.alike _ _) (by rw [En.eqv]; simp [e3]), lex_irrefl, e3, dataLt_self]
        · rw [dataLt_all_no (EnO.alike _ _) (by rw [En.eqv]; simp [e3])]
      · rw [if_neg e2, dataLt_all_no (EnO.alike _ _) (by rw [En.eqv]; simp [e2]), EnO.lt_eq]
    · rw [if_neg e1, dataLt_all_no (EnO.alike _ _) (by rw [En.eqv]; simp [e1]), EnO.lt_eq]
instance : NN eI := ⟨fun _ => by simp [eI, PyData.eqv], fun _ => by simp [eI, PyData.eqv]⟩
instance : NN eB := ⟨fun _ => by simp [eB, PyData.eqv], fun _ => by simp [eB, PyData.eqv]⟩
instance : NN eS := ⟨fun _ => by simp [eS, PyData.eqv], fun _ => by simp [eS, PyData.eqv]⟩
instance (f : α → D) : NN (eT f) := ⟨fun _ => by simp [eT, PyData.eqv], fun _ => by simp [eT, PyData.eqv]⟩
instance (f : α → D) : NN (eL f) := ⟨fun _ => by simp [eL, PyData.eqv], fun _ => by simp [eL, PyData.eqv]⟩
instance (f : α → D) (g : β → D) : NN (eP f g) := ⟨fun _ => by simp [eP, PyData.eqv], fun _ => by simp [eP, PyData.eqv]⟩
instance (f : α → D) (g : β → D) (h : γ → D) : NN (eP3 f g h) := ⟨fun _ => by simp [eP3, PyData.eqv], fun _ => by simp [eP3, PyData.eqv]⟩
instance (f : α → D) (g : β → D) (h : γ → D) (k : δ → D) : NN (eP4 f g h k) := ⟨fun _ => by simp [eP4, PyData.eqv], fun _ => by simp [eP4, PyData.eqv]⟩
instance [DecidableEq α] (f : α → D) [En f] [NN f] : En (eO f) where
  n := En.n f
  plain a := by cases a <;> simp [eO, PyData.plain, En.plain]
  eqv a b := by
    cases a <;> cases b <;> simp [eO, NN.l, NN.r, En.eqv]
    rfl
  le a := by
    cases a
    · exact Nat.zero_le _
    · exact En.le (f := f) _
instance : NM eI := ⟨fun _ => rfl⟩
instance : NM eB := ⟨fun _ => rfl⟩
instance : NM eS := ⟨fun _ => rfl⟩
instance : NM eU := ⟨fun _ => rfl⟩
theorem noMutAll_map (f : α → D) [NM f] : ∀ xs : List α, noMutAll (xs.map f) = true
  | [] => rfl
  | x :: xs => by rw [List.map_cons, noMutAll, NM.nm, noMutAll_map f xs] <;> rfl
instance (f : α → D) [NM f] : NM (eT f) := ⟨fun xs => by unfold eT; rw [noMut]; exact noMutAll_map f xs⟩
instance (f : α → D) (g : β → D) [NM f] [NM g] : NM (eP f g) := ⟨fun p => by simp [eP, noMut, noMutAll, NM.nm]⟩
instance (f : α → D) (g : β → D) (h : γ → D) [NM f] [NM g] [NM h] : NM (eP3 f g h) := ⟨fun p => by simp [eP3, noMut, noMutAll, NM.nm]⟩
instance (f : α → D) (g : β → D) (h : γ → D) (k : δ → D) [NM f] [NM g] [NM h] [NM k] : NM (eP4 f g h k) := ⟨fun p => by simp [eP4, noMut, noMutAll, NM.nm]⟩
instance (f : α → D) [NM f] : NM (eO f) := ⟨fun a => by cases a <;> simp [eO, noMut, NM.nm]⟩
end
example : En (eT (eT eI)) := inferInstance
example : EnO (eP (eP eI eI) (eT (eP3 eI eI eI))) := inferInstance
end Mir
set_option Elab.async false
set_option linter.all false
set_option maxRecDepth 100000
set_option maxHeartbeats 4000000
/-! Mir, part Zb: the rules for expressions. -/
namespace Mir
open PySem L2 PySem.W PyProof.Rows

/-! ### the plain side -/
section
variable {α β γ σ ρ : Type}
theorem bindE {m : Option α} {f : α → Option β} {r : β} {C : Prop} (h : m.bind f = some r) (k : ∀ a, m = some a → f a = some r → C) : C := by
  cases m with
  | none => cases h
  | some a => exact k a rfl h
theorem iteT {c : Bool} {x y : α} {r : α} (h : (if c = true then x else y) = r) (hc : c = true) : x = r := by rw [if_pos hc] at h; exact h
theorem iteF {c : Bool} {x y : α} {r : α} (h : (if c = true then x else y) = r) (hc : c = false) : y = r := by rw [hc] at h; exact h
def andO (x : Bool) (m : Option Bool) : Option Bool := if x = true then m else some false
def orO (x : Bool) (m : Option Bool) : Option Bool := if x = true then some true else m
theorem andO_t {x c : Bool} {m : Option Bool} (h : andO x m = some c) (hx : x = true) : m = some c := by rw [andO, if_pos hx] at h; exact h
theorem andO_f {x c : Bool} {m : Option Bool} (h : andO x m = some c) (hx : x = false) : c = false := by subst hx; cases h; rfl
theorem orO_t {x c : Bool} {m : Option Bool} (h : orO x m = some c) (hx : x = true) : c = true := by subst hx; cases h; rfl
theorem orO_f {x c : Bool} {m : Option Bool} (h : orO x m = some c) (hx : x = false) : m = some c := by subst hx; exact h
theorem and_f {x y : Bool} (hx : x = false) : (x && y) = false := by subst hx; rfl
theorem or_t {x y : Bool} (hx : x = true) : (x || y) = true := by subst hx; rfl
def mulO (i j : Int) : Option Int := if (-(2 ^ 64) < i ∧ i < 2 ^ 64) ∨ (-(2 ^ 64) < j ∧ j < 2 ^ 64) then some (i * j) else none
def divO (i j : Int) : Option Int := if 0 < j ∧ j < 1073741824 then some (i / j) else if j ≠ 0 ∧ j.natAbs < 1073741824 then some (i.fdiv j) else none
def modO (i j : Int) : Option Int := if 0 < j then some (i % j) else none
def catS (x y : Str) : Option Str := if x.length + y.length ≤ lim then some (x ++ y) else none
def catO (xs ys : List α) : Option (List α) := if xs.length + ys.length ≤ lim then some (xs ++ ys) else none
def repO (xs : List α) (k : Int) : Option (List α) := if -1000 ≤ k ∧ k ≤ 1000 ∧ xs.length ≤ 1000 then some (List.replicate k.toNat xs).flatten else none
def repT (xs : List α) (k : Int) : Option (List α) := if k = 1 then some xs else if 2 ≤ k ∧ k ≤ 1000 ∧ xs.length ≤ 1000 ∧ xs.isEmpty = false then some (List.replicate k.toNat xs).flatten else none
def appO (xs : List α) (a : α) : Option (List α) := if xs.length < lim then some (xs ++ [a]) else none
def extO (xs ys : List α) : Option (List α) := if xs.length + ys.length < lim then some (xs ++ ys) else none
def putL (xs : List α) (k : Int) (a : α) : Option (List α) := (ixN xs.length k).map fun j => xs.set j a
def rngI (a c : Int) : List Int := (List.range (c - a).toNat).map fun (i : Nat) => a + (i : Int)
def rngO (a c : Int) : Option (List Int) := if -10000000 ≤ a ∧ a ≤ 10000000 ∧ -10000000 ≤ c ∧ c ≤ 10000000 ∧ (c - a).toNat ≤ 10000000 then some (rngI a c) else none
def shortO (xs : List α) : Option (List α) := if xs.length ≤ lim then some xs else none
def enumI : Int → List α → List (Int × α)
  | _, [] => []
  | i, x :: xs => (i, x) :: enumI (i + 1) xs
def mapO (f : α → Option β) : List α → Option (List β)
  | [] => some []
  | x :: xs => (f x).bind fun y => (mapO f xs).bind fun ys => some (y :: ys)
def compO (c : α → Option Bool) (f : α → Option β) : List α → Option (List β)
  | [] => some []
  | x :: xs => (c x).bind fun k => if k = true then (f x).bind fun y => (compO c f xs).bind fun ys => some (y :: ys) else compO c f xs
def mapS (f : σ → α → Option (β × σ)) : List α → σ → Option (List β × σ)
  | [], s => some ([], s)
  | x :: xs, s => (f s x).bind fun p => (mapS f xs p.2).bind fun q => some (p.1 :: q.1, q.2)
inductive Ctl (σ ρ : Type) where
  | go (s : σ)
  | brk (s : σ)
  | ret (r : ρ)
def forO (f : σ → α → Option σ) : List α → σ → Option σ
  | [], s => some s
  | x :: xs, s => (f s x).bind fun s => forO f xs s
def forC (f : σ → α → Option (Ctl σ ρ)) : List α → σ → Option (Ctl σ ρ)
  | [], s => some (.go s)
  | x :: xs, s => (f s x).bind fun r => match r with
    | .go s => forC f xs s
    | .brk s => some (.go s)
    | .ret r => some (.ret r)
def whO (c : σ → Option Bool) (f : σ → Option σ) : Nat → σ → Option σ
  | 0, _ => none
  | n + 1, s => (c s).bind fun k => if k = true then (f s).bind fun s => whO c f n s else some s
def whC (c : σ → Option Bool) (f : σ → Option (Ctl σ ρ)) : Nat → σ → Option (Ctl σ ρ)
  | 0, _ => none
  | n + 1, s => (c s).bind fun k => if k = true then (f s).bind fun r => match r with
    | .go s => whC c f n s
    | .brk s => some (.go s)
    | .ret r => some (.ret r) else some (.go s)
def minO (lt : α → α → Bool) : List α → Option α
  | [] => none
  | x :: xs => some (xs.foldl (fun a y => if lt y a = true then y else a) x)
def maxO (lt : α → α → Bool) : List α → Option α
  | [] => none
  | x :: xs => some (xs.foldl (fun a y => if lt a y = true then y else a) x)
end

/-! ### the rules -/
def G {α : Type} (x : R α) (K : α → Tau → Prop) (E : Xn → Tau → Prop) : Prop :=
  match x with
  | .ok a τ => K a τ
  | .ex e τ => E e τ
  | .st => False
def NoX : Xn → Tau → Prop := fun _ _ => False
def Is (o : O) (τ : Tau) : O → Tau → Prop := fun o' τ' => o' = o ∧ τ' = τ
def View (o : O) (d : D) : Prop := o.flat = true ∧ o.data = d
section
variable {α β : Type} {cl : Cl} {b : Bool} {τ τ' : Tau} {E : Xn → Tau → Prop}
theorem G.bind {x : R α} {f : α → Tau → R β} {K : β → Tau → Prop} (h : G x (fun a τ => G (f a τ) K E) E) : G (x.andThen f) K E := by cases x <;> exact h
theorem G.imp {x : R α} {K K' : α → Tau → Prop} {E' : Xn → Tau → Prop} (h : G x K E) (i : ∀ a τ, K a τ → K' a τ) (j : ∀ e τ, E e τ → E' e τ) : G x K' E' := by
  cases x with
  | ok a τ => exact i a τ h
  | ex e τ => exact j e τ h
  | st => exact h
theorem G.at {x : R O} {v : O} (h : G x (Is v τ') NoX) : x = .ok v τ' := by
  cases x with
  | ok a τ => obtain ⟨h1, h2⟩ := h; rw [h1, h2]
  | ex e τ => exact h.elim
  | st => exact h.elim
theorem g_eq {x : R O} {v : O} {K : O → Tau → Prop} (h : G x (Is v τ') NoX) (k : K v τ') : G x K E := by rw [h.at]; exact k
theorem isE {e : α → D} {v r : α} (h : some v = some r) : Is (.d (e r)) τ (.d (e v)) τ := by cases h; exact ⟨rfl, rfl⟩
theorem isL {e : α → D} {v r : List α} (h : some v = some r) : Is (oL e r) τ (oL e v) τ := by cases h; exact ⟨rfl, rfl⟩
theorem is_same {v : O} : Is v τ v τ := ⟨rfl, rfl⟩
theorem view_d {x : D} : View (.d x) x := ⟨rfl, rfl⟩
theorem oL_data {f : α → D} (xs : List α) : (oL f xs).data = eL f xs := by
  unfold oL eL
  rw [show (xs.map fun a => O.d (f a)) = (xs.map f).map .d by rw [List.map_map]; rfl, data_l, datas_map]
theorem oL_flat {f : α → D} (xs : List α) : (oL f xs).flat = true := by
  show (xs.map fun a => O.d (f a)).all O.isD = true
  induction xs with
  | nil => rfl
  | cons x xs ih => rw [List.map_cons, List.all_cons, ih]; rfl
theorem view_l {f : α → D} {xs : List α} : View (oL f xs) (eL f xs) := ⟨oL_flat xs, oL_data xs⟩
variable {K : O → Tau → Prop}
theorem g_lit {x : D} (k : K (.d x) τ) : G (evalG cl b (.lit x) τ) K E := by rw [ev_lit]; exact k
theorem g_con {x : Str} {v : D} (h : cl.con x = some v) (k : K (.d v) τ) : G (evalG cl b (.con x) τ) K E := by rw [ev_con, h]; exact k
theorem set_own {i : Nat} {o : O} (h : getO τ i = some o) : τ.set i (some o) = τ := by
  unfold getO at h
  cases e : τ[i]? with
  | none => rw [e] at h; cases h
  | some x =>
    rw [e] at h
    cases x with
    | none => cases h
    | some o' =>
      cases h
      obtain ⟨h1, h2⟩ := List.getElem?_eq_some_iff.mp e
      rw [← h2]
      exact List.set_getElem_self h1
theorem g_loc {i : Nat} {x : D} (h : getO τ i = some (.d x)) (k : K (.d x) τ) : G (evalG cl b (.loc i) τ) K E := by
  rw [ev_loc, h]
  cases b with
  | true => exact k
  | false =>
    show K (.d (O.d x).data) (τ.set i (some (.d (O.d x).data)))
    rw [data_d, set_own h]
    exact k
theorem g_locl {i : Nat} {o : O} (hb : b = true) (h : getO τ i = some o) (k : K o τ) : G (evalG cl b (.loc i) τ) K E := by
  subst hb
  rw [ev_loc, h]
  exact k
theorem g_locf {i : Nat} {f : α → D} {xs : List α} (hb : b = false) (h : getO τ i = some (oL f xs)) (k : K (.d (eL f xs)) (τ.set i (some (.d (eL f xs))))) : G (evalG cl b (.loc i) τ) K E := by
  subst hb
  rw [ev_loc, h]
  show K (.d (oL f xs).data) (τ.set i (some (.d (oL f xs).data)))
  rw [oL_data]
  exact k
/-! displays -/
def GD (x : R (List O)) (K : List D → Tau → Prop) (E : Xn → Tau → Prop) : Prop := G x (fun os τ => ∃ xs : List D, os = xs.map .d ∧ K xs τ) E
theorem gd_nil {K : List D → Tau → Prop} (k : K [] τ) : GD (evalOs cl b .nil τ) K E := ⟨[], rfl, k⟩
theorem gd_cons {K : List D → Tau → Prop} {e : Mir.E} {es : Es} (h : G (evalG cl b e τ) (fun o τ1 => ∃ x, o = .d x ∧ GD (evalOs cl b es τ1) (fun xs τ2 => K (x :: xs) τ2) E) E) : GD (evalOs cl b (.cons e es) τ) K E := by
  unfold GD
  rw [evalOs]
  refine G.bind (h.imp ?_ fun _ _ q => q)
  rintro o τ1 ⟨x, rfl, h2⟩
  refine G.bind (G.imp h2 ?_ fun _ _ q => q)
  rintro os τ2 ⟨xs, rfl, k⟩
  exact ⟨x :: xs, rfl, k⟩
theorem g_tup {es : Es} (h : GD (evalOs cl false es τ) (fun xs τ1 => K (.d (.tuple xs)) τ1) E) : G (evalG cl b (.tup es) τ) K E := by
  rw [ev_tup]
  refine G.bind (G.imp h ?_ fun _ _ q => q)
  rintro os τ1 ⟨xs, rfl, k⟩
  show K (.d (.tuple (O.datas (xs.map .d)))) τ1
  rw [datas_map]
  exact k
theorem g_lst {es : Es} (h : GD (evalOs cl false es τ) (fun xs τ1 => K (.l (xs.map .d)) τ1) E) : G (evalG cl b (.lst es) τ) K E := by
  rw [ev_lst]
  refine G.bind (G.imp h ?_ fun _ _ q => q)
  rintro os τ1 ⟨xs, rfl, k⟩
  exact k
/-- any objects -/
theorem go_nil {K : List O → Tau → Prop} (k : K [] τ) : G (evalOs cl b .nil τ) K E := k
theorem go_cons {K : List O → Tau → Prop} {e : Mir.E} {es : Es} (h : G (evalG cl b e τ) (fun o τ1 => G (evalOs cl b es τ1) (fun os τ2 => K (o :: os) τ2) E) E) : G (evalOs cl b (.cons e es) τ) K E := by
  rw [evalOs]
  refine G.bind (h.imp ?_ fun _ _ q => q)
  intro o τ1 h2
  exact G.bind h2
theorem g_lstO {es : Es} (h : G (evalOs cl false es τ) (fun os τ1 => K (.l os) τ1) E) : G (evalG cl b (.lst es) τ) K E := by
  rw [ev_lst]
  exact G.bind h
/-! operators -/
theorem g_bin {op : Operator} {a c : Mir.E} (h : G (evalG cl c.pure a τ) (fun x τ1 => ∃ dx, View x dx ∧ G (evalG cl true c τ1) (fun y τ2 => ∃ dy o, View y dy ∧ opF op dx dy = some o ∧ K o τ2) E) E) : G (evalG cl b (.bin op a c) τ) K E := by
  rw [ev_bin]
  refine G.bind (h.imp ?_ fun _ _ q => q)
  rintro x τ1 ⟨dx, vx, h2⟩
  refine G.bind (h2.imp ?_ fun _ _ q => q)
  rintro y τ2 ⟨dy, o, vy, ho, k⟩
  unfold flatD
  rw [if_pos vx.1]
  dsimp only
  rw [if_pos vy.1, vx.2, vy.2, ho]
  exact k
theorem op_mulO {i j r : Int} (h : mulO i j = some r) : opF .Mult (eI i) (eI j) = some (.d (eI r)) := by
  unfold mulO at h
  split at h
  · cases h; exact op_mul_i (by assumption)
  · cases h
theorem op_divO {i j r : Int} (h : divO i j = some r) : opF .FloorDiv (eI i) (eI j) = some (.d (eI r)) := by
  unfold divO at h
  split at h
  · cases h; exact op_div_i (by assumption)
  · split at h
    · cases h; exact op_div_n (by assumption) (by assumption)
    · cases h
theorem op_modO {i j r : Int} (h : modO i j = some r) : opF .Mod (eI i) (eI j) = some (.d (eI r)) := by
  unfold modO at h
  split at h
  · cases h; exact op_mod_i (by assumption)
  · cases h
theorem op_mulL {i j : Int} (h : -1000000000000 ≤ i ∧ i ≤ 1000000000000) : opF .Mult (eI i) (eI j) = some (.d (eI (i * j))) := op_mul_s h
theorem op_mulR {i j : Int} (h : -1000000000000 ≤ j ∧ j ≤ 1000000000000) : opF .Mult (eI i) (eI j) = some (.d (eI (i * j))) := op_mul_r h
theorem op_divL {i j : Int} (h : 0 < j ∧ j < 1073741824) : opF .FloorDiv (eI i) (eI j) = some (.d (eI (i / j))) := op_div_i h
theorem op_modL {i j : Int} (h : 0 < j) : opF .Mod (eI i) (eI j) = some (.d (eI (i % j))) := op_mod_i h
theorem op_catS {x y r : Str} (h : catS x y = some r) : opF .Add (eS x) (eS y) = some (.d (eS r)) := by
  unfold catS at h
  show (if x.length + y.length ≤ lim then some (O.d (.str (x ++ y))) else none) = _
  split at h
  · cases h; rw [if_pos (by assumption)]; rfl
  · cases h
theorem op_catL {f : α → D} {xs ys r : List α} (h : catO xs ys = some r) : opF .Add (eL f xs) (eL f ys) = some (oL f r) := by
  unfold catO at h
  show (if (xs.map f).length + (ys.map f).length ≤ lim then some (O.l ((xs.map f ++ ys.map f).map .d)) else none) = _
  split at h
  · cases h
    rw [if_pos (by simpa using (by assumption : xs.length + ys.length ≤ lim)), ← List.map_append, List.map_map]
    rfl
  · cases h
theorem op_catT {f : α → D} {xs ys r : List α} (h : catO xs ys = some r) : opF .Add (eT f xs) (eT f ys) = some (.d (eT f r)) := by
  unfold catO at h
  show (if (xs.map f).length + (ys.map f).length ≤ lim then some (O.d (.tuple (xs.map f ++ ys.map f))) else none) = _
  split at h
  · cases h
    rw [if_pos (by simpa using (by assumption : xs.length + ys.length ≤ lim)), ← List.map_append]
    rfl
  · cases h
theorem map_rep {f : α → β} (xs : List α) : ∀ n : Nat, (List.replicate n (xs.map f)).flatten = (List.replicate n xs).flatten.map f
  | 0 => rfl
  | n + 1 => by rw [List.replicate_succ, List.replicate_succ, List.flatten_cons, List.flatten_cons, map_rep xs n, List.map_append]
theorem op_repL {f : α → D} {xs r : List α} {k : Int} (h : repO xs k = some r) : opF .Mult (eL f xs) (eI k) = some (oL f r) := by
  unfold repO at h
  show (if -1000 ≤ k ∧ k ≤ 1000 ∧ (xs.map f).length ≤ 1000 then some (O.l ((List.replicate k.toNat (xs.map f)).flatten.map .d)) else none) = _
  split at h
  · cases h
    rw [if_pos (by simpa using (by assumption : -1000 ≤ k ∧ k ≤ 1000 ∧ xs.length ≤ 1000)), map_rep, List.map_map]
    rfl
  · cases h
theorem op_repT {f : α → D} {xs r : List α} {k : Int} (h : repT xs k = some r) : opF .Mult (eT f xs) (eI k) = some (.d (eT f r)) := by
  unfold repT at h
  show (if k = 1 then some (O.d (.tuple (xs.map f))) else if 2 ≤ k ∧ k ≤ 1000 ∧ (xs.map f).length ≤ 1000 ∧ (xs.map f).isEmpty = false then some (O.d (.tuple (List.replicate k.toNat (xs.map f)).flatten)) else none) = _
  by_cases c : k = 1
  · rw [if_pos c] at h ⊢
    cases h
    rfl
  · rw [if_neg c] at h ⊢
    split at h
    · rename_i hc
      cases h
      rw [if_pos ⟨hc.1, hc.2.1, by simpa using hc.2.2.1, by simpa using hc.2.2.2⟩, map_rep]
      rfl
    · cases h
theorem g_neg {a : Mir.E} (h : G (evalG cl true a τ) (fun x τ1 => ∃ i, x = .d (eI i) ∧ K (.d (eI (-i))) τ1) E) : G (evalG cl b (.neg a) τ) K E := by
  rw [ev_neg]
  refine G.bind (h.imp ?_ fun _ _ q => q)
  rintro x τ1 ⟨i, rfl, k⟩
  exact k
/-! tests -/
def GB (x : R O) (K : Bool → Tau → Prop) (E : Xn → Tau → Prop) : Prop := G x (fun o τ => ∃ c, o = .d (eB c) ∧ K c τ) E
theorem GB.bool {x : R O} {K : Bool → Tau → Prop} (h : GB x K E) : G (asB x) K E := by
  cases x with
  | ok a τ => obtain ⟨c, rfl, k⟩ := h; exact k
  | ex e τ => exact h
  | st => exact h
theorem g_not {a : Mir.E} (h : GB (evalG cl true a τ) (fun c τ1 => K (.d (eB (!c))) τ1) E) : G (evalG cl b (.not a) τ) K E := by
  rw [ev_not]
  exact G.bind (GB.bool h)
theorem g_and {es : Es} (h : G (evalAnd cl b es τ) K E) : G (evalG cl b (.and es) τ) K E := by rw [ev_and]; exact h
theorem g_or {es : Es} (h : G (evalOr cl b es τ) K E) : G (evalG cl b (.or es) τ) K E := by rw [ev_or]; exact h
theorem g_and1 {e : Mir.E} (h : G (evalG cl b e τ) K E) : G (evalAnd cl b (.cons e .nil) τ) K E := by rw [evalAnd]; exact h
theorem g_or1 {e : Mir.E} (h : G (evalG cl b e τ) K E) : G (evalOr cl b (.cons e .nil) τ) K E := by rw [evalOr]; exact h
theorem g_andc {e e2 : Mir.E} {es : Es} (h : GB (evalG cl true e τ) (fun x τ1 => ∃ c τ2, (x = true → G (evalAnd cl b (.cons e2 es) τ1) (Is (.d (eB c)) τ2) NoX) ∧ (x = false → c = false ∧ τ2 = τ1) ∧ K (.d (eB c)) τ2) E) : G (evalAnd cl b (.cons e (.cons e2 es)) τ) K E := by
  rw [evalAnd]
  refine G.bind (GB.bool (G.imp h ?_ fun _ _ q => q))
  rintro o τ1 ⟨x, rfl, c, τ2, h1, h2, k⟩
  refine ⟨x, rfl, ?_⟩
  cases x with
  | true => exact g_eq (h1 rfl) k
  | false => obtain ⟨rfl, rfl⟩ := h2 rfl; exact k
theorem g_orc {e e2 : Mir.E} {es : Es} (h : GB (evalG cl true e τ) (fun x τ1 => ∃ c τ2, (x = false → G (evalOr cl b (.cons e2 es) τ1) (Is (.d (eB c)) τ2) NoX) ∧ (x = true → c = true ∧ τ2 = τ1) ∧ K (.d (eB c)) τ2) E) : G (evalOr cl b (.cons e (.cons e2 es)) τ) K E := by
  rw [evalOr]
  refine G.bind (GB.bool (G.imp h ?_ fun _ _ q => q))
  rintro o τ1 ⟨x, rfl, c, τ2, h1, h2, k⟩
  refine ⟨x, rfl, ?_⟩
  cases x with
  | false => exact g_eq (h1 rfl) k
  | true => obtain ⟨rfl, rfl⟩ := h2 rfl; exact k
theorem is_and {x y : Bool} (hx : x = true) : Is (.d (eB (x && y))) τ (.d (eB y)) τ := by subst hx; exact ⟨rfl, rfl⟩
theorem is_or {x y : Bool} (hx : x = false) : Is (.d (eB (x || y))) τ (.d (eB y)) τ := by subst hx; exact ⟨rfl, rfl⟩
theorem is_iteT {e : α → D} {x : Bool} {v w : α} (hx : x = true) : Is (.d (e (if x = true then v else w))) τ (.d (e v)) τ := by rw [if_pos hx]; exact ⟨rfl, rfl⟩
theorem is_iteF {e : α → D} {x : Bool} {v w : α} (hx : x = false) : Is (.d (e (if x = true then v else w))) τ (.d (e w)) τ := by subst hx; exact ⟨rfl, rfl⟩
theorem is_iteTL {e : α → D} {x : Bool} {v w : List α} (hx : x = true) : Is (oL e (if x = true then v else w)) τ (oL e v) τ := by rw [if_pos hx]; exact ⟨rfl, rfl⟩
theorem is_iteFL {e : α → D} {x : Bool} {v w : List α} (hx : x = false) : Is (oL e (if x = true then v else w)) τ (oL e w) τ := by subst hx; exact ⟨rfl, rfl⟩
theorem g_ite {c a e : Mir.E} (h : GB (evalG cl true c τ) (fun x τ1 => ∃ v τ2, (x = true → G (evalG cl b a τ1) (Is v τ2) NoX) ∧ (x = false → G (evalG cl b e τ1) (Is v τ2) NoX) ∧ K v τ2) E) : G (evalG cl b (.ite c a e) τ) K E := by
  rw [ev_ite]
  refine G.bind (GB.bool (G.imp h ?_ fun _ _ q => q))
  rintro o τ1 ⟨x, rfl, v, τ2, h1, h2, k⟩
  refine ⟨x, rfl, ?_⟩
  cases x with
  | true => exact g_eq (h1 rfl) k
  | false => exact g_eq (h2 rfl) k
/-! comparing -/
theorem g_cmp {op : CmpOp} {a c : Mir.E} (h : G (evalG cl c.pure a τ) (fun x τ1 => G (evalG cl true c τ1) (fun y τ2 => ∃ r, cmpF op x.data y.data = some r ∧ K (.d (eB r)) τ2) E) E) : G (evalG cl b (.cmp op a c) τ) K E := by
  rw [ev_cmp]
  refine G.bind (h.imp ?_ fun _ _ q => q)
  intro x τ1 h2
  refine G.bind (h2.imp ?_ fun _ _ q => q)
  rintro y τ2 ⟨r, hr, k⟩
  rw [hr]
  exact k
/-- l <= x <= m, of values that are no trouble -/
theorem g_chain {op op' : CmpOp} {a c e : Mir.E} (h : G (evalG cl (c.pure && e.pure) a τ) (fun x τ1 => G (evalG cl e.pure c τ1) (fun y τ2 => ∃ r s τ3, cmpF op x.data y.data = some r ∧ (r = true → G (evalG cl true e τ2) (fun z τ4 => cmpF op' y.data z.data = some s ∧ τ4 = τ3) NoX) ∧ (r = false → s = false ∧ τ3 = τ2) ∧ K (.d (eB s)) τ3) E) E) : G (evalG cl b (.chain op op' a c e) τ) K E := by
  rw [ev_chain]
  refine G.bind (h.imp ?_ fun _ _ q => q)
  intro x τ1 h2
  refine G.bind (h2.imp ?_ fun _ _ q => q)
  rintro y τ2 ⟨r, s, τ3, hr, h3, h4, k⟩
  show G (match cmpF op x.data y.data with | some true => _ | some false => _ | none => _) K E
  rw [hr]
  cases r with
  | false =>
    obtain ⟨rfl, rfl⟩ := h4 rfl
    exact k
  | true =>
    show G ((evalG cl true e τ2).andThen _) K E
    refine G.bind ((h3 rfl).imp ?_ fun _ _ q => q.elim)
    rintro z τ4 ⟨hs, rfl⟩
    show G (R.ofB (cmpF op' y.data z.data) τ4) K E
    rw [hs]
    exact k
section
variable {f : α → D}
theorem cq_lt (a c : Int) : cmpF .Lt (eI a) (eI c) = some (decide (a < c)) := cmp_lt_i a c
theorem cq_le (a c : Int) : cmpF .LtE (eI a) (eI c) = some (decide (a ≤ c)) := cmp_le_i a c
theorem cq_gt (a c : Int) : cmpF .Gt (eI a) (eI c) = some (decide (c < a)) := cmp_gt_i a c
theorem cq_ge (a c : Int) : cmpF .GtE (eI a) (eI c) = some (decide (c ≤ a)) := cmp_ge_i a c
variable [DecidableEq α]
theorem okDepth_n {x y : D} {n m : Nat} (h1 : x.depth ≤ n) (h2 : y.depth ≤ m) (hn : n ≤ 40) (hm : m ≤ 40) : okDepth x y = true := by
  unfold okDepth
  rw [Bool.and_eq_true, decide_eq_true_eq, decide_eq_true_eq]
  exact ⟨Nat.le_trans h1 hn, Nat.le_trans h2 hm⟩
theorem cq_eq (f : α → D) [En f] (a c : α) (h : En.n f ≤ 40 := by decide) : cmpF .Eq (f a) (f c) = some (decide (a = c)) := by
  rw [cmp_eq_if, En.plain, En.plain, okDepth_n (En.le a) (En.le c) h h, En.eqv]
  rfl
theorem cq_ne (f : α → D) [En f] (a c : α) (h : En.n f ≤ 40 := by decide) : cmpF .NotEq (f a) (f c) = some (!decide (a = c)) := by
  rw [cmp_ne_if, En.plain, En.plain, okDepth_n (En.le a) (En.le c) h h, En.eqv]
  rfl
theorem alikeN_E (f : α → D) [EnO f] (a c : α) : alikeN (f a) (f c) = true := by
  unfold alikeN
  rw [EnO.alike, En.plain, En.plain]
  have := EnO.notNone (f := f) a
  cases h : f a <;> first | rfl | exact absurd h this
theorem cq_ltO (f : α → D) [EnO f] (a c : α) (h : En.n f ≤ 40 := by decide) : cmpF .Lt (f a) (f c) = some (EnO.lt f a c) := by
  rw [cmp_lt_if, alikeN_E, okDepth_n (En.le a) (En.le c) h h, EnO.lt_eq]; rfl
theorem cq_gtO (f : α → D) [EnO f] (a c : α) (h : En.n f ≤ 40 := by decide) : cmpF .Gt (f a) (f c) = some (EnO.lt f c a) := by
  rw [cmp_gt_if, alikeN_E, okDepth_n (En.le a) (En.le c) h h, EnO.lt_eq]; rfl
theorem cq_leO (f : α → D) [EnO f] (a c : α) (h : En.n f ≤ 40 := by decide) : cmpF .LtE (f a) (f c) = some (!EnO.lt f c a) := by
  rw [cmp_le_if, alikeN_E, okDepth_n (En.le a) (En.le c) h h, EnO.lt_eq]; rfl
theorem cq_geO (f : α → D) [EnO f] (a c : α) (h : En.n f ≤ 40 := by decide) : cmpF .GtE (f a) (f c) = some (!EnO.lt f a c) := by
  rw [cmp_ge_if, alikeN_E, okDepth_n (En.le a) (En.le c) h h, EnO.lt_eq]; rfl
theorem any_eqv (f : α → D) [En f] (a : α) : ∀ xs : List α, ((xs.map f).any fun y => PyData.eqv y (f a)) = decide (a ∈ xs)
  | [] => by simp
  | x :: xs => by
    rw [List.map_cons, List.any_cons, any_eqv f a xs, En.eqv]
    rw [Bool.eq_iff_iff, Bool.or_eq_true, decide_eq_true_eq, decide_eq_true_eq, decide_eq_true_eq, List.mem_cons]
    exact ⟨fun q => q.imp Eq.symm id, fun q => q.imp Eq.symm id⟩
theorem cq_inT (f : α → D) [En f] (a : α) (xs : List α) (h : En.n (eT f) ≤ 40 := by decide) (h' : En.n f ≤ 40 := by decide) : cmpF .In (f a) (eT f xs) = some (decide (a ∈ xs)) := by
  show inF (f a) (.tuple (xs.map f)) = _
  have p1 : PyData.plainAll (xs.map f) = true := by simpa [eT, PyData.plain] using En.plain (f := eT f) xs
  have p2 : okDepth (f a) (.tuple (xs.map f)) = true := okDepth_n (En.le a) (En.le (f := eT f) xs) h' h
  unfold inF
  dsimp only
  rw [En.plain, p1, p2, any_eqv]
  rfl
theorem cq_inL (f : α → D) [En f] (a : α) (xs : List α) (h : En.n (eL f) ≤ 40 := by decide) (h' : En.n f ≤ 40 := by decide) : cmpF .In (f a) (eL f xs) = some (decide (a ∈ xs)) := by
  show inF (f a) (.list (xs.map f)) = _
  have p1 : PyData.plainAll (xs.map f) = true := by simpa [eL, PyData.plain] using En.plain (f := eL f) xs
  have p2 : okDepth (f a) (.list (xs.map f)) = true := okDepth_n (En.le a) (En.le (f := eL f) xs) h' h
  unfold inF
  dsimp only
  rw [En.plain, p1, p2, any_eqv]
  rfl
theorem cq_niT (f : α → D) [En f] (a : α) (xs : List α) (h : En.n (eT f) ≤ 40 := by decide) (h' : En.n f ≤ 40 := by decide) : cmpF .NotIn (f a) (eT f xs) = some (!decide (a ∈ xs)) := by
  have := cq_inT f a xs h h'
  show (inF (f a) (eT f xs)).map (!·) = _
  rw [show inF (f a) (eT f xs) = some (decide (a ∈ xs)) from this]
  rfl
theorem cq_niL (f : α → D) [En f] (a : α) (xs : List α) (h : En.n (eL f) ≤ 40 := by decide) (h' : En.n f ≤ 40 := by decide) : cmpF .NotIn (f a) (eL f xs) = some (!decide (a ∈ xs)) := by
  have := cq_inL f a xs h h'
  show (inF (f a) (eL f xs)).map (!·) = _
  rw [show inF (f a) (eL f xs) = some (decide (a ∈ xs)) from this]
  rfl
end
theorem isF_none (a : D) : isF a .none = some (isNone a) := by cases a <;> rfl
theorem isNone_nn {f : α → D} [NN f] (a : α) : isNone (f a) = false := by
  have h := NN.l (f := f) a
  cases e : f a with
  | none =>
    rw [e, show PyData.eqv .none .none = true by simp only [PyData.eqv]] at h
    cases h
  | _ => rfl
theorem cq_isO {f : α → D} [NN f] (x : Option α) : cmpF .Is (eO f x) .none = some x.isNone := by
  show isF (eO f x) .none = _
  rw [isF_none]
  cases x with
  | none => rfl
  | some a => exact congrArg some (isNone_nn a)
theorem cq_isnO {f : α → D} [NN f] (x : Option α) : cmpF .IsNot (eO f x) .none = some (!x.isNone) := by
  show (isF (eO f x) .none).map (!·) = _
  rw [show isF (eO f x) .none = some x.isNone from cq_isO x]
  rfl
end
end Mir
set_option Elab.async false
set_option linter.all false
set_option maxRecDepth 100000
set_option maxHeartbeats 4000000
/-! Mir, part Zc: places, built-ins, loops within expressions, calls. -/
namespace Mir
open PySem L2 PySem.W PyProof.Rows

section
variable {α β γ σ : Type} {cl : Cl} {b : Bool} {τ τ' : Tau} {E : Xn → Tau → Prop} {K : O → Tau → Prop}
/-! places -/
theorem g_ix {a i : Mir.E} (h : G (evalG cl i.pure a τ) (fun x τ1 => G (evalG cl true i τ1) (fun k τ2 => ∃ d, ixO x k.data = some (.d d) ∧ K (.d d) τ2) E) E) : G (evalG cl b (.ix a i) τ) K E := by
  rw [ev_ix]
  refine G.bind (h.imp ?_ fun _ _ q => q)
  intro x τ1 h2
  refine G.bind (h2.imp ?_ fun _ _ q => q)
  rintro k τ2 ⟨d, hd, kk⟩
  rw [hd]
  show G (if (b || (O.d d).isD) = true then _ else _) K E
  rw [if_pos (by cases b <;> rfl)]
  exact kk
theorem atI_mapD {f : α → β} {xs : List α} {i : Int} {a : α} (h : atI xs i = some a) : atI (xs.map f) i = some (f a) := by
  unfold atI at h ⊢
  rw [List.length_map]
  cases e : ixN xs.length i with
  | none => rw [e] at h; cases h
  | some j =>
    rw [e] at h
    show (xs.map f)[j]? = _
    rw [List.getElem?_map]
    have h : xs[j]? = some a := h
    rw [h]
    rfl
theorem ix_T {f : α → D} {xs : List α} {i : Int} {a : α} (h : atI xs i = some a) : ixO (.d (eT f xs)) (eI i) = some (.d (f a)) := by
  show (atI (xs.map f) i).map O.d = _
  rw [atI_mapD h]; rfl
theorem ix_L {f : α → D} {xs : List α} {i : Int} {a : α} (h : atI xs i = some a) : ixO (.d (eL f xs)) (eI i) = some (.d (f a)) := by
  show (atI (xs.map f) i).map O.d = _
  rw [atI_mapD h]; rfl
theorem ix_O {f : α → D} {xs : List α} {i : Int} {a : α} (h : atI xs i = some a) : ixO (oL f xs) (eI i) = some (.d (f a)) := by
  show atI (xs.map fun a => O.d (f a)) i = _
  rw [atI_mapD (f := fun a => O.d (f a)) h]
/-! slices -/
theorem g_sl {a lo hi : Mir.E} (h : G (evalG cl (lo.pure && hi.pure) a τ) (fun x τ1 => ∃ dx, View x dx ∧ G (evalG cl true lo τ1) (fun l τ2 => ∃ l', part l.data = some l' ∧ G (evalG cl true hi τ2) (fun r τ3 => ∃ r' o, part r.data = some r' ∧ slF dx l' r' = some o ∧ K o τ3) E) E) E) : G (evalG cl b (.sl a lo hi) τ) K E := by
  rw [ev_sl]
  refine G.bind (h.imp ?_ fun _ _ q => q)
  rintro x τ1 ⟨dx, vx, h2⟩
  refine G.bind (h2.imp ?_ fun _ _ q => q)
  rintro l τ2 ⟨l', hl, h3⟩
  rw [hl]
  show G ((evalG cl true hi τ2).andThen _) K E
  refine G.bind (h3.imp ?_ fun _ _ q => q)
  rintro r τ3 ⟨r', o, hr, ho, k⟩
  rw [hr]
  show G (flatD x τ3 fun dx τ => R.ofO (slF dx l' r') τ) K E
  unfold flatD
  rw [if_pos vx.1, vx.2]
  dsimp only
  rw [ho]
  exact k
theorem cutG_mapD {α β : Type} (f : α → β) (xs : List α) (lo hi : Option Int) : cutG (xs.map f) lo hi = (cutG xs lo hi).map f := by
  unfold cutG
  rw [List.length_map, List.map_take, List.map_drop]
theorem sl_T {f : α → D} {xs : List α} {lo hi : Option Int} : slF (eT f xs) lo hi = some (.d (eT f (cutG xs lo hi))) := by
  show some (O.d (.tuple (cutG (xs.map f) lo hi))) = _
  rw [cutG_mapD]; rfl
theorem sl_L {f : α → D} {xs : List α} {lo hi : Option Int} : slF (eL f xs) lo hi = some (oL f (cutG xs lo hi)) := by
  show some (O.l ((cutG (xs.map f) lo hi).map .d)) = _
  rw [cutG_mapD, List.map_map]; rfl
theorem sl_S {ns : List Int} {lo hi : Option Int} : slF (scrD ns) lo hi = some (oL eI (cutG ns lo hi)) := by
  show some (O.l ((cutG (ns.map PyData.int) lo hi).map .d)) = _
  rw [cutG_mapD, List.map_map]; rfl
theorem g_rev {a : Mir.E} (h : G (evalG cl true a τ) (fun x τ1 => ∃ dx o, View x dx ∧ revF dx = some o ∧ K o τ1) E) : G (evalG cl b (.rev a) τ) K E := by
  rw [ev_rev]
  refine G.bind (h.imp ?_ fun _ _ q => q)
  rintro x τ1 ⟨dx, o, vx, ho, k⟩
  unfold flatD
  rw [if_pos vx.1, vx.2]
  dsimp only
  rw [ho]
  exact k
theorem rev_L {f : α → D} {xs : List α} : revF (eL f xs) = some (oL f xs.reverse) := by
  show some (O.l ((xs.map f).reverse.map .d)) = _
  rw [← List.map_reverse, List.map_map]; rfl
theorem rev_T {f : α → D} {xs : List α} : revF (eT f xs) = some (.d (eT f xs.reverse)) := by
  show some (O.d (.tuple (xs.map f).reverse)) = _
  rw [← List.map_reverse]; rfl
/-! built-ins: the arguments as data -/
def GV (x : R (List O)) (K : List D → Tau → Prop) (E : Xn → Tau → Prop) : Prop := G x (fun os τ => os.all O.flat = true ∧ ∃ xs : List D, O.datas os = xs ∧ K xs τ) E
theorem gv_nil {K : List D → Tau → Prop} (k : K [] τ) : GV (evalOs cl b .nil τ) K E := ⟨rfl, [], rfl, k⟩
theorem gv_cons {K : List D → Tau → Prop} {e : Mir.E} {es : Es} (h : G (evalG cl b e τ) (fun o τ1 => ∃ x, View o x ∧ GV (evalOs cl b es τ1) (fun xs τ2 => K (x :: xs) τ2) E) E) : GV (evalOs cl b (.cons e es) τ) K E := by
  unfold GV
  rw [evalOs]
  refine G.bind (h.imp ?_ fun _ _ q => q)
  rintro o τ1 ⟨x, vx, h2⟩
  refine G.bind (G.imp h2 ?_ fun _ _ q => q)
  rintro os τ2 ⟨hf, xs, rfl, k⟩
  refine ⟨?_, x :: O.datas os, ?_, k⟩
  · rw [List.all_cons, hf, vx.1]; rfl
  · rw [datas_cons, vx.2]
theorem g_bi {f : Bi} {es : Es} (h : GV (evalOs cl es.pure es τ) (fun xs τ1 => ∃ o, biF f xs = some o ∧ K o τ1) E) : G (evalG cl b (.bi f es) τ) K E := by
  rw [ev_bi]
  refine G.bind (G.imp h ?_ fun _ _ q => q)
  rintro os τ1 ⟨hf, xs, rfl, o, ho, k⟩
  rw [if_pos hf, ho]
  exact k
section
variable {f : α → D}
theorem b_lenT (xs : List α) : biF .len [eT f xs] = some (.d (eI (xs.length : Int))) := by
  show some (O.d (.int ((xs.map f).length : Int))) = _
  rw [List.length_map]; rfl
theorem b_lenL (xs : List α) : biF .len [eL f xs] = some (.d (eI (xs.length : Int))) := by
  show some (O.d (.int ((xs.map f).length : Int))) = _
  rw [List.length_map]; rfl
theorem b_abs (i : Int) : biF .abs [eI i] = some (.d (eI (if i < 0 then -i else i))) := rfl
theorem b_min2 (i j : Int) : biF .min [eI i, eI j] = some (.d (eI (if j < i then j else i))) := rfl
theorem b_max2 (i j : Int) : biF .max [eI i, eI j] = some (.d (eI (if j > i then j else i))) := rfl
theorem b_sum (xs : List Int) : biF .sum [eL eI xs] = some (.d (eI xs.sum)) := by
  show (ints? (xs.map PyData.int)).map (fun ns => O.d (.int ns.sum)) = _
  rw [ints_i]; rfl
theorem b_sumT (xs : List Int) : biF .sum [eT eI xs] = some (.d (eI xs.sum)) := by
  show (ints? (xs.map PyData.int)).map (fun ns => O.d (.int ns.sum)) = _
  rw [ints_i]; rfl
theorem bools_i : ∀ xs : List Bool, bools? (xs.map fun x => PyData.bool x) = some xs
  | [] => rfl
  | x :: xs => by rw [List.map_cons, bools?, bools_i xs] <;> rfl
theorem b_all (xs : List Bool) : biF .all [eL eB xs] = some (.d (eB (xs.all id))) := by
  show (bools? (xs.map fun x => PyData.bool x)).map (fun ns => O.d (.bool (ns.all id))) = _
  rw [bools_i]; rfl
theorem b_any (xs : List Bool) : biF .any [eL eB xs] = some (.d (eB (xs.any id))) := by
  show (bools? (xs.map fun x => PyData.bool x)).map (fun ns => O.d (.bool (ns.any id))) = _
  rw [bools_i]; rfl
theorem b_tupL (xs : List α) : biF .tuple [eL f xs] = some (.d (eT f xs)) := rfl
theorem b_tupT (xs : List α) : biF .tuple [eT f xs] = some (.d (eT f xs)) := rfl
theorem map_dd (xs : List α) : (xs.map f).map O.d = xs.map fun a => O.d (f a) := by rw [List.map_map] <;> rfl
theorem b_listL (xs : List α) : biF .list [eL f xs] = some (oL f xs) := by
  show some (O.l ((xs.map f).map .d)) = _
  rw [map_dd]; rfl
theorem b_listT (xs : List α) : biF .list [eT f xs] = some (oL f xs) := by
  show some (O.l ((xs.map f).map .d)) = _
  rw [map_dd]; rfl
theorem b_intI (i : Int) : biF .int [eI i] = some (.d (eI i)) := rfl
theorem b_intB (i : Bool) : biF .int [eB i] = some (.d (eI (if i = true then 1 else 0))) := by cases i <;> rfl
variable [DecidableEq α]
theorem okMM_E (f : α → D) [EnO f] (h : En.n f ≤ 40) (xs : List α) : okMM (xs.map f) = true := by
  letI := EnO.dat f
  exact okMM_D h xs
theorem b_minL (f : α → D) [EnO f] {xs : List α} {m : α} (hm : minO (EnO.lt f) xs = some m) (h : En.n f ≤ 40 := by decide) : biF .min [eL f xs] = some (.d (f m)) := by
  cases xs with
  | nil => cases hm
  | cons x xs =>
    cases hm
    letI := EnO.dat f
    exact bi_min_D h x xs
theorem b_maxL (f : α → D) [EnO f] {xs : List α} {m : α} (hm : maxO (EnO.lt f) xs = some m) (h : En.n f ≤ 40 := by decide) : biF .max [eL f xs] = some (.d (f m)) := by
  cases xs with
  | nil => cases hm
  | cons x xs =>
    cases hm
    letI := EnO.dat f
    exact bi_max_D h x xs
theorem b_minT (f : α → D) [EnO f] {xs : List α} {m : α} (hm : minO (EnO.lt f) xs = some m) (h : En.n f ≤ 40 := by decide) : biF .min [eT f xs] = some (.d (f m)) := by
  have := b_minL f hm h
  cases xs with
  | nil => cases hm
  | cons x xs => exact this
theorem b_maxT (f : α → D) [EnO f] {xs : List α} {m : α} (hm : maxO (EnO.lt f) xs = some m) (h : En.n f ≤ 40 := by decide) : biF .max [eT f xs] = some (.d (f m)) := by
  have := b_maxL f hm h
  cases xs with
  | nil => cases hm
  | cons x xs => exact this
end
theorem g_isi {a : Mir.E} {m : Bool} {tys : List Ty} (h : G (evalG cl true a τ) (fun x τ1 => ∃ c, isAny x.data tys = some c ∧ K (.d (eB c)) τ1) E) : G (evalG cl b (.isi a m tys) τ) K E := by
  rw [ev_isi]
  refine G.bind (h.imp ?_ fun _ _ q => q)
  rintro x τ1 ⟨c, hc, k⟩
  rw [hc]
  exact k
/-! what is gone over -/
variable {KI : List D → Tau → Prop}
theorem it_seq {e : Mir.E} (h : G (evalG cl b e τ) (fun o τ1 => ∃ ds, itemsB b o = some ds ∧ KI ds τ1) E) : G (evalIt cl b (.seq e) τ) KI E := by
  rw [evalIt]
  refine G.bind (h.imp ?_ fun _ _ q => q)
  rintro o τ1 ⟨ds, hd, k⟩
  rw [hd]
  exact k
theorem items_T {f : α → D} {xs : List α} : itemsB b (.d (eT f xs)) = some (xs.map f) := itemsB_dt
theorem items_L {f : α → D} {xs : List α} : itemsB b (.d (eL f xs)) = some (xs.map f) := itemsB_dl
theorem items_O {f : α → D} {xs : List α} : itemsB b (oL f xs) = some (xs.map f) := by
  unfold oL
  rw [← map_dd, itemsB_l]
theorem it_rng {es : Es} (h : GV (evalOs cl es.pure es τ) (fun xs τ1 => ∃ ds, rngF xs = some ds ∧ KI ds τ1) E) : G (evalIt cl b (.rng es) τ) KI E := by
  rw [evalIt]
  refine G.bind (G.imp h ?_ fun _ _ q => q)
  rintro os τ1 ⟨hf, xs, rfl, ds, hd, k⟩
  rw [hd]
  exact k
theorem rngI_map (a c : Int) : rangeL a c = (rngI a c).map eI := by
  unfold rangeL rngI
  rw [List.map_map]; rfl
theorem lim_eq : (lim : Int) = 10000000 := by decide
theorem rngI_D (a c : Int) : rangeL a c = (rngI a c).map eI := by unfold rangeL rngI; rw [List.map_map]; rfl
theorem g_lrg {a : Mir.E} (h : G (evalG cl true a τ) (fun x τ1 => ∃ n xs, x = .d (eI n) ∧ rngO 0 n = some xs ∧ K (oL eI xs) τ1) E) : G (evalG cl b (.lrg a) τ) K E := by
  rw [ev_lrg]
  refine G.bind (h.imp ?_ fun _ _ q => q)
  rintro x τ1 ⟨n, xs, rfl, hr, k⟩
  unfold rngO at hr
  split at hr
  · rename_i c
    cases hr
    have lim62 : (lim : Int) = 10000000 := by decide
    show G (R.ofO (if -(lim : Int) ≤ n ∧ n ≤ lim then some (O.l ((rangeL 0 n).map O.d)) else none) τ1) K E
    rw [if_pos (by omega), rngI_D, List.map_map]
    exact k
  · cases hr
theorem rng_2 {a c : Int} {xs : List Int} (h : rngO a c = some xs) : rngF [eI a, eI c] = some (xs.map eI) := by
  unfold rngO at h
  split at h
  · cases h
    show (if -lim ≤ a ∧ a ≤ lim ∧ -lim ≤ c ∧ c ≤ lim then some (rangeL a c) else none) = _
    rw [lim_eq, if_pos (by omega), rngI_map]
  · cases h
theorem rng_0 {c : Int} {xs : List Int} (h : rngO 0 c = some xs) : rngF [eI c] = some (xs.map eI) := by
  unfold rngO at h
  split at h
  · cases h
    show (if -lim ≤ c ∧ c ≤ lim then some (rangeL 0 c) else none) = _
    rw [lim_eq, if_pos (by omega), rngI_map]
  · cases h
theorem rng_len {a c : Int} {xs : List Int} (h : rngO a c = some xs) : xs.length ≤ lim := by
  unfold rngO at h
  split at h
  · cases h
    have e : (lim : Nat) = 10000000 := rfl
    rw [e]
    unfold rngI
    simp
    omega
  · cases h
theorem short_eq {xs ys : List α} (h : shortO xs = some ys) : ys = xs ∧ ys.length ≤ lim := by
  unfold shortO at h
  split at h
  · cases h; exact ⟨rfl, by assumption⟩
  · cases h
theorem it_zip {es : Es} (h : G (evalOs cl (b && es.pure) es τ) (fun os τ1 => ∃ ds, zipF (b && es.pure) os = some ds ∧ KI ds τ1) E) : G (evalIt cl b (.zip es) τ) KI E := by
  rw [evalIt]
  refine G.bind (G.imp h ?_ fun _ _ q => q)
  rintro os τ1 ⟨ds, hd, k⟩
  rw [hd]
  exact k
theorem pairs_map {f : α → D} {g : β → D} : ∀ (xs : List α) (ys : List β), pairsL (xs.map f) (ys.map g) = (xs.zip ys).map (eP f g)
  | [], _ => by simp [pairsL]
  | _ :: _, [] => by simp [pairsL]
  | x :: xs, y :: ys => by
    rw [List.map_cons, List.map_cons, pairsL, pairs_map xs ys]
    rfl
/-- what zip and enumerate take: a tuple, or a list -/
def Seq (b : Bool) (t : Bool) (o : O) (ds : List D) : Prop := isTup o = t ∧ itemsB b o = some ds
theorem seq_T {f : α → D} {xs : List α} : Seq b true (.d (eT f xs)) (xs.map f) := ⟨rfl, items_T⟩
theorem seq_L {f : α → D} {xs : List α} : Seq b false (.d (eL f xs)) (xs.map f) := ⟨rfl, items_L⟩
theorem seq_O {f : α → D} {xs : List α} : Seq b false (oL f xs) (xs.map f) := ⟨by unfold isTup; rw [oL_data]; rfl, items_O⟩
theorem zip_eq {t : Bool} {x y : O} {f : α → D} {g : β → D} {xs : List α} {ys : List β} (h1 : Seq b t x (xs.map f)) (h2 : Seq b t y (ys.map g)) : zipF b [x, y] = some ((xs.zip ys).map (eP f g)) := by
  show (if (isTup x == isTup y) = true then _ else _) = _
  rw [h1.1, h2.1, if_pos (by cases t <;> rfl), h1.2, h2.2]
  exact congrArg some (pairs_map xs ys)
theorem it_enum {es : Es} (h : G (evalOs cl (b && es.pure) es τ) (fun os τ1 => ∃ ds, enumF (b && es.pure) os = some ds ∧ KI ds τ1) E) : G (evalIt cl b (.enum es) τ) KI E := by
  rw [evalIt]
  refine G.bind (G.imp h ?_ fun _ _ q => q)
  rintro os τ1 ⟨ds, hd, k⟩
  rw [hd]
  exact k
theorem enum_map {f : α → D} : ∀ (xs : List α) (i : Nat), enumL i (xs.map f) = (enumI (i : Int) xs).map (eP eI f)
  | [], _ => rfl
  | x :: xs, i => by
    rw [List.map_cons, enumL, enum_map xs (i + 1)]
    rfl
theorem enum_eq {t : Bool} {x : O} {f : α → D} {xs : List α} (h1 : Seq b t x (xs.map f)) : enumF b [x] = some ((enumI 0 xs).map (eP eI f)) := by
  show (itemsB b x).map (enumL 0) = _
  rw [h1.2]
  exact congrArg some (enum_map xs 0)
/-! comprehensions -/
def GT (x : R Bool) (K : Bool → Tau → Prop) (E : Xn → Tau → Prop) : Prop := G x K E
theorem gt_nil {K : Bool → Tau → Prop} (k : K true τ) : G (evalTests cl .nil τ) K E := k
theorem gt_one {K : Bool → Tau → Prop} {e : Mir.E} (h : GB (evalG cl true e τ) K E) : G (evalTests cl (.cons e .nil) τ) K E := by
  rw [evalTests]
  refine G.bind (G.imp (GB.bool h) ?_ fun _ _ q => q)
  intro c τ1 k
  cases c <;> exact k
/-- one turn, nothing changed but the block's names -/
def Turn (cl : Cl) (t : T) (vs : List Nat) (cs : Es) (elt : Mir.E) (τ1 : Tau) (x : D) (z : Option D) : Prop :=
  ∃ τa, t.set x (wipeT τ1 vs) = some τa ∧ G (evalTests cl cs τa) (fun k τb => match z with
    | none => k = false ∧ wipeT τb vs = wipeT τ1 vs
    | some d => k = true ∧ G (evalG cl false elt τb) (fun o τc => o = .d d ∧ wipeT τc vs = wipeT τ1 vs) NoX) NoX
theorem turn_of {t : T} {vs : List Nat} {cs : Es} {elt : Mir.E} {τ1 τ2 : Tau} {x : D} {z : Option D} (h : Turn cl t vs cs elt τ1 x z) (hw : wipeT τ2 vs = wipeT τ1 vs) :
    ∃ τa τc, t.set x (wipeT τ2 vs) = some τa ∧ ((evalTests cl cs τa).andThen fun c τ => if c then (evalG cl false elt τ).andThen fun y τ => .ok (some y) τ else .ok none τ) = .ok (z.map .d) τc ∧ wipeT τc vs = wipeT τ1 vs := by
  obtain ⟨τa, h1, h2⟩ := h
  rw [← hw] at h1
  refine ⟨τa, ?_⟩
  cases e : evalTests cl cs τa with
  | st => rw [e] at h2; exact h2.elim
  | ex x τ => rw [e] at h2; exact h2.elim
  | ok k τb =>
    rw [e] at h2
    cases z with
    | none =>
      obtain ⟨rfl, h3⟩ := h2
      exact ⟨τb, h1, rfl, h3⟩
    | some d =>
      obtain ⟨rfl, h3⟩ := h2
      cases e2 : evalG cl false elt τb with
      | st => rw [e2] at h3; exact h3.elim
      | ex x τ => rw [e2] at h3; exact h3.elim
      | ok o τc =>
        rw [e2] at h3
        obtain ⟨rfl, h4⟩ := h3
        refine ⟨τc, h1, ?_, h4⟩
        show (evalG cl false elt τb).andThen _ = _
        rw [e2]
        rfl
inductive Turns (P : D → Option D → Prop) : List D → List (Option D) → Prop
  | nil : Turns P [] []
  | cons {x : D} {z : Option D} {xs : List D} {zs : List (Option D)} : P x z → Turns P xs zs → Turns P (x :: xs) (z :: zs)
theorem wipeT_get : ∀ (vs : List Nat) (τ : Tau) (i : Nat), (wipeT τ vs)[i]? = if i ∈ vs ∧ i < τ.length then some none else τ[i]?
  | [], τ, i => by simp [wipeT]
  | v :: vs, τ, i => by
    rw [wipeT]
    by_cases e : i = v
    · subst e
      by_cases hi : i < τ.length
      · rw [List.getElem?_set_self (by rw [wipeT_len]; exact hi), if_pos ⟨List.mem_cons_self, hi⟩]
      · rw [List.getElem?_eq_none (by rw [List.length_set, wipeT_len]; omega), if_neg (fun z => hi z.2), List.getElem?_eq_none (by omega)]
    · rw [List.getElem?_set_ne (Ne.symm e), wipeT_get vs τ i]
      simp [e]
theorem wipeT_twice (τ : Tau) (vs : List Nat) : wipeT (wipeT τ vs) vs = wipeT τ vs := by
  apply List.ext_getElem?
  intro i
  rw [wipeT_get, wipeT_get, wipeT_len]
  by_cases h : i ∈ vs ∧ i < τ.length
  · simp only [if_pos h]
  · rw [if_neg h]
theorem compL_turns {t : T} {vs : List Nat} {cs : Es} {elt : Mir.E} {τ1 : Tau} : ∀ {xs : List D} {zs : List (Option D)}, Turns (Turn cl t vs cs elt τ1) xs zs → ∀ τ, wipeT τ vs = wipeT τ1 vs →
    ∃ τ', compL (fun x τ => t.set x (wipeT τ vs)) (fun τ => (evalTests cl cs τ).andThen fun c τ => if c then (evalG cl false elt τ).andThen fun y τ => .ok (some y) τ else .ok none τ) xs τ = .ok ((zs.filterMap id).map .d) τ' ∧ wipeT τ' vs = wipeT τ1 vs
  | _, _, .nil, τ, hw => ⟨τ, rfl, hw⟩
  | _, _, .cons (z := z) (zs := zs) h hs, τ, hw => by
    obtain ⟨τa, τc, h1, h2, h3⟩ := turn_of h hw
    obtain ⟨τ', h4, h5⟩ := compL_turns hs τc h3
    refine ⟨τ', ?_, h5⟩
    rw [compL, h1]
    dsimp only
    rw [h2]
    show (compL _ _ _ τc).andThen _ = _
    rw [h4]
    cases z <;> rfl
theorem Turns.length {P : D → Option D → Prop} : ∀ {xs : List D} {zs : List (Option D)}, Turns P xs zs → zs.length = xs.length
  | _, _, .nil => rfl
  | _, _, .cons _ h => congrArg (· + 1) h.length
theorem g_comp {t : T} {vs : List Nat} {it : Mir.It} {cs : Es} {elt : Mir.E} {r : Bool} (h : G (evalIt cl (cs.pure && elt.pure) it τ) (fun ds τ1 => ∃ zs, Turns (Turn cl t vs cs elt τ1) ds zs ∧ (it.isSeq = true ∨ ds.length ≤ lim) ∧ K (.l ((zs.filterMap id).map .d)) τ1) E) : G (evalG cl b (.comp t vs it cs elt r) τ) K (fun x τ' => E x τ') := by
  rw [evalG]
  cases e : evalIt cl (cs.pure && elt.pure) it τ with
  | st => rw [e] at h; exact h.elim
  | ex x τ1 => rw [e] at h; exact h
  | ok ds τ1 =>
    rw [e] at h
    obtain ⟨zs, h1, h2, k⟩ := h
    have hl : (it.isSeq || decide (ds.length ≤ lim)) = true := by
      rcases h2 with h2 | h2
      · rw [h2]; rfl
      · rw [decide_eq_true h2, Bool.or_true]
    obtain ⟨τ', h3, h4⟩ := compL_turns h1 (wipeT τ1 vs) (wipeT_twice τ1 vs)
    show G (restore r τ (if (it.isSeq || decide (ds.length ≤ lim)) = false then .st else _)) K E
    rw [hl, if_neg (by decide), h3]
    show G (restore r τ (.ok (.l _) (backT τ1 τ' vs))) K E
    rw [back_wipe h4, restore_l]
    exact k
section
variable {t : T} {vs : List Nat} {it : Mir.It} {cs : Es} {elt : Mir.E} {r : Bool} {e : α → D} {f : β → D}
theorem fm_map (v : α → β) : ∀ xs : List α, ((xs.map fun x => some (f (v x))).filterMap id).map O.d = (xs.map v).map fun a => O.d (f a)
  | [] => rfl
  | x :: xs => by
    have := fm_map v xs
    simp only [List.map_cons, List.filterMap_cons, id] at this ⊢
    rw [this]
theorem turns_map {P : D → Option D → Prop} (z : α → Option D) : ∀ xs : List α, (∀ x ∈ xs, P (e x) (z x)) → Turns P (xs.map e) (xs.map z)
  | [], _ => .nil
  | x :: xs, h => .cons (h x List.mem_cons_self) (turns_map z xs fun y hy => h y (List.mem_cons_of_mem _ hy))
/-- no test; each item's value is known -/
theorem g_map (v : α → β) (h : G (evalIt cl elt.pure it τ) (fun ds τ1 => ∃ xs : List α, ds = xs.map e ∧ (it.isSeq = true ∨ xs.length ≤ lim) ∧ (∀ x, ∃ τa, t.set (e x) (wipeT τ1 vs) = some τa ∧ G (evalG cl false elt τa) (fun o τc => o = .d (f (v x)) ∧ wipeT τc vs = wipeT τ1 vs) NoX) ∧ K (oL f (xs.map v)) τ1) E) : G (evalG cl b (.comp t vs it .nil elt r) τ) K E := by
  refine g_comp (G.imp h ?_ fun _ _ q => q)
  rintro ds τ1 ⟨xs, rfl, hl, ht, k⟩
  refine ⟨xs.map fun x => some (f (v x)), turns_map _ xs fun x _ => ?_, by rw [List.length_map]; exact hl, ?_⟩
  · obtain ⟨τa, h1, h2⟩ := ht x
    exact ⟨τa, h1, rfl, h2⟩
  · rw [fm_map]; exact k
/-- no test; some item's value may fail -/
theorem g_mapO {m : α → Option β} (h : G (evalIt cl elt.pure it τ) (fun ds τ1 => ∃ (xs : List α) (ys : List β), ds = xs.map e ∧ mapO m xs = some ys ∧ (it.isSeq = true ∨ xs.length ≤ lim) ∧ (∀ x y, m x = some y → ∃ τa, t.set (e x) (wipeT τ1 vs) = some τa ∧ G (evalG cl false elt τa) (fun o τc => o = .d (f y) ∧ wipeT τc vs = wipeT τ1 vs) NoX) ∧ K (oL f ys) τ1) E) : G (evalG cl b (.comp t vs it .nil elt r) τ) K E := by
  refine g_comp (G.imp h ?_ fun _ _ q => q)
  rintro ds τ1 ⟨xs, ys, rfl, hm, hl, ht, k⟩
  have key : ∀ (xs : List α) (ys : List β), mapO m xs = some ys → Turns (Turn cl t vs .nil elt τ1) (xs.map e) (ys.map fun y => some (f y)) := by
    intro xs
    induction xs with
    | nil => intro ys hy; cases hy; exact .nil
    | cons x xs ih =>
      intro ys hy
      rw [mapO] at hy
      refine bindE hy fun y h1 hy => bindE hy fun zs h2 hy => ?_
      cases hy
      obtain ⟨τa, h3, h4⟩ := ht x y h1
      exact .cons ⟨τa, h3, rfl, h4⟩ (ih zs h2)
  refine ⟨_, key xs ys hm, by rw [List.length_map]; exact hl, ?_⟩
  have := fm_map (f := f) (fun y : β => y) ys
  rw [this, List.map_id']
  exact k
theorem fm_filt (c : α → Bool) (v : α → β) : ∀ xs : List α, ((xs.map fun x => if c x = true then some (f (v x)) else none).filterMap id).map O.d = ((xs.filter c).map v).map fun a => O.d (f a)
  | [] => rfl
  | x :: xs => by
    have := fm_filt c v xs
    simp only [List.map_cons, List.filterMap_cons, List.filter_cons, id] at this ⊢
    cases h : c x with
    | true => simp only [if_pos, List.map_cons]; rw [this]
    | false => simp only [Bool.false_eq_true, if_false]; rw [this]
/-- a test -/
theorem g_filt (c : α → Bool) (v : α → β) (h : G (evalIt cl (cs.pure && elt.pure) it τ) (fun ds τ1 => ∃ xs : List α, ds = xs.map e ∧ (it.isSeq = true ∨ xs.length ≤ lim) ∧ (∀ x, ∃ τa, t.set (e x) (wipeT τ1 vs) = some τa ∧ G (evalTests cl cs τa) (fun k τb => k = c x ∧ τb = τa) NoX ∧ (c x = true → G (evalG cl false elt τa) (fun o τc => o = .d (f (v x)) ∧ wipeT τc vs = wipeT τ1 vs) NoX) ∧ wipeT τa vs = wipeT τ1 vs) ∧ K (oL f ((xs.filter c).map v)) τ1) E) : G (evalG cl b (.comp t vs it cs elt r) τ) K E := by
  refine g_comp (G.imp h ?_ fun _ _ q => q)
  rintro ds τ1 ⟨xs, rfl, hl, ht, k⟩
  refine ⟨xs.map fun x => if c x = true then some (f (v x)) else none, turns_map _ xs fun x _ => ?_, by rw [List.length_map]; exact hl, ?_⟩
  · obtain ⟨τa, h1, h2, h3, h4⟩ := ht x
    refine ⟨τa, h1, h2.imp ?_ fun _ _ q => q⟩
    rintro k τb ⟨rfl, rfl⟩
    cases hc : c x with
    | true => rw [if_pos rfl]; exact ⟨rfl, h3 hc⟩
    | false => rw [if_neg (by decide)]; exact ⟨rfl, h4⟩
  · rw [fm_filt]; exact k
/-- a test, and some part may fail -/
theorem g_compO {c : α → Option Bool} {m : α → Option β} (h : G (evalIt cl (cs.pure && elt.pure) it τ) (fun ds τ1 => ∃ (xs : List α) (ys : List β), ds = xs.map e ∧ compO c m xs = some ys ∧ (it.isSeq = true ∨ xs.length ≤ lim) ∧ (∀ x k, c x = some k → ∃ τa, t.set (e x) (wipeT τ1 vs) = some τa ∧ G (evalTests cl cs τa) (fun k' τb => k' = k ∧ τb = τa) NoX ∧ (k = true → ∀ y, m x = some y → G (evalG cl false elt τa) (fun o τc => o = .d (f y) ∧ wipeT τc vs = wipeT τ1 vs) NoX) ∧ wipeT τa vs = wipeT τ1 vs) ∧ K (oL f ys) τ1) E) : G (evalG cl b (.comp t vs it cs elt r) τ) K E := by
  refine g_comp (G.imp h ?_ fun _ _ q => q)
  rintro ds τ1 ⟨xs, ys, rfl, hm, hl, ht, k⟩
  have key : ∀ (xs : List α) (ys : List β), compO c m xs = some ys → ∃ zs, Turns (Turn cl t vs cs elt τ1) (xs.map e) zs ∧ (zs.filterMap id) = ys.map f := by
    intro xs
    induction xs with
    | nil => intro ys hy; cases hy; exact ⟨[], .nil, rfl⟩
    | cons x xs ih =>
      intro ys hy
      rw [compO] at hy
      refine bindE hy fun k' h1 hy => ?_
      obtain ⟨τa, h3, h4, h5, h6⟩ := ht x k' h1
      cases k' with
      | false =>
        obtain ⟨zs, h7, h8⟩ := ih ys (iteF (c := false) hy rfl)
        refine ⟨none :: zs, .cons ⟨τa, h3, h4.imp ?_ fun _ _ q => q⟩ h7, h8⟩
        rintro k τb ⟨rfl, rfl⟩
        exact ⟨rfl, h6⟩
      | true =>
        have hy := iteT hy rfl
        refine bindE hy fun y h7 hy => bindE hy fun ws h8 hy => ?_
        cases hy
        obtain ⟨zs, h9, h10⟩ := ih ws h8
        refine ⟨some (f y) :: zs, .cons ⟨τa, h3, h4.imp ?_ fun _ _ q => q⟩ h9, by rw [List.filterMap_cons]; simp [h10]⟩
        rintro k τb ⟨rfl, rfl⟩
        exact ⟨rfl, h5 rfl y h7⟩
  obtain ⟨zs, h1, h2⟩ := key xs ys hm
  refine ⟨zs, h1, by rw [List.length_map]; exact hl, ?_⟩
  rw [h2, map_dd]
  exact k
end
end
end Mir
set_option Elab.async false
set_option linter.all false
set_option maxRecDepth 100000
set_option maxHeartbeats 4000000
/-! Mir, part Zd: blocks that change things, calls, statements. -/
namespace Mir
open PySem L2 PySem.W PyProof.Rows

section
variable {α β γ σ ρ : Type} {cl : Cl} {b : Bool} {τ τ' : Tau} {E : Xn → Tau → Prop} {K : O → Tau → Prop}
/-- a block whose parts change what stands -/
theorem g_mapS {t : T} {vs : List Nat} {it : Mir.It} {elt : Mir.E} {r : Bool} {e : α → D} {f : β → D} (m : σ → α → Option (β × σ)) (J : σ → Tau → Prop)
    (h : G (evalIt cl elt.pure it τ) (fun ds τ1 => ∃ (xs : List α) (s0 : σ) (q : List β × σ), ds = xs.map e ∧ mapS m xs s0 = some q ∧ (it.isSeq = true ∨ xs.length ≤ lim) ∧ J s0 (wipeT τ1 vs) ∧ (∀ s x p τ, J s τ → m s x = some p → ∃ τa, t.set (e x) (wipeT τ vs) = some τa ∧ G (evalG cl false elt τa) (fun o τc => o = .d (f p.1) ∧ J p.2 τc) NoX) ∧ ∀ τ2, J q.2 τ2 → K (oL f q.1) (backT τ1 τ2 vs)) E) : G (evalG cl b (.comp t vs it .nil elt r) τ) K E := by
  rw [evalG]
  have hp : (Es.nil.pure && elt.pure) = elt.pure := rfl
  rw [hp]
  cases he : evalIt cl elt.pure it τ with
  | st => rw [he] at h; exact h.elim
  | ex x τ1 => rw [he] at h; exact h
  | ok ds τ1 =>
    rw [he] at h
    obtain ⟨xs, s0, q, rfl, hm, h2, h3, ht, k⟩ := h
    have hl : (it.isSeq || decide ((xs.map e).length ≤ lim)) = true := by
      rw [List.length_map]
      rcases h2 with h2 | h2
      · rw [h2]; rfl
      · rw [decide_eq_true h2, Bool.or_true]
    have key : ∀ (xs : List α) (s0 : σ) (q : List β × σ) (τ : Tau), mapS m xs s0 = some q → J s0 τ → ∃ τ', compL (fun x τ => t.set x (wipeT τ vs)) (fun τ => (evalTests cl .nil τ).andThen fun c τ => if c then (evalG cl false elt τ).andThen fun y τ => .ok (some y) τ else .ok none τ) (xs.map e) τ = .ok (q.1.map fun a => .d (f a)) τ' ∧ J q.2 τ' := by
      intro xs
      induction xs with
      | nil => intro s0 q τ hq hj; cases hq; exact ⟨τ, rfl, hj⟩
      | cons x xs ih =>
        intro s0 q τ hq hj
        rw [mapS] at hq
        refine bindE hq fun p h1 hq => bindE hq fun q' h2 hq => ?_
        cases hq
        obtain ⟨τa, h3, h4⟩ := ht s0 x p τ hj h1
        cases e2 : evalG cl false elt τa with
        | st => rw [e2] at h4; exact h4.elim
        | ex x τ => rw [e2] at h4; exact h4.elim
        | ok o τc =>
          rw [e2] at h4
          obtain ⟨rfl, h5⟩ := h4
          obtain ⟨τ', h6, h7⟩ := ih p.2 q' τc h2 h5
          refine ⟨τ', ?_, h7⟩
          rw [List.map_cons, compL, h3]
          show ((evalG cl false elt τa).andThen fun y τ => R.ok (some y) τ).andThen _ = _
          rw [e2]
          show (compL _ _ (xs.map e) τc).andThen _ = _
          rw [h6]
          rfl
    obtain ⟨τ', h4, h5⟩ := key xs s0 q _ hm h3
    show G (restore r τ (if (it.isSeq || decide ((xs.map e).length ≤ lim)) = false then .st else _)) K E
    rw [hl, if_neg (by decide), h4]
    show G (restore r τ (.ok (.l _) (backT τ1 τ' vs))) K E
    rw [restore_l]
    exact k τ' h5
/-! calls of defs -/
theorem ga_nil {K : List O → Tau → Prop} (k : K [] τ) : G (evalAs cl .nil τ) K E := k
theorem ga_cons {K : List O → Tau → Prop} {e : Mir.E} {es : Es} (hi : e.isIo = none) (h : G (evalG cl false e τ) (fun o τ1 => ∃ d, o.data = d ∧ G (evalAs cl es τ1) (fun os τ2 => K (.d d :: os) τ2) E) E) : G (evalAs cl (.cons e es) τ) K E := by
  rw [evalAs, hi]
  refine G.bind (h.imp ?_ fun _ _ q => q)
  rintro o τ1 ⟨d, rfl, h2⟩
  exact G.bind h2
theorem ga_io {K : List O → Tau → Prop} {i : Nat} {es : Es} {o1 : O} (h1 : getO τ i = some o1) (h : G (evalAs cl es τ) (fun os τ1 => ∃ o, getO τ1 i = some o ∧ K (o :: os) τ1) E) : G (evalAs cl (.cons (.io i) es) τ) K E := by
  rw [evalAs]
  show G (match getO τ i with | some _ => _ | none => _) K E
  rw [h1]
  refine G.bind (h.imp ?_ fun _ _ q => q)
  rintro os τ1 ⟨o, h2, k⟩
  show G (match getO τ1 i with | some _ => _ | none => _) K E
  rw [h2]
  exact k
theorem restore_d {r : Bool} {τ0 τ : Tau} {d : D} (h : r = true) (n : noMut d = true) : restore r τ0 (.ok (.d d) τ) = .ok (.d d) τ0 := by
  subst h
  show (if (true && noMut d) = true then _ else _) = _
  rw [n]
  rfl
/-- nothing is handed over to be changed; the answer holds no list -/
theorem g_call {f : Str} {es : Es} (hf : es.iop = cl.io f) (h1 : es.ios = []) (h : G (evalAs cl es τ) (fun os _ => ∃ d, cl.call f os = .ok (.d d) [] ∧ noMut d = true ∧ K (.d d) τ) E) : G (evalG cl b (.call f true es) τ) K E := by
  rw [ev_call]
  cases e : evalAs cl es τ with
  | st => rw [e] at h; exact h.elim
  | ex x τ1 => rw [e] at h; exact h
  | ok os τ1 =>
    rw [e] at h
    obtain ⟨d, h, n, k⟩ := h
    show G (restore true τ (if es.iop = cl.io f then ofCR τ1 es.ios (cl.call f os) else .st)) K E
    rw [if_pos hf, h, h1]
    show G (restore true τ (.ok (.d d) τ1)) K E
    rw [restore_d rfl n]
    exact k
theorem restore_ok {r : Bool} {τ0 τ : Tau} {o : O} (h : r = false ∨ o.isD = false) : restore r τ0 (.ok o τ) = .ok o τ := by
  rcases h with h | h
  · rw [h, restore_f]
  · cases o with
    | d x => cases h
    | l os => rfl
    | m os => rfl
/-- an object of one's own is handed back -/
theorem g_callL {f : Str} {es : Es} {r : Bool} (hf : es.iop = cl.io f) (h1 : es.ios = []) (h : G (evalAs cl es τ) (fun os τ1 => ∃ o, cl.call f os = .ok o [] ∧ (r = false ∨ o.isD = false) ∧ K o τ1) E) : G (evalG cl b (.call f r es) τ) K E := by
  rw [ev_call]
  cases e : evalAs cl es τ with
  | st => rw [e] at h; exact h.elim
  | ex x τ1 => rw [e] at h; exact h
  | ok os τ1 =>
    rw [e] at h
    obtain ⟨o, h, hr, k⟩ := h
    show G (restore r τ (if es.iop = cl.io f then ofCR τ1 es.ios (cl.call f os) else .st)) K E
    rw [if_pos hf, h, h1]
    show G (restore r τ (.ok o τ1)) K E
    rw [restore_ok hr]
    exact k
/-- things are handed over to be changed -/
theorem g_callM {f : Str} {es : Es} (hf : es.iop = cl.io f) (h : G (evalAs cl es τ) (fun os τ1 => ∃ o outs τ2, cl.call f os = .ok o outs ∧ setOuts τ1 es.ios outs = some τ2 ∧ K o τ2) E) : G (evalG cl b (.call f false es) τ) K E := by
  rw [ev_call, restore_f]
  refine G.bind (h.imp ?_ fun _ _ q => q)
  rintro os τ1 ⟨o, outs, τ2, h1, h2, k⟩
  rw [if_pos hf, h1]
  show G (match setOuts τ1 es.ios outs with | some τ' => R.ok o τ' | none => .st) K E
  rw [h2]
  exact k
/-! lists that grow -/
theorem g_app {i : Nat} {e : Mir.E} {f : α → D} {xs : List α} (h0 : getO τ i = some (oL f xs)) (h : G (evalG cl false e τ) (fun o τ1 => ∃ a ys, o = .d (f a) ∧ getO τ1 i = some (oL f xs) ∧ appO xs a = some ys ∧ K (.d .none) (τ1.set i (some (oL f ys)))) E) : G (evalG cl b (.mut "append" i (.cons e .nil)) τ) K E := by
  rw [ev_mut, h0]
  show G ((evalOs cl false (.cons e .nil) τ).andThen _) K E
  refine G.bind (go_cons (h.imp ?_ fun _ _ q => q))
  rintro o τ1 ⟨a, ys, rfl, h1, ha, k⟩
  refine go_nil ?_
  rw [h1]
  show G (match mutF "append" (xs.map fun a => O.d (f a)) [.d (f a)] with | some (x, xs') => R.ok (.d x) (τ1.set i (some (.l xs'))) | none => .st) K E
  rw [mut_append]
  unfold appO at ha
  split at ha
  · rename_i hl
    cases ha
    rw [if_pos (by rw [List.length_map]; exact hl)]
    have : oL f (xs ++ [a]) = .l ((xs.map fun a => O.d (f a)) ++ [.d (f a)]) := by unfold oL; rw [List.map_append]; rfl
    rw [this] at k
    exact k
  · cases ha
theorem g_ext {i : Nat} {e : Mir.E} {f : α → D} {xs : List α} (h0 : getO τ i = some (oL f xs)) (h : G (evalG cl false e τ) (fun o τ1 => ∃ zs ys, View o (eL f zs) ∧ getO τ1 i = some (oL f xs) ∧ extO xs zs = some ys ∧ K (.d .none) (τ1.set i (some (oL f ys)))) E) : G (evalG cl b (.mut "extend" i (.cons e .nil)) τ) K E := by
  rw [ev_mut, h0]
  show G ((evalOs cl false (.cons e .nil) τ).andThen _) K E
  refine G.bind (go_cons (h.imp ?_ fun _ _ q => q))
  rintro o τ1 ⟨zs, ys, vo, h1, ha, k⟩
  refine go_nil ?_
  rw [h1]
  show G (match mutF "extend" (xs.map fun a => O.d (f a)) [o] with | some (x, xs') => R.ok (.d x) (τ1.set i (some (.l xs'))) | none => .st) K E
  unfold extO at ha
  split at ha
  · rename_i hl
    cases ha
    have e1 : mutF "extend" (xs.map fun a => O.d (f a)) [o] = some (.none, (xs.map fun a => O.d (f a)) ++ (zs.map f).map .d) := by
      unfold mutF
      dsimp only
      rw [if_neg (by decide), if_pos rfl, vo.1, vo.2]
      show (if (xs.map fun a => O.d (f a)).length + (zs.map f).length < lim then some (PyData.none, (xs.map fun a => O.d (f a)) ++ (zs.map f).map .d) else none) = _
      rw [if_pos (by rw [List.length_map, List.length_map]; exact hl)]
    rw [e1]
    have : oL f (xs ++ zs) = .l ((xs.map fun a => O.d (f a)) ++ (zs.map f).map .d) := by unfold oL; rw [List.map_append, map_dd]
    rw [this] at k
    exact k
  · cases ha
/-! ### statements -/
def SW (x : F) (Q : F → Prop) : Prop := Q x
def Nx (J : Tau → Prop) : F → Prop
  | .nx τ => J τ
  | _ => False
def Lp (J : Tau → Prop) : F → Prop
  | .nx τ => J τ
  | .ct τ => J τ
  | _ => False
/-- a def's end -/
def Fn (io : List Nat) (o : O) (outs : List O) : F → Prop
  | .nx τ => .d .none = o ∧ getOs τ io = some outs
  | .rt o' τ => o' = o ∧ getOs τ io = some outs
  | _ => False
variable {Q : F → Prop} {ss : List Mir.S}
theorem seq_toF {x : R α} {f : α → Tau → F} {k : Tau → F} (h : G x (fun a τ => Q ((f a τ).seq k)) (fun x τ => Q (.ex x τ))) : Q ((x.toF f).seq k) := by
  cases x with
  | ok a τ => exact h
  | ex e τ => exact h
  | st => exact h.elim
abbrev X (Q : F → Prop) : Xn → Tau → Prop := fun x τ => Q (.ex x τ)
theorem s_nil (k : Q (.nx τ)) : SW (evalSs cl [] τ) Q := k
theorem s_cons {s : Mir.S} {f : F} (h : evalS cl s τ = f) (k : Q (f.seq fun τ => evalSs cl ss τ)) : SW (evalSs cl (s :: ss) τ) Q := by
  unfold SW
  rw [evalSs, h]
  exact k
theorem s_pass (k : SW (evalSs cl ss τ) Q) : SW (evalSs cl (.pass :: ss) τ) Q := s_cons es_pass k
theorem s_brk (k : Q (.bk τ)) : SW (evalSs cl (.brk :: ss) τ) Q := s_cons es_brk k
theorem s_cont (k : Q (.ct τ)) : SW (evalSs cl (.cont :: ss) τ) Q := s_cons es_cont k
theorem s_retN (k : Q (.rt (.d .none) τ)) : SW (evalSs cl (.retN :: ss) τ) Q := s_cons es_retN k
theorem s_retl {i : Nat} {o : O} (h : getO τ i = some o) (k : Q (.rt o (τ.set i none))) : SW (evalSs cl (.ret (.loc i) :: ss) τ) Q := by
  refine s_cons (f := .rt o (τ.set i none)) ?_ k
  rw [es_retL, h]
def isLoc : Mir.E → Bool
  | .loc _ => true
  | _ => false
theorem s_ret {e : Mir.E} (hn : isLoc e = false) (h : G (evalG cl false e τ) (fun o τ1 => Q (.rt o τ1)) (X Q)) : SW (evalSs cl (.ret e :: ss) τ) Q := by
  refine s_cons (es_ret fun i z => by subst z; cases hn) ?_
  exact seq_toF h
theorem s_expr {e : Mir.E} (h : G (evalG cl false e τ) (fun _ τ1 => SW (evalSs cl ss τ1) Q) (X Q)) : SW (evalSs cl (.expr e :: ss) τ) Q := s_cons es_expr (seq_toF h)
theorem s_asg {i : Nat} {e : Mir.E} (h : G (evalG cl false e τ) (fun o τ1 => ∃ o', o = o' ∧ Nat.blt i τ1.length = true ∧ ∃ τ2, τ1.set i (some o') = τ2 ∧ SW (evalSs cl ss τ2) Q) (X Q)) : SW (evalSs cl (.asg (.nm i) e :: ss) τ) Q := by
  refine s_cons es_asg (seq_toF (G.imp h ?_ fun _ _ q => q))
  rintro o τ1 ⟨o', rfl, hl, τ2, rfl, k⟩
  rw [if_pos (by simpa [Nat.blt_eq] using hl)]
  exact k
theorem s_asgT {ts : Ts} {e : Mir.E} (h : G (evalG cl false e τ) (fun o τ1 => ∃ τ2, (T.tup ts).set o.data τ1 = some τ2 ∧ SW (evalSs cl ss τ2) Q) (X Q)) : SW (evalSs cl (.asg (.tup ts) e :: ss) τ) Q := by
  refine s_cons es_asgT (seq_toF (G.imp h ?_ fun _ _ q => q))
  rintro o τ1 ⟨τ2, h2, k⟩
  rw [h2]
  exact k
theorem s_par {is : List Nat} {es : Es} (h : G (evalOs cl false es τ) (fun os τ1 => ∃ os', os = os' ∧ ∃ τ2, setAll τ1 is os' = some τ2 ∧ SW (evalSs cl ss τ2) Q) (X Q)) : SW (evalSs cl (.par is es :: ss) τ) Q := by
  refine s_cons es_par (seq_toF (G.imp h ?_ fun _ _ q => q))
  rintro o τ1 ⟨os', rfl, τ2, h2, k⟩
  rw [h2]
  exact k
theorem s_aug {i : Nat} {op : Operator} {e : Mir.E} {x : D} (h0 : getO τ i = some (.d x)) (h : G (evalG cl true e τ) (fun o τ1 => ∃ z τ2, augF op x o.data = some z ∧ τ1.set i (some (.d z)) = τ2 ∧ SW (evalSs cl ss τ2) Q) (X Q)) : SW (evalSs cl (.aug i op e :: ss) τ) Q := by
  refine s_cons rfl ?_
  rw [es_aug, h0]
  refine seq_toF (G.imp h ?_ fun _ _ q => q)
  rintro o τ1 ⟨z, τ2, h2, rfl, k⟩
  show Q (F.seq (match augF op x o.data with | some z => .nx (τ1.set i (some (.d z))) | none => .st) _)
  rw [h2]
  exact k
theorem s_if {c : Mir.E} {a bb : List Mir.S} (h : GB (evalG cl true c τ) (fun x τ1 => (x = true → SW (evalSs cl (a ++ ss) τ1) Q) ∧ (x = false → SW (evalSs cl (bb ++ ss) τ1) Q)) (X Q)) : SW (evalSs cl (.ifs c a bb :: ss) τ) Q := by
  have key : ∀ (a : List Mir.S) (τ : Tau), evalSs cl (a ++ ss) τ = (evalSs cl a τ).seq fun τ => evalSs cl ss τ := by
    intro a
    induction a with
    | nil => intro τ; rfl
    | cons s a ih =>
      intro τ
      rw [List.cons_append, evalSs, evalSs]
      cases evalS cl s τ with
      | nx τ => exact ih τ
      | _ => rfl
  refine s_cons es_ifs (seq_toF (G.imp (GB.bool h) ?_ fun _ _ q => q))
  rintro x τ1 ⟨h1, h2⟩
  cases x with
  | true =>
    have := h1 rfl
    unfold SW at this
    rw [key] at this
    exact this
  | false =>
    have := h2 rfl
    unfold SW at this
    rw [key] at this
    exact this
theorem s_put {i : Nat} {kx e : Mir.E} (h : G (evalG cl false e τ) (fun y τ1 => ∃ os, getO τ1 i = some (.l os) ∧ G (evalG cl true kx τ1) (fun x τ2 => ∃ os2 os3, getO τ2 i = some (.l os2) ∧ putO os2 x.data y = some os3 ∧ ∃ τ3, τ2.set i (some (.l os3)) = τ3 ∧ SW (evalSs cl ss τ3) Q) (X Q)) (X Q)) : SW (evalSs cl (.put i kx e :: ss) τ) Q := by
  refine s_cons es_put (seq_toF (G.imp h ?_ fun _ _ q => q))
  rintro y τ1 ⟨os, h1, h2⟩
  rw [h1]
  refine seq_toF (G.imp h2 ?_ fun _ _ q => q)
  rintro x τ2 ⟨os2, os3, h3, h4, τ3, rfl, k⟩
  rw [h3]
  show Q (F.seq (match putO os2 x.data y with | some os' => .nx (τ2.set i (some (.l os'))) | none => .st) _)
  rw [h4]
  exact k
theorem put_l {f : α → D} {xs ys : List α} {i : Int} {a : α} (h : putL xs i a = some ys) : putO (xs.map fun a => O.d (f a)) (eI i) (.d (f a)) = some (ys.map fun a => O.d (f a)) := by
  unfold putL at h
  show (ixN (xs.map fun a => O.d (f a)).length i).map (fun j => (xs.map fun a => O.d (f a)).set j (.d (f a))) = _
  rw [List.length_map]
  cases e : ixN xs.length i with
  | none => rw [e] at h; cases h
  | some j =>
    rw [e] at h
    cases h
    show some ((xs.map fun a => O.d (f a)).set j (.d (f a))) = _
    rw [List.map_set]
/-- both ways go on; what they leave -/
theorem s_ifj {c : Mir.E} {a bb : List Mir.S} (h : GB (evalG cl true c τ) (fun x τ1 => ∃ J : Tau → Prop, (x = true → SW (evalSs cl (a ++ []) τ1) (Nx J)) ∧ (x = false → SW (evalSs cl (bb ++ []) τ1) (Nx J)) ∧ ∀ τ2, J τ2 → SW (evalSs cl ss τ2) Q) (X Q)) : SW (evalSs cl (.ifs c a bb :: ss) τ) Q := by
  refine s_cons es_ifs (seq_toF (G.imp (GB.bool h) ?_ fun _ _ q => q))
  rintro x τ1 ⟨J, h1, h2, h3⟩
  have key : ∀ f : F, SW f (Nx J) → Q (f.seq fun τ => evalSs cl ss τ) := by
    intro f hf
    cases f with
    | nx τ => exact h3 τ hf
    | _ => exact hf.elim
  cases x with
  | true =>
    have := h1 rfl
    rw [List.append_nil] at this
    exact key _ this
  | false =>
    have := h2 rfl
    rw [List.append_nil] at this
    exact key _ this
/-- a part by what it leaves -/
theorem s_join {s : Mir.S} (J : Tau → Prop) (h : SW (evalSs cl [s] τ) (Nx J)) (k : ∀ τ2, J τ2 → SW (evalSs cl ss τ2) Q) : SW (evalSs cl (s :: ss) τ) Q := by
  unfold SW at h
  rw [evalSs] at h
  refine s_cons rfl ?_
  cases e : evalS cl s τ with
  | nx τ2 => rw [e] at h; exact k τ2 h
  | _ => rw [e] at h; exact h.elim
/-! loops -/
theorem forO_run {t : T} {bd : List Mir.S} {e : α → D} {body : σ → α → Option σ} (J : σ → Tau → Prop) (ht : ∀ s x s' τ2, J s τ2 → body s x = some s' → ∃ τ3, t.set (e x) τ2 = some τ3 ∧ SW (evalSs cl bd τ3) (Lp (J s'))) : ∀ (xs : List α) (s0 s1 : σ) (τ : Tau), forO body xs s0 = some s1 → J s0 τ → ∃ τ', forL t.set (fun τ => evalSs cl bd τ) (xs.map e) τ = .nx τ' ∧ J s1 τ'
  | [], s0, s1, τ, h, j => by cases h; exact ⟨τ, rfl, j⟩
  | x :: xs, s0, s1, τ, h, j => by
    rw [forO] at h
    refine bindE h fun s h1 h2 => ?_
    obtain ⟨τ3, h3, h4⟩ := ht s0 x s τ j h1
    rw [List.map_cons, forL, h3]
    unfold SW at h4
    show ∃ τ', (evalSs cl bd τ3).turn (fun τ2 => forL t.set (fun τ => evalSs cl bd τ) (xs.map e) τ2) = .nx τ' ∧ J s1 τ'
    cases e1 : evalSs cl bd τ3 with
    | nx τ4 => rw [e1] at h4; exact forO_run J ht xs s s1 τ4 h2 h4
    | ct τ4 => rw [e1] at h4; exact forO_run J ht xs s s1 τ4 h2 h4
    | _ => rw [e1] at h4; exact h4.elim
theorem s_for {t : T} {it : Mir.It} {bd : List Mir.S} {e : α → D} {body : σ → α → Option σ} (J : σ → Tau → Prop)
    (h : G (evalIt cl false it τ) (fun ds τ1 => ∃ (xs : List α) (s0 s1 : σ), ds = xs.map e ∧ forO body xs s0 = some s1 ∧ J s0 τ1 ∧ (∀ s x s' τ2, J s τ2 → body s x = some s' → ∃ τ3, t.set (e x) τ2 = some τ3 ∧ SW (evalSs cl bd τ3) (Lp (J s'))) ∧ ∀ τ2, J s1 τ2 → SW (evalSs cl ss τ2) Q) (X Q)) : SW (evalSs cl (.fors t it bd :: ss) τ) Q := by
  refine s_cons rfl ?_
  rw [evalS]
  refine seq_toF (G.imp h ?_ fun _ _ q => q)
  rintro ds τ1 ⟨xs, s0, s1, rfl, h1, h2, h3, h4⟩
  obtain ⟨τ', h5, h6⟩ := forO_run J h3 xs s0 s1 τ1 h1 h2
  rw [h5]
  exact h4 τ' h6
/-- a turn that may leave the loop, or the def -/
def Lc (J : σ → Tau → Prop) (Rr : ρ → F → Prop) : Ctl σ ρ → F → Prop
  | .go s, .nx τ => J s τ
  | .go s, .ct τ => J s τ
  | .brk s, .bk τ => J s τ
  | .ret r, f => Rr r f ∧ (∀ τ, f ≠ .nx τ) ∧ (∀ τ, f ≠ .ct τ) ∧ ∀ τ, f ≠ .bk τ
  | _, _ => False
theorem turn_ret {f : F} {k : Tau → F} (h : (∀ τ, f ≠ .nx τ) ∧ (∀ τ, f ≠ .ct τ) ∧ ∀ τ, f ≠ .bk τ) : f.turn k = f := by
  cases f with
  | nx τ => exact (h.1 τ rfl).elim
  | ct τ => exact (h.2.1 τ rfl).elim
  | bk τ => exact (h.2.2 τ rfl).elim
  | _ => rfl
theorem forC_run {t : T} {bd : List Mir.S} {e : α → D} {body : σ → α → Option (Ctl σ ρ)} (J : σ → Tau → Prop) (Rr : ρ → F → Prop) (ht : ∀ s x c τ2, J s τ2 → body s x = some c → ∃ τ3, t.set (e x) τ2 = some τ3 ∧ SW (evalSs cl bd τ3) (Lc J Rr c)) : ∀ (xs : List α) (s0 : σ) (c : Ctl σ ρ) (τ : Tau), forC body xs s0 = some c → J s0 τ → match c with
      | .go s1 => ∃ τ', forL t.set (fun τ => evalSs cl bd τ) (xs.map e) τ = .nx τ' ∧ J s1 τ'
      | .brk _ => False
      | .ret r => Rr r (forL t.set (fun τ => evalSs cl bd τ) (xs.map e) τ) ∧ ∀ τ', forL t.set (fun τ => evalSs cl bd τ) (xs.map e) τ ≠ .nx τ'
  | [], s0, c, τ, h, j => by cases h; exact ⟨τ, rfl, j⟩
  | x :: xs, s0, c, τ, h, j => by
    rw [forC] at h
    refine bindE h fun c1 h1 h2 => ?_
    obtain ⟨τ3, h3, h4⟩ := ht s0 x c1 τ j h1
    have e0 : forL t.set (fun τ => evalSs cl bd τ) ((x :: xs).map e) τ = (evalSs cl bd τ3).turn (fun τ2 => forL t.set (fun τ => evalSs cl bd τ) (xs.map e) τ2) := by
      rw [List.map_cons, forL, h3]
    rw [e0]
    unfold SW at h4
    cases c1 with
    | go s =>
      cases e1 : evalSs cl bd τ3 with
      | nx τ4 => rw [e1] at h4; exact forC_run J Rr ht xs s c τ4 h2 h4
      | ct τ4 => rw [e1] at h4; exact forC_run J Rr ht xs s c τ4 h2 h4
      | _ => rw [e1] at h4; exact h4.elim
    | brk s =>
      cases e1 : evalSs cl bd τ3 with
      | bk τ4 => rw [e1] at h4; cases h2; exact ⟨τ4, rfl, h4⟩
      | _ => rw [e1] at h4; exact h4.elim
    | ret r =>
      obtain ⟨h5, h6⟩ := h4
      cases h2
      rw [turn_ret h6]
      exact ⟨h5, h6.1⟩
/-- Rr: what the def's end is -/
theorem s_forC {t : T} {it : Mir.It} {bd : List Mir.S} {e : α → D} {body : σ → α → Option (Ctl σ ρ)} (J : σ → Tau → Prop) (Rr : ρ → F → Prop)
    (h : G (evalIt cl false it τ) (fun ds τ1 => ∃ (xs : List α) (s0 : σ) (c : Ctl σ ρ), ds = xs.map e ∧ forC body xs s0 = some c ∧ J s0 τ1 ∧ (∀ s x c τ2, J s τ2 → body s x = some c → ∃ τ3, t.set (e x) τ2 = some τ3 ∧ SW (evalSs cl bd τ3) (Lc J Rr c)) ∧ (∀ s1, c = .go s1 → ∀ τ2, J s1 τ2 → SW (evalSs cl ss τ2) Q) ∧ ∀ r f, c = .ret r → Rr r f → Q f) (X Q)) : SW (evalSs cl (.fors t it bd :: ss) τ) Q := by
  refine s_cons rfl ?_
  rw [evalS]
  refine seq_toF (G.imp h ?_ fun _ _ q => q)
  rintro ds τ1 ⟨xs, s0, c, rfl, h1, h2, h3, h4, h5⟩
  have h6 := forC_run J Rr h3 xs s0 c τ1 h1 h2
  cases c with
  | go s1 =>
    obtain ⟨τ', h7, h8⟩ := h6
    rw [h7]
    exact h4 s1 rfl τ' h8
  | brk s => exact h6.elim
  | ret r =>
    obtain ⟨h7, h8⟩ := h6
    have : ∀ f : F, (∀ τ', f ≠ .nx τ') → f.seq (fun τ => evalSs cl ss τ) = f := by
      intro f hf
      cases f with
      | nx τ => exact (hf τ rfl).elim
      | _ => rfl
    rw [this _ h8]
    exact h5 r _ rfl h7
theorem whO_run {c : Mir.E} {bd : List Mir.S} {cc : σ → Option Bool} {body : σ → Option σ} (J : σ → Tau → Prop) (hc : ∀ s k τ, J s τ → cc s = some k → G (evalG cl true c τ) (Is (.d (eB k)) τ) NoX) (ht : ∀ s s' τ, J s τ → cc s = some true → body s = some s' → SW (evalSs cl bd τ) (Lp (J s'))) : ∀ (n : Nat) (s0 s1 : σ) (τ : Tau), whO cc body n s0 = some s1 → J s0 τ → ∃ τ', whileL (fun τ => asB (evalG cl true c τ)) (fun τ => evalSs cl bd τ) n τ = .nx τ' ∧ J s1 τ'
  | 0, s0, s1, τ, h, j => by cases h
  | n + 1, s0, s1, τ, h, j => by
    rw [whO] at h
    refine bindE h fun k h1 h2 => ?_
    have h3 := (hc s0 k τ j h1).at
    rw [whileL, h3]
    cases k with
    | false =>
      have h2 := iteF (c := false) h2 rfl
      cases h2
      exact ⟨τ, rfl, j⟩
    | true =>
      have h2 := iteT h2 rfl
      refine bindE h2 fun s h4 h5 => ?_
      have h6 := ht s0 s τ j h1 h4
      unfold SW at h6
      show ∃ τ', (evalSs cl bd τ).turn (fun τ2 => whileL _ _ n τ2) = .nx τ' ∧ J s1 τ'
      cases e1 : evalSs cl bd τ with
      | nx τ4 => rw [e1] at h6; exact whO_run J hc ht n s s1 τ4 h5 h6
      | ct τ4 => rw [e1] at h6; exact whO_run J hc ht n s s1 τ4 h5 h6
      | _ => rw [e1] at h6; exact h6.elim
theorem s_while {c : Mir.E} {bd : List Mir.S} {cc : σ → Option Bool} {body : σ → Option σ} (J : σ → Tau → Prop) (s0 s1 : σ) (h : whO cc body wfuel s0 = some s1) (j : J s0 τ) (hc : ∀ s k τ, J s τ → cc s = some k → G (evalG cl true c τ) (Is (.d (eB k)) τ) NoX) (ht : ∀ s s' τ, J s τ → cc s = some true → body s = some s' → SW (evalSs cl bd τ) (Lp (J s'))) (k : ∀ τ2, J s1 τ2 → SW (evalSs cl ss τ2) Q) : SW (evalSs cl (.whiles c bd :: ss) τ) Q := by
  refine s_cons rfl ?_
  rw [evalS]
  obtain ⟨τ', h1, h2⟩ := whO_run J hc ht wfuel s0 s1 τ h j
  rw [h1]
  exact k τ' h2
theorem whC_run {c : Mir.E} {bd : List Mir.S} {cc : σ → Option Bool} {body : σ → Option (Ctl σ ρ)} (J : σ → Tau → Prop) (Rr : ρ → F → Prop) (hc : ∀ s k τ, J s τ → cc s = some k → G (evalG cl true c τ) (Is (.d (eB k)) τ) NoX) (ht : ∀ s r τ, J s τ → cc s = some true → body s = some r → SW (evalSs cl bd τ) (Lc J Rr r)) : ∀ (n : Nat) (s0 : σ) (r : Ctl σ ρ) (τ : Tau), whC cc body n s0 = some r → J s0 τ → match r with
      | .go s1 => ∃ τ', whileL (fun τ => asB (evalG cl true c τ)) (fun τ => evalSs cl bd τ) n τ = .nx τ' ∧ J s1 τ'
      | .brk _ => False
      | .ret r => Rr r (whileL (fun τ => asB (evalG cl true c τ)) (fun τ => evalSs cl bd τ) n τ) ∧ ∀ τ', whileL (fun τ => asB (evalG cl true c τ)) (fun τ => evalSs cl bd τ) n τ ≠ .nx τ'
  | 0, s0, r, τ, h, j => by cases h
  | n + 1, s0, r, τ, h, j => by
    rw [whC] at h
    refine bindE h fun k h1 h2 => ?_
    have h3 := (hc s0 k τ j h1).at
    cases k with
    | false =>
      have h2 := iteF (c := false) h2 rfl
      cases h2
      exact ⟨τ, by rw [whileL, h3]; rfl, j⟩
    | true =>
      have h2 := iteT h2 rfl
      refine bindE h2 fun c1 h4 h5 => ?_
      have h6 := ht s0 c1 τ j h1 h4
      unfold SW at h6
      have e0 : whileL (fun τ => asB (evalG cl true c τ)) (fun τ => evalSs cl bd τ) (n + 1) τ = (evalSs cl bd τ).turn (fun τ2 => whileL (fun τ => asB (evalG cl true c τ)) (fun τ => evalSs cl bd τ) n τ2) := by
        rw [whileL, h3]
        rfl
      rw [e0]
      cases c1 with
      | go s =>
        cases e1 : evalSs cl bd τ with
        | nx τ4 => rw [e1] at h6; exact whC_run J Rr hc ht n s r τ4 h5 h6
        | ct τ4 => rw [e1] at h6; exact whC_run J Rr hc ht n s r τ4 h5 h6
        | _ => rw [e1] at h6; exact h6.elim
      | brk s =>
        cases e1 : evalSs cl bd τ with
        | bk τ4 => rw [e1] at h6; cases h5; exact ⟨τ4, rfl, h6⟩
        | _ => rw [e1] at h6; exact h6.elim
      | ret r =>
        obtain ⟨h7, h8⟩ := h6
        cases h5
        rw [turn_ret h8]
        exact ⟨h7, h8.1⟩
theorem s_whileC {c : Mir.E} {bd : List Mir.S} {cc : σ → Option Bool} {body : σ → Option (Ctl σ ρ)} (J : σ → Tau → Prop) (Rr : ρ → F → Prop) (s0 : σ) (r : Ctl σ ρ) (h : whC cc body wfuel s0 = some r) (j : J s0 τ) (hc : ∀ s k τ, J s τ → cc s = some k → G (evalG cl true c τ) (Is (.d (eB k)) τ) NoX) (ht : ∀ s r τ, J s τ → cc s = some true → body s = some r → SW (evalSs cl bd τ) (Lc J Rr r)) (k : ∀ s1, r = .go s1 → ∀ τ2, J s1 τ2 → SW (evalSs cl ss τ2) Q) (kr : ∀ r' f, r = .ret r' → Rr r' f → Q f) : SW (evalSs cl (.whiles c bd :: ss) τ) Q := by
  refine s_cons rfl ?_
  rw [evalS]
  have h6 := whC_run J Rr hc ht wfuel s0 r τ h j
  cases r with
  | go s1 =>
    obtain ⟨τ', h7, h8⟩ := h6
    rw [h7]
    exact k s1 rfl τ' h8
  | brk s => exact h6.elim
  | ret r =>
    obtain ⟨h7, h8⟩ := h6
    have : ∀ f : F, (∀ τ', f ≠ .nx τ') → f.seq (fun τ => evalSs cl ss τ) = f := by
      intro f hf
      cases f with
      | nx τ => exact (hf τ rfl).elim
      | _ => rfl
    rw [this _ h8]
    exact kr r _ rfl h7
/-- a def -/
theorem r_fn {P : Prog} {n : Nat} {f : Str} {d : Def} {args : List O} {o : O} {outs : List O} (τ0 : Tau) (bd : List Mir.S) (h : P.fn f = some d) (hn : args.length = d.np) (h0 : args.map some ++ List.replicate (d.n - d.np) none = τ0) (hb : d.body = bd) (h1 : SW (evalSs ⟨evalCall P n, P.io, P.con⟩ bd τ0) (Fn d.io o outs)) : evalCall P (n + 1) f args = .ok o outs := by
  rw [call_of h]
  unfold runDef
  rw [if_pos hn, h0, hb]
  unfold SW at h1
  cases e : evalSs ⟨evalCall P n, P.io, P.con⟩ bd τ0 with
  | nx τ =>
    rw [e] at h1
    obtain ⟨rfl, h3⟩ := h1
    show outsOf d.io τ _ = _
    unfold outsOf
    rw [h3]
  | rt o' τ =>
    rw [e] at h1
    obtain ⟨rfl, h3⟩ := h1
    show outsOf d.io τ _ = _
    unfold outsOf
    rw [h3]
  | _ => rw [e] at h1; exact h1.elim
/-- h: some v = some r -/
theorem fnE {io : List Nat} {e : α → O} {outs : α → List O} {v r : α} (h : some v = some r) (h2 : getOs τ io = some (outs v)) : Fn io (e r) (outs r) (.rt (e v) τ) := by
  cases h
  exact ⟨rfl, h2⟩
theorem fnN {io : List Nat} {outs : α → List O} {v r : α} (h : some v = some r) (h2 : getOs τ io = some (outs v)) : Fn io (.d .none) (outs r) (.nx τ) := by
  cases h
  exact ⟨rfl, h2⟩
theorem lpE {J : σ → Tau → Prop} {v r : σ} (h : some v = some r) (j : J v τ) : Lp (J r) (.nx τ) := by cases h; exact j
theorem lpC {J : σ → Tau → Prop} {v r : σ} (h : some v = some r) (j : J v τ) : Lp (J r) (.ct τ) := by cases h; exact j
theorem nxE {J : σ → Tau → Prop} {v r : σ} (h : some v = some r) (j : J v τ) : Nx (J r) (.nx τ) := by cases h; exact j
theorem lcGo {J : σ → Tau → Prop} {Rr : ρ → F → Prop} {v : σ} {c : Ctl σ ρ} (h : some (.go v) = some c) (j : J v τ) : Lc J Rr c (.nx τ) := by cases h; exact j
theorem lcCt {J : σ → Tau → Prop} {Rr : ρ → F → Prop} {v : σ} {c : Ctl σ ρ} (h : some (.go v) = some c) (j : J v τ) : Lc J Rr c (.ct τ) := by cases h; exact j
theorem lcBk {J : σ → Tau → Prop} {Rr : ρ → F → Prop} {v : σ} {c : Ctl σ ρ} (h : some (.brk v) = some c) (j : J v τ) : Lc J Rr c (.bk τ) := by cases h; exact j
theorem lcRt {J : σ → Tau → Prop} {Rr : ρ → F → Prop} {v : ρ} {c : Ctl σ ρ} {o : O} (h : some (.ret v) = some c) (j : Rr v (.rt o τ)) : Lc J Rr c (.rt o τ) := by
  cases h
  refine ⟨j, ?_, ?_, ?_⟩ <;> (intro _ z; cases z)
def RtF (io : List Nat) (o : O) (outs : List O) : F → Prop
  | .rt o' τ => o' = o ∧ getOs τ io = some outs
  | _ => False
theorem rt_fn {io : List Nat} {o : O} {outs : List O} {f : F} (h : RtF io o outs f) : Fn io o outs f := by
  cases f with
  | rt o τ => exact h
  | _ => exact h.elim
theorem rt_lc {J : σ → Tau → Prop} {Rr : ρ → F → Prop} {r : ρ} {c : Ctl σ ρ} {io : List Nat} {o : O} {outs : List O} {f : F} (e : some (Ctl.ret r) = some c) (h : RtF io o outs f) (hr : Rr r f) : Lc J Rr c f := by
  cases e
  cases f with
  | rt o τ => refine ⟨hr, ?_, ?_, ?_⟩ <;> (intro _ z; cases z)
  | _ => exact h.elim
/-! a name for a value -/
def letO (v : α) (f : α → Option β) : Option β := f v
theorem letE {v : α} {f : α → Option β} {r : β} {C : Prop} (h : letO v f = some r) (k : ∀ x, v = x → f x = some r → C) : C := k v rfl h
theorem slotE {e : α → D} {v x : α} (h : v = x) : O.d (e v) = O.d (e x) := by rw [h]
theorem slotL {e : α → D} {v x : List α} (h : v = x) : oL e v = oL e x := by rw [h]
/-- what may be none is there -/
theorem g_unw {f : α → D} {x : R O} (h : G x (fun o τ1 => ∃ (v : Option α) (a : α), o = .d (eO f v) ∧ v = some a ∧ K (.d (f a)) τ1) E) : G x K E := by
  refine h.imp ?_ fun _ _ q => q
  rintro o τ1 ⟨v, a, rfl, rfl, k⟩
  exact k
theorem dE {f : α → D} {v y : α} (h : some v = some y) : O.d (f v) = O.d (f y) := by cases h; rfl
theorem g_tupV {es : Es} (h : GV (evalOs cl false es τ) (fun xs τ1 => K (.d (.tuple xs)) τ1) E) : G (evalG cl b (.tup es) τ) K E := by
  rw [ev_tup]
  refine G.bind (G.imp h ?_ fun _ _ q => q)
  rintro os τ1 ⟨_, xs, rfl, k⟩
  exact k
theorem cmpL1 {f : α → D} {xs : List α} {op : CmpOp} {y : D} {r : Option Bool} (h : cmpF op (eL f xs) y = r) : cmpF op (oL f xs).data y = r := by rw [oL_data]; exact h
theorem cmpL2 {f : α → D} {xs : List α} {op : CmpOp} {y : D} {r : Option Bool} (h : cmpF op y (eL f xs) = r) : cmpF op y (oL f xs).data = r := by rw [oL_data]; exact h
theorem chain_t {r t : Bool} {x : Option Bool} (hr : r = true) (h : x = some t) : x = some (r && t) := by subst hr; exact h
theorem chain_p {s t : Bool} {x : Option Bool} (h : some t = some s) (hf : x = some t) : x = some s := hf.trans h
def lenO (n : Nat) : Option Unit := if n ≤ lim then some () else none
theorem len_ok {n : Nat} {u : Unit} (h : lenO n = some u) : n ≤ lim := by
  unfold lenO at h
  split at h
  · assumption
  · cases h
def two? : List α → Option (α × α)
  | [a, b] => some (a, b)
  | _ => none
def three? : List α → Option (α × α × α)
  | [a, b, c] => some (a, b, c)
  | _ => none
theorem two_eq {xs : List α} {p : α × α} (h : two? xs = some p) : xs = [p.1, p.2] := by
  unfold two? at h
  split at h
  · cases h; rfl
  · cases h
theorem three_eq {xs : List α} {p : α × α × α} (h : three? xs = some p) : xs = [p.1, p.2.1, p.2.2] := by
  unfold three? at h
  split at h
  · cases h; rfl
  · cases h
theorem noneE {α : Type} {r : α} {C : Prop} (h : (none : Option α) = some r) : C := nomatch h
theorem isaL {f : α → D} {xs : List α} {tys : List Ty} {c : Option Bool} (h : isAny (eL f xs) tys = c) : isAny (oL f xs).data tys = c := by rw [oL_data]; exact h
theorem is_foldA {x : Bool} (hx : x = true) : Is (.d (eB x)) τ (.d (eB true)) τ := by subst hx; exact ⟨rfl, rfl⟩
theorem is_foldO {x : Bool} (hx : x = false) : Is (.d (eB x)) τ (.d (eB false)) τ := by subst hx; exact ⟨rfl, rfl⟩
def absI (i : Int) : Int := if i < 0 then -i else i
def mn (i j : Int) : Int := if j < i then j else i
def mx (i j : Int) : Int := if j > i then j else i
/-- a test; the items that pass it -/
theorem g_filtI {t : T} {vs : List Nat} {it : Mir.It} {cs : Es} {elt : Mir.E} {r : Bool} {e : α → D} (c : α → Bool) (h : G (evalIt cl (cs.pure && elt.pure) it τ) (fun ds τ1 => ∃ xs : List α, ds = xs.map e ∧ (it.isSeq = true ∨ xs.length ≤ lim) ∧ (∀ x, ∃ τa, t.set (e x) (wipeT τ1 vs) = some τa ∧ G (evalTests cl cs τa) (fun k τb => k = c x ∧ τb = τa) NoX ∧ (c x = true → G (evalG cl false elt τa) (fun o τc => o = .d (e x) ∧ wipeT τc vs = wipeT τ1 vs) NoX) ∧ wipeT τa vs = wipeT τ1 vs) ∧ K (oL e (xs.filter c)) τ1) E) : G (evalG cl b (.comp t vs it cs elt r) τ) K E := by
  refine g_filt (e := e) (f := e) c (fun x => x) (G.imp h ?_ fun _ _ q => q)
  rintro ds τ1 ⟨xs, h1, h2, h3, k⟩
  refine ⟨xs, h1, h2, h3, ?_⟩
  rw [List.map_id']
  exact k
/-! texts of things; items that leave a list -/
def reprO (d : D) : Option Str := if okRepr d = true then some (PyData.shown d) else none
theorem b_repr {d : D} {x : Str} (h : reprO d = some x) : biF .repr [d] = some (.d (eS x)) := by
  unfold reprO at h
  show (if okRepr d = true then some (O.d (.str (PyData.shown d))) else none) = _
  split at h
  · cases h
    rename_i c
    rw [if_pos c]
    rfl
  · cases h
def popO (xs : List α) (j : Nat) : Option (α × List α) := (xs[j]?).map fun a => (a, xs.eraseIdx j)
def popK (xs : List α) (k : Int) : Option (α × List α) := if xs.length ≤ lim then (ixN xs.length k).bind (popO xs) else none
theorem erase_map {f : α → β} : ∀ (xs : List α) (j : Nat), (xs.map f).eraseIdx j = (xs.eraseIdx j).map f
  | [], _ => rfl
  | _ :: _, 0 => rfl
  | x :: xs, j + 1 => by rw [List.map_cons, List.eraseIdx_cons_succ, erase_map xs j, List.eraseIdx_cons_succ, List.map_cons]
theorem popD_O {f : α → D} {xs : List α} {j : Nat} {p : α × List α} (h : popO xs j = some p) : popD (xs.map fun a => O.d (f a)) j = some (f p.1, p.2.map fun a => O.d (f a)) := by
  unfold popO at h
  cases e : xs[j]? with
  | none => rw [e] at h; cases h
  | some a =>
    rw [e] at h
    cases h
    unfold popD
    rw [List.getElem?_map, e]
    show some (f a, (xs.map fun a => O.d (f a)).eraseIdx j) = _
    rw [erase_map]
theorem g_pop0 {i : Nat} {f : α → D} {xs : List α} {p : α × List α} (h0 : getO τ i = some (oL f xs)) (h : popO xs (xs.length - 1) = some p) (k : K (.d (f p.1)) (τ.set i (some (oL f p.2)))) : G (evalG cl b (.mut "pop" i .nil) τ) K E := by
  rw [ev_mut, h0]
  show G (match getO τ i with | some (.l xs) => (match mutF "pop" xs [] with | some (x, xs') => R.ok (.d x) (τ.set i (some (.l xs'))) | none => .st) | _ => .st) K E
  rw [h0]
  show G (match mutF "pop" (xs.map fun a => O.d (f a)) [] with | some (x, xs') => R.ok (.d x) (τ.set i (some (.l xs'))) | none => .st) K E
  rw [mutF, if_pos rfl, List.length_map, popD_O h]
  exact k
theorem g_pop1 {i : Nat} {e : Mir.E} {f : α → D} {xs : List α} (h0 : getO τ i = some (oL f xs)) (h : G (evalG cl false e τ) (fun o τ1 => ∃ (k : Int) (p : α × List α), o = .d (eI k) ∧ getO τ1 i = some (oL f xs) ∧ popK xs k = some p ∧ K (.d (f p.1)) (τ1.set i (some (oL f p.2)))) E) : G (evalG cl b (.mut "pop" i (.cons e .nil)) τ) K E := by
  rw [ev_mut, h0]
  show G ((evalOs cl false (.cons e .nil) τ).andThen _) K E
  refine G.bind (go_cons (h.imp ?_ fun _ _ q => q))
  rintro o τ1 ⟨k, p, rfl, h1, hp, kk⟩
  refine go_nil ?_
  rw [h1]
  show G (match mutF "pop" (xs.map fun a => O.d (f a)) [.d (.int k)] with | some (x, xs') => R.ok (.d x) (τ1.set i (some (.l xs'))) | none => .st) K E
  rw [mutF, if_neg (by decide), if_neg (by decide), if_pos rfl]
  show G (match (if (xs.map fun a => O.d (f a)).length ≤ lim then (ixN (xs.map fun a => O.d (f a)).length k).bind (popD (xs.map fun a => O.d (f a))) else none) with | some (x, xs') => R.ok (.d x) (τ1.set i (some (.l xs'))) | none => .st) K E
  unfold popK at hp
  rw [List.length_map]
  split at hp
  · rename_i hl
    rw [if_pos hl]
    cases ej : ixN xs.length k with
    | none => rw [ej] at hp; cases hp
    | some j =>
      rw [ej] at hp
      have hp : popO xs j = some p := hp
      show G (match popD (xs.map fun a => O.d (f a)) j with | some (x, xs') => R.ok (.d x) (τ1.set i (some (.l xs'))) | none => .st) K E
      rw [popD_O hp]
      exact kk
  · cases hp
end
end Mir
set_option Elab.async false
set_option linter.all false
set_option maxRecDepth 100000
set_option maxHeartbeats 4000000
/-! Mir, part Ze: the plain side. -/
namespace Mir
open PySem L2 PySem.W
section
variable {α β γ σ ρ : Type}
@[simp] theorem bind_s (a : α) (f : α → Option β) : (some a).bind f = f a := rfl
@[simp] theorem bind_some_id (m : Option α) : (m.bind fun x => some x) = m := by cases m <;> rfl
@[simp] theorem letO_eq (v : α) (f : α → Option β) : letO v f = f v := rfl
theorem forO_inv {f : σ → α → Option σ} (I : List α → σ → Prop) : ∀ (xs done : List α) (s : σ), I done s → (∀ dn x rest s, done ++ xs = dn ++ x :: rest → I dn s → ∃ s', f s x = some s' ∧ I (dn ++ [x]) s') → ∃ s', forO f xs s = some s' ∧ I (done ++ xs) s'
  | [], done, s, h, _ => ⟨s, rfl, by rw [List.append_nil]; exact h⟩
  | x :: xs, done, s, h, hf => by
    obtain ⟨s1, h1, h2⟩ := hf done x xs s rfl h
    have e : done ++ [x] ++ xs = done ++ x :: xs := by simp
    obtain ⟨s2, h3, h4⟩ := forO_inv I xs (done ++ [x]) s1 h2 fun dn y rest s hd => hf dn y rest s (by rw [← e]; exact hd)
    rw [e] at h4
    exact ⟨s2, by rw [forO, h1]; exact h3, h4⟩
/-- by an invariant over what was gone over -/
theorem for_inv {f : σ → α → Option σ} (I : List α → σ → Prop) (xs : List α) (s : σ) (h0 : I [] s) (hf : ∀ dn x rest s, xs = dn ++ x :: rest → I dn s → ∃ s', f s x = some s' ∧ I (dn ++ [x]) s') : ∃ s', forO f xs s = some s' ∧ I xs s' := by
  obtain ⟨s', h1, h2⟩ := forO_inv I xs [] s h0 (fun dn x rest s h => hf dn x rest s (by simpa using h))
  exact ⟨s', h1, by simpa using h2⟩
/-- the state is a function of what was gone over -/
theorem for_eq {f : σ → α → Option σ} (F : List α → σ) (xs : List α) (s : σ) (h0 : F [] = s) (hf : ∀ dn x rest, xs = dn ++ x :: rest → f (F dn) x = some (F (dn ++ [x]))) : forO f xs s = some (F xs) := by
  obtain ⟨s', h1, h2⟩ := for_inv (fun dn s => s = F dn) xs s h0.symm (fun dn x rest s h e => ⟨_, by rw [e]; exact hf dn x rest h, rfl⟩)
  rw [h1, h2]
theorem mapO_eq {f : α → Option β} (g : α → β) : ∀ (xs : List α), (∀ x ∈ xs, f x = some (g x)) → mapO f xs = some (xs.map g)
  | [], _ => rfl
  | x :: xs, h => by
    rw [mapO, h x List.mem_cons_self, mapO_eq g xs fun y hy => h y (List.mem_cons_of_mem _ hy)]
    rfl
theorem compO_eq {c : α → Option Bool} {f : α → Option β} (p : α → Bool) (g : α → β) : ∀ (xs : List α), (∀ x ∈ xs, c x = some (p x) ∧ (p x = true → f x = some (g x))) → compO c f xs = some ((xs.filter p).map g)
  | [], _ => rfl
  | x :: xs, h => by
    have h1 := h x List.mem_cons_self
    have ih := compO_eq p g xs fun y hy => h y (List.mem_cons_of_mem _ hy)
    rw [compO, h1.1]
    cases hp : p x with
    | true =>
      rw [List.filter_cons_of_pos hp, List.map_cons, bind_s, if_pos rfl, h1.2 hp, ih]
      rfl
    | false =>
      rw [List.filter_cons_of_neg (by simp [hp]), bind_s, if_neg (by decide), ih]
/-- all turns end, by what holds of the state; what holds of the items -/
theorem mapS_ok {f : σ → α → Option (β × σ)} (I : σ → Prop) (Pt : β → Prop) : ∀ (xs : List α) (s : σ), I s → (∀ s x, x ∈ xs → I s → ∃ p, f s x = some p ∧ I p.2 ∧ Pt p.1) → ∃ q, mapS f xs s = some q ∧ I q.2 ∧ q.1.length = xs.length ∧ ∀ y ∈ q.1, Pt y
  | [], s, h, _ => ⟨([], s), rfl, h, rfl, fun y hy => by cases hy⟩
  | x :: xs, s, h, hf => by
    obtain ⟨p, h1, h2, h3⟩ := hf s x List.mem_cons_self h
    obtain ⟨q, h4, h5, h6, h7⟩ := mapS_ok I Pt xs p.2 h2 fun s y hy => hf s y (List.mem_cons_of_mem _ hy)
    refine ⟨(p.1 :: q.1, q.2), ?_, h5, by simp [h6], fun y hy => ?_⟩
    · rw [mapS, h1, bind_s, h4]
      rfl
    · rcases List.mem_cons.mp hy with e | e
      · rw [e]; exact h3
      · exact h7 y e
/-- no turn leaves the loop -/
theorem forC_go {f : σ → α → Option (Ctl σ ρ)} (I : List α → σ → Prop) : ∀ (xs done : List α) (s : σ), I done s → (∀ dn x rest s, done ++ xs = dn ++ x :: rest → I dn s → ∃ s', f s x = some (.go s') ∧ I (dn ++ [x]) s') → ∃ s', forC f xs s = some (.go s') ∧ I (done ++ xs) s'
  | [], done, s, h, _ => ⟨s, rfl, by rw [List.append_nil]; exact h⟩
  | x :: xs, done, s, h, hf => by
    obtain ⟨s1, h1, h2⟩ := hf done x xs s rfl h
    have e : done ++ [x] ++ xs = done ++ x :: xs := by simp
    obtain ⟨s2, h3, h4⟩ := forC_go I xs (done ++ [x]) s1 h2 fun dn y rest s hd => hf dn y rest s (by rw [← e]; exact hd)
    rw [e] at h4
    exact ⟨s2, by rw [forC, h1]; exact h3, h4⟩
theorem forC_unit {f : Unit → α → Option (Ctl Unit ρ)} (xs : List α) (h : ∀ x ∈ xs, f () x = some (.go ())) : forC f xs () = some (.go ()) := by
  obtain ⟨s', h1, _⟩ := forC_go (fun _ _ => True) xs [] () True.intro (fun dn x rest s hx _ => ⟨(), h x (by
    have hx : xs = dn ++ x :: rest := hx
    rw [hx]; simp), True.intro⟩)
  exact h1
theorem forO_unit {f : Unit → α → Option Unit} : ∀ (xs : List α), (∀ x ∈ xs, f () x = some ()) → forO f xs () = some ()
  | [], _ => rfl
  | x :: xs, h => by rw [forO, h x List.mem_cons_self, bind_s]; exact forO_unit xs fun y hy => h y (List.mem_cons_of_mem _ hy)
/-! numbers gone over -/
theorem rng_eq {a c : Int} (h : -10000000 ≤ a ∧ a ≤ 10000000 ∧ -10000000 ≤ c ∧ c ≤ 10000000 ∧ (c - a).toNat ≤ 10000000) : rngO a c = some (rngI a c) := by rw [rngO, if_pos h]
theorem rng_nat {c : Int} {k : Nat} (h : c.toNat = k) (h1 : -10000000 ≤ c) (h2 : c ≤ 10000000) : rngO 0 c = some ((List.range k).map fun (i : Nat) => (i : Int)) := by
  rw [rng_eq (by omega), rngI, Int.sub_zero, h]
  congr 1
  refine List.map_congr_left fun i _ => ?_
  omega
theorem mem_rngI {a c x : Int} : x ∈ rngI a c ↔ a ≤ x ∧ x < c := by
  unfold rngI
  rw [List.mem_map]
  constructor
  · rintro ⟨i, hi, rfl⟩
    rw [List.mem_range] at hi
    omega
  · rintro ⟨h1, h2⟩
    exact ⟨(x - a).toNat, by rw [List.mem_range]; omega, by omega⟩
theorem rngI_len {a c : Int} : (rngI a c).length = (c - a).toNat := by simp [rngI]
theorem ext_eq {xs ys : List α} (h : xs.length + ys.length < 10000000) : extO xs ys = some (xs ++ ys) := by
  have e : (lim : Nat) = 10000000 := rfl
  rw [extO, e, if_pos h]
theorem app_eq {xs : List α} {a : α} (h : xs.length < 10000000) : appO xs a = some (xs ++ [a]) := by
  have e : (lim : Nat) = 10000000 := rfl
  rw [appO, e, if_pos h]
theorem cat_eq {xs ys : List α} (h : xs.length + ys.length ≤ 10000000) : catO xs ys = some (xs ++ ys) := by
  have e : (lim : Nat) = 10000000 := rfl
  rw [catO, e, if_pos h]
theorem at_get {xs : List α} {i : Int} {k : Nat} {x : α} (hi : i = (k : Int)) (h : xs[k]? = some x) : atI xs i = some x := by rw [hi]; exact at_nat h
theorem mul_eq {i j : Int} (h : -1000000000000 ≤ i ∧ i ≤ 1000000000000 ∨ -1000000000000 ≤ j ∧ j ≤ 1000000000000) : mulO i j = some (i * j) := by
  rw [mulO, if_pos]
  rw [two64]
  omega
theorem div_eq {i j : Int} (h : 0 < j ∧ j < 1073741824) : divO i j = some (i / j) := by rw [divO, if_pos h]
theorem div_eqN {i j : Int} (h : j ≠ 0 ∧ j.natAbs < 1073741824) : divO i j = some (i.fdiv j) := by
  unfold divO
  by_cases c : 0 < j ∧ j < 1073741824
  · rw [if_pos c, Int.fdiv_eq_ediv_of_nonneg _ (by omega)]
  · rw [if_neg c, if_pos h]
theorem mod_eq {i j : Int} (h : 0 < j) : modO i j = some (i % j) := by rw [modO, if_pos h]
theorem mod_b (x m : Int) (h : 0 < m) : 0 ≤ x % m ∧ x % m < m := ⟨Int.emod_nonneg _ (by omega), Int.emod_lt_of_pos _ h⟩
theorem cut_nat {xs : List α} {i j : Int} {r a : Nat} (hi : i = (r : Int)) (hj : j = ((r + a : Nat) : Int)) (h : r + a ≤ xs.length) : cutG xs (some i) (some j) = (xs.drop r).take a := by
  subst hi hj
  unfold cutG
  rw [HT.sIx_nat, HT.sIx_nat, Nat.min_eq_left (show r ≤ xs.length by omega), Nat.min_eq_left h]
  have e2 : r + a - r = a := by omega
  rw [e2]
theorem flat_congr {f g : α → List β} : ∀ {l : List α}, (∀ x ∈ l, f x = g x) → l.flatMap f = l.flatMap g
  | [], _ => rfl
  | x :: l, h => by rw [List.flatMap_cons, List.flatMap_cons, h x List.mem_cons_self, flat_congr fun y hy => h y (List.mem_cons_of_mem _ hy)]
theorem all_id {p : α → Bool} {xs : List α} (h : ∀ x ∈ xs, p x = true) : (List.map p xs).all id = true := by
  rw [List.all_map, List.all_eq_true]
  exact h
end
section
variable {α : Type} [DecidableEq α]
/-- the one that is less than all others -/
theorem minO_is {lt : α → α → Bool} (p : α) : ∀ (xs : List α), p ∈ xs → (∀ y ∈ xs, y ≠ p → lt p y = true ∧ lt y p = false) → minO lt xs = some p := by
  intro xs hp h
  cases xs with
  | nil => cases hp
  | cons x xs =>
    have key : ∀ (xs : List α) (a : α), (a = p ∨ p ∈ xs) → (∀ y ∈ a :: xs, y ≠ p → lt p y = true ∧ lt y p = false) → xs.foldl (fun a y => if lt y a = true then y else a) a = p := by
      intro xs
      induction xs with
      | nil =>
        intro a ha _
        rcases ha with e | e
        · exact e
        · cases e
      | cons y ys ih =>
        intro a ha hl
        rw [List.foldl_cons]
        have hy := hl y (List.mem_cons_of_mem _ List.mem_cons_self)
        have ha' := hl a List.mem_cons_self
        refine ih _ ?_ fun z hz => ?_
        · by_cases e1 : y = p
          · subst e1
            left
            by_cases e2 : a = y
            · subst e2; split <;> rfl
            · rw [if_pos (ha' e2).1]
          · rcases ha with e | e
            · subst e
              left
              rw [if_neg]
              rw [(hy e1).2]
              decide
            · right
              rcases List.mem_cons.mp e with e | e
              · exact absurd e.symm e1
              · exact e
        · refine hl z ?_
          rcases List.mem_cons.mp hz with e | e
          · rw [e]
            split
            · exact List.mem_cons_of_mem _ List.mem_cons_self
            · exact List.mem_cons_self
          · exact List.mem_cons_of_mem _ (List.mem_cons_of_mem _ e)
    rw [minO]
    congr 1
    exact key xs x ((List.mem_cons.mp hp).imp Eq.symm id) h
end
theorem lt_PI (a b : Int × Int) : EnO.lt (eP eI eI) a b = if a.1 = b.1 then decide (a.2 < b.2) else decide (a.1 < b.1) := rfl
theorem lt_I (a b : Int) : EnO.lt eI a b = decide (a < b) := rfl
/-- the greatest, the least of some numbers -/
def mxV (hs : List Int) : Int := (maxO (EnO.lt eI) hs).getD 0
def mnV (hs : List Int) : Int := (minO (EnO.lt eI) hs).getD 0
theorem mx_eq {hs : List Int} (h : hs ≠ []) : maxO (EnO.lt eI) hs = some (mxV hs) := by
  cases hs with
  | nil => exact (h rfl).elim
  | cons x xs => rfl
theorem mn_eq {hs : List Int} (h : hs ≠ []) : minO (EnO.lt eI) hs = some (mnV hs) := by
  cases hs with
  | nil => exact (h rfl).elim
  | cons x xs => rfl
theorem mx_fold : ∀ (xs : List Int) (x : Int), (∀ y ∈ x :: xs, y ≤ xs.foldl (fun a y => if EnO.lt eI a y = true then y else a) x) ∧ xs.foldl (fun a y => if EnO.lt eI a y = true then y else a) x ∈ x :: xs
  | [], x => by simp
  | z :: xs, x => by
    rw [List.foldl_cons]
    have h := mx_fold xs (if EnO.lt eI x z = true then z else x)
    rw [lt_I] at h ⊢
    refine ⟨fun y hy => ?_, ?_⟩
    · have h0 := h.1 _ List.mem_cons_self
      rcases List.mem_cons.mp hy with e | hy
      · subst e
        by_cases c : y < z
        · simp only [c, decide_true, if_true] at h0 h ⊢; omega
        · simp only [c, decide_false, Bool.false_eq_true, if_false] at h0 h ⊢; exact h0
      · rcases List.mem_cons.mp hy with e | hy
        · subst e
          by_cases c : x < y
          · simp only [c, decide_true, if_true] at h0 h ⊢; exact h0
          · simp only [c, decide_false, Bool.false_eq_true, if_false] at h0 h ⊢; omega
        · exact h.1 y (List.mem_cons_of_mem _ hy)
    · have h1 := h.2
      by_cases c : x < z
      · simp only [c, decide_true, if_true] at h1 ⊢
        exact List.mem_cons_of_mem _ h1
      · simp only [c, decide_false, Bool.false_eq_true, if_false] at h1 ⊢
        rcases List.mem_cons.mp h1 with e | e
        · rw [e]; exact List.mem_cons_self
        · exact List.mem_cons_of_mem _ (List.mem_cons_of_mem _ e)
theorem mx_ge {hs : List Int} {y : Int} (h : y ∈ hs) : y ≤ mxV hs := by
  cases hs with
  | nil => cases h
  | cons x xs => exact (mx_fold xs x).1 y h
theorem mx_mem {hs : List Int} (h : hs ≠ []) : mxV hs ∈ hs := by
  cases hs with
  | nil => exact (h rfl).elim
  | cons x xs => exact (mx_fold xs x).2
theorem mn_fold : ∀ (xs : List Int) (x : Int), (∀ y ∈ x :: xs, xs.foldl (fun a y => if EnO.lt eI y a = true then y else a) x ≤ y) ∧ xs.foldl (fun a y => if EnO.lt eI y a = true then y else a) x ∈ x :: xs
  | [], x => by simp
  | z :: xs, x => by
    rw [List.foldl_cons]
    have h := mn_fold xs (if EnO.lt eI z x = true then z else x)
    rw [lt_I] at h ⊢
    refine ⟨fun y hy => ?_, ?_⟩
    · have h0 := h.1 _ List.mem_cons_self
      rcases List.mem_cons.mp hy with e | hy
      · subst e
        by_cases c : z < y
        · simp only [c, decide_true, if_true] at h0 h ⊢; omega
        · simp only [c, decide_false, Bool.false_eq_true, if_false] at h0 h ⊢; exact h0
      · rcases List.mem_cons.mp hy with e | hy
        · subst e
          by_cases c : y < x
          · simp only [c, decide_true, if_true] at h0 h ⊢; exact h0
          · simp only [c, decide_false, Bool.false_eq_true, if_false] at h0 h ⊢; omega
        · exact h.1 y (List.mem_cons_of_mem _ hy)
    · have h1 := h.2
      by_cases c : z < x
      · simp only [c, decide_true, if_true] at h1 ⊢
        exact List.mem_cons_of_mem _ h1
      · simp only [c, decide_false, Bool.false_eq_true, if_false] at h1 ⊢
        rcases List.mem_cons.mp h1 with e | e
        · rw [e]; exact List.mem_cons_self
        · exact List.mem_cons_of_mem _ (List.mem_cons_of_mem _ e)
theorem mn_le {hs : List Int} {y : Int} (h : y ∈ hs) : mnV hs ≤ y := by
  cases hs with
  | nil => cases h
  | cons x xs => exact (mn_fold xs x).1 y h
theorem mn_mem {hs : List Int} (h : hs ≠ []) : mnV hs ∈ hs := by
  cases hs with
  | nil => exact (h rfl).elim
  | cons x xs => exact (mn_fold xs x).2
/-! rectangles of heights -/
structure Grid (g : List (List Int)) (w : Nat) (top : Int) : Prop where
  h1 : 1 ≤ g.length
  h2 : g.length ≤ 8
  w1 : 1 ≤ w
  w2 : w ≤ 8
  wide : ∀ r ∈ g, r.length = w
  high : ∀ r ∈ g, ∀ h ∈ r, 0 ≤ h ∧ h ≤ top
theorem Grid.row {g : List (List Int)} {w : Nat} {top : Int} (G : Grid g w top) {i : Int} (h : 0 ≤ i ∧ i < g.length) : atI g i = some (g.getD i.toNat []) ∧ (g.getD i.toNat []).length = w ∧ g.getD i.toNat [] ∈ g := by
  have hi : i.toNat < g.length := by omega
  have e : g.getD i.toNat [] = g[i.toNat] := by rw [List.getD_eq_getElem?_getD, List.getElem?_eq_getElem hi] <;> rfl
  rw [e]
  exact ⟨at_get (k := i.toNat) (by omega) (List.getElem?_eq_getElem hi), G.wide _ (List.getElem_mem hi), List.getElem_mem hi⟩
theorem Grid.first {g : List (List Int)} {w : Nat} {top : Int} (G : Grid g w top) : ∃ r, atI g 0 = some r ∧ r.length = w := ⟨_, (G.row (i := 0) ⟨by omega, by have := G.h1; omega⟩).1, (G.row (i := 0) ⟨by omega, by have := G.h1; omega⟩).2.1⟩
def hAt (g : List (List Int)) (i j : Int) : Int := (g.getD i.toNat []).getD j.toNat 0
theorem Grid.at {g : List (List Int)} {w : Nat} {top : Int} (G : Grid g w top) {i j : Int} (h : 0 ≤ i ∧ i < g.length) (hj : 0 ≤ j ∧ j < w) : atI (g.getD i.toNat []) j = some (hAt g i j) ∧ 0 ≤ hAt g i j ∧ hAt g i j ≤ top := by
  obtain ⟨_, h2, h3⟩ := G.row h
  have hl : j.toNat < (g.getD i.toNat []).length := by omega
  have e : hAt g i j = (g.getD i.toNat [])[j.toNat] := by
    unfold hAt
    generalize g.getD i.toNat [] = r at *
    rw [List.getD_eq_getElem?_getD, List.getElem?_eq_getElem hl]; rfl
  rw [e]
  exact ⟨at_get (k := j.toNat) (by omega) (List.getElem?_eq_getElem hl), G.high _ h3 _ (List.getElem_mem hl)⟩
end Mir
set_option Elab.async false
set_option linter.all false
set_option maxRecDepth 100000
set_option maxHeartbeats 4000000
/-! Mir, part Zf: more plain lemmas. -/
open PySem PySem.W L2
namespace Mir
section
variable {α β γ : Type}
theorem len_eq {n : Nat} (h : n ≤ 10000000) : lenO n = some () := by rw [lenO, if_pos (show n ≤ lim from h)]
theorem enum_len : ∀ (i : Int) (xs : List α), (enumI i xs).length = xs.length
  | _, [] => rfl
  | i, x :: xs => by rw [enumI, List.length_cons, List.length_cons, enum_len (i + 1) xs]
theorem enum_get : ∀ (xs : List α) (i : Int) (k : Nat), (enumI i xs)[k]? = xs[k]?.map fun x => (i + (k : Int), x)
  | [], _, k => by simp [enumI]
  | x :: xs, i, 0 => by simp [enumI]
  | x :: xs, i, k + 1 => by
    rw [enumI, List.getElem?_cons_succ, List.getElem?_cons_succ, enum_get xs (i + 1) k]
    have e : i + 1 + (k : Int) = i + ((k + 1 : Nat) : Int) := by omega
    rw [e]
theorem mem_enum {xs : List α} {p : Int × α} : p ∈ enumI 0 xs ↔ ∃ k : Nat, xs[k]? = some p.2 ∧ p.1 = (k : Int) := by
  rw [List.mem_iff_getElem?]
  constructor
  · rintro ⟨k, h⟩
    rw [enum_get] at h
    cases e : xs[k]? with
    | none => rw [e] at h; cases h
    | some x =>
      rw [e] at h
      cases h
      exact ⟨k, e, by simp⟩
  · rintro ⟨k, h, e⟩
    refine ⟨k, ?_⟩
    rw [enum_get, h]
    obtain ⟨i, x⟩ := p
    simp at e ⊢
    omega
theorem rngI_nat (n : Nat) : rngI 0 (n : Int) = (List.range n).map fun (i : Nat) => (i : Int) := by
  unfold rngI
  rw [show ((n : Int) - 0).toNat = n by omega]
  exact List.map_congr_left fun i _ => by omega
theorem enum_range (xs : List α) (d : α) : enumI 0 xs = (List.range xs.length).map fun (k : Nat) => ((k : Int), xs.getD k d) := by
  apply List.ext_getElem?
  intro k
  rw [enum_get]
  by_cases h : k < xs.length
  · rw [List.getElem?_eq_getElem h, List.getElem?_map, List.getElem?_range h]
    simp [List.getD_eq_getElem?_getD, List.getElem?_eq_getElem h]
  · rw [List.getElem?_eq_none (by omega), List.getElem?_eq_none (by simp; omega)]
    rfl
theorem cut_to {xs : List α} {j : Int} {k : Nat} (hj : j = (k : Int)) : cutG xs none (some j) = xs.take k := by
  subst hj
  unfold cutG
  rw [HT.sIx_none, HT.sIx_nat, List.drop_zero, Nat.sub_zero]
  rw [List.take_eq_take_iff]
  omega
theorem cut_from {xs : List α} {j : Int} {k : Nat} (hj : j = (k : Int)) : cutG xs (some j) none = xs.drop k := by
  subst hj
  unfold cutG
  rw [HT.sIx_none, HT.sIx_nat]
  by_cases h : k ≤ xs.length
  · rw [Nat.min_eq_left h, List.take_of_length_le (by rw [List.length_drop]; omega)]
  · rw [Nat.min_eq_right (by omega), List.drop_eq_nil_of_le (show xs.length ≤ xs.length by omega), List.drop_eq_nil_of_le (by omega)]
    simp
theorem mx_is {xs : List Int} {m : Int} (h : m ∈ xs) (hm : ∀ y ∈ xs, y ≤ m) : mxV xs = m := by
  have h0 : xs ≠ [] := fun e => by rw [e] at h; cases h
  have h1 := mx_ge h
  have h2 := hm _ (mx_mem h0)
  omega
theorem mx_rev {xs : List Int} (h : xs ≠ []) : mxV xs.reverse = mxV xs :=
  mx_is (by rw [List.mem_reverse]; exact mx_mem h) fun y hy => mx_ge (List.mem_reverse.mp hy)
theorem at_neg1 {xs : List α} {x : α} (h : xs ≠ []) (e : xs.getLast? = some x) : atI xs (-1) = some x := by
  have hp := List.length_pos_iff.mpr h
  unfold atI ixN
  rw [List.getLast?_eq_getElem?] at e
  simp
  rw [if_pos (by omega)]
  simp
  rw [show (-1 + (xs.length : Int)).toNat = xs.length - 1 by omega]
  exact e
theorem abs_cases (i : Int) : (i < 0 ∧ absI i = -i) ∨ (0 ≤ i ∧ absI i = i) := by unfold absI; split <;> omega
theorem mn_cases (i j : Int) : (j < i ∧ mn i j = j) ∨ (i ≤ j ∧ mn i j = i) := by unfold mn; split <;> omega
theorem mx_cases (i j : Int) : (j > i ∧ mx i j = j) ∨ (j ≤ i ∧ mx i j = i) := by unfold mx; split <;> omega
/-! repr of tuples of small ints -/
theorem wszs_le : ∀ (hs : List Int), (∀ x ∈ hs, x.natAbs.log2 < 64) → wszs (hs.map PyData.int) ≤ 67 * hs.length
  | [], _ => by simp [wszs]
  | x :: hs, h => by
    have h1 := wszs_le hs fun y hy => h y (List.mem_cons_of_mem _ hy)
    rw [List.map_cons, wszs, wsz, if_pos (h x List.mem_cons_self), List.length_cons]
    omega
theorem log_lt {i : Int} (h : i.natAbs < 18446744073709551616) : i.natAbs.log2 < 64 := by
  by_cases h0 : i.natAbs = 0
  · rw [h0]; decide
  · exact (Nat.log2_lt h0).mpr h
theorem repr_TI {hs : List Int} (hl : hs.length ≤ 10000) (h : ∀ x ∈ hs, -1000000 ≤ x ∧ x ≤ 1000000) : ∃ x, reprO (eT eI hs) = some x := by
  have e1 := wszs_le hs fun x hx => log_lt (by have := h x hx; omega)
  have e2 := En.plain (f := eT eI) hs
  have e3 := En.le (f := eT eI) hs
  have e4 : En.n (eT eI) ≤ 40 := by decide
  have e5 : wsz (eT eI hs) ≤ lim := by
    show wsz (.tuple (hs.map PyData.int)) ≤ 10000000
    rw [wsz]
    omega
  have e : okRepr (eT eI hs) = true := by
    unfold okRepr
    rw [e2, decide_eq_true e5, decide_eq_true (Nat.le_trans e3 e4)]
    rfl
  exact ⟨_, by unfold reprO; rw [if_pos e]⟩
end
end Mir
set_option Elab.async false
set_option linter.all false
set_option maxRecDepth 100000
set_option maxHeartbeats 4000000
/-! Mir, part Zg: membership by one name (one way to decide it). -/
open PySem PySem.W L2
namespace Mir
section
variable {α : Type} [DecidableEq α]
def memE (a : α) (xs : List α) : Bool := decide (a ∈ xs)
theorem memE_iff {a : α} {xs : List α} : memE a xs = true ↔ a ∈ xs := by unfold memE; exact decide_eq_true_iff
theorem memE_not {a : α} {xs : List α} : memE a xs = false ↔ a ∉ xs := by unfold memE; exact decide_eq_false_iff_not
theorem cm_inT (f : α → D) [En f] (a : α) (xs : List α) (h : En.n (eT f) ≤ 40 := by decide) (h' : En.n f ≤ 40 := by decide) : cmpF .In (f a) (eT f xs) = some (memE a xs) := cq_inT f a xs h h'
theorem cm_inL (f : α → D) [En f] (a : α) (xs : List α) (h : En.n (eL f) ≤ 40 := by decide) (h' : En.n f ≤ 40 := by decide) : cmpF .In (f a) (eL f xs) = some (memE a xs) := cq_inL f a xs h h'
theorem cm_niT (f : α → D) [En f] (a : α) (xs : List α) (h : En.n (eT f) ≤ 40 := by decide) (h' : En.n f ≤ 40 := by decide) : cmpF .NotIn (f a) (eT f xs) = some (!memE a xs) := cq_niT f a xs h h'
theorem cm_niL (f : α → D) [En f] (a : α) (xs : List α) (h : En.n (eL f) ≤ 40 := by decide) (h' : En.n f ≤ 40 := by decide) : cmpF .NotIn (f a) (eL f xs) = some (!memE a xs) := cq_niL f a xs h h'
end
/-! calls by a name that is never unfolded -/
@[irreducible] def callP (P : Prog) (n : Nat) (f : Str) (args : List O) : CR := evalCall P n f args
theorem callP_eq (P : Prog) (n : Nat) (f : Str) (args : List O) : callP P n f args = evalCall P n f args := by unfold callP; rfl
theorem r_fnC {P : Prog} {n : Nat} {f : Str} {d : Def} {args : List O} {o : O} {outs : List O} (τ0 : Tau) (bd : List Mir.S) (h : P.fn f = some d) (hn : args.length = d.np) (h0 : args.map some ++ List.replicate (d.n - d.np) none = τ0) (hb : d.body = bd) (h1 : SW (evalSs ⟨callP P n, P.io, P.con⟩ bd τ0) (Fn d.io o outs)) : callP P (n + 1) f args = .ok o outs := by
  have e : callP P n = evalCall P n := by funext f a; exact callP_eq P n f a
  rw [e] at h1
  rw [callP_eq]
  exact r_fn τ0 bd h hn h0 hb h1
/-! sorting -/
class ST {α : Type} (f : α → D) : Prop where
  st : (∀ a, fullTup (f a) = true) ∨ ∀ a, notTup (f a) = true
section
variable {α β γ : Type}
instance : ST eI := ⟨.inr fun _ => rfl⟩
instance : ST eS := ⟨.inr fun _ => rfl⟩
instance : ST eB := ⟨.inr fun _ => rfl⟩
instance (f : α → D) : ST (eL f) := ⟨.inr fun _ => rfl⟩
instance (f : α → D) (g : β → D) : ST (eP f g) := ⟨.inl fun _ => rfl⟩
instance (f : α → D) (g : β → D) (h : γ → D) : ST (eP3 f g h) := ⟨.inl fun _ => rfl⟩
def sortE [DecidableEq α] (f : α → D) [EnO f] (xs : List α) : List α := xs.mergeSort fun a b => !EnO.lt f b a
theorem b_sort [DecidableEq α] (f : α → D) [EnO f] [ST f] (xs : List α) (h : En.n f ≤ 40 := by decide) : biF .sorted [eL f xs] = some (oL f (sortE f xs)) := by
  show (if okSort (xs.map f) = true then some (O.l ((sortD (xs.map f)).map .d)) else none) = _
  have e : okSort (xs.map f) = true := by
    letI := EnO.dat f
    have e1 : okMM (xs.map f) = true := okMM_D (α := α) h xs
    unfold okSort
    rw [e1]
    rcases ST.st (f := f) with q | q
    · rw [show (xs.map f).all fullTup = true by rw [List.all_map]; exact List.all_eq_true.mpr fun x _ => q x]; rfl
    · rw [show (xs.map f).all notTup = true by rw [List.all_map]; exact List.all_eq_true.mpr fun x _ => q x]; simp
  rw [if_pos e]
  unfold sortD sortE oL
  congr 1
  rw [← List.map_mergeSort (r := fun a b => !EnO.lt f b a) (s := W.dataLe false id) (f := f) fun a _ b _ => ?_, List.map_map]
  · rfl
  · show (!EnO.lt f b a) = !W.dataLt (f b) (f a)
    rw [EnO.lt_eq]
end
section
variable {α σ ρ : Type} {cl : Cl} {τ : Tau} {Q : F → Prop} {ss : List Mir.S}
theorem s_forI {t : T} {it : Mir.It} {bd : List Mir.S} (e : α → D)
    (h : G (evalIt cl false it τ) (fun ds τ1 => ∃ (body : σ → α → Option σ) (J : σ → Tau → Prop) (xs : List α) (s0 s1 : σ), ds = xs.map e ∧ forO body xs s0 = some s1 ∧ J s0 τ1 ∧ (∀ s x s' τ2, J s τ2 → body s x = some s' → ∃ τ3, t.set (e x) τ2 = some τ3 ∧ SW (evalSs cl bd τ3) (Lp (J s'))) ∧ ∀ τ2, J s1 τ2 → SW (evalSs cl ss τ2) Q) (X Q)) : SW (evalSs cl (.fors t it bd :: ss) τ) Q := by
  refine s_cons rfl ?_
  rw [evalS]
  refine seq_toF (G.imp h ?_ fun _ _ q => q)
  rintro ds τ1 ⟨body, J, xs, s0, s1, rfl, h1, h2, h3, h4⟩
  obtain ⟨τ', h5, h6⟩ := forO_run J h3 xs s0 s1 τ1 h1 h2
  rw [h5]
  exact h4 τ' h6
theorem s_forCI {t : T} {it : Mir.It} {bd : List Mir.S} (e : α → D)
    (h : G (evalIt cl false it τ) (fun ds τ1 => ∃ (body : σ → α → Option (Ctl σ ρ)) (J : σ → Tau → Prop) (Rr : ρ → F → Prop) (xs : List α) (s0 : σ) (c : Ctl σ ρ), ds = xs.map e ∧ forC body xs s0 = some c ∧ J s0 τ1 ∧ (∀ s x c τ2, J s τ2 → body s x = some c → ∃ τ3, t.set (e x) τ2 = some τ3 ∧ SW (evalSs cl bd τ3) (Lc J Rr c)) ∧ (∀ s1, c = .go s1 → ∀ τ2, J s1 τ2 → SW (evalSs cl ss τ2) Q) ∧ ∀ r f, c = .ret r → Rr r f → Q f) (X Q)) : SW (evalSs cl (.fors t it bd :: ss) τ) Q := by
  refine s_cons rfl ?_
  rw [evalS]
  refine seq_toF (G.imp h ?_ fun _ _ q => q)
  rintro ds τ1 ⟨body, J, Rr, xs, s0, c, rfl, h1, h2, h3, h4, h5⟩
  have h6 := forC_run J Rr h3 xs s0 c τ1 h1 h2
  cases c with
  | go s1 =>
    obtain ⟨τ', h7, h8⟩ := h6
    rw [h7]
    exact h4 s1 rfl τ' h8
  | brk s => exact h6.elim
  | ret r =>
    obtain ⟨h7, h8⟩ := h6
    have : ∀ f : F, (∀ τ', f ≠ .nx τ') → f.seq (fun τ => evalSs cl ss τ) = f := by
      intro f hf
      cases f with
      | nx τ => exact (hf τ rfl).elim
      | _ => rfl
    rw [this _ h8]
    exact h5 r _ rfl h7
/-- a pair gone over as two of a kind -/
theorem seq_P2 {t : Bool} {α : Type} {f : α → D} (p : α × α) : Seq t true (.d (eP f f p)) ([p.1, p.2].map f) := ⟨rfl, by cases t <;> rfl⟩
theorem seq_P3 {t : Bool} {α : Type} {f : α → D} (p : α × α × α) : Seq t true (.d (eP3 f f f p)) ([p.1, p.2.1, p.2.2].map f) := ⟨rfl, by cases t <;> rfl⟩
end
end Mir
set_option Elab.async false
set_option linter.all false
set_option maxRecDepth 100000
set_option maxHeartbeats 4000000
/-! Mir, part Zh: typed dicts. -/
open PySem PySem.W L2
namespace Mir
/-! ### plain dicts: lists of pairs -/
section
variable {κ ν : Type} [DecidableEq κ]
def valE (kvs : List (κ × ν)) (k : κ) : Option ν := (kvs.find? fun p => decide (p.1 = k)).map (·.2)
def hasE (kvs : List (κ × ν)) (k : κ) : Bool := kvs.any fun p => decide (p.1 = k)
def putE (kvs : List (κ × ν)) (k : κ) (v : ν) : List (κ × ν) := if hasE kvs k = true then kvs.map fun p => if p.1 = k then (p.1, v) else p else kvs ++ [(k, v)]
def dictE (ps : List (κ × ν)) : List (κ × ν) := ps.foldl (fun acc p => putE acc p.1 p.2) []
def dputE (kvs : List (κ × ν)) (k : κ) (v : ν) : Option (List (κ × ν)) := if kvs.length < lim then some (putE kvs k v) else none
def keysE (kvs : List (κ × ν)) : List κ := kvs.map (·.1)
theorem valE_nil (k : κ) : valE ([] : List (κ × ν)) k = none := rfl
theorem valE_cons (p : κ × ν) (kvs : List (κ × ν)) (k : κ) : valE (p :: kvs) k = if p.1 = k then some p.2 else valE kvs k := by
  unfold valE
  rw [List.find?_cons]
  by_cases h : p.1 = k
  · simp [h]
  · simp [h]
theorem hasE_val (kvs : List (κ × ν)) (k : κ) : hasE kvs k = (valE kvs k).isSome := by
  induction kvs with
  | nil => rfl
  | cons p kvs ih =>
    rw [valE_cons]
    unfold hasE at ih ⊢
    rw [List.any_cons, ih]
    by_cases h : p.1 = k <;> simp [h]
theorem hasE_iff (kvs : List (κ × ν)) (k : κ) : hasE kvs k = true ↔ k ∈ keysE kvs := by
  unfold hasE keysE
  rw [List.any_eq_true, List.mem_map]
  constructor
  · rintro ⟨p, hp, e⟩
    exact ⟨p, hp, of_decide_eq_true e⟩
  · rintro ⟨p, hp, e⟩
    exact ⟨p, hp, decide_eq_true e⟩
theorem valE_put (kvs : List (κ × ν)) (k j : κ) (v : ν) : valE (putE kvs k v) j = if k = j then some v else valE kvs j := by
  unfold putE
  by_cases h : hasE kvs k = true
  · rw [if_pos h]
    induction kvs with
    | nil => simp [hasE] at h
    | cons p kvs ih =>
      rw [List.map_cons, valE_cons, valE_cons]
      by_cases hp : p.1 = k
      · rw [if_pos hp]
        by_cases hj : k = j
        · simp [hp, hj]
        · have : ¬ p.1 = j := fun e => hj (hp.symm.trans e)
          dsimp only
          rw [if_neg this, if_neg hj, if_neg this]
          by_cases h2 : hasE kvs k = true
          · rw [ih h2, if_neg hj]
          · clear ih h
            have h3 : ∀ q ∈ kvs, ¬ q.1 = k := fun q hq e => h2 (by unfold hasE; exact List.any_eq_true.mpr ⟨q, hq, by simp [e]⟩)
            have e4 : (kvs.map fun p => if p.1 = k then (p.1, v) else p) = kvs := by
              rw [List.map_congr_left (g := id) fun q hq => by rw [if_neg (h3 q hq)]; rfl, List.map_id]
            rw [e4]
      · rw [if_neg hp]
        by_cases h2 : hasE kvs k = true
        · rw [ih h2]
          by_cases hj : k = j
          · have : ¬ p.1 = j := fun e => hp (e.trans hj.symm)
            rw [if_neg this, if_pos hj, if_pos hj]
          · rw [if_neg hj, if_neg hj]
        · exfalso
          unfold hasE at h h2
          rw [List.any_cons] at h
          simp [hp] at h
          apply h2
          obtain ⟨b, hb⟩ := h
          exact List.any_eq_true.mpr ⟨(k, b), hb, by simp⟩
  · rw [if_neg h]
    induction kvs with
    | nil => rw [List.nil_append, valE_cons]
    | cons p kvs ih =>
      rw [List.cons_append, valE_cons, valE_cons]
      have hp : ¬ p.1 = k := fun e => h (by unfold hasE; rw [List.any_cons]; simp [e])
      have h2 : ¬ hasE kvs k = true := fun e => h (by unfold hasE at e ⊢; rw [List.any_cons, e, Bool.or_true])
      rw [ih h2]
      by_cases hj : k = j
      · have : ¬ p.1 = j := fun e => hp (e.trans hj.symm)
        rw [if_neg this, if_pos hj, if_pos hj]
      · rw [if_neg hj, if_neg hj]
theorem keysE_put (kvs : List (κ × ν)) (k : κ) (v : ν) : keysE (putE kvs k v) = if hasE kvs k = true then keysE kvs else keysE kvs ++ [k] := by
  unfold putE
  split
  · unfold keysE
    rw [List.map_map]
    refine List.map_congr_left fun p _ => ?_
    show (if p.1 = k then (p.1, v) else p).1 = p.1
    split <;> rfl
  · unfold keysE
    rw [List.map_append]
    rfl
theorem hasE_put (kvs : List (κ × ν)) (k j : κ) (v : ν) : hasE (putE kvs k v) j = (hasE kvs j || decide (k = j)) := by
  rw [hasE_val, hasE_val, valE_put]
  by_cases h : k = j <;> simp [h]
end
/-! ### keys -/
class EnN {κ : Type} (f : κ → D) where
  t : Bool
  n : Nat
  nk : κ → NestedKey
  key : ∀ a, nkD (f a) = some (nk a)
  tp : ∀ a, isTupK (nk a) = t
  dp : ∀ a, (nk a).depth ≤ n
  inj : ∀ a b, nk a = nk b → a = b
section
variable {κ κ' κ'' ν : Type}
instance : EnN eI where
  t := false
  n := 1
  nk := .num
  key _ := by simp [eI, nkD]
  tp _ := rfl
  dp _ := by simp [NestedKey.depth]
  inj a b h := by cases h; rfl
instance (f : κ → D) (g : κ' → D) [i : EnN f] [j : EnN g] : EnN (eP f g) where
  t := true
  n := i.n + j.n + 1
  nk p := .tup [i.nk p.1, j.nk p.2]
  key p := by simp [eP, nkD, nkDs, i.key, j.key]
  tp _ := rfl
  dp p := by
    have h1 := i.dp p.1
    have h2 := j.dp p.2
    simp [NestedKey.depth, NestedKey.depthAll]
    omega
  inj p q h := by
    injection h with h
    injection h with h1 h
    injection h with h2
    exact Prod.ext (i.inj _ _ h1) (j.inj _ _ h2)
end
section
variable {κ ν α : Type} [DecidableEq κ] {t : Bool} {f : κ → D} {g : ν → D} {cl : Cl} {b : Bool} {τ τ' : Tau} {E : Xn → Tau → Prop} {K : O → Tau → Prop}
theorem key_E (f : κ → D) [EnN f] (ht : EnN.t f = t) (h : EnN.n f ≤ 8) (a : κ) : keyOf t (f a) = some (EnN.nk f a) := by
  unfold keyOf
  rw [EnN.key (f := f) a]
  have h1 := EnN.tp (f := f) a
  have h2 := Nat.le_trans (EnN.dp (f := f) a) h
  show (if (isTupK (EnN.nk f a) == t && decide ((EnN.nk f a).depth ≤ 8)) = true then _ else _) = _
  rw [if_pos (by rw [h1, ht]; simp [h2])]
def kvL (f : κ → D) (g : ν → D) (kvs : List (κ × ν)) : List (D × D) := kvs.map fun p => (f p.1, g p.2)
def eM (t : Bool) (f : κ → D) (g : ν → D) (kvs : List (κ × ν)) : D := dictD t (kvL f g kvs)
def oM (t : Bool) (f : κ → D) (g : ν → D) (kvs : List (κ × ν)) : O := .m t (kvL f g kvs)
theorem oM_data (kvs : List (κ × ν)) : (oM t f g kvs).data = eM t f g kvs := by unfold oM; rw [O.data]; rfl
theorem slotM {v x : List (κ × ν)} (h : v = x) : oM t f g v = oM t f g x := by rw [h]
theorem view_m {kvs : List (κ × ν)} : View (oM t f g kvs) (eM t f g kvs) := ⟨rfl, oM_data kvs⟩
variable [EnN f]
theorem hit_E (ht : EnN.t f = t) (h : EnN.n f ≤ 8) (a : κ) (p : κ × ν) : hitK t (EnN.nk f a) (f p.1, g p.2) = decide (p.1 = a) := by
  unfold hitK
  rw [key_E f ht h]
  by_cases c : p.1 = a
  · simp [c]
  · have : ¬ EnN.nk f p.1 = EnN.nk f a := fun e => c (EnN.inj _ _ e)
    simp [c, this]
theorem any_E (ht : EnN.t f = t) (h : EnN.n f ≤ 8) (kvs : List (κ × ν)) (a : κ) : (kvL f g kvs).any (hitK t (EnN.nk f a)) = hasE kvs a := by
  unfold kvL hasE
  rw [List.any_map]
  congr 1
  funext p
  exact hit_E ht h a p
theorem val_E (ht : EnN.t f = t) (h : EnN.n f ≤ 8) (a : κ) : ∀ kvs : List (κ × ν), valD t (kvL f g kvs) (EnN.nk f a) = (valE kvs a).map g
  | [] => rfl
  | p :: kvs => by
    have ih := val_E ht h a kvs
    rw [valE_cons]
    unfold valD kvL at ih ⊢
    rw [List.map_cons, List.find?_cons, hit_E ht h]
    by_cases c : p.1 = a
    · simp [c]
    · simp only [c, decide_false, if_false]
      exact ih
theorem set_E (ht : EnN.t f = t) (h : EnN.n f ≤ 8) (kvs : List (κ × ν)) (a : κ) (v : ν) : setD t (kvL f g kvs) (f a) (EnN.nk f a) (g v) = kvL f g (putE kvs a v) := by
  unfold setD putE
  rw [any_E ht h]
  split
  · unfold kvL
    rw [List.map_map, List.map_map]
    refine List.map_congr_left fun p _ => ?_
    show (if hitK t (EnN.nk f a) (f p.1, g p.2) = true then _ else _) = _
    rw [hit_E ht h]
    by_cases c : p.1 = a
    · simp [c]
    · simp [c]
  · unfold kvL
    rw [List.map_append]
    rfl
/-- what is seen as a dict -/
def DV (o : O) (t : Bool) (f : κ → D) (g : ν → D) (kvs : List (κ × ν)) : Prop := dictO o = some (t, kvL f g kvs)
omit [EnN f] [DecidableEq κ] in
theorem dv_O (kvs : List (κ × ν)) : DV (oM t f g kvs) t f g kvs := rfl
theorem dv_D (kvs : List (κ × ν)) (ht : EnN.t f = t := by rfl) (h : EnN.n f ≤ 8 := by decide) : DV (.d (eM t f g kvs)) t f g kvs := by
  unfold DV eM dictD dictL
  cases t with
  | true => rfl
  | false =>
    cases kvs with
    | nil => rfl
    | cons p kvs =>
      obtain ⟨i, hi, _⟩ := key_num (key_E f ht h p.1)
      show dictO (.d (.dict ((f p.1, g p.2) :: kvL f g kvs))) = some (false, (f p.1, g p.2) :: kvL f g kvs)
      rw [hi]
      rfl
/-! ### rules -/
theorem g_dnew (k : K (oM t f g ([] : List (κ × ν))) τ) : G (evalG cl b (.dnew t) τ) K E := by rw [evalG]; exact k
theorem g_dix {a k : Mir.E} (h : G (evalG cl k.pure a τ) (fun o τ1 => G (evalG cl true k τ1) (fun y τ2 => ∃ d, dixF o y.data = some (.d d) ∧ K (.d d) τ2) E) E) : G (evalG cl b (.dix a k) τ) K E := by
  rw [evalG]
  refine G.bind (h.imp ?_ fun _ _ q => q)
  intro x τ1 h2
  refine G.bind (h2.imp ?_ fun _ _ q => q)
  rintro y τ2 ⟨d, hd, kk⟩
  rw [hd]
  exact kk
theorem dix_E {o : O} {kvs : List (κ × ν)} {a : κ} {v : ν} (hv : DV o t f g kvs) (e : valE kvs a = some v) (ht : EnN.t f = t := by rfl) (h : EnN.n f ≤ 8 := by decide) : dixF o (f a) = some (.d (g v)) := by
  unfold dixF
  rw [hv]
  dsimp only
  rw [key_E f ht h]
  dsimp only
  rw [val_E ht h, e]
  rfl
theorem g_din {neg : Bool} {k a : Mir.E} (h : G (evalG cl a.pure k τ) (fun y τ1 => G (evalG cl true a τ1) (fun o τ2 => ∃ r, dinF neg y.data o = some r ∧ K (.d (eB r)) τ2) E) E) : G (evalG cl b (.din neg k a) τ) K E := by
  rw [evalG]
  refine G.bind (h.imp ?_ fun _ _ q => q)
  intro x τ1 h2
  refine G.bind (h2.imp ?_ fun _ _ q => q)
  rintro y τ2 ⟨d, hd, kk⟩
  rw [hd]
  exact kk
theorem din_E {o : O} {kvs : List (κ × ν)} {a : κ} (hv : DV o t f g kvs) (ht : EnN.t f = t := by rfl) (h : EnN.n f ≤ 8 := by decide) : dinF false (f a) o = some (hasE kvs a) := by
  unfold dinF
  rw [hv]
  dsimp only
  rw [key_E f ht h]
  dsimp only
  rw [any_E ht h, Bool.bne_false]
theorem dni_E {o : O} {kvs : List (κ × ν)} {a : κ} (hv : DV o t f g kvs) (ht : EnN.t f = t := by rfl) (h : EnN.n f ≤ 8 := by decide) : dinF true (f a) o = some (!hasE kvs a) := by
  unfold dinF
  rw [hv]
  dsimp only
  rw [key_E f ht h]
  dsimp only
  rw [any_E ht h, Bool.bne_true]
theorem g_locm {i : Nat} {kvs : List (κ × ν)} (hb : b = false) (h : getO τ i = some (oM t f g kvs)) (k : K (.d (eM t f g kvs)) (τ.set i (some (.d (eM t f g kvs))))) : G (evalG cl b (.loc i) τ) K E := by
  subst hb
  rw [ev_loc, h]
  show K (.d (oM t f g kvs).data) (τ.set i (some (.d (oM t f g kvs).data)))
  rw [oM_data]
  exact k
theorem it_dct {a : Mir.E} {KI : List D → Tau → Prop} (h : G (evalG cl b a τ) (fun o τ1 => ∃ ds, (dctF b o).map (fun l => l.map (·.1)) = some ds ∧ KI ds τ1) E) : G (evalIt cl b (.dct a) τ) KI E := by
  rw [evalIt]
  refine G.bind (h.imp ?_ fun _ _ q => q)
  rintro o τ1 ⟨ds, hd, k⟩
  obtain ⟨l, e1, e2⟩ := Option.map_eq_some_iff.mp hd
  rw [e1]
  subst e2
  exact k
theorem dct_E {o : O} {kvs : List (κ × ν)} (hv : DV o t f g kvs) (hv2 : DV (.d o.data) t f g kvs) : (dctF b o).map (fun l => l.map (·.1)) = some ((keysE kvs).map f) := by
  have e : (kvL f g kvs).map (·.1) = (keysE kvs).map f := by
    unfold kvL keysE
    rw [List.map_map, List.map_map]
    rfl
  unfold dctF
  cases b with
  | true =>
    rw [if_pos rfl, hv]
    show some ((kvL f g kvs).map (·.1)) = _
    rw [e]
  | false =>
    rw [if_neg Bool.false_ne_true, hv2]
    show some ((kvL f g kvs).map (·.1)) = _
    rw [e]
theorem dct_O (kvs : List (κ × ν)) (ht : EnN.t f = t := by rfl) (h : EnN.n f ≤ 8 := by decide) : (dctF b (oM t f g kvs)).map (fun l => l.map (·.1)) = some ((keysE kvs).map f) := dct_E (dv_O kvs) (by rw [oM_data]; exact dv_D kvs ht h)
theorem dct_D (kvs : List (κ × ν)) (ht : EnN.t f = t := by rfl) (h : EnN.n f ≤ 8 := by decide) : (dctF b (.d (eM t f g kvs))).map (fun l => l.map (·.1)) = some ((keysE kvs).map f) := dct_E (dv_D kvs ht h) (by rw [O.data]; exact dv_D kvs ht h)
/-! dict comprehensions: the list of their pairs, stored from the left -/
omit [DecidableEq κ] [EnN f] in
theorem pairTurn (k v : Mir.E) (τ : Tau) : ((evalG cl false (.tup (.cons k (.cons v .nil))) τ).andThen fun y τ => .ok (some y) τ : R (Option O)) = (evalG cl false k τ).andThen fun y τ => (evalG cl false v τ).andThen fun z τ => .ok (some (mkPair y z)) τ := by
  rw [evalG, evalOs]
  cases evalG cl false k τ with
  | ok y τ1 =>
    rw [R.andThen_ok, R.andThen_ok, evalOs]
    cases evalG cl false v τ1 with
    | ok z τ2 => rw [R.andThen_ok, R.andThen_ok, evalOs]; rfl
    | ex x τ2 => rfl
    | st => rfl
  | ex x τ1 => rfl
  | st => rfl
theorem pairs_E (ht : EnN.t f = t) (h : EnN.n f ≤ 8) : ∀ (ys acc : List (κ × ν)), pairsD t (kvL f g acc) (ys.map (eP f g)) = some (kvL f g (ys.foldl (fun acc p => putE acc p.1 p.2) acc))
  | [], acc => rfl
  | y :: ys, acc => by
    rw [List.map_cons, pairsD, List.foldl_cons]
    have e : pairD t (kvL f g acc) (eP f g y) = some (kvL f g (putE acc y.1 y.2)) := by
      unfold eP
      rw [pairD, key_E f ht h, Option.map_some, set_E ht h]
    rw [e]
    exact pairs_E ht h ys _
theorem g_dcomp {tg : T} {vs : List Nat} {it : Mir.It} {cs : Es} {k v : Mir.E} (hp : (cs.pure && (k.pure && (v.pure && true))) = true) (h : G (evalG cl b (.comp tg vs it cs (.tup (.cons k (.cons v .nil))) false) τ) (fun o τ1 => ∃ ys : List (κ × ν), o = oL (eP f g) ys ∧ K (oM t f g (dictE ys)) τ1) E) (ht : EnN.t f = t := by rfl) (hn : EnN.n f ≤ 8 := by decide) : G (evalG cl b (.dcomp t tg vs it cs k v) τ) K E := by
  rw [evalG, restore_f] at h
  have ep : (cs.pure && (Mir.E.tup (.cons k (.cons v .nil))).pure) = true := by rw [E.pure, Es.pure, Es.pure, Es.pure]; exact hp
  rw [ep] at h
  rw [evalG]
  have ef : (fun τ => (evalTests cl cs τ).andThen fun c τ => if c = true then (evalG cl false k τ).andThen fun y τ => (evalG cl false v τ).andThen fun z τ => R.ok (some (mkPair y z)) τ else .ok none τ) = (fun τ => (evalTests cl cs τ).andThen fun c τ => if c = true then (evalG cl false (.tup (.cons k (.cons v .nil))) τ).andThen fun y τ => R.ok (some y) τ else .ok none τ) := by
    funext τ
    congr 1
    funext c τ
    rw [pairTurn]
  cases e : evalIt cl true it τ with
  | st => rw [e] at h; exact h.elim
  | ex x τ1 => rw [e] at h; exact h
  | ok xs τ1 =>
    rw [e] at h
    rw [R.andThen_ok] at h ⊢
    by_cases hs : (it.isSeq || decide (xs.length ≤ lim)) = false
    · rw [if_pos hs] at h; exact h.elim
    rw [if_neg hs] at h ⊢
    rw [ef]
    generalize noEx (compL _ _ xs (wipeT τ1 vs)) = r at h ⊢
    cases r with
    | st => exact h.elim
    | ex x τ2 => exact h
    | ok os τ2 =>
      rw [R.andThen_ok] at h ⊢
      obtain ⟨ys, eo, kk⟩ := h
      have e2 : O.datas os = ys.map (eP f g) := by
        unfold oL at eo
        injection eo with eo
        rw [eo, datas_eq, List.map_map]
        rfl
      have e3 := pairs_E (g := g) ht hn ys []
      rw [e2]
      have e4 : pairsD t [] (ys.map (eP f g)) = some (kvL f g (dictE ys)) := e3
      rw [e4]
      exact kk
/-! stores -/
variable {Q : F → Prop} {ss : List Mir.S}
theorem s_dput {i : Nat} {kx e : Mir.E} (h : G (evalG cl false e τ) (fun y τ1 => ∃ t0 kvs0, getO τ1 i = some (.m t0 kvs0) ∧ G (evalG cl false kx τ1) (fun x τ2 => ∃ t kvs o3, getO τ2 i = some (.m t kvs) ∧ dputF t kvs x.data y.data = some o3 ∧ ∃ τ3, τ2.set i (some o3) = τ3 ∧ SW (evalSs cl ss τ3) Q) (X Q)) (X Q)) : SW (evalSs cl (.dput i kx e :: ss) τ) Q := by
  refine s_cons (by rw [evalS]) (seq_toF (G.imp h ?_ fun _ _ q => q))
  rintro y τ1 ⟨t0, kvs0, h1, h2⟩
  rw [h1]
  refine seq_toF (G.imp h2 ?_ fun _ _ q => q)
  rintro x τ2 ⟨t, kvs, o3, h3, h4, τ3, rfl, k⟩
  rw [h3]
  show Q (F.seq (match dputF t kvs x.data y.data with | some o => .nx (τ2.set i (some o)) | none => .st) _)
  rw [h4]
  exact k
theorem dput_E {kvs ys : List (κ × ν)} {a : κ} {v : ν} (hd : dputE kvs a v = some ys) (ht : EnN.t f = t := by rfl) (h : EnN.n f ≤ 8 := by decide) : dputF t (kvL f g kvs) (f a) (g v) = some (oM t f g ys) := by
  unfold dputE at hd
  split at hd
  · rename_i hl
    cases hd
    unfold dputF
    rw [key_E f ht h]
    dsimp only
    rw [if_pos (by unfold kvL; rw [List.length_map]; exact hl), set_E ht h]
    rfl
  · cases hd
theorem s_daug {i : Nat} {op : Operator} {kx e : Mir.E} {t0 : Bool} {kvs0 : List (D × D)} (h0 : getO τ i = some (.m t0 kvs0)) (h : G (evalG cl false kx τ) (fun x τ1 => ∃ t kvs kk v, getO τ1 i = some (.m t kvs) ∧ keyOf t x.data = some kk ∧ valD t kvs kk = some v ∧ G (evalG cl true e τ1) (fun y τ2 => ∃ z t2 kvs2 o3, augF op v y.data = some z ∧ getO τ2 i = some (.m t2 kvs2) ∧ dputF t2 kvs2 x.data z = some o3 ∧ ∃ τ3, τ2.set i (some o3) = τ3 ∧ SW (evalSs cl ss τ3) Q) (X Q)) (X Q)) : SW (evalSs cl (.daug i op kx e :: ss) τ) Q := by
  refine s_cons (by rw [evalS]) ?_
  rw [h0]
  refine seq_toF (G.imp h ?_ fun _ _ q => q)
  rintro x τ1 ⟨t, kvs, kk, v, h1, h2, h3, h4⟩
  rw [h1]
  dsimp only
  rw [h2]
  dsimp only
  rw [h3]
  refine seq_toF (G.imp h4 ?_ fun _ _ q => q)
  rintro y τ2 ⟨z, t2, kvs2, o3, h5, h6, h7, τ3, rfl, k⟩
  rw [h5]
  dsimp only
  rw [h6]
  dsimp only
  rw [h7]
  exact k
theorem daug_key (kvs : List (κ × ν)) (a : κ) (ht : EnN.t f = t := by rfl) (h : EnN.n f ≤ 8 := by decide) : keyOf t (f a) = some (EnN.nk f a) := key_E f ht h a
theorem daug_val {kvs : List (κ × ν)} {a : κ} {v : ν} (e : valE kvs a = some v) (ht : EnN.t f = t := by rfl) (h : EnN.n f ≤ 8 := by decide) : valD t (kvL f g kvs) (EnN.nk f a) = some (g v) := by rw [val_E ht h, e]; rfl
/-! dict(a list of pairs), == -/
def listO {α : Type} (xs : List α) : Option Unit := if xs.length ≤ lim then some () else none
theorem g_dof {a : Mir.E} (h : G (evalG cl true a τ) (fun o τ1 => ∃ r, dofF t o = some r ∧ K r τ1) E) : G (evalG cl b (.dof t a) τ) K E := by
  rw [evalG]
  refine G.bind (h.imp ?_ fun _ _ q => q)
  rintro o τ1 ⟨r, hr, k⟩
  rw [hr]
  exact k
theorem dof_E {o : O} {ys : List (κ × ν)} {u : Unit} (ho : View o (eL (eP f g) ys)) (hl : listO ys = some u) (ht : EnN.t f = t := by rfl) (h : EnN.n f ≤ 8 := by decide) : dofF t o = some (oM t f g (dictE ys)) := by
  unfold listO at hl
  split at hl
  · rename_i hle
    unfold dofF
    rw [ho.1, ho.2]
    show (if (ys.map (eP f g)).length ≤ lim then _ else _) = _
    rw [if_pos (by rw [List.length_map]; exact hle)]
    have e3 := pairs_E (g := g) ht h ys []
    have e4 : pairsD t [] (ys.map (eP f g)) = some (kvL f g (dictE ys)) := e3
    rw [e4]
    rfl
  · cases hl
def eqME [DecidableEq ν] (kvs kvs2 : List (κ × ν)) : Bool := decide (kvs.length = kvs2.length) && kvs.all fun p => decide (valE kvs2 p.1 = some p.2)
theorem g_deq {neg : Bool} {a c : Mir.E} (h : G (evalG cl c.pure a τ) (fun x τ1 => G (evalG cl true c τ1) (fun y τ2 => ∃ r, deqF neg x y = some r ∧ K (.d (eB r)) τ2) E) E) : G (evalG cl b (.deq neg a c) τ) K E := by
  rw [evalG]
  refine G.bind (h.imp ?_ fun _ _ q => q)
  intro x τ1 h2
  refine G.bind (h2.imp ?_ fun _ _ q => q)
  rintro y τ2 ⟨d, hd, kk⟩
  rw [hd]
  exact kk
theorem ents_E [DecidableEq ν] [En g] (ht : EnN.t f = t) (h : EnN.n f ≤ 8) (hg : En.n g ≤ 40) (kvs2 : List (κ × ν)) : ∀ kvs : List (κ × ν), eqEnts t (kvL f g kvs2) (kvL f g kvs) = some (kvs.all fun p => decide (valE kvs2 p.1 = some p.2))
  | [] => rfl
  | p :: kvs => by
    have e : eqEnt t (kvL f g kvs2) (f p.1, g p.2) = some (decide (valE kvs2 p.1 = some p.2)) := by
      unfold eqEnt
      rw [key_E f ht h]
      dsimp only
      rw [val_E ht h]
      cases hv : valE kvs2 p.1 with
      | none => simp
      | some v =>
        have h1 := En.le (f := g) p.2
        have h2 := En.le (f := g) v
        show (if (PyData.plain (g p.2) && PyData.plain (g v) && okDepth (g p.2) (g v)) = true then some (PyData.eqv (g p.2) (g v)) else none) = _
        rw [if_pos (by rw [En.plain, En.plain]; unfold okDepth; simp; omega), En.eqv]
        congr 1
        by_cases e : p.2 = v
        · simp [e]
        · have : ¬ v = p.2 := fun z => e z.symm
          simp [e, this]
    have ec : kvL f g (p :: kvs) = (f p.1, g p.2) :: kvL f g kvs := rfl
    rw [ec, eqEnts, e, List.all_cons]
    cases hd : decide (valE kvs2 p.1 = some p.2) with
    | true => rw [Bool.true_and]; exact ents_E ht h hg kvs2 kvs
    | false => rw [Bool.false_and]
theorem deq_E [DecidableEq ν] [En g] {x y : O} {kvs kvs2 : List (κ × ν)} (neg : Bool) (hx : DV x t f g kvs) (hy : DV y t f g kvs2) (ht : EnN.t f = t := by rfl) (h : EnN.n f ≤ 8 := by decide) (hg : En.n g ≤ 40 := by decide) : deqF neg x y = some (eqME kvs kvs2 != neg) := by
  unfold deqF
  rw [hx, hy]
  dsimp only
  rw [if_pos rfl]
  have e1 : (kvL f g kvs).length = kvs.length := by unfold kvL; rw [List.length_map]
  have e2 : (kvL f g kvs2).length = kvs2.length := by unfold kvL; rw [List.length_map]
  rw [e1, e2]
  unfold eqME
  by_cases hl : kvs.length = kvs2.length
  · rw [if_pos hl, ents_E ht h hg, decide_eq_true hl, Bool.true_and]
    rfl
  · rw [if_neg hl, decide_eq_false hl, Bool.false_and]
    cases neg <;> rfl
/-! two stores at once, into dicts that are not asked any more -/
def roomO {α : Type} (xs : List α) : Option Unit := if xs.length < lim then some () else none
def oX (t : Bool) (f : κ → D) (g : ν → D) [EnN f] (kvs : List (κ × ν)) (a : κ) (v : D) : O := .m t (setD t (kvL f g kvs) (f a) (EnN.nk f a) v)
theorem dput_X {kvs : List (κ × ν)} {a : κ} {v : D} {u : Unit} (hr : roomO kvs = some u) (ht : EnN.t f = t := by rfl) (h : EnN.n f ≤ 8 := by decide) : dputF t (kvL f g kvs) (f a) v = some (oX t f g kvs a v) := by
  unfold roomO at hr
  split at hr
  · rename_i hl
    unfold dputF
    rw [key_E f ht h]
    dsimp only
    rw [if_pos (by unfold kvL; rw [List.length_map]; exact hl)]
    rfl
  · cases hr
theorem s_dput2 {i j : Nat} {kx kx' e : Mir.E} (h : G (evalG cl false e τ) (fun y τ1 => ∃ d1 d2 t0 kvs0, y.data = .tuple [d1, d2] ∧ getO τ1 i = some (.m t0 kvs0) ∧ G (evalG cl false kx τ1) (fun x τ2 => ∃ t kvs o3 τ3, getO τ2 i = some (.m t kvs) ∧ dputF t kvs x.data d1 = some o3 ∧ τ2.set i (some o3) = τ3 ∧ ∃ t1 kvs1, getO τ3 j = some (.m t1 kvs1) ∧
    G (evalG cl false kx' τ3) (fun x2 τ4 => ∃ t kvs o5 τ5, getO τ4 j = some (.m t kvs) ∧ dputF t kvs x2.data d2 = some o5 ∧ τ4.set j (some o5) = τ5 ∧ SW (evalSs cl ss τ5) Q) (X Q)) (X Q)) (X Q)) : SW (evalSs cl (.dput2 i kx j kx' e :: ss) τ) Q := by
  refine s_cons (by rw [evalS]) (seq_toF (G.imp h ?_ fun _ _ q => q))
  rintro y τ1 ⟨d1, d2, t0, kvs0, ed, h1, h2⟩
  rw [ed]
  unfold dputS
  dsimp only
  rw [h1]
  refine seq_toF (G.imp h2 ?_ fun _ _ q => q)
  rintro x τ2 ⟨t, kvs, o3, τ3, h3, h4, rfl, t1, kvs1, h5, h6⟩
  rw [h3]
  dsimp only
  rw [h4]
  dsimp only
  rw [h5]
  refine seq_toF (G.imp h6 ?_ fun _ _ q => q)
  rintro x2 τ4 ⟨t, kvs, o5, τ5, h7, h8, rfl, k⟩
  rw [h7]
  dsimp only
  rw [h8]
  exact k
end
end Mir
set_option Elab.async false
set_option linter.all false
set_option maxRecDepth 100000
set_option maxHeartbeats 4000000
/-! Mir, part Fr: fractions in lowest terms. -/
open PySem PySem.W L2
namespace Mir
/-! the greatest common part, by two loops -/
def euC (s : Int × Int) : Option Bool := some (!decide (s.2 = (0 : Int)))
def euB (s : Int × Int) : Option (Int × Int) := (divO s.1 s.2).bind fun x => (mulO s.2 x).bind fun y => some (s.2, s.1 - y)
def elC (s : Int × Int) : Option Bool := some (decide ((0 : Int) < s.2))
def elB (s : Int × Int) : Option (Int × Int) := (modO s.1 s.2).bind fun x => some (s.2, x)
/-- Euclid's steps, two by two -/
theorem eu_nat {σ : Type} {c : σ → Option Bool} {f : σ → Option σ} (e : Nat → Nat → σ) (L : Nat) (h0 : ∀ m, c (e m 0) = some false) (h1 : ∀ m d, d ≠ 0 → c (e m d) = some true) (h2 : ∀ m d, d ≠ 0 → d < L → f (e m d) = some (e d (m % d))) :
    ∀ (k n m d : Nat), d < 2 ^ k → d < L → 2 * k + 1 ≤ n → whO c f n (e m d) = some (e (Nat.gcd m d) 0)
  | k, 0, m, d, _, _, hn => by omega
  | 0, n + 1, m, d, hd, _, hn => by
    have : d = 0 := by simpa using hd
    subst this
    rw [whO, h0, bind_s, if_neg (by decide), Nat.gcd_zero_right]
  | k + 1, n + 1, m, d, hd, hL, hn => by
    by_cases c0 : d = 0
    · subst c0
      rw [whO, h0, bind_s, if_neg (by decide), Nat.gcd_zero_right]
    · rw [whO, h1 m d c0, bind_s, if_pos rfl, h2 m d c0 hL, bind_s]
      have hr := Nat.mod_lt m (Nat.pos_of_ne_zero c0)
      have eg : Nat.gcd d (m % d) = Nat.gcd m d := by rw [Nat.gcd_comm d, ← Nat.gcd_rec, Nat.gcd_comm]
      obtain ⟨n', rfl⟩ : ∃ n', n = n' + 1 := ⟨n - 1, by omega⟩
      by_cases c1 : m % d = 0
      · rw [c1] at eg ⊢
        rw [whO, h0, bind_s, if_neg (by decide), ← eg, Nat.gcd_zero_right]
      · rw [whO, h1 _ _ c1, bind_s, if_pos rfl, h2 _ _ c1 (by omega), bind_s]
        have hr2 := Nat.mod_lt d (Nat.pos_of_ne_zero c1)
        have hh : d % (m % d) < 2 ^ k := by
          have q := Nat.div_add_mod d (m % d)
          have q1 : 1 ≤ d / (m % d) := Nat.div_pos (by omega) (by omega)
          have q2 : m % d ≤ (m % d) * (d / (m % d)) := Nat.le_mul_of_pos_right _ q1
          rw [Nat.pow_succ] at hd
          omega
        rw [eu_nat e L h0 h1 h2 k n' _ _ hh (by omega) (by omega)]
        have eg2 : Nat.gcd (m % d) (d % (m % d)) = Nat.gcd m d := by rw [Nat.gcd_comm (m % d), ← Nat.gcd_rec]; exact (Nat.gcd_comm _ _).trans eg
        rw [eg2]
theorem el_law (t b : Int) (hb : b.natAbs < 1073741824) : whO elC elB wfuel (absI t, absI b) = some ((Int.gcd t b : Int), 0) := by
  have e : ∀ i : Int, absI i = (i.natAbs : Int) := fun i => by unfold absI; split <;> omega
  rw [e, e]
  refine eu_nat (fun m d => ((m : Int), (d : Int))) (b.natAbs + 1) (fun m => ?_) (fun m d h => ?_) (fun m d h hl => ?_) 30 wfuel t.natAbs b.natAbs hb (by omega) (by unfold wfuel; omega)
  · simp [elC]
  · simp [elC]; omega
  · unfold elB
    simp only
    rw [mod_eq (by omega), bind_s]
    simp
theorem eu_sgn (s : Int) (hs : s = 1 ∨ s = -1) (m d : Nat) (hd : d < 1073741824) : whO euC euB 999999 (s * (m : Int), s * (d : Int)) = some (s * (Nat.gcd m d : Int), 0) := by
  have := eu_nat (c := euC) (f := euB) (fun m d => (s * (m : Int), s * (d : Int))) 1073741824 (fun m => ?_) (fun m d h => ?_) (fun m d h hl => ?_) 30 999999 m d hd hd (by omega)
  · simpa using this
  · simp [euC]
  · have : s * (d : Int) ≠ 0 := by rcases hs with e | e <;> subst e <;> omega
    simp [euC, this]
  · unfold euB
    simp only
    have h0 : s * (d : Int) ≠ 0 := by rcases hs with e | e <;> subst e <;> omega
    rw [div_eqN ⟨h0, by rcases hs with e | e <;> subst e <;> omega⟩, bind_s]
    have q : (s * (m : Int)).fdiv (s * (d : Int)) = ((m / d : Nat) : Int) := by
      rcases hs with e | e <;> subst e
      · rw [Int.one_mul, Int.one_mul, Int.fdiv_eq_ediv_of_nonneg _ (by omega)]; simp
      · rw [Int.neg_mul, Int.neg_mul, Int.one_mul, Int.one_mul, Int.neg_fdiv_neg, Int.fdiv_eq_ediv_of_nonneg _ (by omega)]; simp
    have z := Nat.div_add_mod m d
    rw [q, mul_eq (by left; rcases hs with e | e <;> subst e <;> omega), bind_s]
    congr 2
    have : ((m % d : Nat) : Int) = (m : Int) - (d : Int) * ((m / d : Nat) : Int) := by rw [← Int.natCast_mul]; omega
    rw [this, Int.mul_sub, Int.mul_assoc]
theorem eu_law (a b : Int) (hb : b.natAbs < 1073741824) : ∃ g, whO euC euB wfuel (a, b) = some (g, 0) ∧ g.natAbs = Int.gcd a b := by
  have ew : wfuel = 999999 + 1 := rfl
  rw [ew]
  by_cases h0 : b = 0
  · subst h0
    exact ⟨a, by rw [whO]; rfl, by simp⟩
  · have e1 : euC (a, b) = some true := by simp [euC, h0]
    have e2 : euB (a, b) = some (b, a.fmod b) := by
      unfold euB
      simp only
      rw [div_eqN ⟨h0, hb⟩, bind_s, mul_eq (by left; omega), bind_s, Int.fmod_def]
    rw [whO, e1, bind_s, if_pos rfl, e2, bind_s]
    have eg : Int.gcd b (a.fmod b) = Int.gcd a b := by
      rw [Int.fmod_def, Int.gcd_comm a b]
      apply Nat.dvd_antisymm
      · have h1 := Int.gcd_dvd_left (a := b) (b := a - b * a.fdiv b)
        have h2 := Int.gcd_dvd_right (a := b) (b := a - b * a.fdiv b)
        refine Int.dvd_gcd h1 ?_
        have := Int.dvd_add h2 (Int.dvd_mul_of_dvd_left (b := b) (c := a.fdiv b) h1)
        simpa using this
      · have h1 := Int.gcd_dvd_left (a := b) (b := a)
        have h2 := Int.gcd_dvd_right (a := b) (b := a)
        exact Int.dvd_gcd h1 (Int.dvd_sub h2 (Int.dvd_mul_of_dvd_left h1))
    rcases Int.lt_or_gt_of_ne h0 with hn | hp
    · have hr1 := Int.fmod_nonneg_of_pos (-a) (b := -b) (by omega)
      have hr2 := Int.fmod_lt_of_pos (-a) (b := -b) (by omega)
      rw [Int.neg_fmod_neg] at hr1 hr2
      have := eu_sgn (-1) (.inr rfl) b.natAbs (a.fmod b).natAbs (by omega)
      rw [show (-1 : Int) * (b.natAbs : Int) = b by omega, show (-1 : Int) * ((a.fmod b).natAbs : Int) = a.fmod b by omega] at this
      exact ⟨_, this, by rw [← eg]; show (-1 * ((Int.gcd b (a.fmod b) : Nat) : Int)).natAbs = _; omega⟩
    · have hr1 := Int.fmod_nonneg_of_pos a hp
      have hr2 := Int.fmod_lt_of_pos a hp
      have := eu_sgn 1 (.inl rfl) b.natAbs (a.fmod b).natAbs (by omega)
      rw [Int.one_mul, Int.one_mul, Int.one_mul, show ((b.natAbs : Nat) : Int) = b by omega, show (((a.fmod b).natAbs : Nat) : Int) = a.fmod b by omega] at this
      exact ⟨_, this, by rw [← eg]; rfl⟩

/-- a quotient in lowest terms -/
def fr (q : Rat) : Int × Int := (q.num, (q.den : Int))
theorem fr_div {t b s : Int} (hb : b ≠ 0) (hs : s = if 0 < b then 1 else -1) : fr (Rat.divInt t b) = ((s * t) / (Int.gcd t b : Int), (s * b) / (Int.gcd t b : Int)) := by
  unfold fr
  rw [Rat.num_divInt, Rat.den_divInt, if_neg hb, Int.gcd_comm b t]
  have e : b.sign = s := by
    rw [hs]
    split
    · rename_i h; exact Int.sign_eq_one_of_pos h
    · exact Int.sign_eq_neg_one_of_neg (by omega)
  rw [e]
  congr 1
  have : s * b = (b.natAbs : Int) := by rw [hs]; split <;> omega
  rw [this]
  exact Int.natCast_ediv _ _
theorem gcd_le {t b : Int} (h : b ≠ 0) : 0 < Int.gcd t b ∧ Int.gcd t b ≤ b.natAbs := ⟨Int.gcd_pos_of_ne_zero_right _ h, Nat.le_of_dvd (by omega) (Int.gcd_dvd_natAbs_right _ _)⟩
theorem fdiv_ex {x g : Int} (hg : 0 < g) (h : g ∣ x) : x.fdiv g = x / g := Int.fdiv_eq_ediv_of_nonneg _ (by omega)
theorem fdiv_exN {x g : Int} (hg : 0 < g) (h : g ∣ x) : x.fdiv (-g) = (-x) / g := by
  obtain ⟨k, rfl⟩ := h
  rw [show g * k = (-g) * (-k) by rw [Int.neg_mul_neg], Int.mul_fdiv_cancel_left _ (by omega), Int.neg_mul, Int.neg_neg, Int.mul_ediv_cancel_left _ (by omega)]

section
variable (t b : Int)
/-- the program's fraction -/
def fracP : Option (Int × Int) := ((whO euC euB wfuel (b, t)).bind fun s => some (absI s.1)).bind fun r => (mulO (if decide ((0 : Int) < b) = true then 1 else -1) t).bind fun x => (divO x r).bind fun y => (mulO (if decide ((0 : Int) < b) = true then 1 else -1) b).bind fun z => (divO z r).bind fun u => some (y, u)
/-- the law's own -/
def fracL : Option (Int × Int) := ((whO elC elB wfuel (absI t, absI b)).bind fun s => some s.1).bind fun r => (mulO r (if decide ((0 : Int) < b) = true then 1 else -1)).bind fun x => (divO t x).bind fun y => (divO b x).bind fun z => some (y, z)
variable {t b}
theorem fracP_eq (hb : b ≠ 0) (ht : t.natAbs < 1073741824) (hb2 : b.natAbs < 1073741824) : fracP t b = some (fr (Rat.divInt t b)) := by
  obtain ⟨g, e, hg⟩ := eu_law b t ht
  have hl := gcd_le (t := t) hb
  have hd := Int.gcd_dvd_left (a := t) (b := b)
  have hd2 := Int.gcd_dvd_right (a := t) (b := b)
  have ha : absI g = (Int.gcd t b : Int) := by rw [Int.gcd_comm, ← hg]; unfold absI; split <;> omega
  unfold fracP
  rw [e, bind_s, bind_s, ha]
  rw [fr_div hb (s := if decide ((0 : Int) < b) = true then 1 else -1) (by simp)]
  generalize hs : (if decide ((0 : Int) < b) = true then (1 : Int) else -1) = s
  have hs1 : -1 ≤ s ∧ s ≤ 1 := by rw [← hs]; split <;> omega
  rw [mul_eq (by omega), bind_s, div_eqN (by omega), bind_s, mul_eq (by omega), bind_s, div_eqN (by omega), bind_s, fdiv_ex (by omega) (Int.dvd_mul_of_dvd_right hd), fdiv_ex (by omega) (Int.dvd_mul_of_dvd_right hd2)]
theorem fracL_eq (hb : b ≠ 0) (hb2 : b.natAbs < 1073741824) : fracL t b = some (fr (Rat.divInt t b)) := by
  have e := el_law t b hb2
  have hl := gcd_le (t := t) hb
  have hd := Int.gcd_dvd_left (a := t) (b := b)
  have hd2 := Int.gcd_dvd_right (a := t) (b := b)
  unfold fracL
  rw [e, bind_s, bind_s]
  rw [fr_div hb (s := if decide ((0 : Int) < b) = true then 1 else -1) (by simp)]
  by_cases c : 0 < b
  · simp only [c, decide_true, if_true]
    rw [mul_eq (by omega), bind_s, Int.mul_one, div_eqN (by omega), bind_s, div_eqN (by omega), bind_s, fdiv_ex (by omega) hd, fdiv_ex (by omega) hd2, Int.one_mul, Int.one_mul]
  · simp only [c, decide_false, Bool.false_eq_true, if_false]
    rw [mul_eq (by omega), bind_s, show ((Int.gcd t b : Int)) * (-1) = -(Int.gcd t b : Int) by omega, div_eqN (by omega), bind_s, div_eqN (by omega), bind_s, fdiv_exN (by omega) hd, fdiv_exN (by omega) hd2, show -1 * t = -t by omega, show -1 * b = -b by omega]
end
end Mir
set_option Elab.async false
set_option linter.all false
set_option maxRecDepth 100000
set_option maxHeartbeats 4000000
/-! Mir, part Ok: a part ends, and what then holds. -/
open PySem PySem.W L2
namespace Mir
section
variable {α β γ σ ρ : Type}
def Ok (m : Option α) (P : α → Prop) : Prop := ∃ a, m = some a ∧ P a
theorem Ok.some {a : α} {P : α → Prop} (h : P a) : Ok (some a) P := ⟨a, rfl, h⟩
theorem Ok.of {m : Option α} {a : α} {P : α → Prop} (e : m = .some a) (h : P a) : Ok m P := ⟨a, e, h⟩
theorem Ok.eq {m : Option α} {a : α} (h : Ok m (· = a)) : m = .some a := by obtain ⟨b, e, q⟩ := h; rw [e]; exact congrArg _ q
theorem Ok.to {m : Option α} {a : α} (h : m = .some a) : Ok m (· = a) := ⟨a, h, rfl⟩
theorem Ok.mono {m : Option α} {P Q : α → Prop} (h : Ok m P) (k : ∀ a, P a → Q a) : Ok m Q := by obtain ⟨a, e, p⟩ := h; exact ⟨a, e, k a p⟩
theorem Ok.bind {m : Option α} {f : α → Option β} {P : α → Prop} {Q : β → Prop} (h : Ok m P) (k : ∀ a, P a → Ok (f a) Q) : Ok (m.bind f) Q := by
  obtain ⟨a, e, p⟩ := h
  rw [e]
  exact k a p
/-- what is asked has a known answer -/
theorem Ok.bindE {m : Option α} {f : α → Option β} {a : α} {Q : β → Prop} (h : m = .some a) (k : Ok (f a) Q) : Ok (m.bind f) Q := by rw [h]; exact k
theorem Ok.letO {v : α} {f : α → Option β} {Q : β → Prop} (k : Ok (f v) Q) : Ok (letO v f) Q := k
theorem Ok.ite {c : Bool} {x y : Option α} {P : α → Prop} (h1 : c = true → Ok x P) (h2 : c = false → Ok y P) : Ok (if c = true then x else y) P := by
  cases c with
  | true => rw [if_pos rfl]; exact h1 rfl
  | false => rw [if_neg (by decide)]; exact h2 rfl
theorem Ok.t {c : Bool} {x y : Option α} {P : α → Prop} (h : c = true) (k : Ok x P) : Ok (if c = true then x else y) P := by rw [if_pos h]; exact k
theorem Ok.f {c : Bool} {x y : Option α} {P : α → Prop} (h : c = false) (k : Ok y P) : Ok (if c = true then x else y) P := by rw [h, if_neg (by decide)]; exact k
theorem Ok.and {x : Bool} {m : Option Bool} {P : Bool → Prop} (h1 : x = true → Ok m P) (h2 : x = false → P false) : Ok (andO x m) P := by
  cases x with
  | true => exact h1 rfl
  | false => exact ⟨false, rfl, h2 rfl⟩
theorem Ok.or {x : Bool} {m : Option Bool} {P : Bool → Prop} (h1 : x = false → Ok m P) (h2 : x = true → P true) : Ok (orO x m) P := by
  cases x with
  | false => exact h1 rfl
  | true => exact ⟨true, rfl, h2 rfl⟩
theorem Ok.rng {a c : Int} {P : List Int → Prop} (h : -10000000 ≤ a ∧ a ≤ 10000000 ∧ -10000000 ≤ c ∧ c ≤ 10000000 ∧ (c - a).toNat ≤ 10000000) (k : P (rngI a c)) : Ok (rngO a c) P := ⟨_, rng_eq h, k⟩
theorem Ok.mapS {f : σ → α → Option (β × σ)} (I : σ → Prop) (Pt : β → Prop) {xs : List α} {s : σ} (h : I s) (hf : ∀ s x, x ∈ xs → I s → Ok (f s x) fun p => I p.2 ∧ Pt p.1) : Ok (mapS f xs s) fun q => I q.2 ∧ q.1.length = xs.length ∧ ∀ y ∈ q.1, Pt y := by
  obtain ⟨q, h1, h2, h3, h4⟩ := mapS_ok I Pt xs s h (fun s x hx hs => hf s x hx hs)
  exact ⟨q, h1, h2, h3, h4⟩
theorem Ok.forO {f : σ → α → Option σ} (I : List α → σ → Prop) {xs : List α} {s : σ} (h0 : I [] s) (hf : ∀ dn x rest s, xs = dn ++ x :: rest → I dn s → Ok (f s x) (I (dn ++ [x]))) : Ok (forO f xs s) (I xs) := for_inv I xs s h0 hf
/-- an invariant that tells nothing of what was gone over -/
theorem Ok.forI {f : σ → α → Option σ} (I : σ → Prop) {xs : List α} {s : σ} (h0 : I s) (hf : ∀ x s, x ∈ xs → I s → Ok (f s x) I) : Ok (Mir.forO f xs s) I := for_inv (fun _ => I) xs s h0 fun dn x rest s hx hs => hf x s (by rw [hx]; simp) hs
/-- no turn leaves the loop -/
theorem Ok.forC {f : σ → α → Option (Ctl σ ρ)} (I : σ → Prop) {xs : List α} {s : σ} (h0 : I s) (hf : ∀ x s, x ∈ xs → I s → Ok (f s x) fun c => ∃ s', c = .go s' ∧ I s') : Ok (Mir.forC f xs s) fun c => ∃ s', c = .go s' ∧ I s' := by
  obtain ⟨s', h1, h2⟩ := forC_go (f := f) (fun _ => I) xs [] s h0 fun dn x rest s hx hs => by
    have hx : xs = dn ++ x :: rest := hx
    obtain ⟨c, e, s', q, i⟩ := hf x s (by rw [hx]; simp) hs
    exact ⟨s', e.trans (congrArg _ q), i⟩
  exact ⟨_, h1, s', rfl, h2⟩
theorem Ok.forCl {f : σ → α → Option (Ctl σ ρ)} (I : List α → σ → Prop) {xs : List α} {s : σ} (h0 : I [] s) (hf : ∀ dn x rest s, xs = dn ++ x :: rest → I dn s → Ok (f s x) fun c => ∃ s', c = .go s' ∧ I (dn ++ [x]) s') : Ok (Mir.forC f xs s) fun c => ∃ s', c = .go s' ∧ I xs s' := by
  obtain ⟨s', h1, h2⟩ := forC_go (f := f) I xs [] s h0 fun dn x rest s hx hs => by
    have hx : xs = dn ++ x :: rest := hx
    obtain ⟨c, e, s', q, i⟩ := hf dn x rest s hx hs
    exact ⟨s', e.trans (congrArg _ q), i⟩
  exact ⟨_, h1, s', rfl, h2⟩
/-- by a measure -/
theorem Ok.whO {c : σ → Option Bool} {f : σ → Option σ} (I : Nat → σ → Prop) (Q : σ → Prop) : ∀ (n m : Nat) (s : σ), m < n → I m s → (∀ m s, I m s → (c s = .some false ∧ Q s) ∨ (c s = .some true ∧ Ok (f s) fun s' => ∃ m', m' < m ∧ I m' s')) → Ok (whO c f n s) Q
  | 0, _, _, h, _, _ => by omega
  | n + 1, m, s, h, i, t => by
    rcases t m s i with ⟨e, q⟩ | ⟨e, s', e', m', h', i'⟩
    · exact ⟨s, by rw [Mir.whO, e]; rfl, q⟩
    · rw [Mir.whO, e, bind_s, if_pos rfl, e', bind_s]
      exact Ok.whO I Q n m' s' (by omega) i' t
theorem Ok.mapO {f : α → Option β} (g : α → β) {xs : List α} {P : List β → Prop} (h : ∀ x ∈ xs, f x = .some (g x)) (k : P (xs.map g)) : Ok (mapO f xs) P := ⟨_, mapO_eq g xs h, k⟩
theorem Ok.compO {c : α → Option Bool} {f : α → Option β} (p : α → Bool) (g : α → β) {xs : List α} {P : List β → Prop} (h : ∀ x ∈ xs, c x = .some (p x) ∧ (p x = true → f x = .some (g x))) (k : P ((xs.filter p).map g)) : Ok (compO c f xs) P := ⟨_, compO_eq p g xs h, k⟩
theorem Ok.at {xs : List α} {i : Int} {x : α} {k : Nat} {P : α → Prop} (hi : i = (k : Int)) (h : xs[k]? = .some x) (q : P x) : Ok (atI xs i) P := ⟨x, at_get hi h, q⟩
/-- any place within -/
theorem Ok.atW {xs : List α} {i : Int} {P : α → Prop} (h : 0 ≤ i ∧ i < xs.length) (q : ∀ x ∈ xs, xs[i.toNat]? = .some x → P x) : Ok (atI xs i) P := by
  have hl : i.toNat < xs.length := by omega
  exact ⟨_, at_get (k := i.toNat) (by omega) (List.getElem?_eq_getElem hl), q _ (List.getElem_mem hl) (List.getElem?_eq_getElem hl)⟩
theorem Ok.mul {i j : Int} {P : Int → Prop} (h : -1000000000000 ≤ i ∧ i ≤ 1000000000000 ∨ -1000000000000 ≤ j ∧ j ≤ 1000000000000) (q : P (i * j)) : Ok (mulO i j) P := ⟨_, mul_eq h, q⟩
theorem Ok.mod {i j : Int} {P : Int → Prop} (h : 0 < j) (q : P (i % j)) : Ok (modO i j) P := ⟨_, mod_eq h, q⟩
theorem Ok.div {i j : Int} {P : Int → Prop} (h : 0 < j ∧ j < 1073741824) (q : P (i / j)) : Ok (divO i j) P := ⟨_, div_eq h, q⟩
theorem Ok.app {xs : List α} {a : α} {P : List α → Prop} (h : xs.length < 10000000) (q : P (xs ++ [a])) : Ok (appO xs a) P := ⟨_, app_eq h, q⟩
theorem Ok.ext {xs ys : List α} {P : List α → Prop} (h : xs.length + ys.length < 10000000) (q : P (xs ++ ys)) : Ok (extO xs ys) P := ⟨_, ext_eq h, q⟩
theorem Ok.len {n : Nat} {P : Unit → Prop} (h : n ≤ 10000000) (q : P ()) : Ok (lenO n) P := ⟨_, len_eq h, q⟩
end
end Mir
set_option Elab.async false
set_option linter.all false
set_option maxRecDepth 100000
set_option maxHeartbeats 4000000
/-! Mir, part Ra: fractions as core's rationals. -/
open PySem PySem.W L2
namespace Mir
theorem divInt_mul {t b : Int} (hb : b ≠ 0) : Rat.divInt t b * (b : Rat) = (t : Rat) := by
  rw [Rat.divInt_eq_div, Rat.div_mul_cancel]
  intro h
  exact hb (Rat.intCast_eq_zero_iff.mp h)
theorem intCast_pos' {b : Int} (hb : 0 < b) : (0 : Rat) < (b : Rat) := Rat.intCast_pos.mpr hb
theorem eq_divInt {x : Rat} {t b : Int} (hb : b ≠ 0) (h : x * (b : Rat) = (t : Rat)) : x = Rat.divInt t b := by
  rw [Rat.divInt_eq_div, ← h, Rat.mul_div_cancel]
  intro h
  exact hb (Rat.intCast_eq_zero_iff.mp h)
theorem le_divInt {t b k : Int} (hb : 0 < b) (h : Rat.divInt t b ≤ (k : Rat)) : t ≤ k * b := by
  have := Rat.mul_le_mul_of_nonneg_right h (Rat.le_of_lt (intCast_pos' hb))
  rw [divInt_mul (by omega), ← Rat.intCast_mul] at this
  exact Rat.intCast_le_intCast.mp this
theorem ge_divInt {t b k : Int} (hb : 0 < b) (h : (k : Rat) ≤ Rat.divInt t b) : k * b ≤ t := by
  have := Rat.mul_le_mul_of_nonneg_right h (Rat.le_of_lt (intCast_pos' hb))
  rw [divInt_mul (by omega), ← Rat.intCast_mul] at this
  exact Rat.intCast_le_intCast.mp this
theorem fr_int (k : Int) : fr (k : Rat) = (k, 1) := rfl
/-- of small value, of small denominator -/
structure Sm (x : Rat) : Prop where
  lo : ((-1000 : Int) : Rat) ≤ x
  hi : x ≤ ((1000 : Int) : Rat)
theorem fracP_v {t b : Int} (hb : 0 < b) (hb2 : b ≤ 1000000) (h : Sm (Rat.divInt t b)) : fracP t b = some (fr (Rat.divInt t b)) := by
  have h1 := le_divInt hb h.hi
  have h2 := ge_divInt hb h.lo
  exact fracP_eq (by omega) (by omega) (by omega)
def plusP (p q : Int × Int) : Option (Int × Int) := (mulO p.1 q.2).bind fun a => (mulO q.1 p.2).bind fun b => (mulO p.2 q.2).bind fun c => (fracP (a + b) c).bind fun r => some r
def minusP (p q : Int × Int) : Option (Int × Int) := (mulO p.1 q.2).bind fun a => (mulO q.1 p.2).bind fun b => (mulO p.2 q.2).bind fun c => (fracP (a - b) c).bind fun r => some r
def timesP (p q : Int × Int) : Option (Int × Int) := (mulO p.1 q.1).bind fun a => (mulO p.2 q.2).bind fun c => (fracP a c).bind fun r => some r
theorem den_pos' (x : Rat) : 0 < (x.den : Int) := by have := x.den_pos; omega
theorem dens {x y : Rat} (hd : x.den * y.den ≤ 1000000) : 0 < (x.den : Int) * (y.den : Int) ∧ (x.den : Int) * (y.den : Int) ≤ 1000000 ∧ (x.den : Int) ≤ 1000000 ∧ (y.den : Int) ≤ 1000000 := by
  have h1 := x.den_pos
  have h2 := y.den_pos
  have h3 : x.den ≤ x.den * y.den := Nat.le_mul_of_pos_right _ h2
  have h4 : y.den ≤ x.den * y.den := Nat.le_mul_of_pos_left _ h1
  have e : (x.den : Int) * (y.den : Int) = ((x.den * y.den : Nat) : Int) := by simp
  rw [e]
  omega
theorem plusP_ok {x y : Rat} (hd : x.den * y.den ≤ 1000000) (hv : Sm (x + y)) : plusP (fr x) (fr y) = some (fr (x + y)) := by
  obtain ⟨d1, d2, d3, d4⟩ := dens hd
  have p1 := den_pos' x
  have p2 := den_pos' y
  have e : x + y = Rat.divInt (x.num * y.den + y.num * x.den) (x.den * y.den) := by
    rw [← Rat.divInt_add_divInt _ _ (by omega) (by omega), Rat.num_divInt_den, Rat.num_divInt_den]
  unfold plusP fr
  dsimp only
  rw [mul_eq (by omega), bind_s, mul_eq (by omega), bind_s, mul_eq (by omega), bind_s]
  rw [e] at hv ⊢
  rw [fracP_v d1 d2 hv]
  rfl
theorem minusP_ok {x y : Rat} (hd : x.den * y.den ≤ 1000000) (hv : Sm (x - y)) : minusP (fr x) (fr y) = some (fr (x - y)) := by
  obtain ⟨d1, d2, d3, d4⟩ := dens hd
  have p1 := den_pos' x
  have p2 := den_pos' y
  have e : x - y = Rat.divInt (x.num * y.den - y.num * x.den) (x.den * y.den) := by
    rw [← Rat.divInt_sub_divInt _ _ (by omega) (by omega), Rat.num_divInt_den, Rat.num_divInt_den]
  unfold minusP fr
  dsimp only
  rw [mul_eq (by omega), bind_s, mul_eq (by omega), bind_s, mul_eq (by omega), bind_s]
  rw [e] at hv ⊢
  rw [fracP_v d1 d2 hv]
  rfl
theorem timesP_ok {x y : Rat} (hd : x.den * y.den ≤ 1000000) (hn : -1000000000000 ≤ x.num ∧ x.num ≤ 1000000000000) (hv : Sm (x * y)) : timesP (fr x) (fr y) = some (fr (x * y)) := by
  obtain ⟨d1, d2, d3, d4⟩ := dens hd
  have p1 := den_pos' x
  have p2 := den_pos' y
  have e : x * y = Rat.divInt (x.num * y.num) (x.den * y.den) := by
    rw [← Rat.divInt_mul_divInt, Rat.num_divInt_den, Rat.num_divInt_den]
  unfold timesP fr
  dsimp only
  rw [mul_eq (by omega), bind_s, mul_eq (by omega), bind_s]
  rw [e] at hv ⊢
  rw [fracP_v d1 d2 hv]
  rfl
/-- a whole number of parts -/
def Dv (x : Rat) (d : Nat) : Prop := 0 < d ∧ ∃ z : Int, x * (d : Rat) = (z : Rat)
theorem Dv.den {x : Rat} {d : Nat} (h : Dv x d) : x.den ≤ d := by
  obtain ⟨h0, z, e⟩ := h
  have e2 : x = Rat.divInt z (d : Int) := eq_divInt (by omega) (by rw [← e]; rfl)
  rw [e2, Rat.den_divInt, if_neg (by omega)]
  exact Nat.div_le_self _ _
theorem Dv.self (x : Rat) : Dv x x.den := ⟨x.den_pos, x.num, by have := divInt_mul (t := x.num) (b := (x.den : Int)) (by have := x.den_pos; omega); rw [Rat.num_divInt_den] at this; exact this⟩
theorem Dv.int (k : Int) {d : Nat} (h : 0 < d) : Dv (k : Rat) d := ⟨h, k * (d : Int), by rw [Rat.intCast_mul]; rfl⟩
theorem Dv.sub {x y : Rat} {d : Nat} (h : Dv x d) (h' : Dv y d) : Dv (x - y) d := by
  obtain ⟨h0, z, e⟩ := h
  obtain ⟨_, z', e'⟩ := h'
  exact ⟨h0, z - z', by rw [Rat.intCast_sub, ← e, ← e']; grind⟩
theorem Dv.add {x y : Rat} {d : Nat} (h : Dv x d) (h' : Dv y d) : Dv (x + y) d := by
  obtain ⟨h0, z, e⟩ := h
  obtain ⟨_, z', e'⟩ := h'
  exact ⟨h0, z + z', by rw [Rat.intCast_add, ← e, ← e']; grind⟩
theorem Dv.mul {x y : Rat} {d d' : Nat} (h : Dv x d) (h' : Dv y d') : Dv (x * y) (d * d') := by
  obtain ⟨h0, z, e⟩ := h
  obtain ⟨h1, z', e'⟩ := h'
  exact ⟨Nat.mul_pos h0 h1, z * z', by rw [Rat.intCast_mul, ← e, ← e', Rat.natCast_mul]; grind⟩
end Mir
set_option Elab.async false
set_option linter.all false
set_option maxRecDepth 100000
set_option maxHeartbeats 4000000
/-! Mir, part Rb: how long a repr may be; sums over places. -/
open PySem PySem.W L2
namespace Mir
section
variable {α β γ : Type}
theorem wsz_I {i : Int} (h : i.natAbs < 18446744073709551616) : wsz (eI i) ≤ 65 := by
  show wsz (.int i) ≤ 65
  rw [wsz, if_pos (log_lt h)]
  exact Nat.le_refl _
theorem wsz_B (b : Bool) : wsz (eB b) ≤ 65 := by
  show wsz (.bool b) ≤ 65
  rw [wsz]
  decide
theorem wsz_P {f : α → D} {g : β → D} {p : α × β} {a b : Nat} (h1 : wsz (f p.1) ≤ a) (h2 : wsz (g p.2) ≤ b) : wsz (eP f g p) ≤ a + b + 7 := by
  show wsz (.tuple [f p.1, g p.2]) ≤ _
  rw [wsz, wszs, wszs, wszs]
  omega
theorem wsz_P3 {f : α → D} {g : β → D} {h : γ → D} {p : α × β × γ} {a b c : Nat} (h1 : wsz (f p.1) ≤ a) (h2 : wsz (g p.2.1) ≤ b) (h3 : wsz (h p.2.2) ≤ c) : wsz (eP3 f g h p) ≤ a + b + c + 9 := by
  show wsz (.tuple [f p.1, g p.2.1, h p.2.2]) ≤ _
  rw [wsz, wszs, wszs, wszs, wszs]
  omega
theorem wsz_O {f : α → D} {p : Option α} {a : Nat} (h : ∀ x, p = some x → wsz (f x) ≤ a) : wsz (eO f p) ≤ a + 4 := by
  cases p with
  | none => show wsz .none ≤ _; rw [wsz]; omega
  | some x => have := h x rfl; show wsz (f x) ≤ _; omega
theorem wszs_map {f : α → D} {a : Nat} : ∀ {xs : List α}, (∀ x ∈ xs, wsz (f x) ≤ a) → wszs (xs.map f) ≤ (a + 2) * xs.length
  | [], _ => by rw [List.map_nil, wszs]; exact Nat.zero_le _
  | x :: xs, h => by
    have h1 := h x List.mem_cons_self
    have h2 := wszs_map (xs := xs) fun y hy => h y (List.mem_cons_of_mem _ hy)
    rw [List.map_cons, wszs, List.length_cons, Nat.mul_succ]
    omega
theorem wsz_L {f : α → D} {a n : Nat} {xs : List α} (h : ∀ x ∈ xs, wsz (f x) ≤ a) (hn : xs.length ≤ n) : wsz (eL f xs) ≤ (a + 2) * n + 2 := by
  have h1 := wszs_map h
  have h2 : (a + 2) * xs.length ≤ (a + 2) * n := Nat.mul_le_mul_left _ hn
  show wsz (.list (xs.map f)) ≤ _
  rw [wsz]
  omega
theorem wsz_T {f : α → D} {a n : Nat} {xs : List α} (h : ∀ x ∈ xs, wsz (f x) ≤ a) (hn : xs.length ≤ n) : wsz (eT f xs) ≤ (a + 2) * n + 3 := by
  have h1 := wszs_map h
  have h2 : (a + 2) * xs.length ≤ (a + 2) * n := Nat.mul_le_mul_left _ hn
  show wsz (.tuple (xs.map f)) ≤ _
  rw [wsz]
  omega
theorem repr_E (f : α → D) [DecidableEq α] [En f] (a : α) {n : Nat} (h : wsz (f a) ≤ n) (hn : n ≤ 10000000) (hs : isSq (f a) = true) (hd : En.n f ≤ 40 := by decide) : ∃ x, reprO (f a) = some x := by
  have e : okRepr (f a) = true := by
    unfold okRepr
    rw [hs, En.plain, decide_eq_true (Nat.le_trans (En.le (f := f) a) hd), decide_eq_true (show wsz (f a) ≤ lim from Nat.le_trans h hn)]
    rfl
  exact ⟨_, by unfold reprO; rw [if_pos e]⟩
theorem wsz_fr {q : Rat} (h1 : q.num.natAbs < 18446744073709551616) (h2 : q.den < 18446744073709551616) : wsz (eP eI eI (fr q)) ≤ 137 := wsz_P (a := 65) (b := 65) (wsz_I h1) (wsz_I (by show ((q.den : Int)).natAbs < _; omega))
theorem fr_small {t b : Int} (hb : b ≠ 0) (ht : t.natAbs < 18446744073709551616) (hb2 : b.natAbs < 18446744073709551616) : (Rat.divInt t b).num.natAbs < 18446744073709551616 ∧ (Rat.divInt t b).den < 18446744073709551616 := by
  rw [Rat.num_divInt, Rat.den_divInt, if_neg hb]
  constructor
  · refine Nat.lt_of_le_of_lt (Int.natAbs_ediv_le_natAbs _ _) ?_
    rw [Int.natAbs_mul]
    have : b.sign.natAbs ≤ 1 := by rcases Int.lt_trichotomy b 0 with h | h | h <;> simp [Int.sign_eq_neg_one_of_neg, Int.sign_eq_one_of_pos, h]
    have := Nat.mul_le_mul_right t.natAbs this
    omega
  · exact Nat.lt_of_le_of_lt (Nat.div_le_self _ _) hb2
end
section
variable {α σ ρ : Type}
/-- a turn may leave the def -/
theorem okForR {f : σ → α → Option (Ctl σ ρ)} (I : σ → Prop) (R : ρ → Prop) : ∀ {xs : List α} {s : σ}, I s → (∀ x s, x ∈ xs → I s → Ok (f s x) fun c => (∃ s', c = .go s' ∧ I s') ∨ ∃ r, c = .ret r ∧ R r) → Ok (forC f xs s) fun c => (∃ s', c = .go s' ∧ I s') ∨ ∃ r, c = .ret r ∧ R r
  | [], s, h, _ => ⟨_, rfl, .inl ⟨s, rfl, h⟩⟩
  | x :: xs, s, h, hf => by
    obtain ⟨c, e, q⟩ := hf x s List.mem_cons_self h
    rw [forC, e, bind_s]
    rcases q with ⟨s', rfl, i⟩ | ⟨r, rfl, i⟩
    · exact okForR I R i fun y s hy => hf y s (List.mem_cons_of_mem _ hy)
    · exact ⟨_, rfl, .inr ⟨r, rfl, i⟩⟩
end
/-! sums over the places below n -/
def sumN : Nat → (Nat → Int) → Int
  | 0, _ => 0
  | n + 1, f => sumN n f + f n
theorem sumN_congr {n : Nat} {f g : Nat → Int} (h : ∀ i, i < n → f i = g i) : sumN n f = sumN n g := by
  induction n with
  | zero => rfl
  | succ n ih => rw [sumN, sumN, ih fun i hi => h i (by omega), h n (by omega)]
theorem sumN_add (n : Nat) (f g : Nat → Int) : sumN n (fun i => f i + g i) = sumN n f + sumN n g := by
  induction n with
  | zero => rfl
  | succ n ih => rw [sumN, sumN, sumN, ih]; omega
theorem sumN_const (n : Nat) (k : Int) : sumN n (fun _ => k) = n * k := by
  induction n with
  | zero => simp [sumN]
  | succ n ih => rw [sumN, ih, Int.natCast_succ, Int.add_mul, Int.one_mul]
theorem sumN_front (n : Nat) (f : Nat → Int) : sumN (n + 1) f = f 0 + sumN n fun i => f (i + 1) := by
  induction n with
  | zero => simp [sumN]
  | succ n ih => rw [sumN, ih, sumN]; omega
theorem sumN_rev (n : Nat) (f : Nat → Int) : sumN n (fun i => f (n - 1 - i)) = sumN n f := by
  induction n generalizing f with
  | zero => rfl
  | succ n ih =>
    rw [sumN_front n f, sumN, ← ih fun i => f (i + 1), sumN_congr (g := fun i => f (n - 1 - i + 1)) fun i hi => by congr 1; omega]
    simp
    omega
theorem sumN_comm (n m : Nat) (f : Nat → Nat → Int) : sumN n (fun i => sumN m fun j => f i j) = sumN m fun j => sumN n fun i => f i j := by
  induction n with
  | zero => simp [sumN, sumN_const]
  | succ n ih => simp only [sumN]; rw [ih, sumN_add]
theorem sumN_le {n : Nat} {f : Nat → Int} {k : Int} (h : ∀ i, i < n → 0 ≤ f i ∧ f i ≤ k) : 0 ≤ sumN n f ∧ sumN n f ≤ n * k := by
  induction n with
  | zero => simp [sumN]
  | succ n ih =>
    have h1 := ih fun i hi => h i (by omega)
    have h2 := h n (by omega)
    rw [sumN, Int.natCast_succ, Int.add_mul]
    omega
/-- a loop over the places below n that adds up -/
theorem for_sum {σ : Type} {f : σ → Int → Option σ} (n : Nat) (F : Nat → σ) (s : σ) (h0 : F 0 = s) (hf : ∀ k, k < n → f (F k) (k : Int) = some (F (k + 1))) : forO f (rngI 0 (n : Int)) s = some (F n) := by
  have e : rngI 0 (n : Int) = (List.range n).map fun (i : Nat) => (i : Int) := rngI_nat n
  rw [e, for_eq (fun dn => F dn.length) _ _ h0 fun dn x rest hx => ?_]
  · simp
  · have h1 : ((List.range n).map fun (i : Nat) => (i : Int))[dn.length]? = some x := by rw [hx]; simp
    rw [List.getElem?_map] at h1
    obtain ⟨k, h2, h3⟩ := Option.map_eq_some_iff.mp h1
    rw [List.getElem?_range (by
      have : dn.length < ((List.range n).map fun (i : Nat) => (i : Int)).length := by rw [hx]; simp
      simpa using this)] at h2
    cases h2
    subst h3
    have hk : dn.length < n := by
      have : dn.length < ((List.range n).map fun (i : Nat) => (i : Int)).length := by rw [hx]; simp
      simpa using this
    rw [hf _ hk]
    simp
end Mir
set_option Elab.async false
set_option linter.all false
set_option maxRecDepth 100000
set_option maxHeartbeats 4000000
/-! Mir, part Zi: plain laws of dicts. -/
open PySem PySem.W L2
namespace Mir
section
variable {κ ν : Type} [DecidableEq κ]
theorem hasE_false {kvs : List (κ × ν)} {k : κ} (h : k ∉ keysE kvs) : hasE kvs k = false := by
  cases e : hasE kvs k with
  | false => rfl
  | true => exact (h ((hasE_iff _ _).mp e)).elim
theorem dict_fold : ∀ (ys acc : List (κ × ν)), (keysE (acc ++ ys)).Nodup → ys.foldl (fun acc p => putE acc p.1 p.2) acc = acc ++ ys
  | [], acc, _ => by simp
  | y :: ys, acc, h => by
    have hk : y.1 ∉ keysE acc := by
      unfold keysE at h ⊢
      rw [List.map_append, List.map_cons, List.nodup_append] at h
      exact fun z => h.2.2 _ z _ List.mem_cons_self rfl
    rw [List.foldl_cons]
    have e : putE acc y.1 y.2 = acc ++ [y] := by unfold putE; rw [hasE_false hk, if_neg (by decide)]
    rw [e, dict_fold ys (acc ++ [y]) (by rw [List.append_assoc]; exact h), List.append_assoc]
    rfl
theorem dictE_nd {ys : List (κ × ν)} (h : (keysE ys).Nodup) : dictE ys = ys := by
  unfold dictE
  rw [dict_fold ys [] (by simpa using h)]
  rfl
theorem keysE_map {F : κ → ν} (xs : List κ) : keysE (xs.map fun p => (p, F p)) = xs := by
  unfold keysE
  rw [List.map_map]
  exact List.map_id _
theorem dictE_map {F : κ → ν} {xs : List κ} (h : xs.Nodup) : dictE (xs.map fun p => (p, F p)) = xs.map fun p => (p, F p) := dictE_nd (by rw [keysE_map]; exact h)
theorem valE_map {F : κ → ν} {a : κ} : ∀ {xs : List κ}, a ∈ xs → valE (xs.map fun p => (p, F p)) a = some (F a)
  | [], h => by cases h
  | x :: xs, h => by
    rw [List.map_cons, valE_cons]
    by_cases e : x = a
    · subst e; rw [if_pos rfl]
    · rw [if_neg e]
      exact valE_map ((List.mem_cons.mp h).resolve_left fun z => e z.symm)
theorem hasE_map {F : κ → ν} {a : κ} {xs : List κ} (h : a ∈ xs) : hasE (xs.map fun p => (p, F p)) a = true := by rw [hasE_val, valE_map h]; rfl
theorem putE_map {F : κ → ν} {a : κ} {v : ν} {xs : List κ} (h : a ∈ xs) : putE (xs.map fun p => (p, F p)) a v = xs.map fun p => (p, if p = a then v else F p) := by
  unfold putE
  rw [hasE_map h, if_pos rfl, List.map_map]
  refine List.map_congr_left fun p _ => ?_
  show (if p = a then (p, v) else (p, F p)) = _
  by_cases e : p = a
  · rw [if_pos e, if_pos e]
  · rw [if_neg e, if_neg e]
theorem dputE_map {F : κ → ν} {a : κ} {v : ν} {xs : List κ} (h : a ∈ xs) (hl : xs.length < 10000000) : dputE (xs.map fun p => (p, F p)) a v = some (xs.map fun p => (p, if p = a then v else F p)) := by
  unfold dputE
  rw [if_pos (by rw [List.length_map]; exact hl), putE_map h]
theorem eqME_map [DecidableEq ν] {F : κ → ν} (xs : List κ) : eqME (xs.map fun p => (p, F p)) (xs.map fun p => (p, F p)) = true := by
  unfold eqME
  rw [decide_eq_true rfl, Bool.true_and, List.all_map]
  refine List.all_eq_true.mpr fun p hp => ?_
  show decide (valE _ p = some (F p)) = true
  rw [valE_map hp]
  exact decide_eq_true rfl
theorem list_eq {α : Type} {xs : List α} (h : xs.length ≤ 10000000) : listO xs = some () := if_pos h
theorem room_eq {α : Type} {xs : List α} (h : xs.length < 10000000) : roomO xs = some () := if_pos h
end
end Mir
set_option Elab.async false
set_option linter.all false
set_option maxRecDepth 100000
set_option maxHeartbeats 4000000
namespace K07
open PySem L2 Mir
def top (i : Nat) : Stmt := PySem.Challenge.pw_hillandwater_k07_whole_streams_and_their.main.body.getD i (.Pass ⟨0, 0, 0, 0⟩)
def bs : List Str := ["abs", "all", "bool", "dict", "int", "isinstance", "len", "min", "range", "repr", "sum", "tuple", "zip"]
def fs : List Str := "is_integer" :: "is_within" :: "is_tuple_of" :: "is_height" :: "is_row" :: "is_land" :: "check_land" :: "is_spot_of" :: "check_spot" :: "height_of" :: "all_spots" :: "is_on_land" :: "stepped" :: "spots_beside" :: "raw_steepest" :: "raw_stream" :: "stream" :: "ends" :: "ends_at" :: "raw_gathered" :: "gathered" :: "_law_hand" :: "_law_draw" :: "_law_some" :: "_law_is_int" :: "_law_land" :: "_law_spots" :: "_law_high" :: "_law_next_to" :: "_law_lower" :: "_law_stream" :: "_law_is_right" :: "law" :: []
def d_is_integer : Def := ⟨1, 1, [], [
  .ret (.and (.cons (.isi (.loc 0) false [.int]) (.cons (.not (.isi (.loc 0) false [.bool])) .nil)))]⟩
def t_is_integer : DefT := ⟨"is_integer", "is_integer", top 1, ["thing"], ["thing"], d_is_integer⟩

def d_is_within : Def := ⟨3, 3, [], [
  .ret (.and (.cons (.call "is_integer" true (.cons (.loc 0) .nil)) (.cons (.chain .LtE .LtE (.loc 1) (.loc 0) (.loc 2)) .nil)))]⟩
def t_is_within : DefT := ⟨"is_within", "is_within", top 2, ["thing", "least", "most"], ["thing", "least", "most"], d_is_within⟩

def d_is_tuple_of : Def := ⟨2, 2, [], [
  .ret (.and (.cons (.isi (.loc 0) false [.tuple]) (.cons (.cmp .Eq (.bi .len (.cons (.loc 0) .nil)) (.loc 1)) .nil)))]⟩
def t_is_tuple_of : DefT := ⟨"is_tuple_of", "is_tuple_of", top 3, ["thing", "size"], ["thing", "size"], d_is_tuple_of⟩

def d_is_height : Def := ⟨1, 1, [], [
  .ret (.call "is_within" true (.cons (.loc 0) (.cons (.lit (.int 0)) (.cons (.con "MOST_HEIGHT") .nil))))]⟩
def t_is_height : DefT := ⟨"is_height", "is_height", top 12, ["thing"], ["thing"], d_is_height⟩

def d_is_row : Def := ⟨2, 1, [], [
  .ret (.and (.cons (.isi (.loc 0) false [.tuple]) (.cons (.chain .LtE .LtE (.lit (.int 1)) (.bi .len (.cons (.loc 0) .nil)) (.con "MOST_SIDE")) (.cons (.bi .all (.cons (.comp (.nm 1) [1] (.seq (.loc 0)) .nil (.call "is_height" true (.cons (.loc 1) .nil)) true) .nil)) .nil))))]⟩
def t_is_row : DefT := ⟨"is_row", "is_row", top 13, ["thing", "one"], ["thing"], d_is_row⟩

def d_is_land : Def := ⟨2, 1, [], [
  .ifs (.or (.cons (.not (.isi (.loc 0) false [.tuple])) (.cons (.not (.chain .LtE .LtE (.lit (.int 1)) (.bi .len (.cons (.loc 0) .nil)) (.con "MOST_SIDE"))) .nil))) [
    .ret (.lit (.bool false))] [
    ],
  .ret (.and (.cons (.bi .all (.cons (.comp (.nm 1) [1] (.seq (.loc 0)) .nil (.call "is_row" true (.cons (.loc 1) .nil)) true) .nil)) (.cons (.bi .all (.cons (.comp (.nm 1) [1] (.seq (.loc 0)) .nil (.cmp .Eq (.bi .len (.cons (.loc 1) .nil)) (.bi .len (.cons (.ix (.loc 0) (.lit (.int 0))) .nil))) true) .nil)) .nil)))]⟩
def t_is_land : DefT := ⟨"is_land", "is_land", top 14, ["thing", "row"], ["thing"], d_is_land⟩

def d_check_land : Def := ⟨1, 1, [], [
  .ifs (.not (.call "is_land" true (.cons (.loc 0) .nil))) [
    .never] [
    ]]⟩
def t_check_land : DefT := ⟨"check_land", "check_land", top 15, ["land"], ["land"], d_check_land⟩

def d_is_spot_of : Def := ⟨2, 2, [], [
  .ifs (.or (.cons (.not (.call "is_tuple_of" true (.cons (.loc 1) (.cons (.lit (.int 2)) .nil)))) (.cons (.not (.call "is_within" true (.cons (.ix (.loc 1) (.lit (.int 0))) (.cons (.lit (.int 0)) (.cons (.bin .Sub (.bi .len (.cons (.loc 0) .nil)) (.lit (.int 1))) .nil))))) .nil))) [
    .ret (.lit (.bool false))] [
    ],
  .ret (.call "is_within" true (.cons (.ix (.loc 1) (.lit (.int 1))) (.cons (.lit (.int 0)) (.cons (.bin .Sub (.bi .len (.cons (.ix (.loc 0) (.lit (.int 0))) .nil)) (.lit (.int 1))) .nil))))]⟩
def t_is_spot_of : DefT := ⟨"is_spot_of", "is_spot_of", top 16, ["land", "thing"], ["land", "thing"], d_is_spot_of⟩

def d_check_spot : Def := ⟨2, 2, [], [
  .expr (.call "check_land" true (.cons (.loc 0) .nil)),
  .ifs (.not (.call "is_spot_of" true (.cons (.loc 0) (.cons (.loc 1) .nil)))) [
    .never] [
    ]]⟩
def t_check_spot : DefT := ⟨"check_spot", "check_spot", top 17, ["land", "spot"], ["land", "spot"], d_check_spot⟩

def d_height_of : Def := ⟨2, 2, [], [
  .ret (.ix (.ix (.loc 0) (.ix (.loc 1) (.lit (.int 0)))) (.ix (.loc 1) (.lit (.int 1))))]⟩
def t_height_of : DefT := ⟨"height_of", "height_of", top 18, ["land", "spot"], ["land", "spot"], d_height_of⟩

def d_all_spots : Def := ⟨4, 1, [], [
  .asg (.nm 1) (.lst .nil),
  .fors (.nm 2) (.rng (.cons (.bi .len (.cons (.loc 0) .nil)) .nil)) [
    .expr (.mut "extend" 1 (.cons (.comp (.nm 3) [3] (.rng (.cons (.bi .len (.cons (.ix (.loc 0) (.lit (.int 0))) .nil)) .nil)) .nil (.tup (.cons (.loc 2) (.cons (.loc 3) .nil))) true) .nil))],
  .ret (.loc 1)]⟩
def t_all_spots : DefT := ⟨"all_spots", "all_spots", top 19, ["land", "found", "row", "column"], ["land"], d_all_spots⟩

def d_is_on_land : Def := ⟨2, 2, [], [
  .ret (.and (.cons (.chain .LtE .Lt (.lit (.int 0)) (.ix (.loc 1) (.lit (.int 0))) (.bi .len (.cons (.loc 0) .nil))) (.cons (.chain .LtE .Lt (.lit (.int 0)) (.ix (.loc 1) (.lit (.int 1))) (.bi .len (.cons (.ix (.loc 0) (.lit (.int 0))) .nil))) .nil)))]⟩
def t_is_on_land : DefT := ⟨"is_on_land", "is_on_land", top 20, ["land", "spot"], ["land", "spot"], d_is_on_land⟩

def d_stepped : Def := ⟨3, 3, [], [
  .ret (.tup (.cons (.bin .Add (.ix (.loc 0) (.lit (.int 0))) (.bin .Mult (.loc 2) (.ix (.loc 1) (.lit (.int 0))))) (.cons (.bin .Add (.ix (.loc 0) (.lit (.int 1))) (.bin .Mult (.loc 2) (.ix (.loc 1) (.lit (.int 1))))) .nil)))]⟩
def t_stepped : DefT := ⟨"stepped", "stepped", top 21, ["spot", "step", "times"], ["spot", "step", "times"], d_stepped⟩

def d_spots_beside : Def := ⟨5, 2, [], [
  .asg (.nm 2) (.comp (.nm 3) [3] (.seq (.con "SIDES")) .nil (.call "stepped" true (.cons (.loc 1) (.cons (.loc 3) (.cons (.lit (.int 1)) .nil)))) true),
  .ret (.comp (.nm 4) [4] (.seq (.loc 2)) (.cons (.call "is_on_land" true (.cons (.loc 0) (.cons (.loc 4) .nil))) .nil) (.loc 4) true)]⟩
def t_spots_beside : DefT := ⟨"spots_beside", "spots_beside", top 22, ["land", "spot", "some", "step", "one"], ["land", "spot"], d_spots_beside⟩

def d_raw_steepest : Def := ⟨5, 2, [], [
  .asg (.nm 2) (.comp (.nm 3) [3] (.seq (.call "spots_beside" true (.cons (.loc 0) (.cons (.loc 1) .nil)))) .nil (.tup (.cons (.call "height_of" true (.cons (.loc 0) (.cons (.loc 3) .nil))) (.cons (.loc 3) .nil))) true),
  .asg (.nm 2) (.comp (.nm 4) [4] (.seq (.loc 2)) (.cons (.cmp .Lt (.ix (.loc 4) (.lit (.int 0))) (.call "height_of" true (.cons (.loc 0) (.cons (.loc 1) .nil)))) .nil) (.loc 4) true),
  .ret (.ite (.cmp .Gt (.bi .len (.cons (.loc 2) .nil)) (.lit (.int 0))) (.ix (.bi .min (.cons (.loc 2) .nil)) (.lit (.int 1))) (.lit .none))]⟩
def t_raw_steepest : DefT := ⟨"raw_steepest", "raw_steepest", top 24, ["land", "spot", "some", "one", "pair"], ["land", "spot"], d_raw_steepest⟩

def d_raw_stream : Def := ⟨3, 2, [], [
  .asg (.nm 2) (.lst (.cons (.loc 1) .nil)),
  .whiles (.cmp .IsNot (.call "raw_steepest" true (.cons (.loc 0) (.cons (.ix (.loc 2) (.neg (.lit (.int 1)))) .nil))) (.lit .none)) [
    .expr (.mut "append" 2 (.cons (.call "raw_steepest" true (.cons (.loc 0) (.cons (.ix (.loc 2) (.neg (.lit (.int 1)))) .nil))) .nil))],
  .ret (.loc 2)]⟩
def t_raw_stream : DefT := ⟨"raw_stream", "raw_stream", top 26, ["land", "spot", "found"], ["land", "spot"], d_raw_stream⟩

def d_stream : Def := ⟨2, 2, [], [
  .expr (.call "check_spot" true (.cons (.loc 0) (.cons (.loc 1) .nil))),
  .ret (.bi .tuple (.cons (.call "raw_stream" true (.cons (.loc 0) (.cons (.loc 1) .nil))) .nil))]⟩
def t_stream : DefT := ⟨"stream", "stream", top 27, ["land", "spot"], ["land", "spot"], d_stream⟩

def d_ends : Def := ⟨2, 1, [], [
  .expr (.call "check_land" true (.cons (.loc 0) .nil)),
  .ret (.bi .tuple (.cons (.comp (.nm 1) [1] (.seq (.call "all_spots" true (.cons (.loc 0) .nil))) (.cons (.cmp .Is (.call "raw_steepest" true (.cons (.loc 0) (.cons (.loc 1) .nil))) (.lit .none)) .nil) (.loc 1) true) .nil))]⟩
def t_ends : DefT := ⟨"ends", "ends", top 28, ["land", "spot"], ["land"], d_ends⟩

def d_ends_at : Def := ⟨2, 1, [], [
  .expr (.call "check_land" true (.cons (.loc 0) .nil)),
  .ret (.dcomp true (.nm 1) [1] (.seq (.call "all_spots" true (.cons (.loc 0) .nil))) .nil (.loc 1) (.ix (.call "raw_stream" true (.cons (.loc 0) (.cons (.loc 1) .nil))) (.neg (.lit (.int 1)))))]⟩
def t_ends_at : DefT := ⟨"ends_at", "ends_at", top 29, ["land", "spot"], ["land"], d_ends_at⟩

def d_raw_gathered : Def := ⟨4, 1, [], [
  .asg (.nm 1) (.dcomp true (.nm 2) [2] (.seq (.call "all_spots" true (.cons (.loc 0) .nil))) .nil (.loc 2) (.lit (.int 0))),
  .fors (.nm 2) (.seq (.call "all_spots" true (.cons (.loc 0) .nil))) [
    .fors (.nm 3) (.seq (.call "raw_stream" true (.cons (.loc 0) (.cons (.loc 2) .nil)))) [
      .daug 1 .Add (.loc 3) (.lit (.int 1))]],
  .ret (.loc 1)]⟩
def t_raw_gathered : DefT := ⟨"raw_gathered", "raw_gathered", top 30, ["land", "found", "spot", "one"], ["land"], d_raw_gathered⟩

def d_gathered : Def := ⟨1, 1, [], [
  .expr (.call "check_land" true (.cons (.loc 0) .nil)),
  .ret (.call "raw_gathered" true (.cons (.loc 0) .nil))]⟩
def t_gathered : DefT := ⟨"gathered", "gathered", top 31, ["land"], ["land"], d_gathered⟩

def d_law_hand : Def := ⟨3, 1, [], [
  .asg (.nm 1) (.comp (.nm 2) [2] (.seq (.sl (.loc 0) (.lit .none) (.lit (.int 63)))) .nil (.bi .abs (.cons (.bi .int (.cons (.loc 2) .nil)) .nil)) true),
  .ret (.lst (.cons (.loc 1) (.cons (.lit (.int 0)) (.cons (.lit (.int 0)) (.cons (.bin .Add (.lit (.int 431)) (.bin .Mult (.lit (.int 7)) (.bi .len (.cons (.loc 1) .nil)))) (.cons (.lit (.int 0)) .nil))))))]⟩
def t_law_hand : DefT := ⟨"_law_hand", "_law_hand", top 33, ["script", "cells", "cell"], ["script"], d_law_hand⟩

def d_law_draw : Def := ⟨5, 2, [0], [
  .ifs (.and (.cons (.cmp .Eq (.ix (.loc 0) (.lit (.int 2))) (.lit (.int 0))) (.cons (.cmp .Lt (.ix (.loc 0) (.lit (.int 1))) (.bi .len (.cons (.ix (.loc 0) (.lit (.int 0))) .nil))) .nil))) [
    .asg (.nm 2) (.ix (.ix (.loc 0) (.lit (.int 0))) (.ix (.loc 0) (.lit (.int 1)))),
    .put 0 (.lit (.int 1)) (.bin .Add (.ix (.loc 0) (.lit (.int 1))) (.lit (.int 1))),
    .put 0 (.lit (.int 3)) (.bin .Mod (.bi .int (.cons (.bin .Add (.bin .Add (.bin .Mult (.ix (.loc 0) (.lit (.int 3))) (.lit (.int 69621))) (.bin .Mult (.loc 2) (.lit (.int 40692)))) (.lit (.int 29))) .nil)) (.lit (.int 2147483629))),
    .ifs (.cmp .GtE (.loc 2) (.bin .Pow (.lit (.int 10)) (.lit (.int 18)))) [
      .put 0 (.lit (.int 2)) (.loc 2)] [
      ]] [
    ],
  .ifs (.cmp .Gt (.ix (.loc 0) (.lit (.int 2))) (.lit (.int 0))) [
    .asg (.nm 3) (.bin .Mod (.bi .int (.cons (.ix (.loc 0) (.lit (.int 2))) .nil)) (.loc 1)),
    .put 0 (.lit (.int 2)) (.bin .FloorDiv (.ix (.loc 0) (.lit (.int 2))) (.loc 1)),
    .ret (.loc 3)] [
    ],
  .put 0 (.lit (.int 4)) (.bin .Add (.ix (.loc 0) (.lit (.int 4))) (.lit (.int 1))),
  .asg (.nm 4) (.bin .Mod (.bi .int (.cons (.bin .Mult (.bi .int (.cons (.bin .Add (.ix (.loc 0) (.lit (.int 3))) (.bin .Mult (.lit (.int 7919)) (.ix (.loc 0) (.lit (.int 4))))) .nil)) (.lit (.int 48271))) .nil)) (.lit (.int 2147483647))),
  .asg (.nm 4) (.bin .Mod (.bi .int (.cons (.bin .Mult (.loc 4) (.bin .Add (.bin .FloorDiv (.loc 4) (.lit (.int 1009))) (.lit (.int 69621)))) .nil)) (.lit (.int 2147483647))),
  .asg (.nm 4) (.bin .Mod (.bi .int (.cons (.bin .Mult (.loc 4) (.bin .Add (.bin .FloorDiv (.loc 4) (.lit (.int 2003))) (.lit (.int 40014)))) .nil)) (.lit (.int 2147483563))),
  .ret (.bin .Mod (.bi .int (.cons (.bin .FloorDiv (.loc 4) (.lit (.int 16))) .nil)) (.loc 1))]⟩
def t_law_draw : DefT := ⟨"_law_draw", "_law_draw", top 34, ["hand", "size", "cell", "digit", "number"], ["hand", "size"], d_law_draw⟩

def d_law_some : Def := ⟨2, 2, [0], [
  .ret (.ix (.loc 1) (.call "_law_draw" false (.cons (.io 0) (.cons (.bi .len (.cons (.loc 1) .nil)) .nil))))]⟩
def t_law_some : DefT := ⟨"_law_some", "_law_some", top 35, ["hand", "things"], ["hand", "things"], d_law_some⟩

def d_law_is_int : Def := ⟨1, 1, [], [
  .ret (.and (.cons (.isi (.loc 0) false [.int]) (.cons (.not (.isi (.loc 0) false [.bool])) .nil)))]⟩
def t_law_is_int : DefT := ⟨"_law_is_int", "_law_is_int", top 36, ["thing"], ["thing"], d_law_is_int⟩

def d_law_land : Def := ⟨7, 2, [0], [
  .par [2, 3] (.cons (.bin .Add (.lit (.int 1)) (.call "_law_draw" false (.cons (.io 0) (.cons (.loc 1) .nil)))) (.cons (.bin .Add (.lit (.int 1)) (.call "_law_draw" false (.cons (.io 0) (.cons (.loc 1) .nil)))) .nil)),
  .asg (.nm 4) (.call "_law_some" false (.cons (.io 0) (.cons (.lst (.cons (.lit (.int 2)) (.cons (.lit (.int 4)) (.cons (.lit (.int 10)) (.cons (.lit (.int 1001)) .nil))))) .nil))),
  .ret (.bi .tuple (.cons (.comp (.nm 5) [5] (.rng (.cons (.loc 2) .nil)) .nil (.bi .tuple (.cons (.comp (.nm 6) [6] (.rng (.cons (.loc 3) .nil)) .nil (.call "_law_draw" false (.cons (.io 0) (.cons (.loc 4) .nil))) false) .nil)) false) .nil))]⟩
def t_law_land : DefT := ⟨"_law_land", "_law_land", top 37, ["hand", "most", "rows", "columns", "tall", "row", "column"], ["hand", "most"], d_law_land⟩

def d_law_spots : Def := ⟨4, 1, [], [
  .asg (.nm 1) (.lst .nil),
  .fors (.nm 2) (.rng (.cons (.bi .len (.cons (.loc 0) .nil)) .nil)) [
    .expr (.mut "extend" 1 (.cons (.comp (.nm 3) [3] (.rng (.cons (.bi .len (.cons (.ix (.loc 0) (.lit (.int 0))) .nil)) .nil)) .nil (.tup (.cons (.loc 2) (.cons (.loc 3) .nil))) true) .nil))],
  .ret (.loc 1)]⟩
def t_law_spots : DefT := ⟨"_law_spots", "_law_spots", top 38, ["land", "found", "row", "column"], ["land"], d_law_spots⟩

def d_law_high : Def := ⟨2, 2, [], [
  .ret (.ix (.ix (.loc 0) (.ix (.loc 1) (.lit (.int 0)))) (.ix (.loc 1) (.lit (.int 1))))]⟩
def t_law_high : DefT := ⟨"_law_high", "_law_high", top 39, ["land", "spot"], ["land", "spot"], d_law_high⟩

def d_law_next_to : Def := ⟨7, 2, [], [
  .asg (.tup (.cons (.nm 2) (.cons (.nm 3) .nil))) (.loc 1),
  .asg (.nm 4) (.lst (.cons (.tup (.cons (.bin .Sub (.loc 2) (.lit (.int 1))) (.cons (.loc 3) .nil))) (.cons (.tup (.cons (.loc 2) (.cons (.bin .Sub (.loc 3) (.lit (.int 1))) .nil))) (.cons (.tup (.cons (.loc 2) (.cons (.bin .Add (.loc 3) (.lit (.int 1))) .nil))) (.cons (.tup (.cons (.bin .Add (.loc 2) (.lit (.int 1))) (.cons (.loc 3) .nil))) .nil))))),
  .ret (.comp (.tup (.cons (.nm 5) (.cons (.nm 6) .nil))) [5, 6] (.seq (.loc 4)) (.cons (.and (.cons (.chain .LtE .Lt (.lit (.int 0)) (.loc 5) (.bi .len (.cons (.loc 0) .nil))) (.cons (.chain .LtE .Lt (.lit (.int 0)) (.loc 6) (.bi .len (.cons (.ix (.loc 0) (.lit (.int 0))) .nil))) .nil))) .nil) (.tup (.cons (.loc 5) (.cons (.loc 6) .nil))) true)]⟩
def t_law_next_to : DefT := ⟨"_law_next_to", "_law_next_to", top 40, ["land", "spot", "row", "column", "some", "down", "right"], ["land", "spot"], d_law_next_to⟩

def d_law_lower : Def := ⟨5, 2, [], [
  .asg (.nm 2) (.comp (.nm 3) [3] (.seq (.call "_law_next_to" true (.cons (.loc 0) (.cons (.loc 1) .nil)))) .nil (.tup (.cons (.call "_law_high" true (.cons (.loc 0) (.cons (.loc 3) .nil))) (.cons (.loc 3) .nil))) true),
  .asg (.nm 2) (.comp (.nm 4) [4] (.seq (.loc 2)) (.cons (.cmp .Lt (.ix (.loc 4) (.lit (.int 0))) (.call "_law_high" true (.cons (.loc 0) (.cons (.loc 1) .nil)))) .nil) (.loc 4) true),
  .ret (.ite (.cmp .Gt (.bi .len (.cons (.loc 2) .nil)) (.lit (.int 0))) (.ix (.bi .min (.cons (.loc 2) .nil)) (.lit (.int 1))) (.lit .none))]⟩
def t_law_lower : DefT := ⟨"_law_lower", "_law_lower", top 41, ["land", "spot", "some", "other", "pair"], ["land", "spot"], d_law_lower⟩

def d_law_stream : Def := ⟨4, 2, [], [
  .asg (.nm 2) (.lst (.cons (.loc 1) .nil)),
  .asg (.nm 3) (.call "_law_lower" true (.cons (.loc 0) (.cons (.loc 1) .nil))),
  .whiles (.cmp .IsNot (.loc 3) (.lit .none)) [
    .expr (.mut "append" 2 (.cons (.loc 3) .nil)),
    .asg (.nm 3) (.call "_law_lower" true (.cons (.loc 0) (.cons (.loc 3) .nil)))],
  .ret (.bi .tuple (.cons (.loc 2) .nil))]⟩
def t_law_stream : DefT := ⟨"_law_stream", "_law_stream", top 42, ["land", "spot", "found", "later"], ["land", "spot"], d_law_stream⟩

def d_law_is_right : Def := ⟨12, 1, [], [
  .asg (.nm 1) (.call "_law_spots" true (.cons (.loc 0) .nil)),
  .asg (.nm 2) (.dof true (.comp (.nm 3) [3] (.seq (.loc 1)) .nil (.tup (.cons (.loc 3) (.cons (.call "_law_stream" true (.cons (.loc 0) (.cons (.loc 3) .nil))) .nil))) true)),
  .fors (.nm 3) (.seq (.loc 1)) [
    .ifs (.cmp .NotEq (.bi .repr (.cons (.lst (.cons (.call "stream" true (.cons (.loc 0) (.cons (.loc 3) .nil))) (.cons (.call "stream" true (.cons (.loc 0) (.cons (.loc 3) .nil))) .nil))) .nil)) (.bi .repr (.cons (.lst (.cons (.dix (.loc 2) (.loc 3)) (.cons (.dix (.loc 2) (.loc 3)) .nil))) .nil))) [
      .ret (.lit (.bool false))] [
      ],
    .asg (.nm 4) (.comp (.nm 10) [10] (.seq (.dix (.loc 2) (.loc 3))) .nil (.call "_law_high" true (.cons (.loc 0) (.cons (.loc 10) .nil))) true),
    .ifs (.not (.bi .all (.cons (.comp (.tup (.cons (.nm 10) (.cons (.nm 11) .nil))) [10, 11] (.zip (.cons (.loc 4) (.cons (.sl (.loc 4) (.lit (.int 1)) (.lit .none)) .nil))) .nil (.cmp .Gt (.loc 10) (.loc 11)) true) .nil))) [
      .ret (.lit (.bool false))] [
      ],
    .ifs (.and (.cons (.cmp .Gt (.bi .len (.cons (.dix (.loc 2) (.loc 3)) .nil)) (.lit (.int 1))) (.cons (.cmp .NotEq (.call "stream" true (.cons (.loc 0) (.cons (.ix (.dix (.loc 2) (.loc 3)) (.lit (.int 1))) .nil))) (.sl (.dix (.loc 2) (.loc 3)) (.lit (.int 1)) (.lit .none))) .nil))) [
      .ret (.lit (.bool false))] [
      ]],
  .asg (.nm 5) (.bi .tuple (.cons (.comp (.nm 3) [3] (.seq (.loc 1)) (.cons (.cmp .Eq (.bi .len (.cons (.dix (.loc 2) (.loc 3)) .nil)) (.lit (.int 1))) .nil) (.loc 3) true) .nil)),
  .ifs (.cmp .NotEq (.bi .repr (.cons (.call "ends" true (.cons (.loc 0) .nil)) .nil)) (.bi .repr (.cons (.loc 5) .nil))) [
    .ret (.lit (.bool false))] [
    ],
  .par [6, 7] (.cons (.call "ends_at" true (.cons (.loc 0) .nil)) (.cons (.call "gathered" true (.cons (.loc 0) .nil)) .nil)),
  .asg (.nm 8) (.dof true (.comp (.nm 3) [3] (.seq (.loc 1)) .nil (.tup (.cons (.loc 3) (.cons (.ix (.dix (.loc 2) (.loc 3)) (.neg (.lit (.int 1)))) .nil))) true)),
  .asg (.nm 9) (.dof true (.comp (.nm 3) [3] (.seq (.loc 1)) .nil (.tup (.cons (.loc 3) (.cons (.bi .len (.cons (.comp (.nm 11) [11] (.seq (.loc 1)) (.cons (.cmp .In (.loc 3) (.dix (.loc 2) (.loc 11))) .nil) (.lit (.int 1)) true) .nil)) .nil))) true)),
  .ifs (.or (.cons (.deq true (.loc 6) (.loc 8)) (.cons (.deq true (.loc 7) (.loc 9)) (.cons (.not (.bi .all (.cons (.comp (.nm 3) [3] (.dct (.loc 7)) .nil (.call "_law_is_int" true (.cons (.dix (.loc 7) (.loc 3)) .nil)) true) .nil))) .nil)))) [
    .ret (.lit (.bool false))] [
    ],
  .ifs (.cmp .NotEq (.bi .sum (.cons (.comp (.nm 3) [3] (.seq (.loc 5)) .nil (.dix (.loc 7) (.loc 3)) true) .nil)) (.bi .len (.cons (.loc 1) .nil))) [
    .ret (.lit (.bool false))] [
    ],
  .dput2 6 (.tup (.cons (.lit (.int 0)) (.cons (.lit (.int 0)) .nil))) 7 (.tup (.cons (.lit (.int 0)) (.cons (.lit (.int 0)) .nil))) (.tup (.cons (.lit .none) (.cons (.lit (.int 0)) .nil))),
  .ret (.and (.cons (.deq false (.call "ends_at" true (.cons (.loc 0) .nil)) (.loc 8)) (.cons (.deq false (.call "gathered" true (.cons (.loc 0) .nil)) (.loc 9)) .nil)))]⟩
def t_law_is_right : DefT := ⟨"_law_is_right", "_law_is_right", top 43, ["land", "spots_now", "rows", "spot", "heights", "lasts", "told", "many", "due", "counts", "one", "other"], ["land"], d_law_is_right⟩

def d_law : Def := ⟨4, 1, [], [
  .asg (.nm 1) (.call "_law_hand" true (.cons (.loc 0) .nil)),
  .asg (.nm 2) (.tup (.cons (.tup (.cons (.lit (.int 3)) (.cons (.lit (.int 2)) (.cons (.lit (.int 3)) .nil)))) (.cons (.tup (.cons (.lit (.int 4)) (.cons (.lit (.int 1)) (.cons (.lit (.int 2)) .nil)))) (.cons (.tup (.cons (.lit (.int 0)) (.cons (.lit (.int 5)) (.cons (.lit (.int 6)) .nil)))) .nil)))),
  .ifs (.or (.cons (.cmp .NotEq (.call "stream" true (.cons (.loc 2) (.cons (.tup (.cons (.lit (.int 0)) (.cons (.lit (.int 0)) .nil))) .nil))) (.tup (.cons (.tup (.cons (.lit (.int 0)) (.cons (.lit (.int 0)) .nil))) (.cons (.tup (.cons (.lit (.int 0)) (.cons (.lit (.int 1)) .nil))) (.cons (.tup (.cons (.lit (.int 1)) (.cons (.lit (.int 1)) .nil))) .nil))))) (.cons (.cmp .NotEq (.call "ends" true (.cons (.loc 2) .nil)) (.tup (.cons (.tup (.cons (.lit (.int 1)) (.cons (.lit (.int 1)) .nil))) (.cons (.tup (.cons (.lit (.int 2)) (.cons (.lit (.int 0)) .nil))) .nil)))) .nil))) [
    .ret (.lit (.bool false))] [
    ],
  .ifs (.or (.cons (.cmp .NotEq (.call "stream" true (.cons (.loc 2) (.cons (.tup (.cons (.lit (.int 1)) (.cons (.lit (.int 0)) .nil))) .nil))) (.tup (.cons (.tup (.cons (.lit (.int 1)) (.cons (.lit (.int 0)) .nil))) (.cons (.tup (.cons (.lit (.int 2)) (.cons (.lit (.int 0)) .nil))) .nil)))) (.cons (.cmp .NotEq (.dix (.call "gathered" true (.cons (.loc 2) .nil)) (.tup (.cons (.lit (.int 1)) (.cons (.lit (.int 1)) .nil)))) (.lit (.int 6))) (.cons (.cmp .NotEq (.dix (.call "gathered" true (.cons (.loc 2) .nil)) (.tup (.cons (.lit (.int 2)) (.cons (.lit (.int 0)) .nil)))) (.lit (.int 3))) .nil)))) [
    .ret (.lit (.bool false))] [
    ],
  .ifs (.or (.cons (.cmp .NotEq (.call "stream" true (.cons (.tup (.cons (.tup (.cons (.lit (.int 2)) (.cons (.lit (.int 2)) .nil))) .nil)) (.cons (.tup (.cons (.lit (.int 0)) (.cons (.lit (.int 1)) .nil))) .nil))) (.tup (.cons (.tup (.cons (.lit (.int 0)) (.cons (.lit (.int 1)) .nil))) .nil))) (.cons (.cmp .NotEq (.call "ends" true (.cons (.tup (.cons (.tup (.cons (.lit (.int 1)) (.cons (.lit (.int 1)) .nil))) (.cons (.tup (.cons (.lit (.int 1)) (.cons (.lit (.int 1)) .nil))) .nil))) .nil)) (.tup (.cons (.tup (.cons (.lit (.int 0)) (.cons (.lit (.int 0)) .nil))) (.cons (.tup (.cons (.lit (.int 0)) (.cons (.lit (.int 1)) .nil))) (.cons (.tup (.cons (.lit (.int 1)) (.cons (.lit (.int 0)) .nil))) (.cons (.tup (.cons (.lit (.int 1)) (.cons (.lit (.int 1)) .nil))) .nil)))))) .nil))) [
    .ret (.lit (.bool false))] [
    ],
  .ret (.bi .all (.cons (.comp (.nm 3) [3] (.rng (.cons (.lit (.int 6)) .nil)) .nil (.call "_law_is_right" false (.cons (.call "_law_land" false (.cons (.io 1) (.cons (.lit (.int 5)) .nil))) .nil)) false) .nil))]⟩
def t_law : DefT := ⟨"law", "law", top 44, ["script", "hand", "land", "turn"], ["script"], d_law⟩

def con (x : Str) : Option D := if x = "MOST_SIDE" then some (.int 8) else if x = "MOST_HEIGHT" then some (.int 1000) else if x = "SIDES" then some (.tuple [.tuple [.int (-1), .int 0], .tuple [.int 0, .int (-1)], .tuple [.int 0, .int 1], .tuple [.int 1, .int 0]]) else none
def fn (f : Str) : Option Def :=
  if f = "is_integer" then some d_is_integer else
  if f = "is_within" then some d_is_within else
  if f = "is_tuple_of" then some d_is_tuple_of else
  if f = "is_height" then some d_is_height else
  if f = "is_row" then some d_is_row else
  if f = "is_land" then some d_is_land else
  if f = "check_land" then some d_check_land else
  if f = "is_spot_of" then some d_is_spot_of else
  if f = "check_spot" then some d_check_spot else
  if f = "height_of" then some d_height_of else
  if f = "all_spots" then some d_all_spots else
  if f = "is_on_land" then some d_is_on_land else
  if f = "stepped" then some d_stepped else
  if f = "spots_beside" then some d_spots_beside else
  if f = "raw_steepest" then some d_raw_steepest else
  if f = "raw_stream" then some d_raw_stream else
  if f = "stream" then some d_stream else
  if f = "ends" then some d_ends else
  if f = "ends_at" then some d_ends_at else
  if f = "raw_gathered" then some d_raw_gathered else
  if f = "gathered" then some d_gathered else
  if f = "_law_hand" then some d_law_hand else
  if f = "_law_draw" then some d_law_draw else
  if f = "_law_some" then some d_law_some else
  if f = "_law_is_int" then some d_law_is_int else
  if f = "_law_land" then some d_law_land else
  if f = "_law_spots" then some d_law_spots else
  if f = "_law_high" then some d_law_high else
  if f = "_law_next_to" then some d_law_next_to else
  if f = "_law_lower" then some d_law_lower else
  if f = "_law_stream" then some d_law_stream else
  if f = "_law_is_right" then some d_law_is_right else
  if f = "law" then some d_law else
  none
def P : Prog := ⟨fn, con⟩
theorem ok_is_integer : defOk bs fs t_is_integer = true := by decide +kernel
theorem ok_is_within : defOk bs fs t_is_within = true := by decide +kernel
theorem ok_is_tuple_of : defOk bs fs t_is_tuple_of = true := by decide +kernel
theorem ok_is_height : defOk bs fs t_is_height = true := by decide +kernel
theorem ok_is_row : defOk bs fs t_is_row = true := by decide +kernel
theorem ok_is_land : defOk bs fs t_is_land = true := by decide +kernel
theorem ok_check_land : defOk bs fs t_check_land = true := by decide +kernel
theorem ok_is_spot_of : defOk bs fs t_is_spot_of = true := by decide +kernel
theorem ok_check_spot : defOk bs fs t_check_spot = true := by decide +kernel
theorem ok_height_of : defOk bs fs t_height_of = true := by decide +kernel
theorem ok_all_spots : defOk bs fs t_all_spots = true := by decide +kernel
theorem ok_is_on_land : defOk bs fs t_is_on_land = true := by decide +kernel
theorem ok_stepped : defOk bs fs t_stepped = true := by decide +kernel
theorem ok_spots_beside : defOk bs fs t_spots_beside = true := by decide +kernel
theorem ok_raw_steepest : defOk bs fs t_raw_steepest = true := by decide +kernel
theorem ok_raw_stream : defOk bs fs t_raw_stream = true := by decide +kernel
theorem ok_stream : defOk bs fs t_stream = true := by decide +kernel
theorem ok_ends : defOk bs fs t_ends = true := by decide +kernel
theorem ok_ends_at : defOk bs fs t_ends_at = true := by decide +kernel
theorem ok_raw_gathered : defOk bs fs t_raw_gathered = true := by decide +kernel
theorem ok_gathered : defOk bs fs t_gathered = true := by decide +kernel
theorem ok_law_hand : defOk bs fs t_law_hand = true := by decide +kernel
theorem ok_law_draw : defOk bs fs t_law_draw = true := by decide +kernel
theorem ok_law_some : defOk bs fs t_law_some = true := by decide +kernel
theorem ok_law_is_int : defOk bs fs t_law_is_int = true := by decide +kernel
theorem ok_law_land : defOk bs fs t_law_land = true := by decide +kernel
theorem ok_law_spots : defOk bs fs t_law_spots = true := by decide +kernel
theorem ok_law_high : defOk bs fs t_law_high = true := by decide +kernel
theorem ok_law_next_to : defOk bs fs t_law_next_to = true := by decide +kernel
theorem ok_law_lower : defOk bs fs t_law_lower = true := by decide +kernel
theorem ok_law_stream : defOk bs fs t_law_stream = true := by decide +kernel
theorem ok_law_is_right : defOk bs fs t_law_is_right = true := by decide +kernel
theorem ok_law : defOk bs fs t_law = true := by decide +kernel
end K07
set_option Elab.async false
set_option linter.all false
set_option maxRecDepth 100000
set_option maxHeartbeats 4000000
open PySem PySem.W L2 Mir
namespace K07
noncomputable section
theorem fd_is_integer : P.fn "is_integer" = some d_is_integer := by kernel_rfl
theorem io_is_integer : P.io "is_integer" = [] := by kernel_rfl
theorem fd_is_within : P.fn "is_within" = some d_is_within := by kernel_rfl
theorem io_is_within : P.io "is_within" = [] := by kernel_rfl
theorem fd_is_tuple_of : P.fn "is_tuple_of" = some d_is_tuple_of := by kernel_rfl
theorem io_is_tuple_of : P.io "is_tuple_of" = [] := by kernel_rfl
theorem fd_is_height : P.fn "is_height" = some d_is_height := by kernel_rfl
theorem io_is_height : P.io "is_height" = [] := by kernel_rfl
theorem fd_is_row : P.fn "is_row" = some d_is_row := by kernel_rfl
theorem io_is_row : P.io "is_row" = [] := by kernel_rfl
theorem fd_is_land : P.fn "is_land" = some d_is_land := by kernel_rfl
theorem io_is_land : P.io "is_land" = [] := by kernel_rfl
theorem fd_check_land : P.fn "check_land" = some d_check_land := by kernel_rfl
theorem io_check_land : P.io "check_land" = [] := by kernel_rfl
theorem fd_is_spot_of : P.fn "is_spot_of" = some d_is_spot_of := by kernel_rfl
theorem io_is_spot_of : P.io "is_spot_of" = [] := by kernel_rfl
theorem fd_check_spot : P.fn "check_spot" = some d_check_spot := by kernel_rfl
theorem io_check_spot : P.io "check_spot" = [] := by kernel_rfl
theorem fd_height_of : P.fn "height_of" = some d_height_of := by kernel_rfl
theorem io_height_of : P.io "height_of" = [] := by kernel_rfl
theorem fd_all_spots : P.fn "all_spots" = some d_all_spots := by kernel_rfl
theorem io_all_spots : P.io "all_spots" = [] := by kernel_rfl
theorem fd_is_on_land : P.fn "is_on_land" = some d_is_on_land := by kernel_rfl
theorem io_is_on_land : P.io "is_on_land" = [] := by kernel_rfl
theorem fd_stepped : P.fn "stepped" = some d_stepped := by kernel_rfl
theorem io_stepped : P.io "stepped" = [] := by kernel_rfl
theorem fd_spots_beside : P.fn "spots_beside" = some d_spots_beside := by kernel_rfl
theorem io_spots_beside : P.io "spots_beside" = [] := by kernel_rfl
theorem fd_raw_steepest : P.fn "raw_steepest" = some d_raw_steepest := by kernel_rfl
theorem io_raw_steepest : P.io "raw_steepest" = [] := by kernel_rfl
theorem fd_raw_stream : P.fn "raw_stream" = some d_raw_stream := by kernel_rfl
theorem io_raw_stream : P.io "raw_stream" = [] := by kernel_rfl
theorem fd_stream : P.fn "stream" = some d_stream := by kernel_rfl
theorem io_stream : P.io "stream" = [] := by kernel_rfl
theorem fd_ends : P.fn "ends" = some d_ends := by kernel_rfl
theorem io_ends : P.io "ends" = [] := by kernel_rfl
theorem fd_ends_at : P.fn "ends_at" = some d_ends_at := by kernel_rfl
theorem io_ends_at : P.io "ends_at" = [] := by kernel_rfl
theorem fd_raw_gathered : P.fn "raw_gathered" = some d_raw_gathered := by kernel_rfl
theorem io_raw_gathered : P.io "raw_gathered" = [] := by kernel_rfl
theorem fd_gathered : P.fn "gathered" = some d_gathered := by kernel_rfl
theorem io_gathered : P.io "gathered" = [] := by kernel_rfl
theorem fd_law_hand : P.fn "_law_hand" = some d_law_hand := by kernel_rfl
theorem io__law_hand : P.io "_law_hand" = [] := by kernel_rfl
theorem fd_law_draw : P.fn "_law_draw" = some d_law_draw := by kernel_rfl
theorem io__law_draw : P.io "_law_draw" = [0] := by kernel_rfl
theorem fd_law_some : P.fn "_law_some" = some d_law_some := by kernel_rfl
theorem io__law_some : P.io "_law_some" = [0] := by kernel_rfl
theorem fd_law_is_int : P.fn "_law_is_int" = some d_law_is_int := by kernel_rfl
theorem io__law_is_int : P.io "_law_is_int" = [] := by kernel_rfl
theorem fd_law_land : P.fn "_law_land" = some d_law_land := by kernel_rfl
theorem io__law_land : P.io "_law_land" = [0] := by kernel_rfl
theorem fd_law_spots : P.fn "_law_spots" = some d_law_spots := by kernel_rfl
theorem io__law_spots : P.io "_law_spots" = [] := by kernel_rfl
theorem fd_law_high : P.fn "_law_high" = some d_law_high := by kernel_rfl
theorem io__law_high : P.io "_law_high" = [] := by kernel_rfl
theorem fd_law_next_to : P.fn "_law_next_to" = some d_law_next_to := by kernel_rfl
theorem io__law_next_to : P.io "_law_next_to" = [] := by kernel_rfl
theorem fd_law_lower : P.fn "_law_lower" = some d_law_lower := by kernel_rfl
theorem io__law_lower : P.io "_law_lower" = [] := by kernel_rfl
theorem fd_law_stream : P.fn "_law_stream" = some d_law_stream := by kernel_rfl
theorem io__law_stream : P.io "_law_stream" = [] := by kernel_rfl
theorem fd_law_is_right : P.fn "_law_is_right" = some d_law_is_right := by kernel_rfl
theorem io__law_is_right : P.io "_law_is_right" = [] := by kernel_rfl
theorem fd_law : P.fn "law" = some d_law := by kernel_rfl
theorem io_law : P.io "law" = [] := by kernel_rfl
theorem con_MOST_SIDE : P.con "MOST_SIDE" = some (.int 8) := by kernel_rfl
theorem con_MOST_HEIGHT : P.con "MOST_HEIGHT" = some (.int 1000) := by kernel_rfl
theorem con_SIDES : P.con "SIDES" = some (.tuple [.tuple [.int (-1), .int 0], .tuple [.int 0, .int (-1)], .tuple [.int 0, .int 1], .tuple [.int 1, .int 0]]) := by kernel_rfl
structure Hand where
  f0 : (List Int)
  f1 : Int
  f2 : Int
  f3 : Int
  f4 : Int
def oH (h : Hand) : O := .l [.d ((eL eI) h.f0), .d (eI h.f1), .d (eI h.f2), .d (eI h.f3), .d (eI h.f4)]
/-! p_law_hand -/
def p_law_hand (script : List Int) : Option Hand :=
  (letO (List.map (fun (y1 : Int) => (absI y1)) (cutG script none (some (63 : Int)))) fun cells2 =>
  (some (Hand.mk cells2 (0 : Int) (0 : Int) ((431 : Int) + ((7 : Int) * ((List.length cells2 : Nat) : Int))) (0 : Int))))
theorem r_law_hand (n : Nat) (script : List Int) (r : Hand) (h : p_law_hand script = some r) : callP P (n + 1) "_law_hand" [(.d (scrD script))] = .ok (oH r) [] := by
  unfold p_law_hand at h
  exact r_fnC (n := n + 0) (d := d_law_hand) [some (.d (scrD script)), none, none] d_law_hand.body fd_law_hand rfl rfl rfl
    (s_asg (g_map (e := eI) (f := eI) (fun (y1 : Int) => (absI y1)) (it_seq (g_sl (g_loc rfl ⟨(scrD script), view_d, (g_lit ⟨none, rfl, (g_lit ⟨(some (63 : Int)), (oL eI (cutG script none (some (63 : Int)))), rfl, sl_S, ⟨_, (items_O (f := eI) (xs := (cutG script none (some (63 : Int))))), ⟨(cutG script none (some (63 : Int))), rfl, (.inl rfl), fun y1 => ⟨[some (.d (scrD script)), none, some (.d (eI y1))], rfl, (g_bi (gv_cons (g_bi (gv_cons (g_loc rfl ⟨(eI y1), view_d, (gv_nil ⟨(.d (eI y1)), rfl, ⟨(eI y1), view_d, (gv_nil ⟨(.d (eI (absI y1))), rfl, ⟨rfl, rfl⟩⟩)⟩⟩)⟩)))))⟩, (letE h fun cells2 ecells2 h => ⟨_, (slotL (e := eI) ecells2), rfl, [some (.d (scrD script)), some (oL eI cells2), none], rfl, (s_ret rfl (g_lst (gd_cons (g_locf (f := eI) (xs := cells2) rfl rfl ⟨((eL eI) cells2), rfl, (gd_cons (g_lit ⟨(eI (0 : Int)), rfl, (gd_cons (g_lit ⟨(eI (0 : Int)), rfl, (gd_cons (g_bin (g_lit ⟨(eI (431 : Int)), view_d, (g_bin (g_lit ⟨(eI (7 : Int)), view_d, (g_bi (gv_cons (g_loc rfl ⟨((eL eI) cells2), view_d, (gv_nil ⟨(.d (eI ((List.length cells2 : Nat) : Int))), (b_lenL cells2), ⟨(eI ((List.length cells2 : Nat) : Int)), (.d (eI ((7 : Int) * ((List.length cells2 : Nat) : Int)))), view_d, (op_mulL (by decide)), ⟨(eI ((7 : Int) * ((List.length cells2 : Nat) : Int))), (.d (eI ((431 : Int) + ((7 : Int) * ((List.length cells2 : Nat) : Int))))), view_d, rfl, ⟨(eI ((431 : Int) + ((7 : Int) * ((List.length cells2 : Nat) : Int)))), rfl, (gd_cons (g_lit ⟨(eI (0 : Int)), rfl, (gd_nil (fnE (e := fun (r : Hand) => (oH r)) (outs := fun r => []) (v := (Hand.mk cells2 (0 : Int) (0 : Int) ((431 : Int) + ((7 : Int) * ((List.length cells2 : Nat) : Int))) (0 : Int))) h rfl))⟩))⟩⟩⟩⟩)⟩)))⟩))⟩)))⟩))⟩))⟩))))⟩)⟩⟩⟩)⟩)⟩)))))
/-! p_is_integer -/
def p_is_integer (thing : Int) : Bool :=
  true
theorem r_is_integer (n : Nat) (thing : Int) : callP P (n + 1) "is_integer" [(.d (eI thing))] = .ok (.d (eB (p_is_integer thing))) [] := by
  have h : some (p_is_integer thing) = some (p_is_integer thing) := rfl
  exact r_fnC (n := n + 0) (d := d_is_integer) [some (.d (eI thing))] d_is_integer.body fd_is_integer rfl rfl rfl
    (s_ret rfl (g_and (g_andc (g_isi (g_loc rfl ⟨true, rfl, ⟨true, rfl, true, [some (.d (eI thing))], fun hx => (g_and1 (g_not (g_isi (g_loc rfl ⟨false, rfl, ⟨false, rfl, is_same⟩⟩)))), fun hx => (nomatch hx), (fnE (e := fun (r : Bool) => (.d (eB r))) (outs := fun r => []) (v := true) h rfl)⟩⟩)))))
/-! p_is_within -/
def p_is_within (thing : Int) (least : Int) (most : Int) : Bool :=
  ((decide (least ≤ thing)) && (decide (thing ≤ most)))
theorem r_is_within (n : Nat) (thing : Int) (least : Int) (most : Int) : callP P (n + 2) "is_within" [(.d (eI thing)), (.d (eI least)), (.d (eI most))] = .ok (.d (eB (p_is_within thing least most))) [] := by
  have h : some (p_is_within thing least most) = some (p_is_within thing least most) := rfl
  exact r_fnC (n := n + 1) (d := d_is_within) [some (.d (eI thing)), some (.d (eI least)), some (.d (eI most))] d_is_within.body fd_is_within rfl rfl rfl
    (s_ret rfl (g_and (g_andc (g_call io_is_integer.symm rfl (ga_cons rfl (g_loc rfl ⟨(eI thing), rfl, (ga_nil ⟨(eB true), (r_is_integer (n + 0) thing), NM.nm (f := eB) true, ⟨true, rfl, ((decide (least ≤ thing)) && (decide (thing ≤ most))), [some (.d (eI thing)), some (.d (eI least)), some (.d (eI most))], fun hx => (g_and1 (g_chain (g_loc rfl (g_loc rfl ⟨(decide (least ≤ thing)), ((decide (least ≤ thing)) && (decide (thing ≤ most))), [some (.d (eI thing)), some (.d (eI least)), some (.d (eI most))], (cq_le least thing), fun hx => (g_loc rfl ⟨chain_t hx (cq_le thing most), rfl⟩), fun hx => ⟨and_f hx, rfl⟩, is_same⟩)))), fun hx => (nomatch hx), (fnE (e := fun (r : Bool) => (.d (eB r))) (outs := fun r => []) (v := ((decide (least ≤ thing)) && (decide (thing ≤ most)))) h rfl)⟩⟩)⟩))))))
/-! p_is_height -/
def p_is_height (thing : Int) : Bool :=
  (p_is_within thing (0 : Int) (1000 : Int))
theorem r_is_height (n : Nat) (thing : Int) : callP P (n + 3) "is_height" [(.d (eI thing))] = .ok (.d (eB (p_is_height thing))) [] := by
  have h : some (p_is_height thing) = some (p_is_height thing) := rfl
  exact r_fnC (n := n + 2) (d := d_is_height) [some (.d (eI thing))] d_is_height.body fd_is_height rfl rfl rfl
    (s_ret rfl (g_call io_is_within.symm rfl (ga_cons rfl (g_loc rfl ⟨(eI thing), rfl, (ga_cons rfl (g_lit ⟨(eI (0 : Int)), rfl, (ga_cons rfl (g_con (v := (eI (1000 : Int))) con_MOST_HEIGHT ⟨(eI (1000 : Int)), rfl, (ga_nil ⟨(eB (p_is_within thing (0 : Int) (1000 : Int))), (r_is_within (n + 0) thing (0 : Int) (1000 : Int)), NM.nm (f := eB) (p_is_within thing (0 : Int) (1000 : Int)), (fnE (e := fun (r : Bool) => (.d (eB r))) (outs := fun r => []) (v := (p_is_within thing (0 : Int) (1000 : Int))) h rfl)⟩)⟩))⟩))⟩))))
/-! p_is_row -/
def p_is_row (thing : (List Int)) : Bool :=
  (((decide ((1 : Int) ≤ ((List.length thing : Nat) : Int))) && (decide (((List.length thing : Nat) : Int) ≤ (8 : Int)))) && (List.all (List.map (fun (y1 : Int) => (p_is_height y1)) thing) id))
theorem r_is_row (n : Nat) (thing : (List Int)) : callP P (n + 4) "is_row" [(.d ((eT eI) thing))] = .ok (.d (eB (p_is_row thing))) [] := by
  have h : some (p_is_row thing) = some (p_is_row thing) := rfl
  exact r_fnC (n := n + 3) (d := d_is_row) [some (.d ((eT eI) thing)), none] d_is_row.body fd_is_row rfl rfl rfl
    (s_ret rfl (g_and (g_andc (g_isi (g_loc rfl ⟨true, rfl, ⟨true, rfl, (((decide ((1 : Int) ≤ ((List.length thing : Nat) : Int))) && (decide (((List.length thing : Nat) : Int) ≤ (8 : Int)))) && (List.all (List.map (fun (y1 : Int) => (p_is_height y1)) thing) id)), [some (.d ((eT eI) thing)), none], fun hx => (g_andc (g_chain (g_lit (g_bi (gv_cons (g_loc rfl ⟨((eT eI) thing), view_d, (gv_nil ⟨(.d (eI ((List.length thing : Nat) : Int))), (b_lenT thing), ⟨(decide ((1 : Int) ≤ ((List.length thing : Nat) : Int))), ((decide ((1 : Int) ≤ ((List.length thing : Nat) : Int))) && (decide (((List.length thing : Nat) : Int) ≤ (8 : Int)))), [some (.d ((eT eI) thing)), none], (cq_le (1 : Int) ((List.length thing : Nat) : Int)), fun hx => (g_con (v := (eI (8 : Int))) con_MOST_SIDE ⟨chain_t hx (cq_le ((List.length thing : Nat) : Int) (8 : Int)), rfl⟩), fun hx => ⟨and_f hx, rfl⟩, ⟨((decide ((1 : Int) ≤ ((List.length thing : Nat) : Int))) && (decide (((List.length thing : Nat) : Int) ≤ (8 : Int)))), rfl, (((decide ((1 : Int) ≤ ((List.length thing : Nat) : Int))) && (decide (((List.length thing : Nat) : Int) ≤ (8 : Int)))) && (List.all (List.map (fun (y1 : Int) => (p_is_height y1)) thing) id)), [some (.d ((eT eI) thing)), none], fun hx => (g_and1 (g_bi (gv_cons (g_map (e := eI) (f := eB) (fun (y1 : Int) => (p_is_height y1)) (it_seq (g_loc rfl ⟨_, (items_T (f := eI) (xs := thing)), ⟨thing, rfl, (.inl rfl), fun y1 => ⟨[some (.d ((eT eI) thing)), some (.d (eI y1))], rfl, (g_call io_is_height.symm rfl (ga_cons rfl (g_loc rfl ⟨(eI y1), rfl, (ga_nil ⟨(eB (p_is_height y1)), (r_is_height (n + 0) y1), NM.nm (f := eB) (p_is_height y1), ⟨rfl, rfl⟩⟩)⟩)))⟩, ⟨((eL eB) (List.map (fun (y1 : Int) => (p_is_height y1)) thing)), view_l, (gv_nil ⟨(.d (eB (List.all (List.map (fun (y1 : Int) => (p_is_height y1)) thing) id))), (b_all (List.map (fun (y1 : Int) => (p_is_height y1)) thing)), (is_and (x := ((decide ((1 : Int) ≤ ((List.length thing : Nat) : Int))) && (decide (((List.length thing : Nat) : Int) ≤ (8 : Int))))) (y := (List.all (List.map (fun (y1 : Int) => (p_is_height y1)) thing) id)) hx)⟩)⟩⟩⟩)))))), fun hx => ⟨and_f hx, rfl⟩, is_same⟩⟩⟩)⟩)))))), fun hx => (nomatch hx), (fnE (e := fun (r : Bool) => (.d (eB r))) (outs := fun r => []) (v := (((decide ((1 : Int) ≤ ((List.length thing : Nat) : Int))) && (decide (((List.length thing : Nat) : Int) ≤ (8 : Int)))) && (List.all (List.map (fun (y1 : Int) => (p_is_height y1)) thing) id))) h rfl)⟩⟩)))))
/-! p_is_land -/
def p_is_land (thing : (List (List Int))) : Option Bool :=
  (if (!((decide ((1 : Int) ≤ ((List.length thing : Nat) : Int))) && (decide (((List.length thing : Nat) : Int) ≤ (8 : Int))))) = true then (some false)
  else (Option.bind (andO (List.all (List.map (fun (y1 : (List Int)) => (p_is_row y1)) thing) id) (Option.bind (mapO (fun (y4 : (List Int)) => (Option.bind (atI thing (0 : Int)) fun x5 =>
  (some (decide (((List.length y4 : Nat) : Int) = ((List.length x5 : Nat) : Int)))))) thing) fun ys6 =>
  (some (List.all ys6 id)))) fun c3 =>
  (some c3)))
theorem r_is_land (n : Nat) (thing : (List (List Int))) (r : Bool) (h : p_is_land thing = some r) : callP P (n + 5) "is_land" [(.d ((eT (eT eI)) thing))] = .ok (.d (eB r)) [] := by
  unfold p_is_land at h
  exact r_fnC (n := n + 4) (d := d_is_land) [some (.d ((eT (eT eI)) thing)), none] d_is_land.body fd_is_land rfl rfl rfl
    (s_if (g_or (g_orc (g_not (g_isi (g_loc rfl ⟨true, rfl, ⟨true, rfl, ⟨false, rfl, (!((decide ((1 : Int) ≤ ((List.length thing : Nat) : Int))) && (decide (((List.length thing : Nat) : Int) ≤ (8 : Int))))), [some (.d ((eT (eT eI)) thing)), none], fun hx => (g_or1 (g_not (g_chain (g_lit (g_bi (gv_cons (g_loc rfl ⟨((eT (eT eI)) thing), view_d, (gv_nil ⟨(.d (eI ((List.length thing : Nat) : Int))), (b_lenT thing), ⟨(decide ((1 : Int) ≤ ((List.length thing : Nat) : Int))), ((decide ((1 : Int) ≤ ((List.length thing : Nat) : Int))) && (decide (((List.length thing : Nat) : Int) ≤ (8 : Int)))), [some (.d ((eT (eT eI)) thing)), none], (cq_le (1 : Int) ((List.length thing : Nat) : Int)), fun hx => (g_con (v := (eI (8 : Int))) con_MOST_SIDE ⟨chain_t hx (cq_le ((List.length thing : Nat) : Int) (8 : Int)), rfl⟩), fun hx => ⟨and_f hx, rfl⟩, ⟨((decide ((1 : Int) ≤ ((List.length thing : Nat) : Int))) && (decide (((List.length thing : Nat) : Int) ≤ (8 : Int)))), rfl, is_same⟩⟩⟩)⟩))))))), fun hx => (nomatch hx), ⟨(!((decide ((1 : Int) ≤ ((List.length thing : Nat) : Int))) && (decide (((List.length thing : Nat) : Int) ≤ (8 : Int))))), rfl, fun hc => (have h := iteT h hc; (s_ret rfl (g_lit (fnE (e := fun (r : Bool) => (.d (eB r))) (outs := fun r => []) (v := false) h rfl)))), fun hc => (have h := iteF h hc; (s_ret rfl (g_and (g_andc (g_bi (gv_cons (g_map (e := (eT eI)) (f := eB) (fun (y1 : (List Int)) => (p_is_row y1)) (it_seq (g_loc rfl ⟨_, (items_T (f := (eT eI)) (xs := thing)), ⟨thing, rfl, (.inl rfl), fun y1 => ⟨[some (.d ((eT (eT eI)) thing)), some (.d ((eT eI) y1))], rfl, (g_call io_is_row.symm rfl (ga_cons rfl (g_loc rfl ⟨((eT eI) y1), rfl, (ga_nil ⟨(eB (p_is_row y1)), (r_is_row (n + 0) y1), NM.nm (f := eB) (p_is_row y1), ⟨rfl, rfl⟩⟩)⟩)))⟩, ⟨((eL eB) (List.map (fun (y1 : (List Int)) => (p_is_row y1)) thing)), view_l, (gv_nil ⟨(.d (eB (List.all (List.map (fun (y1 : (List Int)) => (p_is_row y1)) thing) id))), (b_all (List.map (fun (y1 : (List Int)) => (p_is_row y1)) thing)), (bindE h fun c3 hc3 h => ⟨(List.all (List.map (fun (y1 : (List Int)) => (p_is_row y1)) thing) id), rfl, c3, [some (.d ((eT (eT eI)) thing)), none], fun hx => (have h := andO_t hc3 hx; (g_and1 (g_bi (gv_cons (g_mapO (e := (eT eI)) (f := eB) (m := fun (y4 : (List Int)) => (Option.bind (atI thing (0 : Int)) fun x5 =>
  (some (decide (((List.length y4 : Nat) : Int) = ((List.length x5 : Nat) : Int)))))) (it_seq (g_loc rfl ⟨_, (items_T (f := (eT eI)) (xs := thing)), (bindE h fun ys6 hys6 h => ⟨thing, ys6, rfl, hys6, (.inl rfl), fun y4 _ h => ⟨[some (.d ((eT (eT eI)) thing)), some (.d ((eT eI) y4))], rfl, (g_cmp (g_bi (gv_cons (g_loc rfl ⟨((eT eI) y4), view_d, (gv_nil ⟨(.d (eI ((List.length y4 : Nat) : Int))), (b_lenT y4), (g_bi (gv_cons (g_ix (g_loc rfl (g_lit (bindE h fun x5 hx5 h => ⟨((eT eI) x5), ix_T hx5, ⟨((eT eI) x5), view_d, (gv_nil ⟨(.d (eI ((List.length x5 : Nat) : Int))), (b_lenT x5), ⟨(decide (((List.length y4 : Nat) : Int) = ((List.length x5 : Nat) : Int))), (cq_eq eI ((List.length y4 : Nat) : Int) ((List.length x5 : Nat) : Int)), ⟨dE (f := eB) h, rfl⟩⟩⟩)⟩⟩))))))⟩)⟩))))⟩, ⟨((eL eB) ys6), view_l, (gv_nil ⟨(.d (eB (List.all ys6 id))), (b_all ys6), (isE (e := eB) h)⟩)⟩⟩)⟩))))))), fun hx => ⟨andO_f hc3 hx, rfl⟩, (fnE (e := fun (r : Bool) => (.d (eB r))) (outs := fun r => []) (v := c3) h rfl)⟩)⟩)⟩⟩⟩)))))))))⟩⟩⟩⟩))))))
/-! p_check_land -/
def p_check_land (land : (List (List Int))) : Option Unit :=
  (Option.bind (p_is_land land) fun r1 =>
  (if (!r1) = true then none
  else (some ())))
theorem r_check_land (n : Nat) (land : (List (List Int))) (r : Unit) (h : p_check_land land = some r) : callP P (n + 6) "check_land" [(.d ((eT (eT eI)) land))] = .ok (.d (eU r)) [] := by
  unfold p_check_land at h
  exact r_fnC (n := n + 5) (d := d_check_land) [some (.d ((eT (eT eI)) land))] d_check_land.body fd_check_land rfl rfl rfl
    (s_if (g_not (g_call io_is_land.symm rfl (ga_cons rfl (g_loc rfl ⟨((eT (eT eI)) land), rfl, (ga_nil (bindE h fun r1 hr1 h => ⟨(eB r1), (r_is_land (n + 0) land r1 hr1), NM.nm (f := eB) r1, ⟨r1, rfl, ⟨(!r1), rfl, fun hc => (have h := iteT h hc; (noneE h)), fun hc => (have h := iteF h hc; (s_nil (fnN (outs := fun (r : Unit) => []) (v := ()) h rfl)))⟩⟩⟩))⟩)))))
/-! p_is_tuple_of -/
def p_is_tuple_of (thing : (Int × Int)) (size : Int) : Bool :=
  (decide ((2 : Int) = size))
theorem r_is_tuple_of (n : Nat) (thing : (Int × Int)) (size : Int) : callP P (n + 1) "is_tuple_of" [(.d ((eP eI eI) thing)), (.d (eI size))] = .ok (.d (eB (p_is_tuple_of thing size))) [] := by
  have h : some (p_is_tuple_of thing size) = some (p_is_tuple_of thing size) := rfl
  exact r_fnC (n := n + 0) (d := d_is_tuple_of) [some (.d ((eP eI eI) thing)), some (.d (eI size))] d_is_tuple_of.body fd_is_tuple_of rfl rfl rfl
    (s_ret rfl (g_and (g_andc (g_isi (g_loc rfl ⟨true, rfl, ⟨true, rfl, (decide ((2 : Int) = size)), [some (.d ((eP eI eI) thing)), some (.d (eI size))], fun hx => (g_and1 (g_cmp (g_bi (gv_cons (g_loc rfl ⟨((eP eI eI) thing), view_d, (gv_nil ⟨(.d (eI (2 : Int))), rfl, (g_loc rfl ⟨(decide ((2 : Int) = size)), (cq_eq eI (2 : Int) size), is_same⟩)⟩)⟩))))), fun hx => (nomatch hx), (fnE (e := fun (r : Bool) => (.d (eB r))) (outs := fun r => []) (v := (decide ((2 : Int) = size))) h rfl)⟩⟩)))))
/-! p_is_spot_of -/
def p_is_spot_of (land : (List (List Int))) (thing : (Int × Int)) : Option Bool :=
  (if ((!(p_is_tuple_of thing (2 : Int))) || (!(p_is_within thing.1 (0 : Int) (((List.length land : Nat) : Int) - (1 : Int))))) = true then (some false)
  else (Option.bind (atI land (0 : Int)) fun x3 =>
  (some (p_is_within thing.2 (0 : Int) (((List.length x3 : Nat) : Int) - (1 : Int))))))
theorem r_is_spot_of (n : Nat) (land : (List (List Int))) (thing : (Int × Int)) (r : Bool) (h : p_is_spot_of land thing = some r) : callP P (n + 3) "is_spot_of" [(.d ((eT (eT eI)) land)), (.d ((eP eI eI) thing))] = .ok (.d (eB r)) [] := by
  unfold p_is_spot_of at h
  exact r_fnC (n := n + 2) (d := d_is_spot_of) [some (.d ((eT (eT eI)) land)), some (.d ((eP eI eI) thing))] d_is_spot_of.body fd_is_spot_of rfl rfl rfl
    (s_if (g_or (g_orc (g_not (g_call io_is_tuple_of.symm rfl (ga_cons rfl (g_loc rfl ⟨((eP eI eI) thing), rfl, (ga_cons rfl (g_lit ⟨(eI (2 : Int)), rfl, (ga_nil ⟨(eB (p_is_tuple_of thing (2 : Int))), (r_is_tuple_of (n + 1) thing (2 : Int)), NM.nm (f := eB) (p_is_tuple_of thing (2 : Int)), ⟨(p_is_tuple_of thing (2 : Int)), rfl, ⟨(!(p_is_tuple_of thing (2 : Int))), rfl, ((!(p_is_tuple_of thing (2 : Int))) || (!(p_is_within thing.1 (0 : Int) (((List.length land : Nat) : Int) - (1 : Int))))), [some (.d ((eT (eT eI)) land)), some (.d ((eP eI eI) thing))], fun hx => (g_or1 (g_not (g_call io_is_within.symm rfl (ga_cons rfl (g_ix (g_loc rfl (g_lit ⟨(eI thing.1), rfl, ⟨(eI thing.1), rfl, (ga_cons rfl (g_lit ⟨(eI (0 : Int)), rfl, (ga_cons rfl (g_bin (g_bi (gv_cons (g_loc rfl ⟨((eT (eT eI)) land), view_d, (gv_nil ⟨(.d (eI ((List.length land : Nat) : Int))), (b_lenT land), ⟨(eI ((List.length land : Nat) : Int)), view_d, (g_lit ⟨(eI (1 : Int)), (.d (eI (((List.length land : Nat) : Int) - (1 : Int)))), view_d, rfl, ⟨(eI (((List.length land : Nat) : Int) - (1 : Int))), rfl, (ga_nil ⟨(eB (p_is_within thing.1 (0 : Int) (((List.length land : Nat) : Int) - (1 : Int)))), (r_is_within (n + 0) thing.1 (0 : Int) (((List.length land : Nat) : Int) - (1 : Int))), NM.nm (f := eB) (p_is_within thing.1 (0 : Int) (((List.length land : Nat) : Int) - (1 : Int))), ⟨(p_is_within thing.1 (0 : Int) (((List.length land : Nat) : Int) - (1 : Int))), rfl, (is_or (x := (!(p_is_tuple_of thing (2 : Int)))) (y := (!(p_is_within thing.1 (0 : Int) (((List.length land : Nat) : Int) - (1 : Int))))) hx)⟩⟩)⟩⟩)⟩⟩)⟩)))))⟩))⟩⟩))))))), fun hx => ⟨or_t hx, rfl⟩, ⟨((!(p_is_tuple_of thing (2 : Int))) || (!(p_is_within thing.1 (0 : Int) (((List.length land : Nat) : Int) - (1 : Int))))), rfl, fun hc => (have h := iteT h hc; (s_ret rfl (g_lit (fnE (e := fun (r : Bool) => (.d (eB r))) (outs := fun r => []) (v := false) h rfl)))), fun hc => (have h := iteF h hc; (s_ret rfl (g_call io_is_within.symm rfl (ga_cons rfl (g_ix (g_loc rfl (g_lit ⟨(eI thing.2), rfl, ⟨(eI thing.2), rfl, (ga_cons rfl (g_lit ⟨(eI (0 : Int)), rfl, (ga_cons rfl (g_bin (g_bi (gv_cons (g_ix (g_loc rfl (g_lit (bindE h fun x3 hx3 h => ⟨((eT eI) x3), ix_T hx3, ⟨((eT eI) x3), view_d, (gv_nil ⟨(.d (eI ((List.length x3 : Nat) : Int))), (b_lenT x3), ⟨(eI ((List.length x3 : Nat) : Int)), view_d, (g_lit ⟨(eI (1 : Int)), (.d (eI (((List.length x3 : Nat) : Int) - (1 : Int)))), view_d, rfl, ⟨(eI (((List.length x3 : Nat) : Int) - (1 : Int))), rfl, (ga_nil ⟨(eB (p_is_within thing.2 (0 : Int) (((List.length x3 : Nat) : Int) - (1 : Int)))), (r_is_within (n + 0) thing.2 (0 : Int) (((List.length x3 : Nat) : Int) - (1 : Int))), NM.nm (f := eB) (p_is_within thing.2 (0 : Int) (((List.length x3 : Nat) : Int) - (1 : Int))), (fnE (e := fun (r : Bool) => (.d (eB r))) (outs := fun r => []) (v := (p_is_within thing.2 (0 : Int) (((List.length x3 : Nat) : Int) - (1 : Int)))) h rfl)⟩)⟩⟩)⟩⟩)⟩⟩))))))))⟩))⟩⟩)))))))⟩⟩⟩⟩)⟩))⟩)))))))
/-! p_check_spot -/
def p_check_spot (land : (List (List Int))) (spot : (Int × Int)) : Option Unit :=
  (Option.bind (p_check_land land) fun r1 =>
  (Option.bind (p_is_spot_of land spot) fun r2 =>
  (if (!r2) = true then none
  else (some ()))))
theorem r_check_spot (n : Nat) (land : (List (List Int))) (spot : (Int × Int)) (r : Unit) (h : p_check_spot land spot = some r) : callP P (n + 7) "check_spot" [(.d ((eT (eT eI)) land)), (.d ((eP eI eI) spot))] = .ok (.d (eU r)) [] := by
  unfold p_check_spot at h
  exact r_fnC (n := n + 6) (d := d_check_spot) [some (.d ((eT (eT eI)) land)), some (.d ((eP eI eI) spot))] d_check_spot.body fd_check_spot rfl rfl rfl
    (s_expr (g_call io_check_land.symm rfl (ga_cons rfl (g_loc rfl ⟨((eT (eT eI)) land), rfl, (ga_nil (bindE h fun r1 hr1 h => ⟨(eU r1), (r_check_land (n + 0) land r1 hr1), NM.nm (f := eU) r1, (s_if (g_not (g_call io_is_spot_of.symm rfl (ga_cons rfl (g_loc rfl ⟨((eT (eT eI)) land), rfl, (ga_cons rfl (g_loc rfl ⟨((eP eI eI) spot), rfl, (ga_nil (bindE h fun r2 hr2 h => ⟨(eB r2), (r_is_spot_of (n + 3) land spot r2 hr2), NM.nm (f := eB) r2, ⟨r2, rfl, ⟨(!r2), rfl, fun hc => (have h := iteT h hc; (noneE h)), fun hc => (have h := iteF h hc; (s_nil (fnN (outs := fun (r : Unit) => []) (v := ()) h rfl)))⟩⟩⟩))⟩))⟩)))))⟩))⟩))))
/-! p_stepped -/
def p_stepped (spot : (Int × Int)) (step : (Int × Int)) (times : Int) : Option (Int × Int) :=
  (Option.bind (mulO times step.1) fun x1 =>
  (Option.bind (mulO times step.2) fun x2 =>
  (some ((spot.1 + x1), (spot.2 + x2)))))
theorem r_stepped (n : Nat) (spot : (Int × Int)) (step : (Int × Int)) (times : Int) (r : (Int × Int)) (h : p_stepped spot step times = some r) : callP P (n + 1) "stepped" [(.d ((eP eI eI) spot)), (.d ((eP eI eI) step)), (.d (eI times))] = .ok (.d ((eP eI eI) r)) [] := by
  unfold p_stepped at h
  exact r_fnC (n := n + 0) (d := d_stepped) [some (.d ((eP eI eI) spot)), some (.d ((eP eI eI) step)), some (.d (eI times))] d_stepped.body fd_stepped rfl rfl rfl
    (s_ret rfl (g_tupV (gv_cons (g_bin (g_ix (g_loc rfl (g_lit ⟨(eI spot.1), rfl, ⟨(eI spot.1), view_d, (g_bin (g_loc rfl ⟨(eI times), view_d, (g_ix (g_loc rfl (g_lit ⟨(eI step.1), rfl, (bindE h fun x1 hx1 h => ⟨(eI step.1), (.d (eI x1)), view_d, (op_mulO hx1), ⟨(eI x1), (.d (eI (spot.1 + x1))), view_d, rfl, ⟨(eI (spot.1 + x1)), view_d, (gv_cons (g_bin (g_ix (g_loc rfl (g_lit ⟨(eI spot.2), rfl, ⟨(eI spot.2), view_d, (g_bin (g_loc rfl ⟨(eI times), view_d, (g_ix (g_loc rfl (g_lit ⟨(eI step.2), rfl, (bindE h fun x2 hx2 h => ⟨(eI step.2), (.d (eI x2)), view_d, (op_mulO hx2), ⟨(eI x2), (.d (eI (spot.2 + x2))), view_d, rfl, ⟨(eI (spot.2 + x2)), view_d, (gv_nil (fnE (e := fun (r : (Int × Int)) => (.d ((eP eI eI) r))) (outs := fun r => []) (v := ((spot.1 + x1), (spot.2 + x2))) h rfl))⟩⟩⟩)⟩)))⟩))⟩⟩)))))⟩⟩⟩)⟩)))⟩))⟩⟩)))))))
/-! p_is_on_land -/
def p_is_on_land (land : (List (List Int))) (spot : (Int × Int)) : Option Bool :=
  (Option.bind (andO ((decide ((0 : Int) ≤ spot.1)) && (decide (spot.1 < ((List.length land : Nat) : Int)))) (Option.bind (andO (decide ((0 : Int) ≤ spot.2)) (Option.bind (atI land (0 : Int)) fun x3 =>
  (some (decide (spot.2 < ((List.length x3 : Nat) : Int)))))) fun c2 =>
  (some c2))) fun c1 =>
  (some c1))
theorem r_is_on_land (n : Nat) (land : (List (List Int))) (spot : (Int × Int)) (r : Bool) (h : p_is_on_land land spot = some r) : callP P (n + 1) "is_on_land" [(.d ((eT (eT eI)) land)), (.d ((eP eI eI) spot))] = .ok (.d (eB r)) [] := by
  unfold p_is_on_land at h
  exact r_fnC (n := n + 0) (d := d_is_on_land) [some (.d ((eT (eT eI)) land)), some (.d ((eP eI eI) spot))] d_is_on_land.body fd_is_on_land rfl rfl rfl
    (s_ret rfl (g_and (g_andc (g_chain (g_lit (g_ix (g_loc rfl (g_lit ⟨(eI spot.1), rfl, ⟨(decide ((0 : Int) ≤ spot.1)), ((decide ((0 : Int) ≤ spot.1)) && (decide (spot.1 < ((List.length land : Nat) : Int)))), [some (.d ((eT (eT eI)) land)), some (.d ((eP eI eI) spot))], (cq_le (0 : Int) spot.1), fun hx => (g_bi (gv_cons (g_loc rfl ⟨((eT (eT eI)) land), view_d, (gv_nil ⟨(.d (eI ((List.length land : Nat) : Int))), (b_lenT land), ⟨chain_t hx (cq_lt spot.1 ((List.length land : Nat) : Int)), rfl⟩⟩)⟩))), fun hx => ⟨and_f hx, rfl⟩, (bindE h fun c1 hc1 h => ⟨((decide ((0 : Int) ≤ spot.1)) && (decide (spot.1 < ((List.length land : Nat) : Int)))), rfl, c1, [some (.d ((eT (eT eI)) land)), some (.d ((eP eI eI) spot))], fun hx => (have h := andO_t hc1 hx; (g_and1 (g_chain (g_lit (g_ix (g_loc rfl (g_lit ⟨(eI spot.2), rfl, (bindE h fun c2 hc2 h => ⟨(decide ((0 : Int) ≤ spot.2)), c2, [some (.d ((eT (eT eI)) land)), some (.d ((eP eI eI) spot))], (cq_le (0 : Int) spot.2), fun hx => (have h := andO_t hc2 hx; (g_bi (gv_cons (g_ix (g_loc rfl (g_lit (bindE h fun x3 hx3 h => ⟨((eT eI) x3), ix_T hx3, ⟨((eT eI) x3), view_d, (gv_nil ⟨(.d (eI ((List.length x3 : Nat) : Int))), (b_lenT x3), ⟨chain_p h (cq_lt spot.2 ((List.length x3 : Nat) : Int)), rfl⟩⟩)⟩⟩))))))), fun hx => ⟨andO_f hc2 hx, rfl⟩, (isE (e := eB) h)⟩)⟩))))))), fun hx => ⟨andO_f hc1 hx, rfl⟩, (fnE (e := fun (r : Bool) => (.d (eB r))) (outs := fun r => []) (v := c1) h rfl)⟩)⟩⟩))))))))
/-! p_spots_beside -/
def p_spots_beside (land : (List (List Int))) (spot : (Int × Int)) : Option (List (Int × Int)) :=
  (Option.bind (mapO (fun (y1 : (Int × Int)) => (Option.bind (p_stepped spot y1 (1 : Int)) fun r2 =>
  (some r2))) ([((-1 : Int), (0 : Int)), ((0 : Int), (-1 : Int)), ((0 : Int), (1 : Int)), ((1 : Int), (0 : Int))] : (List (Int × Int)))) fun ys3 =>
  (Option.bind (compO (fun (y4 : (Int × Int)) => (Option.bind (p_is_on_land land y4) fun r5 =>
  (some r5))) (fun (y4 : (Int × Int)) => (some y4)) ys3) fun ys6 =>
  (some ys6)))
theorem r_spots_beside (n : Nat) (land : (List (List Int))) (spot : (Int × Int)) (r : (List (Int × Int))) (h : p_spots_beside land spot = some r) : callP P (n + 2) "spots_beside" [(.d ((eT (eT eI)) land)), (.d ((eP eI eI) spot))] = .ok (oL (eP eI eI) r) [] := by
  unfold p_spots_beside at h
  exact r_fnC (n := n + 1) (d := d_spots_beside) [some (.d ((eT (eT eI)) land)), some (.d ((eP eI eI) spot)), none, none, none] d_spots_beside.body fd_spots_beside rfl rfl rfl
    (s_asg (g_mapO (e := (eP eI eI)) (f := (eP eI eI)) (m := fun (y1 : (Int × Int)) => (Option.bind (p_stepped spot y1 (1 : Int)) fun r2 =>
  (some r2))) (it_seq (g_con (v := ((eT (eP eI eI)) ([((-1 : Int), (0 : Int)), ((0 : Int), (-1 : Int)), ((0 : Int), (1 : Int)), ((1 : Int), (0 : Int))] : (List (Int × Int))))) con_SIDES ⟨_, (items_T (f := (eP eI eI)) (xs := ([((-1 : Int), (0 : Int)), ((0 : Int), (-1 : Int)), ((0 : Int), (1 : Int)), ((1 : Int), (0 : Int))] : (List (Int × Int))))), (bindE h fun ys3 hys3 h => ⟨([((-1 : Int), (0 : Int)), ((0 : Int), (-1 : Int)), ((0 : Int), (1 : Int)), ((1 : Int), (0 : Int))] : (List (Int × Int))), ys3, rfl, hys3, (.inl rfl), fun y1 _ h => ⟨[some (.d ((eT (eT eI)) land)), some (.d ((eP eI eI) spot)), none, some (.d ((eP eI eI) y1)), none], rfl, (g_call io_stepped.symm rfl (ga_cons rfl (g_loc rfl ⟨((eP eI eI) spot), rfl, (ga_cons rfl (g_loc rfl ⟨((eP eI eI) y1), rfl, (ga_cons rfl (g_lit ⟨(eI (1 : Int)), rfl, (ga_nil (bindE h fun r2 hr2 h => ⟨((eP eI eI) r2), (r_stepped (n + 0) spot y1 (1 : Int) r2 hr2), NM.nm (f := (eP eI eI)) r2, ⟨dE (f := (eP eI eI)) h, rfl⟩⟩))⟩))⟩))⟩)))⟩, ⟨_, rfl, rfl, [some (.d ((eT (eT eI)) land)), some (.d ((eP eI eI) spot)), some (oL (eP eI eI) ys3), none, none], rfl, (s_ret rfl (g_compO (e := (eP eI eI)) (f := (eP eI eI)) (c := fun (y4 : (Int × Int)) => (Option.bind (p_is_on_land land y4) fun r5 =>
  (some r5))) (m := fun (y4 : (Int × Int)) => (some y4)) (it_seq (g_locl rfl rfl ⟨_, (items_O (f := (eP eI eI)) (xs := ys3)), (bindE h fun ys6 hys6 h => ⟨ys3, ys6, rfl, hys6, (.inl rfl), fun y4 _ h => ⟨[some (.d ((eT (eT eI)) land)), some (.d ((eP eI eI) spot)), some (oL (eP eI eI) ys3), none, some (.d ((eP eI eI) y4))], rfl, (gt_one (g_call io_is_on_land.symm rfl (ga_cons rfl (g_loc rfl ⟨((eT (eT eI)) land), rfl, (ga_cons rfl (g_loc rfl ⟨((eP eI eI) y4), rfl, (ga_nil (bindE h fun r5 hr5 h => ⟨(eB r5), (r_is_on_land (n + 0) land y4 r5 hr5), NM.nm (f := eB) r5, ⟨r5, rfl, Option.some.inj h, rfl⟩⟩))⟩))⟩)))), fun _ _ h => (g_loc rfl ⟨dE (f := (eP eI eI)) h, rfl⟩), rfl⟩, (fnE (e := fun (r : (List (Int × Int))) => (oL (eP eI eI) r)) (outs := fun r => []) (v := ys6) h rfl)⟩)⟩))))⟩⟩)⟩))))
/-! p_height_of -/
def p_height_of (land : (List (List Int))) (spot : (Int × Int)) : Option Int :=
  (Option.bind (atI land spot.1) fun x1 =>
  (Option.bind (atI x1 spot.2) fun x2 =>
  (some x2)))
theorem r_height_of (n : Nat) (land : (List (List Int))) (spot : (Int × Int)) (r : Int) (h : p_height_of land spot = some r) : callP P (n + 1) "height_of" [(.d ((eT (eT eI)) land)), (.d ((eP eI eI) spot))] = .ok (.d (eI r)) [] := by
  unfold p_height_of at h
  exact r_fnC (n := n + 0) (d := d_height_of) [some (.d ((eT (eT eI)) land)), some (.d ((eP eI eI) spot))] d_height_of.body fd_height_of rfl rfl rfl
    (s_ret rfl (g_ix (g_ix (g_loc rfl (g_ix (g_loc rfl (g_lit ⟨(eI spot.1), rfl, (bindE h fun x1 hx1 h => ⟨((eT eI) x1), ix_T hx1, (g_ix (g_loc rfl (g_lit ⟨(eI spot.2), rfl, (bindE h fun x2 hx2 h => ⟨(eI x2), ix_T hx2, (fnE (e := fun (r : Int) => (.d (eI r))) (outs := fun r => []) (v := x2) h rfl)⟩)⟩)))⟩)⟩)))))))
/-! p_raw_steepest -/
def p_raw_steepest (land : (List (List Int))) (spot : (Int × Int)) : Option (Option (Int × Int)) :=
  (Option.bind (p_spots_beside land spot) fun r1 =>
  (Option.bind (mapO (fun (y2 : (Int × Int)) => (Option.bind (p_height_of land y2) fun r3 =>
  (some (r3, y2)))) r1) fun ys4 =>
  (Option.bind (compO (fun (y5 : (Int × (Int × Int))) => (Option.bind (p_height_of land spot) fun r6 =>
  (some (decide (y5.1 < r6))))) (fun (y5 : (Int × (Int × Int))) => (some y5)) ys4) fun ys7 =>
  (Option.bind (if (decide ((0 : Int) < ((List.length ys7 : Nat) : Int))) = true then (Option.bind (minO (EnO.lt (eP eI (eP eI eI))) ys7) fun x8 =>
  (some (some x8.2))) else (some (none : (Option (Int × Int))))) fun x9 =>
  (some x9)))))
theorem r_raw_steepest (n : Nat) (land : (List (List Int))) (spot : (Int × Int)) (r : (Option (Int × Int))) (h : p_raw_steepest land spot = some r) : callP P (n + 3) "raw_steepest" [(.d ((eT (eT eI)) land)), (.d ((eP eI eI) spot))] = .ok (.d ((eO (eP eI eI)) r)) [] := by
  unfold p_raw_steepest at h
  exact r_fnC (n := n + 2) (d := d_raw_steepest) [some (.d ((eT (eT eI)) land)), some (.d ((eP eI eI) spot)), none, none, none] d_raw_steepest.body fd_raw_steepest rfl rfl rfl
    (s_asg (g_mapO (e := (eP eI eI)) (f := (eP eI (eP eI eI))) (m := fun (y2 : (Int × Int)) => (Option.bind (p_height_of land y2) fun r3 =>
  (some (r3, y2)))) (it_seq (g_callL io_spots_beside.symm rfl (ga_cons rfl (g_loc rfl ⟨((eT (eT eI)) land), rfl, (ga_cons rfl (g_loc rfl ⟨((eP eI eI) spot), rfl, (ga_nil (bindE h fun r1 hr1 h => ⟨(oL (eP eI eI) r1), (r_spots_beside (n + 0) land spot r1 hr1), .inr rfl, ⟨_, (items_O (f := (eP eI eI)) (xs := r1)), (bindE h fun ys4 hys4 h => ⟨r1, ys4, rfl, hys4, (.inl rfl), fun y2 _ h => ⟨[some (.d ((eT (eT eI)) land)), some (.d ((eP eI eI) spot)), none, some (.d ((eP eI eI) y2)), none], rfl, (g_tupV (gv_cons (g_call io_height_of.symm rfl (ga_cons rfl (g_loc rfl ⟨((eT (eT eI)) land), rfl, (ga_cons rfl (g_loc rfl ⟨((eP eI eI) y2), rfl, (ga_nil (bindE h fun r3 hr3 h => ⟨(eI r3), (r_height_of (n + 1) land y2 r3 hr3), NM.nm (f := eI) r3, ⟨(eI r3), view_d, (gv_cons (g_loc rfl ⟨((eP eI eI) y2), view_d, (gv_nil ⟨dE (f := (eP eI (eP eI eI))) h, rfl⟩)⟩))⟩⟩))⟩))⟩)))))⟩, ⟨_, rfl, rfl, [some (.d ((eT (eT eI)) land)), some (.d ((eP eI eI) spot)), some (oL (eP eI (eP eI eI)) ys4), none, none], rfl, (s_asg (g_compO (e := (eP eI (eP eI eI))) (f := (eP eI (eP eI eI))) (c := fun (y5 : (Int × (Int × Int))) => (Option.bind (p_height_of land spot) fun r6 =>
  (some (decide (y5.1 < r6))))) (m := fun (y5 : (Int × (Int × Int))) => (some y5)) (it_seq (g_locl rfl rfl ⟨_, (items_O (f := (eP eI (eP eI eI))) (xs := ys4)), (bindE h fun ys7 hys7 h => ⟨ys4, ys7, rfl, hys7, (.inl rfl), fun y5 _ h => ⟨[some (.d ((eT (eT eI)) land)), some (.d ((eP eI eI) spot)), some (oL (eP eI (eP eI eI)) ys4), none, some (.d ((eP eI (eP eI eI)) y5))], rfl, (gt_one (g_cmp (g_ix (g_loc rfl (g_lit ⟨(eI y5.1), rfl, (g_call io_height_of.symm rfl (ga_cons rfl (g_loc rfl ⟨((eT (eT eI)) land), rfl, (ga_cons rfl (g_loc rfl ⟨((eP eI eI) spot), rfl, (ga_nil (bindE h fun r6 hr6 h => ⟨(eI r6), (r_height_of (n + 1) land spot r6 hr6), NM.nm (f := eI) r6, ⟨(decide (y5.1 < r6)), (cq_lt y5.1 r6), ⟨(decide (y5.1 < r6)), rfl, Option.some.inj h, rfl⟩⟩⟩))⟩))⟩)))⟩))))), fun _ _ h => (g_loc rfl ⟨dE (f := (eP eI (eP eI eI))) h, rfl⟩), rfl⟩, ⟨_, rfl, rfl, [some (.d ((eT (eT eI)) land)), some (.d ((eP eI eI) spot)), some (oL (eP eI (eP eI eI)) ys7), none, none], rfl, (s_ret rfl (g_ite (g_cmp (g_bi (gv_cons (g_locl rfl rfl ⟨((eL (eP eI (eP eI eI))) ys7), view_l, (gv_nil ⟨(.d (eI ((List.length ys7 : Nat) : Int))), (b_lenL ys7), (g_lit ⟨(decide ((0 : Int) < ((List.length ys7 : Nat) : Int))), (cq_gt ((List.length ys7 : Nat) : Int) (0 : Int)), (bindE h fun x9 hx9 h => ⟨(decide ((0 : Int) < ((List.length ys7 : Nat) : Int))), rfl, (.d ((eO (eP eI eI)) x9)), [some (.d ((eT (eT eI)) land)), some (.d ((eP eI eI) spot)), some (oL (eP eI (eP eI eI)) ys7), none, none], fun hx => (have h := iteT hx9 hx; (g_ix (g_bi (gv_cons (g_locl rfl rfl ⟨((eL (eP eI (eP eI eI))) ys7), view_l, (gv_nil (bindE h fun x8 hx8 h => ⟨(.d ((eP eI (eP eI eI)) x8)), (b_minL (eP eI (eP eI eI)) hx8), (g_lit ⟨((eP eI eI) x8.2), rfl, (isE (e := (eO (eP eI eI))) h)⟩)⟩))⟩))))), fun hx => (have h := iteF hx9 hx; (g_lit (isE (e := (eO (eP eI eI))) h))), (fnE (e := fun (r : (Option (Int × Int))) => (.d ((eO (eP eI eI)) r))) (outs := fun r => []) (v := x9) h rfl)⟩)⟩)⟩)⟩))))))⟩⟩)⟩))))⟩⟩)⟩⟩))⟩))⟩))))))
/-! p_raw_stream -/
abbrev J_raw_stream_1 (land : (List (List Int))) (spot : (Int × Int)) (s2 : ((List (Int × Int)))) (τ : Tau) : Prop := τ = [some (.d ((eT (eT eI)) land)), some (.d ((eP eI eI) spot)), some (oL (eP eI eI) s2)]
def p_raw_stream_b2 (land : (List (List Int))) (s2 : ((List (Int × Int)))) : Option ((List (Int × Int))) :=
  (Option.bind (atI s2 (-1 : Int)) fun x5 =>
  (Option.bind (p_raw_steepest land x5) fun r6 =>
  (Option.bind r6 fun x7 =>
  (Option.bind (appO s2 x7) fun x8 =>
  (some x8)))))
def p_raw_stream_c3 (land : (List (List Int))) (s2 : ((List (Int × Int)))) : Option Bool :=
  (Option.bind (atI s2 (-1 : Int)) fun x3 =>
  (Option.bind (p_raw_steepest land x3) fun r4 =>
  (some (!Option.isNone r4))))
def p_raw_stream (land : (List (List Int))) (spot : (Int × Int)) : Option (List (Int × Int)) :=
  (letO ([spot] : (List (Int × Int))) fun found1 =>
  (Option.bind (whO (p_raw_stream_c3 land) (p_raw_stream_b2 land) wfuel found1) fun s9 =>
  (some s9)))
theorem r_raw_stream (n : Nat) (land : (List (List Int))) (spot : (Int × Int)) (r : (List (Int × Int))) (h : p_raw_stream land spot = some r) : callP P (n + 4) "raw_stream" [(.d ((eT (eT eI)) land)), (.d ((eP eI eI) spot))] = .ok (oL (eP eI eI) r) [] := by
  unfold p_raw_stream at h
  exact r_fnC (n := n + 3) (d := d_raw_stream) [some (.d ((eT (eT eI)) land)), some (.d ((eP eI eI) spot)), none] d_raw_stream.body fd_raw_stream rfl rfl rfl
    (s_asg (g_lst (gd_cons (g_loc rfl ⟨((eP eI eI) spot), rfl, (gd_nil (letE h fun found1 efound1 h => ⟨_, (slotL (e := (eP eI eI)) efound1), rfl, [some (.d ((eT (eT eI)) land)), some (.d ((eP eI eI) spot)), some (oL (eP eI eI) found1)], rfl, (bindE h fun s9 hs9 h => (s_while (cc := (p_raw_stream_c3 land)) (body := (p_raw_stream_b2 land)) (J_raw_stream_1 land spot) found1 s9 hs9 rfl (fun s2 _ _ ej h => by subst ej; exact (g_cmp (g_call io_raw_steepest.symm rfl (ga_cons rfl (g_loc rfl ⟨((eT (eT eI)) land), rfl, (ga_cons rfl (g_ix (g_locl rfl rfl (g_neg (g_lit ⟨(1 : Int), rfl, (bindE h fun x3 hx3 h => ⟨((eP eI eI) x3), ix_O hx3, ⟨((eP eI eI) x3), rfl, (ga_nil (bindE h fun r4 hr4 h => ⟨((eO (eP eI eI)) r4), (r_raw_steepest (n + 0) land x3 r4 hr4), NM.nm (f := (eO (eP eI eI))) r4, (g_lit ⟨(!Option.isNone r4), (cq_isnO r4), (isE (e := eB) h)⟩)⟩))⟩⟩)⟩)))))⟩))))) (fun s2 _ _ ej _ h => by subst ej; exact (s_expr (g_app (f := (eP eI eI)) (xs := s2) rfl (g_unw (f := (eP eI eI)) (g_call io_raw_steepest.symm rfl (ga_cons rfl (g_loc rfl ⟨((eT (eT eI)) land), rfl, (ga_cons rfl (g_ix (g_locl rfl rfl (g_neg (g_lit ⟨(1 : Int), rfl, (bindE h fun x5 hx5 h => ⟨((eP eI eI) x5), ix_O hx5, ⟨((eP eI eI) x5), rfl, (ga_nil (bindE h fun r6 hr6 h => ⟨((eO (eP eI eI)) r6), (r_raw_steepest (n + 0) land x5 r6 hr6), NM.nm (f := (eO (eP eI eI))) r6, (bindE h fun x7 hx7 h => ⟨r6, x7, rfl, hx7, (bindE h fun x8 hx8 h => ⟨x7, x8, rfl, rfl, hx8, (s_nil (lpE (J := (J_raw_stream_1 land spot)) (v := x8) h rfl))⟩)⟩)⟩))⟩⟩)⟩)))))⟩))))))) (fun _ ej => by subst ej; exact (s_retl rfl (fnE (e := fun (r : (List (Int × Int))) => (oL (eP eI eI) r)) (outs := fun r => []) (v := s9) h rfl)))))⟩))⟩))))
/-! p_stream -/
def p_stream (land : (List (List Int))) (spot : (Int × Int)) : Option (List (Int × Int)) :=
  (Option.bind (p_check_spot land spot) fun r1 =>
  (Option.bind (p_raw_stream land spot) fun r2 =>
  (some r2)))
theorem r_stream (n : Nat) (land : (List (List Int))) (spot : (Int × Int)) (r : (List (Int × Int))) (h : p_stream land spot = some r) : callP P (n + 8) "stream" [(.d ((eT (eT eI)) land)), (.d ((eP eI eI) spot))] = .ok (.d ((eT (eP eI eI)) r)) [] := by
  unfold p_stream at h
  exact r_fnC (n := n + 7) (d := d_stream) [some (.d ((eT (eT eI)) land)), some (.d ((eP eI eI) spot))] d_stream.body fd_stream rfl rfl rfl
    (s_expr (g_call io_check_spot.symm rfl (ga_cons rfl (g_loc rfl ⟨((eT (eT eI)) land), rfl, (ga_cons rfl (g_loc rfl ⟨((eP eI eI) spot), rfl, (ga_nil (bindE h fun r1 hr1 h => ⟨(eU r1), (r_check_spot (n + 0) land spot r1 hr1), NM.nm (f := eU) r1, (s_ret rfl (g_bi (gv_cons (g_callL io_raw_stream.symm rfl (ga_cons rfl (g_loc rfl ⟨((eT (eT eI)) land), rfl, (ga_cons rfl (g_loc rfl ⟨((eP eI eI) spot), rfl, (ga_nil (bindE h fun r2 hr2 h => ⟨(oL (eP eI eI) r2), (r_raw_stream (n + 3) land spot r2 hr2), .inr rfl, ⟨((eL (eP eI eI)) r2), view_l, (gv_nil ⟨(.d ((eT (eP eI eI)) r2)), (b_tupL r2), (fnE (e := fun (r : (List (Int × Int))) => (.d ((eT (eP eI eI)) r))) (outs := fun r => []) (v := r2) h rfl)⟩)⟩⟩))⟩))⟩))))))⟩))⟩))⟩))))
/-! p_all_spots -/
abbrev J_all_spots_1 (land : (List (List Int))) (s3 : ((List (Int × Int)))) (τ : Tau) : Prop := ∃ v2_s3 : Option O, τ = [some (.d ((eT (eT eI)) land)), some (oL (eP eI eI) s3), v2_s3, none]
def p_all_spots_b2 (land : (List (List Int))) (s3 : ((List (Int × Int)))) (y4 : Int) : Option ((List (Int × Int))) :=
  (Option.bind (atI land (0 : Int)) fun x5 =>
  (Option.bind (rngO (0 : Int) ((List.length x5 : Nat) : Int)) fun xs6 =>
  (Option.bind (extO s3 (List.map (fun (y7 : Int) => (y4, y7)) xs6)) fun x8 =>
  (some x8))))
def p_all_spots (land : (List (List Int))) : Option (List (Int × Int)) :=
  (letO ([] : (List (Int × Int))) fun found1 =>
  (Option.bind (rngO (0 : Int) ((List.length land : Nat) : Int)) fun xs2 =>
  (Option.bind (forO (p_all_spots_b2 land) xs2 found1) fun s9 =>
  (some s9))))
theorem r_all_spots (n : Nat) (land : (List (List Int))) (r : (List (Int × Int))) (h : p_all_spots land = some r) : callP P (n + 1) "all_spots" [(.d ((eT (eT eI)) land))] = .ok (oL (eP eI eI) r) [] := by
  unfold p_all_spots at h
  exact r_fnC (n := n + 0) (d := d_all_spots) [some (.d ((eT (eT eI)) land)), none, none, none] d_all_spots.body fd_all_spots rfl rfl rfl
    (s_asg (g_lst (gd_nil (letE h fun found1 efound1 h => ⟨_, (slotL (e := (eP eI eI)) efound1), rfl, [some (.d ((eT (eT eI)) land)), some (oL (eP eI eI) found1), none, none], rfl, (s_for (e := eI) (body := (p_all_spots_b2 land)) (J_all_spots_1 land) (it_rng (gv_cons (g_bi (gv_cons (g_loc rfl ⟨((eT (eT eI)) land), view_d, (gv_nil ⟨(.d (eI ((List.length land : Nat) : Int))), (b_lenT land), ⟨(eI ((List.length land : Nat) : Int)), view_d, (gv_nil (bindE h fun xs2 hxs2 h => ⟨_, rng_0 hxs2, (bindE h fun s9 hs9 h => ⟨xs2, found1, s9, rfl, hs9, ⟨_, rfl⟩, fun s3 y4 _ _ ⟨v2_s3, ej⟩ h => by subst ej; exact ⟨[some (.d ((eT (eT eI)) land)), some (oL (eP eI eI) s3), some (.d (eI y4)), none], rfl, (s_expr (g_ext (f := (eP eI eI)) (xs := s3) rfl (g_map (e := eI) (f := (eP eI eI)) (fun (y7 : Int) => (y4, y7)) (it_rng (gv_cons (g_bi (gv_cons (g_ix (g_loc rfl (g_lit (bindE h fun x5 hx5 h => ⟨((eT eI) x5), ix_T hx5, ⟨((eT eI) x5), view_d, (gv_nil ⟨(.d (eI ((List.length x5 : Nat) : Int))), (b_lenT x5), ⟨(eI ((List.length x5 : Nat) : Int)), view_d, (gv_nil (bindE h fun xs6 hxs6 h => ⟨_, rng_0 hxs6, ⟨xs6, rfl, (.inr (rng_len hxs6)), fun y7 => ⟨[some (.d ((eT (eT eI)) land)), some (oL (eP eI eI) s3), some (.d (eI y4)), some (.d (eI y7))], rfl, (g_tupV (gv_cons (g_loc rfl ⟨(eI y4), view_d, (gv_cons (g_loc rfl ⟨(eI y7), view_d, (gv_nil ⟨rfl, rfl⟩)⟩))⟩)))⟩, (bindE h fun x8 hx8 h => ⟨(List.map (fun (y7 : Int) => (y4, y7)) xs6), x8, view_l, rfl, hx8, (s_nil (lpE (J := (J_all_spots_1 land)) (v := x8) h ⟨_, rfl⟩))⟩)⟩⟩))⟩⟩)⟩⟩)))))))))))⟩, fun _ ⟨v2_s9, ej⟩ => by subst ej; exact (s_retl rfl (fnE (e := fun (r : (List (Int × Int))) => (oL (eP eI eI) r)) (outs := fun r => []) (v := s9) h rfl))⟩)⟩))⟩⟩)⟩))))))⟩))))
/-! p_ends -/
def p_ends (land : (List (List Int))) : Option (List (Int × Int)) :=
  (Option.bind (p_check_land land) fun r1 =>
  (Option.bind (p_all_spots land) fun r2 =>
  (Option.bind (compO (fun (y3 : (Int × Int)) => (Option.bind (p_raw_steepest land y3) fun r4 =>
  (some (Option.isNone r4)))) (fun (y3 : (Int × Int)) => (some y3)) r2) fun ys5 =>
  (some ys5))))
theorem r_ends (n : Nat) (land : (List (List Int))) (r : (List (Int × Int))) (h : p_ends land = some r) : callP P (n + 7) "ends" [(.d ((eT (eT eI)) land))] = .ok (.d ((eT (eP eI eI)) r)) [] := by
  unfold p_ends at h
  exact r_fnC (n := n + 6) (d := d_ends) [some (.d ((eT (eT eI)) land)), none] d_ends.body fd_ends rfl rfl rfl
    (s_expr (g_call io_check_land.symm rfl (ga_cons rfl (g_loc rfl ⟨((eT (eT eI)) land), rfl, (ga_nil (bindE h fun r1 hr1 h => ⟨(eU r1), (r_check_land (n + 0) land r1 hr1), NM.nm (f := eU) r1, (s_ret rfl (g_bi (gv_cons (g_compO (e := (eP eI eI)) (f := (eP eI eI)) (c := fun (y3 : (Int × Int)) => (Option.bind (p_raw_steepest land y3) fun r4 =>
  (some (Option.isNone r4)))) (m := fun (y3 : (Int × Int)) => (some y3)) (it_seq (g_callL io_all_spots.symm rfl (ga_cons rfl (g_loc rfl ⟨((eT (eT eI)) land), rfl, (ga_nil (bindE h fun r2 hr2 h => ⟨(oL (eP eI eI) r2), (r_all_spots (n + 5) land r2 hr2), .inr rfl, ⟨_, (items_O (f := (eP eI eI)) (xs := r2)), (bindE h fun ys5 hys5 h => ⟨r2, ys5, rfl, hys5, (.inl rfl), fun y3 _ h => ⟨[some (.d ((eT (eT eI)) land)), some (.d ((eP eI eI) y3))], rfl, (gt_one (g_cmp (g_call io_raw_steepest.symm rfl (ga_cons rfl (g_loc rfl ⟨((eT (eT eI)) land), rfl, (ga_cons rfl (g_loc rfl ⟨((eP eI eI) y3), rfl, (ga_nil (bindE h fun r4 hr4 h => ⟨((eO (eP eI eI)) r4), (r_raw_steepest (n + 3) land y3 r4 hr4), NM.nm (f := (eO (eP eI eI))) r4, (g_lit ⟨(Option.isNone r4), (cq_isO r4), ⟨(Option.isNone r4), rfl, Option.some.inj h, rfl⟩⟩)⟩))⟩))⟩))))), fun _ _ h => (g_loc rfl ⟨dE (f := (eP eI eI)) h, rfl⟩), rfl⟩, ⟨((eL (eP eI eI)) ys5), view_l, (gv_nil ⟨(.d ((eT (eP eI eI)) ys5)), (b_tupL ys5), (fnE (e := fun (r : (List (Int × Int))) => (.d ((eT (eP eI eI)) r))) (outs := fun r => []) (v := ys5) h rfl)⟩)⟩⟩)⟩⟩))⟩))))))))⟩))⟩))))
/-! p_raw_gathered -/
abbrev J_raw_gathered_1 (land : (List (List Int))) (s6 : ((List ((Int × Int) × Int)))) (τ : Tau) : Prop := ∃ v2_s6 v3_s6 : Option O, τ = [some (.d ((eT (eT eI)) land)), some (oM true (eP eI eI) eI s6), v2_s6, v3_s6]
abbrev J_raw_gathered_2 (land : (List (List Int))) (y7 : (Int × Int)) (s9 : ((List ((Int × Int) × Int)))) (τ : Tau) : Prop := ∃ v3_s9 : Option O, τ = [some (.d ((eT (eT eI)) land)), some (oM true (eP eI eI) eI s9), some (.d ((eP eI eI) y7)), v3_s9]
def p_raw_gathered_b3 (s9 : ((List ((Int × Int) × Int)))) (y10 : (Int × Int)) : Option ((List ((Int × Int) × Int))) :=
  (Option.bind (valE s9 y10) fun v11 =>
  (Option.bind (dputE s9 y10 (v11 + (1 : Int))) fun found12 =>
  (some found12)))
def p_raw_gathered_b4 (land : (List (List Int))) (s6 : ((List ((Int × Int) × Int)))) (y7 : (Int × Int)) : Option ((List ((Int × Int) × Int))) :=
  (Option.bind (p_raw_stream land y7) fun r8 =>
  (Option.bind (forO p_raw_gathered_b3 r8 s6) fun s13 =>
  (some s13)))
def p_raw_gathered (land : (List (List Int))) : Option (List ((Int × Int) × Int)) :=
  (Option.bind (p_all_spots land) fun r1 =>
  (letO (dictE (List.map (fun (y2 : (Int × Int)) => (y2, (0 : Int))) r1)) fun found4 =>
  (Option.bind (p_all_spots land) fun r5 =>
  (Option.bind (forO (p_raw_gathered_b4 land) r5 found4) fun s14 =>
  (some s14)))))
theorem r_raw_gathered (n : Nat) (land : (List (List Int))) (r : (List ((Int × Int) × Int))) (h : p_raw_gathered land = some r) : callP P (n + 5) "raw_gathered" [(.d ((eT (eT eI)) land))] = .ok (oM true (eP eI eI) eI r) [] := by
  unfold p_raw_gathered at h
  exact r_fnC (n := n + 4) (d := d_raw_gathered) [some (.d ((eT (eT eI)) land)), none, none, none] d_raw_gathered.body fd_raw_gathered rfl rfl rfl
    (s_asg (g_dcomp (f := (eP eI eI)) (g := eI) rfl (g_map (e := (eP eI eI)) (f := (eP (eP eI eI) eI)) (fun (y2 : (Int × Int)) => (y2, (0 : Int))) (it_seq (g_callL io_all_spots.symm rfl (ga_cons rfl (g_loc rfl ⟨((eT (eT eI)) land), rfl, (ga_nil (bindE h fun r1 hr1 h => ⟨(oL (eP eI eI) r1), (r_all_spots (n + 3) land r1 hr1), .inr rfl, ⟨_, (items_O (f := (eP eI eI)) (xs := r1)), ⟨r1, rfl, (.inl rfl), fun y2 => ⟨[some (.d ((eT (eT eI)) land)), none, some (.d ((eP eI eI) y2)), none], rfl, (g_tupV (gv_cons (g_loc rfl ⟨((eP eI eI) y2), view_d, (gv_cons (g_lit ⟨(eI (0 : Int)), view_d, (gv_nil ⟨rfl, rfl⟩)⟩))⟩)))⟩, ⟨(List.map (fun (y2 : (Int × Int)) => (y2, (0 : Int))) r1), rfl, (letE h fun found4 efound4 h => ⟨_, (slotM (f := (eP eI eI)) (g := eI) efound4), rfl, [some (.d ((eT (eT eI)) land)), some (oM true (eP eI eI) eI found4), none, none], rfl, (s_for (e := (eP eI eI)) (body := (p_raw_gathered_b4 land)) (J_raw_gathered_1 land) (it_seq (g_callL io_all_spots.symm rfl (ga_cons rfl (g_loc rfl ⟨((eT (eT eI)) land), rfl, (ga_nil (bindE h fun r5 hr5 h => ⟨(oL (eP eI eI) r5), (r_all_spots (n + 3) land r5 hr5), .inr rfl, ⟨_, (items_O (f := (eP eI eI)) (xs := r5)), (bindE h fun s14 hs14 h => ⟨r5, found4, s14, rfl, hs14, ⟨_, _, rfl⟩, fun s6 y7 _ _ ⟨v2_s6, v3_s6, ej⟩ h => by subst ej; exact ⟨[some (.d ((eT (eT eI)) land)), some (oM true (eP eI eI) eI s6), some (.d ((eP eI eI) y7)), v3_s6], rfl, (s_for (e := (eP eI eI)) (body := p_raw_gathered_b3) (J_raw_gathered_2 land y7) (it_seq (g_callL io_raw_stream.symm rfl (ga_cons rfl (g_loc rfl ⟨((eT (eT eI)) land), rfl, (ga_cons rfl (g_loc rfl ⟨((eP eI eI) y7), rfl, (ga_nil (bindE h fun r8 hr8 h => ⟨(oL (eP eI eI) r8), (r_raw_stream (n + 0) land y7 r8 hr8), .inr rfl, ⟨_, (items_O (f := (eP eI eI)) (xs := r8)), (bindE h fun s13 hs13 h => ⟨r8, s6, s13, rfl, hs13, ⟨_, rfl⟩, fun s9 y10 _ _ ⟨v3_s9, ej⟩ h => by subst ej; exact ⟨[some (.d ((eT (eT eI)) land)), some (oM true (eP eI eI) eI s9), some (.d ((eP eI eI) y7)), some (.d ((eP eI eI) y10))], rfl, (s_daug rfl (g_loc rfl (bindE h fun v11 hv11 h => ⟨_, _, _, _, rfl, (daug_key (f := (eP eI eI)) s9 y10), (daug_val (f := (eP eI eI)) (g := eI) hv11), (g_lit (bindE h fun found12 hfound12 h => ⟨(eI (v11 + (1 : Int))), _, _, _, rfl, rfl, (dput_E hfound12), [some (.d ((eT (eT eI)) land)), some (oM true (eP eI eI) eI found12), some (.d ((eP eI eI) y7)), some (.d ((eP eI eI) y10))], rfl, (s_nil (lpE (J := (J_raw_gathered_2 land y7)) (v := found12) h ⟨_, rfl⟩))⟩))⟩)))⟩, fun _ ⟨v3_s13, ej⟩ => by subst ej; exact (s_nil (lpE (J := (J_raw_gathered_1 land)) (v := s13) h ⟨_, _, rfl⟩))⟩)⟩⟩))⟩))⟩)))))⟩, fun _ ⟨v2_s14, v3_s14, ej⟩ => by subst ej; exact (s_retl rfl (fnE (e := fun (r : (List ((Int × Int) × Int))) => (oM true (eP eI eI) eI r)) (outs := fun r => []) (v := s14) h rfl))⟩)⟩⟩))⟩)))))⟩)⟩⟩⟩⟩))⟩)))))))
/-! p_gathered -/
def p_gathered (land : (List (List Int))) : Option (List ((Int × Int) × Int)) :=
  (Option.bind (p_check_land land) fun r1 =>
  (Option.bind (p_raw_gathered land) fun r2 =>
  (some r2)))
theorem r_gathered (n : Nat) (land : (List (List Int))) (r : (List ((Int × Int) × Int))) (h : p_gathered land = some r) : callP P (n + 7) "gathered" [(.d ((eT (eT eI)) land))] = .ok (oM true (eP eI eI) eI r) [] := by
  unfold p_gathered at h
  exact r_fnC (n := n + 6) (d := d_gathered) [some (.d ((eT (eT eI)) land))] d_gathered.body fd_gathered rfl rfl rfl
    (s_expr (g_call io_check_land.symm rfl (ga_cons rfl (g_loc rfl ⟨((eT (eT eI)) land), rfl, (ga_nil (bindE h fun r1 hr1 h => ⟨(eU r1), (r_check_land (n + 0) land r1 hr1), NM.nm (f := eU) r1, (s_ret rfl (g_callL io_raw_gathered.symm rfl (ga_cons rfl (g_loc rfl ⟨((eT (eT eI)) land), rfl, (ga_nil (bindE h fun r2 hr2 h => ⟨(oM true (eP eI eI) eI r2), (r_raw_gathered (n + 1) land r2 hr2), .inr rfl, (fnE (e := fun (r : (List ((Int × Int) × Int))) => (oM true (eP eI eI) eI r)) (outs := fun r => []) (v := r2) h rfl)⟩))⟩))))⟩))⟩))))
/-! p_law_draw -/
abbrev J_law_draw_1 (size : Int) (s1 : (Hand)) (τ : Tau) : Prop := ∃ v2_s1 : Option O, τ = [some (oH s1), some (.d (eI size)), v2_s1, none, none]
abbrev J_law_draw_2 (size : Int) (x2 : Int) (s5 : (Hand)) (τ : Tau) : Prop := τ = [some (oH s5), some (.d (eI size)), some (.d (eI x2)), none, none]
def p_law_draw (hand : Hand) (size : Int) : Option (Int × Hand) :=
  (Option.bind (if ((decide (hand.f2 = (0 : Int))) && (decide (hand.f1 < ((List.length hand.f0 : Nat) : Int)))) = true then (Option.bind (atI hand.f0 hand.f1) fun x2 =>
  (letO (Hand.mk hand.f0 (hand.f1 + (1 : Int)) hand.f2 hand.f3 hand.f4) fun hand3 =>
  (letO (Hand.mk hand3.f0 hand3.f1 hand3.f2 ((((hand3.f3 * (69621 : Int)) + (x2 * (40692 : Int))) + (29 : Int)) % (2147483629 : Int)) hand3.f4) fun hand4 =>
  (Option.bind (if (decide ((1000000000000000000 : Int) ≤ x2)) = true then (letO (Hand.mk hand4.f0 hand4.f1 x2 hand4.f3 hand4.f4) fun hand6 =>
  (some hand6))
  else (some hand4)) fun s5 =>
  (some s5)))))
  else (some hand)) fun s1 =>
  (if (decide ((0 : Int) < s1.f2)) = true then (Option.bind (modO s1.f2 size) fun x7 =>
  (Option.bind (divO s1.f2 size) fun x8 =>
  (letO (Hand.mk s1.f0 s1.f1 x8 s1.f3 s1.f4) fun hand9 =>
  (some (x7, hand9)))))
  else (letO (Hand.mk s1.f0 s1.f1 s1.f2 s1.f3 (s1.f4 + (1 : Int))) fun hand10 =>
  (letO (((hand10.f3 + ((7919 : Int) * hand10.f4)) * (48271 : Int)) % (2147483647 : Int)) fun number11 =>
  (Option.bind (mulO number11 ((number11 / (1009 : Int)) + (69621 : Int))) fun x12 =>
  (letO (x12 % (2147483647 : Int)) fun number13 =>
  (Option.bind (mulO number13 ((number13 / (2003 : Int)) + (40014 : Int))) fun x14 =>
  (letO (x14 % (2147483563 : Int)) fun number15 =>
  (Option.bind (modO (number15 / (16 : Int)) size) fun x16 =>
  (some (x16, hand10)))))))))))
theorem r_law_draw (n : Nat) (hand : Hand) (size : Int) (r : (Int × Hand)) (h : p_law_draw hand size = some r) : callP P (n + 1) "_law_draw" [(oH hand), (.d (eI size))] = .ok (.d (eI r.1)) [(oH r.2)] := by
  unfold p_law_draw at h
  exact r_fnC (n := n + 0) (d := d_law_draw) [some (oH hand), some (.d (eI size)), none, none, none] d_law_draw.body fd_law_draw rfl rfl rfl
    (s_ifj (g_and (g_andc (g_cmp (g_ix (g_locl rfl rfl (g_lit ⟨(eI hand.f2), rfl, (g_lit ⟨(decide (hand.f2 = (0 : Int))), (cq_eq eI hand.f2 (0 : Int)), ⟨(decide (hand.f2 = (0 : Int))), rfl, ((decide (hand.f2 = (0 : Int))) && (decide (hand.f1 < ((List.length hand.f0 : Nat) : Int)))), [some (oH hand), some (.d (eI size)), none, none, none], fun hx => (g_and1 (g_cmp (g_ix (g_locl rfl rfl (g_lit ⟨(eI hand.f1), rfl, (g_bi (gv_cons (g_ix (g_locl rfl rfl (g_lit ⟨((eL eI) hand.f0), rfl, ⟨((eL eI) hand.f0), view_d, (gv_nil ⟨(.d (eI ((List.length hand.f0 : Nat) : Int))), (b_lenL hand.f0), ⟨(decide (hand.f1 < ((List.length hand.f0 : Nat) : Int))), (cq_lt hand.f1 ((List.length hand.f0 : Nat) : Int)), (is_and (x := (decide (hand.f2 = (0 : Int)))) (y := (decide (hand.f1 < ((List.length hand.f0 : Nat) : Int)))) hx)⟩⟩)⟩⟩)))))⟩))))), fun hx => ⟨and_f hx, rfl⟩, (bindE h fun s1 hs1 h => ⟨((decide (hand.f2 = (0 : Int))) && (decide (hand.f1 < ((List.length hand.f0 : Nat) : Int)))), rfl, (J_law_draw_1 size) s1, fun hc => (have h := iteT hs1 hc; (s_asg (g_ix (g_ix (g_locl rfl rfl (g_lit ⟨((eL eI) hand.f0), rfl, (g_ix (g_locl rfl rfl (g_lit ⟨(eI hand.f1), rfl, (bindE h fun x2 hx2 h => ⟨(eI x2), ix_L hx2, ⟨_, rfl, rfl, [some (oH hand), some (.d (eI size)), some (.d (eI x2)), none, none], rfl, (s_put (g_bin (g_ix (g_locl rfl rfl (g_lit ⟨(eI hand.f1), rfl, ⟨(eI hand.f1), view_d, (g_lit ⟨(eI (1 : Int)), (.d (eI (hand.f1 + (1 : Int)))), view_d, rfl, ⟨_, rfl, (g_lit (letE h fun hand3 ehand3 h => ⟨_, _, rfl, rfl, [some (oH hand3), some (.d (eI size)), some (.d (eI x2)), none, none], (by subst ehand3; rfl), (s_put (g_bin (g_bi (gv_cons (g_bin (g_bin (g_bin (g_ix (g_locl rfl rfl (g_lit ⟨(eI hand3.f3), rfl, ⟨(eI hand3.f3), view_d, (g_lit ⟨(eI (69621 : Int)), (.d (eI (hand3.f3 * (69621 : Int)))), view_d, (op_mulR (by decide)), ⟨(eI (hand3.f3 * (69621 : Int))), view_d, (g_bin (g_loc rfl ⟨(eI x2), view_d, (g_lit ⟨(eI (40692 : Int)), (.d (eI (x2 * (40692 : Int)))), view_d, (op_mulR (by decide)), ⟨(eI (x2 * (40692 : Int))), (.d (eI ((hand3.f3 * (69621 : Int)) + (x2 * (40692 : Int))))), view_d, rfl, ⟨(eI ((hand3.f3 * (69621 : Int)) + (x2 * (40692 : Int)))), view_d, (g_lit ⟨(eI (29 : Int)), (.d (eI (((hand3.f3 * (69621 : Int)) + (x2 * (40692 : Int))) + (29 : Int)))), view_d, rfl, ⟨(eI (((hand3.f3 * (69621 : Int)) + (x2 * (40692 : Int))) + (29 : Int))), view_d, (gv_nil ⟨(.d (eI (((hand3.f3 * (69621 : Int)) + (x2 * (40692 : Int))) + (29 : Int)))), rfl, ⟨(eI (((hand3.f3 * (69621 : Int)) + (x2 * (40692 : Int))) + (29 : Int))), view_d, (g_lit ⟨(eI (2147483629 : Int)), (.d (eI ((((hand3.f3 * (69621 : Int)) + (x2 * (40692 : Int))) + (29 : Int)) % (2147483629 : Int)))), view_d, (op_modL (by decide)), ⟨_, rfl, (g_lit (letE h fun hand4 ehand4 h => ⟨_, _, rfl, rfl, [some (oH hand4), some (.d (eI size)), some (.d (eI x2)), none, none], (by subst ehand4; rfl), (s_ifj (g_cmp (g_loc rfl (g_bin (g_lit ⟨(eI (10 : Int)), view_d, (g_lit ⟨(eI (18 : Int)), (.d (eI (1000000000000000000 : Int))), view_d, rfl, ⟨(decide ((1000000000000000000 : Int) ≤ x2)), (cq_ge x2 (1000000000000000000 : Int)), (bindE h fun s5 hs5 h => ⟨(decide ((1000000000000000000 : Int) ≤ x2)), rfl, (J_law_draw_2 size x2) s5, fun hc => (have h := iteT hs5 hc; (s_put (g_loc rfl ⟨_, rfl, (g_lit (letE h fun hand6 ehand6 h => ⟨_, _, rfl, rfl, [some (oH hand6), some (.d (eI size)), some (.d (eI x2)), none, none], (by subst ehand6; rfl), (s_nil (nxE (J := (J_law_draw_2 size x2)) (v := hand6) h rfl))⟩))⟩))), fun hc => (have h := iteF hs5 hc; (s_nil (nxE (J := (J_law_draw_2 size x2)) (v := hand4) h rfl))), fun _ ej => by subst ej; exact (s_nil (nxE (J := (J_law_draw_1 size)) (v := s5) h ⟨_, rfl⟩))⟩)⟩⟩)⟩)))))⟩))⟩⟩)⟩⟩)⟩⟩)⟩⟩⟩)⟩))⟩⟩)⟩⟩))))))))))⟩))⟩⟩)⟩⟩)))))⟩⟩)⟩)))⟩)))))), fun hc => (have h := iteF hs1 hc; (s_nil (nxE (J := (J_law_draw_1 size)) (v := hand) h ⟨_, rfl⟩))), fun _ ⟨v2_s1, ej⟩ => by subst ej; exact (s_if (g_cmp (g_ix (g_locl rfl rfl (g_lit ⟨(eI s1.f2), rfl, (g_lit ⟨(decide ((0 : Int) < s1.f2)), (cq_gt s1.f2 (0 : Int)), ⟨(decide ((0 : Int) < s1.f2)), rfl, fun hc => (have h := iteT h hc; (s_asg (g_bin (g_bi (gv_cons (g_ix (g_locl rfl rfl (g_lit ⟨(eI s1.f2), rfl, ⟨(eI s1.f2), view_d, (gv_nil ⟨(.d (eI s1.f2)), rfl, ⟨(eI s1.f2), view_d, (g_loc rfl (bindE h fun x7 hx7 h => ⟨(eI size), (.d (eI x7)), view_d, (op_modO hx7), ⟨_, rfl, rfl, [some (oH s1), some (.d (eI size)), v2_s1, some (.d (eI x7)), none], rfl, (s_put (g_bin (g_ix (g_locl rfl rfl (g_lit ⟨(eI s1.f2), rfl, ⟨(eI s1.f2), view_d, (g_loc rfl (bindE h fun x8 hx8 h => ⟨(eI size), (.d (eI x8)), view_d, (op_divO hx8), ⟨_, rfl, (g_lit (letE h fun hand9 ehand9 h => ⟨_, _, rfl, rfl, [some (oH hand9), some (.d (eI size)), v2_s1, some (.d (eI x7)), none], (by subst ehand9; rfl), (s_retl rfl (fnE (e := fun (r : (Int × Hand)) => (.d (eI r.1))) (outs := fun r => [(oH r.2)]) (v := (x7, hand9)) h rfl))⟩))⟩⟩))⟩⟩)))))⟩⟩))⟩⟩)⟩⟩)))))))), fun hc => (have h := iteF h hc; (s_put (g_bin (g_ix (g_locl rfl rfl (g_lit ⟨(eI s1.f4), rfl, ⟨(eI s1.f4), view_d, (g_lit ⟨(eI (1 : Int)), (.d (eI (s1.f4 + (1 : Int)))), view_d, rfl, ⟨_, rfl, (g_lit (letE h fun hand10 ehand10 h => ⟨_, _, rfl, rfl, [some (oH hand10), some (.d (eI size)), v2_s1, none, none], (by subst ehand10; rfl), (s_asg (g_bin (g_bi (gv_cons (g_bin (g_bi (gv_cons (g_bin (g_ix (g_locl rfl rfl (g_lit ⟨(eI hand10.f3), rfl, ⟨(eI hand10.f3), view_d, (g_bin (g_lit ⟨(eI (7919 : Int)), view_d, (g_ix (g_locl rfl rfl (g_lit ⟨(eI hand10.f4), rfl, ⟨(eI hand10.f4), (.d (eI ((7919 : Int) * hand10.f4))), view_d, (op_mulL (by decide)), ⟨(eI ((7919 : Int) * hand10.f4)), (.d (eI (hand10.f3 + ((7919 : Int) * hand10.f4)))), view_d, rfl, ⟨(eI (hand10.f3 + ((7919 : Int) * hand10.f4))), view_d, (gv_nil ⟨(.d (eI (hand10.f3 + ((7919 : Int) * hand10.f4)))), rfl, ⟨(eI (hand10.f3 + ((7919 : Int) * hand10.f4))), view_d, (g_lit ⟨(eI (48271 : Int)), (.d (eI ((hand10.f3 + ((7919 : Int) * hand10.f4)) * (48271 : Int)))), view_d, (op_mulR (by decide)), ⟨(eI ((hand10.f3 + ((7919 : Int) * hand10.f4)) * (48271 : Int))), view_d, (gv_nil ⟨(.d (eI ((hand10.f3 + ((7919 : Int) * hand10.f4)) * (48271 : Int)))), rfl, ⟨(eI ((hand10.f3 + ((7919 : Int) * hand10.f4)) * (48271 : Int))), view_d, (g_lit ⟨(eI (2147483647 : Int)), (.d (eI (((hand10.f3 + ((7919 : Int) * hand10.f4)) * (48271 : Int)) % (2147483647 : Int)))), view_d, (op_modL (by decide)), (letE h fun number11 enumber11 h => ⟨_, (slotE (e := eI) enumber11), rfl, [some (oH hand10), some (.d (eI size)), v2_s1, none, some (.d (eI number11))], rfl, (s_asg (g_bin (g_bi (gv_cons (g_bin (g_loc rfl ⟨(eI number11), view_d, (g_bin (g_bin (g_loc rfl ⟨(eI number11), view_d, (g_lit ⟨(eI (1009 : Int)), (.d (eI (number11 / (1009 : Int)))), view_d, (op_divL (by decide)), ⟨(eI (number11 / (1009 : Int))), view_d, (g_lit ⟨(eI (69621 : Int)), (.d (eI ((number11 / (1009 : Int)) + (69621 : Int)))), view_d, rfl, (bindE h fun x12 hx12 h => ⟨(eI ((number11 / (1009 : Int)) + (69621 : Int))), (.d (eI x12)), view_d, (op_mulO hx12), ⟨(eI x12), view_d, (gv_nil ⟨(.d (eI x12)), rfl, ⟨(eI x12), view_d, (g_lit ⟨(eI (2147483647 : Int)), (.d (eI (x12 % (2147483647 : Int)))), view_d, (op_modL (by decide)), (letE h fun number13 enumber13 h => ⟨_, (slotE (e := eI) enumber13), rfl, [some (oH hand10), some (.d (eI size)), v2_s1, none, some (.d (eI number13))], rfl, (s_asg (g_bin (g_bi (gv_cons (g_bin (g_loc rfl ⟨(eI number13), view_d, (g_bin (g_bin (g_loc rfl ⟨(eI number13), view_d, (g_lit ⟨(eI (2003 : Int)), (.d (eI (number13 / (2003 : Int)))), view_d, (op_divL (by decide)), ⟨(eI (number13 / (2003 : Int))), view_d, (g_lit ⟨(eI (40014 : Int)), (.d (eI ((number13 / (2003 : Int)) + (40014 : Int)))), view_d, rfl, (bindE h fun x14 hx14 h => ⟨(eI ((number13 / (2003 : Int)) + (40014 : Int))), (.d (eI x14)), view_d, (op_mulO hx14), ⟨(eI x14), view_d, (gv_nil ⟨(.d (eI x14)), rfl, ⟨(eI x14), view_d, (g_lit ⟨(eI (2147483563 : Int)), (.d (eI (x14 % (2147483563 : Int)))), view_d, (op_modL (by decide)), (letE h fun number15 enumber15 h => ⟨_, (slotE (e := eI) enumber15), rfl, [some (oH hand10), some (.d (eI size)), v2_s1, none, some (.d (eI number15))], rfl, (s_ret rfl (g_bin (g_bi (gv_cons (g_bin (g_loc rfl ⟨(eI number15), view_d, (g_lit ⟨(eI (16 : Int)), (.d (eI (number15 / (16 : Int)))), view_d, (op_divL (by decide)), ⟨(eI (number15 / (16 : Int))), view_d, (gv_nil ⟨(.d (eI (number15 / (16 : Int)))), rfl, ⟨(eI (number15 / (16 : Int))), view_d, (g_loc rfl (bindE h fun x16 hx16 h => ⟨(eI size), (.d (eI x16)), view_d, (op_modO hx16), (fnE (e := fun (r : (Int × Hand)) => (.d (eI r.1))) (outs := fun r => [(oH r.2)]) (v := (x16, hand10)) h rfl)⟩))⟩⟩)⟩⟩)⟩))))))⟩)⟩)⟩⟩)⟩⟩)⟩)⟩⟩)⟩)))⟩))))))⟩)⟩)⟩⟩)⟩⟩)⟩)⟩⟩)⟩)))⟩))))))⟩)⟩)⟩⟩)⟩⟩)⟩⟩)⟩⟩⟩⟩)))⟩))⟩⟩)))))))))))⟩))⟩⟩)⟩⟩))))))⟩⟩)⟩)))))⟩)⟩⟩)⟩)))))))
/-! p_law_some -/
def p_law_some (hand : Hand) (things : (List Int)) : Option (Int × Hand) :=
  (Option.bind (p_law_draw hand ((List.length things : Nat) : Int)) fun r1 =>
  (Option.bind (atI things r1.1) fun x2 =>
  (some (x2, r1.2))))
theorem r_law_some (n : Nat) (hand : Hand) (things : (List Int)) (r : (Int × Hand)) (h : p_law_some hand things = some r) : callP P (n + 2) "_law_some" [(oH hand), (.d ((eL eI) things))] = .ok (.d (eI r.1)) [(oH r.2)] := by
  unfold p_law_some at h
  exact r_fnC (n := n + 1) (d := d_law_some) [some (oH hand), some (.d ((eL eI) things))] d_law_some.body fd_law_some rfl rfl rfl
    (s_ret rfl (g_ix (g_loc rfl (g_callM io__law_draw.symm (ga_io (o1 := (oH hand)) rfl (ga_cons rfl (g_bi (gv_cons (g_loc rfl ⟨((eL eI) things), view_d, (gv_nil ⟨(.d (eI ((List.length things : Nat) : Int))), (b_lenL things), ⟨(eI ((List.length things : Nat) : Int)), rfl, (ga_nil ⟨_, rfl, (bindE h fun r1 hr1 h => ⟨(.d (eI r1.1)), [(oH r1.2)], [some (oH r1.2), some (.d ((eL eI) things))], (r_law_draw (n + 0) hand ((List.length things : Nat) : Int) r1 hr1), rfl, (bindE h fun x2 hx2 h => ⟨(eI x2), ix_L hx2, (fnE (e := fun (r : (Int × Hand)) => (.d (eI r.1))) (outs := fun r => [(oH r.2)]) (v := (x2, r1.2)) h rfl)⟩)⟩)⟩)⟩⟩)⟩)))))))))
/-! p_law_land -/
def p_law_land (hand : Hand) (most : Int) : Option ((List (List Int)) × Hand) :=
  (Option.bind (p_law_draw hand most) fun r1 =>
  (Option.bind (p_law_draw r1.2 most) fun r2 =>
  (letO ((1 : Int) + r1.1) fun rows3 =>
  (letO ((1 : Int) + r2.1) fun columns4 =>
  (Option.bind (p_law_some r2.2 ([(2 : Int), (4 : Int), (10 : Int), (1001 : Int)] : (List Int))) fun r5 =>
  (Option.bind (rngO (0 : Int) rows3) fun xs6 =>
  (Option.bind (mapS (fun s8 y7 => (Option.bind (rngO (0 : Int) columns4) fun xs9 =>
  (Option.bind (mapS (fun s11 y10 => (Option.bind (p_law_draw s11 r5.1) fun r12 =>
  (some (r12.1, r12.2)))) xs9 s8) fun q13 =>
  (some (q13.1, q13.2))))) xs6 r5.2) fun q14 =>
  (some (q14.1, q14.2)))))))))
theorem r_law_land (n : Nat) (hand : Hand) (most : Int) (r : ((List (List Int)) × Hand)) (h : p_law_land hand most = some r) : callP P (n + 3) "_law_land" [(oH hand), (.d (eI most))] = .ok (.d ((eT (eT eI)) r.1)) [(oH r.2)] := by
  unfold p_law_land at h
  exact r_fnC (n := n + 2) (d := d_law_land) [some (oH hand), some (.d (eI most)), none, none, none, none, none] d_law_land.body fd_law_land rfl rfl rfl
    (s_par (go_cons (g_bin (g_lit ⟨(eI (1 : Int)), view_d, (g_callM io__law_draw.symm (ga_io (o1 := (oH hand)) rfl (ga_cons rfl (g_loc rfl ⟨(eI most), rfl, (ga_nil ⟨_, rfl, (bindE h fun r1 hr1 h => ⟨(.d (eI r1.1)), [(oH r1.2)], [some (oH r1.2), some (.d (eI most)), none, none, none, none, none], (r_law_draw (n + 1) hand most r1 hr1), rfl, ⟨(eI r1.1), (.d (eI ((1 : Int) + r1.1))), view_d, rfl, (go_cons (g_bin (g_lit ⟨(eI (1 : Int)), view_d, (g_callM io__law_draw.symm (ga_io (o1 := (oH r1.2)) rfl (ga_cons rfl (g_loc rfl ⟨(eI most), rfl, (ga_nil ⟨_, rfl, (bindE h fun r2 hr2 h => ⟨(.d (eI r2.1)), [(oH r2.2)], [some (oH r2.2), some (.d (eI most)), none, none, none, none, none], (r_law_draw (n + 1) r1.2 most r2 hr2), rfl, ⟨(eI r2.1), (.d (eI ((1 : Int) + r2.1))), view_d, rfl, (go_nil (letE h fun rows3 erows3 h => (letE h fun columns4 ecolumns4 h => ⟨[(.d (eI rows3)), (.d (eI columns4))], (by subst erows3 ecolumns4; rfl), [some (oH r2.2), some (.d (eI most)), some (.d (eI rows3)), some (.d (eI columns4)), none, none, none], rfl, (s_asg (g_callM io__law_some.symm (ga_io (o1 := (oH r2.2)) rfl (ga_cons rfl (g_lst (gd_cons (g_lit ⟨(eI (2 : Int)), rfl, (gd_cons (g_lit ⟨(eI (4 : Int)), rfl, (gd_cons (g_lit ⟨(eI (10 : Int)), rfl, (gd_cons (g_lit ⟨(eI (1001 : Int)), rfl, (gd_nil ⟨((eL eI) ([(2 : Int), (4 : Int), (10 : Int), (1001 : Int)] : (List Int))), (oL_data _), (ga_nil ⟨_, rfl, (bindE h fun r5 hr5 h => ⟨(.d (eI r5.1)), [(oH r5.2)], [some (oH r5.2), some (.d (eI most)), some (.d (eI rows3)), some (.d (eI columns4)), none, none, none], (r_law_some (n + 0) r2.2 ([(2 : Int), (4 : Int), (10 : Int), (1001 : Int)] : (List Int)) r5 hr5), rfl, ⟨_, rfl, rfl, [some (oH r5.2), some (.d (eI most)), some (.d (eI rows3)), some (.d (eI columns4)), some (.d (eI r5.1)), none, none], rfl, (s_ret rfl (g_bi (gv_cons (g_mapS (e := eI) (f := (eT eI)) (fun s8 y7 => (Option.bind (rngO (0 : Int) columns4) fun xs9 =>
  (Option.bind (mapS (fun s11 y10 => (Option.bind (p_law_draw s11 r5.1) fun r12 =>
  (some (r12.1, r12.2)))) xs9 s8) fun q13 =>
  (some (q13.1, q13.2))))) (fun (s8 : Hand) (τ : Tau) => ∃ v5 : Option O, τ = [some (oH s8), some (.d (eI most)), some (.d (eI rows3)), some (.d (eI columns4)), some (.d (eI r5.1)), v5, none]) (it_rng (gv_cons (g_loc rfl ⟨(eI rows3), view_d, (gv_nil (bindE h fun xs6 hxs6 h => ⟨_, rng_0 hxs6, (bindE h fun q14 hq14 h => ⟨xs6, r5.2, q14, rfl, hq14, (.inr (rng_len hxs6)), ⟨_, rfl⟩, fun s8 y7 _ _ ⟨v5, ej⟩ h => by subst ej; exact ⟨[some (oH s8), some (.d (eI most)), some (.d (eI rows3)), some (.d (eI columns4)), some (.d (eI r5.1)), some (.d (eI y7)), none], rfl, (g_bi (gv_cons (g_mapS (e := eI) (f := eI) (fun s11 y10 => (Option.bind (p_law_draw s11 r5.1) fun r12 =>
  (some (r12.1, r12.2)))) (fun (s11 : Hand) (τ : Tau) => ∃ v6 : Option O, τ = [some (oH s11), some (.d (eI most)), some (.d (eI rows3)), some (.d (eI columns4)), some (.d (eI r5.1)), some (.d (eI y7)), v6]) (it_rng (gv_cons (g_loc rfl ⟨(eI columns4), view_d, (gv_nil (bindE h fun xs9 hxs9 h => ⟨_, rng_0 hxs9, (bindE h fun q13 hq13 h => ⟨xs9, s8, q13, rfl, hq13, (.inr (rng_len hxs9)), ⟨_, rfl⟩, fun s11 y10 _ _ ⟨v6, ej⟩ h => by subst ej; exact ⟨[some (oH s11), some (.d (eI most)), some (.d (eI rows3)), some (.d (eI columns4)), some (.d (eI r5.1)), some (.d (eI y7)), some (.d (eI y10))], rfl, (g_callM io__law_draw.symm (ga_io (o1 := (oH s11)) rfl (ga_cons rfl (g_loc rfl ⟨(eI r5.1), rfl, (ga_nil ⟨_, rfl, (bindE h fun r12 hr12 h => ⟨(.d (eI r12.1)), [(oH r12.2)], [some (oH r12.2), some (.d (eI most)), some (.d (eI rows3)), some (.d (eI columns4)), some (.d (eI r5.1)), some (.d (eI y7)), some (.d (eI y10))], (r_law_draw (n + 1) s11 r5.1 r12 hr12), rfl, ⟨by cases h; rfl, by cases h; exact ⟨_, rfl⟩⟩⟩)⟩)⟩))))⟩, fun _ ⟨v6, ej⟩ => by subst ej; exact ⟨((eL eI) q13.1), view_l, (gv_nil ⟨(.d ((eT eI) q13.1)), (b_tupL q13.1), ⟨by cases h; rfl, by cases h; exact ⟨_, rfl⟩⟩⟩)⟩⟩)⟩))⟩))))))⟩, fun _ ⟨v5, ej⟩ => by subst ej; exact ⟨((eL (eT eI)) q14.1), view_l, (gv_nil ⟨(.d ((eT (eT eI)) q14.1)), (b_tupL q14.1), (fnE (e := fun (r : ((List (List Int)) × Hand)) => (.d ((eT (eT eI)) r.1))) (outs := fun r => [(oH r.2)]) (v := (q14.1, q14.2)) h rfl)⟩)⟩⟩)⟩))⟩)))))))⟩⟩)⟩)⟩)⟩))⟩))⟩))⟩)))))))⟩)))⟩⟩)⟩)⟩))))⟩)))⟩⟩)⟩)⟩))))⟩))))
/-! p_law_spots -/
abbrev J_law_spots_1 (land : (List (List Int))) (s3 : ((List (Int × Int)))) (τ : Tau) : Prop := ∃ v2_s3 : Option O, τ = [some (.d ((eT (eT eI)) land)), some (oL (eP eI eI) s3), v2_s3, none]
def p_law_spots_b2 (land : (List (List Int))) (s3 : ((List (Int × Int)))) (y4 : Int) : Option ((List (Int × Int))) :=
  (Option.bind (atI land (0 : Int)) fun x5 =>
  (Option.bind (rngO (0 : Int) ((List.length x5 : Nat) : Int)) fun xs6 =>
  (Option.bind (extO s3 (List.map (fun (y7 : Int) => (y4, y7)) xs6)) fun x8 =>
  (some x8))))
def p_law_spots (land : (List (List Int))) : Option (List (Int × Int)) :=
  (letO ([] : (List (Int × Int))) fun found1 =>
  (Option.bind (rngO (0 : Int) ((List.length land : Nat) : Int)) fun xs2 =>
  (Option.bind (forO (p_law_spots_b2 land) xs2 found1) fun s9 =>
  (some s9))))
theorem r_law_spots (n : Nat) (land : (List (List Int))) (r : (List (Int × Int))) (h : p_law_spots land = some r) : callP P (n + 1) "_law_spots" [(.d ((eT (eT eI)) land))] = .ok (oL (eP eI eI) r) [] := by
  unfold p_law_spots at h
  exact r_fnC (n := n + 0) (d := d_law_spots) [some (.d ((eT (eT eI)) land)), none, none, none] d_law_spots.body fd_law_spots rfl rfl rfl
    (s_asg (g_lst (gd_nil (letE h fun found1 efound1 h => ⟨_, (slotL (e := (eP eI eI)) efound1), rfl, [some (.d ((eT (eT eI)) land)), some (oL (eP eI eI) found1), none, none], rfl, (s_for (e := eI) (body := (p_law_spots_b2 land)) (J_law_spots_1 land) (it_rng (gv_cons (g_bi (gv_cons (g_loc rfl ⟨((eT (eT eI)) land), view_d, (gv_nil ⟨(.d (eI ((List.length land : Nat) : Int))), (b_lenT land), ⟨(eI ((List.length land : Nat) : Int)), view_d, (gv_nil (bindE h fun xs2 hxs2 h => ⟨_, rng_0 hxs2, (bindE h fun s9 hs9 h => ⟨xs2, found1, s9, rfl, hs9, ⟨_, rfl⟩, fun s3 y4 _ _ ⟨v2_s3, ej⟩ h => by subst ej; exact ⟨[some (.d ((eT (eT eI)) land)), some (oL (eP eI eI) s3), some (.d (eI y4)), none], rfl, (s_expr (g_ext (f := (eP eI eI)) (xs := s3) rfl (g_map (e := eI) (f := (eP eI eI)) (fun (y7 : Int) => (y4, y7)) (it_rng (gv_cons (g_bi (gv_cons (g_ix (g_loc rfl (g_lit (bindE h fun x5 hx5 h => ⟨((eT eI) x5), ix_T hx5, ⟨((eT eI) x5), view_d, (gv_nil ⟨(.d (eI ((List.length x5 : Nat) : Int))), (b_lenT x5), ⟨(eI ((List.length x5 : Nat) : Int)), view_d, (gv_nil (bindE h fun xs6 hxs6 h => ⟨_, rng_0 hxs6, ⟨xs6, rfl, (.inr (rng_len hxs6)), fun y7 => ⟨[some (.d ((eT (eT eI)) land)), some (oL (eP eI eI) s3), some (.d (eI y4)), some (.d (eI y7))], rfl, (g_tupV (gv_cons (g_loc rfl ⟨(eI y4), view_d, (gv_cons (g_loc rfl ⟨(eI y7), view_d, (gv_nil ⟨rfl, rfl⟩)⟩))⟩)))⟩, (bindE h fun x8 hx8 h => ⟨(List.map (fun (y7 : Int) => (y4, y7)) xs6), x8, view_l, rfl, hx8, (s_nil (lpE (J := (J_law_spots_1 land)) (v := x8) h ⟨_, rfl⟩))⟩)⟩⟩))⟩⟩)⟩⟩)))))))))))⟩, fun _ ⟨v2_s9, ej⟩ => by subst ej; exact (s_retl rfl (fnE (e := fun (r : (List (Int × Int))) => (oL (eP eI eI) r)) (outs := fun r => []) (v := s9) h rfl))⟩)⟩))⟩⟩)⟩))))))⟩))))
/-! p_law_next_to -/
def p_law_next_to (land : (List (List Int))) (spot : (Int × Int)) : Option (List (Int × Int)) :=
  (letO ([((spot.1 - (1 : Int)), spot.2), (spot.1, (spot.2 - (1 : Int))), (spot.1, (spot.2 + (1 : Int))), ((spot.1 + (1 : Int)), spot.2)] : (List (Int × Int))) fun some1 =>
  (Option.bind (compO (fun (y2 : (Int × Int)) => (Option.bind (andO ((decide ((0 : Int) ≤ y2.1)) && (decide (y2.1 < ((List.length land : Nat) : Int)))) (Option.bind (andO (decide ((0 : Int) ≤ y2.2)) (Option.bind (atI land (0 : Int)) fun x5 =>
  (some (decide (y2.2 < ((List.length x5 : Nat) : Int)))))) fun c4 =>
  (some c4))) fun c3 =>
  (some c3))) (fun (y2 : (Int × Int)) => (some (y2.1, y2.2))) some1) fun ys6 =>
  (some ys6)))
theorem r_law_next_to (n : Nat) (land : (List (List Int))) (spot : (Int × Int)) (r : (List (Int × Int))) (h : p_law_next_to land spot = some r) : callP P (n + 1) "_law_next_to" [(.d ((eT (eT eI)) land)), (.d ((eP eI eI) spot))] = .ok (oL (eP eI eI) r) [] := by
  unfold p_law_next_to at h
  exact r_fnC (n := n + 0) (d := d_law_next_to) [some (.d ((eT (eT eI)) land)), some (.d ((eP eI eI) spot)), none, none, none, none, none] d_law_next_to.body fd_law_next_to rfl rfl rfl
    (s_asgT (g_loc rfl ⟨[some (.d ((eT (eT eI)) land)), some (.d ((eP eI eI) spot)), some (.d (eI spot.1)), some (.d (eI spot.2)), none, none, none], rfl, (s_asg (g_lst (gd_cons (g_tupV (gv_cons (g_bin (g_loc rfl ⟨(eI spot.1), view_d, (g_lit ⟨(eI (1 : Int)), (.d (eI (spot.1 - (1 : Int)))), view_d, rfl, ⟨(eI (spot.1 - (1 : Int))), view_d, (gv_cons (g_loc rfl ⟨(eI spot.2), view_d, (gv_nil ⟨((eP eI eI) ((spot.1 - (1 : Int)), spot.2)), rfl, (gd_cons (g_tupV (gv_cons (g_loc rfl ⟨(eI spot.1), view_d, (gv_cons (g_bin (g_loc rfl ⟨(eI spot.2), view_d, (g_lit ⟨(eI (1 : Int)), (.d (eI (spot.2 - (1 : Int)))), view_d, rfl, ⟨(eI (spot.2 - (1 : Int))), view_d, (gv_nil ⟨((eP eI eI) (spot.1, (spot.2 - (1 : Int)))), rfl, (gd_cons (g_tupV (gv_cons (g_loc rfl ⟨(eI spot.1), view_d, (gv_cons (g_bin (g_loc rfl ⟨(eI spot.2), view_d, (g_lit ⟨(eI (1 : Int)), (.d (eI (spot.2 + (1 : Int)))), view_d, rfl, ⟨(eI (spot.2 + (1 : Int))), view_d, (gv_nil ⟨((eP eI eI) (spot.1, (spot.2 + (1 : Int)))), rfl, (gd_cons (g_tupV (gv_cons (g_bin (g_loc rfl ⟨(eI spot.1), view_d, (g_lit ⟨(eI (1 : Int)), (.d (eI (spot.1 + (1 : Int)))), view_d, rfl, ⟨(eI (spot.1 + (1 : Int))), view_d, (gv_cons (g_loc rfl ⟨(eI spot.2), view_d, (gv_nil ⟨((eP eI eI) ((spot.1 + (1 : Int)), spot.2)), rfl, (gd_nil (letE h fun some1 esome1 h => ⟨_, (slotL (e := (eP eI eI)) esome1), rfl, [some (.d ((eT (eT eI)) land)), some (.d ((eP eI eI) spot)), some (.d (eI spot.1)), some (.d (eI spot.2)), some (oL (eP eI eI) some1), none, none], rfl, (s_ret rfl (g_compO (e := (eP eI eI)) (f := (eP eI eI)) (c := fun (y2 : (Int × Int)) => (Option.bind (andO ((decide ((0 : Int) ≤ y2.1)) && (decide (y2.1 < ((List.length land : Nat) : Int)))) (Option.bind (andO (decide ((0 : Int) ≤ y2.2)) (Option.bind (atI land (0 : Int)) fun x5 =>
  (some (decide (y2.2 < ((List.length x5 : Nat) : Int)))))) fun c4 =>
  (some c4))) fun c3 =>
  (some c3))) (m := fun (y2 : (Int × Int)) => (some (y2.1, y2.2))) (it_seq (g_locl rfl rfl ⟨_, (items_O (f := (eP eI eI)) (xs := some1)), (bindE h fun ys6 hys6 h => ⟨some1, ys6, rfl, hys6, (.inl rfl), fun y2 _ h => ⟨[some (.d ((eT (eT eI)) land)), some (.d ((eP eI eI) spot)), some (.d (eI spot.1)), some (.d (eI spot.2)), some (oL (eP eI eI) some1), some (.d (eI y2.1)), some (.d (eI y2.2))], rfl, (gt_one (g_and (g_andc (g_chain (g_lit (g_loc rfl ⟨(decide ((0 : Int) ≤ y2.1)), ((decide ((0 : Int) ≤ y2.1)) && (decide (y2.1 < ((List.length land : Nat) : Int)))), [some (.d ((eT (eT eI)) land)), some (.d ((eP eI eI) spot)), some (.d (eI spot.1)), some (.d (eI spot.2)), some (oL (eP eI eI) some1), some (.d (eI y2.1)), some (.d (eI y2.2))], (cq_le (0 : Int) y2.1), fun hx => (g_bi (gv_cons (g_loc rfl ⟨((eT (eT eI)) land), view_d, (gv_nil ⟨(.d (eI ((List.length land : Nat) : Int))), (b_lenT land), ⟨chain_t hx (cq_lt y2.1 ((List.length land : Nat) : Int)), rfl⟩⟩)⟩))), fun hx => ⟨and_f hx, rfl⟩, (bindE h fun c3 hc3 h => ⟨((decide ((0 : Int) ≤ y2.1)) && (decide (y2.1 < ((List.length land : Nat) : Int)))), rfl, c3, [some (.d ((eT (eT eI)) land)), some (.d ((eP eI eI) spot)), some (.d (eI spot.1)), some (.d (eI spot.2)), some (oL (eP eI eI) some1), some (.d (eI y2.1)), some (.d (eI y2.2))], fun hx => (have h := andO_t hc3 hx; (g_and1 (g_chain (g_lit (g_loc rfl (bindE h fun c4 hc4 h => ⟨(decide ((0 : Int) ≤ y2.2)), c4, [some (.d ((eT (eT eI)) land)), some (.d ((eP eI eI) spot)), some (.d (eI spot.1)), some (.d (eI spot.2)), some (oL (eP eI eI) some1), some (.d (eI y2.1)), some (.d (eI y2.2))], (cq_le (0 : Int) y2.2), fun hx => (have h := andO_t hc4 hx; (g_bi (gv_cons (g_ix (g_loc rfl (g_lit (bindE h fun x5 hx5 h => ⟨((eT eI) x5), ix_T hx5, ⟨((eT eI) x5), view_d, (gv_nil ⟨(.d (eI ((List.length x5 : Nat) : Int))), (b_lenT x5), ⟨chain_p h (cq_lt y2.2 ((List.length x5 : Nat) : Int)), rfl⟩⟩)⟩⟩))))))), fun hx => ⟨andO_f hc4 hx, rfl⟩, (isE (e := eB) h)⟩)))))), fun hx => ⟨andO_f hc3 hx, rfl⟩, ⟨c3, rfl, Option.some.inj h, rfl⟩⟩)⟩)))))), fun _ _ h => (g_tupV (gv_cons (g_loc rfl ⟨(eI y2.1), view_d, (gv_cons (g_loc rfl ⟨(eI y2.2), view_d, (gv_nil ⟨dE (f := (eP eI eI)) h, rfl⟩)⟩))⟩))), rfl⟩, (fnE (e := fun (r : (List (Int × Int))) => (oL (eP eI eI) r)) (outs := fun r => []) (v := ys6) h rfl)⟩)⟩))))⟩))⟩)⟩))⟩⟩)⟩)))))⟩)⟩⟩)⟩)))⟩))))⟩)⟩⟩)⟩)))⟩))))⟩)⟩))⟩⟩)⟩)))))))⟩))
/-! p_law_high -/
def p_law_high (land : (List (List Int))) (spot : (Int × Int)) : Option Int :=
  (Option.bind (atI land spot.1) fun x1 =>
  (Option.bind (atI x1 spot.2) fun x2 =>
  (some x2)))
theorem r_law_high (n : Nat) (land : (List (List Int))) (spot : (Int × Int)) (r : Int) (h : p_law_high land spot = some r) : callP P (n + 1) "_law_high" [(.d ((eT (eT eI)) land)), (.d ((eP eI eI) spot))] = .ok (.d (eI r)) [] := by
  unfold p_law_high at h
  exact r_fnC (n := n + 0) (d := d_law_high) [some (.d ((eT (eT eI)) land)), some (.d ((eP eI eI) spot))] d_law_high.body fd_law_high rfl rfl rfl
    (s_ret rfl (g_ix (g_ix (g_loc rfl (g_ix (g_loc rfl (g_lit ⟨(eI spot.1), rfl, (bindE h fun x1 hx1 h => ⟨((eT eI) x1), ix_T hx1, (g_ix (g_loc rfl (g_lit ⟨(eI spot.2), rfl, (bindE h fun x2 hx2 h => ⟨(eI x2), ix_T hx2, (fnE (e := fun (r : Int) => (.d (eI r))) (outs := fun r => []) (v := x2) h rfl)⟩)⟩)))⟩)⟩)))))))
/-! p_law_lower -/
def p_law_lower (land : (List (List Int))) (spot : (Int × Int)) : Option (Option (Int × Int)) :=
  (Option.bind (p_law_next_to land spot) fun r1 =>
  (Option.bind (mapO (fun (y2 : (Int × Int)) => (Option.bind (p_law_high land y2) fun r3 =>
  (some (r3, y2)))) r1) fun ys4 =>
  (Option.bind (compO (fun (y5 : (Int × (Int × Int))) => (Option.bind (p_law_high land spot) fun r6 =>
  (some (decide (y5.1 < r6))))) (fun (y5 : (Int × (Int × Int))) => (some y5)) ys4) fun ys7 =>
  (Option.bind (if (decide ((0 : Int) < ((List.length ys7 : Nat) : Int))) = true then (Option.bind (minO (EnO.lt (eP eI (eP eI eI))) ys7) fun x8 =>
  (some (some x8.2))) else (some (none : (Option (Int × Int))))) fun x9 =>
  (some x9)))))
theorem r_law_lower (n : Nat) (land : (List (List Int))) (spot : (Int × Int)) (r : (Option (Int × Int))) (h : p_law_lower land spot = some r) : callP P (n + 2) "_law_lower" [(.d ((eT (eT eI)) land)), (.d ((eP eI eI) spot))] = .ok (.d ((eO (eP eI eI)) r)) [] := by
  unfold p_law_lower at h
  exact r_fnC (n := n + 1) (d := d_law_lower) [some (.d ((eT (eT eI)) land)), some (.d ((eP eI eI) spot)), none, none, none] d_law_lower.body fd_law_lower rfl rfl rfl
    (s_asg (g_mapO (e := (eP eI eI)) (f := (eP eI (eP eI eI))) (m := fun (y2 : (Int × Int)) => (Option.bind (p_law_high land y2) fun r3 =>
  (some (r3, y2)))) (it_seq (g_callL io__law_next_to.symm rfl (ga_cons rfl (g_loc rfl ⟨((eT (eT eI)) land), rfl, (ga_cons rfl (g_loc rfl ⟨((eP eI eI) spot), rfl, (ga_nil (bindE h fun r1 hr1 h => ⟨(oL (eP eI eI) r1), (r_law_next_to (n + 0) land spot r1 hr1), .inr rfl, ⟨_, (items_O (f := (eP eI eI)) (xs := r1)), (bindE h fun ys4 hys4 h => ⟨r1, ys4, rfl, hys4, (.inl rfl), fun y2 _ h => ⟨[some (.d ((eT (eT eI)) land)), some (.d ((eP eI eI) spot)), none, some (.d ((eP eI eI) y2)), none], rfl, (g_tupV (gv_cons (g_call io__law_high.symm rfl (ga_cons rfl (g_loc rfl ⟨((eT (eT eI)) land), rfl, (ga_cons rfl (g_loc rfl ⟨((eP eI eI) y2), rfl, (ga_nil (bindE h fun r3 hr3 h => ⟨(eI r3), (r_law_high (n + 0) land y2 r3 hr3), NM.nm (f := eI) r3, ⟨(eI r3), view_d, (gv_cons (g_loc rfl ⟨((eP eI eI) y2), view_d, (gv_nil ⟨dE (f := (eP eI (eP eI eI))) h, rfl⟩)⟩))⟩⟩))⟩))⟩)))))⟩, ⟨_, rfl, rfl, [some (.d ((eT (eT eI)) land)), some (.d ((eP eI eI) spot)), some (oL (eP eI (eP eI eI)) ys4), none, none], rfl, (s_asg (g_compO (e := (eP eI (eP eI eI))) (f := (eP eI (eP eI eI))) (c := fun (y5 : (Int × (Int × Int))) => (Option.bind (p_law_high land spot) fun r6 =>
  (some (decide (y5.1 < r6))))) (m := fun (y5 : (Int × (Int × Int))) => (some y5)) (it_seq (g_locl rfl rfl ⟨_, (items_O (f := (eP eI (eP eI eI))) (xs := ys4)), (bindE h fun ys7 hys7 h => ⟨ys4, ys7, rfl, hys7, (.inl rfl), fun y5 _ h => ⟨[some (.d ((eT (eT eI)) land)), some (.d ((eP eI eI) spot)), some (oL (eP eI (eP eI eI)) ys4), none, some (.d ((eP eI (eP eI eI)) y5))], rfl, (gt_one (g_cmp (g_ix (g_loc rfl (g_lit ⟨(eI y5.1), rfl, (g_call io__law_high.symm rfl (ga_cons rfl (g_loc rfl ⟨((eT (eT eI)) land), rfl, (ga_cons rfl (g_loc rfl ⟨((eP eI eI) spot), rfl, (ga_nil (bindE h fun r6 hr6 h => ⟨(eI r6), (r_law_high (n + 0) land spot r6 hr6), NM.nm (f := eI) r6, ⟨(decide (y5.1 < r6)), (cq_lt y5.1 r6), ⟨(decide (y5.1 < r6)), rfl, Option.some.inj h, rfl⟩⟩⟩))⟩))⟩)))⟩))))), fun _ _ h => (g_loc rfl ⟨dE (f := (eP eI (eP eI eI))) h, rfl⟩), rfl⟩, ⟨_, rfl, rfl, [some (.d ((eT (eT eI)) land)), some (.d ((eP eI eI) spot)), some (oL (eP eI (eP eI eI)) ys7), none, none], rfl, (s_ret rfl (g_ite (g_cmp (g_bi (gv_cons (g_locl rfl rfl ⟨((eL (eP eI (eP eI eI))) ys7), view_l, (gv_nil ⟨(.d (eI ((List.length ys7 : Nat) : Int))), (b_lenL ys7), (g_lit ⟨(decide ((0 : Int) < ((List.length ys7 : Nat) : Int))), (cq_gt ((List.length ys7 : Nat) : Int) (0 : Int)), (bindE h fun x9 hx9 h => ⟨(decide ((0 : Int) < ((List.length ys7 : Nat) : Int))), rfl, (.d ((eO (eP eI eI)) x9)), [some (.d ((eT (eT eI)) land)), some (.d ((eP eI eI) spot)), some (oL (eP eI (eP eI eI)) ys7), none, none], fun hx => (have h := iteT hx9 hx; (g_ix (g_bi (gv_cons (g_locl rfl rfl ⟨((eL (eP eI (eP eI eI))) ys7), view_l, (gv_nil (bindE h fun x8 hx8 h => ⟨(.d ((eP eI (eP eI eI)) x8)), (b_minL (eP eI (eP eI eI)) hx8), (g_lit ⟨((eP eI eI) x8.2), rfl, (isE (e := (eO (eP eI eI))) h)⟩)⟩))⟩))))), fun hx => (have h := iteF hx9 hx; (g_lit (isE (e := (eO (eP eI eI))) h))), (fnE (e := fun (r : (Option (Int × Int))) => (.d ((eO (eP eI eI)) r))) (outs := fun r => []) (v := x9) h rfl)⟩)⟩)⟩)⟩))))))⟩⟩)⟩))))⟩⟩)⟩⟩))⟩))⟩))))))
/-! p_law_stream -/
abbrev J_law_stream_1 (land : (List (List Int))) (spot : (Int × Int)) (s3 : ((List (Int × Int)) × (Option (Int × Int)))) (τ : Tau) : Prop := τ = [some (.d ((eT (eT eI)) land)), some (.d ((eP eI eI) spot)), some (oL (eP eI eI) s3.1), some (.d ((eO (eP eI eI)) s3.2))]
def p_law_stream_b2 (land : (List (List Int))) (s3 : ((List (Int × Int)) × (Option (Int × Int)))) : Option ((List (Int × Int)) × (Option (Int × Int))) :=
  (Option.bind s3.2 fun x4 =>
  (Option.bind (appO s3.1 x4) fun x5 =>
  (Option.bind s3.2 fun x6 =>
  (Option.bind (p_law_lower land x6) fun r7 =>
  (some (x5, r7))))))
def p_law_stream_c3 (s3 : ((List (Int × Int)) × (Option (Int × Int)))) : Option Bool :=
  (some (!Option.isNone s3.2))
def p_law_stream (land : (List (List Int))) (spot : (Int × Int)) : Option (List (Int × Int)) :=
  (letO ([spot] : (List (Int × Int))) fun found1 =>
  (Option.bind (p_law_lower land spot) fun r2 =>
  (Option.bind (whO p_law_stream_c3 (p_law_stream_b2 land) wfuel (found1, r2)) fun s8 =>
  (some s8.1))))
theorem r_law_stream (n : Nat) (land : (List (List Int))) (spot : (Int × Int)) (r : (List (Int × Int))) (h : p_law_stream land spot = some r) : callP P (n + 3) "_law_stream" [(.d ((eT (eT eI)) land)), (.d ((eP eI eI) spot))] = .ok (.d ((eT (eP eI eI)) r)) [] := by
  unfold p_law_stream at h
  exact r_fnC (n := n + 2) (d := d_law_stream) [some (.d ((eT (eT eI)) land)), some (.d ((eP eI eI) spot)), none, none] d_law_stream.body fd_law_stream rfl rfl rfl
    (s_asg (g_lst (gd_cons (g_loc rfl ⟨((eP eI eI) spot), rfl, (gd_nil (letE h fun found1 efound1 h => ⟨_, (slotL (e := (eP eI eI)) efound1), rfl, [some (.d ((eT (eT eI)) land)), some (.d ((eP eI eI) spot)), some (oL (eP eI eI) found1), none], rfl, (s_asg (g_call io__law_lower.symm rfl (ga_cons rfl (g_loc rfl ⟨((eT (eT eI)) land), rfl, (ga_cons rfl (g_loc rfl ⟨((eP eI eI) spot), rfl, (ga_nil (bindE h fun r2 hr2 h => ⟨((eO (eP eI eI)) r2), (r_law_lower (n + 0) land spot r2 hr2), NM.nm (f := (eO (eP eI eI))) r2, ⟨_, rfl, rfl, [some (.d ((eT (eT eI)) land)), some (.d ((eP eI eI) spot)), some (oL (eP eI eI) found1), some (.d ((eO (eP eI eI)) r2))], rfl, (bindE h fun s8 hs8 h => (s_while (cc := p_law_stream_c3) (body := (p_law_stream_b2 land)) (J_law_stream_1 land spot) (found1, r2) s8 hs8 rfl (fun s3 _ _ ej h => by subst ej; exact (g_cmp (g_loc rfl (g_lit ⟨(!Option.isNone s3.2), (cq_isnO s3.2), (isE (e := eB) h)⟩)))) (fun s3 _ _ ej _ h => by subst ej; exact (s_expr (g_app (f := (eP eI eI)) (xs := s3.1) rfl (g_unw (f := (eP eI eI)) (g_loc rfl (bindE h fun x4 hx4 h => ⟨s3.2, x4, rfl, hx4, (bindE h fun x5 hx5 h => ⟨x4, x5, rfl, rfl, hx5, (s_asg (g_call io__law_lower.symm rfl (ga_cons rfl (g_loc rfl ⟨((eT (eT eI)) land), rfl, (ga_cons rfl (g_unw (f := (eP eI eI)) (g_loc rfl (bindE h fun x6 hx6 h => ⟨s3.2, x6, rfl, hx6, ⟨((eP eI eI) x6), rfl, (ga_nil (bindE h fun r7 hr7 h => ⟨((eO (eP eI eI)) r7), (r_law_lower (n + 0) land x6 r7 hr7), NM.nm (f := (eO (eP eI eI))) r7, ⟨_, rfl, rfl, [some (.d ((eT (eT eI)) land)), some (.d ((eP eI eI) spot)), some (oL (eP eI eI) x5), some (.d ((eO (eP eI eI)) r7))], rfl, (s_nil (lpE (J := (J_law_stream_1 land spot)) (v := (x5, r7)) h rfl))⟩⟩))⟩⟩))))⟩))))⟩)⟩)))))) (fun _ ej => by subst ej; exact (s_ret rfl (g_bi (gv_cons (g_locl rfl rfl ⟨((eL (eP eI eI)) s8.1), view_l, (gv_nil ⟨(.d ((eT (eP eI eI)) s8.1)), (b_tupL s8.1), (fnE (e := fun (r : (List (Int × Int))) => (.d ((eT (eP eI eI)) r))) (outs := fun r => []) (v := s8.1) h rfl)⟩)⟩)))))))⟩⟩))⟩))⟩))))⟩))⟩))))
/-! p_ends_at -/
def p_ends_at (land : (List (List Int))) : Option (List ((Int × Int) × (Int × Int))) :=
  (Option.bind (p_check_land land) fun r1 =>
  (Option.bind (p_all_spots land) fun r2 =>
  (Option.bind (mapO (fun (y3 : (Int × Int)) => (Option.bind (p_raw_stream land y3) fun r4 =>
  (Option.bind (atI r4 (-1 : Int)) fun x5 =>
  (some (y3, x5))))) r2) fun ys6 =>
  (some (dictE ys6)))))
theorem r_ends_at (n : Nat) (land : (List (List Int))) (r : (List ((Int × Int) × (Int × Int)))) (h : p_ends_at land = some r) : callP P (n + 7) "ends_at" [(.d ((eT (eT eI)) land))] = .ok (oM true (eP eI eI) (eP eI eI) r) [] := by
  unfold p_ends_at at h
  exact r_fnC (n := n + 6) (d := d_ends_at) [some (.d ((eT (eT eI)) land)), none] d_ends_at.body fd_ends_at rfl rfl rfl
    (s_expr (g_call io_check_land.symm rfl (ga_cons rfl (g_loc rfl ⟨((eT (eT eI)) land), rfl, (ga_nil (bindE h fun r1 hr1 h => ⟨(eU r1), (r_check_land (n + 0) land r1 hr1), NM.nm (f := eU) r1, (s_ret rfl (g_dcomp (f := (eP eI eI)) (g := (eP eI eI)) rfl (g_mapO (e := (eP eI eI)) (f := (eP (eP eI eI) (eP eI eI))) (m := fun (y3 : (Int × Int)) => (Option.bind (p_raw_stream land y3) fun r4 =>
  (Option.bind (atI r4 (-1 : Int)) fun x5 =>
  (some (y3, x5))))) (it_seq (g_callL io_all_spots.symm rfl (ga_cons rfl (g_loc rfl ⟨((eT (eT eI)) land), rfl, (ga_nil (bindE h fun r2 hr2 h => ⟨(oL (eP eI eI) r2), (r_all_spots (n + 5) land r2 hr2), .inr rfl, ⟨_, (items_O (f := (eP eI eI)) (xs := r2)), (bindE h fun ys6 hys6 h => ⟨r2, ys6, rfl, hys6, (.inl rfl), fun y3 _ h => ⟨[some (.d ((eT (eT eI)) land)), some (.d ((eP eI eI) y3))], rfl, (g_tupV (gv_cons (g_loc rfl ⟨((eP eI eI) y3), view_d, (gv_cons (g_ix (g_callL io_raw_stream.symm rfl (ga_cons rfl (g_loc rfl ⟨((eT (eT eI)) land), rfl, (ga_cons rfl (g_loc rfl ⟨((eP eI eI) y3), rfl, (ga_nil (bindE h fun r4 hr4 h => ⟨(oL (eP eI eI) r4), (r_raw_stream (n + 2) land y3 r4 hr4), .inr rfl, (g_neg (g_lit ⟨(1 : Int), rfl, (bindE h fun x5 hx5 h => ⟨((eP eI eI) x5), ix_O hx5, ⟨((eP eI eI) x5), view_d, (gv_nil ⟨dE (f := (eP (eP eI eI) (eP eI eI))) h, rfl⟩)⟩⟩)⟩))⟩))⟩))⟩)))))⟩)))⟩, ⟨ys6, rfl, (fnE (e := fun (r : (List ((Int × Int) × (Int × Int)))) => (oM true (eP eI eI) (eP eI eI) r)) (outs := fun r => []) (v := (dictE ys6)) h rfl)⟩⟩)⟩⟩))⟩)))))))⟩))⟩))))
/-! p_law_is_int -/
def p_law_is_int (thing : Int) : Bool :=
  true
theorem r_law_is_int (n : Nat) (thing : Int) : callP P (n + 1) "_law_is_int" [(.d (eI thing))] = .ok (.d (eB (p_law_is_int thing))) [] := by
  have h : some (p_law_is_int thing) = some (p_law_is_int thing) := rfl
  exact r_fnC (n := n + 0) (d := d_law_is_int) [some (.d (eI thing))] d_law_is_int.body fd_law_is_int rfl rfl rfl
    (s_ret rfl (g_and (g_andc (g_isi (g_loc rfl ⟨true, rfl, ⟨true, rfl, true, [some (.d (eI thing))], fun hx => (g_and1 (g_not (g_isi (g_loc rfl ⟨false, rfl, ⟨false, rfl, is_same⟩⟩)))), fun hx => (nomatch hx), (fnE (e := fun (r : Bool) => (.d (eB r))) (outs := fun r => []) (v := true) h rfl)⟩⟩)))))
/-! p_law_is_right -/
abbrev J_law_is_right_1 (land : (List (List Int))) (r1 : (List (Int × Int))) (ys4 : (List ((Int × Int) × (List (Int × Int))))) (s6 : Unit) (τ : Tau) : Prop := ∃ v3_s6 v4_s6 : Option O, τ = [some (.d ((eT (eT eI)) land)), some (.d ((eL (eP eI eI)) r1)), some (oM true (eP eI eI) (eT (eP eI eI)) (dictE ys4)), v3_s6, v4_s6, none, none, none, none, none, none, none]
def p_law_is_right_b2 (land : (List (List Int))) (ys4 : (List ((Int × Int) × (List (Int × Int))))) (s6 : Unit) (y7 : (Int × Int)) : Option (Ctl Unit Bool) :=
  (Option.bind (p_stream land y7) fun r8 =>
  (Option.bind (p_stream land y7) fun r9 =>
  (Option.bind (reprO ((eL (eT (eP eI eI))) ([r8, r9] : (List (List (Int × Int)))))) fun x10 =>
  (Option.bind (valE (dictE ys4) y7) fun x11 =>
  (Option.bind (valE (dictE ys4) y7) fun x12 =>
  (Option.bind (reprO ((eL (eT (eP eI eI))) ([x11, x12] : (List (List (Int × Int)))))) fun x13 =>
  (if (!decide (x10 = x13)) = true then (some (.ret false))
  else (Option.bind (valE (dictE ys4) y7) fun x14 =>
  (Option.bind (mapO (fun (y15 : (Int × Int)) => (Option.bind (p_law_high land y15) fun r16 =>
  (some r16))) x14) fun ys17 =>
  (Option.bind (lenO (List.length (List.zip ys17 (cutG ys17 (some (1 : Int)) none)))) fun u18 =>
  (if (!(List.all (List.map (fun (y19 : (Int × Int)) => (decide (y19.2 < y19.1))) (List.zip ys17 (cutG ys17 (some (1 : Int)) none))) id)) = true then (some (.ret false))
  else (Option.bind (valE (dictE ys4) y7) fun x20 =>
  (Option.bind (andO (decide ((1 : Int) < ((List.length x20 : Nat) : Int))) (Option.bind (valE (dictE ys4) y7) fun x22 =>
  (Option.bind (atI x22 (1 : Int)) fun x23 =>
  (Option.bind (p_stream land x23) fun r24 =>
  (Option.bind (valE (dictE ys4) y7) fun x25 =>
  (some (!decide (r24 = (cutG x25 (some (1 : Int)) none))))))))) fun c21 =>
  (if c21 = true then (some (.ret false))
  else (some (.go ()))))))))))))))))
def p_law_is_right (land : (List (List Int))) : Option Bool :=
  (Option.bind (p_law_spots land) fun r1 =>
  (Option.bind (mapO (fun (y2 : (Int × Int)) => (Option.bind (p_law_stream land y2) fun r3 =>
  (some (y2, r3)))) r1) fun ys4 =>
  (Option.bind (listO ys4) fun u5 =>
  (Option.bind (forC (p_law_is_right_b2 land ys4) r1 ()) fun c27 =>
  (match c27 with
  | .go s26 => (Option.bind (compO (fun (y28 : (Int × Int)) => (Option.bind (valE (dictE ys4) y28) fun x29 =>
  (some (decide (((List.length x29 : Nat) : Int) = (1 : Int)))))) (fun (y28 : (Int × Int)) => (some y28)) r1) fun ys30 =>
  (Option.bind (p_ends land) fun r31 =>
  (Option.bind (reprO ((eT (eP eI eI)) r31)) fun x32 =>
  (Option.bind (reprO ((eT (eP eI eI)) ys30)) fun x33 =>
  (if (!decide (x32 = x33)) = true then (some false)
  else (Option.bind (p_ends_at land) fun r34 =>
  (Option.bind (p_gathered land) fun r35 =>
  (Option.bind (mapO (fun (y36 : (Int × Int)) => (Option.bind (valE (dictE ys4) y36) fun x37 =>
  (Option.bind (atI x37 (-1 : Int)) fun x38 =>
  (some (y36, x38))))) r1) fun ys39 =>
  (Option.bind (listO ys39) fun u40 =>
  (Option.bind (mapO (fun (y41 : (Int × Int)) => (Option.bind (compO (fun (y42 : (Int × Int)) => (Option.bind (valE (dictE ys4) y42) fun x43 =>
  (some (memE y41 x43)))) (fun (y42 : (Int × Int)) => (some (1 : Int))) r1) fun ys44 =>
  (some (y41, ((List.length ys44 : Nat) : Int))))) r1) fun ys45 =>
  (Option.bind (listO ys45) fun u46 =>
  (Option.bind (orO (!(eqME r34 (dictE ys39))) (Option.bind (orO (!(eqME r35 (dictE ys45))) (Option.bind (mapO (fun (y49 : (Int × Int)) => (Option.bind (valE r35 y49) fun x50 =>
  (some true))) (keysE r35)) fun ys52 =>
  (some (!(List.all ys52 id))))) fun c48 =>
  (some c48))) fun c47 =>
  (if c47 = true then (some false)
  else (Option.bind (mapO (fun (y53 : (Int × Int)) => (Option.bind (valE r35 y53) fun x54 =>
  (some x54))) ys30) fun ys55 =>
  (if (!decide ((List.sum ys55) = ((List.length r1 : Nat) : Int))) = true then (some false)
  else (Option.bind (roomO r34) fun u56 =>
  (Option.bind (roomO r35) fun u57 =>
  (Option.bind (p_ends_at land) fun r58 =>
  (Option.bind (andO (eqME r58 (dictE ys39)) (Option.bind (p_gathered land) fun r60 =>
  (some (eqME r60 (dictE ys45))))) fun c59 =>
  (some c59))))))))))))))))))))
  | .brk _ => none
  | .ret r => (some r))))))
theorem r_law_is_right (n : Nat) (land : (List (List Int))) (r : Bool) (h : p_law_is_right land = some r) : callP P (n + 9) "_law_is_right" [(.d ((eT (eT eI)) land))] = .ok (.d (eB r)) [] := by
  unfold p_law_is_right at h
  exact r_fnC (n := n + 8) (d := d_law_is_right) [some (.d ((eT (eT eI)) land)), none, none, none, none, none, none, none, none, none, none, none] d_law_is_right.body fd_law_is_right rfl rfl rfl
    (s_asg (g_callL io__law_spots.symm rfl (ga_cons rfl (g_loc rfl ⟨((eT (eT eI)) land), rfl, (ga_nil (bindE h fun r1 hr1 h => ⟨(oL (eP eI eI) r1), (r_law_spots (n + 7) land r1 hr1), .inr rfl, ⟨_, rfl, rfl, [some (.d ((eT (eT eI)) land)), some (oL (eP eI eI) r1), none, none, none, none, none, none, none, none, none, none], rfl, (s_asg (g_dof (g_mapO (e := (eP eI eI)) (f := (eP (eP eI eI) (eT (eP eI eI)))) (m := fun (y2 : (Int × Int)) => (Option.bind (p_law_stream land y2) fun r3 =>
  (some (y2, r3)))) (it_seq (g_locl rfl rfl ⟨_, (items_O (f := (eP eI eI)) (xs := r1)), (bindE h fun ys4 hys4 h => ⟨r1, ys4, rfl, hys4, (.inl rfl), fun y2 _ h => ⟨[some (.d ((eT (eT eI)) land)), some (oL (eP eI eI) r1), none, some (.d ((eP eI eI) y2)), none, none, none, none, none, none, none, none], rfl, (g_tupV (gv_cons (g_loc rfl ⟨((eP eI eI) y2), view_d, (gv_cons (g_call io__law_stream.symm rfl (ga_cons rfl (g_loc rfl ⟨((eT (eT eI)) land), rfl, (ga_cons rfl (g_loc rfl ⟨((eP eI eI) y2), rfl, (ga_nil (bindE h fun r3 hr3 h => ⟨((eT (eP eI eI)) r3), (r_law_stream (n + 5) land y2 r3 hr3), NM.nm (f := (eT (eP eI eI))) r3, ⟨((eT (eP eI eI)) r3), view_d, (gv_nil ⟨dE (f := (eP (eP eI eI) (eT (eP eI eI)))) h, rfl⟩)⟩⟩))⟩))⟩))))⟩)))⟩, (bindE h fun u5 hu5 h => ⟨_, (dof_E view_l hu5), ⟨_, rfl, rfl, [some (.d ((eT (eT eI)) land)), some (oL (eP eI eI) r1), some (oM true (eP eI eI) (eT (eP eI eI)) (dictE ys4)), none, none, none, none, none, none, none, none, none], rfl, (s_forC (e := (eP eI eI)) (body := (p_law_is_right_b2 land ys4)) (J_law_is_right_1 land r1 ys4) (fun (r : Bool) => RtF [] ((.d (eB r))) ([])) (it_seq (g_locf (f := (eP eI eI)) (xs := r1) rfl rfl ⟨_, (items_L (f := (eP eI eI)) (xs := r1)), (bindE h fun c27 hc27 h => ⟨r1, (), c27, rfl, hc27, ⟨_, _, rfl⟩, fun s6 y7 _ _ ⟨v3_s6, v4_s6, ej⟩ h => by subst ej; exact ⟨[some (.d ((eT (eT eI)) land)), some (.d ((eL (eP eI eI)) r1)), some (oM true (eP eI eI) (eT (eP eI eI)) (dictE ys4)), some (.d ((eP eI eI) y7)), v4_s6, none, none, none, none, none, none, none], rfl, (s_if (g_cmp (g_bi (gv_cons (g_lst (gd_cons (g_call io_stream.symm rfl (ga_cons rfl (g_loc rfl ⟨((eT (eT eI)) land), rfl, (ga_cons rfl (g_loc rfl ⟨((eP eI eI) y7), rfl, (ga_nil (bindE h fun r8 hr8 h => ⟨((eT (eP eI eI)) r8), (r_stream (n + 0) land y7 r8 hr8), NM.nm (f := (eT (eP eI eI))) r8, ⟨((eT (eP eI eI)) r8), rfl, (gd_cons (g_call io_stream.symm rfl (ga_cons rfl (g_loc rfl ⟨((eT (eT eI)) land), rfl, (ga_cons rfl (g_loc rfl ⟨((eP eI eI) y7), rfl, (ga_nil (bindE h fun r9 hr9 h => ⟨((eT (eP eI eI)) r9), (r_stream (n + 0) land y7 r9 hr9), NM.nm (f := (eT (eP eI eI))) r9, ⟨((eT (eP eI eI)) r9), rfl, (gd_nil ⟨((eL (eT (eP eI eI))) ([r8, r9] : (List (List (Int × Int))))), view_l, (gv_nil (bindE h fun x10 hx10 h => ⟨(.d (eS x10)), (b_repr hx10), (g_bi (gv_cons (g_lst (gd_cons (g_dix (g_locl rfl rfl (g_loc rfl (bindE h fun x11 hx11 h => ⟨((eT (eP eI eI)) x11), (dix_E (f := (eP eI eI)) (g := (eT (eP eI eI))) (a := y7) (dv_O _) hx11), ⟨((eT (eP eI eI)) x11), rfl, (gd_cons (g_dix (g_locl rfl rfl (g_loc rfl (bindE h fun x12 hx12 h => ⟨((eT (eP eI eI)) x12), (dix_E (f := (eP eI eI)) (g := (eT (eP eI eI))) (a := y7) (dv_O _) hx12), ⟨((eT (eP eI eI)) x12), rfl, (gd_nil ⟨((eL (eT (eP eI eI))) ([x11, x12] : (List (List (Int × Int))))), view_l, (gv_nil (bindE h fun x13 hx13 h => ⟨(.d (eS x13)), (b_repr hx13), ⟨(!decide (x10 = x13)), (cq_ne eS x10 x13), ⟨(!decide (x10 = x13)), rfl, fun hc => (have h := iteT h hc; (s_ret rfl (g_lit (lcRt (v := false) h ⟨rfl, rfl⟩)))), fun hc => (have h := iteF h hc; (s_asg (g_mapO (e := (eP eI eI)) (f := eI) (m := fun (y15 : (Int × Int)) => (Option.bind (p_law_high land y15) fun r16 =>
  (some r16))) (it_seq (g_dix (g_locl rfl rfl (g_loc rfl (bindE h fun x14 hx14 h => ⟨((eT (eP eI eI)) x14), (dix_E (f := (eP eI eI)) (g := (eT (eP eI eI))) (a := y7) (dv_O _) hx14), ⟨_, (items_T (f := (eP eI eI)) (xs := x14)), (bindE h fun ys17 hys17 h => ⟨x14, ys17, rfl, hys17, (.inl rfl), fun y15 _ h => ⟨[some (.d ((eT (eT eI)) land)), some (.d ((eL (eP eI eI)) r1)), some (oM true (eP eI eI) (eT (eP eI eI)) (dictE ys4)), some (.d ((eP eI eI) y7)), v4_s6, none, none, none, none, none, some (.d ((eP eI eI) y15)), none], rfl, (g_call io__law_high.symm rfl (ga_cons rfl (g_loc rfl ⟨((eT (eT eI)) land), rfl, (ga_cons rfl (g_loc rfl ⟨((eP eI eI) y15), rfl, (ga_nil (bindE h fun r16 hr16 h => ⟨(eI r16), (r_law_high (n + 7) land y15 r16 hr16), NM.nm (f := eI) r16, ⟨dE (f := eI) h, rfl⟩⟩))⟩))⟩)))⟩, ⟨_, rfl, rfl, [some (.d ((eT (eT eI)) land)), some (.d ((eL (eP eI eI)) r1)), some (oM true (eP eI eI) (eT (eP eI eI)) (dictE ys4)), some (.d ((eP eI eI) y7)), some (oL eI ys17), none, none, none, none, none, none, none], rfl, (s_if (g_not (g_bi (gv_cons (g_map (e := (eP eI eI)) (f := eB) (fun (y19 : (Int × Int)) => (decide (y19.2 < y19.1))) (it_zip (go_cons (g_locl rfl rfl (go_cons (g_sl (g_locl rfl rfl ⟨((eL eI) ys17), view_l, (g_lit ⟨some (1 : Int), rfl, (g_lit ⟨none, (oL eI (cutG ys17 (some (1 : Int)) none)), rfl, sl_L, (go_nil (bindE h fun u18 hu18 h => ⟨_, zip_eq seq_O seq_O, ⟨(List.zip ys17 (cutG ys17 (some (1 : Int)) none)), rfl, (.inr (len_ok hu18)), fun y19 => ⟨[some (.d ((eT (eT eI)) land)), some (.d ((eL (eP eI eI)) r1)), some (oM true (eP eI eI) (eT (eP eI eI)) (dictE ys4)), some (.d ((eP eI eI) y7)), some (oL eI ys17), none, none, none, none, none, some (.d (eI y19.1)), some (.d (eI y19.2))], rfl, (g_cmp (g_loc rfl (g_loc rfl ⟨(decide (y19.2 < y19.1)), (cq_gt y19.1 y19.2), ⟨rfl, rfl⟩⟩)))⟩, ⟨((eL eB) (List.map (fun (y19 : (Int × Int)) => (decide (y19.2 < y19.1))) (List.zip ys17 (cutG ys17 (some (1 : Int)) none)))), view_l, (gv_nil ⟨(.d (eB (List.all (List.map (fun (y19 : (Int × Int)) => (decide (y19.2 < y19.1))) (List.zip ys17 (cutG ys17 (some (1 : Int)) none))) id))), (b_all (List.map (fun (y19 : (Int × Int)) => (decide (y19.2 < y19.1))) (List.zip ys17 (cutG ys17 (some (1 : Int)) none)))), ⟨(List.all (List.map (fun (y19 : (Int × Int)) => (decide (y19.2 < y19.1))) (List.zip ys17 (cutG ys17 (some (1 : Int)) none))) id), rfl, ⟨(!(List.all (List.map (fun (y19 : (Int × Int)) => (decide (y19.2 < y19.1))) (List.zip ys17 (cutG ys17 (some (1 : Int)) none))) id)), rfl, fun hc => (have h := iteT h hc; (s_ret rfl (g_lit (lcRt (v := false) h ⟨rfl, rfl⟩)))), fun hc => (have h := iteF h hc; (s_if (g_and (g_andc (g_cmp (g_bi (gv_cons (g_dix (g_locl rfl rfl (g_loc rfl (bindE h fun x20 hx20 h => ⟨((eT (eP eI eI)) x20), (dix_E (f := (eP eI eI)) (g := (eT (eP eI eI))) (a := y7) (dv_O _) hx20), ⟨((eT (eP eI eI)) x20), view_d, (gv_nil ⟨(.d (eI ((List.length x20 : Nat) : Int))), (b_lenT x20), (g_lit ⟨(decide ((1 : Int) < ((List.length x20 : Nat) : Int))), (cq_gt ((List.length x20 : Nat) : Int) (1 : Int)), (bindE h fun c21 hc21 h => ⟨(decide ((1 : Int) < ((List.length x20 : Nat) : Int))), rfl, c21, [some (.d ((eT (eT eI)) land)), some (.d ((eL (eP eI eI)) r1)), some (oM true (eP eI eI) (eT (eP eI eI)) (dictE ys4)), some (.d ((eP eI eI) y7)), some (oL eI ys17), none, none, none, none, none, none, none], fun hx => (have h := andO_t hc21 hx; (g_and1 (g_cmp (g_call io_stream.symm rfl (ga_cons rfl (g_loc rfl ⟨((eT (eT eI)) land), rfl, (ga_cons rfl (g_ix (g_dix (g_locl rfl rfl (g_loc rfl (bindE h fun x22 hx22 h => ⟨((eT (eP eI eI)) x22), (dix_E (f := (eP eI eI)) (g := (eT (eP eI eI))) (a := y7) (dv_O _) hx22), (g_lit (bindE h fun x23 hx23 h => ⟨((eP eI eI) x23), ix_T hx23, ⟨((eP eI eI) x23), rfl, (ga_nil (bindE h fun r24 hr24 h => ⟨((eT (eP eI eI)) r24), (r_stream (n + 0) land x23 r24 hr24), NM.nm (f := (eT (eP eI eI))) r24, (g_sl (g_dix (g_locl rfl rfl (g_loc rfl (bindE h fun x25 hx25 h => ⟨((eT (eP eI eI)) x25), (dix_E (f := (eP eI eI)) (g := (eT (eP eI eI))) (a := y7) (dv_O _) hx25), ⟨((eT (eP eI eI)) x25), view_d, (g_lit ⟨some (1 : Int), rfl, (g_lit ⟨none, (.d ((eT (eP eI eI)) (cutG x25 (some (1 : Int)) none))), rfl, sl_T, ⟨(!decide (r24 = (cutG x25 (some (1 : Int)) none))), (cq_ne (eT (eP eI eI)) r24 (cutG x25 (some (1 : Int)) none)), (isE (e := eB) h)⟩⟩)⟩)⟩⟩)))))⟩))⟩⟩))⟩))))))⟩)))))), fun hx => ⟨andO_f hc21 hx, rfl⟩, ⟨c21, rfl, fun hc => (have h := iteT h hc; (s_ret rfl (g_lit (lcRt (v := false) h ⟨rfl, rfl⟩)))), fun hc => (have h := iteF h hc; (s_nil (lcGo (J := (J_law_is_right_1 land r1 ys4)) (v := ()) h ⟨_, _, rfl⟩)))⟩⟩)⟩)⟩)⟩⟩)))))))))))⟩⟩⟩)⟩⟩⟩))⟩)⟩)⟩)))))))))))⟩⟩)⟩⟩))))))))⟩⟩⟩))⟩)⟩⟩)))))⟩⟩))))))))⟩))⟩)⟩⟩))⟩))⟩))))⟩⟩))⟩))⟩)))))))))⟩, fun s26 ec _ ⟨v3_s26, v4_s26, ej⟩ => by subst ej; subst ec; exact (s_asg (g_bi (gv_cons (g_compO (e := (eP eI eI)) (f := (eP eI eI)) (c := fun (y28 : (Int × Int)) => (Option.bind (valE (dictE ys4) y28) fun x29 =>
  (some (decide (((List.length x29 : Nat) : Int) = (1 : Int)))))) (m := fun (y28 : (Int × Int)) => (some y28)) (it_seq (g_loc rfl ⟨_, (items_L (f := (eP eI eI)) (xs := r1)), (bindE h fun ys30 hys30 h => ⟨r1, ys30, rfl, hys30, (.inl rfl), fun y28 _ h => ⟨[some (.d ((eT (eT eI)) land)), some (.d ((eL (eP eI eI)) r1)), some (oM true (eP eI eI) (eT (eP eI eI)) (dictE ys4)), some (.d ((eP eI eI) y28)), v4_s26, none, none, none, none, none, none, none], rfl, (gt_one (g_cmp (g_bi (gv_cons (g_dix (g_locl rfl rfl (g_loc rfl (bindE h fun x29 hx29 h => ⟨((eT (eP eI eI)) x29), (dix_E (f := (eP eI eI)) (g := (eT (eP eI eI))) (a := y28) (dv_O _) hx29), ⟨((eT (eP eI eI)) x29), view_d, (gv_nil ⟨(.d (eI ((List.length x29 : Nat) : Int))), (b_lenT x29), (g_lit ⟨(decide (((List.length x29 : Nat) : Int) = (1 : Int))), (cq_eq eI ((List.length x29 : Nat) : Int) (1 : Int)), ⟨(decide (((List.length x29 : Nat) : Int) = (1 : Int))), rfl, Option.some.inj h, rfl⟩⟩)⟩)⟩⟩)))))))), fun _ _ h => (g_loc rfl ⟨dE (f := (eP eI eI)) h, rfl⟩), rfl⟩, ⟨((eL (eP eI eI)) ys30), view_l, (gv_nil ⟨(.d ((eT (eP eI eI)) ys30)), (b_tupL ys30), ⟨_, rfl, rfl, [some (.d ((eT (eT eI)) land)), some (.d ((eL (eP eI eI)) r1)), some (oM true (eP eI eI) (eT (eP eI eI)) (dictE ys4)), v3_s26, v4_s26, some (.d ((eT (eP eI eI)) ys30)), none, none, none, none, none, none], rfl, (s_if (g_cmp (g_bi (gv_cons (g_call io_ends.symm rfl (ga_cons rfl (g_loc rfl ⟨((eT (eT eI)) land), rfl, (ga_nil (bindE h fun r31 hr31 h => ⟨((eT (eP eI eI)) r31), (r_ends (n + 1) land r31 hr31), NM.nm (f := (eT (eP eI eI))) r31, ⟨((eT (eP eI eI)) r31), view_d, (gv_nil (bindE h fun x32 hx32 h => ⟨(.d (eS x32)), (b_repr hx32), (g_bi (gv_cons (g_loc rfl ⟨((eT (eP eI eI)) ys30), view_d, (gv_nil (bindE h fun x33 hx33 h => ⟨(.d (eS x33)), (b_repr hx33), ⟨(!decide (x32 = x33)), (cq_ne eS x32 x33), ⟨(!decide (x32 = x33)), rfl, fun hc => (have h := iteT h hc; (s_ret rfl (g_lit (fnE (e := fun (r : Bool) => (.d (eB r))) (outs := fun r => []) (v := false) h rfl)))), fun hc => (have h := iteF h hc; (s_par (go_cons (g_callL io_ends_at.symm rfl (ga_cons rfl (g_loc rfl ⟨((eT (eT eI)) land), rfl, (ga_nil (bindE h fun r34 hr34 h => ⟨(oM true (eP eI eI) (eP eI eI) r34), (r_ends_at (n + 1) land r34 hr34), .inr rfl, (go_cons (g_callL io_gathered.symm rfl (ga_cons rfl (g_loc rfl ⟨((eT (eT eI)) land), rfl, (ga_nil (bindE h fun r35 hr35 h => ⟨(oM true (eP eI eI) eI r35), (r_gathered (n + 1) land r35 hr35), .inr rfl, (go_nil ⟨[(oM true (eP eI eI) (eP eI eI) r34), (oM true (eP eI eI) eI r35)], rfl, [some (.d ((eT (eT eI)) land)), some (.d ((eL (eP eI eI)) r1)), some (oM true (eP eI eI) (eT (eP eI eI)) (dictE ys4)), v3_s26, v4_s26, some (.d ((eT (eP eI eI)) ys30)), some (oM true (eP eI eI) (eP eI eI) r34), some (oM true (eP eI eI) eI r35), none, none, none, none], rfl, (s_asg (g_dof (g_mapO (e := (eP eI eI)) (f := (eP (eP eI eI) (eP eI eI))) (m := fun (y36 : (Int × Int)) => (Option.bind (valE (dictE ys4) y36) fun x37 =>
  (Option.bind (atI x37 (-1 : Int)) fun x38 =>
  (some (y36, x38))))) (it_seq (g_loc rfl ⟨_, (items_L (f := (eP eI eI)) (xs := r1)), (bindE h fun ys39 hys39 h => ⟨r1, ys39, rfl, hys39, (.inl rfl), fun y36 _ h => ⟨[some (.d ((eT (eT eI)) land)), some (.d ((eL (eP eI eI)) r1)), some (oM true (eP eI eI) (eT (eP eI eI)) (dictE ys4)), some (.d ((eP eI eI) y36)), v4_s26, some (.d ((eT (eP eI eI)) ys30)), some (oM true (eP eI eI) (eP eI eI) r34), some (oM true (eP eI eI) eI r35), none, none, none, none], rfl, (g_tupV (gv_cons (g_loc rfl ⟨((eP eI eI) y36), view_d, (gv_cons (g_ix (g_dix (g_locl rfl rfl (g_loc rfl (bindE h fun x37 hx37 h => ⟨((eT (eP eI eI)) x37), (dix_E (f := (eP eI eI)) (g := (eT (eP eI eI))) (a := y36) (dv_O _) hx37), (g_neg (g_lit ⟨(1 : Int), rfl, (bindE h fun x38 hx38 h => ⟨((eP eI eI) x38), ix_T hx38, ⟨((eP eI eI) x38), view_d, (gv_nil ⟨dE (f := (eP (eP eI eI) (eP eI eI))) h, rfl⟩)⟩⟩)⟩))⟩))))))⟩)))⟩, (bindE h fun u40 hu40 h => ⟨_, (dof_E view_l hu40), ⟨_, rfl, rfl, [some (.d ((eT (eT eI)) land)), some (.d ((eL (eP eI eI)) r1)), some (oM true (eP eI eI) (eT (eP eI eI)) (dictE ys4)), v3_s26, v4_s26, some (.d ((eT (eP eI eI)) ys30)), some (oM true (eP eI eI) (eP eI eI) r34), some (oM true (eP eI eI) eI r35), some (oM true (eP eI eI) (eP eI eI) (dictE ys39)), none, none, none], rfl, (s_asg (g_dof (g_mapO (e := (eP eI eI)) (f := (eP (eP eI eI) eI)) (m := fun (y41 : (Int × Int)) => (Option.bind (compO (fun (y42 : (Int × Int)) => (Option.bind (valE (dictE ys4) y42) fun x43 =>
  (some (memE y41 x43)))) (fun (y42 : (Int × Int)) => (some (1 : Int))) r1) fun ys44 =>
  (some (y41, ((List.length ys44 : Nat) : Int))))) (it_seq (g_loc rfl ⟨_, (items_L (f := (eP eI eI)) (xs := r1)), (bindE h fun ys45 hys45 h => ⟨r1, ys45, rfl, hys45, (.inl rfl), fun y41 _ h => ⟨[some (.d ((eT (eT eI)) land)), some (.d ((eL (eP eI eI)) r1)), some (oM true (eP eI eI) (eT (eP eI eI)) (dictE ys4)), some (.d ((eP eI eI) y41)), v4_s26, some (.d ((eT (eP eI eI)) ys30)), some (oM true (eP eI eI) (eP eI eI) r34), some (oM true (eP eI eI) eI r35), some (oM true (eP eI eI) (eP eI eI) (dictE ys39)), none, none, none], rfl, (g_tupV (gv_cons (g_loc rfl ⟨((eP eI eI) y41), view_d, (gv_cons (g_bi (gv_cons (g_compO (e := (eP eI eI)) (f := eI) (c := fun (y42 : (Int × Int)) => (Option.bind (valE (dictE ys4) y42) fun x43 =>
  (some (memE y41 x43)))) (m := fun (y42 : (Int × Int)) => (some (1 : Int))) (it_seq (g_loc rfl ⟨_, (items_L (f := (eP eI eI)) (xs := r1)), (bindE h fun ys44 hys44 h => ⟨r1, ys44, rfl, hys44, (.inl rfl), fun y42 _ h => ⟨[some (.d ((eT (eT eI)) land)), some (.d ((eL (eP eI eI)) r1)), some (oM true (eP eI eI) (eT (eP eI eI)) (dictE ys4)), some (.d ((eP eI eI) y41)), v4_s26, some (.d ((eT (eP eI eI)) ys30)), some (oM true (eP eI eI) (eP eI eI) r34), some (oM true (eP eI eI) eI r35), some (oM true (eP eI eI) (eP eI eI) (dictE ys39)), none, none, some (.d ((eP eI eI) y42))], rfl, (gt_one (g_cmp (g_loc rfl (g_dix (g_locl rfl rfl (g_loc rfl (bindE h fun x43 hx43 h => ⟨((eT (eP eI eI)) x43), (dix_E (f := (eP eI eI)) (g := (eT (eP eI eI))) (a := y42) (dv_O _) hx43), ⟨(memE y41 x43), (cm_inT (eP eI eI) y41 x43), ⟨(memE y41 x43), rfl, Option.some.inj h, rfl⟩⟩⟩))))))), fun _ _ h => (g_lit ⟨dE (f := eI) h, rfl⟩), rfl⟩, ⟨((eL eI) ys44), view_l, (gv_nil ⟨(.d (eI ((List.length ys44 : Nat) : Int))), (b_lenL ys44), ⟨(eI ((List.length ys44 : Nat) : Int)), view_d, (gv_nil ⟨dE (f := (eP (eP eI eI) eI)) h, rfl⟩)⟩⟩)⟩⟩)⟩))))))⟩)))⟩, (bindE h fun u46 hu46 h => ⟨_, (dof_E view_l hu46), ⟨_, rfl, rfl, [some (.d ((eT (eT eI)) land)), some (.d ((eL (eP eI eI)) r1)), some (oM true (eP eI eI) (eT (eP eI eI)) (dictE ys4)), v3_s26, v4_s26, some (.d ((eT (eP eI eI)) ys30)), some (oM true (eP eI eI) (eP eI eI) r34), some (oM true (eP eI eI) eI r35), some (oM true (eP eI eI) (eP eI eI) (dictE ys39)), some (oM true (eP eI eI) eI (dictE ys45)), none, none], rfl, (s_if (g_or (g_orc (g_deq (g_locl rfl rfl (g_locl rfl rfl ⟨(!(eqME r34 (dictE ys39))), ((deq_E true (dv_O _) (dv_O _)).trans (by rw [Bool.bne_true])), (bindE h fun c47 hc47 h => ⟨(!(eqME r34 (dictE ys39))), rfl, c47, [some (.d ((eT (eT eI)) land)), some (.d ((eL (eP eI eI)) r1)), some (oM true (eP eI eI) (eT (eP eI eI)) (dictE ys4)), v3_s26, v4_s26, some (.d ((eT (eP eI eI)) ys30)), some (oM true (eP eI eI) (eP eI eI) r34), some (oM true (eP eI eI) eI r35), some (oM true (eP eI eI) (eP eI eI) (dictE ys39)), some (oM true (eP eI eI) eI (dictE ys45)), none, none], fun hx => (have h := orO_f hc47 hx; (g_orc (g_deq (g_locl rfl rfl (g_locl rfl rfl ⟨(!(eqME r35 (dictE ys45))), ((deq_E true (dv_O _) (dv_O _)).trans (by rw [Bool.bne_true])), (bindE h fun c48 hc48 h => ⟨(!(eqME r35 (dictE ys45))), rfl, c48, [some (.d ((eT (eT eI)) land)), some (.d ((eL (eP eI eI)) r1)), some (oM true (eP eI eI) (eT (eP eI eI)) (dictE ys4)), v3_s26, v4_s26, some (.d ((eT (eP eI eI)) ys30)), some (oM true (eP eI eI) (eP eI eI) r34), some (oM true (eP eI eI) eI r35), some (oM true (eP eI eI) (eP eI eI) (dictE ys39)), some (oM true (eP eI eI) eI (dictE ys45)), none, none], fun hx => (have h := orO_f hc48 hx; (g_or1 (g_not (g_bi (gv_cons (g_mapO (e := (eP eI eI)) (f := eB) (m := fun (y49 : (Int × Int)) => (Option.bind (valE r35 y49) fun x50 =>
  (some true))) (it_dct (g_locl rfl rfl ⟨_, (dct_O (g := eI) r35), (bindE h fun ys52 hys52 h => ⟨(keysE r35), ys52, rfl, hys52, (.inl rfl), fun y49 _ h => ⟨[some (.d ((eT (eT eI)) land)), some (.d ((eL (eP eI eI)) r1)), some (oM true (eP eI eI) (eT (eP eI eI)) (dictE ys4)), some (.d ((eP eI eI) y49)), v4_s26, some (.d ((eT (eP eI eI)) ys30)), some (oM true (eP eI eI) (eP eI eI) r34), some (oM true (eP eI eI) eI r35), some (oM true (eP eI eI) (eP eI eI) (dictE ys39)), some (oM true (eP eI eI) eI (dictE ys45)), none, none], rfl, (g_call io__law_is_int.symm rfl (ga_cons rfl (g_dix (g_locl rfl rfl (g_loc rfl (bindE h fun x50 hx50 h => ⟨(eI x50), (dix_E (f := (eP eI eI)) (g := eI) (a := y49) (dv_O _) hx50), ⟨(eI x50), rfl, (ga_nil ⟨(eB true), (r_law_is_int (n + 7) x50), NM.nm (f := eB) true, ⟨dE (f := eB) h, rfl⟩⟩)⟩⟩))))))⟩, ⟨((eL eB) ys52), view_l, (gv_nil ⟨(.d (eB (List.all ys52 id))), (b_all ys52), ⟨(List.all ys52 id), rfl, (isE (e := eB) h)⟩⟩)⟩⟩)⟩)))))))), fun hx => ⟨orO_t hc48 hx, rfl⟩, (isE (e := eB) h)⟩)⟩))))), fun hx => ⟨orO_t hc47 hx, rfl⟩, ⟨c47, rfl, fun hc => (have h := iteT h hc; (s_ret rfl (g_lit (fnE (e := fun (r : Bool) => (.d (eB r))) (outs := fun r => []) (v := false) h rfl)))), fun hc => (have h := iteF h hc; (s_if (g_cmp (g_bi (gv_cons (g_mapO (e := (eP eI eI)) (f := eI) (m := fun (y53 : (Int × Int)) => (Option.bind (valE r35 y53) fun x54 =>
  (some x54))) (it_seq (g_loc rfl ⟨_, (items_T (f := (eP eI eI)) (xs := ys30)), (bindE h fun ys55 hys55 h => ⟨ys30, ys55, rfl, hys55, (.inl rfl), fun y53 _ h => ⟨[some (.d ((eT (eT eI)) land)), some (.d ((eL (eP eI eI)) r1)), some (oM true (eP eI eI) (eT (eP eI eI)) (dictE ys4)), some (.d ((eP eI eI) y53)), v4_s26, some (.d ((eT (eP eI eI)) ys30)), some (oM true (eP eI eI) (eP eI eI) r34), some (oM true (eP eI eI) eI r35), some (oM true (eP eI eI) (eP eI eI) (dictE ys39)), some (oM true (eP eI eI) eI (dictE ys45)), none, none], rfl, (g_dix (g_locl rfl rfl (g_loc rfl (bindE h fun x54 hx54 h => ⟨(eI x54), (dix_E (f := (eP eI eI)) (g := eI) (a := y53) (dv_O _) hx54), ⟨dE (f := eI) h, rfl⟩⟩))))⟩, ⟨((eL eI) ys55), view_l, (gv_nil ⟨(.d (eI (List.sum ys55))), (b_sum ys55), (g_bi (gv_cons (g_loc rfl ⟨((eL (eP eI eI)) r1), view_d, (gv_nil ⟨(.d (eI ((List.length r1 : Nat) : Int))), (b_lenL r1), ⟨(!decide ((List.sum ys55) = ((List.length r1 : Nat) : Int))), (cq_ne eI (List.sum ys55) ((List.length r1 : Nat) : Int)), ⟨(!decide ((List.sum ys55) = ((List.length r1 : Nat) : Int))), rfl, fun hc => (have h := iteT h hc; (s_ret rfl (g_lit (fnE (e := fun (r : Bool) => (.d (eB r))) (outs := fun r => []) (v := false) h rfl)))), fun hc => (have h := iteF h hc; (bindE h fun u56 hu56 h => (bindE h fun u57 hu57 h => (s_dput2 (g_tupV (gv_cons (g_lit ⟨((eO eU) (none : (Option Unit))), view_d, (gv_cons (g_lit ⟨(eI (0 : Int)), view_d, (gv_nil ⟨((eO eU) (((none : (Option Unit)), (0 : Int)).1)), (eI (((none : (Option Unit)), (0 : Int)).2)), _, _, rfl, rfl, (g_tupV (gv_cons (g_lit ⟨(eI (0 : Int)), view_d, (gv_cons (g_lit ⟨(eI (0 : Int)), view_d, (gv_nil ⟨_, _, _, [some (.d ((eT (eT eI)) land)), some (.d ((eL (eP eI eI)) r1)), some (oM true (eP eI eI) (eT (eP eI eI)) (dictE ys4)), v3_s26, v4_s26, some (.d ((eT (eP eI eI)) ys30)), some (oX  true (eP eI eI) (eP eI eI) r34 ((0 : Int), (0 : Int)) ((eO eU) (((none : (Option Unit)), (0 : Int)).1))), some (oM true (eP eI eI) eI r35), some (oM true (eP eI eI) (eP eI eI) (dictE ys39)), some (oM true (eP eI eI) eI (dictE ys45)), none, none], rfl, (dput_X (f := (eP eI eI)) (g := (eP eI eI)) (a := ((0 : Int), (0 : Int))) hu56), rfl, _, _, rfl, (g_tupV (gv_cons (g_lit ⟨(eI (0 : Int)), view_d, (gv_cons (g_lit ⟨(eI (0 : Int)), view_d, (gv_nil ⟨_, _, _, [some (.d ((eT (eT eI)) land)), some (.d ((eL (eP eI eI)) r1)), some (oM true (eP eI eI) (eT (eP eI eI)) (dictE ys4)), v3_s26, v4_s26, some (.d ((eT (eP eI eI)) ys30)), some (oX  true (eP eI eI) (eP eI eI) r34 ((0 : Int), (0 : Int)) ((eO eU) (((none : (Option Unit)), (0 : Int)).1))), some (oX  true (eP eI eI) eI r35 ((0 : Int), (0 : Int)) (eI (((none : (Option Unit)), (0 : Int)).2))), some (oM true (eP eI eI) (eP eI eI) (dictE ys39)), some (oM true (eP eI eI) eI (dictE ys45)), none, none], rfl, (dput_X (f := (eP eI eI)) (g := eI) (a := ((0 : Int), (0 : Int))) hu57), rfl, (s_ret rfl (g_and (g_andc (g_deq (g_callL io_ends_at.symm rfl (ga_cons rfl (g_loc rfl ⟨((eT (eT eI)) land), rfl, (ga_nil (bindE h fun r58 hr58 h => ⟨(oM true (eP eI eI) (eP eI eI) r58), (r_ends_at (n + 1) land r58 hr58), .inr rfl, (g_locl rfl rfl ⟨(eqME r58 (dictE ys39)), ((deq_E false (dv_O _) (dv_O _)).trans (by rw [Bool.bne_false])), (bindE h fun c59 hc59 h => ⟨(eqME r58 (dictE ys39)), rfl, c59, [some (.d ((eT (eT eI)) land)), some (.d ((eL (eP eI eI)) r1)), some (oM true (eP eI eI) (eT (eP eI eI)) (dictE ys4)), v3_s26, v4_s26, some (.d ((eT (eP eI eI)) ys30)), some (oX  true (eP eI eI) (eP eI eI) r34 ((0 : Int), (0 : Int)) ((eO eU) (((none : (Option Unit)), (0 : Int)).1))), some (oX  true (eP eI eI) eI r35 ((0 : Int), (0 : Int)) (eI (((none : (Option Unit)), (0 : Int)).2))), some (oM true (eP eI eI) (eP eI eI) (dictE ys39)), some (oM true (eP eI eI) eI (dictE ys45)), none, none], fun hx => (have h := andO_t hc59 hx; (g_and1 (g_deq (g_callL io_gathered.symm rfl (ga_cons rfl (g_loc rfl ⟨((eT (eT eI)) land), rfl, (ga_nil (bindE h fun r60 hr60 h => ⟨(oM true (eP eI eI) eI r60), (r_gathered (n + 1) land r60 hr60), .inr rfl, (g_locl rfl rfl ⟨(eqME r60 (dictE ys45)), ((deq_E false (dv_O _) (dv_O _)).trans (by rw [Bool.bne_false])), (isE (e := eB) h)⟩)⟩))⟩)))))), fun hx => ⟨andO_f hc59 hx, rfl⟩, (fnE (e := fun (r : Bool) => (.d (eB r))) (outs := fun r => []) (v := c59) h rfl)⟩)⟩)⟩))⟩)))))))⟩)⟩))⟩)))⟩)⟩))⟩)))⟩)⟩))⟩)))))))⟩⟩⟩)⟩)))⟩)⟩⟩)⟩))))))))⟩⟩)⟩))))))⟩⟩)⟩)⟩)))))⟩⟩)⟩)⟩)))))⟩)⟩))⟩))))⟩))⟩))))))⟩⟩⟩))⟩)))⟩))⟩⟩))⟩)))))))⟩⟩)⟩⟩)⟩)))))), fun r _ ec hr => by subst ec; exact (by cases h; exact rt_fn hr)⟩)⟩)))⟩⟩)⟩)⟩)))))⟩⟩))⟩))))
/-! p_law -/
def p_law (script : List Int) : Option Bool :=
  (Option.bind (p_law_hand script) fun r1 =>
  (letO ([([(3 : Int), (2 : Int), (3 : Int)] : (List Int)), ([(4 : Int), (1 : Int), (2 : Int)] : (List Int)), ([(0 : Int), (5 : Int), (6 : Int)] : (List Int))] : (List (List Int))) fun land2 =>
  (Option.bind (p_stream land2 ((0 : Int), (0 : Int))) fun r3 =>
  (Option.bind (orO (!decide (r3 = ([((0 : Int), (0 : Int)), ((0 : Int), (1 : Int)), ((1 : Int), (1 : Int))] : (List (Int × Int))))) (Option.bind (p_ends land2) fun r5 =>
  (some (!decide (r5 = ([((1 : Int), (1 : Int)), ((2 : Int), (0 : Int))] : (List (Int × Int)))))))) fun c4 =>
  (if c4 = true then (some false)
  else (Option.bind (p_stream land2 ((1 : Int), (0 : Int))) fun r6 =>
  (Option.bind (orO (!decide (r6 = ([((1 : Int), (0 : Int)), ((2 : Int), (0 : Int))] : (List (Int × Int))))) (Option.bind (p_gathered land2) fun r8 =>
  (Option.bind (valE r8 ((1 : Int), (1 : Int))) fun x9 =>
  (Option.bind (orO (!decide (x9 = (6 : Int))) (Option.bind (p_gathered land2) fun r11 =>
  (Option.bind (valE r11 ((2 : Int), (0 : Int))) fun x12 =>
  (some (!decide (x12 = (3 : Int))))))) fun c10 =>
  (some c10))))) fun c7 =>
  (if c7 = true then (some false)
  else (Option.bind (p_stream ([([(2 : Int), (2 : Int)] : (List Int))] : (List (List Int))) ((0 : Int), (1 : Int))) fun r13 =>
  (Option.bind (orO (!decide (r13 = ([((0 : Int), (1 : Int))] : (List (Int × Int))))) (Option.bind (p_ends ([([(1 : Int), (1 : Int)] : (List Int)), ([(1 : Int), (1 : Int)] : (List Int))] : (List (List Int)))) fun r15 =>
  (some (!decide (r15 = ([((0 : Int), (0 : Int)), ((0 : Int), (1 : Int)), ((1 : Int), (0 : Int)), ((1 : Int), (1 : Int))] : (List (Int × Int)))))))) fun c14 =>
  (if c14 = true then (some false)
  else (Option.bind (rngO (0 : Int) (6 : Int)) fun xs16 =>
  (Option.bind (mapS (fun s18 y17 => (Option.bind (p_law_land s18 (5 : Int)) fun r19 =>
  (Option.bind (p_law_is_right r19.1) fun r20 =>
  (some (r20, r19.2))))) xs16 r1) fun q21 =>
  (some (List.all q21.1 id)))))))))))))))
theorem r_law (n : Nat) (script : List Int) (r : Bool) (h : p_law script = some r) : callP P (n + 10) "law" [(.d (scrD script))] = .ok (.d (eB r)) [] := by
  unfold p_law at h
  exact r_fnC (n := n + 9) (d := d_law) [some (.d (scrD script)), none, none, none] d_law.body fd_law rfl rfl rfl
    (s_asg (g_callL io__law_hand.symm rfl (ga_cons rfl (g_loc rfl ⟨(scrD script), rfl, (ga_nil (bindE h fun r1 hr1 h => ⟨(oH r1), (r_law_hand (n + 8) script r1 hr1), .inr rfl, ⟨_, rfl, rfl, [some (.d (scrD script)), some (oH r1), none, none], rfl, (s_asg (g_tupV (gv_cons (g_tupV (gv_cons (g_lit ⟨(eI (3 : Int)), view_d, (gv_cons (g_lit ⟨(eI (2 : Int)), view_d, (gv_cons (g_lit ⟨(eI (3 : Int)), view_d, (gv_nil ⟨((eT eI) ([(3 : Int), (2 : Int), (3 : Int)] : (List Int))), view_d, (gv_cons (g_tupV (gv_cons (g_lit ⟨(eI (4 : Int)), view_d, (gv_cons (g_lit ⟨(eI (1 : Int)), view_d, (gv_cons (g_lit ⟨(eI (2 : Int)), view_d, (gv_nil ⟨((eT eI) ([(4 : Int), (1 : Int), (2 : Int)] : (List Int))), view_d, (gv_cons (g_tupV (gv_cons (g_lit ⟨(eI (0 : Int)), view_d, (gv_cons (g_lit ⟨(eI (5 : Int)), view_d, (gv_cons (g_lit ⟨(eI (6 : Int)), view_d, (gv_nil ⟨((eT eI) ([(0 : Int), (5 : Int), (6 : Int)] : (List Int))), view_d, (gv_nil (letE h fun land2 eland2 h => ⟨_, (slotE (e := (eT (eT eI))) eland2), rfl, [some (.d (scrD script)), some (oH r1), some (.d ((eT (eT eI)) land2)), none], rfl, (s_if (g_or (g_orc (g_cmp (g_call io_stream.symm rfl (ga_cons rfl (g_loc rfl ⟨((eT (eT eI)) land2), rfl, (ga_cons rfl (g_tupV (gv_cons (g_lit ⟨(eI (0 : Int)), view_d, (gv_cons (g_lit ⟨(eI (0 : Int)), view_d, (gv_nil ⟨((eP eI eI) ((0 : Int), (0 : Int))), rfl, (ga_nil (bindE h fun r3 hr3 h => ⟨((eT (eP eI eI)) r3), (r_stream (n + 1) land2 ((0 : Int), (0 : Int)) r3 hr3), NM.nm (f := (eT (eP eI eI))) r3, (g_tupV (gv_cons (g_tupV (gv_cons (g_lit ⟨(eI (0 : Int)), view_d, (gv_cons (g_lit ⟨(eI (0 : Int)), view_d, (gv_nil ⟨((eP eI eI) ((0 : Int), (0 : Int))), view_d, (gv_cons (g_tupV (gv_cons (g_lit ⟨(eI (0 : Int)), view_d, (gv_cons (g_lit ⟨(eI (1 : Int)), view_d, (gv_nil ⟨((eP eI eI) ((0 : Int), (1 : Int))), view_d, (gv_cons (g_tupV (gv_cons (g_lit ⟨(eI (1 : Int)), view_d, (gv_cons (g_lit ⟨(eI (1 : Int)), view_d, (gv_nil ⟨((eP eI eI) ((1 : Int), (1 : Int))), view_d, (gv_nil ⟨(!decide (r3 = ([((0 : Int), (0 : Int)), ((0 : Int), (1 : Int)), ((1 : Int), (1 : Int))] : (List (Int × Int))))), (cq_ne (eT (eP eI eI)) r3 ([((0 : Int), (0 : Int)), ((0 : Int), (1 : Int)), ((1 : Int), (1 : Int))] : (List (Int × Int)))), (bindE h fun c4 hc4 h => ⟨(!decide (r3 = ([((0 : Int), (0 : Int)), ((0 : Int), (1 : Int)), ((1 : Int), (1 : Int))] : (List (Int × Int))))), rfl, c4, [some (.d (scrD script)), some (oH r1), some (.d ((eT (eT eI)) land2)), none], fun hx => (have h := orO_f hc4 hx; (g_or1 (g_cmp (g_call io_ends.symm rfl (ga_cons rfl (g_loc rfl ⟨((eT (eT eI)) land2), rfl, (ga_nil (bindE h fun r5 hr5 h => ⟨((eT (eP eI eI)) r5), (r_ends (n + 2) land2 r5 hr5), NM.nm (f := (eT (eP eI eI))) r5, (g_tupV (gv_cons (g_tupV (gv_cons (g_lit ⟨(eI (1 : Int)), view_d, (gv_cons (g_lit ⟨(eI (1 : Int)), view_d, (gv_nil ⟨((eP eI eI) ((1 : Int), (1 : Int))), view_d, (gv_cons (g_tupV (gv_cons (g_lit ⟨(eI (2 : Int)), view_d, (gv_cons (g_lit ⟨(eI (0 : Int)), view_d, (gv_nil ⟨((eP eI eI) ((2 : Int), (0 : Int))), view_d, (gv_nil ⟨(!decide (r5 = ([((1 : Int), (1 : Int)), ((2 : Int), (0 : Int))] : (List (Int × Int))))), (cq_ne (eT (eP eI eI)) r5 ([((1 : Int), (1 : Int)), ((2 : Int), (0 : Int))] : (List (Int × Int)))), (isE (e := eB) h)⟩)⟩)⟩))⟩))))⟩)⟩))⟩)))))⟩))⟩)))))), fun hx => ⟨orO_t hc4 hx, rfl⟩, ⟨c4, rfl, fun hc => (have h := iteT h hc; (s_ret rfl (g_lit (fnE (e := fun (r : Bool) => (.d (eB r))) (outs := fun r => []) (v := false) h rfl)))), fun hc => (have h := iteF h hc; (s_if (g_or (g_orc (g_cmp (g_call io_stream.symm rfl (ga_cons rfl (g_loc rfl ⟨((eT (eT eI)) land2), rfl, (ga_cons rfl (g_tupV (gv_cons (g_lit ⟨(eI (1 : Int)), view_d, (gv_cons (g_lit ⟨(eI (0 : Int)), view_d, (gv_nil ⟨((eP eI eI) ((1 : Int), (0 : Int))), rfl, (ga_nil (bindE h fun r6 hr6 h => ⟨((eT (eP eI eI)) r6), (r_stream (n + 1) land2 ((1 : Int), (0 : Int)) r6 hr6), NM.nm (f := (eT (eP eI eI))) r6, (g_tupV (gv_cons (g_tupV (gv_cons (g_lit ⟨(eI (1 : Int)), view_d, (gv_cons (g_lit ⟨(eI (0 : Int)), view_d, (gv_nil ⟨((eP eI eI) ((1 : Int), (0 : Int))), view_d, (gv_cons (g_tupV (gv_cons (g_lit ⟨(eI (2 : Int)), view_d, (gv_cons (g_lit ⟨(eI (0 : Int)), view_d, (gv_nil ⟨((eP eI eI) ((2 : Int), (0 : Int))), view_d, (gv_nil ⟨(!decide (r6 = ([((1 : Int), (0 : Int)), ((2 : Int), (0 : Int))] : (List (Int × Int))))), (cq_ne (eT (eP eI eI)) r6 ([((1 : Int), (0 : Int)), ((2 : Int), (0 : Int))] : (List (Int × Int)))), (bindE h fun c7 hc7 h => ⟨(!decide (r6 = ([((1 : Int), (0 : Int)), ((2 : Int), (0 : Int))] : (List (Int × Int))))), rfl, c7, [some (.d (scrD script)), some (oH r1), some (.d ((eT (eT eI)) land2)), none], fun hx => (have h := orO_f hc7 hx; (g_orc (g_cmp (g_dix (g_callL io_gathered.symm rfl (ga_cons rfl (g_loc rfl ⟨((eT (eT eI)) land2), rfl, (ga_nil (bindE h fun r8 hr8 h => ⟨(oM true (eP eI eI) eI r8), (r_gathered (n + 2) land2 r8 hr8), .inr rfl, (g_tupV (gv_cons (g_lit ⟨(eI (1 : Int)), view_d, (gv_cons (g_lit ⟨(eI (1 : Int)), view_d, (gv_nil (bindE h fun x9 hx9 h => ⟨(eI x9), (dix_E (f := (eP eI eI)) (g := eI) (a := ((1 : Int), (1 : Int))) (dv_O _) hx9), (g_lit ⟨(!decide (x9 = (6 : Int))), (cq_ne eI x9 (6 : Int)), (bindE h fun c10 hc10 h => ⟨(!decide (x9 = (6 : Int))), rfl, c10, [some (.d (scrD script)), some (oH r1), some (.d ((eT (eT eI)) land2)), none], fun hx => (have h := orO_f hc10 hx; (g_or1 (g_cmp (g_dix (g_callL io_gathered.symm rfl (ga_cons rfl (g_loc rfl ⟨((eT (eT eI)) land2), rfl, (ga_nil (bindE h fun r11 hr11 h => ⟨(oM true (eP eI eI) eI r11), (r_gathered (n + 2) land2 r11 hr11), .inr rfl, (g_tupV (gv_cons (g_lit ⟨(eI (2 : Int)), view_d, (gv_cons (g_lit ⟨(eI (0 : Int)), view_d, (gv_nil (bindE h fun x12 hx12 h => ⟨(eI x12), (dix_E (f := (eP eI eI)) (g := eI) (a := ((2 : Int), (0 : Int))) (dv_O _) hx12), (g_lit ⟨(!decide (x12 = (3 : Int))), (cq_ne eI x12 (3 : Int)), (isE (e := eB) h)⟩)⟩))⟩))⟩)))⟩))⟩))))))), fun hx => ⟨orO_t hc10 hx, rfl⟩, (isE (e := eB) h)⟩)⟩)⟩))⟩))⟩)))⟩))⟩))))))), fun hx => ⟨orO_t hc7 hx, rfl⟩, ⟨c7, rfl, fun hc => (have h := iteT h hc; (s_ret rfl (g_lit (fnE (e := fun (r : Bool) => (.d (eB r))) (outs := fun r => []) (v := false) h rfl)))), fun hc => (have h := iteF h hc; (s_if (g_or (g_orc (g_cmp (g_call io_stream.symm rfl (ga_cons rfl (g_tupV (gv_cons (g_tupV (gv_cons (g_lit ⟨(eI (2 : Int)), view_d, (gv_cons (g_lit ⟨(eI (2 : Int)), view_d, (gv_nil ⟨((eT eI) ([(2 : Int), (2 : Int)] : (List Int))), view_d, (gv_nil ⟨((eT (eT eI)) ([([(2 : Int), (2 : Int)] : (List Int))] : (List (List Int)))), rfl, (ga_cons rfl (g_tupV (gv_cons (g_lit ⟨(eI (0 : Int)), view_d, (gv_cons (g_lit ⟨(eI (1 : Int)), view_d, (gv_nil ⟨((eP eI eI) ((0 : Int), (1 : Int))), rfl, (ga_nil (bindE h fun r13 hr13 h => ⟨((eT (eP eI eI)) r13), (r_stream (n + 1) ([([(2 : Int), (2 : Int)] : (List Int))] : (List (List Int))) ((0 : Int), (1 : Int)) r13 hr13), NM.nm (f := (eT (eP eI eI))) r13, (g_tupV (gv_cons (g_tupV (gv_cons (g_lit ⟨(eI (0 : Int)), view_d, (gv_cons (g_lit ⟨(eI (1 : Int)), view_d, (gv_nil ⟨((eP eI eI) ((0 : Int), (1 : Int))), view_d, (gv_nil ⟨(!decide (r13 = ([((0 : Int), (1 : Int))] : (List (Int × Int))))), (cq_ne (eT (eP eI eI)) r13 ([((0 : Int), (1 : Int))] : (List (Int × Int)))), (bindE h fun c14 hc14 h => ⟨(!decide (r13 = ([((0 : Int), (1 : Int))] : (List (Int × Int))))), rfl, c14, [some (.d (scrD script)), some (oH r1), some (.d ((eT (eT eI)) land2)), none], fun hx => (have h := orO_f hc14 hx; (g_or1 (g_cmp (g_call io_ends.symm rfl (ga_cons rfl (g_tupV (gv_cons (g_tupV (gv_cons (g_lit ⟨(eI (1 : Int)), view_d, (gv_cons (g_lit ⟨(eI (1 : Int)), view_d, (gv_nil ⟨((eT eI) ([(1 : Int), (1 : Int)] : (List Int))), view_d, (gv_cons (g_tupV (gv_cons (g_lit ⟨(eI (1 : Int)), view_d, (gv_cons (g_lit ⟨(eI (1 : Int)), view_d, (gv_nil ⟨((eT eI) ([(1 : Int), (1 : Int)] : (List Int))), view_d, (gv_nil ⟨((eT (eT eI)) ([([(1 : Int), (1 : Int)] : (List Int)), ([(1 : Int), (1 : Int)] : (List Int))] : (List (List Int)))), rfl, (ga_nil (bindE h fun r15 hr15 h => ⟨((eT (eP eI eI)) r15), (r_ends (n + 2) ([([(1 : Int), (1 : Int)] : (List Int)), ([(1 : Int), (1 : Int)] : (List Int))] : (List (List Int))) r15 hr15), NM.nm (f := (eT (eP eI eI))) r15, (g_tupV (gv_cons (g_tupV (gv_cons (g_lit ⟨(eI (0 : Int)), view_d, (gv_cons (g_lit ⟨(eI (0 : Int)), view_d, (gv_nil ⟨((eP eI eI) ((0 : Int), (0 : Int))), view_d, (gv_cons (g_tupV (gv_cons (g_lit ⟨(eI (0 : Int)), view_d, (gv_cons (g_lit ⟨(eI (1 : Int)), view_d, (gv_nil ⟨((eP eI eI) ((0 : Int), (1 : Int))), view_d, (gv_cons (g_tupV (gv_cons (g_lit ⟨(eI (1 : Int)), view_d, (gv_cons (g_lit ⟨(eI (0 : Int)), view_d, (gv_nil ⟨((eP eI eI) ((1 : Int), (0 : Int))), view_d, (gv_cons (g_tupV (gv_cons (g_lit ⟨(eI (1 : Int)), view_d, (gv_cons (g_lit ⟨(eI (1 : Int)), view_d, (gv_nil ⟨((eP eI eI) ((1 : Int), (1 : Int))), view_d, (gv_nil ⟨(!decide (r15 = ([((0 : Int), (0 : Int)), ((0 : Int), (1 : Int)), ((1 : Int), (0 : Int)), ((1 : Int), (1 : Int))] : (List (Int × Int))))), (cq_ne (eT (eP eI eI)) r15 ([((0 : Int), (0 : Int)), ((0 : Int), (1 : Int)), ((1 : Int), (0 : Int)), ((1 : Int), (1 : Int))] : (List (Int × Int)))), (isE (e := eB) h)⟩)⟩)⟩))⟩))))⟩)⟩))⟩))))⟩)⟩))⟩))))⟩)⟩))⟩)))))⟩))⟩)⟩)⟩))⟩))))⟩)⟩))⟩)))))))))), fun hx => ⟨orO_t hc14 hx, rfl⟩, ⟨c14, rfl, fun hc => (have h := iteT h hc; (s_ret rfl (g_lit (fnE (e := fun (r : Bool) => (.d (eB r))) (outs := fun r => []) (v := false) h rfl)))), fun hc => (have h := iteF h hc; (s_ret rfl (g_bi (gv_cons (g_mapS (e := eI) (f := eB) (fun s18 y17 => (Option.bind (p_law_land s18 (5 : Int)) fun r19 =>
  (Option.bind (p_law_is_right r19.1) fun r20 =>
  (some (r20, r19.2))))) (fun (s18 : Hand) (τ : Tau) => ∃ v3 : Option O, τ = [some (.d (scrD script)), some (oH s18), some (.d ((eT (eT eI)) land2)), v3]) (it_rng (gv_cons (g_lit ⟨(eI (6 : Int)), view_d, (gv_nil (bindE h fun xs16 hxs16 h => ⟨_, rng_0 hxs16, (bindE h fun q21 hq21 h => ⟨xs16, r1, q21, rfl, hq21, (.inr (rng_len hxs16)), ⟨_, rfl⟩, fun s18 y17 _ _ ⟨v3, ej⟩ h => by subst ej; exact ⟨[some (.d (scrD script)), some (oH s18), some (.d ((eT (eT eI)) land2)), some (.d (eI y17))], rfl, (g_callL io__law_is_right.symm rfl (ga_cons rfl (g_callM io__law_land.symm (ga_io (o1 := (oH s18)) rfl (ga_cons rfl (g_lit ⟨(eI (5 : Int)), rfl, (ga_nil ⟨_, rfl, (bindE h fun r19 hr19 h => ⟨(.d ((eT (eT eI)) r19.1)), [(oH r19.2)], [some (.d (scrD script)), some (oH r19.2), some (.d ((eT (eT eI)) land2)), some (.d (eI y17))], (r_law_land (n + 6) s18 (5 : Int) r19 hr19), rfl, ⟨((eT (eT eI)) r19.1), rfl, (ga_nil (bindE h fun r20 hr20 h => ⟨(.d (eB r20)), (r_law_is_right (n + 0) r19.1 r20 hr20), .inl rfl, ⟨by cases h; rfl, by cases h; exact ⟨_, rfl⟩⟩⟩))⟩⟩)⟩)⟩))))))⟩, fun _ ⟨v3, ej⟩ => by subst ej; exact ⟨((eL eB) q21.1), view_l, (gv_nil ⟨(.d (eB (List.all q21.1 id))), (b_all q21.1), (fnE (e := fun (r : Bool) => (.d (eB r))) (outs := fun r => []) (v := (List.all q21.1 id)) h rfl)⟩)⟩⟩)⟩))⟩))))))))⟩⟩)⟩)⟩)⟩))⟩)))))⟩))⟩)⟩))⟩))))⟩)⟩)⟩))⟩))))))))))))⟩⟩)⟩)⟩)⟩))⟩))))⟩)⟩))⟩)))))⟩))⟩)⟩))⟩))))⟩))))))))⟩⟩)⟩)⟩)⟩))⟩))))⟩)⟩))⟩))))⟩)⟩))⟩)))))⟩))⟩)⟩))⟩))))⟩)))))))⟩))⟩)⟩))⟩))⟩))))⟩)⟩))⟩))⟩))))⟩)⟩))⟩))⟩))))))⟩⟩))⟩))))
end
end K07
set_option Elab.async false
set_option linter.all false
set_option maxRecDepth 100000
set_option maxHeartbeats 4000000
open PySem PySem.W L2 Mir
namespace K07
noncomputable section
/-! what is drawn -/
structure HOk (h : Hand) : Prop where
  c : ∀ x ∈ h.f0, 0 ≤ x
  p : 0 ≤ h.f1
  r : 0 ≤ h.f2
theorem draw_ok {h : Hand} (H : HOk h) {sp : Int} (hs : 0 < sp ∧ sp ≤ 1000000) : Ok (p_law_draw h sp) fun q => HOk q.2 ∧ 0 ≤ q.1 ∧ q.1 < sp := by
  unfold p_law_draw
  refine Ok.bind (P := HOk) (Ok.ite (fun c => ?_) fun _ => Ok.some H) fun s1 H1 => ?_
  · simp only [Bool.and_eq_true, decide_eq_true_eq] at c
    refine Ok.bind (Ok.atW ⟨H.p, c.2⟩ fun x hx _ => H.c x hx) fun x hx => Ok.letO (Ok.letO (Ok.bind (P := HOk) (Ok.ite (fun _ => ?_) fun _ => ?_) fun s h => Ok.some h))
    · exact Ok.letO (Ok.some ⟨H.c, by show 0 ≤ h.f1 + 1; have := H.p; omega, hx⟩)
    · exact Ok.some ⟨H.c, by show 0 ≤ h.f1 + 1; have := H.p; omega, H.r⟩
  · refine Ok.ite (fun c => ?_) fun _ => ?_
    · have b := mod_b s1.f2 sp hs.1
      exact Ok.bind (Ok.mod hs.1 (P := fun q => q = s1.f2 % sp) rfl) fun q e => Ok.bind (Ok.div (by omega) (P := fun q => q = s1.f2 / sp) rfl) fun q2 e2 => Ok.letO (Ok.some (by subst e e2; exact ⟨⟨H1.c, H1.p, Int.ediv_nonneg H1.r (by omega)⟩, b.1, b.2⟩))
    · refine Ok.letO (Ok.letO (Ok.bind (Ok.mul (P := fun _ => True) ?_ trivial) fun x _ => Ok.letO (Ok.bind (Ok.mul (P := fun _ => True) ?_ trivial) fun y _ => Ok.letO (Ok.bind (Ok.mod hs.1 (P := fun q => 0 ≤ q ∧ q < sp) ?_) fun z hz => Ok.some ⟨⟨H1.c, H1.p, H1.r⟩, hz⟩))))
      · left
        refine ⟨?_, ?_⟩ <;> have := mod_b ((s1.f3 + 7919 * (s1.f4 + 1)) * 48271) 2147483647 (by decide) <;> dsimp only <;> omega
      · left
        have := mod_b x 2147483647 (by decide)
        omega
      · exact mod_b _ sp hs.1
theorem some_ok {h : Hand} (H : HOk h) {xs : List Int} (h1 : xs ≠ []) (h2 : xs.length ≤ 1000) : Ok (p_law_some h xs) fun q => HOk q.2 ∧ q.1 ∈ xs := by
  have hp := List.length_pos_iff.mpr h1
  unfold p_law_some
  exact Ok.bind (draw_ok H (sp := (xs.length : Int)) (by omega)) fun q hq => Ok.bind (Ok.atW (P := fun x => x ∈ xs) ⟨hq.2.1, hq.2.2⟩ fun x hx _ => hx) fun x hx => Ok.some ⟨hq.1, hx⟩
abbrev Gr (g : List (List Int)) (w : Nat) : Prop := Grid g w 1000
theorem land_drawn {h : Hand} (H : HOk h) {m : Int} (hm : 0 < m ∧ m ≤ 5) : Ok (p_law_land h m) fun q => HOk q.2 ∧ q.1.length ≤ 5 ∧ ∃ w, w ≤ 5 ∧ Gr q.1 w := by
  unfold p_law_land
  refine Ok.bind (draw_ok H (sp := m) (by omega)) fun q1 h1 => Ok.bind (draw_ok h1.1 (sp := m) (by omega)) fun q2 h2 => Ok.letO (Ok.letO (Ok.bind (some_ok h2.1 (xs := [2, 4, 10, 1001]) (by simp) (by simp)) fun q3 h3 => ?_))
  have c2 : 0 < q3.1 ∧ q3.1 ≤ 1001 := by have := h3.2; simp at this; omega
  refine Ok.bind (Ok.rng (P := (· = rngI 0 (1 + q1.1))) (by omega) rfl) fun xs e => ?_
  subst e
  refine Ok.bind (Ok.mapS HOk (fun r : List Int => r.length = (1 + q2.1).toNat ∧ ∀ x ∈ r, 0 ≤ x ∧ x ≤ 1000) h3.1 fun s y hy hs => ?_) fun q hq => ?_
  · refine Ok.bind (Ok.rng (P := (· = rngI 0 (1 + q2.1))) (by omega) rfl) fun xs e => ?_
    subst e
    refine Ok.bind (Ok.mapS HOk (fun x : Int => 0 ≤ x ∧ x ≤ 1000) hs fun s y hy hs => Ok.bind (draw_ok hs (sp := q3.1) (by omega)) fun q hq => Ok.some ⟨hq.1, by show 0 ≤ q.1 ∧ q.1 ≤ 1000; omega⟩) fun q hq => Ok.some ⟨hq.1, by rw [hq.2.1, rngI_len]; omega, hq.2.2⟩
  · obtain ⟨H4, l4, P4⟩ := hq
    rw [rngI_len] at l4
    refine Ok.some ⟨H4, by dsimp only; omega, (1 + q2.1).toNat, by omega, ?_⟩
    exact ⟨by dsimp only; omega, by dsimp only; omega, by omega, by omega, fun r hr => (P4 r hr).1, fun r hr => (P4 r hr).2⟩
variable {g : List (List Int)} {w : Nat}
theorem within {i a b : Int} (h : a ≤ i ∧ i ≤ b) : p_is_within i a b = true := by simp [p_is_within, h.1, h.2]
theorem land_ok (G : Gr g w) : p_is_land g = some true := by
  have h1 := G.h1
  have h2 := G.h2
  obtain ⟨r0, e0, l0⟩ := G.first
  have hr : ∀ r ∈ g, p_is_row r = true := fun r hr => by
    have e := G.wide r hr
    have e1 := G.w1
    have e2 := G.w2
    have e3 : List.all (List.map (fun y1 => (p_is_height y1)) r) id = true := all_id fun y hy => within (by have := G.high r hr y hy; omega)
    unfold p_is_row
    rw [e3]
    simp; omega
  have e1 : List.all (List.map (fun y1 => (p_is_row y1)) g) id = true := all_id hr
  unfold p_is_land
  rw [mapO_eq (fun _ => true) g fun x hx => by rw [e0, bind_s, G.wide x hx, l0]; simp, e1]
  rw [if_neg (by simp; omega)]
  simp [andO]
theorem check_land_ok (G : Gr g w) : p_check_land g = some () := by
  unfold p_check_land
  rw [land_ok G]
  rfl
def On (g : List (List Int)) (w : Nat) (p : Int × Int) : Prop := 0 ≤ p.1 ∧ p.1 < g.length ∧ 0 ≤ p.2 ∧ p.2 < w
theorem spot_ok (G : Gr g w) {p : Int × Int} (h : On g w p) : p_is_spot_of g p = some true := by
  obtain ⟨a1, a2, a3, a4⟩ := h
  obtain ⟨r0, e0, l0⟩ := G.first
  unfold p_is_spot_of p_is_tuple_of
  rw [within (by omega), e0, bind_s, l0, within (by omega)]
  rfl
theorem check_spot_ok (G : Gr g w) {p : Int × Int} (h : On g w p) : p_check_spot g p = some () := by
  unfold p_check_spot
  rw [check_land_ok G, bind_s, spot_ok G h]
  rfl
theorem high_ok (G : Gr g w) {p : Int × Int} (h : On g w p) : p_height_of g p = some (hAt g p.1 p.2) := by
  obtain ⟨a1, a2, a3, a4⟩ := h
  unfold p_height_of
  rw [(G.row ⟨a1, a2⟩).1, bind_s, (G.at ⟨a1, a2⟩ ⟨a3, a4⟩).1]
  rfl
theorem law_high_ok (G : Gr g w) {p : Int × Int} (h : On g w p) : p_law_high g p = some (hAt g p.1 p.2) := high_ok G h
def onB (g : List (List Int)) (w : Nat) (p : Int × Int) : Bool := decide (0 ≤ p.1) && decide (p.1 < g.length) && (decide (0 ≤ p.2) && decide (p.2 < w))
theorem onB_iff {p : Int × Int} : onB g w p = true ↔ On g w p := by unfold onB On; simp [and_assoc]
theorem on_land_ok (G : Gr g w) (p : Int × Int) : p_is_on_land g p = some (onB g w p) := by
  obtain ⟨r0, e0, l0⟩ := G.first
  unfold p_is_on_land onB
  rw [e0, bind_s, l0]
  cases decide (0 ≤ p.1) <;> cases decide (p.1 < (g.length : Int)) <;> cases decide (0 ≤ p.2) <;> rfl
/-- the spots, row by row -/
def SP (g : List (List Int)) (w : Nat) : List (Int × Int) := (rngI 0 (g.length : Int)).flatMap fun r => (rngI 0 (w : Int)).map fun c => (r, c)
theorem mem_SP {p : Int × Int} : p ∈ SP g w ↔ On g w p := by
  unfold SP On
  simp only [List.mem_flatMap, List.mem_map, mem_rngI]
  constructor
  · rintro ⟨r, hr, c, hc, rfl⟩
    exact ⟨hr.1, hr.2, hc.1, hc.2⟩
  · rintro ⟨h1, h2, h3, h4⟩
    exact ⟨p.1, ⟨h1, h2⟩, p.2, ⟨h3, h4⟩, rfl⟩
theorem rngI_nd (a b : Int) : (rngI a b).Nodup := by
  unfold rngI
  refine List.Pairwise.map _ (fun i j h => ?_) List.nodup_range
  intro e
  apply h
  omega
theorem SP_nd : (SP g w).Nodup := by
  unfold SP List.Nodup
  rw [List.pairwise_flatMap]
  refine ⟨fun r _ => List.Pairwise.map _ (fun i j h e => h (Prod.mk.inj e).2) (rngI_nd _ _), (rngI_nd _ _).imp fun {r1 r2} hne => ?_⟩
  intro x hx y hy e
  obtain ⟨c1, _, rfl⟩ := List.mem_map.mp hx
  obtain ⟨c2, _, rfl⟩ := List.mem_map.mp hy
  exact hne (Prod.mk.inj e).1
theorem flat_len {α β : Type} {f : α → List β} {n : Nat} (h : ∀ x, (f x).length = n) : ∀ xs : List α, (xs.flatMap f).length = xs.length * n
  | [] => by simp
  | x :: xs => by rw [List.flatMap_cons, List.length_append, h, flat_len h xs, List.length_cons, Nat.succ_mul]; omega
theorem SP_len (G : Gr g w) : (SP g w).length ≤ 64 := by
  have h2 := G.h2
  have w2 := G.w2
  have : (SP g w).length = g.length * w := by
    unfold SP
    rw [flat_len (n := w) fun r => by rw [List.length_map, rngI_len]; omega, rngI_len]
    congr 1
  have hb : g.length * w ≤ 8 * 8 := Nat.mul_le_mul h2 w2
  omega
theorem spots_ok (G : Gr g w) : p_law_spots g = some (SP g w) := by
  have h1 := G.h1
  have h2 := G.h2
  have w1 := G.w1
  have w2 := G.w2
  obtain ⟨r0, e0, l0⟩ := G.first
  refine Ok.eq ?_
  unfold p_law_spots
  refine Ok.letO (Ok.bind (Ok.rng (P := (· = rngI 0 (g.length : Int))) (by omega) rfl) fun xs e => ?_)
  subst e
  refine Ok.bind (Ok.forO (fun d (s : List (Int × Int)) => s.length = d.length * w ∧ s = d.flatMap fun r => (rngI 0 (w : Int)).map fun c => (r, c)) ⟨by simp, rfl⟩ fun d x rest s hx ⟨hl, ho⟩ => ?_) fun s hs => Ok.some hs.2
  have hd : d.length < (rngI 0 (g.length : Int)).length := by rw [hx]; simp
  rw [rngI_len] at hd
  have hb : d.length * w ≤ 8 * 8 := Nat.mul_le_mul (by omega) w2
  unfold p_law_spots_b2
  rw [e0, bind_s, l0, rng_eq (by omega), bind_s, ext_eq (by rw [List.length_map, rngI_len]; omega)]
  refine ⟨_, rfl, ?_, ?_⟩
  · rw [List.length_append, List.length_map, rngI_len, List.length_append, List.length_singleton, Nat.succ_mul, hl]
    omega
  · rw [List.flatMap_append, ho]
    simp
theorem all_ok (G : Gr g w) : p_all_spots g = some (SP g w) := spots_ok G
end
end K07
set_option Elab.async false
set_option linter.all false
set_option maxRecDepth 100000
set_option maxHeartbeats 4000000
open PySem PySem.W L2 Mir
namespace K07
noncomputable section
variable {g : List (List Int)} {w : Nat}
/-! where water goes next -/
def nb (g : List (List Int)) (w : Nat) (p : Int × Int) : List (Int × Int) := [(p.1 - 1, p.2), (p.1, p.2 - 1), (p.1, p.2 + 1), (p.1 + 1, p.2)].filter (onB g w)
theorem step_ok (p s : Int × Int) : p_stepped p s 1 = some (p.1 + s.1, p.2 + s.2) := by
  unfold p_stepped
  rw [mul_eq (by omega), bind_s, mul_eq (by omega), bind_s]
  simp
theorem beside_ok (G : Gr g w) (p : Int × Int) : p_spots_beside g p = some (nb g w p) := by
  unfold p_spots_beside
  rw [mapO_eq (fun s : Int × Int => (p.1 + s.1, p.2 + s.2)) _ fun s _ => by rw [step_ok, bind_s], bind_s]
  rw [compO_eq (onB g w) (fun p => p) _ fun q _ => ⟨by rw [on_land_ok G, bind_s], fun _ => rfl⟩, bind_s, List.map_id']
  unfold nb
  congr 2
  simp [Int.sub_eq_add_neg]
theorem next_ok (G : Gr g w) (p : Int × Int) : p_law_next_to g p = some (nb g w p) := by
  unfold p_law_next_to letO
  dsimp only
  rw [compO_eq (onB g w) (fun p => p) _ fun q _ => ⟨by have := on_land_ok G q; unfold p_is_on_land at this; rw [this], fun _ => rfl⟩, bind_s, List.map_id']
  rfl
theorem lower_eq (G : Gr g w) (p : Int × Int) : p_law_lower g p = p_raw_steepest g p := by
  unfold p_law_lower p_raw_steepest
  rw [next_ok G, beside_ok G]
  rfl
def hgt (g : List (List Int)) (p : Int × Int) : Int := hAt g p.1 p.2
theorem hgt_b (G : Gr g w) {p : Int × Int} (h : On g w p) : 0 ≤ hgt g p ∧ hgt g p ≤ 1000 := by
  obtain ⟨a1, a2, a3, a4⟩ := h
  exact (G.at ⟨a1, a2⟩ ⟨a3, a4⟩).2
theorem fold_mem {α : Type} {lt : α → α → Bool} : ∀ (xs : List α) (a : α), xs.foldl (fun a y => if lt y a = true then y else a) a = a ∨ xs.foldl (fun a y => if lt y a = true then y else a) a ∈ xs
  | [], a => .inl rfl
  | x :: xs, a => by
    rw [List.foldl_cons]
    rcases fold_mem xs (if lt x a = true then x else a) with e | e
    · rw [e]
      split
      · exact .inr List.mem_cons_self
      · exact .inl rfl
    · exact .inr (List.mem_cons_of_mem _ e)
theorem min_mem {α : Type} {lt : α → α → Bool} : ∀ {xs : List α} {m : α}, minO lt xs = some m → m ∈ xs
  | [], m, h => by cases h
  | x :: xs, m, h => by
    rw [minO] at h
    cases h
    rcases fold_mem xs x (lt := lt) with e | e
    · rw [e]; exact List.mem_cons_self
    · exact List.mem_cons_of_mem _ e
theorem steep_ok (G : Gr g w) {p : Int × Int} (h : On g w p) : Ok (p_raw_steepest g p) fun r => ∀ q, r = some q → On g w q ∧ hgt g q < hgt g p := by
  have hn : ∀ q ∈ nb g w p, On g w q := fun q hq => onB_iff.mp (List.mem_filter.mp hq).2
  unfold p_raw_steepest
  rw [beside_ok G, bind_s, mapO_eq (fun q => (hgt g q, q)) _ fun q hq => by rw [high_ok G (hn q hq), bind_s]; rfl, bind_s]
  rw [compO_eq (fun y : Int × (Int × Int) => decide (y.1 < hgt g p)) (fun y => y) _ fun y _ => ⟨by rw [high_ok G h, bind_s]; rfl, fun _ => rfl⟩, bind_s, List.map_id']
  refine Ok.bind (P := fun r => ∀ q, r = some q → On g w q ∧ hgt g q < hgt g p) (Ok.ite (fun c => ?_) fun c => Ok.some fun q e => by cases e) fun r hr => Ok.some hr
  have c : 0 < (List.filter (fun y : Int × (Int × Int) => decide (y.1 < hgt g p)) (List.map (fun q => (hgt g q, q)) (nb g w p))).length := by
    have := of_decide_eq_true c
    omega
  obtain ⟨m, hm⟩ : ∃ m, minO (EnO.lt (eP eI (eP eI eI))) (List.filter (fun y : Int × (Int × Int) => decide (y.1 < hgt g p)) (List.map (fun q => (hgt g q, q)) (nb g w p))) = some m := by
    generalize List.filter _ _ = l at c
    cases l with
    | nil => simp at c
    | cons x xs => exact ⟨_, rfl⟩
  refine Ok.bindE hm (Ok.some fun q e => ?_)
  cases e
  have hmm := List.mem_filter.mp (min_mem hm)
  obtain ⟨q, hq, eq⟩ := List.mem_map.mp hmm.1
  subst eq
  exact ⟨hn q hq, of_decide_eq_true hmm.2⟩
def low (g : List (List Int)) (p : Int × Int) : Option (Int × Int) := (p_raw_steepest g p).getD none
theorem steep_eq (G : Gr g w) {p : Int × Int} (h : On g w p) : p_raw_steepest g p = some (low g p) ∧ ∀ q, low g p = some q → On g w q ∧ hgt g q < hgt g p := by
  obtain ⟨r, e, hr⟩ := steep_ok G h
  unfold low
  rw [e]
  exact ⟨rfl, hr⟩
/-! paths -/
def pathN (g : List (List Int)) : Nat → (Int × Int) → List (Int × Int)
  | 0, p => [p]
  | n + 1, p => match low g p with
    | none => [p]
    | some q => p :: pathN g n q
def path (g : List (List Int)) (p : Int × Int) : List (Int × Int) := pathN g (hgt g p).toNat p
theorem pathN_eq (G : Gr g w) : ∀ (n m : Nat) (p : Int × Int), On g w p → hgt g p ≤ n → hgt g p ≤ m → pathN g n p = pathN g m p
  | 0, 0, p, _, _, _ => rfl
  | 0, m + 1, p, h, h1, h2 => by
    rw [pathN, pathN]
    cases e : low g p with
    | none => rfl
    | some q =>
      obtain ⟨hq, hl⟩ := (steep_eq G h).2 q e
      have := (hgt_b G hq).1
      omega
  | n + 1, 0, p, h, h1, h2 => by
    rw [pathN, pathN]
    cases e : low g p with
    | none => rfl
    | some q =>
      obtain ⟨hq, hl⟩ := (steep_eq G h).2 q e
      have := (hgt_b G hq).1
      omega
  | n + 1, m + 1, p, h, h1, h2 => by
    rw [pathN, pathN]
    cases e : low g p with
    | none => rfl
    | some q =>
      obtain ⟨hq, hl⟩ := (steep_eq G h).2 q e
      dsimp only
      rw [pathN_eq G n m q hq (by omega) (by omega)]
theorem path_none {p : Int × Int} (e : low g p = none) : path g p = [p] := by
  unfold path
  cases (hgt g p).toNat with
  | zero => rfl
  | succ n => rw [pathN, e]
theorem path_some (G : Gr g w) {p q : Int × Int} (h : On g w p) (e : low g p = some q) : path g p = p :: path g q := by
  obtain ⟨hq, hl⟩ := (steep_eq G h).2 q e
  have b := (hgt_b G hq).1
  have b2 := (hgt_b G h).1
  unfold path
  obtain ⟨n, hn⟩ : ∃ n, (hgt g p).toNat = n + 1 := ⟨(hgt g p).toNat - 1, by omega⟩
  rw [hn, pathN, e]
  dsimp only
  rw [pathN_eq G n (hgt g q).toNat q hq (by omega) (by omega)]
/-- by the height -/
theorem path_ind (G : Gr g w) {P : Int × Int → Prop} (h0 : ∀ p, On g w p → low g p = none → P p) (h1 : ∀ p q, On g w p → low g p = some q → On g w q → P q → P p) : ∀ p, On g w p → P p := by
  have key : ∀ (n : Nat) (p : Int × Int), On g w p → hgt g p ≤ n → P p := by
    intro n
    induction n with
    | zero =>
      intro p h hn
      cases e : low g p with
      | none => exact h0 p h e
      | some q =>
        obtain ⟨hq, hl⟩ := (steep_eq G h).2 q e
        have := (hgt_b G hq).1
        omega
    | succ n ih =>
      intro p h hn
      cases e : low g p with
      | none => exact h0 p h e
      | some q =>
        obtain ⟨hq, hl⟩ := (steep_eq G h).2 q e
        exact h1 p q h e hq (ih q hq (by omega))
  intro p h
  have := (hgt_b G h).1
  exact key (hgt g p).toNat p h (by omega)
theorem path_cons (g : List (List Int)) (p : Int × Int) : ∃ t, path g p = p :: t := by
  unfold path
  cases (hgt g p).toNat with
  | zero => exact ⟨[], rfl⟩
  | succ n =>
    rw [pathN]
    split
    · exact ⟨[], rfl⟩
    · exact ⟨_, rfl⟩
theorem path_on (G : Gr g w) : ∀ p, On g w p → ∀ q ∈ path g p, On g w q ∧ hgt g q ≤ hgt g p := by
  refine path_ind G (fun p h e q hq => ?_) fun p q h e hq ih r hr => ?_
  · rw [path_none e, List.mem_singleton] at hq
    subst hq
    exact ⟨h, Int.le_refl _⟩
  · rw [path_some G h e] at hr
    rcases List.mem_cons.mp hr with z | z
    · subst z
      exact ⟨h, Int.le_refl _⟩
    · have := ((steep_eq G h).2 q e).2
      have := ih r z
      exact ⟨this.1, by omega⟩
theorem path_nd (G : Gr g w) : ∀ p, On g w p → (path g p).Nodup := by
  refine path_ind G (fun p h e => by rw [path_none e]; simp) fun p q h e hq ih => ?_
  rw [path_some G h e, List.nodup_cons]
  refine ⟨fun z => ?_, ih⟩
  have h1 := (path_on G q hq p z).2
  have h2 := ((steep_eq G h).2 q e).2
  omega
theorem path_len (G : Gr g w) : ∀ p, On g w p → (path g p).length ≤ (hgt g p).toNat + 1 := by
  refine path_ind G (fun p h e => by rw [path_none e]; simp) fun p q h e hq ih => ?_
  rw [path_some G h e, List.length_cons]
  have h1 := ((steep_eq G h).2 q e).2
  have h2 := (hgt_b G hq).1
  omega
/-- the last one -/
def fin (g : List (List Int)) (p : Int × Int) : Int × Int := (path g p).getLastD p
theorem path_last (G : Gr g w) : ∀ p, On g w p → (path g p).getLast? = some (fin g p) ∧ low g (fin g p) = none ∧ (∀ q ∈ path g p, low g q = none → q = fin g p) ∧ fin g p ∈ path g p := by
  refine path_ind G (fun p h e => ?_) fun p q h e hq ih => ?_
  · have : fin g p = p := by unfold fin; rw [path_none e]; rfl
    rw [this, path_none e]
    exact ⟨rfl, e, fun q hq _ => List.mem_singleton.mp hq, List.mem_singleton.mpr rfl⟩
  · obtain ⟨i1, i2, i3, i4⟩ := ih
    obtain ⟨t, ht⟩ := path_cons g q
    have ef : fin g p = fin g q := by
      unfold fin
      rw [path_some G h e, ht]
      simp [List.getLastD]
    rw [ef, path_some G h e]
    refine ⟨?_, i2, fun r hr er => ?_, List.mem_cons_of_mem _ i4⟩
    · rw [List.getLast?_cons, i1]
      rfl
    · rcases List.mem_cons.mp hr with z | z
      · subst z
        rw [e] at er
        cases er
      · exact i3 r z er
end
end K07
set_option Elab.async false
set_option linter.all false
set_option maxRecDepth 100000
set_option maxHeartbeats 4000000
open PySem PySem.W L2 Mir
namespace K07
noncomputable section
variable {g : List (List Int)} {w : Nat}
theorem at_last {α : Type} {xs : List α} {x : α} (h : xs.getLast? = some x) : atI xs (-1) = some x := at_neg1 (by rintro rfl; cases h) h
theorem raw_stream_ok (G : Gr g w) {p : Int × Int} (h : On g w p) : p_raw_stream g p = some (path g p) := by
  refine Ok.eq ?_
  have hb := hgt_b G h
  unfold p_raw_stream
  refine Ok.letO (Ok.bind (Ok.whO (fun m (s : List (Int × Int)) => ∃ d l, s = d ++ [l] ∧ On g w l ∧ d ++ path g l = path g p ∧ m = (hgt g l).toNat ∧ d.length + (hgt g l).toNat ≤ 1000) (fun s => s = path g p) wfuel (hgt g p).toNat _ (by unfold wfuel; omega) ⟨[], p, rfl, h, rfl, rfl, by simp; omega⟩ fun m s hs => ?_) fun s hs => Ok.some hs)
  obtain ⟨d, l, rfl, hl, hd, rfl, hn⟩ := hs
  have el : atI (d ++ [l]) (-1) = some l := at_last (by simp)
  obtain ⟨e1, e2⟩ := steep_eq G hl
  unfold p_raw_stream_c3 p_raw_stream_b2
  rw [el, bind_s, bind_s, e1, bind_s, bind_s]
  cases e : low g l with
  | none => exact .inl ⟨rfl, by rw [path_none e] at hd; exact hd⟩
  | some q =>
    obtain ⟨hq, hlt⟩ := e2 q e
    have b1 := hgt_b G hq
    rw [path_some G hl e] at hd
    refine .inr ⟨rfl, ?_⟩
    rw [bind_s]
    refine Ok.bind (Ok.app (P := fun x => x = (d ++ [l]) ++ [q]) (by rw [List.length_append, List.length_singleton]; omega) rfl) fun x ex => Ok.some ⟨(hgt g q).toNat, by omega, d ++ [l], q, ex, hq, by rw [List.append_assoc]; exact hd, rfl, by rw [List.length_append, List.length_singleton]; omega⟩
theorem law_stream_ok (G : Gr g w) {p : Int × Int} (h : On g w p) : p_law_stream g p = some (path g p) := by
  refine Ok.eq ?_
  have hb := hgt_b G h
  unfold p_law_stream
  refine Ok.letO (Ok.bindE ((lower_eq G p).trans (steep_eq G h).1) (Ok.bind (Ok.whO (fun m (s : List (Int × Int) × Option (Int × Int)) => ∃ d l, s = (d ++ [l], low g l) ∧ On g w l ∧ d ++ path g l = path g p ∧ m = (hgt g l).toNat ∧ d.length + (hgt g l).toNat ≤ 1000) (fun s => s.1 = path g p) wfuel (hgt g p).toNat _ (by unfold wfuel; omega) ⟨[], p, rfl, h, rfl, rfl, by simp; omega⟩ fun m s hs => ?_) fun s hs => Ok.some hs))
  obtain ⟨d, l, rfl, hl, hd, rfl, hn⟩ := hs
  obtain ⟨e1, e2⟩ := steep_eq G hl
  unfold p_law_stream_c3 p_law_stream_b2
  dsimp only
  cases e : low g l with
  | none => exact .inl ⟨rfl, by rw [path_none e] at hd; exact hd⟩
  | some q =>
    obtain ⟨hq, hlt⟩ := e2 q e
    have b1 := hgt_b G hq
    rw [path_some G hl e] at hd
    refine .inr ⟨rfl, ?_⟩
    rw [bind_s]
    refine Ok.bind (Ok.app (P := fun x => x = (d ++ [l]) ++ [q]) (by rw [List.length_append, List.length_singleton]; omega) rfl) fun x ex => ?_
    rw [bind_s, lower_eq G, (steep_eq G hq).1, bind_s]
    exact Ok.some ⟨(hgt g q).toNat, by omega, d ++ [l], q, by rw [ex], hq, by rw [List.append_assoc]; exact hd, rfl, by rw [List.length_append, List.length_singleton]; omega⟩
theorem stream_ok (G : Gr g w) {p : Int × Int} (h : On g w p) : p_stream g p = some (path g p) := by
  unfold p_stream
  rw [check_spot_ok G h, bind_s, raw_stream_ok G h]
  rfl
def isEnd (g : List (List Int)) (p : Int × Int) : Bool := (low g p).isNone
theorem ends_ok (G : Gr g w) : p_ends g = some ((SP g w).filter (isEnd g)) := by
  unfold p_ends
  rw [check_land_ok G, bind_s, all_ok G, bind_s, compO_eq (isEnd g) (fun p => p) _ fun q hq => ⟨by rw [(steep_eq G (mem_SP.mp hq)).1, bind_s]; rfl, fun _ => rfl⟩, bind_s, List.map_id']
theorem ends_at_ok (G : Gr g w) : p_ends_at g = some ((SP g w).map fun p => (p, fin g p)) := by
  unfold p_ends_at
  rw [check_land_ok G, bind_s, all_ok G, bind_s, mapO_eq (fun p => (p, fin g p)) _ fun q hq => by rw [raw_stream_ok G (mem_SP.mp hq), bind_s, at_last (path_last G q (mem_SP.mp hq)).1, bind_s], bind_s, dictE_map SP_nd]
/-! how much gathers -/
theorem inner_ok (G : Gr g w) : ∀ (l : List (Int × Int)) (f : Int × Int → Int), (∀ q ∈ l, q ∈ SP g w) → forO p_raw_gathered_b3 l ((SP g w).map fun p => (p, f p)) = some ((SP g w).map fun p => (p, f p + (l.count p : Int)))
  | [], f, _ => by simp [forO]
  | q :: l, f, h => by
    have hl := SP_len G
    rw [forO]
    unfold p_raw_gathered_b3
    rw [valE_map (h q List.mem_cons_self), bind_s, dputE_map (h q List.mem_cons_self) (by omega), bind_s, bind_s]
    have := inner_ok G l (fun p => if p = q then f q + 1 else f p) fun x hx => h x (List.mem_cons_of_mem _ hx)
    unfold p_raw_gathered_b3 at this
    rw [this]
    congr 1
    refine List.map_congr_left fun p _ => ?_
    congr 1
    rw [List.count_cons]
    by_cases e : p = q
    · subst e
      simp
      omega
    · have : ¬ q = p := fun z => e z.symm
      simp [e, this]
def cnt (g : List (List Int)) (ps : List (Int × Int)) (q : Int × Int) : Int := (ps.map fun p => ((path g p).count q : Int)).sum
theorem outer_ok (G : Gr g w) : ∀ (l : List (Int × Int)) (f : Int × Int → Int), (∀ q ∈ l, q ∈ SP g w) → forO (p_raw_gathered_b4 g) l ((SP g w).map fun p => (p, f p)) = some ((SP g w).map fun p => (p, f p + cnt g l p))
  | [], f, _ => by simp [forO, cnt]
  | q :: l, f, h => by
    have hq := mem_SP.mp (h q List.mem_cons_self)
    rw [forO]
    unfold p_raw_gathered_b4
    rw [raw_stream_ok G hq, bind_s, inner_ok G _ f fun x hx => mem_SP.mpr (path_on G q hq x hx).1, bind_s, bind_s]
    have := outer_ok G l (fun p => f p + ((path g q).count p : Int)) fun x hx => h x (List.mem_cons_of_mem _ hx)
    unfold p_raw_gathered_b4 at this
    rw [this]
    congr 1
    refine List.map_congr_left fun p _ => ?_
    congr 1
    unfold cnt
    rw [List.map_cons, List.sum_cons]
    omega
theorem gathered_ok (G : Gr g w) : p_gathered g = some ((SP g w).map fun p => (p, cnt g (SP g w) p)) := by
  unfold p_gathered p_raw_gathered letO
  rw [check_land_ok G, bind_s, all_ok G, bind_s]
  dsimp only
  rw [dictE_map SP_nd (F := fun _ => (0 : Int)), bind_s, outer_ok G (SP g w) (fun _ => 0) fun _ h => h, bind_s]
  simp
/-- each path counts once -/
theorem cnt_eq (G : Gr g w) : ∀ (l : List (Int × Int)), (∀ q ∈ l, q ∈ SP g w) → ∀ q, cnt g l q = ((l.filter fun p => memE q (path g p)).length : Int)
  | [], _, q => rfl
  | p :: l, h, q => by
    have ih := cnt_eq G l (fun x hx => h x (List.mem_cons_of_mem _ hx)) q
    have nd := path_nd G p (mem_SP.mp (h p List.mem_cons_self))
    unfold cnt at ih ⊢
    rw [List.map_cons, List.sum_cons, ih, List.filter_cons]
    by_cases e : q ∈ path g p
    · have h1 := List.nodup_iff_count.mp nd q
      have h2 := List.count_pos_iff.mpr e
      have h3 : (path g p).count q = 1 := by omega
      rw [h3, if_pos (memE_iff.mpr e), List.length_cons]
      omega
    · rw [List.count_eq_zero_of_not_mem e, if_neg (by rw [memE_iff]; exact e)]
      omega
end
end K07
set_option Elab.async false
set_option linter.all false
set_option maxRecDepth 100000
set_option maxHeartbeats 4000000
open PySem PySem.W L2 Mir
namespace K07
noncomputable section
variable {g : List (List Int)} {w : Nat}
theorem lPP {p : Int × Int} (h : On g w p) (G : Gr g w) : wsz (eP eI eI p) ≤ 137 := by
  obtain ⟨a1, a2, a3, a4⟩ := h
  have h2 := G.h2
  have w2 := G.w2
  exact wsz_P (a := 65) (b := 65) (wsz_I (by omega)) (wsz_I (by omega))
theorem path_len2 (G : Gr g w) {p : Int × Int} (h : On g w p) : (path g p).length ≤ 1001 := by
  have h1 := path_len G p h
  have h2 := hgt_b G h
  omega
theorem repr_two (G : Gr g w) {p : Int × Int} (h : On g w p) : ∃ x, reprO ((eL (eT (eP eI eI))) ([path g p, path g p] : List (List (Int × Int)))) = some x :=
  repr_E (eL (eT (eP eI eI))) _ (wsz_L (a := 139142) (n := 2) (fun x hx => by
    have : x = path g p := by simpa using hx
    subst this
    exact wsz_T (a := 137) (n := 1001) (fun q hq => lPP (path_on G p h q hq).1 G) (path_len2 G h)) (by simp)) (by decide) rfl
theorem repr_spots (G : Gr g w) (c : Int × Int → Bool) : ∃ x, reprO ((eT (eP eI eI)) ((SP g w).filter c)) = some x :=
  repr_E (eT (eP eI eI)) _ (wsz_T (a := 137) (n := 64) (fun q hq => lPP (mem_SP.mp (List.mem_filter.mp hq).1) G) (Nat.le_trans (List.length_filter_le _ _) (SP_len G))) (by decide) rfl
theorem cut1 {α : Type} (xs : List α) : cutG xs (some (1 : Int)) none = xs.drop 1 := cut_from (k := 1) rfl
theorem falls (G : Gr g w) : ∀ p, On g w p → List.all (List.map (fun (y : Int × Int) => decide (y.2 < y.1)) (List.zip ((path g p).map (hgt g)) (((path g p).map (hgt g)).drop 1))) id = true := by
  refine path_ind G (fun p h e => by rw [path_none e]; rfl) fun p q h e hq ih => ?_
  obtain ⟨t, ht⟩ := path_cons g q
  rw [path_some G h e]
  have hl := ((steep_eq G h).2 q e).2
  rw [ht] at ih ⊢
  simp only [List.map_cons, List.drop_succ_cons, List.drop_zero, List.zip_cons_cons, List.all_cons, id] at ih ⊢
  rw [decide_eq_true hl, Bool.true_and]
  exact ih
theorem turn_ok (G : Gr g w) {p : Int × Int} (h : p ∈ SP g w) : p_law_is_right_b2 g ((SP g w).map fun p => (p, path g p)) () p = some (.go ()) := by
  have ho := mem_SP.mp h
  have hl := path_len2 G ho
  have hv : valE (dictE ((SP g w).map fun p => (p, path g p))) p = some (path g p) := by rw [dictE_map SP_nd]; exact valE_map h
  obtain ⟨x, hx⟩ := repr_two G ho
  refine Ok.eq ?_
  unfold p_law_is_right_b2
  refine Ok.bindE (stream_ok G ho) (Ok.bindE (stream_ok G ho) (Ok.bindE hx (Ok.bindE hv (Ok.bindE hv (Ok.bindE hx (Ok.f (by simp) (Ok.bindE hv (Ok.bind (P := fun x => x = (path g p).map (hgt g)) (Ok.mapO (hgt g) (fun q hq => by rw [law_high_ok G (path_on G p ho q hq).1]; rfl) rfl) fun x ex => ?_))))))))
  subst ex
  rw [cut1]
  refine Ok.bind (Ok.len (P := fun _ => True) (by rw [List.length_zip, List.length_map]; omega) trivial) fun _ _ => Ok.f (by rw [falls G p ho]; rfl) (Ok.bindE hv (Ok.bind (P := fun c => c = false) (Ok.and (fun c => ?_) fun _ => rfl) fun c hc => Ok.f hc (Ok.some rfl)))
  have c := of_decide_eq_true c
  refine Ok.bindE hv ?_
  cases e : low g p with
  | none => rw [path_none e] at c; simp at c
  | some q =>
    have hq := ((steep_eq G ho).2 q e).1
    obtain ⟨t, ht⟩ := path_cons g q
    refine Ok.bindE (a := q) (at_get (k := 1) rfl (by rw [path_some G ho e, ht]; rfl)) (Ok.bindE (stream_ok G hq) (Ok.bindE hv (Ok.some ?_)))
    rw [cut1, path_some G ho e]
    simp
theorem end_len (G : Gr g w) {p : Int × Int} (h : On g w p) : decide (((List.length (path g p) : Nat) : Int) = 1) = isEnd g p := by
  unfold isEnd
  cases e : low g p with
  | none => rw [path_none e]; rfl
  | some q =>
    obtain ⟨t, ht⟩ := path_cons g q
    rw [path_some G h e, ht]
    simp
    omega
theorem sum_ind (G : Gr g w) : ∀ (l : List (Int × Int)), (∀ q ∈ l, q ∈ SP g w) → (((SP g w).filter (isEnd g)).map (cnt g l)).sum = (l.length : Int) := by
  intro l hl
  have key : ∀ (es : List (Int × Int)) (p : Int × Int), (es.map fun e => ((path g p).count e : Int)).sum = ((es.filter fun e => decide (e ∈ path g p)).map fun e => ((path g p).count e : Int)).sum := by
    intro es p
    induction es with
    | nil => rfl
    | cons e es ih =>
      rw [List.map_cons, List.sum_cons, List.filter_cons, ih]
      by_cases h : e ∈ path g p
      · rw [if_pos (decide_eq_true h), List.map_cons, List.sum_cons]
      · rw [if_neg (by simpa using h), List.count_eq_zero_of_not_mem h]
        simp
  induction l with
  | nil =>
    have : ∀ es : List (Int × Int), (es.map (cnt g [])).sum = 0 := by
      intro es
      induction es with
      | nil => rfl
      | cons e es ih => rw [List.map_cons, List.sum_cons, ih]; rfl
    rw [this]
    rfl
  | cons p l ih =>
    have hp := hl p List.mem_cons_self
    have ho := mem_SP.mp hp
    have ih := ih fun x hx => hl x (List.mem_cons_of_mem _ hx)
    have split : ∀ es : List (Int × Int), (es.map (cnt g (p :: l))).sum = (es.map fun e => ((path g p).count e : Int)).sum + (es.map (cnt g l)).sum := by
      intro es
      induction es with
      | nil => rfl
      | cons e es ih2 =>
        simp only [List.map_cons, List.sum_cons]
        rw [ih2]
        unfold cnt
        rw [List.map_cons, List.sum_cons]
        omega
    rw [split, ih, key]
    obtain ⟨h1, h2, h3, h4⟩ := path_last G p ho
    have ef : ((SP g w).filter (isEnd g)).filter (fun e => decide (e ∈ path g p)) = [fin g p] := by
      have nd : (((SP g w).filter (isEnd g)).filter (fun e => decide (e ∈ path g p))).Nodup := (SP_nd.filter _).filter _
      have mem : ∀ x, x ∈ ((SP g w).filter (isEnd g)).filter (fun e => decide (e ∈ path g p)) ↔ x = fin g p := by
        intro x
        rw [List.mem_filter, List.mem_filter, decide_eq_true_eq]
        constructor
        · rintro ⟨⟨_, a2⟩, a3⟩
          exact h3 x a3 (Option.isNone_iff_eq_none.mp a2)
        · rintro rfl
          exact ⟨⟨mem_SP.mpr (path_on G p ho _ h4).1, by unfold isEnd; rw [h2]; rfl⟩, h4⟩
      generalize ((SP g w).filter (isEnd g)).filter (fun e => decide (e ∈ path g p)) = L at nd mem
      cases L with
      | nil => exact absurd ((mem _).mpr rfl) (by simp)
      | cons a L =>
        have ha : a = fin g p := (mem a).mp List.mem_cons_self
        cases L with
        | nil => rw [ha]
        | cons b L =>
          have hb : b = fin g p := (mem b).mp (by simp)
          rw [ha, hb] at nd
          simp at nd
    have h5 := List.nodup_iff_count.mp (path_nd G p ho) (fin g p)
    have h6 := List.count_pos_iff.mpr h4
    have h7 : (path g p).count (fin g p) = 1 := by omega
    rw [ef]
    simp only [List.map_cons, List.map_nil, List.sum_cons, List.sum_nil, List.length_cons]
    rw [h7]
    omega
theorem keep (xs : List (Int × Int)) (k : Int) : List.all (xs.map fun _ => true) id = true := by
  rw [List.all_map]
  exact List.all_eq_true.mpr fun _ _ => rfl
theorem is_right_ok (G : Gr g w) : p_law_is_right g = some true := by
  have hl := SP_len G
  have hd : dictE ((SP g w).map fun p => (p, path g p)) = (SP g w).map fun p => (p, path g p) := dictE_map SP_nd
  have hv : ∀ p, p ∈ SP g w → valE ((SP g w).map fun p => (p, path g p)) p = some (path g p) := fun p h => valE_map h
  obtain ⟨x, hx⟩ := repr_spots G (isEnd g)
  refine Ok.eq ?_
  unfold p_law_is_right
  refine Ok.bindE (spots_ok G) (Ok.bind (P := fun ys => ys = (SP g w).map fun p => (p, path g p)) (Ok.mapO (fun p => (p, path g p)) (fun p hp => by rw [law_stream_ok G (mem_SP.mp hp)]; rfl) rfl) fun ys e => ?_)
  subst e
  refine Ok.bindE (list_eq (by rw [List.length_map]; omega)) (Ok.bind (Ok.forC (fun _ => True) (s := ()) trivial fun p s hp _ => ⟨_, turn_ok G hp, (), rfl, trivial⟩) fun c hc => ?_)
  obtain ⟨s, rfl, _⟩ := hc
  dsimp only
  rw [hd]
  refine Ok.bind (P := fun ys => ys = (SP g w).filter (isEnd g)) (Ok.compO (isEnd g) (fun p => p) (fun p hp => ⟨by rw [hv p hp, bind_s, end_len G (mem_SP.mp hp)], fun _ => rfl⟩) (List.map_id' _)) fun ys e => ?_
  subst e
  refine Ok.bindE (ends_ok G) (Ok.bindE hx (Ok.bindE hx (Ok.f (by simp) (Ok.bindE (ends_at_ok G) (Ok.bindE (gathered_ok G) (Ok.bind (P := fun ys => ys = (SP g w).map fun p => (p, fin g p)) (Ok.mapO (fun p => (p, fin g p)) (fun p hp => by rw [hv p hp, bind_s, at_last (path_last G p (mem_SP.mp hp)).1]; rfl) rfl) fun ys e => ?_))))))
  subst e
  refine Ok.bindE (list_eq (by rw [List.length_map]; omega)) (Ok.bind (P := fun ys => ys = (SP g w).map fun q => (q, cnt g (SP g w) q)) (Ok.mapO (fun q => (q, cnt g (SP g w) q)) (fun q hq => ?_) rfl) fun ys e => ?_)
  · rw [compO_eq (fun p => memE q (path g p)) (fun _ => (1 : Int)) _ fun p hp => ⟨by rw [hv p hp]; rfl, fun _ => rfl⟩, bind_s, List.length_map, cnt_eq G (SP g w) fun _ h => h]
  subst e
  rw [dictE_map SP_nd, dictE_map SP_nd]
  refine Ok.bindE (list_eq (by rw [List.length_map]; omega)) (Ok.bind (P := fun c => c = false) (Ok.or (fun _ => Ok.bind (P := fun c => c = false) (Ok.or (fun _ => ?_) fun z => by rw [eqME_map] at z; cases z) fun c e => Ok.some e) fun z => by rw [eqME_map] at z; cases z) fun c hc => Ok.f hc ?_)
  · rw [keysE_map]
    refine Ok.bind (P := fun ys => ys = (SP g w).map fun _ => true) (Ok.mapO (fun _ => true) (fun q hq => by rw [valE_map hq]; rfl) rfl) fun ys e => Ok.some ?_
    rw [e, keep _ 0]
    rfl
  · refine Ok.bind (P := fun ys => ys = ((SP g w).filter (isEnd g)).map (cnt g (SP g w))) (Ok.mapO (cnt g (SP g w)) (fun q hq => by rw [valE_map (List.mem_filter.mp hq).1]; rfl) rfl) fun ys e => ?_
    subst e
    refine Ok.f (by rw [sum_ind G _ fun _ h => h]; simp) (Ok.bindE (room_eq (by rw [List.length_map]; omega)) (Ok.bindE (room_eq (by rw [List.length_map]; omega)) (Ok.bindE (ends_at_ok G) (Ok.bind (P := fun c => c = true) (Ok.and (fun _ => Ok.bindE (gathered_ok G) (Ok.some (eqME_map _))) fun z => by rw [eqME_map] at z; cases z) fun c hc => Ok.some hc))))
end
end K07
set_option Elab.async false
set_option linter.all false
set_option maxRecDepth 100000
set_option maxHeartbeats 4000000
open PySem PySem.W L2 Mir
namespace K07
noncomputable section
theorem law_true (ns : List Int) : p_law ns = some true := by
  refine Ok.eq (Ok.mono (P := fun b => b = true) ?_ fun a h => h)
  unfold p_law
  refine Ok.bind (P := HOk) ?_ fun h0 H0 => ?_
  · unfold p_law_hand
    refine Ok.letO (Ok.some ⟨fun x hx => ?_, Int.le_refl 0, Int.le_refl 0⟩)
    obtain ⟨y, _, rfl⟩ := List.mem_map.mp hx
    have := abs_cases y
    omega
  have k1 : p_stream [[3, 2, 3], [4, 1, 2], [0, 5, 6]] (0, 0) = some [(0, 0), (0, 1), (1, 1)] := by decide +kernel
  have k2 : p_ends [[3, 2, 3], [4, 1, 2], [0, 5, 6]] = some [(1, 1), (2, 0)] := by decide +kernel
  have k3 : p_stream [[3, 2, 3], [4, 1, 2], [0, 5, 6]] (1, 0) = some [(1, 0), (2, 0)] := by decide +kernel
  have k4 : (p_gathered [[3, 2, 3], [4, 1, 2], [0, 5, 6]]).bind (fun r => valE r (1, 1)) = some 6 := by decide +kernel
  have k5 : (p_gathered [[3, 2, 3], [4, 1, 2], [0, 5, 6]]).bind (fun r => valE r (2, 0)) = some 3 := by decide +kernel
  have k6 : p_stream [[2, 2]] (0, 1) = some [(0, 1)] := by decide +kernel
  have k7 : p_ends [[1, 1], [1, 1]] = some [(0, 0), (0, 1), (1, 0), (1, 1)] := by decide +kernel
  obtain ⟨r, er, e4⟩ : ∃ r, p_gathered [[3, 2, 3], [4, 1, 2], [0, 5, 6]] = some r ∧ valE r (1, 1) = some 6 := by
    cases e : p_gathered [[3, 2, 3], [4, 1, 2], [0, 5, 6]] with
    | none => rw [e] at k4; cases k4
    | some r => rw [e] at k4; exact ⟨r, rfl, k4⟩
  have e5 : valE r (2, 0) = some 3 := by rw [er] at k5; exact k5
  refine Ok.letO (Ok.bindE k1 (Ok.bindE (a := false) (by rw [k2]; rfl) (Ok.f rfl (Ok.bindE k3 (Ok.bindE (a := false) (by rw [er, bind_s, e4, bind_s, bind_s, e5]; rfl) (Ok.f rfl (Ok.bindE k6 (Ok.bindE (a := false) (by rw [k7]; rfl) (Ok.f rfl ?_)))))))))
  refine Ok.bind (Ok.rng (P := fun _ => True) (by decide) trivial) fun xs _ => Ok.bind (Ok.mapS HOk (fun b : Bool => b = true) H0 fun s y _ hs => ?_) fun q hq => ?_
  · refine Ok.bind (land_drawn hs (m := 5) (by decide)) fun r19 h19 => ?_
    obtain ⟨H19, _, w, _, G⟩ := h19
    exact Ok.bindE (is_right_ok G) (Ok.some ⟨H19, rfl⟩)
  · refine Ok.some ?_
    exact List.all_eq_true.mpr fun b hb => hq.2.2 b hb
end
end K07
namespace K07
open PySem L2 Mir PySem.W PyProof.Rows
theorem plain : ∀ ns : List Int, ns.length ≤ 63 → evalCall P 10 "law" [.d (scrD ns)] = .ok (.d (.bool true)) [] := fun ns _ => (callP_eq _ _ _ _).symm.trans (r_law 0 ns true (law_true ns))
theorem all_mk {l : PySem.W.OpenLaw} {w : World} {K : PySem.W.Frag} {h : Heap} {mg : Str → Option Value} {fa : Addr} (X : K.In h) (G : h.Ns mainGlobals mg) (hfa : mg "law" = some (.ref fa))
    {f0 f1 f2 f3 f4 f5 f6 f7 f8 f9 f10 f11 f12 f13 f14 f15 f16 f17 f18 f19 f20 f21 f22 f23 f24 f25 f26 f27 f28 f29 f30 f31 f32 : Addr}
    {od0 an0 od1 an1 od2 an2 od3 an3 od4 an4 od5 an5 od6 an6 od7 an7 od8 an8 od9 an9 od10 an10 od11 an11 od12 an12 od13 an13 od14 an14 od15 an15 od16 an16 od17 an17 od18 an18 od19 an19 od20 an20 od21 an21 od22 an22 od23 an23 od24 an24 od25 an25 od26 an26 od27 an27 od28 an28 od29 an29 od30 an30 od31 an31 od32 an32 : Option Addr}
    {sl0 sl1 sl2 sl3 sl4 sl5 sl6 sl7 sl8 sl9 sl10 sl11 sl12 sl13 sl14 sl15 sl16 sl17 sl18 sl19 sl20 sl21 sl22 sl23 sl24 sl25 sl26 sl27 sl28 sl29 sl30 sl31 sl32 : Array (Option Value)}
    {oc0 kV0 dc0 pm0 cd0 ct0 oc1 kV1 dc1 pm1 cd1 ct1 oc2 kV2 dc2 pm2 cd2 ct2 oc3 kV3 dc3 pm3 cd3 ct3 oc4 kV4 dc4 pm4 cd4 ct4 oc5 kV5 dc5 pm5 cd5 ct5 oc6 kV6 dc6 pm6 cd6 ct6 oc7 kV7 dc7 pm7 cd7 ct7 oc8 kV8 dc8 pm8 cd8 ct8 oc9 kV9 dc9 pm9 cd9 ct9 oc10 kV10 dc10 pm10 cd10 ct10 oc11 kV11 dc11 pm11 cd11 ct11 oc12 kV12 dc12 pm12 cd12 ct12 oc13 kV13 dc13 pm13 cd13 ct13 oc14 kV14 dc14 pm14 cd14 ct14 oc15 kV15 dc15 pm15 cd15 ct15 oc16 kV16 dc16 pm16 cd16 ct16 oc17 kV17 dc17 pm17 cd17 ct17 oc18 kV18 dc18 pm18 cd18 ct18 oc19 kV19 dc19 pm19 cd19 ct19 oc20 kV20 dc20 pm20 cd20 ct20 oc21 kV21 dc21 pm21 cd21 ct21 oc22 kV22 dc22 pm22 cd22 ct22 oc23 kV23 dc23 pm23 cd23 ct23 oc24 kV24 dc24 pm24 cd24 ct24 oc25 kV25 dc25 pm25 cd25 ct25 oc26 kV26 dc26 pm26 cd26 ct26 oc27 kV27 dc27 pm27 cd27 ct27 oc28 kV28 dc28 pm28 cd28 ct28 oc29 kV29 dc29 pm29 cd29 ct29 oc30 kV30 dc30 pm30 cd30 ct30 oc31 kV31 dc31 pm31 cd31 ct31 oc32 kV32 dc32 pm32 cd32 ct32 : Value}
    {tk0 : Tok}
    {tk1 : Tok}
    {ta2_0 : Addr} {tn2_0 : Nat} {td2_0 : Option Addr} {ts2_0 : Array (Option Value)}
    {ta2_1 : Addr} {tn2_1 : Nat} {td2_1 : Option Addr} {ts2_1 : Array (Option Value)}
    {tt2_2 : Tok}
    {tt2_3 : Tok}
    {ta2_4 : Addr} {tn2_4 : Nat} {td2_4 : Option Addr} {ts2_4 : Array (Option Value)}
    {tt2_5 : Tok}
    {tt2_6 : Tok}
    {ta2_7 : Addr} {tn2_7 : Nat} {td2_7 : Option Addr} {ts2_7 : Array (Option Value)}
    {tt2_8 : Tok}
    {tt2_9 : Tok}
    {ta2_10 : Addr} {tn2_10 : Nat} {td2_10 : Option Addr} {ts2_10 : Array (Option Value)}
    {tt2_11 : Tok}
    {tt2_12 : Tok}
    (a0 : PySem.W.nsIn K mainGlobals "is_integer" = some (some (.ref f0)))
    (l0 : K.lookup f0 = some ⟨oc0, od0, .func (PySem.W.fnOf "is_integer" "is_integer" (defArgs (top 1)) (defBody (top 1)) (defScope (top 1)) .none kV0 dc0 pm0 an0 cd0 ct0), sl0⟩)
    (c0 : PySem.W.codeIn K cd0 "is_integer" = true) (k0 : PySem.W.keepIn K (.ref f0) = true)
    (a1 : PySem.W.nsIn K mainGlobals "is_within" = some (some (.ref f1)))
    (l1 : K.lookup f1 = some ⟨oc1, od1, .func (PySem.W.fnOf "is_within" "is_within" (defArgs (top 2)) (defBody (top 2)) (defScope (top 2)) .none kV1 dc1 pm1 an1 cd1 ct1), sl1⟩)
    (c1 : PySem.W.codeIn K cd1 "is_within" = true) (k1 : PySem.W.keepIn K (.ref f1) = true)
    (a2 : PySem.W.nsIn K mainGlobals "is_tuple_of" = some (some (.ref f2)))
    (l2 : K.lookup f2 = some ⟨oc2, od2, .func (PySem.W.fnOf "is_tuple_of" "is_tuple_of" (defArgs (top 3)) (defBody (top 3)) (defScope (top 3)) .none kV2 dc2 pm2 an2 cd2 ct2), sl2⟩)
    (c2 : PySem.W.codeIn K cd2 "is_tuple_of" = true) (k2 : PySem.W.keepIn K (.ref f2) = true)
    (a3 : PySem.W.nsIn K mainGlobals "is_height" = some (some (.ref f3)))
    (l3 : K.lookup f3 = some ⟨oc3, od3, .func (PySem.W.fnOf "is_height" "is_height" (defArgs (top 12)) (defBody (top 12)) (defScope (top 12)) .none kV3 dc3 pm3 an3 cd3 ct3), sl3⟩)
    (c3 : PySem.W.codeIn K cd3 "is_height" = true) (k3 : PySem.W.keepIn K (.ref f3) = true)
    (a4 : PySem.W.nsIn K mainGlobals "is_row" = some (some (.ref f4)))
    (l4 : K.lookup f4 = some ⟨oc4, od4, .func (PySem.W.fnOf "is_row" "is_row" (defArgs (top 13)) (defBody (top 13)) (defScope (top 13)) .none kV4 dc4 pm4 an4 cd4 ct4), sl4⟩)
    (c4 : PySem.W.codeIn K cd4 "is_row" = true) (k4 : PySem.W.keepIn K (.ref f4) = true)
    (a5 : PySem.W.nsIn K mainGlobals "is_land" = some (some (.ref f5)))
    (l5 : K.lookup f5 = some ⟨oc5, od5, .func (PySem.W.fnOf "is_land" "is_land" (defArgs (top 14)) (defBody (top 14)) (defScope (top 14)) .none kV5 dc5 pm5 an5 cd5 ct5), sl5⟩)
    (c5 : PySem.W.codeIn K cd5 "is_land" = true) (k5 : PySem.W.keepIn K (.ref f5) = true)
    (a6 : PySem.W.nsIn K mainGlobals "check_land" = some (some (.ref f6)))
    (l6 : K.lookup f6 = some ⟨oc6, od6, .func (PySem.W.fnOf "check_land" "check_land" (defArgs (top 15)) (defBody (top 15)) (defScope (top 15)) .none kV6 dc6 pm6 an6 cd6 ct6), sl6⟩)
    (c6 : PySem.W.codeIn K cd6 "check_land" = true) (k6 : PySem.W.keepIn K (.ref f6) = true)
    (a7 : PySem.W.nsIn K mainGlobals "is_spot_of" = some (some (.ref f7)))
    (l7 : K.lookup f7 = some ⟨oc7, od7, .func (PySem.W.fnOf "is_spot_of" "is_spot_of" (defArgs (top 16)) (defBody (top 16)) (defScope (top 16)) .none kV7 dc7 pm7 an7 cd7 ct7), sl7⟩)
    (c7 : PySem.W.codeIn K cd7 "is_spot_of" = true) (k7 : PySem.W.keepIn K (.ref f7) = true)
    (a8 : PySem.W.nsIn K mainGlobals "check_spot" = some (some (.ref f8)))
    (l8 : K.lookup f8 = some ⟨oc8, od8, .func (PySem.W.fnOf "check_spot" "check_spot" (defArgs (top 17)) (defBody (top 17)) (defScope (top 17)) .none kV8 dc8 pm8 an8 cd8 ct8), sl8⟩)
    (c8 : PySem.W.codeIn K cd8 "check_spot" = true) (k8 : PySem.W.keepIn K (.ref f8) = true)
    (a9 : PySem.W.nsIn K mainGlobals "height_of" = some (some (.ref f9)))
    (l9 : K.lookup f9 = some ⟨oc9, od9, .func (PySem.W.fnOf "height_of" "height_of" (defArgs (top 18)) (defBody (top 18)) (defScope (top 18)) .none kV9 dc9 pm9 an9 cd9 ct9), sl9⟩)
    (c9 : PySem.W.codeIn K cd9 "height_of" = true) (k9 : PySem.W.keepIn K (.ref f9) = true)
    (a10 : PySem.W.nsIn K mainGlobals "all_spots" = some (some (.ref f10)))
    (l10 : K.lookup f10 = some ⟨oc10, od10, .func (PySem.W.fnOf "all_spots" "all_spots" (defArgs (top 19)) (defBody (top 19)) (defScope (top 19)) .none kV10 dc10 pm10 an10 cd10 ct10), sl10⟩)
    (c10 : PySem.W.codeIn K cd10 "all_spots" = true) (k10 : PySem.W.keepIn K (.ref f10) = true)
    (a11 : PySem.W.nsIn K mainGlobals "is_on_land" = some (some (.ref f11)))
    (l11 : K.lookup f11 = some ⟨oc11, od11, .func (PySem.W.fnOf "is_on_land" "is_on_land" (defArgs (top 20)) (defBody (top 20)) (defScope (top 20)) .none kV11 dc11 pm11 an11 cd11 ct11), sl11⟩)
    (c11 : PySem.W.codeIn K cd11 "is_on_land" = true) (k11 : PySem.W.keepIn K (.ref f11) = true)
    (a12 : PySem.W.nsIn K mainGlobals "stepped" = some (some (.ref f12)))
    (l12 : K.lookup f12 = some ⟨oc12, od12, .func (PySem.W.fnOf "stepped" "stepped" (defArgs (top 21)) (defBody (top 21)) (defScope (top 21)) .none kV12 dc12 pm12 an12 cd12 ct12), sl12⟩)
    (c12 : PySem.W.codeIn K cd12 "stepped" = true) (k12 : PySem.W.keepIn K (.ref f12) = true)
    (a13 : PySem.W.nsIn K mainGlobals "spots_beside" = some (some (.ref f13)))
    (l13 : K.lookup f13 = some ⟨oc13, od13, .func (PySem.W.fnOf "spots_beside" "spots_beside" (defArgs (top 22)) (defBody (top 22)) (defScope (top 22)) .none kV13 dc13 pm13 an13 cd13 ct13), sl13⟩)
    (c13 : PySem.W.codeIn K cd13 "spots_beside" = true) (k13 : PySem.W.keepIn K (.ref f13) = true)
    (a14 : PySem.W.nsIn K mainGlobals "raw_steepest" = some (some (.ref f14)))
    (l14 : K.lookup f14 = some ⟨oc14, od14, .func (PySem.W.fnOf "raw_steepest" "raw_steepest" (defArgs (top 24)) (defBody (top 24)) (defScope (top 24)) .none kV14 dc14 pm14 an14 cd14 ct14), sl14⟩)
    (c14 : PySem.W.codeIn K cd14 "raw_steepest" = true) (k14 : PySem.W.keepIn K (.ref f14) = true)
    (a15 : PySem.W.nsIn K mainGlobals "raw_stream" = some (some (.ref f15)))
    (l15 : K.lookup f15 = some ⟨oc15, od15, .func (PySem.W.fnOf "raw_stream" "raw_stream" (defArgs (top 26)) (defBody (top 26)) (defScope (top 26)) .none kV15 dc15 pm15 an15 cd15 ct15), sl15⟩)
    (c15 : PySem.W.codeIn K cd15 "raw_stream" = true) (k15 : PySem.W.keepIn K (.ref f15) = true)
    (a16 : PySem.W.nsIn K mainGlobals "stream" = some (some (.ref f16)))
    (l16 : K.lookup f16 = some ⟨oc16, od16, .func (PySem.W.fnOf "stream" "stream" (defArgs (top 27)) (defBody (top 27)) (defScope (top 27)) .none kV16 dc16 pm16 an16 cd16 ct16), sl16⟩)
    (c16 : PySem.W.codeIn K cd16 "stream" = true) (k16 : PySem.W.keepIn K (.ref f16) = true)
    (a17 : PySem.W.nsIn K mainGlobals "ends" = some (some (.ref f17)))
    (l17 : K.lookup f17 = some ⟨oc17, od17, .func (PySem.W.fnOf "ends" "ends" (defArgs (top 28)) (defBody (top 28)) (defScope (top 28)) .none kV17 dc17 pm17 an17 cd17 ct17), sl17⟩)
    (c17 : PySem.W.codeIn K cd17 "ends" = true) (k17 : PySem.W.keepIn K (.ref f17) = true)
    (a18 : PySem.W.nsIn K mainGlobals "ends_at" = some (some (.ref f18)))
    (l18 : K.lookup f18 = some ⟨oc18, od18, .func (PySem.W.fnOf "ends_at" "ends_at" (defArgs (top 29)) (defBody (top 29)) (defScope (top 29)) .none kV18 dc18 pm18 an18 cd18 ct18), sl18⟩)
    (c18 : PySem.W.codeIn K cd18 "ends_at" = true) (k18 : PySem.W.keepIn K (.ref f18) = true)
    (a19 : PySem.W.nsIn K mainGlobals "raw_gathered" = some (some (.ref f19)))
    (l19 : K.lookup f19 = some ⟨oc19, od19, .func (PySem.W.fnOf "raw_gathered" "raw_gathered" (defArgs (top 30)) (defBody (top 30)) (defScope (top 30)) .none kV19 dc19 pm19 an19 cd19 ct19), sl19⟩)
    (c19 : PySem.W.codeIn K cd19 "raw_gathered" = true) (k19 : PySem.W.keepIn K (.ref f19) = true)
    (a20 : PySem.W.nsIn K mainGlobals "gathered" = some (some (.ref f20)))
    (l20 : K.lookup f20 = some ⟨oc20, od20, .func (PySem.W.fnOf "gathered" "gathered" (defArgs (top 31)) (defBody (top 31)) (defScope (top 31)) .none kV20 dc20 pm20 an20 cd20 ct20), sl20⟩)
    (c20 : PySem.W.codeIn K cd20 "gathered" = true) (k20 : PySem.W.keepIn K (.ref f20) = true)
    (a21 : PySem.W.nsIn K mainGlobals "_law_hand" = some (some (.ref f21)))
    (l21 : K.lookup f21 = some ⟨oc21, od21, .func (PySem.W.fnOf "_law_hand" "_law_hand" (defArgs (top 33)) (defBody (top 33)) (defScope (top 33)) .none kV21 dc21 pm21 an21 cd21 ct21), sl21⟩)
    (c21 : PySem.W.codeIn K cd21 "_law_hand" = true) (k21 : PySem.W.keepIn K (.ref f21) = true)
    (a22 : PySem.W.nsIn K mainGlobals "_law_draw" = some (some (.ref f22)))
    (l22 : K.lookup f22 = some ⟨oc22, od22, .func (PySem.W.fnOf "_law_draw" "_law_draw" (defArgs (top 34)) (defBody (top 34)) (defScope (top 34)) .none kV22 dc22 pm22 an22 cd22 ct22), sl22⟩)
    (c22 : PySem.W.codeIn K cd22 "_law_draw" = true) (k22 : PySem.W.keepIn K (.ref f22) = true)
    (a23 : PySem.W.nsIn K mainGlobals "_law_some" = some (some (.ref f23)))
    (l23 : K.lookup f23 = some ⟨oc23, od23, .func (PySem.W.fnOf "_law_some" "_law_some" (defArgs (top 35)) (defBody (top 35)) (defScope (top 35)) .none kV23 dc23 pm23 an23 cd23 ct23), sl23⟩)
    (c23 : PySem.W.codeIn K cd23 "_law_some" = true) (k23 : PySem.W.keepIn K (.ref f23) = true)
    (a24 : PySem.W.nsIn K mainGlobals "_law_is_int" = some (some (.ref f24)))
    (l24 : K.lookup f24 = some ⟨oc24, od24, .func (PySem.W.fnOf "_law_is_int" "_law_is_int" (defArgs (top 36)) (defBody (top 36)) (defScope (top 36)) .none kV24 dc24 pm24 an24 cd24 ct24), sl24⟩)
    (c24 : PySem.W.codeIn K cd24 "_law_is_int" = true) (k24 : PySem.W.keepIn K (.ref f24) = true)
    (a25 : PySem.W.nsIn K mainGlobals "_law_land" = some (some (.ref f25)))
    (l25 : K.lookup f25 = some ⟨oc25, od25, .func (PySem.W.fnOf "_law_land" "_law_land" (defArgs (top 37)) (defBody (top 37)) (defScope (top 37)) .none kV25 dc25 pm25 an25 cd25 ct25), sl25⟩)
    (c25 : PySem.W.codeIn K cd25 "_law_land" = true) (k25 : PySem.W.keepIn K (.ref f25) = true)
    (a26 : PySem.W.nsIn K mainGlobals "_law_spots" = some (some (.ref f26)))
    (l26 : K.lookup f26 = some ⟨oc26, od26, .func (PySem.W.fnOf "_law_spots" "_law_spots" (defArgs (top 38)) (defBody (top 38)) (defScope (top 38)) .none kV26 dc26 pm26 an26 cd26 ct26), sl26⟩)
    (c26 : PySem.W.codeIn K cd26 "_law_spots" = true) (k26 : PySem.W.keepIn K (.ref f26) = true)
    (a27 : PySem.W.nsIn K mainGlobals "_law_high" = some (some (.ref f27)))
    (l27 : K.lookup f27 = some ⟨oc27, od27, .func (PySem.W.fnOf "_law_high" "_law_high" (defArgs (top 39)) (defBody (top 39)) (defScope (top 39)) .none kV27 dc27 pm27 an27 cd27 ct27), sl27⟩)
    (c27 : PySem.W.codeIn K cd27 "_law_high" = true) (k27 : PySem.W.keepIn K (.ref f27) = true)
    (a28 : PySem.W.nsIn K mainGlobals "_law_next_to" = some (some (.ref f28)))
    (l28 : K.lookup f28 = some ⟨oc28, od28, .func (PySem.W.fnOf "_law_next_to" "_law_next_to" (defArgs (top 40)) (defBody (top 40)) (defScope (top 40)) .none kV28 dc28 pm28 an28 cd28 ct28), sl28⟩)
    (c28 : PySem.W.codeIn K cd28 "_law_next_to" = true) (k28 : PySem.W.keepIn K (.ref f28) = true)
    (a29 : PySem.W.nsIn K mainGlobals "_law_lower" = some (some (.ref f29)))
    (l29 : K.lookup f29 = some ⟨oc29, od29, .func (PySem.W.fnOf "_law_lower" "_law_lower" (defArgs (top 41)) (defBody (top 41)) (defScope (top 41)) .none kV29 dc29 pm29 an29 cd29 ct29), sl29⟩)
    (c29 : PySem.W.codeIn K cd29 "_law_lower" = true) (k29 : PySem.W.keepIn K (.ref f29) = true)
    (a30 : PySem.W.nsIn K mainGlobals "_law_stream" = some (some (.ref f30)))
    (l30 : K.lookup f30 = some ⟨oc30, od30, .func (PySem.W.fnOf "_law_stream" "_law_stream" (defArgs (top 42)) (defBody (top 42)) (defScope (top 42)) .none kV30 dc30 pm30 an30 cd30 ct30), sl30⟩)
    (c30 : PySem.W.codeIn K cd30 "_law_stream" = true) (k30 : PySem.W.keepIn K (.ref f30) = true)
    (a31 : PySem.W.nsIn K mainGlobals "_law_is_right" = some (some (.ref f31)))
    (l31 : K.lookup f31 = some ⟨oc31, od31, .func (PySem.W.fnOf "_law_is_right" "_law_is_right" (defArgs (top 43)) (defBody (top 43)) (defScope (top 43)) .none kV31 dc31 pm31 an31 cd31 ct31), sl31⟩)
    (c31 : PySem.W.codeIn K cd31 "_law_is_right" = true) (k31 : PySem.W.keepIn K (.ref f31) = true)
    (a32 : PySem.W.nsIn K mainGlobals "law" = some (some (.ref f32)))
    (l32 : K.lookup f32 = some ⟨oc32, od32, .func (PySem.W.fnOf "law" "law" (defArgs (top 44)) (defBody (top 44)) (defScope (top 44)) .none kV32 dc32 pm32 an32 cd32 ct32), sl32⟩)
    (c32 : PySem.W.codeIn K cd32 "law" = true) (k32 : PySem.W.keepIn K (.ref f32) = true)
    (z0 : PySem.W.nsIn K mainGlobals "abs" = some none)
    (z1 : PySem.W.nsIn K mainGlobals "all" = some none)
    (z2 : PySem.W.nsIn K mainGlobals "bool" = some none)
    (z3 : PySem.W.nsIn K mainGlobals "dict" = some none)
    (z4 : PySem.W.nsIn K mainGlobals "int" = some none)
    (z5 : PySem.W.nsIn K mainGlobals "isinstance" = some none)
    (z6 : PySem.W.nsIn K mainGlobals "len" = some none)
    (z7 : PySem.W.nsIn K mainGlobals "min" = some none)
    (z8 : PySem.W.nsIn K mainGlobals "range" = some none)
    (z9 : PySem.W.nsIn K mainGlobals "repr" = some none)
    (z10 : PySem.W.nsIn K mainGlobals "sum" = some none)
    (z11 : PySem.W.nsIn K mainGlobals "tuple" = some none)
    (z12 : PySem.W.nsIn K mainGlobals "zip" = some none)
    (m0 : PySem.W.nsIn K mainGlobals "MOST_SIDE" = some (some (.int 8 tk0)))
    (m1 : PySem.W.nsIn K mainGlobals "MOST_HEIGHT" = some (some (.int 1000 tk1)))
    (m2 : PySem.W.nsIn K mainGlobals "SIDES" = some (some (.ref ta2_0)))
    (u2_0 : K.lookup ta2_0 = some ⟨.type "tuple", td2_0, .seq #[.ref ta2_1, .ref ta2_4, .ref ta2_7, .ref ta2_10] tn2_0, ts2_0⟩)
    (u2_1 : K.lookup ta2_1 = some ⟨.type "tuple", td2_1, .seq #[.int (-1) tt2_2, .int (0) tt2_3] tn2_1, ts2_1⟩)
    (u2_4 : K.lookup ta2_4 = some ⟨.type "tuple", td2_4, .seq #[.int (0) tt2_5, .int (-1) tt2_6] tn2_4, ts2_4⟩)
    (u2_7 : K.lookup ta2_7 = some ⟨.type "tuple", td2_7, .seq #[.int (0) tt2_8, .int (1) tt2_9] tn2_7, ts2_7⟩)
    (u2_10 : K.lookup ta2_10 = some ⟨.type "tuple", td2_10, .seq #[.int (1) tt2_11, .int (0) tt2_12] tn2_10, ts2_10⟩) :
    ∃ fd : FuncData, (∀ (s : Shared) (v : Value), BindsTo s fd ⟨[v], []⟩ [("script", v)]) ∧ ∀ base : Heap, K.In base → base.Ns mainGlobals mg → FnG l.prog w K mg base (L2.CX l.prog w) 10 fa fd ["script"] (spTop K) := by
  have e := hfa.symm.trans (PySem.W.mg_of X G a32)
  cases e
  have T : Txt K mg P bs fs := by
    refine ⟨fun x d hx => ?_, ?_, ?_⟩
    · have hx : con x = some d := hx
      unfold con at hx
      split at hx
      · rename_i e
        subst e
        cases hx
        exact ⟨_, .int 8, PySem.W.mg_of X G m0, ⟨_, rfl⟩, .int _⟩
      split at hx
      · rename_i e
        subst e
        cases hx
        exact ⟨_, .int 1000, PySem.W.mg_of X G m1, ⟨_, rfl⟩, .int _⟩
      split at hx
      · rename_i e
        subst e
        cases hx
        exact ⟨_, .ref ta2_0, PySem.W.mg_of X G m2, rfl, (.tup (xs := [.ref ta2_1, .ref ta2_4, .ref ta2_7, .ref ta2_10]) (.inr ⟨_, _, _, u2_0, rfl, rfl, (by show 4 ≤ sizeLine; decide), (.cons rfl (.cons rfl (.cons rfl (.cons rfl .nil))))⟩) (.cons (.tup (xs := [.int (-1), .int (0)]) (.inr ⟨_, _, _, u2_1, rfl, rfl, (by show 2 ≤ sizeLine; decide), (.cons ⟨_, rfl⟩ (.cons ⟨_, rfl⟩ .nil))⟩) (.cons (.int _) (.cons (.int _) .nil))) (.cons (.tup (xs := [.int (0), .int (-1)]) (.inr ⟨_, _, _, u2_4, rfl, rfl, (by show 2 ≤ sizeLine; decide), (.cons ⟨_, rfl⟩ (.cons ⟨_, rfl⟩ .nil))⟩) (.cons (.int _) (.cons (.int _) .nil))) (.cons (.tup (xs := [.int (0), .int (1)]) (.inr ⟨_, _, _, u2_7, rfl, rfl, (by show 2 ≤ sizeLine; decide), (.cons ⟨_, rfl⟩ (.cons ⟨_, rfl⟩ .nil))⟩) (.cons (.int _) (.cons (.int _) .nil))) (.cons (.tup (xs := [.int (1), .int (0)]) (.inr ⟨_, _, _, u2_10, rfl, rfl, (by show 2 ≤ sizeLine; decide), (.cons ⟨_, rfl⟩ (.cons ⟨_, rfl⟩ .nil))⟩) (.cons (.int _) (.cons (.int _) .nil))) .nil)))))⟩
      cases hx
    · exact List.forall_mem_cons.mpr ⟨PySem.W.mg_none_of X G z0, List.forall_mem_cons.mpr ⟨PySem.W.mg_none_of X G z1, List.forall_mem_cons.mpr ⟨PySem.W.mg_none_of X G z2, List.forall_mem_cons.mpr ⟨PySem.W.mg_none_of X G z3, List.forall_mem_cons.mpr ⟨PySem.W.mg_none_of X G z4, List.forall_mem_cons.mpr ⟨PySem.W.mg_none_of X G z5, List.forall_mem_cons.mpr ⟨PySem.W.mg_none_of X G z6, List.forall_mem_cons.mpr ⟨PySem.W.mg_none_of X G z7, List.forall_mem_cons.mpr ⟨PySem.W.mg_none_of X G z8, List.forall_mem_cons.mpr ⟨PySem.W.mg_none_of X G z9, List.forall_mem_cons.mpr ⟨PySem.W.mg_none_of X G z10, List.forall_mem_cons.mpr ⟨PySem.W.mg_none_of X G z11, List.forall_mem_cons.mpr ⟨PySem.W.mg_none_of X G z12, List.forall_mem_nil _⟩⟩⟩⟩⟩⟩⟩⟩⟩⟩⟩⟩⟩
    · refine List.forall_mem_cons.mpr ⟨?_, List.forall_mem_cons.mpr ⟨?_, List.forall_mem_cons.mpr ⟨?_, List.forall_mem_cons.mpr ⟨?_, List.forall_mem_cons.mpr ⟨?_, List.forall_mem_cons.mpr ⟨?_, List.forall_mem_cons.mpr ⟨?_, List.forall_mem_cons.mpr ⟨?_, List.forall_mem_cons.mpr ⟨?_, List.forall_mem_cons.mpr ⟨?_, List.forall_mem_cons.mpr ⟨?_, List.forall_mem_cons.mpr ⟨?_, List.forall_mem_cons.mpr ⟨?_, List.forall_mem_cons.mpr ⟨?_, List.forall_mem_cons.mpr ⟨?_, List.forall_mem_cons.mpr ⟨?_, List.forall_mem_cons.mpr ⟨?_, List.forall_mem_cons.mpr ⟨?_, List.forall_mem_cons.mpr ⟨?_, List.forall_mem_cons.mpr ⟨?_, List.forall_mem_cons.mpr ⟨?_, List.forall_mem_cons.mpr ⟨?_, List.forall_mem_cons.mpr ⟨?_, List.forall_mem_cons.mpr ⟨?_, List.forall_mem_cons.mpr ⟨?_, List.forall_mem_cons.mpr ⟨?_, List.forall_mem_cons.mpr ⟨?_, List.forall_mem_cons.mpr ⟨?_, List.forall_mem_cons.mpr ⟨?_, List.forall_mem_cons.mpr ⟨?_, List.forall_mem_cons.mpr ⟨?_, List.forall_mem_cons.mpr ⟨?_, List.forall_mem_cons.mpr ⟨?_, List.forall_mem_nil _⟩⟩⟩⟩⟩⟩⟩⟩⟩⟩⟩⟩⟩⟩⟩⟩⟩⟩⟩⟩⟩⟩⟩⟩⟩⟩⟩⟩⟩⟩⟩⟩⟩
      · exact ⟨t_is_integer, _, _, rfl, rfl, fun_mk l0 c0 k0, PySem.W.mg_of X G a0, (fun_mk (st := top 1) l0 c0 k0).binds (ps := t_is_integer.ps) fun _ _ _ _ _ _ us hl => match us, hl with | [_], _ => rfl, ok_is_integer⟩
      · exact ⟨t_is_within, _, _, rfl, rfl, fun_mk l1 c1 k1, PySem.W.mg_of X G a1, (fun_mk (st := top 2) l1 c1 k1).binds (ps := t_is_within.ps) fun _ _ _ _ _ _ us hl => match us, hl with | [_, _, _], _ => rfl, ok_is_within⟩
      · exact ⟨t_is_tuple_of, _, _, rfl, rfl, fun_mk l2 c2 k2, PySem.W.mg_of X G a2, (fun_mk (st := top 3) l2 c2 k2).binds (ps := t_is_tuple_of.ps) fun _ _ _ _ _ _ us hl => match us, hl with | [_, _], _ => rfl, ok_is_tuple_of⟩
      · exact ⟨t_is_height, _, _, rfl, rfl, fun_mk l3 c3 k3, PySem.W.mg_of X G a3, (fun_mk (st := top 12) l3 c3 k3).binds (ps := t_is_height.ps) fun _ _ _ _ _ _ us hl => match us, hl with | [_], _ => rfl, ok_is_height⟩
      · exact ⟨t_is_row, _, _, rfl, rfl, fun_mk l4 c4 k4, PySem.W.mg_of X G a4, (fun_mk (st := top 13) l4 c4 k4).binds (ps := t_is_row.ps) fun _ _ _ _ _ _ us hl => match us, hl with | [_], _ => rfl, ok_is_row⟩
      · exact ⟨t_is_land, _, _, rfl, rfl, fun_mk l5 c5 k5, PySem.W.mg_of X G a5, (fun_mk (st := top 14) l5 c5 k5).binds (ps := t_is_land.ps) fun _ _ _ _ _ _ us hl => match us, hl with | [_], _ => rfl, ok_is_land⟩
      · exact ⟨t_check_land, _, _, rfl, rfl, fun_mk l6 c6 k6, PySem.W.mg_of X G a6, (fun_mk (st := top 15) l6 c6 k6).binds (ps := t_check_land.ps) fun _ _ _ _ _ _ us hl => match us, hl with | [_], _ => rfl, ok_check_land⟩
      · exact ⟨t_is_spot_of, _, _, rfl, rfl, fun_mk l7 c7 k7, PySem.W.mg_of X G a7, (fun_mk (st := top 16) l7 c7 k7).binds (ps := t_is_spot_of.ps) fun _ _ _ _ _ _ us hl => match us, hl with | [_, _], _ => rfl, ok_is_spot_of⟩
      · exact ⟨t_check_spot, _, _, rfl, rfl, fun_mk l8 c8 k8, PySem.W.mg_of X G a8, (fun_mk (st := top 17) l8 c8 k8).binds (ps := t_check_spot.ps) fun _ _ _ _ _ _ us hl => match us, hl with | [_, _], _ => rfl, ok_check_spot⟩
      · exact ⟨t_height_of, _, _, rfl, rfl, fun_mk l9 c9 k9, PySem.W.mg_of X G a9, (fun_mk (st := top 18) l9 c9 k9).binds (ps := t_height_of.ps) fun _ _ _ _ _ _ us hl => match us, hl with | [_, _], _ => rfl, ok_height_of⟩
      · exact ⟨t_all_spots, _, _, rfl, rfl, fun_mk l10 c10 k10, PySem.W.mg_of X G a10, (fun_mk (st := top 19) l10 c10 k10).binds (ps := t_all_spots.ps) fun _ _ _ _ _ _ us hl => match us, hl with | [_], _ => rfl, ok_all_spots⟩
      · exact ⟨t_is_on_land, _, _, rfl, rfl, fun_mk l11 c11 k11, PySem.W.mg_of X G a11, (fun_mk (st := top 20) l11 c11 k11).binds (ps := t_is_on_land.ps) fun _ _ _ _ _ _ us hl => match us, hl with | [_, _], _ => rfl, ok_is_on_land⟩
      · exact ⟨t_stepped, _, _, rfl, rfl, fun_mk l12 c12 k12, PySem.W.mg_of X G a12, (fun_mk (st := top 21) l12 c12 k12).binds (ps := t_stepped.ps) fun _ _ _ _ _ _ us hl => match us, hl with | [_, _, _], _ => rfl, ok_stepped⟩
      · exact ⟨t_spots_beside, _, _, rfl, rfl, fun_mk l13 c13 k13, PySem.W.mg_of X G a13, (fun_mk (st := top 22) l13 c13 k13).binds (ps := t_spots_beside.ps) fun _ _ _ _ _ _ us hl => match us, hl with | [_, _], _ => rfl, ok_spots_beside⟩
      · exact ⟨t_raw_steepest, _, _, rfl, rfl, fun_mk l14 c14 k14, PySem.W.mg_of X G a14, (fun_mk (st := top 24) l14 c14 k14).binds (ps := t_raw_steepest.ps) fun _ _ _ _ _ _ us hl => match us, hl with | [_, _], _ => rfl, ok_raw_steepest⟩
      · exact ⟨t_raw_stream, _, _, rfl, rfl, fun_mk l15 c15 k15, PySem.W.mg_of X G a15, (fun_mk (st := top 26) l15 c15 k15).binds (ps := t_raw_stream.ps) fun _ _ _ _ _ _ us hl => match us, hl with | [_, _], _ => rfl, ok_raw_stream⟩
      · exact ⟨t_stream, _, _, rfl, rfl, fun_mk l16 c16 k16, PySem.W.mg_of X G a16, (fun_mk (st := top 27) l16 c16 k16).binds (ps := t_stream.ps) fun _ _ _ _ _ _ us hl => match us, hl with | [_, _], _ => rfl, ok_stream⟩
      · exact ⟨t_ends, _, _, rfl, rfl, fun_mk l17 c17 k17, PySem.W.mg_of X G a17, (fun_mk (st := top 28) l17 c17 k17).binds (ps := t_ends.ps) fun _ _ _ _ _ _ us hl => match us, hl with | [_], _ => rfl, ok_ends⟩
      · exact ⟨t_ends_at, _, _, rfl, rfl, fun_mk l18 c18 k18, PySem.W.mg_of X G a18, (fun_mk (st := top 29) l18 c18 k18).binds (ps := t_ends_at.ps) fun _ _ _ _ _ _ us hl => match us, hl with | [_], _ => rfl, ok_ends_at⟩
      · exact ⟨t_raw_gathered, _, _, rfl, rfl, fun_mk l19 c19 k19, PySem.W.mg_of X G a19, (fun_mk (st := top 30) l19 c19 k19).binds (ps := t_raw_gathered.ps) fun _ _ _ _ _ _ us hl => match us, hl with | [_], _ => rfl, ok_raw_gathered⟩
      · exact ⟨t_gathered, _, _, rfl, rfl, fun_mk l20 c20 k20, PySem.W.mg_of X G a20, (fun_mk (st := top 31) l20 c20 k20).binds (ps := t_gathered.ps) fun _ _ _ _ _ _ us hl => match us, hl with | [_], _ => rfl, ok_gathered⟩
      · exact ⟨t_law_hand, _, _, rfl, rfl, fun_mk l21 c21 k21, PySem.W.mg_of X G a21, (fun_mk (st := top 33) l21 c21 k21).binds (ps := t_law_hand.ps) fun _ _ _ _ _ _ us hl => match us, hl with | [_], _ => rfl, ok_law_hand⟩
      · exact ⟨t_law_draw, _, _, rfl, rfl, fun_mk l22 c22 k22, PySem.W.mg_of X G a22, (fun_mk (st := top 34) l22 c22 k22).binds (ps := t_law_draw.ps) fun _ _ _ _ _ _ us hl => match us, hl with | [_, _], _ => rfl, ok_law_draw⟩
      · exact ⟨t_law_some, _, _, rfl, rfl, fun_mk l23 c23 k23, PySem.W.mg_of X G a23, (fun_mk (st := top 35) l23 c23 k23).binds (ps := t_law_some.ps) fun _ _ _ _ _ _ us hl => match us, hl with | [_, _], _ => rfl, ok_law_some⟩
      · exact ⟨t_law_is_int, _, _, rfl, rfl, fun_mk l24 c24 k24, PySem.W.mg_of X G a24, (fun_mk (st := top 36) l24 c24 k24).binds (ps := t_law_is_int.ps) fun _ _ _ _ _ _ us hl => match us, hl with | [_], _ => rfl, ok_law_is_int⟩
      · exact ⟨t_law_land, _, _, rfl, rfl, fun_mk l25 c25 k25, PySem.W.mg_of X G a25, (fun_mk (st := top 37) l25 c25 k25).binds (ps := t_law_land.ps) fun _ _ _ _ _ _ us hl => match us, hl with | [_, _], _ => rfl, ok_law_land⟩
      · exact ⟨t_law_spots, _, _, rfl, rfl, fun_mk l26 c26 k26, PySem.W.mg_of X G a26, (fun_mk (st := top 38) l26 c26 k26).binds (ps := t_law_spots.ps) fun _ _ _ _ _ _ us hl => match us, hl with | [_], _ => rfl, ok_law_spots⟩
      · exact ⟨t_law_high, _, _, rfl, rfl, fun_mk l27 c27 k27, PySem.W.mg_of X G a27, (fun_mk (st := top 39) l27 c27 k27).binds (ps := t_law_high.ps) fun _ _ _ _ _ _ us hl => match us, hl with | [_, _], _ => rfl, ok_law_high⟩
      · exact ⟨t_law_next_to, _, _, rfl, rfl, fun_mk l28 c28 k28, PySem.W.mg_of X G a28, (fun_mk (st := top 40) l28 c28 k28).binds (ps := t_law_next_to.ps) fun _ _ _ _ _ _ us hl => match us, hl with | [_, _], _ => rfl, ok_law_next_to⟩
      · exact ⟨t_law_lower, _, _, rfl, rfl, fun_mk l29 c29 k29, PySem.W.mg_of X G a29, (fun_mk (st := top 41) l29 c29 k29).binds (ps := t_law_lower.ps) fun _ _ _ _ _ _ us hl => match us, hl with | [_, _], _ => rfl, ok_law_lower⟩
      · exact ⟨t_law_stream, _, _, rfl, rfl, fun_mk l30 c30 k30, PySem.W.mg_of X G a30, (fun_mk (st := top 42) l30 c30 k30).binds (ps := t_law_stream.ps) fun _ _ _ _ _ _ us hl => match us, hl with | [_, _], _ => rfl, ok_law_stream⟩
      · exact ⟨t_law_is_right, _, _, rfl, rfl, fun_mk l31 c31 k31, PySem.W.mg_of X G a31, (fun_mk (st := top 43) l31 c31 k31).binds (ps := t_law_is_right.ps) fun _ _ _ _ _ _ us hl => match us, hl with | [_], _ => rfl, ok_law_is_right⟩
      · exact ⟨t_law, _, _, rfl, rfl, fun_mk l32 c32 k32, PySem.W.mg_of X G a32, (fun_mk (st := top 44) l32 c32 k32).binds (ps := t_law.ps) fun _ _ _ _ _ _ us hl => match us, hl with | [_], _ => rfl, ok_law⟩
  exact ⟨_, fun s v => .of_eq rfl, fun base _ _ => law_ok plain rfl (one_ok T 9 (t := t_law) rfl (fun_mk (st := top 44) l32 c32 k32) ok_law)⟩
end K07
open PySem PySem.W PyProof.Rows in
set_option maxRecDepth 100000 in
set_option maxHeartbeats 0 in
theorem PySem.Challenge.cw_hillandwater_k07_whole_streams_and_their_holds : PySem.Challenge.rw_hillandwater_k07_whole_streams_and_their.Holds := by
  w_on; o_law; k_head; (case hw => w_witness2)
  k_fill
  refine Mir.walk_all (k := 10) (l := PySem.Challenge.rw_hillandwater_k07_whole_streams_and_their) ⟨rfl, by decide, by decide⟩ rfl rfl (fun w h Y => PySem.W.kIn_of Y) ?F
  case F =>
    intro w mg fa h KX G hmg
    refine' K07.all_mk KX G hmg ?a0 ?l0 ?c0 ?k0 ?a1 ?l1 ?c1 ?k1 ?a2 ?l2 ?c2 ?k2 ?a3 ?l3 ?c3 ?k3 ?a4 ?l4 ?c4 ?k4 ?a5 ?l5 ?c5 ?k5 ?a6 ?l6 ?c6 ?k6 ?a7 ?l7 ?c7 ?k7 ?a8 ?l8 ?c8 ?k8 ?a9 ?l9 ?c9 ?k9 ?a10 ?l10 ?c10 ?k10 ?a11 ?l11 ?c11 ?k11 ?a12 ?l12 ?c12 ?k12 ?a13 ?l13 ?c13 ?k13 ?a14 ?l14 ?c14 ?k14 ?a15 ?l15 ?c15 ?k15 ?a16 ?l16 ?c16 ?k16 ?a17 ?l17 ?c17 ?k17 ?a18 ?l18 ?c18 ?k18 ?a19 ?l19 ?c19 ?k19 ?a20 ?l20 ?c20 ?k20 ?a21 ?l21 ?c21 ?k21 ?a22 ?l22 ?c22 ?k22 ?a23 ?l23 ?c23 ?k23 ?a24 ?l24 ?c24 ?k24 ?a25 ?l25 ?c25 ?k25 ?a26 ?l26 ?c26 ?k26 ?a27 ?l27 ?c27 ?k27 ?a28 ?l28 ?c28 ?k28 ?a29 ?l29 ?c29 ?k29 ?a30 ?l30 ?c30 ?k30 ?a31 ?l31 ?c31 ?k31 ?a32 ?l32 ?c32 ?k32 ?z0 ?z1 ?z2 ?z3 ?z4 ?z5 ?z6 ?z7 ?z8 ?z9 ?z10 ?z11 ?z12 ?m0 ?m1 ?m2 ?u2_0 ?u2_1 ?u2_4 ?u2_7 ?u2_10
    (case a0 => k_is)
    (case l0 => k_is)
    (case c0 => k_is)
    (case k0 => k_is)
    (case a1 => k_is)
    (case l1 => k_is)
    (case c1 => k_is)
    (case k1 => k_is)
    (case a2 => k_is)
    (case l2 => k_is)
    (case c2 => k_is)
    (case k2 => k_is)
    (case a3 => k_is)
    (case l3 => k_is)
    (case c3 => k_is)
    (case k3 => k_is)
    (case a4 => k_is)
    (case l4 => k_is)
    (case c4 => k_is)
    (case k4 => k_is)
    (case a5 => k_is)
    (case l5 => k_is)
    (case c5 => k_is)
    (case k5 => k_is)
    (case a6 => k_is)
    (case l6 => k_is)
    (case c6 => k_is)
    (case k6 => k_is)
    (case a7 => k_is)
    (case l7 => k_is)
    (case c7 => k_is)
    (case k7 => k_is)
    (case a8 => k_is)
    (case l8 => k_is)
    (case c8 => k_is)
    (case k8 => k_is)
    (case a9 => k_is)
    (case l9 => k_is)
    (case c9 => k_is)
    (case k9 => k_is)
    (case a10 => k_is)
    (case l10 => k_is)
    (case c10 => k_is)
    (case k10 => k_is)
    (case a11 => k_is)
    (case l11 => k_is)
    (case c11 => k_is)
    (case k11 => k_is)
    (case a12 => k_is)
    (case l12 => k_is)
    (case c12 => k_is)
    (case k12 => k_is)
    (case a13 => k_is)
    (case l13 => k_is)
    (case c13 => k_is)
    (case k13 => k_is)
    (case a14 => k_is)
    (case l14 => k_is)
    (case c14 => k_is)
    (case k14 => k_is)
    (case a15 => k_is)
    (case l15 => k_is)
    (case c15 => k_is)
    (case k15 => k_is)
    (case a16 => k_is)
    (case l16 => k_is)
    (case c16 => k_is)
    (case k16 => k_is)
    (case a17 => k_is)
    (case l17 => k_is)
    (case c17 => k_is)
    (case k17 => k_is)
    (case a18 => k_is)
    (case l18 => k_is)
    (case c18 => k_is)
    (case k18 => k_is)
    (case a19 => k_is)
    (case l19 => k_is)
    (case c19 => k_is)
    (case k19 => k_is)
    (case a20 => k_is)
    (case l20 => k_is)
    (case c20 => k_is)
    (case k20 => k_is)
    (case a21 => k_is)
    (case l21 => k_is)
    (case c21 => k_is)
    (case k21 => k_is)
    (case a22 => k_is)
    (case l22 => k_is)
    (case c22 => k_is)
    (case k22 => k_is)
    (case a23 => k_is)
    (case l23 => k_is)
    (case c23 => k_is)
    (case k23 => k_is)
    (case a24 => k_is)
    (case l24 => k_is)
    (case c24 => k_is)
    (case k24 => k_is)
    (case a25 => k_is)
    (case l25 => k_is)
    (case c25 => k_is)
    (case k25 => k_is)
    (case a26 => k_is)
    (case l26 => k_is)
    (case c26 => k_is)
    (case k26 => k_is)
    (case a27 => k_is)
    (case l27 => k_is)
    (case c27 => k_is)
    (case k27 => k_is)
    (case a28 => k_is)
    (case l28 => k_is)
    (case c28 => k_is)
    (case k28 => k_is)
    (case a29 => k_is)
    (case l29 => k_is)
    (case c29 => k_is)
    (case k29 => k_is)
    (case a30 => k_is)
    (case l30 => k_is)
    (case c30 => k_is)
    (case k30 => k_is)
    (case a31 => k_is)
    (case l31 => k_is)
    (case c31 => k_is)
    (case k31 => k_is)
    (case a32 => k_is)
    (case l32 => k_is)
    (case c32 => k_is)
    (case k32 => k_is)
    (case z0 => k_is)
    (case z1 => k_is)
    (case z2 => k_is)
    (case z3 => k_is)
    (case z4 => k_is)
    (case z5 => k_is)
    (case z6 => k_is)
    (case z7 => k_is)
    (case z8 => k_is)
    (case z9 => k_is)
    (case z10 => k_is)
    (case z11 => k_is)
    (case z12 => k_is)
    (case m0 => k_is)
    (case m1 => k_is)
    (case m2 => k_is)
    (case u2_0 => k_is)
    (case u2_1 => k_is)
    (case u2_4 => k_is)
    (case u2_7 => k_is)
    (case u2_10 => k_is)

