import PyProof.Rows.All
import PyProof.ForAny
import PyProof.StrLoop
import PyProof.StrWalks
import PyProof.CompFree
import PyProof.DictCompW
import PyProof.ExcBaseAll.Exception
import PyProof.WalksMore
import PyProof.InstStoreFacts
import PyProof.ZipIter
import Wide.BytesFacts
import Wide.BytesRules
import KE.LcSums
import KE.KDictList
import KE.KIsBytes
import KE.KSliceW
import KE.KTryOn
import Wide.FinOn
import OpenK.AllK
import Wide.All
import PySem.Challenge.RW_nz0321_02
set_option Elab.async false

section
/-! The abstract evaluator: values, store, a small language, its meaning. -/
set_option autoImplicit false
set_option linter.unusedVariables false
set_option genSizeOf false
namespace Mine
open PySem

inductive PV where
  | none
  | bool (b : Bool)
  | int (i : Int)
  | str (x : Str)
  | bytes (b : Array UInt8)
  | tup (l : List PV)
  | loc (n : Nat)
deriving Inhabited

inductive PO where
  | list (xs : List PV)
  | frz (xs : List PV)
  | junk
  | tab (ks : List (Nat × Nat))
  | dict (es : List (PV × PV))
  | inst (c : Nat) (fs : List (Nat × PV))
deriving Inhabited

abbrev St := List PO

inductive R (α : Type) where
  | ok (a : α) (σ : St)
  | exc (c : Nat) (σ : St)
  | stuck

namespace R
noncomputable def bind {α β : Type} : R α → (α → St → R β) → R β
  | .ok a σ, f => f a σ
  | .exc c σ, _ => .exc c σ
  | .stuck, _ => .stuck
@[simp] theorem bind_ok {α β : Type} (a : α) (σ : St) (f : α → St → R β) : (R.ok a σ).bind f = f a σ := rfl
@[simp] theorem bind_exc {α β : Type} (c : Nat) (σ : St) (f : α → St → R β) : (R.exc c σ : R α).bind f = .exc c σ := rfl
@[simp] theorem bind_stuck {α β : Type} (f : α → St → R β) : (R.stuck : R α).bind f = .stuck := rfl
theorem bind_assoc {α β γ : Type} (m : R α) (f : α → St → R β) (g : β → St → R γ) : (m.bind f).bind g = m.bind fun a σ => (f a σ).bind g := by cases m <;> rfl
end R

inductive Bi where
  | len | sorted | list | tuple | all | abs | int
  | isStr | isInt | isBool | isBytes | isTuple

inductive Mi where
  | split

inductive IE where
  | cst (v : PV)
  | var (i : Nat)
  | neg (e : IE)
  | not (e : IE)
  | bop (isAnd : Bool) (es : List IE)
  | ite (c t e : IE)
  | bin (op : Operator) (a b : IE)
  | cmp (a : IE) (rest : List (CmpOp × IE))
  | list (es : List IE)
  | tup (es : List IE)
  | dict (kvs : List (IE × IE))
  | call (f : Nat) (es : List IE)
  | new (c : Nat) (es : List IE)
  | blt (b : Bi) (es : List IE)
  | meth (m : Mi) (o : IE) (es : List IE)
  | umeth (m : Nat) (o : IE) (es : List IE)
  | attr (o : IE) (a : Nat)
  | isLet (c : Nat) (e : IE) (line col : Nat)
  | sub (o i : IE)
  | slice (o : IE) (lo hi : Option IE)
  | comp (elt : IE) (val : Option IE) (tgt : List Nat) (isTup : Bool) (kind : Nat) (its : List IE) (ifs : List IE) (base width : Nat)
deriving Inhabited

set_option genInjectivity false in
inductive IT where
  | name (i : Nat)
  | tup (ts : List IT)
  | attr (o : IE) (a : Nat)
  | sub (o i : IE)
deriving Inhabited

set_option genInjectivity false in
inductive IS where
  | expr (e : IE)
  | ret (e : IE)
  | asg (t : IT) (e : IE)
  | ife (c : IE) (t e : List IS)
  | forr (t : IT) (kind : Nat) (its : List IE) (b : List IS)
  | raise (c : Nat)
deriving Inhabited

abbrev Fr := List (Option PV)

inductive Fl where
  | next (fr : Fr)
  | ret (v : PV)

noncomputable def szOK (n : Nat) : Bool := decide (n ≤ 1000000)

/-! equality of values; lists are compared by their items; none: not told -/
noncomputable def eqvz (f : PV → PV → Option Bool) : List PV → List PV → Option Bool
  | [], _ => some true
  | _ :: _, [] => some true
  | x :: xs, y :: ys => (f x y).bind fun a => (eqvz f xs ys).map (a && ·)
noncomputable def isLs : Option PO → Bool
  | some (.list _) => true
  | _ => false
noncomputable def eqS (σ : St) (y : Str) : PV → Option Bool
  | .str x => some (x == y)
  | .loc l => if isLs σ[l]? then some false else .none
  | _ => some false
noncomputable def eqk (σ : St) (f : PV → PV → Option Bool) (a b : PV) : Option Bool := match b with
    | .str y => eqS σ y a
    | .bool y => (match a with
      | .bool x => some (x == y)
      | _ => .none)
    | .int y => (match a with
      | .int x => some (x == y)
      | _ => .none)
    | .tup ys => (match a with
      | .tup xs => (eqvz f xs ys).map fun r => r && xs.length == ys.length
      | _ => .none)
    | _ => .none
noncomputable def eqv (σ : St) : Nat → PV → PV → Option Bool
  | 0 => fun _ _ => .none
  | n + 1 => eqk σ (eqv σ n)
noncomputable def eqFuel : Nat := 16

noncomputable def truthy (σ : St) : PV → Option Bool
  | .none => some false
  | .bool b => some b
  | .loc l => match σ[l]? with
      | some (.list xs) => if szOK xs.length then some (!xs.isEmpty) else .none
      | _ => .none
  | _ => .none

noncomputable def truR (v : PV) (σ : St) : R Bool := match truthy σ v with
  | some b => .ok b σ
  | .none => .stuck
noncomputable def alloc (o : PO) (σ : St) : R PV := .ok (.loc σ.length) (σ ++ [o])

noncomputable def pick {α : Type} (l : List α) (lo hi : Option Int) : List α := (l.drop (W.kms_lo lo l.length)).take (W.kms_hi hi l.length - W.kms_lo lo l.length)

noncomputable def int2 (a b : PV) (f : Int → Int → R PV) : R PV := match a with
  | .int x => (match b with
    | .int y => f x y
    | _ => .stuck)
  | _ => .stuck
noncomputable def binAdd (a b : PV) (σ : St) : R PV := match a with
  | .int _ => int2 a b fun x y => .ok (.int (x + y)) σ
  | .tup x => (match b with
    | .tup y => if szOK (x.length + y.length) then .ok (.tup (x ++ y)) σ else .stuck
    | _ => .stuck)
  | _ => .stuck
noncomputable def binop (op : Operator) (a b : PV) (σ : St) : R PV := match op with
  | .Add => binAdd a b σ
  | .Mult => int2 a b fun x y => if x.natAbs < 2 ^ 62 ∧ y.natAbs < 2 ^ 62 then .ok (.int (x * y)) σ else .stuck
  | .FloorDiv => int2 a b fun x y => if 0 < y ∧ y < 2 ^ 30 then .ok (.int (x.fdiv y)) σ else .stuck
  | .Mod => int2 a b fun x y => if y ≠ 0 then .ok (.int (x.fmod y)) σ else .stuck
  | .Pow => int2 a b fun x y => if 0 ≤ x ∧ x < 2 ^ 31 ∧ 0 < y ∧ y ≤ 300 then .ok (.int (x ^ y.toNat)) σ else .stuck
  | _ => .stuck

noncomputable def isStr : PV → Bool | .str _ => true | _ => false
noncomputable def keyEq (a b : PV) : Bool := match a with
  | .str a => (match b with
    | .str b => a == b
    | _ => false)
  | _ => false
noncomputable def dget (k : PV) : List (PV × PV) → Option PV
  | [] => .none
  | e :: r => if keyEq e.1 k then some e.2 else dget k r
noncomputable def dset (k v : PV) : List (PV × PV) → List (PV × PV)
  | [] => [(k, v)]
  | e :: r => if keyEq e.1 k then (e.1, v) :: r else e :: dset k v r
noncomputable def keysLike (k : PV) (es : List (PV × PV)) : Bool := isStr k && es.all fun e => isStr e.1

noncomputable def isIn (x c : PV) : Option Bool := match c with
  | .str s => (match x with
    | .str y => some (!(Builtin.Str.occurrences s y 0 s.length 1).isEmpty)
    | _ => .none)
  | _ => .none

noncomputable def cmp2 (a b : PV) (f : Int → Int → Bool) : Option Bool := match a with
  | .int x => (match b with
    | .int y => some (f x y)
    | _ => .none)
  | _ => .none
noncomputable def isBytes : PV → Bool | .bytes _ => true | _ => false
noncomputable def cmpop (op : CmpOp) (a b : PV) (σ : St) : Option Bool := match op with
  | .Eq => eqv σ eqFuel a b
  | .NotEq => if isBytes a then .none else (eqv σ eqFuel a b).map (! ·)
  | .In => isIn a b
  | .Lt => cmp2 a b fun x y => decide (x < y)
  | .Gt => cmp2 a b fun x y => decide (x > y)
  | .GtE => cmp2 a b fun x y => decide (x ≥ y)
  | _ => .none

noncomputable def cmpR (op : CmpOp) (a b : PV) (σ : St) : R Bool := match cmpop op a b σ with
  | some r => .ok r σ
  | .none => .stuck
noncomputable def strKeys : List PV → Option (List Str)
  | [] => some []
  | .str x :: r => (strKeys r).map (x :: ·)
  | _ => .none
noncomputable def insG {α : Type} (lt : α → α → Bool) (x : α) : List α → List α
  | [] => [x]
  | y :: r => if lt x y then x :: y :: r else y :: insG lt x r
noncomputable def sortG {α : Type} (lt : α → α → Bool) : List α → List α
  | [] => []
  | x :: r => insG lt x (sortG lt r)
noncomputable def sltS (x y : Str) : Bool := decide (x.cps.toList < y.cps.toList)
noncomputable def itemsOf (σ : St) : PV → Option (List PV)
  | .tup xs => some xs
  | .loc l => match σ[l]? with
      | some (.list xs) => some xs
      | _ => .none
  | _ => .none

noncomputable def boolsOf : List PV → Option (List Bool)
  | [] => some []
  | .bool b :: r => (boolsOf r).map (b :: ·)
  | _ => .none

noncomputable def isInt : PV → Bool | .int _ => true | .bool _ => true | _ => false
noncomputable def isBool : PV → Bool | .bool _ => true | _ => false
noncomputable def isTuple : PV → Bool | .tup _ => true | _ => false
noncomputable def plainV (σ : St) : PV → Bool
  | .loc l => isLs σ[l]?
  | _ => true
noncomputable def biLen (σ : St) : PV → R PV
  | .str x => if szOK x.length then .ok (.int x.length) σ else .stuck
  | .tup xs => if szOK xs.length then .ok (.int xs.length) σ else .stuck
  | .loc l => (match σ[l]? with
      | some (.list xs) => if szOK xs.length then .ok (.int xs.length) σ else .stuck
      | _ => .stuck)
  | _ => .stuck
noncomputable def lstR (σ : St) (v : PV) (f : List PV → R PV) : R PV := match v with
  | .loc l => (match σ[l]? with
      | some (.list xs) => f xs
      | _ => .stuck)
  | _ => .stuck
noncomputable def biList (σ : St) : PV → R PV
  | .tup xs => if szOK xs.length then alloc (.list xs) σ else .stuck
  | .loc l => (match σ[l]? with
      | some (.dict es) => if szOK es.length then alloc (.list (es.map (·.1))) σ else .stuck
      | _ => .stuck)
  | _ => .stuck
noncomputable def biInt (v : PV) (f : Int → R PV) : R PV := match v with
  | .int i => f i
  | _ => .stuck
noncomputable def optR {α : Type} (o : Option α) (f : α → R PV) : R PV := match o with
  | some a => f a
  | .none => .stuck
noncomputable def bi1 (b : Bi) (v : PV) (σ : St) : R PV := match b with
  | .len => biLen σ v
  | .sorted => lstR σ v fun xs => if xs.length ≤ 60 then optR (strKeys xs) fun ss => alloc (.list ((sortG sltS ss).map .str)) σ else .stuck
  | .list => biList σ v
  | .tuple => lstR σ v fun xs => if szOK xs.length then .ok (.tup xs) σ else .stuck
  | .all => lstR σ v fun xs => if szOK xs.length then optR (boolsOf xs) fun bs => .ok (.bool (bs.all id)) σ else .stuck
  | .abs => biInt v fun i => .ok (.int i.natAbs) σ
  | .int => biInt v fun i => .ok (.int i) σ
  | .isStr => if plainV σ v then .ok (.bool (isStr v)) σ else .stuck
  | .isInt => if plainV σ v then .ok (.bool (isInt v)) σ else .stuck
  | .isBool => if plainV σ v then .ok (.bool (isBool v)) σ else .stuck
  | .isBytes => if plainV σ v then .ok (.bool (isBytes v)) σ else .stuck
  | .isTuple => if plainV σ v then .ok (.bool (isTuple v)) σ else .stuck
noncomputable def builtin (b : Bi) (args : List PV) (σ : St) : R PV := match args with
  | [v] => bi1 b v σ
  | _ => .stuck

noncomputable def method (_ : Mi) (o : PV) (args : List PV) (σ : St) : R PV := match o with
  | .str x => (match args with
    | [v] => (match v with
      | .str y => if (y.length == 0) = false ∧ szOK x.length ∧ szOK (Txt.split x y).length then alloc (.list ((Txt.split x y).map .str)) σ else .stuck
      | _ => .stuck)
    | _ => .stuck)
  | _ => .stuck

noncomputable def subStr (x : Str) (i : PV) (σ : St) : R PV := biInt i fun k => if szOK x.length ∧ k.natAbs ≤ 1000000 then optR ((seqIndex? k x.length).bind (x.cps[·]?)) fun c => .ok (.str ⟨#[c]⟩) σ else .stuck
noncomputable def subTup (xs : List PV) (i : PV) (σ : St) : R PV := biInt i fun k => if k.natAbs ≤ 1000000 then optR ((seqIndex? k xs.length).bind (xs[·]?)) fun v => .ok v σ else .stuck
noncomputable def subObj (o : Option PO) (i : PV) (σ : St) : R PV := match o with
  | some (.list xs) => biInt i fun k => if 0 ≤ k ∧ k ≤ 1000000 then optR xs[k.toNat]? fun v => .ok v σ else .stuck
  | some (.dict es) => if keysLike i es then optR (dget i es) fun v => .ok v σ else .stuck
  | _ => .stuck
noncomputable def subscr (o i : PV) (σ : St) : R PV := match o with
  | .str x => subStr x i σ
  | .tup xs => subTup xs i σ
  | .loc l => subObj σ[l]? i σ
  | _ => .stuck

noncomputable def partOf : Option PV → Option (Option Int)
  | .none => some .none
  | some v => (match v with
    | .int k => if k.natAbs ≤ 1000000 then some (some k) else .none
    | _ => .none)

noncomputable def sliced (o : PV) (lo hi : Option PV) (σ : St) : R PV := optR (partOf lo) fun a => optR (partOf hi) fun b => match o with
  | .tup xs => if szOK xs.length then .ok (.tup (pick xs a b)) σ else .stuck
  | .loc l => (match σ[l]? with
      | some (.frz xs) => if szOK xs.length then alloc (.list (pick xs a b)) σ else .stuck
      | _ => .stuck)
  | _ => .stuck

/-- how many names are data, how many classes have instances here -/
noncomputable def ND : Nat := 15
noncomputable def NC : Nat := 3
noncomputable def getattr (o : PV) (a : Nat) (σ : St) : R PV := match o with
  | .loc l => (match σ[l]? with
      | some (.inst _ fs) => if a < ND then optR (fs.lookup a) fun v => .ok v σ else .stuck
      | _ => .stuck)
  | _ => .stuck
noncomputable def putF (a : Nat) (v : PV) : List (Nat × PV) → List (Nat × PV)
  | [] => [(a, v)]
  | e :: r => if e.1 == a then (e.1, v) :: r else e :: putF a v r
noncomputable def setattr (o : PV) (a : Nat) (v : PV) (σ : St) : R Unit := match o with
  | .loc l => match σ[l]? with
      | some (.inst c fs) => if a < ND then .ok () (σ.set l (.inst c (putF a v fs))) else .stuck
      | _ => .stuck
  | _ => .stuck
noncomputable def setObj (l : Nat) (o : Option PO) (i v : PV) (σ : St) : R Unit := match o with
  | some (.list xs) => (match i with
    | .int k => if 0 ≤ k ∧ k.toNat < xs.length ∧ k ≤ 1000000 then .ok () (σ.set l (.list (xs.set k.toNat v))) else .stuck
    | _ => .stuck)
  | _ => .stuck
noncomputable def setitem (o i v : PV) (σ : St) : R Unit := match o with
  | .loc l => setObj l σ[l]? i v σ
  | _ => .stuck

/-! sources of loops: kind 0: the items of a value; 2: zip(a, b) -/
noncomputable def signs (x : Str) : List PV := x.cps.toList.map fun c => .str ⟨#[c]⟩
noncomputable def ascii (x : Str) : Bool := x.cps.all (· < 128)
inductive Src where
  | imm (xs : List PV)
  | lst (l : Nat)
  | zip (xs : List PV) (k : Nat)
noncomputable def src0 (v : PV) (σ : St) : R Src := match v with
  | .tup xs => .ok (.imm xs) σ
  | .str x => if ascii x then .ok (.imm (signs x)) σ else .stuck
  | .loc l => if isLs σ[l]? then .ok (.lst l) σ else .stuck
  | _ => .stuck
/-- what zip keeps for itself stands in the store -/
noncomputable def src2 (v w : PV) (σ : St) : R Src := match v with
  | .tup xs => (match w with
    | .str y => if ascii y then .ok (.zip ((xs.zip (signs y)).map fun p => .tup [p.1, p.2]) σ.length) (σ ++ [.junk]) else .stuck
    | _ => .stuck)
  | _ => .stuck
noncomputable def srcR (kind : Nat) (vs : List PV) (σ : St) : R Src := match kind with
  | 0 => (match vs with
    | [v] => src0 v σ
    | _ => .stuck)
  | 2 => (match vs with
    | [v, w] => src2 v w σ
    | _ => .stuck)
  | _ => .stuck

/-- what raises here is left aside -/
noncomputable def noExc {α : Type} : R α → R α
  | .exc _ _ => .stuck
  | r => r
section
variable {α : Type}
noncomputable def loopI (body : PV → α → St → R (Sum α PV)) : List PV → α → St → R (Sum α PV)
  | [], a, σ => .ok (.inl a) σ
  | x :: xs, a, σ => (body x a σ).bind fun r σ => match r with
      | .inl a => loopI body xs a σ
      | .inr v => .ok (.inr v) σ
noncomputable def junkR {β : Type} (o : Option PO) (m : R β) : R β := match o with
  | some .junk => m
  | _ => .stuck
noncomputable def lstO {β : Type} (o : Option PO) (f : List PV → R β) : R β := match o with
  | some (.list xs) => f xs
  | _ => .stuck
noncomputable def endO {β : Type} (o : Option PV) (m : R β) (f : PV → R β) : R β := match o with
  | .none => m
  | some x => f x
noncomputable def loopZ (body : PV → α → St → R (Sum α PV)) (l : Nat) : List PV → α → St → R (Sum α PV)
  | [], a, σ => junkR σ[l]? (.ok (.inl a) σ)
  | x :: xs, a, σ => junkR σ[l]? ((body x a σ).bind fun r σ => match r with
      | .inl a => loopZ body l xs a σ
      | .inr v => .ok (.inr v) σ)
noncomputable def loopL (body : PV → α → St → R (Sum α PV)) (l : Nat) : Nat → Nat → α → St → R (Sum α PV)
  | 0, _, _, _ => .stuck
  | k + 1, i, a, σ => lstO σ[l]? fun xs => endO xs[i]? (.ok (.inl a) σ) fun x => (body x a σ).bind fun r σ => match r with
      | .inl a => loopL body l k (i + 1) a σ
      | .inr v => .ok (.inr v) σ
end
noncomputable def loopFuel : Nat := 2000
noncomputable def loopS {α : Type} (body : PV → α → St → R (Sum α PV)) (s : Src) (a : α) (σ : St) : R (Sum α PV) := match s with
  | .imm xs => loopI body xs a σ
  | .lst l => loopL body l loopFuel 0 a σ
  | .zip xs l => loopZ body l xs a σ

structure Tb where
  F : Nat → List PV → St → R PV
  ME : Nat → Nat → Option Nat
  IN : Nat → Option Nat

noncomputable def setAll (fr : Fr) : List Nat → List PV → Option Fr
  | [], [] => some fr
  | i :: is, v :: vs => if i < fr.length then setAll (fr.set i (some v)) is vs else .none
  | _, _ => .none
noncomputable def bindT (fr : Fr) (tgt : List Nat) (isTup : Bool) (v : PV) : Option Fr :=
  if isTup then (match v with
    | .tup vs => setAll fr tgt vs
    | _ => .none)
  else (match tgt with
    | [i] => setAll fr [i] [v]
    | _ => .none)

section
variable (ev : IE → St → R PV)
noncomputable def evList : List IE → St → R (List PV)
  | [], σ => .ok [] σ
  | e :: es, σ => (ev e σ).bind fun v σ => (evList es σ).bind fun vs σ => .ok (v :: vs) σ
noncomputable def evPairs : List (IE × IE) → St → R (List (PV × PV))
  | [], σ => .ok [] σ
  | e :: es, σ => (ev e.1 σ).bind fun k σ => (ev e.2 σ).bind fun v σ => (evPairs es σ).bind fun vs σ => .ok ((k, v) :: vs) σ
noncomputable def evOpt : Option IE → St → R (Option PV)
  | .none, σ => .ok .none σ
  | some e, σ => (ev e σ).bind fun v σ => .ok (some v) σ
noncomputable def evChain (a : PV) : List (CmpOp × IE) → St → R Bool
  | [], _ => .stuck
  | [p], σ => (ev p.2 σ).bind fun b σ => cmpR p.1 a b σ
  | p :: q :: r, σ => (ev p.2 σ).bind fun b σ => (cmpR p.1 a b σ).bind fun t σ => if t then evChain b (q :: r) σ else .ok false σ
noncomputable def evBop (isAnd : Bool) : List IE → St → R PV
  | [], _ => .stuck
  | [e], σ => ev e σ
  | e :: f :: r, σ => (ev e σ).bind fun v σ => (truR v σ).bind fun t σ => if t == isAnd then evBop isAnd (f :: r) σ else .ok v σ
variable (ec : IE → St → R Bool)
noncomputable def evAll (isAnd : Bool) : List IE → St → R Bool
  | [], σ => .ok isAnd σ
  | e :: r, σ => (ec e σ).bind fun t σ => if t == isAnd then evAll isAnd r σ else .ok t σ
noncomputable def evIfs : List IE → St → R Bool
  | [], σ => .ok true σ
  | e :: r, σ => (ec e σ).bind fun t σ => if t then evIfs r σ else .ok false σ
end

noncomputable def dictAll : List (PV × PV) → List (PV × PV) → Option (List (PV × PV))
  | acc, [] => some acc
  | acc, e :: r => if keysLike e.1 acc then dictAll (dset e.1 e.2 acc) r else .none

noncomputable def umK (F : Nat → List PV → St → R PV) (args : St → R (List PV)) (x : PV) (o1 : Option Nat) (o2 : Option PV) (σ : St) : R PV := match o1 with
  | some f => (match o2 with
    | .none => (args σ).bind fun vs σ => F f (x :: vs) σ
    | some _ => .stuck)
  | .none => .stuck
noncomputable def umR (T : Tb) (args : St → R (List PV)) (m : Nat) (x : PV) (o : Option PO) (σ : St) : R PV := match o with
  | some (.inst c fs) => umK T.F args x (T.ME c m) (fs.lookup m) σ
  | _ => .stuck
noncomputable def umE (T : Tb) (args : St → R (List PV)) (m : Nat) (x : PV) (σ : St) : R PV := match x with
  | .loc l => umR T args m x σ[l]? σ
  | _ => .stuck
noncomputable def emL (ev : Fr → IE → St → R PV) (ielt : IE) (fr : Fr) (acc : List PV) (σ : St) : R (List PV) := (ev fr ielt σ).bind fun v σ => if szOK acc.length then .ok (acc ++ [v]) σ else .stuck
noncomputable def srcF (ev : Fr → IE → St → R PV) (kind : Nat) (its : List IE) (fr : Fr) (σ : St) : R Src := (evList (ev fr) its σ).bind fun vs σ => srcR kind vs σ
noncomputable def compBody {α : Type} (ec : Fr → IE → St → R Bool) (em : Fr → α → St → R α) (tgt : List Nat) (isTup : Bool) (ifs : List IE) (x : PV) (p : Fr × α) (σ : St) : R (Sum (Fr × α) PV) := match bindT p.1 tgt isTup x with
  | .none => .stuck
  | some fr' => (evIfs (ec fr') ifs σ).bind fun t σ => if t then (em fr' p.2 σ).bind fun a σ => .ok (.inl (fr', a)) σ else .ok (.inl (fr', p.2)) σ
noncomputable def compEnd {α : Type} (po : α → PO) (r : Sum (Fr × α) PV) (σ : St) : R PV := match r with
  | .inl p => alloc (po p.2) σ
  | .inr _ => .stuck
/-- what a comprehension gives -/
noncomputable def compR {α : Type} (ec : Fr → IE → St → R Bool) (em : Fr → α → St → R α) (po : α → PO) (a0 : α) (tgt : List Nat) (isTup : Bool) (iifs : List IE) (fsrc : Fr → St → R Src) (base width : Nat) (fr : Fr) (σ : St) : R PV :=
  noExc (if fr.length = base then (fsrc fr σ).bind fun src σ => (loopS (compBody ec em tgt isTup iifs) src (fr ++ List.replicate width none, a0) σ).bind (compEnd po) else .stuck)
noncomputable def forBody (evT : Fr → IT → PV → St → R Fr) (evSs : Fr → List IS → St → R Fl) (t : IT) (b : List IS) (x : PV) (fr : Fr) (σ : St) : R (Sum Fr PV) := (evT fr t x σ).bind fun fr σ => (evSs fr b σ).bind fun fl σ => match fl with
  | .next fr => .ok (.inl fr) σ
  | .ret v => .ok (.inr v) σ
noncomputable def forEnd (r : Sum Fr PV) (σ : St) : R Fl := match r with
  | .inl fr => .ok (.next fr) σ
  | .inr v => .ok (.ret v) σ
mutual
noncomputable def evE (T : Tb) : Nat → Fr → IE → St → R PV
  | 0, _, _, _ => .stuck
  | n + 1, fr, e, σ => match e with
    | .cst v => .ok v σ
    | .var i => match fr[i]? with
        | some (some v) => .ok v σ
        | _ => .stuck
    | .neg e => (evE T n fr e σ).bind fun v σ => match v with
        | .int i => .ok (.int (-i)) σ
        | _ => .stuck
    | .not e => (evE T n fr e σ).bind fun v σ => (truR v σ).bind fun b σ => .ok (.bool (!b)) σ
    | .bop isAnd es => evBop (evE T n fr) isAnd es σ
    | .ite c t e => (evC T n fr c σ).bind fun b σ => if b then evE T n fr t σ else evE T n fr e σ
    | .bin op a b => (evE T n fr a σ).bind fun x σ => (evE T n fr b σ).bind fun y σ => binop op x y σ
    | .cmp a rest => (evE T n fr a σ).bind fun x σ => (evChain (evE T n fr) x rest σ).bind fun b σ => .ok (.bool b) σ
    | .list es => (evList (evE T n fr) es σ).bind fun vs σ => if szOK vs.length then alloc (.list vs) σ else .stuck
    | .tup es => (evList (evE T n fr) es σ).bind fun vs σ => if szOK vs.length then .ok (.tup vs) σ else .stuck
    | .dict kvs => if kvs.length ≤ 15 then (evPairs (evE T n fr) kvs σ).bind fun ps σ => match dictAll [] ps with
        | some es => alloc (.dict es) σ
        | .none => .stuck
      else .stuck
    | .call f es => (evList (evE T n fr) es σ).bind fun vs σ => T.F f vs σ
    | .new c es => (evList (evE T n fr) es σ).bind fun vs σ => match (if c < NC then T.IN c else .none) with
        | some f => (alloc (.inst c []) σ).bind fun o σ => (T.F f (o :: vs) σ).bind fun r σ => match r with
            | .none => .ok o σ
            | _ => .stuck
        | .none => .stuck
    | .blt b es => (evList (evE T n fr) es σ).bind fun vs σ => builtin b vs σ
    | .meth m o es => (evE T n fr o σ).bind fun x σ => if isStr x then (evList (evE T n fr) es σ).bind fun vs σ => method m x vs σ else .stuck
    | .umeth m o es => (evE T n fr o σ).bind fun x σ => umE T (evList (evE T n fr) es) m x σ
    | .attr o a => (evE T n fr o σ).bind fun x σ => getattr x a σ
    | .isLet c e line col => match σ[(1 : Nat)]? with
        | some (.tab ks) => if (line, col) ∈ ks then .stuck else match evE T n fr e (σ.set 1 (.tab ((line, col) :: ks))) with
            | .ok _ σ => .ok (.bool true) σ
            | .exc c' σ => if c = c' then .ok (.bool false) σ else .stuck
            | .stuck => .stuck
        | _ => .stuck
    | .sub o i => (evE T n fr o σ).bind fun x σ => (evE T n fr i σ).bind fun y σ => subscr x y σ
    | .slice o lo hi => (evE T n fr o σ).bind fun x σ => (evOpt (evE T n fr) lo σ).bind fun a σ => (evOpt (evE T n fr) hi σ).bind fun b σ => sliced x a b σ
    | .comp elt val tgt isTup kind its ifs base width => match val with
        | .none => compR (evC T n) (emL (evE T n) elt) .list [] tgt isTup ifs (srcF (evE T n) kind its) base width fr σ
        | some _ => .stuck
noncomputable def evC (T : Tb) : Nat → Fr → IE → St → R Bool
  | 0, _, _, _ => .stuck
  | n + 1, fr, e, σ => match e with
    | .not e => (evC T n fr e σ).bind fun b σ => .ok (!b) σ
    | .bop isAnd es => evAll (evC T n fr) isAnd es σ
    | .ite c t e => (evC T n fr c σ).bind fun b σ => if b then evC T n fr t σ else evC T n fr e σ
    | .cmp a rest => (evE T n fr a σ).bind fun x σ => evChain (evE T n fr) x rest σ
    | e => (evE T n fr e σ).bind fun v σ => truR v σ
end

/-! targets -/
mutual
noncomputable def evT (T : Tb) : Nat → Fr → IT → PV → St → R Fr
  | 0, _, _, _, _ => .stuck
  | n + 1, fr, t, v, σ => match t with
    | .name i => if i < fr.length then .ok (fr.set i (some v)) σ else .stuck
    | .tup ts => match itemsOf σ v with
        | some vs => if ts.length = vs.length then evTs T n fr ts vs σ else .stuck
        | .none => .stuck
    | .attr o a => (evE T n fr o σ).bind fun x σ => (setattr x a v σ).bind fun _ σ => .ok fr σ
    | .sub o i => (evE T n fr o σ).bind fun x σ => (evE T n fr i σ).bind fun y σ => (setitem x y v σ).bind fun _ σ => .ok fr σ
noncomputable def evTs (T : Tb) : Nat → Fr → List IT → List PV → St → R Fr
  | 0, _, _, _, _ => .stuck
  | n + 1, fr, ts, vs, σ => match ts, vs with
    | [], [] => .ok fr σ
    | t :: ts, v :: vs => (evT T n fr t v σ).bind fun fr σ => evTs T n fr ts vs σ
    | _, _ => .stuck
end

mutual
noncomputable def evS (T : Tb) : Nat → Fr → IS → St → R Fl
  | 0, _, _, _ => .stuck
  | n + 1, fr, s, σ => match s with
    | .expr e => (evE T n fr e σ).bind fun _ σ => .ok (.next fr) σ
    | .ret e => (evE T n fr e σ).bind fun v σ => .ok (.ret v) σ
    | .asg t e => (evE T n fr e σ).bind fun v σ => (evT T n fr t v σ).bind fun fr σ => .ok (.next fr) σ
    | .ife c t e => (evC T n fr c σ).bind fun b σ => if b then evSs T n fr t σ else evSs T n fr e σ
    | .forr t kind its b => (srcF (evE T n) kind its fr σ).bind fun src σ => (loopS (forBody (evT T n) (evSs T n) t b) src fr σ).bind forEnd
    | .raise c => .exc c σ
noncomputable def evSs (T : Tb) : Nat → Fr → List IS → St → R Fl
  | 0, _, _, _ => .stuck
  | n + 1, fr, ss, σ => match ss with
    | [] => .ok (.next fr) σ
    | s :: ss => (evS T n fr s σ).bind fun fl σ => match fl with
        | .next fr => evSs T n fr ss σ
        | .ret v => .ok (.ret v) σ
end

structure Fn where
  nargs : Nat
  width : Nat
  body : List IS
deriving Inhabited

noncomputable def fuel0 : Nat := 200
noncomputable def runFn (T : Tb) (f : Fn) (args : List PV) (σ : St) : R PV :=
  if args.length = f.nargs ∧ f.nargs ≤ f.width then
    match evSs T fuel0 (args.map some ++ List.replicate (f.width - f.nargs) .none) f.body σ with
    | .ok (.ret v) σ => .ok v σ
    | .ok (.next _) σ => .ok .none σ
    | .exc c σ => .exc c σ
    | .stuck => .stuck
  else .stuck

end Mine
end

section
set_option autoImplicit false
set_option linter.unusedVariables false
namespace Mine
open PySem PySem.W PyProof.Rows

abbrev Rho := List (Addr × Option Addr)
noncomputable def ownedOf (p : Addr × Option Addr) : List Addr := p.1 :: p.2.toList
noncomputable def owned (ρ : Rho) : List Addr := ρ.flatMap ownedOf
theorem owned_append (ρ τ : Rho) : owned (ρ ++ τ) = owned ρ ++ owned τ := by simp [owned]
theorem mem_owned_fst {ρ : Rho} {i : Nat} {p : Addr × Option Addr} (h : ρ[i]? = some p) : p.1 ∈ owned ρ :=
  List.mem_flatMap.mpr ⟨p, List.mem_of_getElem? h, by simp [ownedOf]⟩
theorem mem_owned_snd {ρ : Rho} {i : Nat} {p : Addr × Option Addr} {d : Addr} (h : ρ[i]? = some p) (e : p.2 = some d) : d ∈ owned ρ :=
  List.mem_flatMap.mpr ⟨p, List.mem_of_getElem? h, by simp [ownedOf, e]⟩

set_option genInjectivity false in
set_option genSizeOf false in
structure Cx where
  prog : Program
  w : World
  base : Heap
  attrs : List Str
  cls : Nat → Addr
  fzo : Obj
  fa : Nat → Addr
  tabP : Addr
  mg : Str → Option Value
  mb : Str → Option Value
  gns : base.Ns mainGlobals mg
  bns : base.Ns builtinsNs mb
  boot : ∀ x v, bootBuiltins x = some v → x ≠ "__name__" → mb x = some v
  K : Frag
  kin : K.In base
  attrLen : ND ≤ attrs.length
  attrShort : attrs.length ≤ 1000
  attrNodup : attrs.Nodup
  getOk : ∀ c a n, c < NC → a < ND → attrs[a]? = some n → plainGet K (cls c) n = true ∧ hasDictIn K (cls c) = true ∧ ∃ attr, findIn K (.ref (cls c)) n = some attr ∧ noGet K attr = true
  setOk : ∀ c a n, c < NC → a < ND → attrs[a]? = some n → findIn K (.ref (cls c)) "__setattr__" = some (some (.builtin "object.__setattr__")) ∧ plainOver K (cls c) = true ∧ takerIn K (cls c) n = some none

mutual
inductive VRep (h : Heap) (ρ : Rho) : PV → Value → Prop
  | none : VRep h ρ .none .none
  | bool (b : Bool) : VRep h ρ (.bool b) (.bool b)
  | int (i : Int) (t : Tok) : VRep h ρ (.int i) (.int i t)
  | str (x : Str) (t : Tok) : VRep h ρ (.str x) (.str x t)
  | bytes (b : Array UInt8) (t : Tok) : VRep h ρ (.bytes b) (.bytes b t)
  | tup {a : Addr} {items : Array Value} {l : List PV} : h.IsTuple a items → a ∉ owned ρ → VReps h ρ l items.toList → VRep h ρ (.tup l) (.ref a)
  | loc {i : Nat} {p : Addr × Option Addr} : ρ[i]? = some p → VRep h ρ (.loc i) (.ref p.1)
inductive VReps (h : Heap) (ρ : Rho) : List PV → List Value → Prop
  | nil : VReps h ρ [] []
  | cons {v : PV} {u : Value} {vs : List PV} {us : List Value} : VRep h ρ v u → VReps h ρ vs us → VReps h ρ (v :: vs) (u :: us)
end

/-- what a step leaves as it was -/
structure Step (W fs : List Addr) (ρ ρ' : Rho) (h h' : Heap) : Prop where
  pre : ∃ τ, ρ' = ρ ++ τ
  keep : ∀ a o, h.get? a = some o → a ∉ owned ρ → a ∉ W → (a ∉ fs → h'.get? a = some o) ∧ ∃ sl, h'.get? a = some { o with slots := sl }
  there : ∀ a o, h.get? a = some o → a ∉ W → ∃ o', h'.get? a = some o'
  fresh : ∀ a, a ∈ owned ρ' → a ∈ owned ρ ∨ h.get? a = none
  apart : ∀ a, a ∈ W → a ∈ owned ρ' → a ∈ owned ρ

section
variable {W W' fs : List Addr} {ρ ρ' ρ'' : Rho} {h h' h'' : Heap}
theorem Step.refl : Step W fs ρ ρ h h := ⟨⟨[], by simp⟩, fun _ o e _ _ => ⟨fun _ => e, o.slots, e⟩, fun _ o e _ => ⟨o, e⟩, fun _ q => .inl q, fun _ _ q => q⟩
theorem Step.offNew (S : Step W fs ρ ρ' h h') {a : Addr} {o : Obj} (e : h.get? a = some o) (n : a ∉ owned ρ) : a ∉ owned ρ' := fun q => by
  rcases S.fresh a q with q | q
  · exact n q
  · rw [e] at q; cases q
theorem Step.trans (S : Step W fs ρ ρ' h h') (T : Step W fs ρ' ρ'' h' h'') : Step W fs ρ ρ'' h h'' := by
  refine ⟨?_, fun a o e n nw => ?_, fun a o e nw => ?_, fun a q => ?_, fun a w q => S.apart a w (T.apart a w q)⟩
  · obtain ⟨τ, rfl⟩ := S.pre
    obtain ⟨τ', rfl⟩ := T.pre
    exact ⟨τ ++ τ', by simp⟩
  · have n' := S.offNew e n
    obtain ⟨k1, sl, k2⟩ := S.keep a o e n nw
    refine ⟨fun nf => ?_, ?_⟩
    · exact (T.keep a o (k1 nf) n' nw).1 nf
    · obtain ⟨_, sl', k3⟩ := T.keep a _ k2 n' nw
      exact ⟨sl', k3⟩
  · obtain ⟨o', e'⟩ := S.there a o e nw
    exact T.there a o' e' nw
  · rcases T.fresh a q with q1 | q1
    · exact S.fresh a q1
    · by_cases w : a ∈ W
      · exact .inl (S.apart a w (T.apart a w q))
      · right
        cases e : h.get? a with
        | none => rfl
        | some o => obtain ⟨o', e'⟩ := S.there a o e w; rw [e'] at q1; cases q1
/-- more may be written, of what stood there -/
theorem Step.mono (S : Step W fs ρ ρ' h h') (hW : ∀ a, a ∈ W → a ∈ W') (ht : ∀ a, a ∈ W' → ∃ o, h.get? a = some o) : Step W' fs ρ ρ' h h' :=
  ⟨S.pre, fun a o e n nw => S.keep a o e n (fun q => nw (hW a q)), fun a o e nw => S.there a o e fun q => nw (hW a q), S.fresh, fun a w q => by
    rcases S.fresh a q with q | q
    · exact q
    · obtain ⟨o, e⟩ := ht a w; rw [e] at q; cases q⟩
/-- all that stood stands: a thing was made, nothing turned -/
theorem Step.of_keeps (k : ∀ b o, h.get? b = some o → h'.get? b = some o) : Step W fs ρ ρ h h' :=
  ⟨⟨[], by simp⟩, fun a o e _ _ => ⟨fun _ => k a o e, o.slots, k a o e⟩, fun a o e _ => ⟨o, k a o e⟩, fun _ q => .inl q, fun _ _ q => q⟩
/-- a new owned thing -/
theorem Step.grow (k : ∀ b o, h.get? b = some o → h'.get? b = some o) {τ : Rho} (hn : ∀ a, a ∈ owned τ → h.get? a = none) : Step [] fs ρ (ρ ++ τ) h h' :=
  ⟨⟨τ, rfl⟩, fun a o e _ _ => ⟨fun _ => k a o e, o.slots, k a o e⟩, fun a o e _ => ⟨o, k a o e⟩, fun a q => by
    rw [owned_append] at q
    rcases List.mem_append.mp q with q | q
    · exact .inl q
    · exact .inr (hn a q), fun _ w => nomatch w⟩
/-- one owned thing is turned -/
theorem Step.turn {a : Addr} (ha : a ∈ owned ρ ∨ a ∈ W) (hs : Heap.SameBut a h h') (ht : ∃ o, h'.get? a = some o) : Step W fs ρ ρ h h' := by
  refine ⟨⟨[], by simp⟩, fun b o e n nw => ?_, fun b o e _ => ?_, fun _ q => .inl q, fun _ _ q => q⟩
  · have hb : b ≠ a := fun q => by subst q; rcases ha with ha | ha; exact n ha; exact nw ha
    exact ⟨fun _ => (hs.2 b hb).trans e, o.slots, (hs.2 b hb).trans e⟩
  · by_cases hb : b = a
    · subst hb; exact ht
    · exact ⟨o, (hs.2 b hb).trans e⟩
/-- one thing aside, all stands -/
theorem Step.extBut {a : Addr} (ha : a ∈ W) (hs : Heap.ExtBut a h h') : Step W fs ρ ρ h h' := by
  refine ⟨⟨[], by simp⟩, fun b o e n nw => ?_, fun b o e nw => ?_, fun _ q => .inl q, fun _ _ q => q⟩
  · have hb : b ≠ a := fun q => by subst q; exact nw ha
    exact ⟨fun _ => hs b o hb e, o.slots, hs b o hb e⟩
  · exact ⟨o, hs b o (fun q => by subst q; exact nw ha) e⟩

theorem isTuple_step (S : Step W fs ρ ρ' h h') {a : Addr} {items : Array Value} (n : a ∉ owned ρ) (nw : a ∉ W) (x : h.IsTuple a items) : h'.IsTuple a items := by
  obtain ⟨o, ho, hc, k, hd⟩ := x
  obtain ⟨_, sl, e⟩ := S.keep a o ho n nw
  exact ⟨_, e, hc, k, hd⟩
theorem isList_step (S : Step W fs ρ ρ' h h') {a : Addr} {items : Array Value} (n : a ∉ owned ρ) (nw : a ∉ W) (x : h.IsList a items) : h'.IsList a items := by
  obtain ⟨o, ho, hc, k, hd⟩ := x
  obtain ⟨_, sl, e⟩ := S.keep a o ho n nw
  exact ⟨_, e, hc, k, hd⟩

/-- no sequence stands where W points -/
noncomputable def NoSeq (W : List Addr) (h : Heap) : Prop := ∀ a, a ∈ W → ∀ items, ¬ h.IsTuple a items
theorem noSeq_tuple {a : Addr} {items : Array Value} (N : NoSeq W h) (x : h.IsTuple a items) : a ∉ W := fun q => N a q items x

theorem loc_step (S : Step W fs ρ ρ' h h') {i : Nat} {p : Addr × Option Addr} (hi : ρ[i]? = some p) : ρ'[i]? = some p := by
  obtain ⟨τ, rfl⟩ := S.pre
  rw [List.getElem?_append_left (List.getElem?_eq_some_iff.mp hi).1]
  exact hi
theorem VRep.step (S : Step W fs ρ ρ' h h') (N : NoSeq W h) {v : PV} {u : Value} (r : VRep h ρ v u) : VRep h' ρ' v u :=
  VRep.rec (motive_1 := fun v u _ => VRep h' ρ' v u) (motive_2 := fun v u _ => VReps h' ρ' v u) .none .bool .int .str .bytes
    (fun ht n _ r => .tup (isTuple_step S n (noSeq_tuple N ht) ht) (let ⟨_, ho, _⟩ := ht; S.offNew ho n) r) (fun hi => .loc (loc_step S hi)) .nil (fun _ _ a r => .cons a r) r
theorem VReps.step (S : Step W fs ρ ρ' h h') (N : NoSeq W h) {v : List PV} {u : List Value} (r : VReps h ρ v u) : VReps h' ρ' v u :=
  VReps.rec (motive_1 := fun v u _ => VRep h' ρ' v u) (motive_2 := fun v u _ => VReps h' ρ' v u) .none .bool .int .str .bytes
    (fun ht n _ r => .tup (isTuple_step S n (noSeq_tuple N ht) ht) (let ⟨_, ho, _⟩ := ht; S.offNew ho n) r) (fun hi => .loc (loc_step S hi)) .nil (fun _ _ a r => .cons a r) r
theorem noSeq_nil : NoSeq [] h := fun _ q => nomatch q
end

section
variable {h h' : Heap} {ρ ρ' : Rho}
theorem VReps.ind {P : (l : List PV) → (us : List Value) → VReps h ρ l us → Prop} (nil : P [] [] .nil) (cons : ∀ {v : PV} {u : Value} {vs : List PV} {us : List Value} (a : VRep h ρ v u) (r : VReps h ρ vs us), P vs us r → P (v :: vs) (u :: us) (.cons a r))
    {l : List PV} {us : List Value} (r : VReps h ρ l us) : P l us r :=
  VReps.rec (motive_1 := fun _ _ _ => True) (motive_2 := P) trivial (fun _ => trivial) (fun _ _ => trivial) (fun _ _ => trivial) (fun _ _ => trivial) (fun _ _ _ _ => trivial) (fun _ => trivial) nil (fun a r _ ih => cons a r ih) r
theorem VReps.length {l : List PV} {us : List Value} (r : VReps h ρ l us) : l.length = us.length := by
  induction r using VReps.ind with
  | nil => rfl
  | cons a r ih => exact congrArg (· + 1) ih
theorem VReps.append {l m : List PV} {us ws : List Value} (r : VReps h ρ l us) (k : VReps h ρ m ws) : VReps h ρ (l ++ m) (us ++ ws) := by
  induction r using VReps.ind with
  | nil => exact k
  | cons a r ih => exact .cons a ih
theorem VReps.get {l : List PV} {us : List Value} (r : VReps h ρ l us) : ∀ {i : Nat} {v : PV}, l[i]? = some v → ∃ u, us[i]? = some u ∧ VRep h ρ v u := by
  induction r using VReps.ind with
  | nil => exact fun e => nomatch e
  | cons a r ih =>
    intro i v e
    cases i with
    | zero => cases e; exact ⟨_, rfl, a⟩
    | succ i => exact ih e
theorem VReps.getU {l : List PV} {us : List Value} (r : VReps h ρ l us) : ∀ {i : Nat} {u : Value}, us[i]? = some u → ∃ v, l[i]? = some v ∧ VRep h ρ v u := by
  induction r using VReps.ind with
  | nil => exact fun e => nomatch e
  | cons a r ih =>
    intro i v e
    cases i with
    | zero => cases e; exact ⟨_, rfl, a⟩
    | succ i => exact ih e
theorem VReps.drop {l : List PV} {us : List Value} (r : VReps h ρ l us) : ∀ n : Nat, VReps h ρ (l.drop n) (us.drop n) := by
  induction r using VReps.ind with
  | nil => intro n; rw [List.drop_nil, List.drop_nil]; exact .nil
  | cons a r ih =>
    intro n
    cases n with
    | zero => exact .cons a r
    | succ n => exact ih n
theorem VReps.take {l : List PV} {us : List Value} (r : VReps h ρ l us) : ∀ n : Nat, VReps h ρ (l.take n) (us.take n) := by
  induction r using VReps.ind with
  | nil => intro n; rw [List.take_nil, List.take_nil]; exact .nil
  | cons a r ih =>
    intro n
    cases n with
    | zero => exact .nil
    | succ n => exact .cons a (ih n)
theorem VReps.set {l : List PV} {us : List Value} (r : VReps h ρ l us) {v : PV} {u : Value} (q : VRep h ρ v u) : ∀ n : Nat, VReps h ρ (l.set n v) (us.set n u) := by
  induction r using VReps.ind with
  | nil => exact fun _ => .nil
  | cons a r ih =>
    intro n
    cases n with
    | zero => exact .cons q r
    | succ n => exact .cons a (ih n)
theorem VReps.strs : ∀ (ss : List Str) (us : List Value), us.length = ss.length → (∀ (i : Nat) (x : Str), ss[i]? = some x → ∃ t, us[i]? = some (Value.str x t)) → VReps h ρ (ss.map PV.str) us := by
  intro ss
  induction ss with
  | nil => intro us e _; cases us with
    | nil => exact .nil
    | cons _ _ => cases e
  | cons x ss ih => intro us e k; cases us with
    | nil => cases e
    | cons u us =>
      obtain ⟨t, q⟩ := k 0 x rfl
      cases q
      exact .cons (.str x t) (ih us (Nat.succ.inj e) fun i y hy => k (i + 1) y hy)
end

inductive KVs (h : Heap) (ρ : Rho) : List (PV × PV) → List (Str × Value) → Prop
  | nil : KVs h ρ [] []
  | cons {k : Str} {v : PV} {u : Value} {es : List (PV × PV)} {kvs : List (Str × Value)} : VRep h ρ v u → KVs h ρ es kvs → KVs h ρ ((.str k, v) :: es) ((k, u) :: kvs)

noncomputable def DRep (X : Cx) (h : Heap) (ρ : Rho) (es : List (PV × PV)) (a : Addr) : Prop := a ≠ sysModules ∧ ∃ kvs : List (Str × Value), h.DictOf (strKind X.prog X.w) a kvs ∧ KVs h ρ es kvs

noncomputable def FsRep (X : Cx) (h : Heap) (ρ : Rho) (fs : List (Nat × PV)) (m : Str → Option Value) : Prop :=
  ∀ (k : Nat) (n : Str), X.attrs[k]? = some n → match fs.lookup k with
    | some v => ∃ u, m n = some u ∧ VRep h ρ v u
    | none => m n = none

inductive ORep (X : Cx) (h : Heap) (ρ : Rho) : PO → Addr × Option Addr → Prop
  | list {xs : List PV} {a : Addr} {items : Array Value} : h.PlainList a items → VReps h ρ xs items.toList → ORep X h ρ (.list xs) (a, none)
  | frz {xs : List PV} {a : Addr} {items : Array Value} {n : Nat} : h.get? a = some X.fzo → X.fzo.cls = .type "list" → X.fzo.data = .seq items n → VReps h ρ xs items.toList → ORep X h ρ (.frz xs) (a, none)
  | junk {a : Addr} {x y : Value} : h.get? a = some { cls := .type "tuple", data := .seq #[x, y] } → ORep X h ρ .junk (a, none)
  | tab {ks : List (Nat × Nat)} {ps : Array Value} : h.get? X.tabP = some (tabObj ps) → TriplesOk ps.toList → (∀ pos : Pos, (pos.line, pos.col) ∉ ks → codeAmong pos ps.toList = none) → ORep X h ρ (.tab ks) (X.tabP, none)
  | dict {es : List (PV × PV)} {a : Addr} : DRep X h ρ es a → ORep X h ρ (.dict es) (a, none)
  | inst {c : Nat} {fs : List (Nat × PV)} {a dx : Addr} {ox : Obj} {m : Str → Option Value} : c < NC → h.get? a = some ox → ox.cls = .ref (X.cls c) → ox.dict = some dx → ox.data = .plain →
      h.Ns1 dx m → Within m X.attrs → FsRep X h ρ fs m → ORep X h ρ (.inst c fs) (a, some dx)

structure Rp (X : Cx) (ρ : Rho) (σ : St) (h : Heap) : Prop where
  base : X.base.StaysIn h
  len : ρ.length = σ.length
  nodup : (owned ρ).Nodup
  off : ∀ a, a ∈ owned ρ → X.base.get? a = none
  fz : ∃ xs, σ[0]? = some (.frz xs)
  objs : ∀ (i : Nat) (p : Addr × Option Addr) (o : PO), ρ[i]? = some p → σ[i]? = some o → ORep X h ρ o p

section
variable {X : Cx} {ρ ρ' : Rho} {h h' : Heap} {W fs : List Addr}
theorem KVs.step (S : Step W fs ρ ρ' h h') (N : NoSeq W h) {es : List (PV × PV)} {kvs : List (Str × Value)} (r : KVs h ρ es kvs) : KVs h' ρ' es kvs := by
  induction r with
  | nil => exact .nil
  | cons a _ ih => exact .cons (a.step S N) ih
theorem FsRep.step (S : Step W fs ρ ρ' h h') (N : NoSeq W h) {l : List (Nat × PV)} {m : Str → Option Value} (r : FsRep X h ρ l m) : FsRep X h' ρ' l m := fun k n e => by
  have q := r k n e
  split
  · rename_i v hv
    rw [hv] at q
    obtain ⟨u, a, b⟩ := q
    exact ⟨u, a, b.step S N⟩
  · rename_i hv
    rw [hv] at q
    exact q
/-- an owned thing that itself was left alone -/
theorem own1 {p : Addr × Option Addr} : p.1 ∈ ownedOf p := List.mem_cons_self
theorem own2 {a d : Addr} : d ∈ ownedOf (a, some d) := List.mem_cons_of_mem _ List.mem_cons_self
theorem ORep.step (S : Step W fs ρ ρ' h h') (N : NoSeq W h) {o : PO} {p : Addr × Option Addr} (r : ORep X h ρ o p) (k : ∀ a, a ∈ ownedOf p → ∀ ob, h.get? a = some ob → h'.get? a = some ob) : ORep X h' ρ' o p := by
  cases r with
  | list hl r => exact .list (hl.at (k _ own1)) (r.step S N)
  | frz h1 h2 h3 r => exact .frz (k _ own1 _ h1) h2 h3 (r.step S N)
  | junk h1 => exact .junk (k _ own1 _ h1)
  | tab h1 h2 h3 => exact .tab (k _ own1 _ h1) h2 h3
  | dict d =>
    obtain ⟨ns, kvs, d, r⟩ := d
    exact .dict ⟨ns, kvs, d.at (k _ own1), r.step S N⟩
  | inst h0 h1 h2 h3 h4 h5 hw h6 => exact .inst h0 (k _ own1 _ h1) h2 h3 h4 (h5.at fun o e => k _ own2 _ e) hw (h6.step S N)
theorem ORep.there {o : PO} {p : Addr × Option Addr} (r : ORep X h ρ o p) {a : Addr} (ha : a ∈ ownedOf p) : ∃ ob, h.get? a = some ob := by
  cases r with
  | list hl _ => obtain ⟨n, e⟩ := hl; cases List.mem_singleton.mp ha; exact ⟨_, e⟩
  | frz h1 _ _ _ => cases List.mem_singleton.mp ha; exact ⟨_, h1⟩
  | junk h1 => cases List.mem_singleton.mp ha; exact ⟨_, h1⟩
  | tab h1 _ _ => cases List.mem_singleton.mp ha; exact ⟨_, h1⟩
  | dict d =>
    obtain ⟨_, _, ⟨o, _, _, e, _⟩, _⟩ := d
    cases List.mem_singleton.mp ha; exact ⟨o, e⟩
  | inst _ h1 _ _ _ h5 _ _ =>
    obtain ⟨o, _, _, ho, _⟩ := h5
    rcases List.mem_cons.mp ha with e | ha
    · cases e; exact ⟨_, h1⟩
    · cases List.mem_singleton.mp ha; exact ⟨_, ho⟩
theorem Rp.there {σ : St} (I : Rp X ρ σ h) {a : Addr} (ha : a ∈ owned ρ) : ∃ ob, h.get? a = some ob := by
  obtain ⟨p, hp, ha⟩ := List.mem_flatMap.mp ha
  obtain ⟨i, hi⟩ := List.getElem?_of_mem hp
  have hlt : i < σ.length := I.len ▸ (List.getElem?_eq_some_iff.mp hi).1
  exact (I.objs i p _ hi (List.getElem?_eq_getElem hlt)).there ha
theorem Rp.offNew {σ : St} (I : Rp X ρ σ h) {a : Addr} (e : h.get? a = none) : a ∉ owned ρ := fun q => by
  obtain ⟨ob, k⟩ := I.there q
  rw [e] at k; cases k
theorem get?_size (h : Heap) : h.get? h.objs.size = none := by
  cases e : h.get? h.objs.size with
  | none => rfl
  | some o => exact absurd (Heap.lt_size e) (Nat.lt_irrefl _)
theorem Rp.size_off {σ : St} (I : Rp X ρ σ h) : h.objs.size ∉ owned ρ := I.offNew (get?_size h)
theorem Rp.size_ne {σ : St} (I : Rp X ρ σ h) : h.objs.size ≠ sysModules := fun q => by
  obtain ⟨o, _, _, e, _⟩ := X.gns
  have := Heap.lt_size (I.base _ _ e)
  rw [q] at this
  exact absurd this (by decide)
/-- nothing owned was turned -/
theorem Rp.keeps {σ : St} (I : Rp X ρ σ h) (k : ∀ b o, h.get? b = some o → h'.get? b = some o) : Rp X ρ σ h' :=
  ⟨fun b o e => k b o (I.base b o e), I.len, I.nodup, I.off, I.fz, fun i p o a b => (I.objs i p o a b).step (W := []) (fs := []) (Step.of_keeps k) noSeq_nil fun x _ ob e => k x ob e⟩
theorem nodup_ownedOf {ρ : Rho} (n : (owned ρ).Nodup) {i j : Nat} {p q : Addr × Option Addr} (hi : ρ[i]? = some p) (hj : ρ[j]? = some q) {a : Addr} (hp : a ∈ ownedOf p) (hq : a ∈ ownedOf q) : i = j := by
  induction ρ generalizing i j with
  | nil => simp at hi
  | cons r ρ ih =>
    have e : owned (r :: ρ) = ownedOf r ++ owned ρ := by simp [owned]
    rw [e, List.nodup_append] at n
    obtain ⟨_, n2, n3⟩ := n
    have out : ∀ (k : Nat) (p : Addr × Option Addr), ρ[k]? = some p → a ∈ ownedOf p → a ∈ owned ρ := fun k p hk hm => List.mem_flatMap.mpr ⟨p, List.mem_of_getElem? hk, hm⟩
    cases i with
    | zero =>
      cases j with
      | zero => rfl
      | succ j => simp at hi hj; subst hi; exact absurd rfl (n3 a hp a (out j q hj hq))
    | succ i =>
      cases j with
      | zero => simp at hi hj; subst hj; exact absurd rfl (n3 a hq a (out i p hi hp))
      | succ j => simp at hi hj; rw [ih n2 hi hj]
/-- one owned thing is turned into another -/
theorem Rp.turn {σ : St} (I : Rp X ρ σ h) {l : Nat} {p : Addr × Option Addr} {po : PO} (hl : ρ[l]? = some p) (nf : ∀ xs, σ[l]? ≠ some (.frz xs)) {a : Addr} (ha : a ∈ ownedOf p) (hs : Heap.SameBut a h h') (ht : ∃ o, h'.get? a = some o)
    (hr : Step [] [] ρ ρ h h' → ORep X h' ρ po p) : Rp X ρ (σ.set l po) h' := by
  have S : Step [] [] ρ ρ h h' := Step.turn (.inl (List.mem_flatMap.mpr ⟨p, List.mem_of_getElem? hl, ha⟩)) hs ht
  refine ⟨fun b o e => ?_, by simpa using I.len, I.nodup, I.off, ?_, fun i q o hi ho => ?_⟩
  · have : b ≠ a := fun z => by
      subst z
      rw [I.off _ (List.mem_flatMap.mpr ⟨p, List.mem_of_getElem? hl, ha⟩)] at e; cases e
    exact (hs.2 b this).trans (I.base b o e)
  · obtain ⟨xs, e⟩ := I.fz
    have : l ≠ 0 := fun z => by subst z; exact nf xs e
    exact ⟨xs, by rw [List.getElem?_set_ne this]; exact e⟩
  · by_cases e : i = l
    · subst e
      rw [hl] at hi
      cases hi
      have : i < σ.length := I.len ▸ (List.getElem?_eq_some_iff.mp hl).1
      rw [List.getElem?_set_self this] at ho
      cases ho
      exact hr S
    · rw [List.getElem?_set_ne (Ne.symm e)] at ho
      refine (I.objs i q o hi ho).step S noSeq_nil fun x hx ob eo => ?_
      have : x ≠ a := fun z => by subst z; exact e (nodup_ownedOf I.nodup hi hl hx ha)
      exact (hs.2 x this).trans eo
/-- a new owned thing -/
theorem Rp.grow {σ : St} (I : Rp X ρ σ h) (k : ∀ b o, h.get? b = some o → h'.get? b = some o) {p : Addr × Option Addr} {po : PO} (hn : ∀ a, a ∈ ownedOf p → h.get? a = none) (hd : (ownedOf p).Nodup)
    (hr : Step [] [] ρ (ρ ++ [p]) h h' → ORep X h' (ρ ++ [p]) po p) : Rp X (ρ ++ [p]) (σ ++ [po]) h' := by
  have S : Step [] [] ρ (ρ ++ [p]) h h' := Step.grow k fun a q => hn a (by simpa [owned] using q)
  have e1 : owned (ρ ++ [p]) = owned ρ ++ ownedOf p := by simp [owned]
  have off : ∀ a, a ∈ ownedOf p → X.base.get? a = none := fun a q => by
    cases e : X.base.get? a with
    | none => rfl
    | some o => have := I.base a o e; rw [hn a q] at this; cases this
  refine ⟨fun b o e => k b o (I.base b o e), by simp [I.len], ?_, fun a q => ?_, ?_, fun i q o hi ho => ?_⟩
  · rw [e1, List.nodup_append]
    refine ⟨I.nodup, hd, fun a ha b hb e => ?_⟩
    subst e
    exact I.offNew (hn a hb) ha
  · rw [e1] at q
    rcases List.mem_append.mp q with q | q
    · exact I.off a q
    · exact off a q
  · obtain ⟨xs, e⟩ := I.fz
    exact ⟨xs, by rw [List.getElem?_append_left (List.getElem?_eq_some_iff.mp e).1]; exact e⟩
  · rcases Nat.lt_or_ge i ρ.length with hlt | hge
    · rw [List.getElem?_append_left hlt] at hi
      rw [List.getElem?_append_left (I.len ▸ hlt)] at ho
      exact (I.objs i q o hi ho).step S noSeq_nil fun x _ ob e => k x ob e
    · rw [List.getElem?_append_right hge] at hi
      rw [List.getElem?_append_right (I.len ▸ hge)] at ho
      have z : i - ρ.length = 0 := by
        cases q : i - ρ.length with
        | zero => rfl
        | succ n => rw [q] at hi; simp at hi
      have z' : i - σ.length = 0 := by rw [← I.len]; exact z
      rw [z] at hi
      rw [z'] at ho
      simp at hi ho
      subst hi
      subst ho
      exact hr S
end
end Mine
end

section
set_option autoImplicit false
set_option linter.unusedVariables false
namespace Mine
open PySem PySem.W PyProof.Rows

noncomputable def frameAddrs (env : Env) : List Addr := env.locals :: env.cells.map (·.2)

/-- a frame's names hold what the abstract frame says -/
structure FrR (X : Cx) (Γ : List (Str × Nat)) (env : Env) (fr : Fr) (ρ : Rho) (h : Heap) : Prop where
  kind : env.scope.kind = .function
  glob : env.globals = mainGlobals
  bi : env.builtins = builtinsNs
  kinds : ∀ n i, (n, i) ∈ Γ → env.kindOf n = some .local ∨ env.kindOf n = some .cell ∨ env.kindOf n = some .free
  inj : ∀ n n' i, (n, i) ∈ Γ → (n', i) ∈ Γ → n = n'
  one : ∀ n i i', (n, i) ∈ Γ → (n, i') ∈ Γ → i = i'
  ns : ∃ m, h.Ns env.locals m ∧ ∀ n i, (n, i) ∈ Γ → env.kindOf n = some .local → ∀ v, fr[i]? = some (some v) → ∃ u, m n = some u ∧ VRep h ρ v u
  cells : ∀ n i, (n, i) ∈ Γ → env.kindOf n = some .cell ∨ env.kindOf n = some .free → ∃ c cur, env.cells.lookup n = some c ∧ h.IsCell c cur ∧ ∀ v, fr[i]? = some (some v) → ∃ u, cur = some u ∧ VRep h ρ v u
  off : ∀ a, a ∈ frameAddrs env → a ∉ owned ρ ∧ X.base.get? a = none ∧ ∃ o, h.get? a = some o ∧ (∀ xs n, o.data ≠ .seq xs n) ∧ ∀ vs, o.data ≠ .fields vs
  apart : env.locals ∉ env.cells.map (·.2)
  once : ∀ n n' c, (n, c) ∈ env.cells → (n', c) ∈ env.cells → n = n'

theorem FrR.noSeq {X : Cx} {Γ : List (Str × Nat)} {env : Env} {fr : Fr} {ρ : Rho} {h : Heap} (F : FrR X Γ env fr ρ h) : NoSeq (frameAddrs env) h := fun a ha items ho => by
  obtain ⟨_, _, o', ho', q, _⟩ := F.off a ha
  obtain ⟨o, ho, _, n, hd⟩ := ho
  rw [ho] at ho'; cases ho'; exact q _ _ hd

theorem ns_slots {h h' : Heap} {a : Addr} {m : Str → Option Value} (hn : h.Ns a m) (k : ∀ o, h.get? a = some o → ∃ sl, h'.get? a = some { o with slots := sl }) : h'.Ns a m := by
  obtain ⟨o, es, ep, ho, hd, r⟩ := hn
  obtain ⟨sl, e⟩ := k o ho
  exact ⟨_, es, ep, e, hd, r⟩
theorem cell_slots {h h' : Heap} {a : Addr} {v : Option Value} (hn : h.IsCell a v) (k : ∀ o, h.get? a = some o → ∃ sl, h'.get? a = some { o with slots := sl }) : h'.IsCell a v := by
  obtain ⟨o, ho, hd⟩ := hn
  obtain ⟨sl, e⟩ := k o ho
  exact ⟨_, e, hd⟩
theorem lookup_mem {α β : Type} [BEq α] [LawfulBEq α] {l : List (α × β)} {n : α} {c : β} (h : l.lookup n = some c) : (n, c) ∈ l := by
  induction l with
  | nil => cases h
  | cons p r ih =>
    obtain ⟨k, v⟩ := p
    rw [List.lookup_cons] at h
    cases hb : n == k with
    | true => rw [hb] at h; cases h; rw [beq_iff_eq.mp hb]; exact List.mem_cons_self
    | false => rw [hb] at h; exact List.mem_cons_of_mem _ (ih h)

/-- what leaves the frame alone leaves its names alone -/
theorem FrR.stepW {X : Cx} {Γ : List (Str × Nat)} {env : Env} {fr : Fr} {ρ ρ' : Rho} {h h' : Heap} {W fs : List Addr} (F : FrR X Γ env fr ρ h) (S : Step W fs ρ ρ' h h') (hW : ∀ a, a ∈ frameAddrs env → a ∉ W) (N : NoSeq W h) : FrR X Γ env fr ρ' h' := by
  have kp : ∀ a, a ∈ frameAddrs env → ∀ o, h.get? a = some o → ∃ sl, h'.get? a = some { o with slots := sl } := fun a ha o ho => (S.keep a o ho (F.off a ha).1 (hW a ha)).2
  refine ⟨F.kind, F.glob, F.bi, F.kinds, F.inj, F.one, ?_, fun n i hi hk => ?_, fun a ha => ?_, F.apart, F.once⟩
  · obtain ⟨m, hn, r⟩ := F.ns
    refine ⟨m, ns_slots hn (kp _ (by simp [frameAddrs])), fun n i hi hk v hv => ?_⟩
    obtain ⟨u, e, q⟩ := r n i hi hk v hv
    exact ⟨u, e, q.step S N⟩
  · obtain ⟨c, cur, hc, hcell, r⟩ := F.cells n i hi hk
    refine ⟨c, cur, hc, cell_slots hcell (kp c (by simp [frameAddrs]; exact .inr ⟨n, lookup_mem hc⟩)), fun v hv => ?_⟩
    obtain ⟨u, e, q⟩ := r v hv
    exact ⟨u, e, q.step S N⟩
  · obtain ⟨a1, a2, o, ho, q1, q2⟩ := F.off a ha
    obtain ⟨sl, e⟩ := kp a ha o ho
    exact ⟨S.offNew ho a1, a2, _, e, q1, q2⟩
theorem FrR.step {X : Cx} {Γ : List (Str × Nat)} {env : Env} {fr : Fr} {ρ ρ' : Rho} {h h' : Heap} {fs : List Addr} (F : FrR X Γ env fr ρ h) (S : Step [] fs ρ ρ' h h') : FrR X Γ env fr ρ' h' := F.stepW S (by simp) noSeq_nil

theorem funFrames_get {h base : Heap} : ∀ {l : List Env}, h.FunFrames base l → ∀ L, L ∈ l.filterMap (·.frame) → base.get? L = none ∧ ∃ o, h.get? L = some o ∧ ∀ vs, o.data ≠ .fields vs :=
  fun hl _ hm => hl.mem hm
theorem funFrames_of {h h' base : Heap} {l : List Env} (f : h.FunFrames base l) (k : ∀ L, L ∈ l.filterMap (·.frame) → ∃ o, h'.get? L = some o ∧ ∀ vs, o.data ≠ .fields vs) : h'.FunFrames base l := by
  induction l with
  | nil => exact trivial
  | cons env r ih =>
    obtain ⟨hk, ⟨L, o, hf, hn, _, _⟩, hr⟩ := f
    have e0 : (env :: r).filterMap (·.frame) = L :: r.filterMap (·.frame) := by rw [List.filterMap_cons, hf]
    rw [e0] at k
    obtain ⟨o', e, q⟩ := k L List.mem_cons_self
    exact ⟨hk, ⟨L, o', hf, hn, e, q⟩, ih hr fun L' hL' => k L' (List.mem_cons_of_mem _ hL')⟩
/-- no frame is a sequence -/
noncomputable def NsqF (fs : List Addr) (h : Heap) : Prop := ∀ L, L ∈ fs → ∀ o, h.get? L = some o → ∀ xs n, o.data ≠ .seq xs n
/-- where the call stands -/
structure AOK (X : Cx) (A : Around) (fs : List Addr) (ρ : Rho) (h : Heap) : Prop where
  hd : A.handled = none
  fr : ∃ l, A.frames = some l ∧ fs = l.filterMap (·.frame) ∧ h.FunFrames X.base l
  off : ∀ L, L ∈ fs → L ∉ owned ρ
  nsq : NsqF fs h
theorem AOK.step {X : Cx} {A : Around} {W fs : List Addr} {ρ ρ' : Rho} {h h' : Heap} (a : AOK X A fs ρ h) (S : Step W fs ρ ρ' h h')
    (hW : ∀ L, L ∈ fs → L ∈ W → ∃ o, h'.get? L = some o ∧ (∀ vs, o.data ≠ .fields vs) ∧ ∀ xs n, o.data ≠ .seq xs n) : AOK X A fs ρ' h' := by
  have nq := a.nsq
  obtain ⟨l, e1, rfl, e3⟩ := a.fr
  refine ⟨a.hd, ⟨l, e1, rfl, funFrames_of e3 fun L hL => ?_⟩, fun L hL => ?_, fun L hL o' ho' => ?_⟩
  · by_cases m : L ∈ W
    · obtain ⟨o, e, q, _⟩ := hW L hL m; exact ⟨o, e, q⟩
    · obtain ⟨_, o, ho, q⟩ := e3.mem hL
      obtain ⟨_, sl, e⟩ := S.keep L o ho (a.off L hL) m
      exact ⟨_, e, q⟩
  · obtain ⟨_, o, ho, q⟩ := e3.mem hL
    exact S.offNew ho (a.off L hL)
  · by_cases m : L ∈ W
    · obtain ⟨o, e, _, q⟩ := hW L hL m
      rw [e] at ho'; cases ho'; exact q
    · obtain ⟨_, o, ho, q⟩ := e3.mem hL
      obtain ⟨_, sl, e⟩ := S.keep L o ho (a.off L hL) m
      rw [e] at ho'; cases ho'; exact nq L hL o ho
theorem AOK.step0 {X : Cx} {A : Around} {fs : List Addr} {ρ ρ' : Rho} {h h' : Heap} (a : AOK X A fs ρ h) (S : Step [] fs ρ ρ' h h') : AOK X A fs ρ' h' := a.step S fun _ _ q => nomatch q
theorem AOK.around {X : Cx} {A A' : Around} {fs : List Addr} {ρ : Rho} {h : Heap} (a : AOK X A fs ρ h) (e1 : A'.handled = A.handled) (e2 : A'.frames = A.frames) : AOK X A' fs ρ h :=
  ⟨e1 ▸ a.hd, by rw [e2]; exact a.fr, a.off, a.nsq⟩

noncomputable def Ext (s s' : Shared) : Prop := ∃ h t, s' = { s with heap := h, toks := t }
theorem Ext.refl (s : Shared) : Ext s s := ⟨_, _, rfl⟩
theorem Ext.trans {s s' s'' : Shared} (a : Ext s s') (b : Ext s' s'') : Ext s s'' := by
  obtain ⟨h, t, rfl⟩ := a
  obtain ⟨h', t', rfl⟩ := b
  exact ⟨h', t', rfl⟩

inductive Post {α β : Type} (X : Cx) (W fs : List Addr) (ρ : Rho) (s : Shared) (rel : Heap → Rho → α → β → Prop) (r : R α) (b : β) (s' : Shared) : Prop
  | mk (a : α) (σ' : St) (ρ' : Rho) (e : r = .ok a σ') (x : Ext s s') (i : Rp X ρ' σ' s'.heap) (v : rel s'.heap ρ' a b) (st : Step W fs ρ ρ' s.heap s'.heap)

/-- an exception that was just made -/
noncomputable def MadeX (B : Heap) (l : List Env) (a : Addr) (cls a0 : Value) (h : Heap) : Prop := B.StaysIn h ∧ B.get? a = none ∧ h.FunFrames B l ∧ ∃ oe vs, h.get? a = some oe ∧ oe.cls = cls ∧ oe.data = .fields vs ∧ vs[1]? = some .none ∧ vs[0]? = some a0
/-- an exception on its way: come out of a call, noted here, or just made -/
noncomputable def AirX (B : Heap) (l : List Env) (a : Addr) (cls a0 : Value) (h : Heap) : Prop := Heap.FlyingW B l a cls a0 h ∨ (∃ env outer L, l = env :: outer ∧ env.frame = some L ∧ Heap.HeldW B l a cls a0 L h) ∨ MadeX B l a cls a0 h
theorem air_frames {B : Heap} {l : List Env} {a : Addr} {cls a0 : Value} {h : Heap} (x : AirX B l a cls a0 h) : h.FunFrames B l := by
  rcases x with x | ⟨_, _, _, _, _, x⟩ | x
  · exact x.2.2.1
  · exact x.2.2.1
  · exact x.2.2.1
theorem NsqF.slots {B : Heap} {l : List Env} {h h' : Heap} (n : NsqF (l.filterMap (·.frame)) h) (f : h.FunFrames B l) (u : h.UpToSlots h') : NsqF (l.filterMap (·.frame)) h' := fun L hL o' ho' => by
  obtain ⟨_, o, ho, q⟩ := f.mem hL
  obtain ⟨sl, e⟩ := u L o ho q
  rw [e] at ho'; cases ho'
  exact n L hL o ho
/-- an exception that flies through the frames -/
inductive Fly (X : Cx) (A : Around) (fs : List Addr) (a : Addr) (c : Nat) (h₁ h' : Heap) : Prop
  | mk (l : List Env) (Bx : Heap) (a0 : Value) (e : A.frames = some l) (k : ∀ b o, h₁.get? b = some o → b ∉ fs → Bx.get? b = some o) (x : AirX Bx l a (.ref (X.cls c)) a0 h') (u : h₁.UpToSlots h') (n : NsqF (l.filterMap (·.frame)) h')

inductive PostX {α : Type} (X : Cx) (A : Around) (W fs : List Addr) (ρ : Rho) (s : Shared) (r : R α) (e : Value) (s' : Shared) : Prop
  | mk (c : Nat) (σ' : St) (ρ' : Rho) (h₁ : Heap) (a : Addr) (q : r = .exc c σ') (w : e = .ref a) (x : Ext s s') (i : Rp X ρ' σ' h₁) (st : Step W fs ρ ρ' s.heap h₁) (f : Fly X A fs a c h₁ s'.heap)

noncomputable def Ok {α β : Type} (X : Cx) (A : Around) (W fs : List Addr) (ρ : Rho) (s : Shared) (rel : Heap → Rho → α → β → Prop) (t : Sem β) (r : R α) : Prop :=
  r ≠ .stuck → wpAny (model X.prog X.w) A t (Post X W fs ρ s rel r) (PostX X A W fs ρ s r) s

section
variable {α β γ δ : Type} {X : Cx} {A : Around} {W fs : List Addr} {ρ ρ' : Rho} {s s' : Shared}
theorem Post.from {rel : Heap → Rho → α → β → Prop} {r : R α} {b : β} {s'' : Shared} (E : Ext s s') (S : Step W fs ρ ρ' s.heap s'.heap) (p : Post X W fs ρ' s' rel r b s'') : Post X W fs ρ s rel r b s'' := by
  obtain ⟨a, σ', ρ'', h1, h2, h3, h4, h5⟩ := p
  exact ⟨a, σ', ρ'', h1, E.trans h2, h3, h4, S.trans h5⟩
theorem PostX.from {r : R α} {e : Value} {s'' : Shared} (E : Ext s s') (S : Step W fs ρ ρ' s.heap s'.heap) (p : PostX X A W fs ρ' s' r e s'') : PostX X A W fs ρ s r e s'' := by
  obtain ⟨c, σ', ρ'', h₁, a, h1, h2, h3, h4, h5, h6⟩ := p
  exact ⟨c, σ', ρ'', h₁, a, h1, h2, E.trans h3, h4, S.trans h5, h6⟩
theorem PostX.res {r : R α} {r' : R β} {e : Value} (p : PostX X A W fs ρ s r e s') (k : ∀ c σ, r = .exc c σ → r' = .exc c σ) : PostX X A W fs ρ s r' e s' := by
  obtain ⟨c, σ', ρ', h₁, a, h1, h2, h3, h4, h5, h6⟩ := p
  exact ⟨c, σ', ρ', h₁, a, k _ _ h1, h2, h3, h4, h5, h6⟩
theorem Ok.bind {t : Sem β} {k : β → Sem δ} {m : R α} {f : α → St → R γ} {rel : Heap → Rho → α → β → Prop} {rel' : Heap → Rho → γ → δ → Prop} (h1 : Ok X A W fs ρ s rel t m)
    (h2 : ∀ a σ' ρ' b s', m = .ok a σ' → Ext s s' → Rp X ρ' σ' s'.heap → rel s'.heap ρ' a b → Step W fs ρ ρ' s.heap s'.heap → Ok X A W fs ρ' s' rel' (k b) (f a σ')) :
    Ok X A W fs ρ s rel' (t >>= k) (m.bind f) := by
  intro ns
  cases m with
  | stuck => exact absurd rfl ns
  | ok a σ' =>
    refine wpAny_bind (wpAny_mono (h1 (by simp)) (fun b s' p => ?_) fun e s' p => ?_)
    · obtain ⟨a', σ'', ρ', e1, e2, e3, e4, e5⟩ := p
      cases e1
      exact wpAny_mono (h2 a σ' ρ' b s' rfl e2 e3 e4 e5 ns) (fun _ _ q => q.from e2 e5) fun _ _ q => q.from e2 e5
    · obtain ⟨c, σ'', _, _, _, e1, _⟩ := p
      cases e1
  | exc c σ' =>
    refine wpAny_bind (wpAny_mono (h1 (by simp)) (fun b s' p => ?_) fun e s' p => ?_)
    · obtain ⟨a', σ'', ρ', e1, _⟩ := p
      cases e1
    · obtain ⟨c', σ'', ρ', h₁, a, e1, e2, e3, e4, e5, e6⟩ := p
      cases e1
      exact ⟨c, σ', ρ', h₁, a, rfl, e2, e3, e4, e5, e6⟩
theorem Ok.ret {a : α} {b : β} {σ : St} {rel : Heap → Rho → α → β → Prop} (I : Rp X ρ σ s.heap) (r : rel s.heap ρ a b) : Ok X A W fs ρ s rel (pure b) (.ok a σ) :=
  fun _ => wpAny_pure ⟨a, σ, ρ, rfl, .refl s, I, r, Step.refl⟩
theorem Ok.stuck {rel : Heap → Rho → α → β → Prop} {t : Sem β} : Ok X A W fs ρ s rel t (.stuck : R α) := fun h => absurd rfl h
theorem Ok.of_eq {rel : Heap → Rho → α → β → Prop} {t t' : Sem β} {r : R α} (e : t = t') (h : Ok X A W fs ρ s rel t' r) : Ok X A W fs ρ s rel t r := e ▸ h
theorem Ok.ite {rel : Heap → Rho → α → β → Prop} {t : Sem β} {c : Prop} [Decidable c] {m n : R α} (h1 : c → Ok X A W fs ρ s rel t m) (h2 : ¬ c → Ok X A W fs ρ s rel t n) : Ok X A W fs ρ s rel t (if c then m else n) := by
  by_cases h : c
  · rw [if_pos h]; exact h1 h
  · rw [if_neg h]; exact h2 h
theorem Ok.guard {rel : Heap → Rho → α → β → Prop} {t : Sem β} {c : Prop} [Decidable c] {m : R α} (h : c → Ok X A W fs ρ s rel t m) : Ok X A W fs ρ s rel t (if c then m else .stuck) := .ite h fun _ => .stuck
theorem Ok.map {g : α → γ} {t : Sem β} {m : R α} {rel : Heap → Rho → α → β → Prop} {rel' : Heap → Rho → γ → β → Prop} (h : Ok X A W fs ρ s rel t m) (q : ∀ h ρ a b, rel h ρ a b → rel' h ρ (g a) b) : Ok X A W fs ρ s rel' t (m.bind fun a σ => .ok (g a) σ) := fun ns => by
  have nm : m ≠ .stuck := fun e => ns (by rw [e]; rfl)
  refine wpAny_mono (h nm) (fun b s' p => ?_) fun e s' p => ?_
  · obtain ⟨a, σ', ρ', e1, e2, e3, e4, e5⟩ := p
    exact ⟨g a, σ', ρ', by rw [e1]; rfl, e2, e3, q _ _ _ _ e4, e5⟩
  · exact p.res fun _ _ e1 => by rw [e1]; rfl
theorem Ok.of_res {rel : Heap → Rho → α → β → Prop} {t : Sem β} {r r' : R α} (e : r = r') (h : Ok X A W fs ρ s rel t r') : Ok X A W fs ρ s rel t r := e ▸ h
theorem R.bind_inv {m : R α} {f : α → St → R γ} {c : γ} {σ : St} (h : m.bind f = .ok c σ) : ∃ a σ', m = .ok a σ' ∧ f a σ' = .ok c σ := by
  cases m with
  | ok a σ' => exact ⟨a, σ', rfl, h⟩
  | exc _ _ => cases h
  | stuck => cases h
theorem R.bind_ret (m : R α) : (m.bind fun a σ => .ok a σ) = m := by cases m <;> rfl
/-- a rule of the library ends here -/
theorem Ok.to {rel : Heap → Rho → α → β → Prop} {t : Sem β} {a : α} {σ' : St}
    (h : ∀ Q E, (∀ b ρ' s', Ext s s' → Rp X ρ' σ' s'.heap → rel s'.heap ρ' a b → Step W fs ρ ρ' s.heap s'.heap → Q b s') → wpAny (model X.prog X.w) A t Q E s) : Ok X A W fs ρ s rel t (.ok a σ') :=
  fun _ => h _ _ fun _ ρ' s' h1 h2 h3 h4 => ⟨a, σ', ρ', rfl, h1, h2, h3, h4⟩
theorem Ok.step {t : Sem Unit} {k : Sem δ} {r : R γ} {rel' : Heap → Rho → γ → δ → Prop} (h1 : ∀ Q E, Q () s → wpAny (model X.prog X.w) A t Q E s) (h2 : Ok X A W fs ρ s rel' k r) : Ok X A W fs ρ s rel' (t >>= fun _ => k) r :=
  fun ns => wpAny_bind (h1 _ _ (h2 ns))
theorem Ok.standAt {pos : Pos} {k : Sem δ} {r : R γ} {rel' : Heap → Rho → γ → δ → Prop} (h : Ok X A W fs ρ s rel' k r) : Ok X A W fs ρ s rel' (standAt pos >>= fun _ => k) r :=
  fun ns => wpAny_bind (wpAny_standAt (h ns))
theorem Ok.holding {vs : List Value} {t : Sem δ} {r : R γ} {rel' : Heap → Rho → γ → δ → Prop} (h : Ok X A W fs ρ s rel' t r) : Ok X A W fs ρ s rel' (holding vs t) r :=
  fun ns => wpAny_holding (h ns)
theorem Ok.operate {vs : List Value} {t : Sem Value} {r : R γ} {rel' : Heap → Rho → γ → Value → Prop} (h : Ok X A W fs ρ s rel' t r) : Ok X A W fs ρ s rel' (operate vs t) r :=
  fun ns Γ p hΓ => by rw [Sem.wp_operate]; exact h ns Γ p hΓ
end
end Mine
end

section
set_option autoImplicit false
set_option linter.unusedVariables false
namespace Mine
open PySem PySem.W PyProof.Rows

section
variable {X : Cx} {A : Around} {W fs : List Addr} {ρ : Rho} {σ : St} {s : Shared}

theorem Rp.tok (I : Rp X ρ σ s.heap) (t : Nat) : Rp X ρ σ ({ s with toks := t } : Shared).heap := I

theorem ok_int {t : Sem Value} {i : Int} (I : Rp X ρ σ s.heap) (h : ∀ Q E, (∀ u k, Q (.int i u) { s with toks := k }) → wpAny (model X.prog X.w) A t Q E s) : Ok X A [] fs ρ s VRep t (.ok (.int i) σ) :=
  Ok.to fun Q E k => h Q E fun u j => k _ ρ _ ⟨s.heap, j, rfl⟩ I (.int i u) Step.refl
theorem ok_str {t : Sem Value} {x : Str} (I : Rp X ρ σ s.heap) (h : ∀ Q E, (∀ u k, Q (.str x u) { s with toks := k }) → wpAny (model X.prog X.w) A t Q E s) : Ok X A [] fs ρ s VRep t (.ok (.str x) σ) :=
  Ok.to fun Q E k => h Q E fun u j => k _ ρ _ ⟨s.heap, j, rfl⟩ I (.str x u) Step.refl
theorem ok_bool {t : Sem Value} {b : Bool} (I : Rp X ρ σ s.heap) (h : ∀ Q E, (∀ k, Q (.bool b) { s with toks := k }) → wpAny (model X.prog X.w) A t Q E s) : Ok X A [] fs ρ s VRep t (.ok (.bool b) σ) :=
  Ok.to fun Q E k => h Q E fun j => k _ ρ _ ⟨s.heap, j, rfl⟩ I (.bool b) Step.refl
theorem ok_same {t : Sem Value} {v : PV} {u : Value} (I : Rp X ρ σ s.heap) (r : VRep s.heap ρ v u) (h : ∀ Q E, (∀ k, Q u { s with toks := k }) → wpAny (model X.prog X.w) A t Q E s) : Ok X A [] fs ρ s VRep t (.ok v σ) :=
  Ok.to fun Q E k => h Q E fun j => k _ ρ _ ⟨s.heap, j, rfl⟩ I r Step.refl

theorem push_keeps (h : Heap) (o : Obj) : ∀ b ob, h.get? b = some ob → (h.push o).get? b = some ob := fun _ _ e => Heap.get?_push_of_some o e

/-- a new tuple -/
theorem ok_tup {t : Sem Value} {l : List PV} {us : List Value} (I : Rp X ρ σ s.heap) (r : VReps s.heap ρ l us)
    (h : ∀ Q E, (∀ k, Q (.ref s.heap.objs.size) { s with heap := s.heap.push { cls := .type "tuple", data := .seq us.toArray }, toks := k }) → wpAny (model X.prog X.w) A t Q E s) :
    Ok X A [] fs ρ s VRep t (.ok (.tup l) σ) :=
  Ok.to fun Q E k => h Q E fun j => by
    have kp := push_keeps s.heap { cls := .type "tuple", data := .seq us.toArray }
    have S : Step (W := []) (fs := fs) ρ ρ s.heap (s.heap.push { cls := .type "tuple", data := .seq us.toArray }) := Step.of_keeps kp
    have S' : Step (W := []) (fs := fs) ρ ρ s.heap (s.heap.push { cls := .type "tuple", data := .seq us.toArray }) := Step.of_keeps kp
    exact k _ ρ _ ⟨_, j, rfl⟩ (I.keeps kp) (.tup (items := us.toArray) ⟨_, Heap.get?_push_size _ rfl, rfl, 0, rfl⟩ I.size_off (by simpa using r.step S' noSeq_nil)) S
/-- a new list -/
theorem ok_list {t : Sem Value} {l : List PV} {us : List Value} (I : Rp X ρ σ s.heap) (r : VReps s.heap ρ l us)
    (h : ∀ Q E, (∀ k, Q (.ref s.heap.objs.size) { s with heap := s.heap.push { cls := .type "list", data := .seq us.toArray }, toks := k }) → wpAny (model X.prog X.w) A t Q E s) :
    Ok X A [] fs ρ s VRep t (alloc (.list l) σ) :=
  Ok.to fun Q E k => h Q E fun j => by
    have kp := push_keeps s.heap { cls := .type "list", data := .seq us.toArray }
    have hn : ∀ a, a ∈ ownedOf (s.heap.objs.size, (none : Option Addr)) → s.heap.get? a = none := fun a q => by simp [ownedOf] at q; subst q; exact get?_size _
    have S : Step (W := []) (fs := fs) ρ (ρ ++ [(s.heap.objs.size, none)]) s.heap (s.heap.push { cls := .type "list", data := .seq us.toArray }) := Step.grow kp fun a q => hn a (by simpa [owned] using q)
    refine k _ (ρ ++ [(s.heap.objs.size, none)]) _ ⟨_, j, rfl⟩ (I.grow kp hn (by simp [ownedOf]) fun S' => ?_) ?_ S
    · exact .list (items := us.toArray) ⟨0, Heap.get?_push_size _ rfl⟩ (by simpa using r.step S' noSeq_nil)
    · have : (ρ ++ [(s.heap.objs.size, (none : Option Addr))])[σ.length]? = some (s.heap.objs.size, none) := by rw [← I.len]; simp
      exact .loc this

theorem mul_ok {x y : Int} (hx : x.natAbs < 2 ^ 62) : IntMulOk x y := by
  refine IntMulOk.of_left ?_
  unfold Builtin.Int.intBits
  split
  · omega
  · have : x.natAbs.log2 < 62 := by
      by_cases z : x.natAbs = 0
      · rw [z]; decide
      · exact (Nat.log2_lt z).mpr hx
    omega
theorem div_ok {x y : Int} (h0 : 0 < y) (h1 : y < 2 ^ 30) : ¬ (Builtin.divisionGoesByPylong x y) = true := by
  rw [PyProof.noPylong_of_log2]
  · simp
  · have z : y.natAbs ≠ 0 := by omega
    have : y.natAbs.log2 < 30 := (Nat.log2_lt z).mpr (by omega)
    omega
theorem pow_ok {x y : Int} (h0 : 0 ≤ x) (h1 : x < 2 ^ 31) (h2 : 0 < y) (h3 : y ≤ 300) : ¬ Builtin.Int.intTooBig (((Builtin.Int.intBits x : Nat) : Int) * y) = true := by
  have hb : Builtin.Int.intBits x ≤ 31 := by
    unfold Builtin.Int.intBits
    split
    · omega
    · rename_i z
      have z : x.natAbs ≠ 0 := by simp at z; omega
      have : x.natAbs.log2 < 31 := (Nat.log2_lt z).mpr (by omega)
      omega
  have h : ((Builtin.Int.intBits x : Nat) : Int) * y ≤ 31 * 300 := Int.mul_le_mul (by omega) h3 (by omega) (by omega)
  unfold Builtin.Int.intTooBig
  simp only [decide_eq_true_eq]
  have := bitsLine_eq
  omega

theorem lst_of' {h : Heap} (I : Rp X ρ σ h) {l : Nat} {p : Addr × Option Addr} {xs : List PV} (hp : ρ[l]? = some p) (hl : σ[l]? = some (.list xs)) : ∃ items, h.PlainList p.1 items ∧ VReps h ρ xs items.toList := by
  have r := I.objs _ _ _ hp hl
  cases r with
  | list h1 h2 => exact ⟨_, h1, h2⟩

theorem ok_int2 {a b : PV} {u v : Value} {t : Sem Value} {f : Int → Int → R PV} (ra : VRep s.heap ρ a u) (rb : VRep s.heap ρ b v) (h : ∀ x y tx ty, u = .int x tx → v = .int y ty → Ok X A [] fs ρ s VRep t (f x y)) : Ok X A [] fs ρ s VRep t (int2 a b f) := by
  cases ra <;> first | exact .stuck | skip
  cases rb <;> first | exact .stuck | skip
  exact h _ _ _ _ rfl rfl
theorem add_tup {xs ys : List PV} {a b : Addr} {items items' : Array Value} (I : Rp X ρ σ s.heap) (hz : szOK (xs.length + ys.length) = true) (ht : s.heap.IsTuple a items) (n : a ∉ owned ρ) (r : VReps s.heap ρ xs items.toList)
    (ht' : s.heap.IsTuple b items') (n' : b ∉ owned ρ) (r' : VReps s.heap ρ ys items'.toList) : Ok X A [] fs ρ s VRep (binaryOp .Add (.ref a) (.ref b)) (.ok (.tup (xs ++ ys)) σ) := by
  have e1 : xs.length = items.size := r.length
  have e2 : ys.length = items'.size := r'.length
  obtain ⟨⟨cls, dd, data, sl⟩, ho, hc, k, hd⟩ := id ht
  obtain ⟨⟨cls2, dd2, data2, sl2⟩, ho2, hc2, k2, hd2⟩ := id ht'
  cases hc; cases hd; cases hc2; cases hd2
  by_cases hv : items.isEmpty = true
  · cases xs with
    | cons x r => rw [Array.isEmpty_iff_size_eq_zero.mp hv] at e1; cases e1
    | nil =>
      exact ok_same I (.tup ht' n' r') fun Q E q => concat_meets ⟨_, ho, rfl⟩ ⟨_, ho2, rfl⟩ noFill_tuple_add seq_tuple_add PySem.F.slot_tuple_add PySem.F.entry_tuple_add (PySem.F.args_tuple_add_2 _ _)
        (tuple_addW0 a b items items' k k2 dd dd2 sl sl2 hv) ⟨ho, ho2, q _⟩
  · by_cases hw : items'.isEmpty = true
    · cases ys with
      | cons x r => rw [Array.isEmpty_iff_size_eq_zero.mp hw] at e2; cases e2
      | nil =>
        rw [List.append_nil]
        exact ok_same I (.tup ht n r) fun Q E q => concat_meets ⟨_, ho, rfl⟩ ⟨_, ho2, rfl⟩ noFill_tuple_add seq_tuple_add PySem.F.slot_tuple_add PySem.F.entry_tuple_add (PySem.F.args_tuple_add_2 _ _)
          (tuple_addW1 a b items items' k k2 dd dd2 sl sl2 hv hw) ⟨ho, ho2, q _⟩
    · have e : items ++ items' = (items.toList ++ items'.toList).toArray := by rw [← Array.toList_append, Array.toArray_toList]
      have hz := of_decide_eq_true hz
      refine ok_tup I (r.append r') fun Q E q => concat_meets ⟨_, ho, rfl⟩ ⟨_, ho2, rfl⟩ noFill_tuple_add seq_tuple_add PySem.F.slot_tuple_add PySem.F.entry_tuple_add (PySem.F.args_tuple_add_2 _ _)
        (tuple_addW2 a b items items' k k2 dd dd2 sl sl2 hv hw ?_) ⟨ho, ho2, ?_⟩
      · rw [sizeLine_eq]; omega
      · rw [e]; exact q _
theorem pow_case {x y : Int} {tx ty : Tok} (I : Rp X ρ σ s.heap) (h0 : 0 ≤ x) (h1 : x < 2 ^ 31) (h2 : 0 < y) (h3 : y ≤ 300) : Ok X A [] fs ρ s VRep (binaryOp .Pow (.int x tx) (.int y ty)) (.ok (.int (x ^ y.toNat)) σ) := by
  have hy : ¬ y < 0 := by omega
  have hy0 : ¬ y = 0 := by omega
  by_cases hx : x = 0 ∨ x = 1
  · have e : x ^ y.toNat = x := by
      have : y.toNat ≠ 0 := by omega
      rcases hx with rfl | rfl
      · exact Int.zero_pow this
      · exact Int.one_pow
    rw [e]
    exact ok_int I fun Q E k => AutoIntOps.pow_1 (by omega) (by simp; omega) (by rcases hx with rfl | rfl <;> rfl) (k _ _)
  · refine ok_int I fun Q E k => AutoIntOps.pow_4 (by omega) (by simp; omega) ?_ ?_ (pow_ok h0 h1 h2 h3) (k _ _)
    · simp only [not_or] at hx
      simp [hx.1, hx.2]
    · simp; omega
theorem binop_ok {op : Operator} {a b : PV} {u v : Value} (I : Rp X ρ σ s.heap) (ra : VRep s.heap ρ a u) (rb : VRep s.heap ρ b v) : Ok X A [] fs ρ s VRep (binaryOp op u v) (binop op a b σ) := by
  cases op <;> first | exact .stuck | skip
  · cases ra <;> first | exact .stuck | skip
    · cases rb <;> first | exact .stuck | skip
      exact ok_int I fun Q E k => P.add_int (k _ _)
    · rename_i ht n r
      cases rb <;> first | exact .stuck | skip
      rename_i ht' n' r'
      exact .guard fun hz => add_tup I hz ht n r ht' n' r'
  · refine ok_int2 ra rb fun x y tx ty e1 e2 => .guard fun h => ?_
    rw [e1, e2]
    exact ok_int I fun Q E k => P.mul_int (k _ _) (mul_ok h.1)
  · refine ok_int2 ra rb fun x y tx ty e1 e2 => .guard fun h => ?_
    rw [e1, e2]
    exact ok_int I fun Q E k => mod_int' h (k _ _)
  · refine ok_int2 ra rb fun x y tx ty e1 e2 => .guard fun h => ?_
    rw [e1, e2]
    exact pow_case I h.1 h.2.1 h.2.2.1 h.2.2.2
  · refine ok_int2 ra rb fun x y tx ty e1 e2 => .guard fun h => ?_
    rw [e1, e2]
    exact ok_int I fun Q E k => AutoIntOps.floordiv_1 (by have := h.1; simp; omega) (div_ok h.1 h.2) (k _ _)
end
end Mine
end

section
set_option autoImplicit false
set_option linter.unusedVariables false
namespace Mine
open PySem PySem.W PyProof.Rows PySem.SeqAt

section
variable {A : Around} {s : Shared}
theorem str_eq_bytes (a : Str) (t : Tok) (b : Array UInt8) (u : Tok) : Gives (Builtin.«str.__eq__» ⟨[.str a t, .bytes b u], []⟩) (.val (Value.notImplemented)) :=
  .of_wp fun M A E s Q h => by obtain ⟨hp, g, d, tk, os⟩ := s; wp_walk; exact ⟨_, rfl, h⟩
theorem sub_str_bytes : isSubtype (.type "str") (.type "bytes") = pure false := rfl
theorem bytes_eq_str (a : Str) (t : Tok) (b : Array UInt8) (u : Tok) : Gives (Builtin.«bytes.__eq__» ⟨[.bytes b u, .str a t], []⟩) (.val (Value.notImplemented)) :=
  .of_wp fun M A E s Q h => by obtain ⟨hp, g, d, tk, os⟩ := s; have f1 := sub_str_bytes; wp_walk; exact ⟨_, rfl, h⟩
theorem RcAt.bytes_str (a : Array UInt8) (t : Tok) (b : Str) (u : Tok) : RcAt A s (.bytes a t) (.str b u) false := fun prog w E Q h =>
  rc_eq_decline_or (k := false) (Ta := "bytes") (Tb := "str") rfl (typeIs_str s b u) (by decide) sub_str_bytes FB.slot_bytes_eq F.slot_str_eq_refl
    (fun _ hq => call_gives (T := "bytes") FB.slot_bytes_eq rfl FB.entry_bytes_eq (FB.args_bytes_eq_2 _ _) (bytes_eq_str b u a t) hq)
    (fun _ hq => call_gives F.slot_str_eq_refl (typeIs_str s b u) F.entry_str_eq (F.args_str_eq_2 _ _) (str_eq_bytes b u a t) hq)
    (fun _ hq => wpAny_of_eq (rfl : isSame (.bytes a t) (.str b u) = pure false) hq) (.inl rfl) h
theorem EqAt.bytes_str (a : Array UInt8) (t : Tok) (b : Str) (u : Tok) : EqAt A s (.bytes a t) (.str b u) false := fun prog w E Q h => by
  unfold eqBool
  refine wpAny_holding ?_
  refine wpAny_ite_split (fun hab => absurd (eq_of_beq hab) nofun) (fun _ => ?_)
  exact wpAny_bind (RcAt.bytes_str a t b u prog w E _ (wpAny_truthy_bool h))
end

theorem isTuple_inj {h : Heap} {a : Addr} {x y : Array Value} (p : h.IsTuple a x) (q : h.IsTuple a y) : x = y := by
  obtain ⟨o, ho, _, n, hd⟩ := p
  obtain ⟨o', ho', _, n', hd'⟩ := q
  rw [ho] at ho'; cases ho'
  rw [hd] at hd'; cases hd'; rfl
theorem ne_of_fst {ρ : Rho} (n : (owned ρ).Nodup) {i j : Nat} {p q : Addr × Option Addr} (hi : ρ[i]? = some p) (hj : ρ[j]? = some q) (e : p.1 = q.1) : i = j :=
  nodup_ownedOf n hi hj (a := p.1) (by simp [ownedOf]) (by simp [ownedOf, e])

section
variable {X : Cx} {ρ : Rho} {σ : St} {h : Heap}
theorem isLs_ex {o : Option PO} (h : isLs o = true) : ∃ xs, o = some (.list xs) := by
  cases o with
  | none => cases h
  | some o => cases o <;> first | exact ⟨_, rfl⟩ | cases h
theorem eqvz_cons {f : PV → PV → Option Bool} {x y : PV} {xs ys : List PV} {r : Bool} (h : eqvz f (x :: xs) (y :: ys) = some r) : ∃ a b, f x y = some a ∧ eqvz f xs ys = some b ∧ r = (a && b) := by
  obtain ⟨a, ha, h⟩ := Option.bind_eq_some_iff.mp h
  obtain ⟨b, hb, h⟩ := Option.map_eq_some_iff.mp h
  exact ⟨a, b, ha, hb, h.symm⟩
theorem eqvz_at {f : PV → PV → Option Bool} {xs : List PV} : ∀ {ys : List PV} {r : Bool}, eqvz f xs ys = some r →
    ∃ e : Nat → Bool, r = (List.range (min xs.length ys.length)).all e ∧ ∀ i x y, xs[i]? = some x → ys[i]? = some y → f x y = some (e i) := by
  induction xs with
  | nil =>
    intro ys r h
    cases h
    exact ⟨fun _ => true, by rw [List.length_nil, Nat.zero_min]; rfl, fun i x y hx => nomatch hx⟩
  | cons x xs ih =>
    intro ys r h
    cases ys with
    | nil =>
      cases h
      exact ⟨fun _ => true, by rw [List.length_nil, Nat.min_zero]; rfl, fun i x y _ hy => nomatch hy⟩
    | cons y ys =>
      obtain ⟨a, b, ha, hb, rfl⟩ := eqvz_cons h
      obtain ⟨e, rfl, k⟩ := ih hb
      refine ⟨fun i => @Nat.rec (fun _ => Bool) a (fun i _ => e i) i, ?_, fun i u v hu hv => ?_⟩
      · rw [List.length_cons, List.length_cons, Nat.succ_min_succ, List.range_succ_eq_map, List.all_cons, List.all_map]
        rfl
      · cases i with
        | zero => cases hu; cases hv; exact ha
        | succ i => exact k i u v hu hv

theorem eqvz_same {f : PV → PV → Option Bool} {xs : List PV} {us : List Value} (ra : VReps h ρ xs us) (k : ∀ x y u r, VRep h ρ x u → VRep h ρ y u → f x y = some r → r = true) : ∀ {ys : List PV} {r : Bool}, VReps h ρ ys us → eqvz f xs ys = some r → r = true := by
  induction ra using VReps.ind with
  | nil => intro ys r rb e; cases e; rfl
  | cons a ra ih =>
    intro ys r rb e
    cases rb with
    | cons b rb =>
      obtain ⟨c, d, hc, hd, rfl⟩ := eqvz_cons e
      rw [k _ _ _ _ a b hc, ih rb hd]; rfl

/-- one and the same value is like itself -/
theorem eqv_same : ∀ (n : Nat) (v v' : PV) (u : Value) (r : Bool), VRep h ρ v u → VRep h ρ v' u → eqv σ n v v' = some r → r = true := by
  intro n
  induction n with
  | zero => intro v v' u r _ _ e; cases e
  | succ n ih =>
    intro v v' u r a b e
    cases b with
    | none => cases e
    | bool x => cases a; cases e; exact beq_self_eq_true x
    | int i t => cases a; cases e; exact beq_self_eq_true i
    | str x t => cases a; cases e; exact beq_self_eq_true x
    | bytes x t => cases e
    | loc hp => cases e
    | tup ht n1 r1 =>
      cases a with
      | tup ht' n2 r2 =>
        cases isTuple_inj ht ht'
        obtain ⟨c, hc, rfl⟩ := Option.map_eq_some_iff.mp e
        rw [eqvz_same r2 ih r1 hc, r1.length, r2.length]; exact beq_self_eq_true _
      | loc _ => cases e

theorem isList_of_plain {a : Addr} {items : Array Value} (p : h.PlainList a items) : h.IsList a items := by
  obtain ⟨n, e⟩ := p
  exact ⟨_, e, rfl, n, rfl⟩
end

theorem units_in1 (A : Around) : A.in1.units = A.units + 1 := rfl

theorem items_at {X : Cx} {ρ : Rho} {σ : St} {s : Shared} {A : Around} {f : PV → PV → Option Bool} {xs ys : List PV} {items items2 : Array Value} {r : Bool} (r1 : VReps s.heap ρ xs items.toList) (r2 : VReps s.heap ρ ys items2.toList)
    (k : ∀ x y u u' r, VRep s.heap ρ x u → VRep s.heap ρ y u' → f x y = some r → EqAt A.in1 s u u' r) (h : eqvz f xs ys = some r) :
    ∃ e : Nat → Bool, r = (List.range (min items.size items2.size)).all e ∧ ∀ j (h1 : j < items.size) (h2 : j < items2.size), EqAt A.in1 s items[j] items2[j] (e j) := by
  obtain ⟨e, rfl, q⟩ := eqvz_at h
  have l1 : xs.length = items.size := r1.length
  have l2 : ys.length = items2.size := r2.length
  refine ⟨e, by rw [l1, l2], fun j h1 h2 => ?_⟩
  obtain ⟨x, hx, vx⟩ := r1.getU (List.getElem?_eq_getElem h1)
  obtain ⟨y, hy, vy⟩ := r2.getU (List.getElem?_eq_getElem h2)
  exact k x y _ _ _ vx vy (q j x y hx hy)

theorem eqs_at {X : Cx} {ρ : Rho} {σ : St} {s : Shared} (I : Rp X ρ σ s.heap) {A : Around} {v : PV} {u : Value} {y : Str} {t : Tok} {r : Bool} (hu1 : A.units < cLine) (a : VRep s.heap ρ v u) (e : eqS σ y v = some r) :
    RcAt A s u (.str y t) r ∧ EqAt A s u (.str y t) r ∧ (isBytes v = false → RcNeAt A s u (.str y t) (!r)) := by
  cases a with
  | none => cases e; exact ⟨.none_str _ _, .none_str _ _, fun _ => .none_str _ _⟩
  | bool b => cases e; exact ⟨.bool_str _ _ _, .bool_str _ _ _, fun _ => .bool_str _ _ _⟩
  | int i t => cases e; exact ⟨.int_str _ _ _ _, .int_str _ _ _ _, fun _ => .int_str _ _ _ _⟩
  | str x t => cases e; exact ⟨.str_str _ _ _ _, .str_str _ _ _ _, fun _ => .str_str _ _ _ _⟩
  | bytes b t => cases e; exact ⟨Mine.RcAt.bytes_str _ _ _ _, Mine.EqAt.bytes_str _ _ _ _, fun k => nomatch k⟩
  | tup ht n1 r1 => cases e; exact ⟨.tuple_str _ _ ht hu1, .tuple_str _ _ ht hu1, fun _ => .tuple_str _ _ ht hu1⟩
  | loc hp =>
    rename_i l p
    have e : (if isLs σ[l]? = true then some false else none) = some r := e
    by_cases hl : isLs σ[l]? = true
    · rw [if_pos hl] at e
      cases e
      obtain ⟨xs, hx⟩ := isLs_ex hl
      obtain ⟨items, pl, _⟩ := lst_of' I hp hx
      have pl := isList_of_plain pl
      exact ⟨.list_str _ _ pl hu1, .list_str _ _ pl hu1, fun _ => .list_str _ _ pl hu1⟩
    · rw [if_neg hl] at e; cases e

theorem eqv_at {X : Cx} {ρ : Rho} {σ : St} {s : Shared} (I : Rp X ρ σ s.heap) : ∀ (n : Nat) (A : Around) (v v' : PV) (u u' : Value) (r : Bool), A.units + n < cLine → VRep s.heap ρ v u → VRep s.heap ρ v' u' → eqv σ n v v' = some r →
    RcAt A s u u' r ∧ EqAt A s u u' r ∧ (isBytes v = false → RcNeAt A s u u' (!r)) := by
  intro n
  induction n with
  | zero => intro A v v' u u' r _ _ _ e; cases e
  | succ n ih =>
    intro A v v' u u' r hu a b e
    have hu1 : A.units < cLine := Nat.lt_of_le_of_lt (Nat.le_add_right _ _) hu
    cases b with
    | none => cases e
    | bytes => cases e
    | loc => cases e
    | str y t => exact eqs_at I hu1 a e
    | bool y => cases a <;> first | (cases e; done) | (cases e; exact ⟨.bool_bool _ _, .bool_bool _ _, fun _ => .bool_bool _ _⟩)
    | int y t => cases a <;> first | (cases e; done) | (cases e; exact ⟨.int_int _ _ _ _, .int_int _ _ _ _, fun _ => .int_int _ _ _ _⟩)
    | tup ht' n2 r2 =>
      have e0 := e
      cases a with
      | tup ht n1 r1 =>
        obtain ⟨r0, hr0, rfl⟩ := Option.map_eq_some_iff.mp e
        rename_i lb items2 ys la items xs
        obtain ⟨g, rfl, he⟩ := items_at (X := X) (σ := σ) r1 r2 (A := A) (fun x y u u' r va vb e => (ih A.in1 x y u u' r (by rw [units_in1]; omega) va vb e).2.1) hr0
        have l1 : xs.length = items.size := r1.length
        have l2 : ys.length = items2.size := r2.length
        rw [l1, l2] at e0 ⊢
        have q := RcAt.tuples ht ht' hu1 he
        refine ⟨q, ?_, fun _ => RcNeAt.tuples ht ht' hu1 he⟩
        by_cases hne : la = lb
        · cases hne
          rw [eqv_same _ _ _ _ _ (.tup ht n1 r1) (.tup ht' n2 r2) e0]
          exact EqAt.same _
        · exact EqAt.of_refs hne q
      | _ => cases e
end Mine
end

section
set_option autoImplicit false
set_option linter.unusedVariables false
namespace Mine
open PySem PySem.W PyProof.Rows PySem.SeqAt

section
variable {X : Cx} {ρ : Rho} {σ : St} {h : Heap}

/-! dicts -/
theorem keyEq_str (a b : Str) : keyEq (.str a) (.str b) = decide (a = b) := by
  show (a == b) = _
  by_cases e : a = b
  · rw [e, beq_self_eq_true, decide_eq_true rfl]
  · rw [beq_eq_false_iff_ne.mpr e, decide_eq_false e]

theorem KVs.get (k : Str) {es : List (PV × PV)} {kvs : List (Str × Value)} (r : KVs h ρ es kvs) : (∀ v, dget (.str k) es = some v → ∃ u, valueAt kvs k = some u ∧ VRep h ρ v u) ∧ (dget (.str k) es = none → valueAt kvs k = none) := by
  induction r with
  | nil => exact ⟨fun _ e => (nomatch e), fun _ => rfl⟩
  | cons a _ ih =>
    rename_i k' v u es kvs _
    have e1 : dget (.str k) ((.str k', v) :: es) = if decide (k' = k) = true then some v else dget (.str k) es := by rw [← keyEq_str]; rfl
    rw [e1]
    by_cases e : k' = k
    · subst e
      rw [if_pos (decide_eq_true rfl)]
      exact ⟨fun w hw => by cases hw; exact ⟨u, by simp [valueAt], a⟩, fun hw => (nomatch hw)⟩
    · rw [if_neg (by simp [e])]
      have ev : valueAt ((k', u) :: kvs) k = valueAt kvs k := by simp [valueAt, e]
      rw [ev]
      exact ih
theorem KVs.length {es : List (PV × PV)} {kvs : List (Str × Value)} (r : KVs h ρ es kvs) : es.length = kvs.length := by
  induction r with
  | nil => rfl
  | cons _ _ ih => exact congrArg (· + 1) ih
theorem KVs.keys {es : List (PV × PV)} {kvs : List (Str × Value)} (r : KVs h ρ es kvs) : es.map (·.1) = kvs.map fun p => .str p.1 := by
  induction r with
  | nil => rfl
  | cons _ _ ih => exact congrArg (_ :: ·) ih
theorem KVs.set (k : Str) {v : PV} {u : Value} (q : VRep h ρ v u) {es : List (PV × PV)} {kvs : List (Str × Value)} (r : KVs h ρ es kvs) (n : (kvs.map (·.1)).Nodup) : KVs h ρ (dset (.str k) v es) (stored kvs k u) := by
  induction r with
  | nil => exact KVs.cons q .nil
  | cons a r ih =>
    rename_i k' v' u' es kvs
    obtain ⟨n1, n2⟩ := List.nodup_cons.mp n
    have e0 : dset (.str k) v ((.str k', v') :: es) = if decide (k' = k) = true then (.str k', v) :: es else (.str k', v') :: dset (.str k) v es := by rw [← keyEq_str]; rfl
    rw [e0]
    by_cases e : k' = k
    · subst e
      rw [if_pos (decide_eq_true rfl)]
      have e1 : stored ((k', u') :: kvs) k' u = (k', u) :: kvs := by
        unfold stored
        rw [if_pos (by simp), List.map_cons, map_store_of_not_mem _ _ _ n1]
        simp
      rw [e1]
      exact .cons q r
    · rw [if_neg (by simp [e])]
      have e1 : stored ((k', u') :: kvs) k u = (k', u') :: stored kvs k u := by
        unfold stored
        simp only [List.any_cons, e, decide_false, Bool.false_or]
        split <;> simp [e]
      rw [e1]
      exact .cons a (ih n2)

theorem dict_of (I : Rp X ρ σ h) {l : Nat} {p : Addr × Option Addr} {es : List (PV × PV)} (hp : ρ[l]? = some p) (hl : σ[l]? = some (.dict es)) : DRep X h ρ es p.1 := by
  have r := I.objs _ _ _ hp hl
  cases r with
  | dict d => exact d
theorem notSys' (I : Rp X ρ σ h) {l : Nat} {p : Addr × Option Addr} {es : List (PV × PV)} (hp : ρ[l]? = some p) (hl : σ[l]? = some (.dict es)) : (p.1 == sysModules) = false := by
  have := (dict_of I hp hl).1
  simpa using this
end

section
variable {X : Cx} {A : Around} {ρ : Rho} {σ : St} {s : Shared}
noncomputable def Gv (X : Cx) (A : Around) (s : Shared) {β : Type} (t : Sem β) (b : β) : Prop := ∀ (Q : β → Shared → Prop) (E : Value → Shared → Prop), (∀ k, Q b { s with toks := k }) → wpAny (model X.prog X.w) A t Q E s

theorem tk (s : Shared) {P : Shared → Prop} (h : ∀ k, P { s with toks := k }) : P s := h s.toks

theorem isEmpty_eq {xs : List PV} {items : Array Value} (e1 : xs.length = items.size) : xs.isEmpty = items.isEmpty := by
  cases xs with
  | nil => exact (Array.isEmpty_iff_size_eq_zero.mpr e1.symm).symm
  | cons x r =>
    cases hi : items.isEmpty with
    | false => rfl
    | true => rw [Array.isEmpty_iff_size_eq_zero.mp hi] at e1; cases e1
theorem truthy_ok {v : PV} {u : Value} {b : Bool} (I : Rp X ρ σ s.heap) (r : VRep s.heap ρ v u) (e : truthy σ v = some b) : Gv X A s (PySem.truthy u) b := fun Q E k => by
  cases r with
  | none => cases e; exact truthy_none (k s.toks)
  | bool x => cases e; exact wpAny_truthy_bool (k s.toks)
  | loc hp =>
    rename_i l p
    cases ho : σ[l]? with
    | none => rw [show truthy σ (.loc l) = none by show (match σ[l]? with | some (.list xs) => _ | _ => _) = _; rw [ho]] at e; cases e
    | some o =>
      rw [show truthy σ (.loc l) = (match some o with | some (.list xs) => if szOK xs.length then some (!xs.isEmpty) else none | _ => none) by rw [← ho]; rfl] at e
      cases o with
      | list xs =>
        obtain ⟨items, pl, rr⟩ := lst_of' I hp ho
        have e1 : xs.length = items.size := rr.length
        by_cases hz : szOK xs.length = true
        · have e : (if szOK xs.length = true then some (!xs.isEmpty) else none) = some b := e
          rw [if_pos hz] at e
          cases e
          rw [isEmpty_eq e1] at k
          exact wpAny_truthy_list (isList_of_plain pl) (by have := of_decide_eq_true hz; omega) (k _)
        · have e : (if szOK xs.length = true then some (!xs.isEmpty) else none) = some b := e
          rw [if_neg hz] at e; cases e
      | _ => cases e
  | _ => cases e

theorem isIn_ok {a b : PV} {u v : Value} {r : Bool} (ra : VRep s.heap ρ a u) (rb : VRep s.heap ρ b v) (e : isIn a b = some r) : Gv X A s (compareOp .In u v) (.bool r) := by
  cases rb with
  | str y t => cases ra <;> first | (cases e; done) | (cases e; exact fun Q E k => P.in_str (k s.toks))
  | _ => cases e
theorem cmp2_ok {a b : PV} {u v : Value} {r : Bool} {t : Sem Value} {f : Int → Int → Bool} (ra : VRep s.heap ρ a u) (rb : VRep s.heap ρ b v) (e : cmp2 a b f = some r) (h : ∀ x y tx ty, u = .int x tx → v = .int y ty → Gv X A s t (.bool (f x y))) : Gv X A s t (.bool r) := by
  cases ra with
  | int x tx => cases rb <;> first | (cases e; done) | (cases e; exact h _ _ _ _ rfl rfl)
  | _ => cases e

theorem cmpop_ok {op : CmpOp} {a b : PV} {u v : Value} {r : Bool} (I : Rp X ρ σ s.heap) (hu : A.units + 32 < cLine) (ra : VRep s.heap ρ a u) (rb : VRep s.heap ρ b v) (e : cmpop op a b σ = some r) : Gv X A s (compareOp op u v) (.bool r) := by
  have hu' : A.units + eqFuel < cLine := by unfold eqFuel; omega
  cases op <;> first | (cases e; done) | skip
  · exact fun Q E k => (eqv_at I eqFuel A a b u v r hu' ra rb e).1 _ _ _ _ (k s.toks)
  · have e : (if isBytes a = true then none else (eqv σ eqFuel a b).map (! ·)) = some r := e
    cases hb : isBytes a with
    | true => rw [hb] at e; cases e
    | false =>
      rw [hb] at e
      obtain ⟨c, e1, rfl⟩ := Option.map_eq_some_iff.mp e
      exact fun Q E k => (eqv_at I eqFuel A a b u v c hu' ra rb e1).2.2 hb _ _ _ _ (k s.toks)
  · exact cmp2_ok ra rb e fun x y tx ty e1 e2 Q E k => by rw [e1, e2]; exact P.lt_int (k s.toks)
  · exact cmp2_ok ra rb e fun x y tx ty e1 e2 Q E k => by rw [e1, e2]; exact P.gt_int (k s.toks)
  · exact cmp2_ok ra rb e fun x y tx ty e1 e2 Q E k => by rw [e1, e2]; exact P.ge_int (k s.toks)
  · exact isIn_ok ra rb e
end
end Mine
end

section
set_option autoImplicit false
set_option linter.unusedVariables false
namespace Mine
open PySem PySem.W PyProof.Rows PySem.SeqAt

/-! sorting -/
section
variable {α : Type} {lt : α → α → Bool}
theorem insG_perm (x : α) (l : List α) : (insG lt x l).Perm (x :: l) := by
  induction l with
  | nil => exact .refl _
  | cons y r ih =>
    show (if lt x y = true then x :: y :: r else y :: insG lt x r).Perm _
    by_cases h : lt x y = true
    · rw [if_pos h]
    · rw [if_neg h]; exact (ih.cons y).trans (.swap _ _ _)
theorem sortG_perm (l : List α) : (sortG lt l).Perm l := by
  induction l with
  | nil => exact .refl _
  | cons x r ih => exact (insG_perm x _).trans (ih.cons x)
theorem insG_up (ht : ∀ a b c : α, lt b a = false → lt c b = false → lt c a = false) (ha : ∀ a b : α, lt a b = true → lt b a = false) (x : α) (l : List α) (h : l.Pairwise (fun a b => lt b a = false)) : (insG lt x l).Pairwise (fun a b => lt b a = false) := by
  induction l with
  | nil => exact List.pairwise_singleton _ _
  | cons y r ih =>
    obtain ⟨h1, h2⟩ := List.pairwise_cons.mp h
    show (if lt x y = true then x :: y :: r else y :: insG lt x r).Pairwise _
    by_cases hx : lt x y = true
    · rw [if_pos hx]
      refine List.pairwise_cons.mpr ⟨fun z hz => ?_, h⟩
      rcases List.mem_cons.mp hz with e | hz
      · rw [e]; exact ha _ _ hx
      · exact ht x y z (ha _ _ hx) (h1 z hz)
    · rw [if_neg hx]
      refine List.pairwise_cons.mpr ⟨fun z hz => ?_, ih h2⟩
      rcases List.mem_cons.mp ((insG_perm x r).mem_iff.mp hz) with e | hz
      · rw [e]; exact Bool.eq_false_iff.mpr hx
      · exact h1 z hz
theorem sortG_up (ht : ∀ a b c : α, lt b a = false → lt c b = false → lt c a = false) (ha : ∀ a b : α, lt a b = true → lt b a = false) (l : List α) : (sortG lt l).Pairwise (fun a b => lt b a = false) := by
  induction l with
  | nil => exact .nil
  | cons x r ih => exact insG_up ht ha x _ ih
theorem sortG_uniq (ht : ∀ a b c : α, lt b a = false → lt c b = false → lt c a = false) (ha : ∀ a b : α, lt a b = true → lt b a = false) (he : ∀ a b : α, lt a b = false → lt b a = false → a = b)
    {l l' : List α} (hp : l'.Perm l) (hs : l'.Pairwise (fun a b => lt b a = false)) : l' = sortG lt l :=
  List.Perm.eq_of_pairwise (fun a b _ _ h1 h2 => he a b h2 h1) hs (sortG_up ht ha l) (hp.trans (sortG_perm l).symm)
end
theorem sltS_tr (a b c : Str) (h1 : sltS b a = false) (h2 : sltS c b = false) : sltS c a = false := by
  simp only [sltS, decide_eq_false_iff_not] at *
  exact fun h => by
    have h1' : a.cps.toList ≤ b.cps.toList := h1
    have h2' : b.cps.toList ≤ c.cps.toList := h2
    exact (List.le_trans h1' h2') h
theorem sltS_as (a b : Str) (h1 : sltS a b = true) : sltS b a = false := by
  simp only [sltS, decide_eq_false_iff_not, decide_eq_true_eq] at *
  exact fun h => List.lt_asymm h1 h
theorem sltS_eq (a b : Str) (h1 : sltS a b = false) (h2 : sltS b a = false) : a = b := by
  simp only [sltS, decide_eq_false_iff_not] at *
  have : a.cps.toList = b.cps.toList := List.le_antisymm (by exact h2) (by exact h1)
  cases a; cases b
  simp only [Str.mk.injEq]
  exact Array.toList_inj.mp this
theorem rising_pw (l : List Str) : ∀ x : Str, risingS x l = true → l.Pairwise (fun a b => sltS b a = false) ∧ ∀ y, y ∈ l → sltS y x = false := by
  induction l with
  | nil => exact fun x _ => ⟨.nil, fun y h => nomatch h⟩
  | cons y r ih =>
    intro x h
    simp only [risingS, Bool.and_eq_true, Bool.not_eq_true', ltCps_eq] at h
    have h2 := h.2
    have h1 : sltS y x = false := h.1
    obtain ⟨i1, i2⟩ := ih y h2
    refine ⟨List.pairwise_cons.mpr ⟨i2, i1⟩, fun z hz => ?_⟩
    rcases List.mem_cons.mp hz with e | hz
    · rw [e]; exact h1
    · exact sltS_tr x y z h1 (i2 z hz)
theorem sortS_eq {l l' : List Str} (hp : l'.Perm l) (hs : sortedS l' = true) : l' = sortG sltS l := by
  refine sortG_uniq sltS_tr sltS_as sltS_eq hp ?_
  cases l' with
  | nil => exact .nil
  | cons x r =>
    obtain ⟨i1, i2⟩ := rising_pw r x hs
    exact List.pairwise_cons.mpr ⟨i2, i1⟩

section
variable {h : Heap} {ρ : Rho}
theorem VReps.one {v : PV} {us : List Value} (r : VReps h ρ [v] us) : ∃ u, us = [u] ∧ VRep h ρ v u := by
  cases r with | cons a r => cases r; exact ⟨_, rfl, a⟩
theorem strKeys_are {xs : List PV} {us : List Value} (r : VReps h ρ xs us) : ∀ {ns : List Str}, strKeys xs = some ns → StrsAre us ns := by
  induction r using VReps.ind with
  | nil => intro ns e; cases e; exact .nil
  | cons a r ih =>
    intro ns e
    cases a with
    | str x t =>
      obtain ⟨m, e', q⟩ := Option.map_eq_some_iff.mp e
      cases q
      exact .cons _ _ (ih e')
    | _ => cases e
theorem boolsOf_are {xs : List PV} {us : List Value} (r : VReps h ρ xs us) : ∀ {ns : List Bool}, boolsOf xs = some ns → LSm.BoolsAre us ns := by
  induction r using VReps.ind with
  | nil => intro ns e; cases e; exact .nil
  | cons a r ih =>
    intro ns e
    cases a with
    | bool b =>
      obtain ⟨m, e', q⟩ := Option.map_eq_some_iff.mp e
      cases q
      exact .cons _ (ih e')
    | _ => cases e
theorem strs_rep {us : List Value} {ns : List Str} (r : StrsAre us ns) : VReps h ρ (ns.map .str) us := by
  induction r with
  | nil => exact .nil
  | cons n t _ ih => exact .cons (.str n t) ih
end

section
variable {X : Cx} {A : Around} {W fs : List Addr} {ρ : Rho} {σ : St} {s : Shared}
theorem get?_oob {h : Heap} {a : Addr} (e : h.objs.size ≤ a) : h.get? a = none := by
  cases q : h.get? a with
  | none => rfl
  | some o => exact absurd (Heap.lt_size q) (Nat.not_lt.mpr e)
/-- a new list, made somehow -/
theorem ok_newlist {t : Sem Value} {l : List PV} (I : Rp X ρ σ s.heap)
    (h : ∀ Q E, (∀ a h' k items, (∀ b o, s.heap.get? b = some o → h'.get? b = some o) → s.heap.get? a = none → h'.PlainList a items → VReps s.heap ρ l items.toList → Q (.ref a) { s with heap := h', toks := k }) → wpAny (model X.prog X.w) A t Q E s) :
    Ok X A [] fs ρ s VRep t (alloc (.list l) σ) :=
  Ok.to fun Q E k => h Q E fun a h' j items kp ha hp r => by
    have hn : ∀ b, b ∈ ownedOf (a, (none : Option Addr)) → s.heap.get? b = none := fun b q => by simp [ownedOf] at q; subst q; exact ha
    have S : Step (W := []) (fs := fs) ρ (ρ ++ [(a, none)]) s.heap h' := Step.grow kp fun b q => hn b (by simpa [owned] using q)
    refine k _ (ρ ++ [(a, none)]) _ ⟨_, j, rfl⟩ (I.grow kp hn (by simp [ownedOf]) fun S' => ?_) ?_ S
    · exact .list hp (r.step S' noSeq_nil)
    · have : (ρ ++ [(a, (none : Option Addr))])[σ.length]? = some (a, none) := by rw [← I.len]; simp
      exact .loc this
theorem ok_newtup {t : Sem Value} {l : List PV} (I : Rp X ρ σ s.heap)
    (h : ∀ Q E, (∀ a h' k items, (∀ b o, s.heap.get? b = some o → h'.get? b = some o) → s.heap.get? a = none → h'.IsTuple a items → VReps s.heap ρ l items.toList → Q (.ref a) { s with heap := h', toks := k }) → wpAny (model X.prog X.w) A t Q E s) :
    Ok X A [] fs ρ s VRep t (.ok (.tup l) σ) :=
  Ok.to fun Q E k => h Q E fun a h' j items kp ha hp r => by
    have S : Step (W := []) (fs := fs) ρ ρ s.heap h' := Step.of_keeps kp
    have S' : Step (W := []) (fs := fs) ρ ρ s.heap h' := Step.of_keeps kp
    exact k _ ρ _ ⟨_, j, rfl⟩ (I.keeps kp) (.tup hp (I.offNew ha) (r.step S' noSeq_nil)) S
/-- a plain value, while new things were made -/
theorem ok_grown {t : Sem Value} {v : PV} {u : Value} (I : Rp X ρ σ s.heap) (r : VRep s.heap ρ v u)
    (h : ∀ Q E, (∀ h' k, (∀ b o, s.heap.get? b = some o → h'.get? b = some o) → Q u { s with heap := h', toks := k }) → wpAny (model X.prog X.w) A t Q E s) : Ok X A [] fs ρ s VRep t (.ok v σ) :=
  Ok.to fun Q E k => h Q E fun h' j kp => by
    have S : Step (W := []) (fs := fs) ρ ρ s.heap h' := Step.of_keeps kp
    have S' : Step (W := []) (fs := fs) ρ ρ s.heap h' := Step.of_keeps kp
    exact k _ ρ _ ⟨_, j, rfl⟩ (I.keeps kp) (r.step S' noSeq_nil) S

noncomputable def biCall : Bi → List Value → Value × List Value
  | .len, us => (.builtin "len", us)
  | .sorted, us => (.builtin "sorted", us)
  | .list, us => (.type "list", us)
  | .tuple, us => (.type "tuple", us)
  | .all, us => (.builtin "all", us)
  | .abs, us => (.builtin "abs", us)
  | .int, us => (.type "int", us)
  | .isStr, us => (.builtin "isinstance", us ++ [.type "str"])
  | .isInt, us => (.builtin "isinstance", us ++ [.type "int"])
  | .isBool, us => (.builtin "isinstance", us ++ [.type "bool"])
  | .isBytes, us => (.builtin "isinstance", us ++ [.type "bytes"])
  | .isTuple, us => (.builtin "isinstance", us ++ [.type "tuple"])

theorem isinst_bytes {T : String} {b : Array UInt8} {t : Tok} (hne : (Value.type "bytes" == Value.type T) = false) (hty : typeOf (.type T) = pure (.type "type")) (hsub : isSubtype (.type "bytes") (.type T) = pure false) {E : Value → Shared → Prop} {Q : Value → Shared → Prop}
    (h : Q (.bool false) { s with toks := s.toks + 1 }) : wpAny (model X.prog X.w) A (call (.builtin "isinstance") [.bytes b t, .type T]) Q E s :=
  call_isinstance (S := fun _ R s => R (.ok (.ret (.bool false))) { s with toks := s.toks + 1 }) (fun _ _ _ _ s hs => by
    obtain ⟨h, g, d, tt, os⟩ := s
    exact isinstance_outer (isinstance_nested_false_bytes hne hty hsub hs)) h

theorem isi_ok (I : Rp X ρ σ s.heap) {v : PV} {u : Value} (r : VRep s.heap ρ v u) (hp : plainV σ v = true) :
    Gv X A s (call (.builtin "isinstance") [u, .type "str"]) (.bool (Mine.isStr v)) ∧
    Gv X A s (call (.builtin "isinstance") [u, .type "int"]) (.bool (Mine.isInt v)) ∧
    Gv X A s (call (.builtin "isinstance") [u, .type "bool"]) (.bool (Mine.isBool v)) ∧
    Gv X A s (call (.builtin "isinstance") [u, .type "bytes"]) (.bool (Mine.isBytes v)) ∧
    Gv X A s (call (.builtin "isinstance") [u, .type "tuple"]) (.bool (Mine.isTuple v)) := by
  cases r with
  | none => exact ⟨fun Q E k => IsiPair.NoneType_str (k _), fun Q E k => IsiPair.NoneType_int (k _), fun Q E k => IsiPair.NoneType_bool (k _), fun Q E k => IsiPair.NoneType_bytes (k _), fun Q E k => IsiPair.NoneType_tuple (k _)⟩
  | bool b => exact ⟨fun Q E k => IsiPair.bool_str (k _), fun Q E k => IsiPair.bool_int (k s.toks), fun Q E k => IsiPair.bool_bool (k s.toks), fun Q E k => IsiPair.bool_bytes (k _), fun Q E k => IsiPair.bool_tuple (k _)⟩
  | int b => exact ⟨fun Q E k => IsiPair.int_str (k _), fun Q E k => IsiPair.int_int (k s.toks), fun Q E k => IsiPair.int_bool (k _), fun Q E k => IsiPair.int_bytes (k _), fun Q E k => IsiPair.int_tuple (k _)⟩
  | str b => exact ⟨fun Q E k => IsiPair.str_str (k s.toks), fun Q E k => IsiPair.str_int (k _), fun Q E k => IsiPair.str_bool (k _), fun Q E k => IsiPair.str_bytes (k _), fun Q E k => IsiPair.str_tuple (k _)⟩
  | bytes b =>
    exact ⟨fun Q E k => isinst_bytes (by decide +kernel) F.isi_meta_str F.sub_bytes_str (k _), fun Q E k => isinst_bytes (by decide +kernel) F.isi_meta_int F.sub_bytes_int (k _), fun Q E k => isinst_bytes (by decide +kernel) F.isi_meta_bool F.sub_bytes_bool (k _),
      fun Q E k => call_isinstance (isinstance_true (Tx := "bytes") F.isi_meta_bytes F.sub_bytes_bytes) ⟨rfl, k s.toks⟩, fun Q E k => isinst_bytes (by decide +kernel) F.isi_meta_tuple F.sub_bytes_tuple (k _)⟩
  | tup ht _ _ =>
    obtain ⟨o, ho, hc, _⟩ := ht
    exact ⟨fun Q E k => IsiPair.tuple_str ho hc (k _), fun Q E k => IsiPair.tuple_int ho hc (k _), fun Q E k => IsiPair.tuple_bool ho hc (k _), fun Q E k => IsiPair.tuple_bytes ho hc (k _), fun Q E k => IsiPair.tuple_tuple ho hc (k s.toks)⟩
  | loc hq =>
    obtain ⟨xs, hx⟩ := isLs_ex hp
    obtain ⟨items, ⟨n, ho⟩, _⟩ := lst_of' I hq hx
    exact ⟨fun Q E k => IsiPair.list_str ho rfl (k _), fun Q E k => IsiPair.list_int ho rfl (k _), fun Q E k => IsiPair.list_bool ho rfl (k _), fun Q E k => IsiPair.list_bytes ho rfl (k _), fun Q E k => IsiPair.list_tuple ho rfl (k _)⟩

theorem size_of {xs : List PV} {items : Array Value} (r : VReps s.heap ρ xs items.toList) : items.size = xs.length :=
  r.length.symm
theorem szOK_le {n : Nat} (h : szOK n = true) : n ≤ 1000000 := of_decide_eq_true h
theorem kept_iter' {h' : Heap} {o : Obj} (hk : ∀ b x, b ∉ [s.heap.objs.size] → (s.heap.push o).get? b = some x → h'.get? b = some x) : ∀ b x, s.heap.get? b = some x → h'.get? b = some x :=
  fun b x e => hk b x (fun hm => by rw [List.mem_singleton.mp hm] at e; exact Nat.lt_irrefl _ (Heap.lt_size e)) (Heap.get?_push_of_some _ e)

theorem sorted_at (h : Heap) (vs : List Value) (out : Array Value) : (∀ b o, h.get? b = some o → (sortedAll h vs out).get? b = some o) ∧ (sortedAll h vs out).PlainList (h.objs.size + 1) out := by
  obtain ⟨e, he⟩ := sortedAll_at h vs out
  exact ⟨fun _ _ => sortedAll_old, ⟨e, by simpa [seqObj] using he⟩⟩

theorem dlist {es : List (PV × PV)} {d : Addr} (I : Rp X ρ σ s.heap) (hh : A.handled = none) (D : DRep X s.heap ρ es d) (ns : (d == sysModules) = false) (hz : es.length ≤ 1000000) : Ok X A [] fs ρ s VRep (call (.type "list") [.ref d]) (alloc (.list (es.map (·.1))) σ) :=
  ok_newlist I fun Q E k => by
    obtain ⟨_, kvs, d, r⟩ := D
    obtain ⟨ep, hat⟩ := d.dictAt
    refine kdl_call (kdl_dict (ep := ep) ns) hh hat (by rw [sizeLine_eq, ← r.length]; omega) fun h' tk acc' c' hk hD hacc => ?_
    refine k _ h' tk acc' hk (get?_size _) ⟨c', hD⟩ ?_
    rw [r.keys, show (kvs.map fun p => PV.str p.1) = (kvs.map (·.1)).map .str from (List.map_map ..).symm]
    refine VReps.strs _ _ (by rw [List.length_map]; exact hacc.1) fun i x hx => ?_
    obtain ⟨⟨k', v'⟩, e1, e0⟩ := Option.map_eq_some_iff.mp (List.getElem?_map .. ▸ hx)
    cases e0
    have hi : i < acc'.size := by rw [hacc.1]; exact (List.getElem?_eq_some_iff.mp e1).1
    obtain ⟨k2, x2, e2, e3⟩ := hacc.2 i acc'[i] (Array.getElem?_eq_getElem hi)
    rw [e1] at e2
    cases e2
    obtain ⟨t, e4⟩ := Value.isStrOf_shape e3
    exact ⟨t, by rw [Array.getElem?_toList, Array.getElem?_eq_getElem hi, e4]⟩

theorem Ok.optR {α : Type} {t : Sem Value} {o : Option α} {f : α → R PV} (h : ∀ a, o = some a → Ok X A [] fs ρ s VRep t (f a)) : Ok X A [] fs ρ s VRep t (optR o f) := by
  cases o with
  | none => exact .stuck
  | some a => exact h a rfl
theorem ok_lst {t : Value → Sem Value} {v : PV} {u : Value} {f : List PV → R PV} (I : Rp X ρ σ s.heap) (r : VRep s.heap ρ v u) (h : ∀ a items xs, s.heap.PlainList a items → VReps s.heap ρ xs items.toList → Ok X A [] fs ρ s VRep (t (.ref a)) (f xs)) : Ok X A [] fs ρ s VRep (t u) (lstR σ v f) := by
  cases r with
  | loc hp =>
    rename_i l p
    have e : lstR σ (.loc l) f = (match σ[l]? with | some (.list xs) => f xs | _ => .stuck) := rfl
    rw [e]
    cases ho : σ[l]? with
    | none => exact .stuck
    | some o =>
      cases o with
      | list xs => obtain ⟨items, pl, rr⟩ := lst_of' I hp ho; exact h _ _ _ pl rr
      | _ => exact .stuck
  | _ => exact .stuck
theorem ok_biInt {t : Value → Sem Value} {v : PV} {u : Value} {f : Int → R PV} (r : VRep s.heap ρ v u) (h : ∀ i k, Ok X A [] fs ρ s VRep (t (.int i k)) (f i)) : Ok X A [] fs ρ s VRep (t u) (biInt v f) := by
  cases r with
  | int i k => exact h i k
  | _ => exact .stuck

theorem len_ok {v : PV} {u : Value} (I : Rp X ρ σ s.heap) (r : VRep s.heap ρ v u) : Ok X A [] fs ρ s VRep (call (.builtin "len") [u]) (biLen σ v) := by
  cases r with
  | str x t => exact .guard fun hz => ok_int I fun Q E k => PyProof.Rows.len_str (by have := szOK_le hz; omega) (k _ _)
  | tup ht n rr =>
    refine .guard fun hz => ?_
    have := szOK_le hz
    have e := size_of rr
    rw [← e]
    exact ok_int I fun Q E k => len_tuple ht (by omega) (k _ _)
  | loc hp =>
    refine ok_lst (t := fun u => call (.builtin "len") [u]) (f := fun xs => if szOK xs.length then .ok (.int xs.length) σ else .stuck) I (.loc hp) fun a items xs pl rr => .guard fun hz => ?_
    have := szOK_le hz
    have e := size_of rr
    rw [← e]
    exact ok_int I fun Q E k => Calls.call_len_list (isList_of_plain pl) (by omega) (k _ _)
  | _ => exact .stuck
theorem list_ok {v : PV} {u : Value} (I : Rp X ρ σ s.heap) (hh : A.handled = none) (r : VRep s.heap ρ v u) : Ok X A [] fs ρ s VRep (call (.type "list") [u]) (biList σ v) := by
  cases r with
  | tup ht n rr =>
    refine .guard fun hz => ?_
    have := szOK_le hz
    have e := size_of rr
    refine ok_newlist I fun Q E k => ?_
    obtain ⟨o, ho, hc, m, hd⟩ := ht
    exact call_list_seq _ (.inr rfl) ho hc hd (fun h' c' hk hl => k _ h' s.toks _ hk (get?_size _) ⟨c', hl⟩ rr) (by rw [sizeLine_eq]; omega)
  | loc hp =>
    rename_i l p
    have e : biList σ (.loc l) = (match σ[l]? with | some (.dict es) => if szOK es.length then alloc (.list (es.map (·.1))) σ else .stuck | _ => .stuck) := rfl
    rw [e]
    cases ho : σ[l]? with
    | none => exact .stuck
    | some o =>
      cases o with
      | dict es => exact .guard fun hz => dlist I hh (dict_of I hp ho) (notSys' I hp ho) (szOK_le hz)
      | _ => exact .stuck
  | _ => exact .stuck
theorem blt_all {a : Addr} {items : Array Value} {bs : List Bool} (I : Rp X ρ σ s.heap) (hh : A.handled = none) (pl : s.heap.PlainList a items) (hb : LSm.BoolsAre items.toList bs) : Ok X A [] fs ρ s VRep (call (.builtin "all") [.ref a]) (.ok (.bool (bs.all id)) σ) := by
  have hl := isList_of_plain pl
  refine ok_grown I (.bool _) fun Q E k => ?_
  have hlt := (let ⟨_, e, _⟩ := hl; Heap.lt_size e : _ < s.heap.objs.size)
  refine call_all_walk (wpAny_pyIter_list hl ?_)
  refine ⟨s.heap.objs.size, [s.heap.objs.size, _], [s.heap.objs.size], items.size, _, _, fun i => (bs[i]?).getD true, rfl, Walks.list (A := A.in1) hh _ _ (Nat.ne_of_lt hlt) items,
    ⟨⟨_, Heap.get?_push_size _ rfl, rfl, rfl⟩, hl.push _⟩, fun i v s' Q' E' hP hQ => ?_, fun h' tk hk => ?_⟩
  · obtain ⟨b, e, rfl⟩ := hb.get i v (by rw [Array.getElem?_toList]; exact hP)
    have hQ : Q' ((bs[i]?).getD true) s' := hQ
    rw [e] at hQ
    exact wpAny_truthy_bool hQ
  · have e : ((List.range items.size).all fun i => (bs[i]?).getD true) = bs.all id := by
      rw [show items.size = bs.length from hb.length]; exact LSm.range_all bs
    rw [e]
    exact k h' tk (kept_iter' hk)
theorem tuple_ok {a : Addr} {items : Array Value} {xs : List PV} (I : Rp X ρ σ s.heap) (pl : s.heap.PlainList a items) (rr : VReps s.heap ρ xs items.toList) (hz : szOK xs.length = true) : Ok X A [] fs ρ s VRep (call (.type "tuple") [.ref a]) (.ok (.tup xs) σ) := by
  have := szOK_le hz
  have e := size_of rr
  refine ok_newtup I fun Q E k => call_tuple_list (isList_of_plain pl) (fun h' hk => k _ _ s.toks items (fun b o eo => Heap.get?_push_of_some _ (hk b o eo)) ?_ ⟨_, Heap.get?_push_size _ rfl, rfl, 0, rfl⟩ rr) (by rw [sizeLine_eq]; omega)
  cases q : s.heap.get? h'.objs.size with
  | none => rfl
  | some o => exact absurd (Heap.lt_size (hk _ _ q)) (Nat.lt_irrefl _)
theorem sorted_ok {a : Addr} {items : Array Value} {xs : List PV} {ss : List Str} (I : Rp X ρ σ s.heap) (pl : s.heap.PlainList a items) (rr : VReps s.heap ρ xs items.toList) (hz : xs.length ≤ 60) (hss : strKeys xs = some ss) : Ok X A [] fs ρ s VRep (call (.builtin "sorted") [.ref a]) (alloc (.list ((sortG sltS ss).map .str)) σ) := by
  have e : xs.length = items.size := rr.length
  refine ok_newlist I fun Q E k => ?_
  have il := isList_of_plain pl
  rw [← Array.toArray_toList (xs := items)] at il
  refine sorted_strs il (strKeys_are rr hss) (by show items.size < _; omega) fun out ns' a1 a2 a3 => ?_
  obtain ⟨b1, b2⟩ := sorted_at s.heap items.toList out
  rw [← sortS_eq a2 a3] at k
  exact k _ _ s.toks out b1 (get?_oob (Nat.le_succ _)) b2 (strs_rep a1)

theorem builtin_ok {b : Bi} {args : List PV} {us : List Value} (I : Rp X ρ σ s.heap) (hh : A.handled = none) (r : VReps s.heap ρ args us) :
    Ok X A [] fs ρ s VRep (call (biCall b us).1 (biCall b us).2) (builtin b args σ) := by
  cases r with
  | nil => exact .stuck
  | cons a r =>
    cases r with
    | cons _ _ => exact .stuck
    | nil =>
      rename_i v u
      show Ok X A [] fs ρ s VRep _ (bi1 b v σ)
      cases b with
      | len => exact len_ok I a
      | sorted => exact ok_lst (t := fun u => call (.builtin "sorted") [u]) I a fun _ _ _ pl rr => .guard fun hz => .optR fun ss hss => sorted_ok I pl rr hz hss
      | list => exact list_ok I hh a
      | tuple => exact ok_lst (t := fun u => call (.type "tuple") [u]) I a fun _ _ _ pl rr => .guard fun hz => tuple_ok I pl rr hz
      | all => exact ok_lst (t := fun u => call (.builtin "all") [u]) I a fun _ _ _ pl rr => .guard fun hz => .optR fun bs hbs => blt_all I hh pl (boolsOf_are rr hbs)
      | abs =>
        refine ok_biInt (t := fun u => call (.builtin "abs") [u]) a fun i t => ?_
        have e : ((i.natAbs : Nat) : Int) = if i < 0 then -i else i := by split <;> omega
        rw [e]
        exact ok_int I fun Q E k => call_abs_int fun u j => k u j
      | int => exact ok_biInt (t := fun u => call (.type "int") [u]) a fun i t => ok_int I fun Q E k => call_int_int (k _ _)
      | isStr => exact .guard fun hp => ok_bool I fun Q E k => (isi_ok I a hp).1 Q E k
      | isInt => exact .guard fun hp => ok_bool I fun Q E k => (isi_ok I a hp).2.1 Q E k
      | isBool => exact .guard fun hp => ok_bool I fun Q E k => (isi_ok I a hp).2.2.1 Q E k
      | isBytes => exact .guard fun hp => ok_bool I fun Q E k => (isi_ok I a hp).2.2.2.1 Q E k
      | isTuple => exact .guard fun hp => ok_bool I fun Q E k => (isi_ok I a hp).2.2.2.2 Q E k
end
end Mine
end

section
set_option autoImplicit false
set_option linter.unusedVariables false
namespace Mine
open PySem PySem.W PyProof.Rows PySem.SeqAt

section
variable {X : Cx} {A : Around} {W fs : List Addr} {ρ : Rho} {σ : St} {s : Shared}

noncomputable def miId (_ : Mi) : String := "str.split"

theorem strVals_rep {h : Heap} (l : List (Str × Tok)) : VReps h ρ ((l.map (·.1)).map PV.str) (strValues l) := by
  induction l with
  | nil => exact .nil
  | cons p r ih => exact .cons (.str p.1 p.2) ih

/-- an owned thing was turned in place -/
theorem ok_turn {α β : Type} {rel : Heap → Rho → α → β → Prop} {t : Sem β} {a : α} {b : β} (I : Rp X ρ σ s.heap) {l : Nat} {p : Addr × Option Addr} {po : PO} (hl : ρ[l]? = some p) (nf : ∀ xs, σ[l]? ≠ some (.frz xs)) {d : Addr} (ha : d ∈ ownedOf p)
    (hrel : ∀ h', Step [] [] ρ ρ s.heap h' → rel h' ρ a b)
    (h : ∀ Q E, (∀ h' k, Heap.SameBut d s.heap h' → (∃ o, h'.get? d = some o) → (Step [] [] ρ ρ s.heap h' → ORep X h' ρ po p) → Q b { s with heap := h', toks := k }) → wpAny (model X.prog X.w) A t Q E s) :
    Ok X A [] fs ρ s rel t (.ok a (σ.set l po)) :=
  Ok.to fun Q E k => h Q E fun h' j hs ht hr => by
    have S : ∀ fs, Step [] fs ρ ρ s.heap h' := fun fs => Step.turn (.inl (List.mem_flatMap.mpr ⟨p, List.mem_of_getElem? hl, ha⟩)) hs ht
    have S0 : Step [] [] ρ ρ s.heap h' := Step.turn (.inl (List.mem_flatMap.mpr ⟨p, List.mem_of_getElem? hl, ha⟩)) hs ht
    exact k _ ρ _ ⟨h', j, rfl⟩ (I.turn hl nf ha hs ht hr) (hrel h' S0) (S fs)

theorem list_set {xs : List PV} {l : Nat} {p : Addr × Option Addr} (I : Rp X ρ σ s.heap) (hp : ρ[l]? = some p) (hx : σ[l]? = some (.list xs)) : ∃ a items, p = (a, none) ∧ s.heap.PlainList a items ∧ VReps s.heap ρ xs items.toList := by
  have r := I.objs _ _ _ hp hx
  cases r with
  | list h1 h2 => exact ⟨_, _, rfl, h1, h2⟩

theorem split_ok {x y : Str} {t u : Tok} (I : Rp X ρ σ s.heap) (hy : (y.length == 0) = false) (hx : szOK x.length = true) (hn : szOK (Txt.split x y).length = true) :
    Ok X A [] fs ρ s VRep (call (.builtin "str.split") [.str x t, .str y u]) (alloc (.list ((Txt.split x y).map .str)) σ) := by
  have hx := szOK_le hx
  have hn := szOK_le hn
  refine ok_newlist I fun Q E k => ?_
  have push : ∀ (l : List (Str × Tok)) j, l.map (·.1) = Txt.split x y → Q (.ref s.heap.objs.size) { s with heap := s.heap.push { cls := .type "list", data := .seq (strValues l).toArray }, toks := j } := fun l j e => by
    refine k _ _ j (strValues l).toArray (push_keeps _ _) (get?_size _) ⟨0, Heap.get?_push_size _ rfl⟩ ?_
    rw [← e]
    exact strVals_rep l
  clear k
  cases h1 : (decide (x.length < y.length) || decide (Builtin.Str.strKind x < Builtin.Str.strKind y))
  · cases hf : (Builtin.Str.occurrences x y 0 x.length (x.length + 1)).isEmpty
    · have e : Txt.split x y = Builtin.Str.partsBetween x (Builtin.Str.occurrences x y 0 x.length (x.length + 1)) y.length := (if_neg (ne_true_of_eq_false h1)).trans (if_neg (ne_true_of_eq_false hf))
      refine call_meets F.slot_str_split (typeIs_str _ _ _) F.entry_str_split (F.args_str_split_2 _ _) (meets_str_split_sep x y t u h1 hy hf (by rw [sizeLine_eq]; omega) (by rw [sizeLine_eq, ← e]; omega)) ?_
      show wants Q E _ { s with toks := _, heap := s.heap.push { cls := .type "list", data := .seq (strsFrom s.toks (Builtin.Str.partsBetween x (Builtin.Str.occurrences x y 0 x.length (x.length + 1)) y.length)).toArray } }
      rw [strsFrom_eq]
      exact push _ _ ((numbered_texts _ _).trans e.symm)
    · exact call_meets F.slot_str_split (typeIs_str _ _ _) F.entry_str_split (F.args_str_split_2 _ _) (meets_str_split_not_found x y t u h1 hy hf) (push [(x, t)] s.toks ((if_neg (ne_true_of_eq_false h1)).trans (if_pos hf)).symm)
  · exact call_meets F.slot_str_split (typeIs_str _ _ _) F.entry_str_split (F.args_str_split_2 _ _) (meets_str_split_cannot_occur x y t u h1) (push [(x, t)] s.toks (if_pos h1).symm)
theorem method_ok {m : Mi} {o : PV} {u : Value} {args : List PV} {us : List Value} (I : Rp X ρ σ s.heap) (ro : VRep s.heap ρ o u) (r : VReps s.heap ρ args us) :
    Ok X A [] fs ρ s VRep (call (.builtin (miId m)) (u :: us)) (method m o args σ) := by
  cases ro with
  | str x t =>
    cases r with
    | nil => exact .stuck
    | cons a r =>
      cases r with
      | cons _ _ => exact .stuck
      | nil =>
        cases a with
        | str y w => exact .guard fun h => split_ok I h.1 h.2.1 h.2.2
        | _ => exact .stuck
  | _ => exact .stuck
end
end Mine
end

section
set_option autoImplicit false
set_option linter.unusedVariables false
namespace Mine
open PySem PySem.W PyProof.Rows PySem.SeqAt

section
variable {X : Cx} {A : Around} {W fs : List Addr} {ρ : Rho} {σ : St} {s : Shared}

theorem subObj_ok {o : Option PO} {l : Nat} {p : Addr × Option Addr} {i : PV} {v : Value} (I : Rp X ρ σ s.heap) (hp : ρ[l]? = some p) (ho : σ[l]? = o) (ri : VRep s.heap ρ i v) : Ok X A [] fs ρ s VRep (getItem (.ref p.1) v) (subObj o i σ) := by
  cases o with
  | none => exact .stuck
  | some o =>
    cases o with
    | list xs =>
      refine ok_biInt (t := fun v => getItem (.ref p.1) v) ri fun k t => .guard fun hz => .optR fun x hk => ?_
      obtain ⟨items, pl, rr⟩ := lst_of' I hp ho
      obtain ⟨w, hw, rw'⟩ := rr.get hk
      have hlt : k.toNat < items.size := (List.getElem?_eq_some_iff.mp hw).1
      rw [Array.getElem?_toList] at hw
      exact ok_same I rw' fun Q E q => wpAny_getItem_list (isList_of_plain pl) hz.1 (by omega) hw (q s.toks)
    | dict es =>
      refine .guard fun hk => .optR fun x hx => ?_
      cases ri with
      | str y t =>
        obtain ⟨_, kvs, dd, kk⟩ := dict_of I hp ho
        obtain ⟨w, g1, g2⟩ := (kk.get y).1 _ hx
        exact ok_same I g2 fun Q E q => wpAny_getItem_of (k := y) (strKind_is _ _ y t) dd.mapOf g1 (q _)
      | _ => cases hk
    | _ => exact .stuck
theorem subscr_ok {o i : PV} {u v : Value} (I : Rp X ρ σ s.heap) (ro : VRep s.heap ρ o u) (ri : VRep s.heap ρ i v) : Ok X A [] fs ρ s VRep (getItem u v) (subscr o i σ) := by
  cases ro with
  | str x t =>
    exact ok_biInt (t := fun v => getItem (.str x t) v) ri fun k t => .guard fun hz => .optR fun c hc => ok_str I fun Q E k => PyProof.Rows.getItem_str (by simp; omega) hc (k _ _)
  | tup ht n rr =>
    rename_i a items xs
    refine ok_biInt (t := fun v => getItem (.ref a) v) ri fun k t => .guard fun hz => .optR fun x hx => ?_
    have e := size_of rr
    obtain ⟨j, hj, hx⟩ := Option.bind_eq_some_iff.mp hx
    obtain ⟨w, hw, rw'⟩ := rr.get hx
    rw [Array.getElem?_toList] at hw
    exact ok_same I rw' fun Q E q => PyProof.Rows.getItem_tuple ht (by omega) (by omega) (by rw [e]; exact hj) hw (q s.toks)
  | loc hp => exact subObj_ok I hp rfl ri
  | _ => exact .stuck

/-! slices -/
theorem places_eq (lo hi : Option Int) (n : Nat) : Builtin.Slice.sliceAdjust lo hi 1 (n : Int) = (((kms_lo lo n : Nat) : Int), ((kms_hi hi n : Nat) : Int)) := by
  unfold Builtin.Slice.sliceAdjust
  have h1 : ¬ ((1 : Int) < 0) := by omega
  simp only [h1, if_false]
  refine Prod.ext ?_ ?_
  · cases lo with
    | none => rfl
    | some x => simp only [kms_lo]; split <;> omega
  · cases hi with
    | none => rfl
    | some x => simp only [kms_hi]; split <;> omega
theorem count_eq (a b : Nat) : Builtin.Slice.slicePlaces (a : Int) (b : Int) 1 = b - a := by
  unfold Builtin.Slice.slicePlaces
  have h1 : (1 : Int) > 0 := by omega
  simp only [h1, if_true, Int.ediv_one]
  split <;> omega
theorem part_of {v : Value} {k : Option Int} (h : IsPart v k) {E : Value → Shared → Prop} {Q : Option Int → Shared → Prop} (q : Q k s) : wpAny (model X.prog X.w) A (Builtin.Slice.slicePartIndex v) Q E s := by
  cases h with
  | none => exact slicePart_none q
  | int i t => exact slicePart_int q
theorem applied_of {sl : Addr} {vl vu : Value} {lo hi : Option Int} {n : Nat} (hs : s.heap.IsSliceOf sl vl vu .none) (pl : IsPart vl lo) (pu : IsPart vu hi) {E : Value → Shared → Prop} {Q : Int × Int × Nat → Shared → Prop}
    (h : Q ((kms_lo lo n : Nat), 1, kms_hi hi n - kms_lo lo n) s) : wpAny (model X.prog X.w) A (Builtin.Slice.sliceApplied (.ref sl) (pure (n : Int))) Q E s := by
  obtain ⟨os, hos, hcs, hds⟩ := id hs
  unfold Builtin.Slice.sliceApplied Builtin.Slice.sliceFields
  refine wpAny_bind (wpAny_bind (wpAny_field hos hds (x := vl) rfl (wpAny_bind (wpAny_field hos hds (x := vu) rfl (wpAny_bind (wpAny_field hos hds (x := .none) rfl (wpAny_pure ?_)))))))
  refine wpAny_bind (slicePart_none ?_)
  show wpAny _ _ (if ((1 : Int) == 0) = true then _ else _) _ _ s
  rw [if_neg (by decide)]
  refine wpAny_bind (part_of pl (wpAny_bind (part_of pu (wpAny_bind (wpAny_pure ?_)))))
  show wpAny _ _ (match Builtin.Slice.sliceAdjust lo hi 1 (n : Int) with | (lo, hi) => pure (lo, (1 : Int), Builtin.Slice.slicePlaces lo hi 1)) _ _ s
  rw [places_eq]
  show wpAny _ _ (pure (((kms_lo lo n : Nat) : Int), (1 : Int), Builtin.Slice.slicePlaces (kms_lo lo n : Nat) (kms_hi hi n : Nat) 1)) _ _ s
  rw [count_eq]
  exact wpAny_pure h
theorem lo_le (lo : Option Int) (n : Nat) : kms_lo lo n ≤ n := by unfold kms_lo; split <;> (try split) <;> omega
theorem hi_le (hi : Option Int) (n : Nat) : kms_hi hi n ≤ n := by unfold kms_hi; split <;> (try split) <;> omega
theorem picked_eq (xs : Array Value) (a k : Nat) : ((List.range k).filterMap fun (j : Nat) => xs[((a : Int) + (j : Int) * 1).toNat]?).toArray = ((xs.toList.drop a).take k).toArray := by
  have e : (fun (j : Nat) => xs[((a : Int) + (j : Int) * 1).toNat]?) = (fun x => xs[x]?) ∘ fun x => a + x := by
    funext j
    have : ((a : Int) + (j : Int) * 1).toNat = a + j := by omega
    rw [this]; rfl
  rw [e, ← List.filterMap_map, pick_run]

theorem tupSlice_ok {xs : List PV} {t : Addr} {items : Array Value} (I : Rp X ρ σ s.heap) (ht : s.heap.IsTuple t items) (no : t ∉ owned ρ) (rr : VReps s.heap ρ xs items.toList) (hz : xs.length ≤ 1000000)
    {sl : Addr} {vl vu : Value} {lo hi : Option Int} (hs : s.heap.IsSliceOf sl vl vu .none) (pl : IsPart vl lo) (pu : IsPart vu hi) : Ok X A [] fs ρ s VRep (getItem (.ref t) (.ref sl)) (.ok (.tup (pick xs lo hi)) σ) := by
  have e := size_of rr
  obtain ⟨os, hos, hcs, hds⟩ := id hs
  have hTs : s.TypeIs (.ref sl) "slice" := ⟨os, hos, hcs⟩
  have main : ∀ (Q : Value → Shared → Prop) (E : Value → Shared → Prop),
      (((kms_lo lo items.size : Int) == 0 && (1 : Int) == 1 && (kms_hi hi items.size - kms_lo lo items.size) == items.size) = true → Q (.ref t) s) →
      Q (.ref s.heap.objs.size) { s with heap := s.heap.push { cls := .type "tuple", data := .seq ((items.toList.drop (kms_lo lo items.size)).take (kms_hi hi items.size - kms_lo lo items.size)).toArray } } →
      wpAny (model X.prog X.w) A (getItem (.ref t) (.ref sl)) Q E s := fun Q E h1 h2 => by
    unfold getItem
    try with_reducible refine wpAny_holding ?_
    refine wpAny_bind (wpAny_sequenceKey ht.typeIs (by decide) ?_)
    refine wpAny_bind (wpAny_callSpecial?_slot (name := Str.ofString "__getitem__") ht.typeIs slot_tuple_getitem
      (wpAny_call_entry slot_tuple_getitem ht.typeIs entry_tuple_getitem ?_ (args_tuple_getitem _ _)))
    show wpAny _ _ (Builtin.Tuple.tupleItemsOf (.ref t) >>= _) _ _ s
    refine wpAny_bind (tupleItemsOf_ ht ?_)
    refine wpAny_bind (wpAny_typeOf hTs ?_)
    rw [if_pos (by decide)]
    refine wpAny_bind (applied_of hs pl pu ?_)
    show wpAny _ _ (if ((kms_lo lo items.size : Int) == 0 && (1 : Int) == 1 && (kms_hi hi items.size - kms_lo lo items.size) == items.size) = true then _ else _) _ _ s
    split
    · rename_i hc
      refine wpAny_bind ?_
      unfold Builtin.Tuple.tupleIsExact
      refine wpAny_bind (wpAny_typeOf ht.typeIs ?_)
      refine wpAny_pure ?_
      rw [if_pos (by decide)]
      exact wpAny_bind (wpAny_rule (wpAny_bind (wpAny_pure (wpAny_pure ⟨_, rfl, wpAny_pure (h1 hc)⟩))))
    · rw [picked_eq items]
      have hsz : sizeOk (.seq ((items.toList.drop (kms_lo lo items.size)).take (kms_hi hi items.size - kms_lo lo items.size)).toArray) := by
        show (_ : List Value).toArray.size ≤ sizeLine
        rw [List.size_toArray, sizeLine_eq]
        have := List.length_take_le (kms_hi hi items.size - kms_lo lo items.size) (items.toList.drop (kms_lo lo items.size))
        have := hi_le hi items.size
        omega
      first
        | exact wpAny_bind (m := Builtin.Tuple.tupleExact _) (wpAny_newObj_type (wpAny_pure ⟨_, rfl, wpAny_pure h2⟩) hsz)
        | exact wpAny_bind (m := Builtin.Tuple.tupleExact _) (wpAny_newObj_type (wpAny_bind (wpAny_pure (wpAny_pure ⟨_, rfl, wpAny_pure h2⟩))) hsz)
        | exact wpAny_bind (wpAny_bind (m := Builtin.Tuple.tupleExact _) (wpAny_newObj_type (wpAny_pure (wpAny_pure ⟨_, rfl, wpAny_pure h2⟩)) hsz))
  have hp : pick xs lo hi = (xs.drop (kms_lo lo items.size)).take (kms_hi hi items.size - kms_lo lo items.size) := by unfold pick; rw [e]
  by_cases hc : ((kms_lo lo items.size : Int) == 0 && (1 : Int) == 1 && (kms_hi hi items.size - kms_lo lo items.size) == items.size) = true
  · refine Ok.to fun Q E k => ?_
    have same : pick xs lo hi = xs := by
      simp at hc
      rw [hp, hc.2, hc.1, e]; simp
    refine main Q E (fun _ => ?_) ?_
    · rw [same] at k
      exact k _ ρ s (.refl s) I (.tup ht no rr) Step.refl
    · have kp := push_keeps s.heap { cls := .type "tuple", data := .seq ((items.toList.drop (kms_lo lo items.size)).take (kms_hi hi items.size - kms_lo lo items.size)).toArray }
      have S' : Step (W := []) (fs := fs) ρ ρ s.heap _ := Step.of_keeps kp
      refine k _ ρ _ ⟨_, s.toks, rfl⟩ (I.keeps kp) (.tup ⟨_, Heap.get?_push_size _ rfl, rfl, 0, rfl⟩ I.size_off ?_) (Step.of_keeps kp)
      rw [hp]
      simpa using ((rr.drop _).take _).step S' noSeq_nil
  · refine ok_newtup I fun Q E k => main Q E (fun h => absurd h hc) ?_
    refine k _ _ s.toks _ (push_keeps _ _) (get?_size _) ⟨_, Heap.get?_push_size _ rfl, rfl, 0, rfl⟩ ?_
    rw [hp]
    simpa using (rr.drop _).take _

theorem lstSlice_ok {xs : List PV} {t : Addr} {items : Array Value} (I : Rp X ρ σ s.heap) (ht : s.heap.IsList t items) (rr : VReps s.heap ρ xs items.toList) (hz : xs.length ≤ 1000000)
    {sl : Addr} {vl vu : Value} {lo hi : Option Int} (hs : s.heap.IsSliceOf sl vl vu .none) (pl : IsPart vl lo) (pu : IsPart vu hi) : Ok X A [] fs ρ s VRep (getItem (.ref t) (.ref sl)) (alloc (.list (pick xs lo hi)) σ) := by
  have e := size_of rr
  refine ok_newlist I fun Q E k => ?_
  refine wpAny_getItem_list_slice ht hs pl pu .none (by simp) ?_ (by rw [sizeLine_eq]; omega)
  rw [kms_pick_eq]
  refine k _ _ s.toks _ (push_keeps _ _) (get?_size _) ⟨0, Heap.get?_push_size _ rfl⟩ ?_
  have hp : pick xs lo hi = (xs.drop (kms_lo lo items.toList.length)).take (kms_hi hi items.toList.length - kms_lo lo items.toList.length) := by
    have e' : items.toList.length = xs.length := by simpa using e
    unfold pick; rw [e']
  rw [hp]
  simpa [kms_pick] using (rr.drop _).take _

noncomputable def OptRep (h : Heap) (ρ : Rho) (v : Option PV) (u : Value) : Prop := match v with | none => u = .none | some v => VRep h ρ v u
theorem part_rep {v : Option PV} {u : Value} {k : Option Int} (h : partOf v = some k) (r : OptRep s.heap ρ v u) : IsPart u k := by
  cases v with
  | none => cases h; cases r; exact .none
  | some v =>
    have r : VRep s.heap ρ v u := r
    cases r with
    | int i t =>
      have h : (if i.natAbs ≤ 1000000 then some (some i) else none) = some k := h
      by_cases hi : i.natAbs ≤ 1000000
      · rw [if_pos hi] at h; cases h; exact .int _ _
      · rw [if_neg hi] at h; cases h
    | _ => cases h

theorem sliced_ok {o : PV} {u vl vu : Value} {lo hi : Option PV} (I : Rp X ρ σ s.heap) (ro : VRep s.heap ρ o u) (rl : OptRep s.heap ρ lo vl) (rh : OptRep s.heap ρ hi vu)
    {sl : Addr} (hs : s.heap.IsSliceOf sl vl vu .none) : Ok X A [] fs ρ s VRep (getItem u (.ref sl)) (sliced o lo hi σ) := by
  refine .optR fun a ha => .optR fun b hb => ?_
  have pl := part_rep ha rl
  have pu := part_rep hb rh
  cases ro with
  | tup ht n rr => exact .guard fun hz => tupSlice_ok I ht n rr (szOK_le hz) hs pl pu
  | loc hp =>
    rename_i l p
    have e : ∀ o, σ[l]? = o → Ok X A [] fs ρ s VRep (getItem (.ref p.1) (.ref sl)) (match o with
      | some (.frz xs) => if szOK xs.length then alloc (.list (pick xs a b)) σ else .stuck
      | _ => .stuck) := fun o ho => by
      cases o with
      | none => exact .stuck
      | some o =>
        cases o with
        | frz xs =>
          refine .guard fun hz => ?_
          have r := I.objs _ _ _ hp ho
          cases r with
          | frz h1 h2 h3 rr => exact lstSlice_ok I ⟨_, h1, h2, _, h3⟩ rr (szOK_le hz) hs pl pu
        | _ => exact .stuck
    exact e _ rfl
  | _ => exact .stuck
end
end Mine
end

section
set_option autoImplicit false
set_option linter.unusedVariables false
namespace Mine
open PySem PySem.W PyProof.Rows PySem.SeqAt

theorem look_of_ns {h : Heap} {dx : Addr} {m : Str → Option Value} (n : h.Ns dx m) : ∃ od, h.get? dx = some od ∧ ∀ name, lookIn name od = some (m name) := by
  obtain ⟨o, es, ep, ho, hd, hk, hf⟩ := n
  refine ⟨o, ho, fun name => ?_⟩
  unfold lookIn
  rw [hd]
  have e : nsFind es name = (es.toList.find? (·.key.isStr name)).map (·.val) := by
    unfold nsFind
    obtain ⟨l⟩ := es
    simp [findBy]
  simp only
  rw [← hf name, e]
  cases q : es.toList.find? (·.key.isStr name) with
  | some en => rfl
  | none =>
    have : es.toList.any (·.refKey) = false := by
      rw [List.any_eq_false]
      intro x hx
      obtain ⟨n, t, e⟩ := hk x (by simpa using hx)
      simp [DictEntry.refKey, e]
    simp [this]

section
variable {X : Cx} {A : Around} {W fs : List Addr} {ρ : Rho} {σ : St} {s : Shared}

theorem Rp.kin (I : Rp X ρ σ s.heap) : X.K.In s.heap := X.kin.keeps I.base

structure InstR (X : Cx) (h : Heap) (ρ : Rho) (c : Nat) (fs : List (Nat × PV)) (a dx : Addr) (ox od : Obj) (m : Str → Option Value) : Prop where
  lt : c < NC
  at_ : InstAt h a ox (X.cls c) (some od)
  dict : ox.dict = some dx
  dget : h.get? dx = some od
  ns : h.Ns1 dx m
  within : Within m X.attrs
  look : ∀ name, lookIn name od = some (m name)
  rep : FsRep X h ρ fs m
  raw : h.get? a = some ox
  plain : ox.data = .plain

theorem inst_of {l : Nat} {p : Addr × Option Addr} {c : Nat} {fs : List (Nat × PV)} (I : Rp X ρ σ s.heap) (hp : ρ[l]? = some p) (hl : σ[l]? = some (.inst c fs)) : ∃ a dx ox od m, p = (a, some dx) ∧ InstR X s.heap ρ c fs a dx ox od m := by
  have r := I.objs _ _ _ hp hl
  cases r with
  | inst h0 h1 h2 h3 h4 h5 hw h6 =>
    rename_i a dx ox m
    obtain ⟨od, hod, hl⟩ := look_of_ns h5.ns
    refine ⟨a, dx, ox, od, m, rfl, h0, ⟨h1, h2, ?_, ?_⟩, h3, hod, h5, hw, hl, h6, h1, h4⟩
    · unfold notCls
      rw [h4]
    · rw [h3]; exact hod

theorem handedIn_rep {v : PV} {u : Value} {h : Heap} (r : VRep h ρ v u) : handedIn u = true := by cases r <;> rfl

theorem getattr_ok {o : PV} {u : Value} {a : Nat} {n : Str} (I : Rp X ρ σ s.heap) (ro : VRep s.heap ρ o u) (hn : X.attrs[a]? = some n) : Ok X A [] fs ρ s VRep (getAttr u n true) (getattr o a σ) := by
  cases ro with
  | loc hp =>
    rename_i l p
    have e : ∀ o, σ[l]? = o → Ok X A [] fs ρ s VRep (getAttr (.ref p.1) n true) (match o with
      | some (.inst _ fs) => if a < ND then optR (fs.lookup a) fun v => .ok v σ else .stuck
      | _ => .stuck) := fun o hc => by
      cases o with
      | none => exact .stuck
      | some o =>
        cases o with
        | inst c fs' =>
          refine .guard fun ha => .optR fun v hv => ?_
          obtain ⟨x, dx, ox, od, m, rfl, R⟩ := inst_of I hp hc
          have q := R.rep a n hn
          rw [hv] at q
          obtain ⟨w, e1, e2⟩ := q
          obtain ⟨g1, g2, attr, g3, g4⟩ := X.getOk c a n R.lt ha hn
          exact ok_same I e2 fun Q E k => get_value I.kin R.at_ (plainGet_of g1).1 (findObj_own g2 g3 g4 (by rw [R.look, e1])) (handedIn_rep e2) (k _)
        | _ => exact .stuck
    exact e _ rfl
  | _ => exact .stuck

theorem osa_ns {R : Result → Shared → Prop} {x C dx : Addr} {ox od : Obj} {m : Str → Option Value} {name : Str} {tk : Tok} {v : Value} (X' : X.K.In s.heap) (I : InstAt s.heap x ox C (some od)) (hd : ox.dict = some dx) (hn : s.heap.Ns1 dx m) (hw : Within m X.attrs)
    (hp : plainOver X.K C = true) (ht : takerIn X.K C name = some none) (hh : hasDictIn X.K C = true)
    (h : ∀ h', h'.Ns1 dx (fun x => if x = name then some v else m x) → Heap.SameBut dx s.heap h' → R (.ok (.ret .none)) { s with heap := h', toks := s.toks + 1 }) :
    codeAny (model X.prog X.w) A (.call (.builtin "object.__setattr__") ⟨[.ref x, .str name tk, v], []⟩) R s := by
  refine osa_open X' I hp ht fun b => ?_
  obtain ⟨cd, hc, hd'⟩ := any_some hh
  obtain ⟨hx, hcl, hn', -⟩ := I
  obtain ⟨oc, odi, oda, osl⟩ := ox
  dsimp only at hcl hd
  subst hcl hd
  refine wpAny_bind (wpAny_pure (wpAny_bind (wpAny_bind (wpAny_loadPart hx (wpAny_bind ((looks_clsIn X' hc).here ?_))))))
  rw [hd']
  refine wpAny_pure (a := some dx) (wpAny_bind (wpAny_pure (wpAny_bind ?_)))
  refine wpAny_nsSet1 hn fun h' n' s' => ?_
  obtain ⟨oD, esD, epD, hoD, hdD, hcD⟩ := n'.count (Within.cons name v hw)
  refine wpAny_bind (wpAny_lookBehind hoD (by rw [hdD]; exact pastItsLine_dict (Nat.le_trans hcD (by rw [List.length_cons, sizeLine_eq]; have := X.attrShort; omega))) ?_)
  exact wpAny_pure (h h' n' s')

theorem lookup_putF {a b : Nat} {v : PV} (l : List (Nat × PV)) : (putF a v l).lookup b = if b = a then some v else l.lookup b := by
  have hd : ∀ (k : Nat) (w : PV) (r : List (Nat × PV)), ((k, w) :: r).lookup b = if b = k then some w else r.lookup b := fun k w r => by
    rw [List.lookup_cons]
    by_cases e : b = k
    · rw [e, beq_self_eq_true, if_pos rfl]
    · rw [beq_eq_false_iff_ne.mpr e, if_neg e]
  induction l with
  | nil => exact hd _ _ _
  | cons e r ih =>
    obtain ⟨k, w⟩ := e
    show (if (k == a) = true then (k, v) :: r else (k, w) :: putF a v r).lookup b = _
    by_cases h : k = a
    · rw [if_pos (beq_iff_eq.mpr h), hd, hd, h]
      by_cases e' : b = a
      · rw [if_pos e', if_pos e']
      · rw [if_neg e', if_neg e', if_neg e']
    · rw [if_neg (fun q => h (beq_iff_eq.mp q)), hd, hd, ih]
      by_cases e' : b = k
      · rw [if_pos e', if_pos e', if_neg (e' ▸ h)]
      · rw [if_neg e', if_neg e']

theorem attr_inj {i j : Nat} {n : Str} (hi : X.attrs[i]? = some n) (hj : X.attrs[j]? = some n) : i = j := by
  obtain ⟨h1, e1⟩ := List.getElem?_eq_some_iff.mp hi
  obtain ⟨h2, e2⟩ := List.getElem?_eq_some_iff.mp hj
  have nd := List.pairwise_iff_getElem.mp X.attrNodup
  rcases Nat.lt_trichotomy i j with l | l | l
  · exact absurd (e1.trans e2.symm) (nd i j h1 h2 l)
  · exact l
  · exact absurd (e2.trans e1.symm) (nd j i h2 h1 l)

theorem inst_ne {c : Nat} {fs : List (Nat × PV)} {h : Heap} {a dx : Addr} {ox od : Obj} {m : Str → Option Value} (R : InstR X h ρ c fs a dx ox od m) : a ≠ dx := fun e => by
  obtain ⟨o, es, ep, ho, hd, _⟩ := R.ns.ns
  rw [← e, R.raw] at ho
  cases ho
  rw [R.plain] at hd
  cases hd
theorem inst_put {c a : Nat} {fs' : List (Nat × PV)} {h h' : Heap} {x dx : Addr} {ox od : Obj} {m : Str → Option Value} {v : PV} {w : Value} {n : Str} (R : InstR X h ρ c fs' x dx ox od m) (hn : X.attrs[a]? = some n) (rv : VRep h ρ v w)
    (n' : h'.Ns1 dx (fun x => if x = n then some w else m x)) (s' : Heap.SameBut dx h h') (S : Step [] [] ρ ρ h h') : ORep X h' ρ (.inst c (putF a v fs')) (x, some dx) := by
  refine .inst R.lt ((s'.2 x (inst_ne R)).trans R.raw) R.at_.cls R.dict R.plain n' (fun y hy => ?_) fun j nj hj => ?_
  · by_cases e : y = n
    · rw [e]; exact List.mem_of_getElem? hn
    · rw [if_neg e] at hy; exact R.within y hy
  rw [lookup_putF]
  by_cases e : j = a
  · subst e
    rw [if_pos rfl]
    rw [hn] at hj
    cases hj
    exact ⟨w, if_pos rfl, rv.step S noSeq_nil⟩
  · rw [if_neg e, if_neg (fun q : nj = n => e (attr_inj hj (by rw [q]; exact hn)))]
    exact (R.rep.step S noSeq_nil) j nj hj
theorem setattr_ok {o v : PV} {u w : Value} {a : Nat} {n : Str} (I : Rp X ρ σ s.heap) (ro : VRep s.heap ρ o u) (rv : VRep s.heap ρ v w) (hn : X.attrs[a]? = some n) :
    Ok X A [] fs ρ s (fun _ _ (_ : Unit) (_ : Unit) => True) (setAttr u n w) (setattr o a v σ) := by
  cases ro with
  | loc hp =>
    rename_i l p
    have e : ∀ o, σ[l]? = o → Ok X A [] fs ρ s (fun _ _ (_ : Unit) (_ : Unit) => True) (setAttr (.ref p.1) n w) (match o with
      | some (.inst c fs) => if a < ND then .ok () (σ.set l (.inst c (putF a v fs))) else .stuck
      | _ => .stuck) := fun o hc => by
      cases o with
      | none => exact .stuck
      | some o =>
        cases o with
        | inst c fs' =>
          refine .guard fun ha => ?_
          obtain ⟨x, dx, ox, od, m, rfl, R⟩ := inst_of I hp hc
          obtain ⟨g1, g2, _⟩ := X.getOk c a n R.lt ha hn
          obtain ⟨k1, k2, k3⟩ := X.setOk c a n R.lt ha hn
          refine ok_turn (b := ()) I hp (by rw [hc]; exact fun _ q => nomatch q) (d := dx) own2 (fun _ _ => trivial) fun Q E k => ?_
          refine set_plain I.kin R.at_ k1 ?_
          exact osa_ns (s := { s with toks := s.toks + 1 }) I.kin R.at_ R.dict R.ns R.within k2 k3 g2 fun h' n' s' => k h' _ s' (let ⟨o, _, _, ho, _⟩ := n'; ⟨o, ho⟩) fun S => inst_put R hn rv n' s' S
        | _ => exact .stuck
    exact e _ rfl
  | _ => exact .stuck

theorem wpAny_setItem_plain {l : Addr} {items : Array Value} {k : Int} {t : Tok} {v : Value} {E : Value → Shared → Prop} {Q : Unit → Shared → Prop} (hl : s.heap.PlainList l items) (h0 : 0 ≤ k) (hfit : k < 2 ^ 63) (hn : k < items.size)
    (hQ : ∀ h', h'.PlainList l (items.setIfInBounds k.toNat v) → Heap.SameBut l s.heap h' → Q () { s with heap := h' }) : wpAny (model X.prog X.w) A (setItem (.ref l) (.int k t) v) Q E s := by
  obtain ⟨n, ho⟩ := hl
  have il : s.heap.IsList l items := ⟨_, ho, rfl, n, rfl⟩
  unfold setItem
  try with_reducible refine wpAny_holding ?_
  refine wpAny_bind (wpAny_sequenceKey il.typeIs (by decide) ?_)
  refine wpAny_bind (wpAny_callSpecial?_slot (name := Str.ofString "__setitem__") il.typeIs slot_list_setitem
    (wpAny_call_entry slot_list_setitem il.typeIs entry_list_setitem ?_ (args_list_setitem _ _ _)))
  show wpAny _ _ (Builtin.List.listSubscript? (.int k t) >>= _) _ _ s
  refine wpAny_bind (wpAny_listSubscript_int (fitsIndex_of h0 hfit) ?_)
  clear hfit
  obtain ⟨j, rfl⟩ := Int.eq_ofNat_of_zero_le h0
  have hj : j < items.size := by omega
  have hx' : items[j]? = some items[j] := Array.getElem?_eq_getElem hj
  show wpAny _ _ ((seqItemAt l j >>= fun r => pure (r.map (j, ·))) >>= _) _ _ s
  refine wpAny_bind (wpAny_bind (wpAny_seqItemAt ho rfl (wpAny_pure ?_)))
  rw [hx']
  show wpAny _ _ (setSeqItemAt l j v >>= _) _ _ s
  have hfin : (s.heap.update l (Obj.mapSeq (·.setIfInBounds j v))).PlainList l (items.setIfInBounds j v) := ⟨_, IsL.update ho _⟩
  refine wpAny_bind (wpAny_setSeqItemAt ho rfl ?_)
  first
    | exact wpAny_bind (wpAny_pure (wpAny_pure ⟨.none, rfl, wpAny_pure (hQ _ hfin (Heap.SameBut.update ..))⟩))
    | exact wpAny_pure ⟨.none, rfl, wpAny_pure (hQ _ hfin (Heap.SameBut.update ..))⟩

theorem setitem_ok {o i v : PV} {u y w : Value} (I : Rp X ρ σ s.heap) (ro : VRep s.heap ρ o u) (ri : VRep s.heap ρ i y) (rv : VRep s.heap ρ v w) :
    Ok X A [] fs ρ s (fun _ _ (_ : Unit) (_ : Unit) => True) (setItem u y w) (setitem o i v σ) := by
  cases ro with
  | loc hp =>
    rename_i l p
    have e : ∀ o, σ[l]? = o → Ok X A [] fs ρ s (fun _ _ (_ : Unit) (_ : Unit) => True) (setItem (.ref p.1) y w) (setObj l o i v σ) := fun o hx => by
      cases o with
      | none => exact .stuck
      | some o =>
        cases o with
        | list xs =>
          cases ri with
          | int k t =>
            refine .guard fun hz => ?_
            obtain ⟨d, items, rfl, ⟨n, hl⟩, rr⟩ := list_set I hp hx
            have sz := size_of rr
            refine ok_turn (b := ()) I hp (by rw [hx]; exact fun _ q => nomatch q) (d := d) own1 (fun _ _ => trivial) fun Q E q => ?_
            refine wpAny_setItem_plain ⟨n, hl⟩ hz.1 (by omega) (by omega) fun h' hl' hs => ?_
            refine q h' s.toks hs (let ⟨n, e⟩ := hl'; ⟨_, e⟩) fun S => ?_
            refine .list hl' ?_
            rw [Array.toList_setIfInBounds]
            exact (rr.step S noSeq_nil).set (rv.step S noSeq_nil) _
          | _ => exact .stuck
        | _ => exact .stuck
    exact e _ rfl
  | _ => exact .stuck
end
end Mine
end

section
set_option autoImplicit false
set_option linter.unusedVariables false
namespace Mine
open PySem PySem.W PyProof.Rows PySem.SeqAt

inductive GV where
  | fn (k : Nat)
  | cls (c : Nat)
  | cst (v : PV)
deriving Inhabited

structure SX where
  glob : List (Str × GV)
  bnames : List Str
  attrs : List Str

structure SC where
  names : List (Str × NameKind)
  Γ : List (Str × Nat)
  base : Nat
  code : Option Value

structure SOk (X : Cx) (S : SX) : Prop where
  attrs : X.attrs = S.attrs
  fn : ∀ n k, S.glob.lookup n = some (.fn k) → X.mg n = some (.ref (X.fa k)) ∧ keepIn X.K (.ref (X.fa k)) = true
  cls : ∀ n c, S.glob.lookup n = some (.cls c) → X.mg n = some (.ref (X.cls c)) ∧ keepIn X.K (.ref (X.cls c)) = true
  cst : ∀ n v, S.glob.lookup n = some (.cst v) → ∃ u, X.mg n = some u ∧ ∀ h ρ, VRep h ρ v u
  none : ∀ n, n ∈ S.bnames → X.mg n = none

noncomputable def Rm (A : Around) (n : Nat) : Prop := A.depth + n < recursionLimit ∧ A.units + 3 * n + 100 < cLine

structure At (X : Cx) (C : SC) (lvl : Nat) (A : Around) (fs : List Addr) (env : Env) (fr : Fr) (ρ : Rho) (σ : St) (s : Shared) : Prop where
  I : Rp X ρ σ s.heap
  F : FrR X C.Γ env fr ρ s.heap
  names : env.scope.names = C.names
  ar : AOK X A fs ρ s.heap
  rm : Rm A lvl
  cd : ∀ v, C.code = some v → env.code = v

noncomputable def EOk (X : Cx) (C : SC) (lvl : Nat) (e : Expr) (f : Fr → St → R PV) : Prop :=
  ∀ A fs env fr ρ σ s, At X C lvl A fs env fr ρ σ s → Ok X A [] fs ρ s VRep (eval e env) (f fr σ)
noncomputable def relEq {α : Type} : Heap → Rho → α → α → Prop := fun _ _ a b => a = b
noncomputable def BOk (X : Cx) (C : SC) (lvl : Nat) (e : Expr) (f : Fr → St → R Bool) : Prop :=
  ∀ A fs env fr ρ σ s, At X C lvl A fs env fr ρ σ s → Ok X A [] fs ρ s relEq (isTrue e env (eval e env)) (f fr σ)

section
variable {X : Cx} {S : SX} {C : SC} {lvl : Nat} {A : Around} {W fs : List Addr} {env : Env} {fr : Fr} {ρ ρ' : Rho} {σ σ' : St} {s s' : Shared}

theorem At.next (a : At X C lvl A fs env fr ρ σ s) (I : Rp X ρ' σ' s'.heap) (T : Step [] fs ρ ρ' s.heap s'.heap) : At X C lvl A fs env fr ρ' σ' s' :=
  ⟨I, a.F.step T, a.names, a.ar.step0 T, a.rm, a.cd⟩
theorem At.kind (a : At X C lvl A fs env fr ρ σ s) (n : Str) : env.kindOf n = C.names.lookup n := by unfold Env.kindOf; rw [a.names]
theorem At.units (a : At X C lvl A fs env fr ρ σ s) : A.units + 32 < cLine := by have := a.rm.2; omega

/-- what a rule gives, told in the abstract -/
theorem Gv.ok {α β : Type} {rel : Heap → Rho → α → β → Prop} {t : Sem β} {a : α} {b : β} (g : Gv X A s t b) (I : Rp X ρ σ s.heap) (r : rel s.heap ρ a b) : Ok X A [] fs ρ s rel t (.ok a σ) :=
  Ok.to fun Q E k => g Q E fun j => k b ρ _ ⟨s.heap, j, rfl⟩ I r Step.refl

theorem Ok.pure' {α β : Type} {rel : Heap → Rho → α → β → Prop} {a : α} {b : β} (I : Rp X ρ σ s.heap) (r : rel s.heap ρ a b) : Ok X A [] fs ρ s rel (pure b : Sem β) (.ok a σ) := Ok.ret I r

theorem Ok.release {γ δ : Type} {vs keep : List Value} {k : Sem δ} {r : R γ} {rel' : Heap → Rho → γ → δ → Prop} (h : Ok X A [] fs ρ s rel' k r) : Ok X A [] fs ρ s rel' (release vs keep >>= fun _ => k) r :=
  fun ns => wpAny_bind (wpAny_release (h ns))

/-- a rule that only hands on -/
theorem Ok.via {α β : Type} {rel : Heap → Rho → α → β → Prop} {t t' : Sem β} {r : R α} (h : ∀ Q E, wpAny (model X.prog X.w) A t' Q E s → wpAny (model X.prog X.w) A t Q E s) (k : Ok X A [] fs ρ s rel t' r) : Ok X A [] fs ρ s rel t r :=
  fun ns => h _ _ (k ns)

/-! plain pieces -/
theorem e_int (i : Int) (k : Nat) (pos : Pos) : EOk X C lvl (.Constant (.int i) k pos) fun _ σ => .ok (.int i) σ := fun A fs env fr ρ σ s a => ok_int a.I fun Q E k => wpAny_Constant_int (k _ _)
theorem e_str (x : Str) (k : Nat) (pos : Pos) : EOk X C lvl (.Constant (.str x) k pos) fun _ σ => .ok (.str x) σ := fun A fs env fr ρ σ s a => ok_str a.I fun Q E k => wpAny_Constant_str (k _ _)
theorem e_bool (b : Bool) (k : Nat) (pos : Pos) : EOk X C lvl (.Constant (.bool b) k pos) fun _ σ => .ok (.bool b) σ := fun A fs env fr ρ σ s a => ok_bool a.I fun Q E k => Constant_bool (k s.toks)
theorem e_none (k : Nat) (pos : Pos) : EOk X C lvl (.Constant .none k pos) fun _ σ => .ok .none σ := fun A fs env fr ρ σ s a => ok_same a.I .none fun Q E k => Constant_none (k s.toks)
theorem e_bytes (l : List UInt8) (k : Nat) (pos : Pos) : EOk X C lvl (.Constant (.bytes l) k pos) fun _ σ => .ok (.bytes l.toArray) σ := fun A fs env fr ρ σ s a =>
  Ok.to fun Q E k => Constant_bytes (k _ ρ _ ⟨s.heap, _, rfl⟩ a.I (.bytes _ _) Step.refl)

theorem e_var {n : Str} {i : Nat} {pos : Pos} (hd : (n == ("__debug__" : Str)) = false) (hcd : (n == ("__classdict__" : Str)) = false) (hΓ : C.Γ.lookup n = some i) :
    EOk X C lvl (.Name n pos) fun fr σ => match fr[i]? with | some (some v) => .ok v σ | _ => .stuck := fun A fs env fr ρ σ s a => by
  have hm := lookup_mem hΓ
  have e : ∀ o, fr[i]? = o → Ok X A [] fs ρ s VRep (eval (.Name n pos) env) (match o with | some (some v) => .ok v σ | _ => .stuck) := fun o hv => by
    cases o with
    | none => exact .stuck
    | some o =>
      cases o with
      | none => exact .stuck
      | some v =>
        rcases a.F.kinds n i hm with hk | hk | hk
        · obtain ⟨m, hn, r⟩ := a.F.ns
          obtain ⟨u, e1, e2⟩ := r n i hm hk v hv
          exact ok_same a.I e2 fun Q E k => wpAny_Name (wpAny_loadName_local a.F.kind hk hn e1 (k s.toks)) hd
        · obtain ⟨c, cur, hc, hcell, r⟩ := a.F.cells n i hm (.inl hk)
          obtain ⟨u, rfl, e2⟩ := r v hv
          exact ok_same a.I e2 fun Q E k => wpAny_Name (wpAny_loadName_cell a.F.kind hk hc hcell (k s.toks)) hd
        · obtain ⟨c, cur, hc, hcell, r⟩ := a.F.cells n i hm (.inr hk)
          obtain ⟨u, rfl, e2⟩ := r v hv
          exact ok_same a.I e2 fun Q E k => wpAny_Name (wpAny_loadName_free a.F.kind hk hc hcell (k s.toks) hcd) hd
  exact e _ rfl

theorem At.mg (a : At X C lvl A fs env fr ρ σ s) : s.heap.Ns env.globals X.mg := by rw [a.F.glob]; exact X.gns.keeps a.I.base
theorem At.mb (a : At X C lvl A fs env fr ρ σ s) : s.heap.Ns env.builtins X.mb := by rw [a.F.bi]; exact X.bns.keeps a.I.base

theorem glob_gv (a : At X C lvl A fs env fr ρ σ s) {n : Str} {pos : Pos} {u : Value} (hd : (n == ("__debug__" : Str)) = false) (hk : C.names.lookup n = some .globalImplicit) (hu : X.mg n = some u) : Gv X A s (eval (.Name n pos) env) u := fun Q E k =>
  Calls.Name_function_global a.F.kind ((a.kind n).trans hk) (Calls.loadGlobal_global a.mg hu (k s.toks)) hd
theorem boot_gv (a : At X C lvl A fs env fr ρ σ s) {n : Str} {pos : Pos} {u : Value} (hd : (n == ("__debug__" : Str)) = false) (hk : C.names.lookup n = some .globalImplicit) (hm : X.mg n = none) (hu : bootBuiltins n = some u) (hn : n ≠ "__name__") : Gv X A s (eval (.Name n pos) env) u := fun Q E k =>
  Calls.Name_function_global a.F.kind ((a.kind n).trans hk) (Calls.loadGlobal_builtin a.mg hm a.mb (X.boot n u hu hn) (k s.toks)) hd

theorem e_gcst (O : SOk X S) {n : Str} {v : PV} {pos : Pos} (hd : (n == ("__debug__" : Str)) = false) (hk : C.names.lookup n = some .globalImplicit) (hg : S.glob.lookup n = some (.cst v)) : EOk X C lvl (.Name n pos) fun _ σ => .ok v σ := fun A fs env fr ρ σ s a => by
  obtain ⟨u, e1, e2⟩ := O.cst n v hg
  exact (glob_gv a hd hk e1).ok a.I (e2 _ _)

theorem truthy_res {u : Value} {v : PV} (I : Rp X ρ σ s.heap) (r : VRep s.heap ρ v u) : Ok X A [] fs ρ s relEq (PySem.truthy u) (truR v σ) := by
  unfold truR
  cases hb : truthy σ v with
  | none => exact .stuck
  | some b => exact (truthy_ok I r hb).ok I rfl

theorem e_neg {e : Expr} {f : Fr → St → R PV} {pos : Pos} (h : EOk X C lvl e f) : EOk X C lvl (.UnaryOp .USub e pos) fun fr σ => (f fr σ).bind fun v σ => match v with | .int i => .ok (.int (-i)) σ | _ => .stuck := fun A fs env fr ρ σ s a => by
  rw [arm_eval_UnaryOp]
  refine (h A fs env fr ρ σ s a).bind fun v σ' ρ' b s' _ _ I' r T => Ok.standAt (Ok.holding ?_)
  cases r with
  | int i t => exact ok_int I' fun Q E k => P.neg_int (k _ _)
  | _ => exact .stuck

theorem e_not {e : Expr} {f : Fr → St → R PV} {pos : Pos} (h : EOk X C lvl e f) : EOk X C lvl (.UnaryOp .Not e pos) fun fr σ => (f fr σ).bind fun v σ => (truR v σ).bind fun b σ => .ok (.bool (!b)) σ := fun A fs env fr ρ σ s a => by
  rw [arm_eval_UnaryOp]
  refine (h A fs env fr ρ σ s a).bind fun v σ' ρ' b s' _ _ I' r T => Ok.standAt (Ok.holding ?_)
  intro ns
  unfold truR at ns ⊢
  cases ht : truthy σ' v with
  | none => rw [ht] at ns; exact absurd rfl ns
  | some c => exact not_of (truthy_ok I' r ht _ _ fun j => ⟨_, _, ρ', rfl, ⟨_, j, rfl⟩, I', .bool _, Step.refl⟩)

theorem e_ite {c t e : Expr} {g : Fr → St → R Bool} {f1 f2 : Fr → St → R PV} {pos : Pos} (hc : BOk X C lvl c g) (h1 : EOk X C lvl t f1) (h2 : EOk X C lvl e f2) : EOk X C lvl (.IfExp c t e pos) fun fr σ => (g fr σ).bind fun b σ => if b then f1 fr σ else f2 fr σ := fun A fs env fr ρ σ s a => by
  rw [arm_eval_IfExp]
  refine (hc A fs env fr ρ σ s a).bind fun v σ' ρ' b s' _ _ I' r T => ?_
  cases r
  cases v
  · exact h2 _ _ _ _ _ _ _ (a.next I' T)
  · exact h1 _ _ _ _ _ _ _ (a.next I' T)

theorem e_bin {l r : Expr} {op : Operator} {f g : Fr → St → R PV} {pos : Pos} (hl : EOk X C lvl l f) (hr : EOk X C lvl r g) : EOk X C lvl (.BinOp l op r pos) fun fr σ => (f fr σ).bind fun x σ => (g fr σ).bind fun y σ => binop op x y σ := fun A fs env fr ρ σ s a => by
  rw [arm_eval_BinOp]
  refine (hl A fs env fr ρ σ s a).bind fun v σ' ρ' b s' _ _ I' r T => ?_
  refine Ok.bind (Ok.holding (hr _ _ _ _ _ _ _ (a.next I' T))) fun w σ'' ρ'' c s'' _ _ I'' r' T' => Ok.standAt (Ok.operate ?_)
  exact binop_ok I'' (r.step T' noSeq_nil) r'

inductive All2 {α β : Type} (P : α → β → Prop) : List α → List β → Prop
  | nil : All2 P [] []
  | cons {a : α} {b : β} {as : List α} {bs : List β} : P a b → All2 P as bs → All2 P (a :: as) (b :: bs)
theorem All2.length {α β : Type} {P : α → β → Prop} {as : List α} {bs : List β} (h : All2 P as bs) : as.length = bs.length := by
  induction h with
  | nil => rfl
  | cons _ _ ih => exact congrArg (· + 1) ih

theorem evalEach_map (es : List Expr) (env : Env) : evalEach es env = es.map fun e => eval e env := by
  induction es with
  | nil => rfl
  | cons e es ih => rw [arm_evalEach_cons, ih]; rfl
/-! and, or -/
theorem bop_ok {op : BoolOp} {pos : Pos} {ev : Fr → IE → St → R PV} {es : List Expr} {ies : List IE} (hs : All2 (fun e ie => EOk X C lvl e fun fr σ => ev fr ie σ) es ies) : ∀ {A fs env fr ρ σ s}, At X C lvl A fs env fr ρ σ s →
    Ok X A [] fs ρ s VRep (boolOp pos op (es.map fun e => eval e env)) (evBop (ev fr) (op == .And) ies σ) := by
  induction hs with
  | nil => intro A fs env fr ρ σ s a; exact .stuck
  | cons h r ih =>
    intro A fs env fr ρ σ s a
    cases r with
    | nil => exact h _ _ _ _ _ _ _ a
    | cons h' r =>
      refine Ok.bind (h _ _ _ _ _ _ _ a) fun v σ' ρ' b s' _ _ I' rv T => Ok.standAt ?_
      refine Ok.bind (Ok.holding (truthy_res I' rv)) fun t σ'' ρ'' t' s'' _ _ I'' rt T' => ?_
      cases rt
      have hr := ih (a.next I'' (T.trans T'))
      cases op <;> cases t
      · exact Ok.ret I'' (rv.step T' noSeq_nil)
      · exact hr
      · exact hr
      · exact Ok.ret I'' (rv.step T' noSeq_nil)
theorem e_bop {op : BoolOp} {pos : Pos} {ev : Fr → IE → St → R PV} {es : List Expr} {ies : List IE} (h : All2 (fun e ie => EOk X C lvl e fun fr σ => ev fr ie σ) es ies) : EOk X C lvl (.BoolOp op es pos) fun fr σ => evBop (ev fr) (op == .And) ies σ := fun A fs env fr ρ σ s a => by
  rw [arm_eval_BoolOp]
  have e1 : evalEach es env = es.map fun e => eval e env := evalEach_map es env
  rw [e1]
  exact bop_ok h a
end
end Mine
end

section
set_option autoImplicit false
set_option linter.unusedVariables false
namespace Mine
open PySem PySem.W PyProof.Rows PySem.SeqAt

section
variable {X : Cx} {S : SX} {C : SC} {lvl : Nat} {A : Around} {W fs : List Addr} {env : Env} {fr : Fr} {ρ ρ' : Rho} {σ σ' : St} {s s' : Shared}

/-! comparing -/
theorem truthy_gv (t : Bool) : Gv X A s (PySem.truthy (.bool t)) t := fun Q E k => wpAny_truthy_bool (k s.toks)
theorem cmp_res {op : CmpOp} {a b : PV} {u v : Value} (I : Rp X ρ σ s.heap) (hu : A.units + 32 < cLine) (ra : VRep s.heap ρ a u) (rb : VRep s.heap ρ b v) : Ok X A [] fs ρ s (fun h ρ (r : Bool) (w : Value) => w = .bool r) (compareOp op u v) (cmpR op a b σ) := by
  unfold cmpR
  cases hr : cmpop op a b σ with
  | none => exact .stuck
  | some r => exact (cmpop_ok I hu ra rb hr).ok I rfl

/-- which kind of expression -/
noncomputable def tagE : Expr → Nat
  | .Set .. => 1
  | .Starred .. => 2
  | .Slice .. => 3
  | .ListComp .. => 4
  | .SetComp .. => 5
  | .DictComp .. => 6
  | .Name .. => 7
  | .Tuple .. => 8
  | _ => 0
noncomputable def notSet (e : Expr) : Bool := tagE e != 1
theorem behind_of {op : CmpOp} {e : Expr} (h : notSet e = true) : behindInMarks op e = false := by
  cases e <;> first | rfl | cases h
theorem marked_of (es : List Expr) : ∀ (ops : List CmpOp) (ts : List (Sem Value)), (∀ e, e ∈ es → notSet e = true) → markedEach ops es ts = ts := by
  induction es with
  | nil => intro ops ts h; cases ops <;> first | rfl | (cases ‹List CmpOp› <;> rfl)
  | cons e es ih =>
    intro ops ts h
    have he := h e List.mem_cons_self
    have ht := fun ops ts => ih ops ts fun x hx => h x (List.mem_cons_of_mem _ hx)
    cases ops with
    | nil => rfl
    | cons op ops =>
      cases ts with
      | nil => cases ops <;> cases es <;> rfl
      | cons t ts =>
        cases ops with
        | nil => cases es with
          | nil => cases ts with
            | nil => exact congrArg (fun x => [x]) (markedBehindIn_of_false (behind_of he))
            | cons _ _ => exact congrArg (t :: ·) (ht _ _)
          | cons _ _ => cases ts <;> exact congrArg (t :: ·) (ht _ _)
        | cons _ _ => cases es <;> cases ts <;> exact congrArg (t :: ·) (ht _ _)

theorem test_ok {pos : Pos} {ev : Fr → IE → St → R PV} {es : List Expr} {ies : List IE} (hs : All2 (fun e ie => EOk X C lvl e fun fr σ => ev fr ie σ) es ies) : ∀ {ops : List CmpOp}, ops.length = es.length →
    ∀ {A fs env fr ρ σ s} {x : PV} {u : Value}, At X C lvl A fs env fr ρ σ s → VRep s.heap ρ x u →
    Ok X A [] fs ρ s relEq (testChain pos u ops (es.map fun e => eval e env)) (evChain (ev fr) x (ops.zip ies) σ) := by
  induction hs with
  | nil => intro ops hl A fs env fr ρ σ s x u a rx; cases ops with
    | nil => exact .stuck
    | cons _ _ => cases hl
  | cons h r ih =>
    intro ops hl A fs env fr ρ σ s x u a rx
    cases ops with
    | nil => cases hl
    | cons op ops =>
    cases r with
    | nil =>
      cases ops with
      | cons _ _ => cases hl
      | nil =>
        refine Ok.bind (Ok.holding (h _ _ _ _ _ _ _ a)) fun v σ' ρ' b s' _ _ I' rv T => Ok.standAt ?_
        rw [← R.bind_ret (cmpR op x v σ')]
        refine Ok.bind (Ok.operate (cmp_res I' (a.next I' T).units (rx.step T noSeq_nil) rv)) fun t σ'' ρ'' w s'' _ _ I'' rt T' => ?_
        subst rt
        exact Ok.holding ((truthy_gv t).ok I'' rfl)
    | cons h' r =>
      cases ops with
      | nil => cases hl
      | cons op' ops =>
        refine Ok.bind (Ok.holding (h _ _ _ _ _ _ _ a)) fun v σ' ρ' b s' _ _ I' rv T => Ok.standAt ?_
        refine Ok.bind (Ok.holding (cmp_res I' (a.next I' T).units (rx.step T noSeq_nil) rv)) fun t σ'' ρ'' w s'' _ _ I'' rt T' => Ok.release ?_
        subst rt
        refine Ok.bind (m := .ok t σ'') (f := fun t σ => if t then evChain (ev fr) v ((op' :: ops).zip (_ :: _)) σ else .ok false σ) (rel := relEq) (Ok.holding ((truthy_gv t).ok I'' rfl)) fun t' σ3 ρ3 w' s3 e3 _ I3 rt3 T3 => ?_
        cases e3
        cases rt3
        cases t
        · exact Ok.ret I3 rfl
        · exact ih (Nat.succ.inj hl) (a.next I3 (T.trans (T'.trans T3))) ((rv.step T' noSeq_nil).step T3 noSeq_nil)

theorem chain_ok {pos : Pos} {ev : Fr → IE → St → R PV} {es : List Expr} {ies : List IE} (hs : All2 (fun e ie => EOk X C lvl e fun fr σ => ev fr ie σ) es ies) : ∀ {ops : List CmpOp}, ops.length = es.length →
    ∀ {A fs env fr ρ σ s} {x : PV} {u : Value}, At X C lvl A fs env fr ρ σ s → VRep s.heap ρ x u →
    Ok X A [] fs ρ s VRep (compareChain pos u ops (es.map fun e => eval e env)) ((evChain (ev fr) x (ops.zip ies) σ).bind fun b σ => .ok (.bool b) σ) := by
  induction hs with
  | nil => intro ops hl A fs env fr ρ σ s x u a rx; cases ops with
    | nil => exact .stuck
    | cons _ _ => cases hl
  | cons h r ih =>
    intro ops hl A fs env fr ρ σ s x u a rx
    cases ops with
    | nil => cases hl
    | cons op ops =>
    cases r with
    | nil =>
      cases ops with
      | cons _ _ => cases hl
      | nil =>
        refine Ok.of_res (R.bind_assoc (ev fr _ σ) (fun b σ => cmpR op x b σ) _) ?_
        refine Ok.bind (Ok.holding (h _ _ _ _ _ _ _ a)) fun v σ' ρ' b s' _ _ I' rv T => Ok.standAt ?_
        exact Ok.map (Ok.operate (cmp_res I' (a.next I' T).units (rx.step T noSeq_nil) rv)) fun h ρ b w e => by rw [e]; exact .bool b
    | cons h' r =>
      cases ops with
      | nil => cases hl
      | cons op' ops =>
        refine Ok.of_res (R.bind_assoc (ev fr _ σ) (fun b σ => (cmpR op x b σ).bind fun t σ => if t then evChain (ev fr) b ((op' :: ops).zip (_ :: _)) σ else .ok false σ) _) ?_
        refine Ok.bind (Ok.holding (h _ _ _ _ _ _ _ a)) fun v σ' ρ' b s' _ _ I' rv T => Ok.standAt ?_
        refine Ok.of_res (R.bind_assoc (cmpR op x v σ') _ _) ?_
        refine Ok.bind (Ok.holding (cmp_res I' (a.next I' T).units (rx.step T noSeq_nil) rv)) fun t σ'' ρ'' w s'' _ _ I'' rt T' => Ok.release ?_
        subst rt
        refine Ok.bind (m := .ok t σ'') (f := fun t σ => (if t then evChain (ev fr) v ((op' :: ops).zip (_ :: _)) σ else .ok false σ : R Bool).bind fun b σ => .ok (PV.bool b) σ) (rel := relEq) (Ok.holding ((truthy_gv t).ok I'' rfl)) fun t' σ3 ρ3 w' s3 e3 _ I3 rt3 T3 => ?_
        cases e3
        cases rt3
        cases t
        · exact Ok.ret I3 (.bool _)
        · exact ih (Nat.succ.inj hl) (a.next I3 (T.trans (T'.trans T3))) ((rv.step T' noSeq_nil).step T3 noSeq_nil)

theorem e_cmp {l : Expr} {ops : List CmpOp} {cs : List Expr} {pos : Pos} {f : Fr → St → R PV} {ev : Fr → IE → St → R PV} {ies : List IE} (hl : ops.length = cs.length) (hs : ∀ e, e ∈ cs → notSet e = true) (h : EOk X C lvl l f) (hr : All2 (fun e ie => EOk X C lvl e fun fr σ => ev fr ie σ) cs ies) :
    EOk X C lvl (.Compare l ops cs pos) fun fr σ => (f fr σ).bind fun x σ => (evChain (ev fr) x (ops.zip ies) σ).bind fun b σ => .ok (.bool b) σ := fun A fs env fr ρ σ s a => by
  rw [arm_eval_Compare, marked_of _ _ _ hs, evalEach_map]
  exact (h _ _ _ _ _ _ _ a).bind fun v σ' ρ' b s' _ _ I' rv T => chain_ok hr hl (a.next I' T) rv
theorem b_cmp {l : Expr} {ops : List CmpOp} {cs : List Expr} {pos : Pos} {f : Fr → St → R PV} {ev : Fr → IE → St → R PV} {ies : List IE} (hl : ops.length = cs.length) (hs : ∀ e, e ∈ cs → notSet e = true) (h : EOk X C lvl l f) (hr : All2 (fun e ie => EOk X C lvl e fun fr σ => ev fr ie σ) cs ies) :
    BOk X C lvl (.Compare l ops cs pos) fun fr σ => (f fr σ).bind fun x σ => evChain (ev fr) x (ops.zip ies) σ := fun A fs env fr ρ σ s a => by
  rw [arm_isTrue_Compare, marked_of _ _ _ hs, evalEach_map]
  exact (h _ _ _ _ _ _ _ a).bind fun v σ' ρ' b s' _ _ I' rv T => test_ok hr hl (a.next I' T) rv

theorem b_not {e : Expr} {g : Fr → St → R Bool} {pos : Pos} (h : BOk X C lvl e g) : BOk X C lvl (.UnaryOp .Not e pos) fun fr σ => (g fr σ).bind fun b σ => .ok (!b) σ := fun A fs env fr ρ σ s a => by
  rw [arm_isTrue_UnaryOp]
  refine (h _ _ _ _ _ _ _ a).bind fun v σ' ρ' b s' _ _ I' rv T => ?_
  cases rv
  exact Ok.ret I' rfl
theorem b_ite {c t e : Expr} {g g1 g2 : Fr → St → R Bool} {pos : Pos} (hc : BOk X C lvl c g) (h1 : BOk X C lvl t g1) (h2 : BOk X C lvl e g2) : BOk X C lvl (.IfExp c t e pos) fun fr σ => (g fr σ).bind fun b σ => if b then g1 fr σ else g2 fr σ := fun A fs env fr ρ σ s a => by
  rw [arm_isTrue_IfExp]
  refine (hc A fs env fr ρ σ s a).bind fun v σ' ρ' b s' _ _ I' r T => ?_
  cases r
  cases v
  · exact h2 _ _ _ _ _ _ _ (a.next I' T)
  · exact h1 _ _ _ _ _ _ _ (a.next I' T)
theorem all_ok {op : BoolOp} {ec : Fr → IE → St → R Bool} {es : List Expr} {ies : List IE} (hs : All2 (fun e ie => BOk X C lvl e fun fr σ => ec fr ie σ) es ies) : ∀ {A fs env fr ρ σ s}, At X C lvl A fs env fr ρ σ s →
    Ok X A [] fs ρ s relEq (allTrue op es env) (evAll (ec fr) (op == .And) ies σ) := by
  induction hs with
  | nil => intro A fs env fr ρ σ s a; exact Ok.ret a.I rfl
  | cons h r ih =>
    intro A fs env fr ρ σ s a
    rw [arm_allTrue_cons]
    refine Ok.bind (h _ _ _ _ _ _ _ a) fun t σ' ρ' t' s' _ _ I' rt T => ?_
    cases rt
    have hr := ih (a.next I' T)
    cases op <;> cases t
    · exact Ok.ret I' rfl
    · exact hr
    · exact hr
    · exact Ok.ret I' rfl
theorem b_bop {op : BoolOp} {pos : Pos} {ec : Fr → IE → St → R Bool} {es : List Expr} {ies : List IE} (h : All2 (fun e ie => BOk X C lvl e fun fr σ => ec fr ie σ) es ies) : BOk X C lvl (.BoolOp op es pos) fun fr σ => evAll (ec fr) (op == .And) ies σ := fun A fs env fr ρ σ s a => by
  rw [arm_isTrue_BoolOp]
  exact all_ok h a
theorem b_plain {e : Expr} {f : Fr → St → R PV} (he : ∀ env whole, isTrue e env whole = (whole >>= fun v => standAt e.pos >>= fun _ => holding [v] (PySem.truthy v))) (h : EOk X C lvl e f) : BOk X C lvl e fun fr σ => (f fr σ).bind fun v σ => truR v σ := fun A fs env fr ρ σ s a => by
  rw [he]
  exact (h _ _ _ _ _ _ _ a).bind fun v σ' ρ' b s' _ _ I' rv T => Ok.standAt (Ok.holding (truthy_res I' rv))

/-! arguments -/
theorem spliced_cons' (x : Sem Value) (rest : List (Bool × Sem Value)) : spliced ((false, x) :: rest) = (x >>= fun v => holding [v] (spliced rest) >>= fun vs => pure (v :: vs)) := by
  rw [spliced]
  simp
theorem spliced_ok {ev : Fr → IE → St → R PV} {es : List Expr} {ies : List IE} (hs : All2 (fun e ie => EOk X C lvl e fun fr σ => ev fr ie σ) es ies) : ∀ {A fs env fr ρ σ s}, At X C lvl A fs env fr ρ σ s →
    Ok X A [] fs ρ s VReps (spliced (es.map fun e => (false, eval e env))) (evList (ev fr) ies σ) := by
  induction hs with
  | nil => intro A fs env fr ρ σ s a; exact Ok.ret a.I .nil
  | cons h r ih =>
    intro A fs env fr ρ σ s a
    rw [List.map_cons, spliced_cons']
    refine Ok.bind (h _ _ _ _ _ _ _ a) fun v σ' ρ' b s' _ _ I' rv T => ?_
    refine Ok.bind (Ok.holding (ih (a.next I' T))) fun vs σ'' ρ'' us s'' _ _ I'' rs T' => ?_
    exact Ok.ret I'' (.cons (rv.step T' noSeq_nil) rs)

noncomputable def notStar (e : Expr) : Bool := tagE e != 2
theorem starEach_of (es : List Expr) (env : Env) (pos : Pos) (h : ∀ e, e ∈ es → notStar e = true) : backTo pos (starEach es env) = es.map fun e => (false, eval e env) := by
  induction es with
  | nil => rfl
  | cons e es ih =>
    have h1 := h e List.mem_cons_self
    have e1 : starEach (e :: es) env = (false, eval e env) :: starEach es env := by
      cases e <;> first | rfl | cases h1
    rw [e1, List.map_cons, ← ih fun x hx => h x (List.mem_cons_of_mem _ hx)]
    rfl

theorem newList_ok {us : List Value} {vs : List PV} (I : Rp X ρ σ s.heap) (r : VReps s.heap ρ vs us) : Ok X A [] fs ρ s VRep (newList us) (if szOK vs.length then alloc (.list vs) σ else .stuck) := by
  refine .guard fun hz => ?_
  have := szOK_le hz
  exact ok_list I r fun Q E k => wpAny_newList (k s.toks) (by rw [sizeLine_eq, ← r.length]; omega)
theorem newTuple_ok {us : List Value} {vs : List PV} (I : Rp X ρ σ s.heap) (r : VReps s.heap ρ vs us) : Ok X A [] fs ρ s VRep (newTuple us) (if szOK vs.length then .ok (.tup vs) σ else .stuck) := by
  refine .guard fun hz => ?_
  have := szOK_le hz
  exact ok_tup I r fun Q E k => wpAny_newTuple (k s.toks) (by rw [sizeLine_eq, ← r.length]; omega)

theorem e_list {es : List Expr} {ies : List IE} {pos : Pos} {ev : Fr → IE → St → R PV} (hs : ∀ e, e ∈ es → notStar e = true) (h : All2 (fun e ie => EOk X C lvl e fun fr σ => ev fr ie σ) es ies) :
    EOk X C lvl (.List es pos) fun fr σ => (evList (ev fr) ies σ).bind fun vs σ => if szOK vs.length then alloc (.list vs) σ else .stuck := fun A fs env fr ρ σ s a => by
  rw [arm_eval_List, starEach_of _ _ _ hs]
  exact Ok.standAt ((spliced_ok h a).bind fun vs σ' ρ' us s' _ _ I' rs T => newList_ok I' rs)
theorem e_tup {es : List Expr} {ies : List IE} {k : Nat} {pos : Pos} {ev : Fr → IE → St → R PV} (hs : ∀ e, e ∈ es → notStar e = true) (h : All2 (fun e ie => EOk X C lvl e fun fr σ => ev fr ie σ) es ies) :
    EOk X C lvl (.Tuple es k pos) fun fr σ => (evList (ev fr) ies σ).bind fun vs σ => if szOK vs.length then .ok (.tup vs) σ else .stuck := fun A fs env fr ρ σ s a => by
  rw [arm_eval_Tuple, starEach_of _ _ _ hs]
  exact Ok.standAt ((spliced_ok h a).bind fun vs σ' ρ' us s' _ _ I' rs T => newTuple_ok I' rs)

/-! attributes, places -/
noncomputable def notSuper : Expr → Bool
  | .Call f _ _ _ => (match f with
    | .Name id _ => id != "super"
    | _ => true)
  | _ => true
theorem base_of {o : Expr} {n : Str} {env : Env} {whole : Sem Value} (h : notSuper o = true) : attributeBase o n env whole = whole := by
  cases o <;> first | rfl | skip
  rename_i f args kws pos
  cases f <;> first | rfl | skip
  rename_i id p
  cases args with
  | cons _ _ => rfl
  | nil => cases kws with
    | cons _ _ => rfl
    | nil =>
      have h : (id != "super") = true := h
      unfold attributeBase
      simp only [h, Bool.true_or, if_true]

theorem e_attr {o : Expr} {n : Str} {i : Nat} {pos : Pos} {f : Fr → St → R PV} (hn : X.attrs[i]? = some n) (hs : notSuper o = true) (h : EOk X C lvl o f) : EOk X C lvl (.Attribute o n pos) fun fr σ => (f fr σ).bind fun x σ => getattr x i σ := fun A fs env fr ρ σ s a => by
  rw [arm_eval_Attribute, base_of hs]
  refine (h _ _ _ _ _ _ _ a).bind fun v σ' ρ' b s' _ _ I' rv T => Ok.standAt ?_
  intro ns
  refine wpAny_bind (wpAny_holding (wpAny_mono (getattr_ok (fs := fs) I' rv hn ns) (fun w s'' p => ?_) fun e s'' p => p))
  exact wpAny_bind (wpAny_letTemporaryGo (wpAny_pure p))

noncomputable def isSlice (e : Expr) : Bool := tagE e == 3

theorem gi_list {u : Value} (ht : s.TypeIs u "list") : Gv X A s (getitemInPython u) false := fun Q E k => wpAny_bind (wpAny_specialOf ht slot_list_getitem.lookup (wpAny_pure (k s.toks)))
theorem gi_tup {a : Addr} {items : Array Value} (ht : s.heap.IsTuple a items) : Gv X A s (getitemInPython (.ref a)) false := fun Q E k => wpAny_bind (wpAny_specialOf ht.typeIs F.slot_tuple_getitem.lookup (wpAny_pure (k s.toks)))
theorem subscr_typed {o i : PV} {u : Value} (I : Rp X ρ σ s.heap) (ro : VRep s.heap ρ o u) (h : subscr o i σ ≠ .stuck) : Gv X A s (getitemInPython u) false := by
  cases ro with
  | str x t => exact fun Q E k => wpAny_bind (wpAny_specialOf (T := "str") rfl F.slot_str_getitem.lookup (wpAny_pure (k s.toks)))
  | tup ht _ _ => exact gi_tup ht
  | loc hp =>
    rename_i l p
    have h : subObj σ[l]? i σ ≠ .stuck := h
    cases ho : σ[l]? with
    | none => rw [ho] at h; exact absurd rfl h
    | some o =>
      rw [ho] at h
      cases o with
      | list xs =>
        obtain ⟨items, pl, _⟩ := lst_of' I hp ho
        exact gi_list (isList_of_plain pl).typeIs
      | dict es =>
        obtain ⟨_, _, d, _⟩ := dict_of I hp ho
        exact fun Q E k => wpAny_bind (wpAny_specialOf d.typeIs slot_dict_getitem.lookup (wpAny_pure (k s.toks)))
      | _ => exact absurd rfl h
  | _ => exact absurd rfl h
theorem sliced_typed {o : PV} {u : Value} {lo hi : Option PV} (I : Rp X ρ σ s.heap) (ro : VRep s.heap ρ o u) (h : sliced o lo hi σ ≠ .stuck) : Gv X A s (getitemInPython u) false := by
  unfold sliced at h
  cases ha : partOf lo with
  | none => rw [ha] at h; exact absurd rfl h
  | some a =>
  cases hb : partOf hi with
  | none => rw [ha, hb] at h; exact absurd rfl h
  | some b =>
  rw [ha, hb] at h
  cases ro with
  | tup ht _ _ => exact gi_tup ht
  | loc hp =>
    rename_i l p
    have h : (match σ[l]? with
      | some (.frz xs) => if szOK xs.length then alloc (.list (pick xs a b)) σ else .stuck
      | _ => .stuck) ≠ .stuck := h
    cases ho : σ[l]? with
    | none => rw [ho] at h; exact absurd rfl h
    | some o =>
      rw [ho] at h
      cases o with
      | frz xs =>
        have r := I.objs _ _ _ hp ho
        cases r with
        | frz h1 h2 h3 _ => exact gi_list ⟨_, h1, h2⟩
      | _ => exact absurd rfl h
  | _ => exact absurd rfl h
theorem e_sub {o i : Expr} {pos : Pos} {f g : Fr → St → R PV} (hi : isSlice i = false) (ho : EOk X C lvl o f) (hg : EOk X C lvl i g) : EOk X C lvl (.Subscript o i pos) fun fr σ => (f fr σ).bind fun x σ => (g fr σ).bind fun y σ => subscr x y σ := fun A fs env fr ρ σ s a => by
  rw [arm_eval_Subscript]
  refine (ho _ _ _ _ _ _ _ a).bind fun x σ' ρ' u s' _ _ I' rx T => ?_
  refine Ok.bind (Ok.holding (hg _ _ _ _ _ _ _ (a.next I' T))) fun y σ'' ρ'' v s'' _ _ I'' ry T' => Ok.standAt ?_
  have rx' := rx.step T' noSeq_nil
  intro ns
  refine wpAny_bind (subscr_typed I'' rx' ns _ _ fun j => ?_)
  have e1 : subscripted i false u v = operate [u, v] (getItem u v) := by
    cases i <;> first | rfl | cases hi
  rw [e1]
  refine wpAny_bind (wpAny_mono (Ok.operate (X := X) (fs := fs) (s := { s'' with toks := j }) (subscr_ok I'' rx' ry) ns) (fun w s3 p => ?_) fun e s3 p => ?_)
  · refine wpAny_bind (wpAny_letTemporaryGo (wpAny_pure ?_))
    exact p.from ⟨_, j, rfl⟩ Step.refl
  · exact p.from ⟨_, j, rfl⟩ Step.refl

noncomputable def OptOk (X : Cx) (C : SC) (lvl : Nat) (ev : Fr → IE → St → R PV) (e : Option Expr) (ie : Option IE) : Prop := match e, ie with
  | none, none => True
  | some e, some ie => EOk X C lvl e fun fr σ => ev fr ie σ
  | _, _ => False
theorem opt_ok {ev : Fr → IE → St → R PV} {e : Option Expr} {ie : Option IE} (h : OptOk X C lvl ev e ie) (a : At X C lvl A fs env fr ρ σ s) : Ok X A [] fs ρ s OptRep (valueOrNone (evalOpt e env)) (evOpt (ev fr) ie σ) := by
  cases e <;> cases ie
  · exact Ok.ret a.I rfl
  · exact h.elim
  · exact h.elim
  · rename_i e ie
    have h' : Ok X A [] fs ρ s VRep (eval e env) (ev fr ie σ) := h _ _ _ _ _ _ _ a
    exact Ok.map (g := some) h' fun _ _ _ _ r => r

theorem OptRep.step {h h' : Heap} {v : Option PV} {u : Value} (r : OptRep h ρ v u) (T : Step [] fs ρ ρ' h h') : OptRep h' ρ' v u := by
  cases v with
  | none => exact r
  | some v => exact VRep.step T noSeq_nil r

theorem e_slice {o : Expr} {lo hi : Option Expr} {p pos : Pos} {ilo ihi : Option IE} {f : Fr → St → R PV} {ev : Fr → IE → St → R PV} (ho : EOk X C lvl o f) (hl : OptOk X C lvl ev lo ilo) (hh : OptOk X C lvl ev hi ihi) :
    EOk X C lvl (.Subscript o (.Slice lo hi none p) pos) fun fr σ => (f fr σ).bind fun x σ => (evOpt (ev fr) ilo σ).bind fun a σ => (evOpt (ev fr) ihi σ).bind fun b σ => sliced x a b σ := fun A fs env fr ρ σ s a => by
  rw [arm_eval_Subscript, arm_eval_Slice]
  refine (ho _ _ _ _ _ _ _ a).bind fun x σ' ρ' u s' _ _ I' rx T => ?_
  have e1 : (holding [u] (valueOrNone (evalOpt lo env) >>= fun l => holding [l] (valueOrNone (evalOpt hi env)) >>= fun u => holding [l, u] (valueOrNone (evalOpt none env)) >>= fun s => newFields "slice" [l, u, s]) >>= fun i => standAt pos >>= fun _ => getitemInPython u >>= fun b => subscripted (.Slice lo hi none p) b u i >>= fun r => letTemporaryGo o u r >>= fun _ => pure r)
      = holding [u] (valueOrNone (evalOpt lo env) >>= fun l => holding [l] (valueOrNone (evalOpt hi env)) >>= fun u => holding [l, u] (valueOrNone (evalOpt none env)) >>= fun s => newFields "slice" [l, u, s]) >>= fun i => standAt pos >>= fun _ => getitemInPython u >>= fun b => subscripted (.Slice lo hi none p) b u i >>= fun r => letTemporaryGo o u r >>= fun _ => pure r := rfl
  intro ns
  have n1 : evOpt (ev fr) ilo σ' ≠ .stuck := fun q => by rw [q] at ns; exact ns rfl
  refine wpAny_bind (wpAny_holding (wpAny_bind (wpAny_mono (opt_ok hl (a.next I' T) n1) (fun l s1 p1 => ?_) fun e s1 p1 => ?_)))
  · obtain ⟨va, σ1, ρ1, q1, q2, q3, q4, q5⟩ := p1
    rw [q1] at ns ⊢
    simp only [R.bind_ok] at ns ⊢
    have n2 : evOpt (ev fr) ihi σ1 ≠ .stuck := fun q => by rw [q] at ns; exact ns rfl
    refine wpAny_bind (wpAny_holding (wpAny_mono (opt_ok hh (a.next q3 (T.trans q5)) n2) (fun h2 s2 p2 => ?_) fun e s2 p2 => ?_))
    · obtain ⟨vb, σ2, ρ2, w1, w2, w3, w4, w5⟩ := p2
      rw [w1] at ns ⊢
      simp only [R.bind_ok] at ns ⊢
      refine wpAny_bind (wpAny_holding (wpAny_pure ?_))
      refine wpAny_newObj_type ?_ (by show _ ≤ _; simp [sizeLine_eq])
      refine wpAny_bind (wpAny_standAt ?_)
      have kp := push_keeps s2.heap { cls := .type "slice", data := .fields #[l, h2, .none] }
      have I3 : Rp X ρ2 σ2 (s2.heap.push { cls := .type "slice", data := .fields #[l, h2, .none] }) := w3.keeps kp
      have T3 : Step [] fs ρ2 ρ2 s2.heap (s2.heap.push { cls := .type "slice", data := .fields #[l, h2, .none] }) := Step.of_keeps kp
      have rx3 := ((rx.step q5 noSeq_nil).step w5 noSeq_nil).step T3 noSeq_nil
      refine wpAny_bind (sliced_typed (s := { s2 with heap := s2.heap.push { cls := .type "slice", data := .fields #[l, h2, .none] } }) I3 rx3 ns _ _ fun j => ?_)
      have e2 : subscripted (.Slice lo hi none p) false u (.ref s2.heap.objs.size) = operate [.ref s2.heap.objs.size, u] (getItem u (.ref s2.heap.objs.size)) := rfl
      rw [e2]
      have fin := Ok.operate (vs := [.ref s2.heap.objs.size, u]) (sliced_ok (X := X) (A := A) (fs := fs) (s := { s2 with heap := s2.heap.push { cls := .type "slice", data := .fields #[l, h2, .none] }, toks := j }) I3 rx3 ((q4.step w5).step T3) (w4.step T3) (Heap.IsSliceOf.new ..)) ns
      have E3 : Ext s' { s2 with heap := s2.heap.push { cls := .type "slice", data := .fields #[l, h2, .none] }, toks := j } := (q2.trans w2).trans ⟨_, j, rfl⟩
      refine wpAny_bind (wpAny_mono fin (fun w s3 p => ?_) fun e s3 p => ?_)
      · exact wpAny_bind (wpAny_letTemporaryGo (wpAny_pure (p.from E3 (q5.trans (w5.trans T3)))))
      · exact p.from E3 (q5.trans (w5.trans T3))
    · obtain ⟨c, σ2, ρ2, h₁, x2, w1, w2, w3, w4, w5, w6⟩ := p2
      exact ⟨c, σ2, ρ2, h₁, x2, by rw [w1]; rfl, w2, q2.trans w3, w4, q5.trans w5, w6⟩
  · exact p1.res fun _ _ q1 => by rw [q1]; rfl
end
end Mine
end

section
set_option autoImplicit false
set_option linter.unusedVariables false
set_option maxRecDepth 100000
namespace Mine
open PySem PySem.W PyProof.Rows PySem.SeqAt

noncomputable def FOk (X : Cx) (lvl : Nat) (f : Value) (g : List PV → St → R PV) : Prop :=
  ∀ A fs ρ σ s vs us, Rp X ρ σ s.heap → AOK X A fs ρ s.heap → Rm A lvl → VReps s.heap ρ vs us → g vs σ ≠ .stuck →
    codeAny (model X.prog X.w) A (.call f ⟨us, []⟩) (fun r s' => match r with | .ok (.ret v) => Post X [] fs ρ s VRep (g vs σ) v s' | .ok _ => False | .error e => PostX X A [] fs ρ s (g vs σ) e s') s
theorem FOk.ok {X : Cx} {lvl : Nat} {f : Value} {g : List PV → St → R PV} (h : FOk X lvl f g) {A : Around} {fs : List Addr} {ρ : Rho} {σ : St} {s : Shared} {vs : List PV} {us : List Value} (I : Rp X ρ σ s.heap) (ar : AOK X A fs ρ s.heap) (rm : Rm A lvl) (rs : VReps s.heap ρ vs us) :
    Ok X A [] fs ρ s VRep (call f us) (g vs σ) := fun ns => wpAny_call (h A fs ρ σ s vs us I ar rm rs ns)

noncomputable def newSem (T : Tb) (c f : Nat) (vs : List PV) (σ : St) : R PV := (alloc (.inst c []) σ).bind fun o σ => (T.F f (o :: vs) σ).bind fun r σ => match r with
  | .none => .ok o σ
  | _ => .stuck

structure TbOk (X : Cx) (lvl : Nat) (T : Tb) : Prop where
  fn : ∀ k, FOk X lvl (.ref (X.fa k)) (T.F k)
  meth : ∀ c m n f, c < NC → T.ME c m = some f → X.attrs[m]? = some n → plainGet X.K (X.cls c) n = true ∧ findIn X.K (.ref (X.cls c)) n = some (some (.ref (X.fa f))) ∧ isFn X.K (.ref (X.fa f)) = true ∧ keepIn X.K (.ref (X.fa f)) = true
  new : ∀ c f, c < NC → T.IN c = some f → FOk X lvl (.ref (X.cls c)) (newSem T c f)

section
variable {X : Cx} {S : SX} {C : SC} {lvl : Nat} {A : Around} {W fs : List Addr} {env : Env} {fr : Fr} {ρ ρ' : Rho} {σ σ' : St} {s s' : Shared} {T : Tb}

noncomputable def Keeps (X : Cx) (f : Value) : Prop := ∀ h, X.K.In h → ∃ k, (k = Keeper.frame ∨ k = Keeper.machine ∨ k = Keeper.boundFrame) ∧ Looks (model X.prog X.w) h (keeperOf f) k
theorem keeps_builtin (id : String) : Keeps X (.builtin id) := fun h _ => ⟨.machine, .inr (.inl rfl), Looks.of_pure rfl⟩
theorem keeps_type (id : String) : Keeps X (.type id) := fun h _ => ⟨.machine, .inr (.inl rfl), Looks.of_pure rfl⟩
theorem keeps_ref {a : Addr} (h : keepIn X.K (.ref a) = true) : Keeps X (.ref a) := keeps_K h

theorem callWith_ok {f : Value} {first : List Value} {pos : Pos} {es : List Expr} {ies : List IE} {ev : Fr → IE → St → R PV} {g : List PV → St → R PV} (hk : Keeps X f) (h : All2 (fun e ie => EOk X C lvl e fun fr σ => ev fr ie σ) es ies)
    (a : At X C lvl A fs env fr ρ σ s)
    (cont : ∀ vs σ' ρ' us s', Rp X ρ' σ' s'.heap → VReps s'.heap ρ' vs us → Step [] fs ρ ρ' s.heap s'.heap → Ok X A [] fs ρ' s' VRep (call f (first ++ us)) (g vs σ')) :
    Ok X A [] fs ρ s VRep (callWith pos f first (es.map fun e => (false, eval e env)) []) ((evList (ev fr) ies σ).bind g) := by
  have hs := (spliced_ok (ev := ev) h a).bind (rel' := fun h ρ v w => VRep h ρ v w) (k := fun us => call f (first ++ us)) (f := g) fun vs σ' ρ' us s' _ _ I' rs T => cont vs σ' ρ' us s' I' rs T
  intro ns
  have n1 : evList (ev fr) ies σ ≠ .stuck := fun q => by rw [q] at ns; exact ns rfl
  have key : wpAny (model X.prog X.w) A (spliced (es.map fun e => (false, eval e env))) (fun vs s₁ => X.K.In s₁.heap ∧ wpAny (model X.prog X.w) A (call f (first ++ vs)) (Post X [] fs ρ s VRep ((evList (ev fr) ies σ).bind g)) (PostX X A [] fs ρ s ((evList (ev fr) ies σ).bind g)) s₁) (PostX X A [] fs ρ s ((evList (ev fr) ies σ).bind g)) s := by
    refine wpAny_mono (spliced_ok h a n1) (fun us s1 p => ?_) fun e s1 p => ?_
    · obtain ⟨vs, σ1, ρ1, q1, q2, q3, q4, q5⟩ := p
      refine ⟨q3.kin, ?_⟩
      rw [q1] at ns ⊢
      exact wpAny_mono (cont vs σ1 ρ1 us s1 q3 q4 q5 ns) (fun _ _ p => p.from q2 q5) fun _ _ p => p.from q2 q5
    · exact p.res fun _ _ q1 => by rw [q1]; rfl
  refine callWith_of (P := X.K.In) (by simp) hk ?_
  cases es with
  | nil =>
    refine evalArgs_nil3 ?_
    have := n1
    cases h
    have c0 := cont [] σ ρ [] s a.I .nil Step.refl
    exact ⟨a.I.kin, c0 ns⟩
  | cons e es => exact Calls.evalArgs_plain key

theorem eval_call_name {id : Str} {np pos : Pos} {es : List Expr} (hs : ∀ e, e ∈ es → notStar e = true) : eval (.Call (.Name id np) es [] pos) env = (eval (.Name id np) env >>= fun f => callWith pos f [] (es.map fun e => (false, eval e env)) []) := by
  show (eval (.Name id np) env >>= fun f => callWith pos f [] (backTo pos (starEach es env)) (backToKw pos (keywordEach [] env))) = _
  rw [starEach_of es env pos hs]
  rfl

/-- a call of a named thing -/
theorem e_named {id : Str} {np pos : Pos} {u : Value} {es : List Expr} {ies : List IE} {ev : Fr → IE → St → R PV} {g : List PV → St → R PV} (hs : ∀ e, e ∈ es → notStar e = true)
    (hu : ∀ A fs env fr ρ σ s, At X C lvl A fs env fr ρ σ s → Gv X A s (eval (.Name id np) env) u) (hk : Keeps X u) (h : All2 (fun e ie => EOk X C lvl e fun fr σ => ev fr ie σ) es ies)
    (hg : ∀ A fs ρ σ s vs us, Rp X ρ σ s.heap → AOK X A fs ρ s.heap → Rm A lvl → VReps s.heap ρ vs us → Ok X A [] fs ρ s VRep (call u us) (g vs σ)) :
    EOk X C lvl (.Call (.Name id np) es [] pos) fun fr σ => (evList (ev fr) ies σ).bind g := fun A fs env fr ρ σ s a => by
  rw [eval_call_name hs]
  intro ns
  refine wpAny_bind (hu _ _ _ _ _ _ _ a _ _ fun j => ?_)
  have a' : At X C lvl A fs env fr ρ σ { s with toks := j } := a.next (s' := { s with toks := j }) a.I Step.refl
  exact wpAny_mono (callWith_ok hk h a' (fun vs σ' ρ' us s' I' rs T => hg A fs ρ' σ' s' vs us I' (a'.ar.step0 T) a.rm rs) ns) (fun _ _ p => p.from ⟨_, j, rfl⟩ Step.refl) fun _ _ p => p.from ⟨_, j, rfl⟩ Step.refl

theorem e_call (O : SOk X S) (B : TbOk X lvl T) {id : Str} {np pos : Pos} {k : Nat} {es : List Expr} {ies : List IE} {ev : Fr → IE → St → R PV} (hs : ∀ e, e ∈ es → notStar e = true) (hd : (id == ("__debug__" : Str)) = false) (hk : C.names.lookup id = some .globalImplicit) (hg : S.glob.lookup id = some (.fn k))
    (h : All2 (fun e ie => EOk X C lvl e fun fr σ => ev fr ie σ) es ies) : EOk X C lvl (.Call (.Name id np) es [] pos) fun fr σ => (evList (ev fr) ies σ).bind fun vs σ => T.F k vs σ := by
  obtain ⟨e1, e2⟩ := O.fn _ _ hg
  exact e_named hs (fun A fs env fr ρ σ s a => glob_gv a hd hk e1) (keeps_ref e2) h fun A fs ρ σ s vs us I ar rm rs => (B.fn k).ok I ar rm rs
theorem e_new (O : SOk X S) (B : TbOk X lvl T) {id : Str} {np pos : Pos} {c : Nat} {es : List Expr} {ies : List IE} {ev : Fr → IE → St → R PV} (hs : ∀ e, e ∈ es → notStar e = true) (hd : (id == ("__debug__" : Str)) = false) (hk : C.names.lookup id = some .globalImplicit) (hg : S.glob.lookup id = some (.cls c))
    (h : All2 (fun e ie => EOk X C lvl e fun fr σ => ev fr ie σ) es ies) : EOk X C lvl (.Call (.Name id np) es [] pos) fun fr σ => (evList (ev fr) ies σ).bind fun vs σ => match (if c < NC then T.IN c else .none) with
        | some f => (alloc (.inst c []) σ).bind fun o σ => (T.F f (o :: vs) σ).bind fun r σ => match r with
            | .none => .ok o σ
            | _ => .stuck
        | .none => .stuck := by
  obtain ⟨e1, e2⟩ := O.cls _ _ hg
  refine e_named hs (fun A fs env fr ρ σ s a => glob_gv a hd hk e1) (keeps_ref e2) h ?_
  intro A fs ρ σ s vs us I ar rm rs
  by_cases hc : c < NC
  · rw [if_pos hc]
    cases hf : T.IN c with
    | none => exact .stuck
    | some f => exact (B.new c f hc hf).ok I ar rm rs
  · rw [if_neg hc]; exact .stuck

/-! built-ins -/
noncomputable def biTable : List (Str × Bi) := [("len", .len), ("sorted", .sorted), ("list", .list), ("tuple", .tuple), ("all", .all), ("abs", .abs), ("int", .int)]
noncomputable def biVal : Bi → Value
  | .len => .builtin "len"
  | .sorted => .builtin "sorted"
  | .list => .type "list"
  | .tuple => .type "tuple"
  | .all => .builtin "all"
  | .abs => .builtin "abs"
  | .int => .type "int"
  | _ => .builtin "isinstance"
theorem bi_boot : ∀ n b, biTable.lookup n = some b → bootBuiltins n = some (biVal b) ∧ n ≠ "__name__" ∧ (n == ("__debug__" : Str)) = false ∧ (∀ us, biCall b us = (biVal b, us)) ∧ Keeps X (biVal b) := by
  intro n b h
  have hm : (n, b) ∈ biTable := lookup_mem h
  have h1 : biTable.all (fun p => decide (bootBuiltins p.1 = some (biVal p.2)) && (decide (p.1 ≠ "__name__") && (p.1 == ("__debug__" : Str)) == false)) = true := by decide +kernel
  have h2 := List.all_eq_true.mp h1 _ hm
  obtain ⟨q1, q2⟩ := Bool.and_eq_true_iff.mp h2
  obtain ⟨q2, q3⟩ := Bool.and_eq_true_iff.mp q2
  have key : ∀ b : Bi, Keeps X (biVal b) := fun b => by cases b <;> first | exact keeps_builtin _ | exact keeps_type _
  refine ⟨of_decide_eq_true q1, of_decide_eq_true q2, beq_iff_eq.mp q3, ?_, key b⟩
  rcases List.mem_cons.mp hm with e | hm
  · cases e; exact fun _ => rfl
  rcases List.mem_cons.mp hm with e | hm
  · cases e; exact fun _ => rfl
  rcases List.mem_cons.mp hm with e | hm
  · cases e; exact fun _ => rfl
  rcases List.mem_cons.mp hm with e | hm
  · cases e; exact fun _ => rfl
  rcases List.mem_cons.mp hm with e | hm
  · cases e; exact fun _ => rfl
  rcases List.mem_cons.mp hm with e | hm
  · cases e; exact fun _ => rfl
  cases List.mem_singleton.mp hm; exact fun _ => rfl

theorem e_blt (O : SOk X S) {id : Str} {np pos : Pos} {b : Bi} {es : List Expr} {ies : List IE} {ev : Fr → IE → St → R PV} (hs : ∀ e, e ∈ es → notStar e = true) (hb : biTable.lookup id = some b) (hk : C.names.lookup id = some .globalImplicit) (hn : id ∈ S.bnames)
    (h : All2 (fun e ie => EOk X C lvl e fun fr σ => ev fr ie σ) es ies) : EOk X C lvl (.Call (.Name id np) es [] pos) fun fr σ => (evList (ev fr) ies σ).bind fun vs σ => builtin b vs σ := by
  obtain ⟨q1, q2, q3, q4, q5⟩ := bi_boot (X := X) id b hb
  refine e_named hs (fun A fs env fr ρ σ s a => boot_gv a q3 hk (O.none _ hn) q1 q2) q5 h ?_
  intro A fs ρ σ s vs us I ar rm rs
  have := builtin_ok (fs := fs) (b := b) I ar.hd rs
  rw [q4] at this
  exact this

theorem evList_one {ev : IE → St → R PV} {e : IE} {σ : St} : evList ev [e] σ = (ev e σ).bind fun v σ => .ok [v] σ := by
  show ((ev e σ).bind fun v σ => (R.ok [] σ : R (List PV)).bind fun vs σ => .ok (v :: vs) σ) = _
  cases ev e σ <;> rfl
noncomputable def isTable : List (Str × Bi) := [("str", .isStr), ("int", .isInt), ("bool", .isBool), ("bytes", .isBytes), ("tuple", .isTuple)]
theorem is_boot : ∀ n b, isTable.lookup n = some b → ∃ t, bootBuiltins n = some (.type t) ∧ n ≠ "__name__" ∧ (n == ("__debug__" : Str)) = false ∧ ∀ us, biCall b us = (.builtin "isinstance", us ++ [.type t]) := by
  intro n b h
  have hm : (n, b) ∈ isTable := lookup_mem h
  rcases List.mem_cons.mp hm with e | hm
  · cases e; exact ⟨"str", by kernel_rfl, by decide, by decide, fun _ => rfl⟩
  rcases List.mem_cons.mp hm with e | hm
  · cases e; exact ⟨"int", by kernel_rfl, by decide, by decide, fun _ => rfl⟩
  rcases List.mem_cons.mp hm with e | hm
  · cases e; exact ⟨"bool", by kernel_rfl, by decide, by decide, fun _ => rfl⟩
  rcases List.mem_cons.mp hm with e | hm
  · cases e; exact ⟨"bytes", by kernel_rfl, by decide, by decide, fun _ => rfl⟩
  cases List.mem_singleton.mp hm; exact ⟨"tuple", by kernel_rfl, by decide, by decide, fun _ => rfl⟩
theorem isi_boot : bootBuiltins "isinstance" = some (.builtin "isinstance") := by kernel_rfl

theorem e_isi (O : SOk X S) {np pos tp : Pos} {tn : Str} {b : Bi} {e : Expr} {ie : IE} {ev : Fr → IE → St → R PV} (hs : notStar e = true) (hb : isTable.lookup tn = some b) (hk : C.names.lookup ("isinstance" : Str) = some .globalImplicit) (hn : ("isinstance" : Str) ∈ S.bnames)
    (hk' : C.names.lookup tn = some .globalImplicit) (hn' : tn ∈ S.bnames) (h : EOk X C lvl e fun fr σ => ev fr ie σ) :
    EOk X C lvl (.Call (.Name "isinstance" np) [e, .Name tn tp] [] pos) fun fr σ => (evList (ev fr) [ie] σ).bind fun vs σ => builtin b vs σ := fun A fs env fr ρ σ s a => by
  obtain ⟨t, q1, q2, q3, q4⟩ := is_boot tn b hb
  rw [eval_call_name (by intro x hx; simp at hx; rcases hx with rfl | rfl; exact hs; rfl)]
  intro ns
  refine wpAny_bind (boot_gv a (by decide) hk (O.none _ hn) isi_boot (by decide) _ _ fun j => ?_)
  refine callWith_of (P := fun _ => True) (by simp) (fun h _ => ⟨.machine, .inr (.inl rfl), Looks.of_pure rfl⟩) ?_
  have a' : At X C lvl A fs env fr ρ σ { s with toks := j } := a.next (s' := { s with toks := j }) a.I Step.refl
  refine Calls.evalArgs_plain ?_
  have n1 : ev fr ie σ ≠ .stuck := fun q => by simp only [evList_one, q] at ns; exact ns rfl
  rw [spliced_cons']
  refine wpAny_bind (wpAny_mono (h _ _ _ _ _ _ _ a' n1) (fun u s1 p => ?_) fun e s1 p => ?_)
  · obtain ⟨v, σ1, ρ1, w1, w2, w3, w4, w5⟩ := p
    change ev fr ie σ = _ at w1
    have a1 := a'.next w3 w5
    show wpAny _ _ (holding [u] (spliced [(false, eval (.Name tn tp) env)]) >>= _) _ _ _
    refine wpAny_bind (wpAny_holding ?_)
    rw [spliced_cons']
    refine wpAny_bind (boot_gv a1 q3 hk' (O.none _ hn') q1 q2 _ _ fun j' => ?_)
    refine wpAny_bind (wpAny_holding (Calls.spliced_nil (wpAny_pure (wpAny_pure ⟨trivial, ?_⟩))))
    have fin := builtin_ok (X := X) (A := A) (fs := fs) (b := b) (s := { s1 with toks := j' }) w3 a1.ar.hd (.cons w4 .nil)
    rw [q4] at fin
    have e0 : (evList (ev fr) [ie] σ).bind (fun vs σ => builtin b vs σ) = builtin b [v] σ1 := by rw [evList_one, w1]; rfl
    simp only [e0] at ns ⊢
    exact wpAny_mono (fin ns) (fun _ _ p => p.from (w2.trans ⟨_, j', rfl⟩) w5) fun _ _ p => p.from (w2.trans ⟨_, j', rfl⟩) w5
  · exact (p.res fun _ _ w1 => by change ev fr ie σ = _ at w1; simp only [evList_one, w1]; rfl).from ⟨_, j, rfl⟩ Step.refl

/-! methods -/
noncomputable def miTable : List (Str × Mi) := [("split", .split)]

theorem methodCall_of {o : Expr} {name : Str} {apos pos : Pos} {ov f : Value} {n : Nat} {args : List (Sem Value)} {first : List Value} {Q E} (hn : n < 30) (hline : (apos.endLine == pos.line) = true)
    (hm : ∀ pl (Q : Value × List Value → Shared → Prop), Q (f, first) s → wpAny (model X.prog X.w) A (getMethod ov name pl) Q E s)
    (h : wpAny (model X.prog X.w) A (callWith pos f first (args.map fun t => (false, t)) []) Q E s) : wpAny (model X.prog X.w) A (methodCall o name apos pos env ov n (args.map fun t => (false, t)) []) Q E s := by
  have hform : methodCallForm n (args.map fun t => (false, t)) [] = true := by
    unfold methodCallForm
    simp [hn]
  have hpos : methodCallPos true o env apos pos = pure pos := by unfold methodCallPos; simp [hline]
  unfold methodCall
  rw [hform]
  refine wpAny_bind (wpAny_holding (hm _ _ ?_))
  exact wpAny_bind (wpAny_of_eq hpos h)

theorem eval_call_attr {o : Expr} {m : Str} {apos pos : Pos} {es : List Expr} (hs : ∀ e, e ∈ es → notStar e = true) (hb : notSuper o = true) : eval (.Call (.Attribute o m apos) es [] pos) env = (eval o env >>= fun ov => standAt apos.atName >>= fun _ => methodCall o m apos pos env ov es.length ((es.map fun e => eval e env).map fun t => (false, t)) []) := by
  rw [arm_eval_Call, base_of hb, starEach_of es env pos hs, List.map_map]
  rfl

theorem e_meth {o : Expr} {mn : Str} {m : Mi} {apos pos : Pos} {f : Fr → St → R PV} {es : List Expr} {ies : List IE} {ev : Fr → IE → St → R PV} (hs : ∀ e, e ∈ es → notStar e = true) (hb : notSuper o = true) (hl : es.length < 30) (hline : (apos.endLine == pos.line) = true)
    (hm : miTable.lookup mn = some m) (ho : EOk X C lvl o f) (h : All2 (fun e ie => EOk X C lvl e fun fr σ => ev fr ie σ) es ies) :
    EOk X C lvl (.Call (.Attribute o mn apos) es [] pos) fun fr σ => (f fr σ).bind fun x σ => if isStr x then (evList (ev fr) ies σ).bind fun vs σ => method m x vs σ else .stuck := fun A fs env fr ρ σ s a => by
  have hmm : (mn, m) ∈ miTable := lookup_mem hm
  cases List.mem_singleton.mp hmm
  rw [eval_call_attr hs hb]
  refine (ho _ _ _ _ _ _ _ a).bind fun x σ' ρ' u s' _ _ I' rx T => Ok.standAt ?_
  have a' := a.next I' T
  refine .guard fun ht => ?_
  have fin : Ok X A [] fs ρ' s' VRep (callWith pos (.builtin "str.split") [u] ((es.map fun e => eval e env).map fun t => (false, t)) []) ((evList (ev fr) ies σ').bind fun vs σ => method .split x vs σ) := by
    rw [List.map_map]
    exact callWith_ok (keeps_builtin _) h a' fun vs σ'' ρ'' us s'' I'' rs T' => method_ok (m := .split) I'' (rx.step T' noSeq_nil) rs
  intro ns
  refine methodCall_of hl hline (fun pl Q q => ?_) (fin ns)
  cases rx with
  | str x t => with_reducible exact getMethod_builtin (typeIs_str _ _ _) F.plainAttrs_str F.slot_str_split F.type_str_split (fun _ e => nomatch e) q
  | _ => cases ht

theorem e_umeth {TT : Tb} (B : TbOk X lvl TT) {o : Expr} {mn : Str} {m : Nat} {apos pos : Pos} {f : Fr → St → R PV} {es : List Expr} {ies : List IE} {ev : Fr → IE → St → R PV} (hs : ∀ e, e ∈ es → notStar e = true) (hb : notSuper o = true) (hl : es.length < 30) (hline : (apos.endLine == pos.line) = true)
    (hm : X.attrs[m]? = some mn) (ho : EOk X C lvl o f) (h : All2 (fun e ie => EOk X C lvl e fun fr σ => ev fr ie σ) es ies) :
    EOk X C lvl (.Call (.Attribute o mn apos) es [] pos) fun fr σ => (f fr σ).bind fun x σ => umE TT (evList (ev fr) ies) m x σ := fun A fs env fr ρ σ s a => by
  rw [eval_call_attr hs hb]
  refine (ho _ _ _ _ _ _ _ a).bind fun x σ' ρ' u s' _ _ I' rx T => Ok.standAt ?_
  have a' := a.next I' T
  cases x with
  | loc l =>
    show Ok X A [] fs ρ' s' VRep _ (umR TT (evList (ev fr) ies) m (.loc l) σ'[l]? σ')
    cases hc : σ'[l]? with
    | none => exact .stuck
    | some o =>
      cases o with
      | inst c fs' =>
        show Ok X A [] fs ρ' s' VRep _ (umK TT.F (evList (ev fr) ies) (.loc l) (TT.ME c m) (fs'.lookup m) σ')
        cases hme : TT.ME c m with
        | none => exact .stuck
        | some k =>
          cases hlk : fs'.lookup m with
          | some _ => exact .stuck
          | none =>
            have rx0 := rx
            cases rx with | loc hp =>
            obtain ⟨xa, dx, ox, od, mm, rfl, R⟩ := inst_of I' hp hc
            obtain ⟨g1, g2, g3, g4⟩ := B.meth c m mn k R.lt hme hm
            have q := R.rep m mn hm
            rw [hlk] at q
            have fin : Ok X A [] fs ρ' s' VRep (callWith pos (.ref (X.fa k)) [.ref xa] ((es.map fun e => eval e env).map fun t => (false, t)) []) ((evList (ev fr) ies σ').bind fun vs σ => TT.F k (.loc l :: vs) σ) := by
              rw [List.map_map]
              exact callWith_ok (keeps_ref g4) h a' fun vs σ'' ρ'' us s'' I'' rs T' => (B.fn k).ok (vs := .loc l :: vs) (us := .ref xa :: us) I'' (a'.ar.step0 T') a.rm (.cons (rx0.step T' noSeq_nil) rs)
            intro ns
            refine methodCall_of hl hline (fun pl Q qq => ?_) (fin ns)
            exact method_fn I'.kin R.at_ (plainGet_of g1).1 (plainGet_of g1).2 g2 (beq_iff_eq.mp g3) (by show (lookIn mn od).map _ = _; rw [R.look, q]; rfl) qq
      | _ => exact .stuck
  | _ => exact .stuck
end
end Mine
end

section
set_option autoImplicit false
set_option linter.unusedVariables false
set_option maxRecDepth 100000
namespace Mine
open PySem PySem.W PyProof.Rows PySem.SeqAt

section
variable {W fs : List Addr} {ρ ρ' τ : Rho} {h h1 h2 h3 : Heap}
theorem Step.loc (k : ∀ b o, h.get? b = some o → h1.get? b = some o) (S : Step W fs ρ ρ' h1 h3) (hW : ∀ w, w ∈ W → h.get? w = none) : Step [] fs ρ ρ' h h3 := by
  refine ⟨S.pre, fun a o e n _ => S.keep a o (k a o e) n fun q => (by rw [hW a q] at e; cases e), fun a o e _ => S.there a o (k a o e) fun q => (by rw [hW a q] at e; cases e), fun a q => ?_, fun _ w => nomatch w⟩
  rcases S.fresh a q with q | q
  · exact .inl q
  · right
    cases e : h.get? a with
    | none => rfl
    | some o => rw [k a o e] at q; cases q
theorem Step.adopt (S : Step [] fs ρ ρ' h h3) {d : Addr} (hd : h.get? d = none) : Step [] fs ρ (ρ' ++ [(d, none)]) h h3 := by
  refine ⟨?_, S.keep, S.there, fun a q => ?_, fun _ w => nomatch w⟩
  · obtain ⟨τ, rfl⟩ := S.pre
    exact ⟨τ ++ [(d, none)], by simp⟩
  · rw [owned_append] at q
    rcases List.mem_append.mp q with q | q
    · exact S.fresh a q
    · have : a = d := by simpa [owned, ownedOf] using q
      subst this
      exact .inr hd
theorem more_off (no : ∀ a, a ∈ owned τ → ∀ items, ¬ h.IsTuple a items) {a : Addr} {items : Array Value} (ht : h.IsTuple a items) (n : a ∉ owned ρ) : a ∉ owned (ρ ++ τ) := fun q => by
  rw [owned_append] at q
  rcases List.mem_append.mp q with q | q
  · exact n q
  · exact no _ q _ ht
theorem more_at {i : Nat} {p : Addr × Option Addr} (hi : ρ[i]? = some p) : (ρ ++ τ)[i]? = some p := by
  rw [List.getElem?_append_left (List.getElem?_eq_some_iff.mp hi).1]; exact hi
theorem VRep.more (no : ∀ a, a ∈ owned τ → ∀ items, ¬ h.IsTuple a items) {v : PV} {u : Value} (r : VRep h ρ v u) : VRep h (ρ ++ τ) v u :=
  VRep.rec (motive_1 := fun v u _ => VRep h (ρ ++ τ) v u) (motive_2 := fun v u _ => VReps h (ρ ++ τ) v u) .none .bool .int .str .bytes (fun ht n _ r => .tup ht (more_off no ht n) r) (fun hi => .loc (more_at hi)) .nil (fun _ _ a r => .cons a r) r
theorem VReps.more (no : ∀ a, a ∈ owned τ → ∀ items, ¬ h.IsTuple a items) {v : List PV} {u : List Value} (r : VReps h ρ v u) : VReps h (ρ ++ τ) v u := by
  induction r using VReps.ind with
  | nil => exact .nil
  | cons a r ih => exact .cons (a.more no) ih
theorem KVs.more (no : ∀ a, a ∈ owned τ → ∀ items, ¬ h.IsTuple a items) {es : List (PV × PV)} {kvs : List (Str × Value)} (r : KVs h ρ es kvs) : KVs h (ρ ++ τ) es kvs := by
  induction r with
  | nil => exact .nil
  | cons a _ ih => exact .cons (a.more no) ih
theorem FsRep.more {X : Cx} (no : ∀ a, a ∈ owned τ → ∀ items, ¬ h.IsTuple a items) {l : List (Nat × PV)} {m : Str → Option Value} (r : FsRep X h ρ l m) : FsRep X h (ρ ++ τ) l m := fun k n e => by
  have q := r k n e
  split
  · rename_i v hv
    rw [hv] at q
    obtain ⟨u, a, b⟩ := q
    exact ⟨u, a, b.more no⟩
  · rename_i hv
    rw [hv] at q
    exact q
theorem ORep.more {X : Cx} (no : ∀ a, a ∈ owned τ → ∀ items, ¬ h.IsTuple a items) {o : PO} {p : Addr × Option Addr} (r : ORep X h ρ o p) : ORep X h (ρ ++ τ) o p := by
  cases r with
  | list hl r => exact .list hl (r.more no)
  | frz h1 h2 h3 r => exact .frz h1 h2 h3 (r.more no)
  | junk h1 => exact .junk h1
  | tab h1 h2 h3 => exact .tab h1 h2 h3
  | dict d => obtain ⟨ns, kvs, d, r⟩ := d; exact .dict ⟨ns, kvs, d, r.more no⟩
  | inst h0 h1 h2 h3 h4 h5 hw h6 => exact .inst h0 h1 h2 h3 h4 h5 hw (h6.more no)

/-- a thing that stood there unowned is taken in -/
theorem Rp.adopt {X : Cx} {σ : St} (I : Rp X ρ σ h) {d : Addr} {po : PO} (hd : ∃ o, h.get? d = some o) (no : d ∉ owned ρ) (nb : X.base.get? d = none) (nt : ∀ items, ¬ h.IsTuple d items) (nt' : ∀ items, ¬ h3.IsTuple d items) (hs : Heap.SameBut d h h3)
    (ht : ∃ o, h3.get? d = some o) (hr : ORep X h3 (ρ ++ [(d, none)]) po (d, none)) : Rp X (ρ ++ [(d, none)]) (σ ++ [po]) h3 := by
  have S : Step [d] [] ρ ρ h h3 := Step.turn (.inr (by simp)) hs ht
  have N : NoSeq [d] h := fun a q items => by simp at q; subst q; exact nt items
  have e1 : owned (ρ ++ [(d, (none : Option Addr))]) = owned ρ ++ [d] := by simp [owned, ownedOf]
  have NO : ∀ a, a ∈ owned [(d, (none : Option Addr))] → ∀ items, ¬ h3.IsTuple a items := fun a q items => by simp [owned, ownedOf] at q; subst q; exact nt' items
  refine ⟨fun b o e => ?_, by simp [I.len], ?_, fun a q => ?_, ?_, fun i q o hi ho => ?_⟩
  · have : b ≠ d := fun z => by subst z; rw [nb] at e; cases e
    exact (hs.2 b this).trans (I.base b o e)
  · rw [e1, List.nodup_append]
    exact ⟨I.nodup, by simp, fun a ha b hb e => by simp at hb; subst hb; subst e; exact no ha⟩
  · rw [e1] at q
    rcases List.mem_append.mp q with q | q
    · exact I.off a q
    · simp at q; subst q; exact nb
  · obtain ⟨xs, e⟩ := I.fz
    exact ⟨xs, by rw [List.getElem?_append_left (List.getElem?_eq_some_iff.mp e).1]; exact e⟩
  · rcases Nat.lt_or_ge i ρ.length with hlt | hge
    · rw [List.getElem?_append_left hlt] at hi
      rw [List.getElem?_append_left (I.len ▸ hlt)] at ho
      refine ((I.objs i q o hi ho).step S N fun x hx ob e => ?_).more NO
      have : x ≠ d := fun z => by subst z; exact no (List.mem_flatMap.mpr ⟨q, List.mem_of_getElem? hi, hx⟩)
      exact (hs.2 x this).trans e
    · rw [List.getElem?_append_right hge] at hi
      rw [List.getElem?_append_right (I.len ▸ hge)] at ho
      have z : i - ρ.length = 0 := by
        cases q : i - ρ.length with
        | zero => rfl
        | succ n => rw [q] at hi; simp at hi
      have z' : i - σ.length = 0 := by rw [← I.len]; exact z
      rw [z] at hi
      rw [z'] at ho
      simp at hi ho
      subst hi
      subst ho
      exact hr
end

section
variable {X : Cx} {S : SX} {C : SC} {lvl : Nat} {A : Around} {W fs : List Addr} {env : Env} {fr : Fr} {ρ ρ' : Rho} {σ σ' : St} {s s' : Shared}

theorem notTuple_of_cls {h : Heap} {a : Addr} {o : Obj} (e : h.get? a = some o) (hc : o.cls ≠ .type "tuple") : ∀ items, ¬ h.IsTuple a items := fun items ⟨o', e', c, _⟩ => by
  rw [e] at e'; cases e'; exact hc c
theorem base_none {h : Heap} (I : X.base.StaysIn h) {a : Addr} (e : h.get? a = none) : X.base.get? a = none := by
  cases q : X.base.get? a with
  | none => rfl
  | some o => rw [I a o q] at e; cases e

/-! dict displays -/
inductive PReps (h : Heap) (ρ : Rho) : List (PV × PV) → List (Value × Value) → Prop
  | nil : PReps h ρ [] []
  | cons {k v : PV} {a b : Value} {ps : List (PV × PV)} {us : List (Value × Value)} : VRep h ρ k a → VRep h ρ v b → PReps h ρ ps us → PReps h ρ ((k, v) :: ps) ((a, b) :: us)
theorem PReps.step {h h' : Heap} (T : Step W fs ρ ρ' h h') (N : NoSeq W h) {ps : List (PV × PV)} {us : List (Value × Value)} (r : PReps h ρ ps us) : PReps h' ρ' ps us := by
  induction r with
  | nil => exact .nil
  | cons a b _ ih => exact .cons (a.step T N) (b.step T N) ih

theorem evPairs_ok {ev : Fr → IE → St → R PV} {pos : Pos} {kvs : List (Expr × Expr)} {ikvs : List (IE × IE)} (hs : All2 (fun e ie => EOk X C lvl e.1 (fun fr σ => ev fr ie.1 σ) ∧ EOk X C lvl e.2 (fun fr σ => ev fr ie.2 σ)) kvs ikvs) :
    ∀ {A fs env fr ρ σ s}, At X C lvl A fs env fr ρ σ s → Ok X A [] fs ρ s PReps (PySem.evalPairs (kvs.map fun e => (eval e.1 env, eval e.2 env >>= fun x => standAt pos >>= fun _ => pure x))) (evPairs (ev fr) ikvs σ) := by
  induction hs with
  | nil => intro A fs env fr ρ σ s a; exact Ok.ret a.I .nil
  | cons h r ih =>
    rename_i e ie es ies
    intro A fs env fr ρ σ s a
    rw [List.map_cons, PySem.evalPairs]
    refine Ok.bind (h.1 _ _ _ _ _ _ _ a) fun k σ1 ρ1 u s1 _ _ I1 rk T1 => ?_
    have a1 := a.next I1 T1
    have e2 : Ok X A [] fs ρ1 s1 VRep (eval e.2 env >>= fun x => standAt pos >>= fun _ => pure x) (ev fr ie.2 σ1) := by
      intro ns
      exact wpAny_bind (wpAny_mono (h.2 _ _ _ _ _ _ _ a1 ns) (fun _ _ p => wpAny_bind (wpAny_standAt (wpAny_pure p))) fun _ _ p => p)
    refine Ok.bind (Ok.holding e2) fun v σ2 ρ2 w s2 _ _ I2 rv T2 => ?_
    have a2 := a1.next I2 T2
    refine Ok.bind (Ok.holding (ih a2)) fun ps σ3 ρ3 us s3 _ _ I3 rp T3 => ?_
    exact Ok.ret I3 (.cons ((rk.step T2 noSeq_nil).step T3 noSeq_nil) (rv.step T3 noSeq_nil) rp)

theorem drep_notTuple {h : Heap} {es : List (PV × PV)} {d : Addr} (D : DRep X h ρ es d) : (∃ o, h.get? d = some o) ∧ ∀ items, ¬ h.IsTuple d items := by
  obtain ⟨_, _, ⟨o, _, _, e, c, _⟩, _⟩ := D
  exact ⟨⟨o, e⟩, notTuple_of_cls e (by rw [c.1]; decide)⟩
theorem drep_noSeq {h : Heap} {es : List (PV × PV)} {d : Addr} (D : DRep X h ρ es d) : NoSeq [d] h := fun a q items => by rw [List.mem_singleton.mp q]; exact (drep_notTuple D).2 items

theorem dictSet_ok {d : Addr} {es : List (PV × PV)} {k v : PV} {a b : Value} (D : DRep X s.heap ρ es d) (hk : keysLike k es = true) (hz : es.length ≤ 100000) (rk : VRep s.heap ρ k a) (rv : VRep s.heap ρ v b) {Q : Unit → Shared → Prop} {E : Value → Shared → Prop}
    (h : ∀ h' j, DRep X h' ρ (dset k v es) d → Heap.SameBut d s.heap h' → Q () { s with heap := h', toks := j }) : wpAny (model X.prog X.w) A (dictSet d a b) Q E s := by
  have N := drep_noSeq D
  cases rk with
  | str x t =>
    obtain ⟨D1, kvs, dd, kk⟩ := D
    refine wpAny_dictSet_pairs (k := x) (strKind_is _ _ x t) dd (fun h' hd hs => h h' _ ⟨D1, _, hd, ?_⟩ hs) (by rw [sizeLine_eq, ← kk.length]; omega)
    have T : Step [d] [] ρ ρ s.heap h' := Step.turn (.inr List.mem_cons_self) hs (let ⟨o, _, _, ho, _⟩ := hd; ⟨o, ho⟩)
    exact (kk.step T N).set x (rv.step T N) (let ⟨_, _, _, _, _, _, _, _, n⟩ := dd; n)
  | _ => cases hk

theorem dset_len (k v : PV) (es : List (PV × PV)) : (dset k v es).length ≤ es.length + 1 := by
  induction es with
  | nil => exact Nat.le_refl _
  | cons e r ih =>
    show (if keyEq e.1 k = true then (e.1, v) :: r else e :: dset k v r).length ≤ _
    by_cases h : keyEq e.1 k = true
    · rw [if_pos h]; exact Nat.le_succ _
    · rw [if_neg h]; exact Nat.succ_le_succ ih

theorem storeAll_ok {d : Addr} {ps : List (PV × PV)} : ∀ {us : List (Value × Value)} {acc es : List (PV × PV)} {s : Shared} {Q : PUnit → Shared → Prop} {E : Value → Shared → Prop}, PReps s.heap ρ ps us → DRep X s.heap ρ acc d → dictAll acc ps = some es → acc.length + ps.length ≤ 100000 →
    (∀ h' j, DRep X h' ρ es d → Heap.SameBut d s.heap h' → Q PUnit.unit { s with heap := h', toks := j }) →
    wpAny (model X.prog X.w) A (forIn us PUnit.unit fun (x : Value × Value) (_ : PUnit) => (do dictSet d x.1 x.2; pure (ForInStep.yield PUnit.unit) : Sem (ForInStep PUnit))) Q E s := by
  induction ps with
  | nil =>
    intro us acc es s Q E r D e _ h
    cases r
    cases e
    rw [List.forIn_nil]
    exact wpAny_pure (h s.heap s.toks D (Heap.SameBut.refl _ _))
  | cons p ps ih =>
    intro us acc es s Q E r D e hz h
    cases r with
    | cons rk rv r =>
    rename_i k v a b us
    have e : (if keysLike k acc = true then dictAll (dset k v acc) ps else none) = some es := e
    by_cases hk : keysLike k acc = true
    · rw [if_pos hk] at e
      rw [List.length_cons] at hz
      rw [List.forIn_cons]
      refine wpAny_bind (wpAny_bind (dictSet_ok D hk (by omega) rk rv fun h' j D' hs => wpAny_pure ?_))
      have T : Step [d] [] ρ ρ s.heap h' := Step.turn (.inr List.mem_cons_self) hs (drep_notTuple D').1
      exact ih (r.step T (drep_noSeq D)) D' e (by have := dset_len k v acc; omega) fun h'' j' D'' hs' => h h'' j' D'' (hs.trans hs')
    · rw [if_neg hk] at e; cases e

theorem evPairs_len {ev : Fr → IE → St → R PV} {ikvs : List (IE × IE)} : ∀ {σ σ2 : St} {ps : List (PV × PV)}, evPairs (ev fr) ikvs σ = .ok ps σ2 → ps.length = ikvs.length := by
  induction ikvs with
  | nil => intro σ σ2 ps e; cases e; rfl
  | cons x r ih =>
    intro σ σ2 ps e
    obtain ⟨k, σa, _, e⟩ := R.bind_inv e
    obtain ⟨v, σb, _, e⟩ := R.bind_inv e
    obtain ⟨rs, σc, e3, e⟩ := R.bind_inv e
    cases e
    exact congrArg (· + 1) (ih e3)
theorem e_dict {ev : Fr → IE → St → R PV} {kvs : List (Expr × Expr)} {ikvs : List (IE × IE)} {pos : Pos} (h0 : kvs ≠ []) (hl : kvs.length ≤ 15)
    (h : All2 (fun e ie => EOk X C lvl e.1 (fun fr σ => ev fr ie.1 σ) ∧ EOk X C lvl e.2 (fun fr σ => ev fr ie.2 σ)) kvs ikvs) :
    EOk X C lvl (.Dict (kvs.map fun e => some e.1) (kvs.map (·.2)) pos) fun fr σ => (evPairs (ev fr) ikvs σ).bind fun ps σ => match dictAll [] ps with
        | some es => alloc (.dict es) σ
        | .none => .stuck := fun A fs env fr ρ σ s a => by
  have shape : (evalEachOpt (kvs.map fun e => some e.1) env).zip ((evalEach (kvs.map (·.2)) env).map fun v => (do let x ← v; standAt pos; pure x)) = (kvs.map fun e => (eval e.1 env, eval e.2 env >>= fun x => standAt pos >>= fun _ => pure x)).map fun p => (some p.1, p.2) := by
    clear h0 hl h
    induction kvs with
    | nil => rfl
    | cons e r ih =>
      rw [List.map_cons, List.map_cons, arm_evalEachOpt_cons, arm_evalEach_cons, List.map_cons, List.zip_cons_cons, ih]
      rfl
  rw [arm_eval_Dict, shape, dictDisplay_pairs _ (by simpa using h0) (by simp; omega)]
  intro ns
  refine wpAny_bind (wpAny_standAt (wpAny_bind ?_))
  unfold subDict
  refine wpAny_bind (wpAny_alloc (wpAny_bind (wpAny_holding ?_)))
  rw [if_pos (by simpa using hl)]
  let s1 : Shared := { s with heap := s.heap.push { cls := .type "dict", data := .dict #[] } }
  have kp := push_keeps s.heap { cls := .type "dict", data := .dict #[] }
  have T1 : Step [] fs ρ ρ s.heap s1.heap := Step.of_keeps kp
  have a1 : At X C lvl A fs env fr ρ σ s1 := a.next (a.I.keeps kp) T1
  have n1 : evPairs (ev fr) ikvs σ ≠ .stuck := fun q => by simp only [q] at ns; exact ns rfl
  refine wpAny_bind (wpAny_mono (evPairs_ok h a1 n1) (fun us s2 p => ?_) fun e s2 p => ?_)
  · obtain ⟨ps, σ2, ρ2, q1, q2, q3, q4, q5⟩ := p
    simp only [q1, R.bind_ok] at ns ⊢
    cases hd : dictAll [] ps with
    | none => rw [hd] at ns; exact absurd rfl ns
    | some es =>
      have hd1 : s1.heap.get? s.heap.objs.size = some { cls := .type "dict", data := .dict #[] } := Heap.get?_push_size _ rfl
      have no : s.heap.objs.size ∉ owned ρ2 := q5.offNew hd1 a.I.size_off
      obtain ⟨_, sl, hd2⟩ := q5.keep _ _ hd1 a.I.size_off (by simp)
      have hd3 : s2.heap.get? s.heap.objs.size = some { cls := .type "dict", data := .dict #[] } := (q5.keep _ _ hd1 a.I.size_off (by simp)).1 fun hm => by
        obtain ⟨l, e1, e2, e3⟩ := a.ar.fr
        subst e2
        obtain ⟨_, o, ho, _⟩ := e3.mem hm
        rw [get?_size] at ho; cases ho
      have D0 : DRep X s2.heap ρ2 [] s.heap.objs.size := ⟨a.I.size_ne, [], ⟨_, #[], 0, hd3, ⟨rfl, rfl, rfl⟩, rfl, fun _ he => by simp at he, .nil, List.nodup_nil⟩, .nil⟩
      have hlen : ps.length ≤ 15 := by rw [evPairs_len q1, ← h.length]; exact hl
      refine wpAny_holding (wpAny_bind (storeAll_ok q4 D0 hd (by simpa using Nat.le_trans hlen (by decide)) fun h' j D' hs => wpAny_pure (wpAny_pure (wpAny_pure ?_))))
      have ND := drep_notTuple D'
      have N2 := drep_notTuple D0
      have T3 : Step [s.heap.objs.size] fs ρ2 ρ2 s2.heap h' := Step.turn (.inr (by simp)) hs ND.1
      have T4 : Step [] fs ρ ρ2 s.heap h' := Step.loc kp ((q5.mono (W' := [s.heap.objs.size]) (by simp) (by simp; exact ⟨_, hd1⟩)).trans T3) fun w hw => by simp at hw; subst hw; exact get?_size _
      refine ⟨.loc σ2.length, σ2 ++ [.dict es], ρ2 ++ [(s.heap.objs.size, none)], rfl, ?_, ?_, ?_, T4.adopt (get?_size _)⟩
      · obtain ⟨hh, tt, rfl⟩ := q2
        exact ⟨h', j, rfl⟩
      · refine q3.adopt ⟨_, hd3⟩ no (base_none a.I.base (get?_size _)) N2.2 ND.2 hs ND.1 (.dict ?_)
        have NO : ∀ a, a ∈ owned [(s.heap.objs.size, (none : Option Addr))] → ∀ items, ¬ h'.IsTuple a items := fun a q items => by simp [owned, ownedOf] at q; subst q; exact ND.2 items
        obtain ⟨ns, kvs, d, r⟩ := D'
        exact ⟨ns, kvs, d, r.more NO⟩
      · have : (ρ2 ++ [(s.heap.objs.size, (none : Option Addr))])[σ2.length]? = some (s.heap.objs.size, none) := by rw [← q3.len]; simp
        exact .loc this
  · obtain ⟨c, σ2, ρ2, h₁, x2, w1, w2, w3, w4, w5, w6⟩ := p
    have E1 : Ext s s1 := ⟨_, s.toks, rfl⟩
    exact ⟨c, σ2, ρ2, h₁, x2, by simp only [w1]; rfl, w2, E1.trans w3, w4, T1.trans w5, w6⟩
end
end Mine
end

section
set_option autoImplicit false
set_option linter.unusedVariables false
set_option maxRecDepth 100000
namespace Mine
open PySem PySem.W PyProof.Rows PySem.SeqAt

noncomputable def Src.at (src : Src) (i : Nat) (σ : St) : Option (Option PV) := match src with
  | .imm xs => some xs[i]?
  | .lst l => match σ[l]? with
    | some (.list xs) => some xs[i]?
    | _ => none
  | .zip xs k => match σ[k]? with
    | some .junk => some xs[i]?
    | _ => none

/-- an iterator that stands at a place of its source -/
structure Wk (X : Cx) (A : Around) (src : Src) (it : Value) (own : List Addr) (ok : Expr → Bool) (J : Nat → Heap → Rho → Prop) : Prop where
  next : ∀ {i ρ σ s v}, J i s.heap ρ → Rp X ρ σ s.heap → src.at i σ = some (some v) → ∀ tgt (Q : Value → Shared → Prop) E, ok tgt = true →
    (∀ u h' k, Rp X ρ σ h' → J (i + 1) h' ρ → (∀ fs, Step own fs ρ ρ s.heap h') → VRep h' ρ v u → Q u { s with heap := h', toks := k }) →
    wpAny (model X.prog X.w) A (pyNext it) (fun r s1 => match r with
      | some u => wpAny (model X.prog X.w) A (letOwnedTupleGo tgt it u) (fun _ s2 => Q u s2) E s1
      | none => False) E s
  fin : ∀ {i ρ σ s}, J i s.heap ρ → Rp X ρ σ s.heap → src.at i σ = some none → ∀ (Q : Option Value → Shared → Prop) E, (∀ h' k, Rp X ρ σ h' → (∀ fs, Step own fs ρ ρ s.heap h') → Q none { s with heap := h', toks := k }) → wpAny (model X.prog X.w) A (pyNext it) Q E s
  self : ∀ {i ρ s}, J i s.heap ρ → ∀ (Q : Value → Shared → Prop) E, Q it s → wpAny (model X.prog X.w) A (pyIter it) Q E s
  step : ∀ {i ρ ρ' h h' W fs}, J i h ρ → Step W fs ρ ρ' h h' → NoSeq W h → (∀ a, a ∈ own → a ∉ W ∧ a ∉ fs) → J i h' ρ'
  off : ∀ {i h ρ}, J i h ρ → ∀ a, a ∈ own → a ∉ owned ρ ∧ (∃ o, h.get? a = some o) ∧ ∀ items, ¬ h.IsTuple a items

section
variable {X : Cx} {A : Around} {fs : List Addr} {ρ ρ' : Rho} {σ σ' : St} {s s' : Shared}

noncomputable def Free (X : Cx) (ρ : Rho) (I : Addr) : Prop := I ∉ owned ρ ∧ X.base.get? I = none
theorem Rp.extBut {h h' : Heap} {I : Addr} (R : Rp X ρ σ h) (fr : Free X ρ I) (nt : ∀ items, ¬ h.IsTuple I items) (hs : Heap.ExtBut I h h') : Rp X ρ σ h' := by
  refine ⟨fun b o e => ?_, R.len, R.nodup, R.off, R.fz, fun i q o hi ho => ?_⟩
  · have : b ≠ I := fun z => by subst z; rw [fr.2] at e; cases e
    exact hs b o this (R.base b o e)
  · exact (R.objs i q o hi ho).step (W := [I]) (fs := []) (Step.extBut (by simp) hs) (fun a q items => by simp at q; subst q; exact nt items) fun x hx ob e => hs x ob (fun z => by subst z; exact fr.1 (List.mem_flatMap.mpr ⟨q, List.mem_of_getElem? hi, hx⟩)) e
noncomputable def zipNames : List String := ["enumerate", "zip", "dict_itemiterator", "dict_reverseitemiterator", "odict_iterator", "itertools.zip_longest", "itertools.pairwise"]
theorem letOwned_other {tgt : Expr} {r : Addr} {v : Value} {o : Obj} {n : String} {Q : Unit → Shared → Prop} {E : Value → Shared → Prop} (ho : s.heap.get? r = some o) (hc : o.cls = .type n) (hn : zipNames.contains n = false) (h : Q () s) :
    wpAny (model X.prog X.w) A (letOwnedTupleGo tgt (.ref r) v) Q E s := by
  have body : wpAny (model X.prog X.w) A (do
      let (.ref r, .ref a) := (Value.ref r, v) | return
      let o ← load r
      match o.cls, o.data with
      | .type n, .fields vs =>
        if ["enumerate", "zip", "dict_itemiterator", "dict_reverseitemiterator", "odict_iterator", "itertools.zip_longest", "itertools.pairwise"].contains n && vs[0]? == some (rawInt a) then
          rule "for.unpacks-the-owned-tuple"
          updateField r 0 .none
      | _, _ => pure () : Sem Unit) Q E s := by
    cases v with
    | ref a =>
      refine wpAny_bind (wpAny_load ho ?_)
      obtain ⟨oc, od, oda, osl⟩ := o
      simp only at hc
      subst hc
      cases oda with
      | fields vs =>
        unfold zipNames at hn
        simp only [hn, Bool.false_and, Bool.false_eq_true, if_false]
        exact wpAny_pure h
      | _ => exact wpAny_pure h
    | _ => exact wpAny_pure h
  unfold letOwnedTupleGo
  cases tgt <;> first | exact wpAny_pure h | exact body

noncomputable def okAll : Expr → Bool := fun _ => true

theorem step_same {own : List Addr} {I : Addr} {h h' : Heap} (hI : I ∈ own) (hs : Heap.SameBut I h h') (ht : ∃ o, h'.get? I = some o) : ∀ fs, Step own fs ρ ρ h h' := fun fs => Step.turn (.inr hI) hs ht

theorem iter_nt {h : Heap} {I : Addr} {T : String} {d : Data} (j : ∃ o, h.get? I = some o ∧ o.cls = .type T ∧ o.data = d) (hT : T ≠ "tuple" := by decide) : ∀ items, ¬ h.IsTuple I items := by
  obtain ⟨o, e1, e2, _⟩ := j
  exact notTuple_of_cls e1 (by rw [e2]; simpa using hT)
theorem nt_of {h : Heap} {I : Addr} {T : String} {d : Data} (j : ∃ o, h.get? I = some o ∧ o.cls = .type T ∧ o.data = d) (hT : T ≠ "tuple" := by decide) : NoSeq [I] h := fun a q items => by rw [List.mem_singleton.mp q]; exact iter_nt j hT items
theorem it_keep {own W fs : List Addr} {I : Addr} {h h' : Heap} {T : String} {d : Data} (j : ∃ o, h.get? I = some o ∧ o.cls = .type T ∧ o.data = d) (f : Free X ρ I) (S : Step W fs ρ ρ' h h') (hW : ∀ a, a ∈ [I] → a ∉ W ∧ a ∉ fs) : (∃ o, h'.get? I = some o ∧ o.cls = .type T ∧ o.data = d) ∧ Free X ρ' I := by
  obtain ⟨o, e1, e2, e3⟩ := j
  have w := hW I List.mem_cons_self
  exact ⟨⟨o, (S.keep I o e1 f.1 w.1).1 w.2, e2, e3⟩, S.offNew e1 f.1, f.2⟩
theorem it_off {I : Addr} {h : Heap} {T : String} {d : Data} (j : ∃ o, h.get? I = some o ∧ o.cls = .type T ∧ o.data = d) (f : Free X ρ I) (hT : T ≠ "tuple" := by decide) : ∀ a, a ∈ [I] → a ∉ owned ρ ∧ (∃ o, h.get? a = some o) ∧ ∀ items, ¬ h.IsTuple a items := fun a ha => by
  rw [List.mem_singleton.mp ha]
  exact ⟨f.1, (let ⟨o, e, _⟩ := j; ⟨o, e⟩), iter_nt j hT⟩
theorem it_ext {I : Addr} {h h' : Heap} (hs : Heap.ExtBut I h h') : ∀ fs, Step [I] fs ρ ρ h h' := fun fs => Step.extBut List.mem_cons_self hs
theorem at_lst {l i : Nat} {r : Option PV} (h : Src.at (.lst l) i σ = some r) : ∃ xs, σ[l]? = some (.list xs) ∧ xs[i]? = r := by
  have h : (match σ[l]? with
    | some (.list xs) => some xs[i]?
    | _ => none) = some r := h
  cases ho : σ[l]? with
  | none => rw [ho] at h; cases h
  | some o =>
    rw [ho] at h
    cases o with
    | list xs => cases h; exact ⟨xs, rfl, rfl⟩
    | _ => cases h
theorem wk_tuple (hh : A.handled = none) {xs : List PV} {t I : Addr} {items : Array Value} : Wk X A (.imm xs) (.ref I) [I] okAll (fun i h ρ => h.IsTupleIter I t i ∧ h.IsTuple t items ∧ t ∉ owned ρ ∧ VReps h ρ xs items.toList ∧ Free X ρ I) where
  next := by
    intro i ρ σ s v ⟨j1, j2, j3, j4, j5⟩ Ir hv tgt Q E _ k
    have hne : t ≠ I := fun e => iter_nt j1 (by decide) items (by rw [← e]; exact j2)
    obtain ⟨u, hu, ru⟩ := j4.get (Option.some.inj hv)
    rw [Array.getElem?_toList] at hu
    refine wpAny_pyNext_tuple_item j1 j2 hu fun h' it' hs => ?_
    have N := nt_of j1
    have St := fun fs => step_same (ρ := ρ) (own := [I]) List.mem_cons_self hs (let ⟨o, e, _⟩ := it'; ⟨o, e⟩) fs
    obtain ⟨o, e1, e2, e3⟩ := id it'
    exact letOwned_other (s := { s with heap := h' }) e1 e2 (by decide) (k u h' s.toks (Ir.extBut j5 (iter_nt j1) hs.extBut) ⟨it', (let ⟨o', f1, f2⟩ := j2; ⟨o', (hs.2 _ hne).trans f1, f2⟩), j3, j4.step (St []) N, j5⟩ St (ru.step (St []) N))
  fin := by
    intro i ρ σ s ⟨j1, j2, j3, j4, j5⟩ Ir hv Q E k
    have e : items[i]? = none := by
      have h1 : xs.length = items.size := j4.length
      have h2 := List.getElem?_eq_none_iff.mp (Option.some.inj hv)
      exact Array.getElem?_eq_none (by omega)
    exact wpAny_pyNext_tuple_end hh j1 j2 e fun h' hs => k h' s.toks (Ir.extBut j5 (iter_nt j1) hs) (it_ext hs)
  self := fun j Q E k => wpAny_pyIter_tupleiter j.1 k
  step := by
    intro i ρ ρ' h h' W fs ⟨j1, j2, j3, j4, j5⟩ T N hW
    have kp := it_keep (own := []) j1 j5 T hW
    exact ⟨kp.1, isTuple_step T j3 (noSeq_tuple N j2) j2, (let ⟨o, e, _⟩ := j2; T.offNew e j3), j4.step T N, kp.2⟩
  off := fun j => it_off j.1 j.2.2.2.2

theorem wk_list (hh : A.handled = none) {l : Nat} {p : Addr × Option Addr} {I : Addr} : Wk X A (.lst l) (.ref I) [I] okAll (fun i h ρ => h.IsListIter I p.1 i ∧ ρ[l]? = some p ∧ Free X ρ I) where
  next := by
    intro i ρ σ s v ⟨j1, j2, j5⟩ Ir hv tgt Q E _ k
    obtain ⟨xs, hx, hv⟩ := at_lst hv
    obtain ⟨items, pl, rr⟩ := lst_of' Ir j2 hx
    obtain ⟨u, hu, ru⟩ := rr.get hv
    rw [Array.getElem?_toList] at hu
    refine wpAny_pyNext_list_item j1 (isList_of_plain pl) hu fun h' it' hs => ?_
    have St := fun fs => step_same (ρ := ρ) (own := [I]) List.mem_cons_self hs (let ⟨o, e, _⟩ := it'; ⟨o, e⟩) fs
    obtain ⟨o, e1, e2, e3⟩ := id it'
    exact letOwned_other (s := { s with heap := h' }) e1 e2 (by decide) (k u h' s.toks (Ir.extBut j5 (iter_nt j1) hs.extBut) ⟨it', j2, j5⟩ St (ru.step (St []) (nt_of j1)))
  fin := by
    intro i ρ σ s ⟨j1, j2, j5⟩ Ir hv Q E k
    obtain ⟨xs, hx, hv⟩ := at_lst hv
    obtain ⟨items, pl, rr⟩ := lst_of' Ir j2 hx
    have e : items[i]? = none := by
      have h1 : xs.length = items.size := rr.length
      have h2 := List.getElem?_eq_none_iff.mp hv
      exact Array.getElem?_eq_none (by omega)
    exact wpAny_pyNext_list_end hh j1 (isList_of_plain pl) e fun h' hs => k h' s.toks (Ir.extBut j5 (iter_nt j1) hs) (it_ext hs)
  self := fun j Q E k => wpAny_pyIter_listiter j.1 k
  step := by
    intro i ρ ρ' h h' W fs ⟨j1, j2, j5⟩ T N hW
    have kp := it_keep (own := []) j1 j5 T hW
    exact ⟨kp.1, loc_step T j2, kp.2⟩
  off := fun j => it_off j.1 j.2.2

theorem signs_get {x : Str} {i : Nat} {v : PV} (h : (signs x)[i]? = some v) : ∃ c, x.cps[i]? = some c ∧ v = .str ⟨#[c]⟩ := by
  unfold signs at h
  rw [List.getElem?_map, Option.map_eq_some_iff] at h
  obtain ⟨c, e, rfl⟩ := h
  exact ⟨c, by rw [Array.getElem?_toList] at e; exact e, rfl⟩
theorem signs_none {x : Str} {i : Nat} (h : (signs x)[i]? = none) : x.cps[i]? = none := by
  unfold signs at h
  rw [List.getElem?_eq_none_iff, List.length_map, Array.length_toList] at h
  exact Array.getElem?_eq_none h

theorem wk_str (hh : A.handled = none) {x : Str} {t : Tok} {I : Addr} : Wk X A (.imm (signs x)) (.ref I) [I] okAll (fun i h ρ => h.IsStrIter I "str_ascii_iterator" x t i ∧ Free X ρ I) where
  next := by
    intro i ρ σ s v ⟨j1, j5⟩ Ir hv tgt Q E _ k
    obtain ⟨c, hc, rfl⟩ := signs_get (Option.some.inj hv)
    refine wpAny_pyNext_ascii_item j1 hc fun h' it' hs => ?_
    have St := fun fs => step_same (ρ := ρ) (own := [I]) List.mem_cons_self hs (let ⟨o, e, _⟩ := it'; ⟨o, e⟩) fs
    obtain ⟨o, e1, e2, e3⟩ := id it'
    exact letOwned_other (s := { s with heap := h', toks := s.toks + 1 }) e1 e2 (by decide) (k _ h' _ (Ir.extBut j5 (iter_nt j1) hs.extBut) ⟨it', j5⟩ St (.str _ _))
  fin := by
    intro i ρ σ s ⟨j1, j5⟩ Ir hv Q E k
    exact wpAny_pyNext_ascii_end hh j1 (signs_none (Option.some.inj hv)) fun h' hs => k h' s.toks (Ir.extBut j5 (iter_nt j1) hs) (it_ext hs)
  self := fun j Q E k => wpAny_pyIter_striter_ascii j.1 k
  step := by
    intro i ρ ρ' h h' W fs ⟨j1, j5⟩ T N hW
    exact it_keep (own := []) j1 j5 T hW
  off := fun j => it_off j.1 j.2

/-- an iterator over a source, told with what it may write -/
noncomputable def ItRel (X : Cx) (A : Around) (ok : Expr → Bool) (h0 : Heap) : Heap → Rho → Src → Value → Prop := fun h ρ src it => ∃ own J, Wk X A src it own ok J ∧ J 0 h ρ ∧ ∀ a, a ∈ own → h0.get? a = none

theorem pyIter_ok (hh : A.handled = none) {v : PV} {u : Value} (I : Rp X ρ σ s.heap) (r : VRep s.heap ρ v u) : Ok X A [] fs ρ s (ItRel X A okAll s.heap) (pyIter u) (src0 v σ) := by
  have fresh : ∀ a, a ∈ [s.heap.objs.size] → s.heap.get? a = none := fun a q => by rw [List.mem_singleton.mp q]; exact get?_size _
  have fr : Free X ρ s.heap.objs.size := ⟨I.size_off, base_none I.base (get?_size _)⟩
  cases r with
  | tup ht no rr =>
    rename_i t items xs
    refine Ok.to fun Q E k => wpAny_pyIter_tuple ht ?_
    have kp := push_keeps s.heap { cls := .type "tuple_iterator", data := .fields #[.ref t, .int 0 0] }
    have S' : Step (W := []) (fs := fs) ρ ρ s.heap _ := Step.of_keeps kp
    exact k _ ρ { s with heap := s.heap.push { cls := .type "tuple_iterator", data := .fields #[.ref t, .int 0 0] } } ⟨_, _, rfl⟩ (I.keeps kp) ⟨[s.heap.objs.size], _, wk_tuple hh, ⟨⟨_, Heap.get?_push_size _ rfl, rfl, rfl⟩, isTuple_step S' no List.not_mem_nil ht, no, rr.step S' noSeq_nil, fr⟩, fresh⟩ S'
  | loc hp =>
    rename_i l p
    refine .guard fun hl => ?_
    obtain ⟨xs, hx⟩ := isLs_ex hl
    obtain ⟨items, pl, rr⟩ := lst_of' I hp hx
    refine Ok.to fun Q E k => wpAny_pyIter_list (isList_of_plain pl) ?_
    have kp := push_keeps s.heap { cls := .type "list_iterator", data := .fields #[.ref p.1, .int 0 0] }
    have S' : Step (W := []) (fs := fs) ρ ρ s.heap _ := Step.of_keeps kp
    exact k _ ρ { s with heap := s.heap.push { cls := .type "list_iterator", data := .fields #[.ref p.1, .int 0 0] } } ⟨_, _, rfl⟩ (I.keeps kp) ⟨[s.heap.objs.size], _, wk_list (l := l) (p := p) hh, ⟨⟨_, Heap.get?_push_size _ rfl, rfl, rfl⟩, hp, fr⟩, fresh⟩ S'
  | str x t =>
    refine .guard fun ha => Ok.to fun Q E k => wpAny_pyIter_ascii ha ?_
    have kp := push_keeps s.heap { cls := .type "str_ascii_iterator", data := .fields #[.str x t, .int 0 0] }
    exact k _ ρ { s with heap := s.heap.push { cls := .type "str_ascii_iterator", data := .fields #[.str x t, .int 0 0] } } ⟨_, _, rfl⟩ (I.keeps kp) ⟨[s.heap.objs.size], _, wk_str (x := x) (t := t) hh, ⟨⟨_, Heap.get?_push_size _ rfl, rfl, rfl⟩, fr⟩, fresh⟩ (Step.of_keeps kp)
  | _ => exact .stuck
end
end Mine
end

section
set_option autoImplicit false
set_option linter.unusedVariables false
set_option maxRecDepth 100000
namespace Mine
open PySem PySem.W PyProof.Rows PySem.SeqAt

section
variable {X : Cx} {A : Around} {fs : List Addr} {ρ ρ' : Rho} {σ σ' : St} {s s' : Shared} {E : Value → Shared → Prop}

theorem nextOf_tup_item {it t : Addr} {i : Nat} {items : Array Value} {x : Value} {Q : Value → Shared → Prop} (hit : s.heap.IsTupleIter it t i) (ht : s.heap.IsTuple t items) (hx : items[i]? = some x)
    (hQ : ∀ h', h'.IsTupleIter it t (i + 1) → Heap.SameBut it s.heap h' → Q x { s with heap := h' }) : wpAny (model X.prog X.w) A (Builtin.SmallTypes.nextOf (.ref it)) Q E s := by
  obtain ⟨o, ho, hc, hd⟩ := id hit
  obtain ⟨ol, hol, _, nl, hdl⟩ := ht
  unfold Builtin.SmallTypes.nextOf
  refine wpAny_bind (wpAny_callSpecial?_slot (name := Str.ofString "__next__") hit.typeIs F.slot_tuple_iterator_next
    (wpAny_call_entry F.slot_tuple_iterator_next hit.typeIs F.entry_tuple_iterator_next ?_ (F.args_tuple_iterator_next_1 _)))
  show wpAny _ _ (field (.ref it) 0 >>= _) _ _ s
  refine wpAny_bind (wpAny_field ho hd (x := .ref t) rfl ?_)
  show wpAny _ _ (if (Value.ref t == Value.none) = true then _ else _) _ _ s
  rw [if_neg (show ¬ ((Value.ref t == Value.none) = true) from Bool.false_ne_true)]
  show wpAny _ _ (field (.ref it) 1 >>= _) _ _ s
  refine wpAny_bind (wpAny_field ho hd (x := .int i 0) rfl ?_)
  show wpAny _ _ (seqItems? (.ref t) >>= _) _ _ s
  refine wpAny_bind (wpAny_seqItems hol hdl ?_)
  simp only [Int.toNat_natCast, hx]
  refine wpAny_bind (wpAny_setField ho hd (by simp) (wpAny_pure ⟨x, rfl, wpAny_pure (hQ _ ?_ (Heap.SameBut.update ..))⟩))
  exact ⟨_, Heap.get?_update_self _ ho (Obj.isFreed_of_fields (Obj.data_mapFields hd _)), (Obj.cls_mapFields ..).trans hc, by
    rw [Obj.data_mapFields hd]; simp [rawInt]⟩
theorem nextOf_tup_end {it t : Addr} {i : Nat} {items : Array Value} {Q : Value → Shared → Prop} (hh : A.handled = none) (hit : s.heap.IsTupleIter it t i) (ht : s.heap.IsTuple t items) (hx : items[i]? = none)
    (hE : ∀ h' e, Heap.ExtBut it s.heap h' → (∃ o, h'.get? e = some o ∧ o.cls = .type "StopIteration") → E (.ref e) { s with heap := h' }) : wpAny (model X.prog X.w) A (Builtin.SmallTypes.nextOf (.ref it)) Q E s := by
  obtain ⟨o, ho, hc, hd⟩ := id hit
  obtain ⟨ol, hol, _, nl, hdl⟩ := ht
  unfold Builtin.SmallTypes.nextOf
  refine wpAny_bind (wpAny_callSpecial?_slot (name := Str.ofString "__next__") hit.typeIs F.slot_tuple_iterator_next
    (wpAny_call_entry F.slot_tuple_iterator_next hit.typeIs F.entry_tuple_iterator_next ?_ (F.args_tuple_iterator_next_1 _)))
  show wpAny _ _ (field (.ref it) 0 >>= _) _ _ s
  refine wpAny_bind (wpAny_field ho hd (x := .ref t) rfl ?_)
  show wpAny _ _ (if (Value.ref t == Value.none) = true then _ else _) _ _ s
  rw [if_neg (show ¬ ((Value.ref t == Value.none) = true) from Bool.false_ne_true)]
  show wpAny _ _ (field (.ref it) 1 >>= _) _ _ s
  refine wpAny_bind (wpAny_field ho hd (x := .int i 0) rfl ?_)
  show wpAny _ _ (seqItems? (.ref t) >>= _) _ _ s
  refine wpAny_bind (wpAny_seqItems hol hdl ?_)
  simp only [Int.toNat_natCast, hx]
  refine wpAny_bind (wpAny_rule (wpAny_bind (wpAny_setField ho hd (by simp) ?_)))
  show wpAny _ _ (newExc (.type "StopIteration") [] >>= _) _ _ _
  refine wpAny_bind ?_
  simp only [newExc, newTuple]
  refine wpAny_bind (wpAny_newObj_type ?_ (by size_fits))
  refine wpAny_bind (m := firstArgMember _ _) (wpAny_of_eq (a := Value.none) (by first | rfl | (simp only [firstArgMember]; rfl)) ?_)
  refine wpAny_newObj_type ?_ (by size_fits)
  simp only [raiseNew]
  refine wpAny_bind (wpAny_handled ?_)
  first | rw [show A.in1.handled = none from hh] | rw [hh]
  refine wpAny_bind (wpAny_pure (wpAny_throw ?_))
  exact hE _ _ (((Heap.SameBut.update ..).extBut.push _).push _) ⟨_, Heap.get?_push_size _ rfl, rfl⟩

/-- a zip's parts lie apart -/
structure Ap (z TI TO i1 i2 t : Addr) : Prop where
  TIz : TI ≠ z
  TOz : TO ≠ z
  i1z : i1 ≠ z
  i2z : i2 ≠ z
  TITO : TI ≠ TO
  TIi1 : TI ≠ i1
  TIi2 : TI ≠ i2
  TOi1 : TO ≠ i1
  TOi2 : TO ≠ i2
  i12 : i1 ≠ i2
  tz : t ≠ z
  tTO : t ≠ TO
  ti1 : t ≠ i1
  ti2 : t ≠ i2

abbrev AscIter (h : Heap) (i : Addr) (y : Str) (u : Tok) (k : Nat) : Prop := h.IsStrIter i "str_ascii_iterator" y u k
theorem asc_ext {h h' : Heap} {i b : Addr} {y : Str} {u : Tok} {k : Nat} (x : AscIter h i y u k) (hs : Heap.ExtBut b h h') (n : i ≠ b) : AscIter h' i y u k := x.extBut hs n

theorem zip_item {z TI TO i1 i2 t : Addr} {k1 k2 : Nat} {xs : Array Value} {ys : Str} {ut : Tok} {x a b : Value} {c : Nat} {Q : Value → Shared → Prop} (D : Ap z TI TO i1 i2 t)
    (hz : IsZip s.heap z TI TO .none) (hTI : s.heap.IsTuple TI #[.ref i1, .ref i2]) (hTO : IsPair s.heap TO a b)
    (h1 : s.heap.IsTupleIter i1 t k1) (h2 : AscIter s.heap i2 ys ut k2) (hl1 : s.heap.IsTuple t xs) (hx : xs[k1]? = some x) (hy : ys.cps[k2]? = some c)
    (hQ : ∀ h' j y, (∃ u, y = Value.str ⟨#[c]⟩ u) → IsZip h' z TI TO (rawInt s.heap.objs.size) → IsPair h' TO x y → h'.IsTupleIter i1 t (k1 + 1) → AscIter h' i2 ys ut (k2 + 1) → IsPair h' s.heap.objs.size x y →
      (∀ c o, c ≠ z → c ≠ TO → c ≠ i1 → c ≠ i2 → s.heap.get? c = some o → h'.get? c = some o) → Q (.ref s.heap.objs.size) { s with heap := h', toks := j }) :
    wpAny (model X.prog X.w) A (Builtin.«zip.__next__» ⟨[.ref z], []⟩) (fun fin s' => ∃ v, fin = .done (.ret v) ∧ Q v s') E s := by
  obtain ⟨oTI, hoTI, _, nTI, hdTI⟩ := id hTI
  show wpAny _ _ (field (.ref z) 2 >>= _) _ _ _
  refine wpAny_bind (wpAny_field hz rfl (x := .bool false) rfl ?_)
  show wpAny _ _ (field (.ref z) 3 >>= _) _ _ _
  refine wpAny_bind (wpAny_field hz rfl (x := .ref TI) rfl ?_)
  refine wpAny_bind (wpAny_seqItems hoTI hdTI ?_)
  show wpAny _ _ (Builtin.SmallTypes.ownedTupleIsFree (.ref z) >>= _) _ _ _
  refine wpAny_bind ?_
  unfold Builtin.SmallTypes.ownedTupleIsFree
  refine wpAny_bind (wpAny_field hz rfl (x := .none) rfl (wpAny_pure ?_))
  simp only [if_true]
  refine wpAny_bind (wpAny_rule ?_)
  refine wpAny_bind (wpAny_field hz rfl (x := .ref TO) rfl ?_)
  refine wpAny_bind (wpAny_setField_rec hz (by simp) fun h₁ hz₁ hs₁ => ?_)
  replace hz₁ : IsZip h₁ z TI TO .ellipsis := hz₁
  refine wpAny_bind ?_
  simp only [List.zipIdx_cons, List.zipIdx_nil, List.forIn_cons, List.forIn_nil]
  refine wpAny_bind (wpAny_bind (wpAny_onRaise ?_))
  show wpAny _ _ (Builtin.SmallTypes.nextOf (.ref i1) >>= _) _ _ _
  refine wpAny_bind (nextOf_tup_item (h1.extBut hs₁.extBut D.i1z) (hl1.extBut hs₁.extBut D.tz) hx fun h₂ h1₂ hs₂ => wpAny_pure ?_)
  have hTO₂ : IsPair h₂ TO a b := hs₂.extBut _ _ D.TOi1 (hs₁.extBut _ _ D.TOz hTO)
  refine wpAny_bind (wpAny_seqItems hTO₂ rfl ?_)
  refine wpAny_bind (wpAny_updateSeq_pair hTO₂ fun h₃ hTO₃ hs₃ => ?_)
  replace hTO₃ : IsPair h₃ TO x b := hTO₃
  refine wpAny_bind (wpAny_letGo (wpAny_pure ?_))
  refine wpAny_bind (wpAny_bind (wpAny_onRaise ?_))
  show wpAny _ _ (Builtin.SmallTypes.nextOf (.ref i2) >>= _) _ _ _
  refine wpAny_bind (wpAny_nextOf_ascii_item (asc_ext (asc_ext (asc_ext h2 hs₁.extBut D.i2z) hs₂.extBut D.i12.symm) hs₃.extBut D.TOi2.symm) hy fun h₄ h2₄ hs₄ => wpAny_pure ?_)
  have hTO₄ : IsPair h₄ TO x b := hs₄.extBut _ _ D.TOi2 hTO₃
  refine wpAny_bind (wpAny_seqItems hTO₄ rfl ?_)
  refine wpAny_bind (wpAny_updateSeq_pair hTO₄ fun h₅ hTO₅ hs₅ => ?_)
  replace hTO₅ : IsPair h₅ TO x (Value.str ⟨#[c]⟩ s.toks) := hTO₅
  refine wpAny_bind (wpAny_letGo (wpAny_pure (wpAny_pure ?_)))
  refine wpAny_bind (wpAny_seqItems hTO₅ rfl ?_)
  refine wpAny_bind (wpAny_newTuple ?_)
  have hsz : h₅.objs.size = s.heap.objs.size := by rw [hs₅.1, hs₄.1, hs₃.1, hs₂.1, hs₁.1]
  have hz₅ : IsZip h₅ z TI TO .ellipsis := hs₅.extBut _ _ D.TOz.symm (hs₄.extBut _ _ D.i2z.symm (hs₃.extBut _ _ D.TOz.symm (hs₂.extBut _ _ D.i1z.symm hz₁)))
  have hk₅ : ∀ c o, c ≠ z → c ≠ TO → c ≠ i1 → c ≠ i2 → s.heap.get? c = some o → h₅.get? c = some o := fun c o c1 c2 c3 c4 e =>
    hs₅.extBut _ _ c2 (hs₄.extBut _ _ c4 (hs₃.extBut _ _ c2 (hs₂.extBut _ _ c3 (hs₁.extBut _ _ c1 e))))
  have h1₅ : h₅.IsTupleIter i1 t (k1 + 1) := ((h1₂.extBut hs₃.extBut D.TOi1.symm).extBut hs₄.extBut D.i12).extBut hs₅.extBut D.TOi1.symm
  have h2₅ : AscIter h₅ i2 ys ut (k2 + 1) := asc_ext h2₄ hs₅.extBut D.TOi2.symm
  have hzlt : z < h₅.objs.size := Heap.lt_size hz₅
  show wpAny _ _ (Builtin.SmallTypes.ownedTupleHandOut (.ref z) (.ref h₅.objs.size) >>= _) _ _ _
  refine wpAny_bind ?_
  unfold Builtin.SmallTypes.ownedTupleHandOut
  have hz₆ : IsZip (h₅.push { cls := .type "tuple", data := .seq #[x, Value.str ⟨#[c]⟩ s.toks] }) z TI TO .ellipsis := Heap.get?_push_of_some _ hz₅
  refine wpAny_bind (wpAny_setField_rec hz₆ (by simp) fun h₇ hz₇ hs₇ => ?_)
  replace hz₇ : IsZip h₇ z TI TO (rawInt h₅.objs.size) := hz₇
  refine wpAny_setField_rec hz₇ (by simp) fun h₈ hz₈ hs₈ => ?_
  replace hz₈ : IsZip h₈ z TI TO (rawInt h₅.objs.size) := hz₈
  have up : ∀ c o, c ≠ z → h₅.get? c = some o → h₈.get? c = some o := fun c o c1 e => hs₈.extBut _ _ c1 (hs₇.extBut _ _ c1 (Heap.get?_push_of_some _ e))
  have hT₈ : IsPair h₈ h₅.objs.size x (Value.str ⟨#[c]⟩ s.toks) := hs₈.extBut _ _ (Nat.ne_of_gt hzlt) (hs₇.extBut _ _ (Nat.ne_of_gt hzlt) (Heap.get?_push_size _ rfl))
  rw [hsz] at hz₈ hT₈
  refine wpAny_pure ⟨_, rfl, ?_⟩
  show Q (.ref h₅.objs.size) _
  rw [hsz]
  refine hQ h₈ _ _ ⟨_, rfl⟩ hz₈ (up _ _ D.TOz hTO₅) ?_ ?_ hT₈ fun c o c1 c2 c3 c4 e => up c o c1 (hk₅ c o c1 c2 c3 c4 e)
  · obtain ⟨o, e, r⟩ := h1₅; exact ⟨o, up _ o D.i1z e, r⟩
  · obtain ⟨o, e, r⟩ := h2₅; exact ⟨o, up _ o D.i2z e, r⟩

theorem zip_end {z TI TO i1 i2 t : Addr} {k1 k2 : Nat} {xs : Array Value} {ys : Str} {ut : Tok} {a b : Value} {Q : Fin → Shared → Prop} (hh : A.handled = none) (D : Ap z TI TO i1 i2 t)
    (hz : IsZip s.heap z TI TO .none) (hTI : s.heap.IsTuple TI #[.ref i1, .ref i2]) (hTO : IsPair s.heap TO a b)
    (h1 : s.heap.IsTupleIter i1 t k1) (h2 : AscIter s.heap i2 ys ut k2) (hl1 : s.heap.IsTuple t xs) (hend : xs[k1]? = none ∨ ys.cps[k2]? = none)
    (hE : ∀ h' e j, (∀ c o, c ≠ z → c ≠ TO → c ≠ i1 → c ≠ i2 → s.heap.get? c = some o → h'.get? c = some o) → (∃ a b, IsPair h' TO a b) → (∃ o, h'.get? e = some o ∧ o.cls = .type "StopIteration") → E (.ref e) { s with heap := h', toks := j }) :
    wpAny (model X.prog X.w) A (Builtin.«zip.__next__» ⟨[.ref z], []⟩) Q E s := by
  obtain ⟨oTI, hoTI, _, nTI, hdTI⟩ := id hTI
  show wpAny _ _ (field (.ref z) 2 >>= _) _ _ _
  refine wpAny_bind (wpAny_field hz rfl (x := .bool false) rfl ?_)
  show wpAny _ _ (field (.ref z) 3 >>= _) _ _ _
  refine wpAny_bind (wpAny_field hz rfl (x := .ref TI) rfl ?_)
  refine wpAny_bind (wpAny_seqItems hoTI hdTI ?_)
  show wpAny _ _ (Builtin.SmallTypes.ownedTupleIsFree (.ref z) >>= _) _ _ _
  refine wpAny_bind ?_
  unfold Builtin.SmallTypes.ownedTupleIsFree
  refine wpAny_bind (wpAny_field hz rfl (x := .none) rfl (wpAny_pure ?_))
  simp only [if_true]
  refine wpAny_bind (wpAny_rule ?_)
  refine wpAny_bind (wpAny_field hz rfl (x := .ref TO) rfl ?_)
  refine wpAny_bind (wpAny_setField_rec hz (by simp) fun h₁ hz₁ hs₁ => ?_)
  replace hz₁ : IsZip h₁ z TI TO .ellipsis := hz₁
  refine wpAny_bind ?_
  simp only [List.zipIdx_cons, List.zipIdx_nil, List.forIn_cons, List.forIn_nil]
  refine wpAny_bind (wpAny_bind (wpAny_onRaise ?_))
  show wpAny _ _ (Builtin.SmallTypes.nextOf (.ref i1) >>= _) _ _ _
  cases hx : xs[k1]? with
  | none =>
    refine wpAny_bind (nextOf_tup_end hh (h1.extBut hs₁.extBut D.i1z) (hl1.extBut hs₁.extBut D.tz) hx fun h₂ e hs₂ he => ?_)
    obtain ⟨oe, hoe, hce⟩ := he
    have hz₂ : IsZip h₂ z TI TO .ellipsis := hs₂ _ _ D.i1z.symm hz₁
    have hez : e ≠ z := fun x => by subst x; rw [hz₂] at hoe; cases hoe; simp at hce
    refine wpAny_setField_rec hz₂ (by simp) fun h₃ _ hs₃ => hE h₃ e _ (fun c o c1 _ c3 _ x => hs₃.extBut _ _ c1 (hs₂ _ _ c3 (hs₁.extBut _ _ c1 x))) ⟨a, b, hs₃.extBut _ _ D.TOz (hs₂ _ _ D.TOi1 (hs₁.extBut _ _ D.TOz hTO))⟩ ⟨oe, hs₃.extBut _ _ hez hoe, hce⟩
  | some x =>
    have hy : ys.cps[k2]? = none := by rcases hend with h | h; rw [hx] at h; cases h; exact h
    refine wpAny_bind (nextOf_tup_item (h1.extBut hs₁.extBut D.i1z) (hl1.extBut hs₁.extBut D.tz) hx fun h₂ h1₂ hs₂ => wpAny_pure ?_)
    have hTO₂ : IsPair h₂ TO a b := hs₂.extBut _ _ D.TOi1 (hs₁.extBut _ _ D.TOz hTO)
    refine wpAny_bind (wpAny_seqItems hTO₂ rfl ?_)
    refine wpAny_bind (wpAny_updateSeq_pair hTO₂ fun h₃ hTO₃ hs₃ => ?_)
    replace hTO₃ : IsPair h₃ TO x b := hTO₃
    refine wpAny_bind (wpAny_letGo (wpAny_pure ?_))
    refine wpAny_bind (wpAny_bind (wpAny_onRaise ?_))
    show wpAny _ _ (Builtin.SmallTypes.nextOf (.ref i2) >>= _) _ _ _
    refine wpAny_bind (wpAny_nextOf_ascii_end hh (asc_ext (asc_ext (asc_ext h2 hs₁.extBut D.i2z) hs₂.extBut D.i12.symm) hs₃.extBut D.TOi2.symm) hy fun h₄ e hs₄ he => ?_)
    obtain ⟨oe, hoe, hce⟩ := he
    have hz₄ : IsZip h₄ z TI TO .ellipsis := hs₄ _ _ D.i2z.symm (hs₃.extBut _ _ D.TOz.symm (hs₂.extBut _ _ D.i1z.symm hz₁))
    have hez : e ≠ z := fun x => by subst x; rw [hz₄] at hoe; cases hoe; simp at hce
    refine wpAny_setField_rec hz₄ (by simp) fun h₅ _ hs₅ => hE h₅ e _ (fun c o c1 c2 c3 c4 x => hs₅.extBut _ _ c1 (hs₄ _ _ c4 (hs₃.extBut _ _ c2 (hs₂.extBut _ _ c3 (hs₁.extBut _ _ c1 x))))) ⟨x, b, hs₅.extBut _ _ D.TOz (hs₄ _ _ D.TOi2 hTO₃)⟩ ⟨oe, hs₅.extBut _ _ hez hoe, hce⟩
abbrev zH1 (h : Heap) (t : Addr) : Heap := h.push { cls := .type "tuple_iterator", data := .fields #[.ref t, .int 0 0] }
abbrev zH2 (h : Heap) (t : Addr) (y : Str) (u : Tok) : Heap := (zH1 h t).push { cls := .type "str_ascii_iterator", data := .fields #[.str y u, .int 0 0] }
abbrev zH3 (h : Heap) (t : Addr) (y : Str) (u : Tok) : Heap := (zH2 h t y u).push { cls := .type "tuple", data := .seq #[.ref h.objs.size, .ref (zH1 h t).objs.size] }
abbrev zH4 (h : Heap) (t : Addr) (y : Str) (u : Tok) : Heap := (zH3 h t y u).push { cls := .type "tuple", data := .seq #[.none, .none] }
abbrev zH5 (h : Heap) (t : Addr) (y : Str) (u : Tok) : Heap := (zH4 h t y u).push { cls := .type "zip", data := .fields #[.none, .bool false, .bool false, .ref (zH2 h t y u).objs.size, .ref (zH3 h t y u).objs.size] }

set_option maxHeartbeats 4000000 in
theorem meets_zip' (t : Addr) (items : Array Value) (y : Str) (u : Tok) (ha : y.cps.all (· < 128) = true) :
    Meets (Builtin.«zip.__new__» ⟨[.type "zip", .ref t, .str y u], []⟩) (fun _ R s => s.heap.IsTuple t items ∧
      R (.ok (.ret (.ref (zH4 s.heap t y u).objs.size))) { s with heap := zH5 s.heap t y u }) :=
  .of_wp fun prog w A R s h => by
    obtain ⟨hp, g, d, tk, os⟩ := s; obtain ⟨hl1, h⟩ := h
    have hsub := sub_zip
    have hL1 : Heap.IsTuple (Shared.heap ⟨hp, g, d, tk, os⟩) t items := hl1
    wp_walk using wpAny_pyIter_tuple hL1, wpAny_pyIter_ascii ha
    exact ⟨_, rfl, h⟩

theorem call_zip' {t : Addr} {items : Array Value} {y : Str} {u : Tok} {Q : Value → Shared → Prop} (ht : s.heap.IsTuple t items) (ha : y.cps.all (· < 128) = true)
    (h : ∀ h', IsZip h' (s.heap.objs.size + 4) (s.heap.objs.size + 2) (s.heap.objs.size + 3) .none → IsPair h' (s.heap.objs.size + 2) (.ref s.heap.objs.size) (.ref (s.heap.objs.size + 1)) →
      IsPair h' (s.heap.objs.size + 3) .none .none → h'.IsTupleIter s.heap.objs.size t 0 → AscIter h' (s.heap.objs.size + 1) y u 0 → 
      (∀ c o, s.heap.get? c = some o → h'.get? c = some o) → Q (.ref (s.heap.objs.size + 4)) { s with heap := h' }) :
    wpAny (model X.prog X.w) A (call (.type "zip") [.ref t, .str y u]) Q E s := by
  refine callType_new F.called_zip (by decide) (F.typeCall_zip_2 _ _) (F.newCall_zip_2 _ _) (fun obj => F.args_object_init_3 obj _ _) F.entry_zip_new
    (meets_zip' t items y u ha) ⟨ht, ?_⟩
  have z1 : (zH1 s.heap t).objs.size = s.heap.objs.size + 1 := Heap.size_push ..
  have z2 : (zH2 s.heap t y u).objs.size = s.heap.objs.size + 2 := by rw [Heap.size_push, z1]
  have z3 : (zH3 s.heap t y u).objs.size = s.heap.objs.size + 3 := by rw [Heap.size_push, z2]
  have z4 : (zH4 s.heap t y u).objs.size = s.heap.objs.size + 4 := by rw [Heap.size_push, z3]
  have g5 : (zH5 s.heap t y u).get? (zH4 s.heap t y u).objs.size = some _ := Heap.get?_push_size _ rfl
  have g4 : (zH5 s.heap t y u).get? (zH3 s.heap t y u).objs.size = some _ := Heap.get?_push_of_some _ (Heap.get?_push_size _ rfl)
  have g3 : (zH5 s.heap t y u).get? (zH2 s.heap t y u).objs.size = some _ := Heap.get?_push_of_some _ (Heap.get?_push_of_some _ (Heap.get?_push_size _ rfl))
  have g2 : (zH5 s.heap t y u).get? (zH1 s.heap t).objs.size = some _ := Heap.get?_push_of_some _ (Heap.get?_push_of_some _ (Heap.get?_push_of_some _ (Heap.get?_push_size _ rfl)))
  have g1 : (zH5 s.heap t y u).get? s.heap.objs.size = some _ := Heap.get?_push_of_some _ (Heap.get?_push_of_some _ (Heap.get?_push_of_some _ (Heap.get?_push_of_some _ (Heap.get?_push_size _ rfl))))
  show _ ∧ _
  rw [z2, z3, z4] at g5
  rw [z1, z2] at g3
  rw [z3] at g4
  rw [z1] at g2
  rw [z4]
  exact ⟨⟨_, g5, rfl⟩, h _ g5 g3 g4 ⟨_, g1, rfl, rfl⟩ ⟨_, g2, rfl, rfl⟩ fun c o x =>
    Heap.get?_push_of_some _ (Heap.get?_push_of_some _ (Heap.get?_push_of_some _ (Heap.get?_push_of_some _ (Heap.get?_push_of_some _ x))))⟩

end
end Mine
end

section
set_option autoImplicit false
set_option linter.unusedVariables false
set_option maxRecDepth 100000
namespace Mine
open PySem PySem.W PyProof.Rows PySem.SeqAt

section
variable {X : Cx} {S : SX} {C : SC} {lvl : Nat} {A : Around} {fs : List Addr} {env : Env} {fr : Fr} {ρ ρ' : Rho} {σ σ' : St} {s s' : Shared} {E : Value → Shared → Prop}

theorem chg {own : List Addr} {k : Nat} {TO : Addr} {h h' : Heap} (R : Rp X ρ σ h) (free : ∀ a, a ∈ own → Free X ρ a) (N : NoSeq own h) (hk : σ[k]? = some .junk) (hp : ρ[k]? = some (TO, none))
    (keep : ∀ c o, c ∉ own → c ≠ TO → h.get? c = some o → h'.get? c = some o) (hTO : ∃ x y, IsPair h' TO x y) : Rp X ρ σ h' ∧ ∀ fs, Step own fs ρ ρ h h' := by
  have ho : TO ∈ owned ρ := mem_owned_fst hp
  have St : ∀ fs, Step own fs ρ ρ h h' := fun fs => by
    refine ⟨⟨[], by simp⟩, fun a o e n nw => ?_, fun a o e nw => ?_, fun _ q => .inl q, fun _ _ q => q⟩
    · have : a ≠ TO := fun z => by subst z; exact n ho
      exact ⟨fun _ => keep a o nw this e, o.slots, keep a o nw this e⟩
    · by_cases z : a = TO
      · subst z; obtain ⟨x, y, e⟩ := hTO; exact ⟨_, e⟩
      · exact ⟨o, keep a o nw z e⟩
  refine ⟨⟨fun b o e => ?_, R.len, R.nodup, R.off, R.fz, fun i q o hi ho' => ?_⟩, St⟩
  · refine keep b o (fun z => ?_) (fun z => ?_) (R.base b o e)
    · rw [(free b z).2] at e; cases e
    · subst z; rw [R.off _ ho] at e; cases e
  · by_cases e : i = k
    · subst e
      rw [hp] at hi
      rw [hk] at ho'
      cases hi
      cases ho'
      obtain ⟨x, y, e⟩ := hTO
      exact .junk e
    · refine (R.objs i q o hi ho').step (St []) N fun x hx ob ex => keep x ob (fun z => (free x z).1 (List.mem_flatMap.mpr ⟨q, List.mem_of_getElem? hi, hx⟩)) (fun z => ?_) ex
      subst z
      exact e (nodup_ownedOf R.nodup hi hp hx (by simp [ownedOf]))

noncomputable def isTupE (e : Expr) : Bool := tagE e == 8

theorem tupE_of {t : Expr} (h : isTupE t = true) : ∃ es k p, t = .Tuple es k p := by
  cases t <;> first | exact ⟨_, _, _, rfl⟩ | cases h
theorem zipT_at {xs : List PV} {y : Str} {i : Nat} {v : PV} (h : (((xs.zip (signs y)).map fun p => PV.tup [p.1, p.2]))[i]? = some v) : ∃ x c, xs[i]? = some x ∧ y.cps[i]? = some c ∧ v = .tup [x, .str ⟨#[c]⟩] := by
  rw [List.getElem?_map, Option.map_eq_some_iff] at h
  obtain ⟨p, e, rfl⟩ := h
  rw [List.getElem?_zip_eq_some] at e
  obtain ⟨c, h1, h2⟩ := signs_get e.2
  exact ⟨p.1, c, e.1, h1, by rw [h2]⟩
theorem zipT_none {xs : List PV} {y : Str} {i : Nat} (h : (((xs.zip (signs y)).map fun p => PV.tup [p.1, p.2]))[i]? = none) : xs[i]? = none ∨ y.cps[i]? = none := by
  rw [List.getElem?_eq_none_iff, List.length_map, List.length_zip] at h
  have e : (signs y).length = y.cps.size := by simp [signs]
  rw [e] at h
  rcases Nat.lt_or_ge i xs.length with q | q
  · right
    rw [Array.getElem?_eq_none_iff]
    omega
  · left; simp [q]

structure JZ (X : Cx) (xs : List PV) (y : Str) (u : Tok) (z TI TO i1 i2 t : Addr) (items : Array Value) (k : Nat) (i : Nat) (h : Heap) (ρ : Rho) : Prop where
  j1 : IsZip h z TI TO .none
  j2 : h.IsTuple TI #[.ref i1, .ref i2]
  j3 : h.IsTupleIter i1 t i
  j4 : AscIter h i2 y u i
  j5 : h.IsTuple t items
  j6 : t ∉ owned ρ
  j7 : VReps h ρ xs items.toList
  j8 : ρ[k]? = some (TO, none)
  j9 : ∀ a, a ∈ [z, i1, i2] → Free X ρ a
  j10 : TI ∉ owned ρ

theorem mem3 {a x y z : Addr} (h : a ∈ [x, y, z]) : a = x ∨ a = y ∨ a = z := by
  rcases List.mem_cons.mp h with e | h
  · exact .inl e
  rcases List.mem_cons.mp h with e | h
  · exact .inr (.inl e)
  · exact .inr (.inr (List.mem_singleton.mp h))
theorem jz_own {xs : List PV} {y : Str} {u : Tok} {z TI TO i1 i2 t : Addr} {items : Array Value} {k i : Nat} {h : Heap} (j : JZ X xs y u z TI TO i1 i2 t items k i h ρ) : ∀ a, a ∈ [z, i1, i2] → (∃ o, h.get? a = some o) ∧ ∀ its, ¬ h.IsTuple a its := fun a ha => by
  obtain ⟨j1, j2, j3, j4, _⟩ := j
  rcases mem3 ha with e | e | e
  · rw [e]; exact ⟨⟨_, j1⟩, notTuple_of_cls j1 (show Value.type "zip" ≠ Value.type "tuple" by decide)⟩
  · rw [e]; exact ⟨(let ⟨o, e, _⟩ := j3; ⟨o, e⟩), iter_nt j3 (by decide)⟩
  · rw [e]; exact ⟨(let ⟨o, e, _⟩ := j4; ⟨o, e⟩), iter_nt j4 (by decide)⟩
theorem not3 {c z i1 i2 : Addr} (h : c ∉ [z, i1, i2]) : c ≠ z ∧ c ≠ i1 ∧ c ≠ i2 := ⟨fun e => h (e ▸ List.mem_cons_self), fun e => h (e ▸ List.mem_cons_of_mem _ List.mem_cons_self), fun e => h (e ▸ List.mem_cons_of_mem _ (List.mem_cons_of_mem _ List.mem_cons_self))⟩
theorem at_zip {xs : List PV} {k i : Nat} {r : Option PV} (h : Src.at (.zip xs k) i σ = some r) : σ[k]? = some .junk ∧ xs[i]? = r := by
  have h : (match σ[k]? with
    | some .junk => some xs[i]?
    | _ => none) = some r := h
  cases ho : σ[k]? with
  | none => rw [ho] at h; cases h
  | some o =>
    rw [ho] at h
    cases o with
    | junk => cases h; exact ⟨rfl, rfl⟩
    | _ => cases h
theorem wk_zip (hh : A.handled = none) {xs : List PV} {y : Str} {u : Tok} {z TI TO i1 i2 t : Addr} {items : Array Value} {k : Nat} (D : Ap z TI TO i1 i2 t) :
    Wk X A (.zip ((xs.zip (signs y)).map fun p => .tup [p.1, p.2]) k) (.ref z) [z, i1, i2] isTupE (JZ X xs y u z TI TO i1 i2 t items k) where
  next := by
    intro i ρ σ s v jj Ir hv tgt Q E htgt kk
    obtain ⟨hj, hv⟩ := at_zip hv
    have N : NoSeq [z, i1, i2] s.heap := fun a ha => (jz_own jj a ha).2
    obtain ⟨j1, j2, j3, j4, j5, j6, j7, j8, j9, j10⟩ := jj
    obtain ⟨x, c, hx, hc, rfl⟩ := zipT_at hv
    obtain ⟨w, hw, rw'⟩ := j7.get hx
    rw [Array.getElem?_toList] at hw
    have jk := Ir.objs _ _ _ j8 hj
    cases jk with
    | junk hTO =>
    have hT : s.TypeIs (.ref z) "zip" := ⟨_, j1, rfl⟩
    unfold pyNext
    refine wpAny_bind (wpAny_attempt (wpAny_callSpecial?_slot (name := Str.ofString "__next__") hT F.slot_zip_next
      (wpAny_call_entry F.slot_zip_next hT F.entry_zip_next (zip_item D j1 j2 hTO j3 j4 j5 hw hc fun h' j yv hyv a1 a2 a3 a4 a5 a6 => wpAny_pure ?_) (F.args_zip_next_1 _))))
    obtain ⟨yt, rfl⟩ := hyv
    show wpAny _ _ (letOwnedTupleGo tgt (.ref z) (.ref s.heap.objs.size)) _ _ _
    obtain ⟨es, kx, px, rfl⟩ := tupE_of htgt
    refine wpAny_letOwnedTupleGo_zip (s := { s with heap := h', toks := j }) a1 fun h2 b1 b2 => ?_
    have ku : ∀ c o, c ∉ [z, i1, i2] → c ≠ TO → s.heap.get? c = some o → h2.get? c = some o := fun c o n1 n2 e =>
      b2.extBut _ _ (not3 n1).1 (a6 c o (not3 n1).1 n2 (not3 n1).2.1 (not3 n1).2.2 e)
    obtain ⟨R', St⟩ := chg Ir j9 N hj j8 ku ⟨w, .str ⟨#[c]⟩ yt, b2.extBut _ _ D.TOz a2⟩
    have hT2 : h2.IsTuple s.heap.objs.size #[w, .str ⟨#[c]⟩ yt] := ⟨_, b2.extBut _ _ (Nat.ne_of_gt (Heap.lt_size j1)) a5, rfl, 0, rfl⟩
    exact kk _ h2 j R' ⟨b1, isTuple_step (St []) j10 (noSeq_tuple N j2) j2, a3.extBut b2.extBut D.i1z, asc_ext a4 b2.extBut D.i2z, isTuple_step (St []) j6 (noSeq_tuple N j5) j5, j6, j7.step (St []) N, j8, j9, j10⟩ St (.tup hT2 Ir.size_off (.cons (rw'.step (St []) N) (.cons (.str _ _) .nil)))
  fin := by
    intro i ρ σ s jj Ir hv Q E kk
    obtain ⟨hj, hv⟩ := at_zip hv
    have N : NoSeq [z, i1, i2] s.heap := fun a ha => (jz_own jj a ha).2
    obtain ⟨j1, j2, j3, j4, j5, j6, j7, j8, j9, j10⟩ := jj
    have jk := Ir.objs _ _ _ j8 hj
    cases jk with
    | junk hTO =>
    have hend : items[i]? = none ∨ y.cps[i]? = none := by
      rcases zipT_none hv with q | q
      · exact .inl (Array.getElem?_eq_none (by rw [size_of j7]; exact List.getElem?_eq_none_iff.mp q))
      · exact .inr q
    have hT : s.TypeIs (.ref z) "zip" := ⟨_, j1, rfl⟩
    unfold pyNext
    refine wpAny_bind (wpAny_attempt (wpAny_callSpecial?_slot (name := Str.ofString "__next__") hT F.slot_zip_next
      (wpAny_call_entry F.slot_zip_next hT F.entry_zip_next (zip_end hh D j1 j2 hTO j3 j4 j5 hend fun h' e j a1 a2 a3 => ?_) (F.args_zip_next_1 _))))
    obtain ⟨o, ho, hc⟩ := a3
    refine wpAny_bind (wpAny_isInstance (T := "StopIteration") (b := true) ⟨o, ho, hc⟩ isSubtype_stop ?_)
    obtain ⟨R', St⟩ := chg Ir j9 N hj j8 (fun c o n1 n2 e => a1 c o (not3 n1).1 n2 (not3 n1).2.1 (not3 n1).2.2 e) a2
    exact wpAny_pure (kk h' j R' St)
  self := fun j Q E k => wpAny_pyIter_zip j.j1 k
  step := by
    intro i ρ ρ' h h' W fs jj T N hW
    obtain ⟨j1, j2, j3, j4, j5, j6, j7, j8, j9, j10⟩ := jj
    have kp : ∀ a o, a ∈ [z, i1, i2] → h.get? a = some o → h'.get? a = some o ∧ Free X ρ' a := fun a o ha e => ⟨(T.keep a _ e (j9 a ha).1 (hW a ha).1).1 (hW a ha).2, T.offNew e (j9 a ha).1, (j9 a ha).2⟩
    have m2 : i1 ∈ [z, i1, i2] := List.mem_cons_of_mem _ List.mem_cons_self
    have m3 : i2 ∈ [z, i1, i2] := List.mem_cons_of_mem _ (List.mem_cons_of_mem _ List.mem_cons_self)
    have kz := kp z _ List.mem_cons_self j1
    obtain ⟨o1, e1, r1⟩ := j3
    obtain ⟨o2, e2, r2⟩ := j4
    have k1 := kp i1 _ m2 e1
    have k2 := kp i2 _ m3 e2
    refine ⟨kz.1, isTuple_step T j10 (noSeq_tuple N j2) j2, ⟨o1, k1.1, r1⟩, ⟨o2, k2.1, r2⟩, isTuple_step T j6 (noSeq_tuple N j5) j5, (let ⟨o, e, _⟩ := j5; T.offNew e j6), j7.step T N, loc_step T j8, fun a ha => ?_, (let ⟨o, e, _⟩ := j2; T.offNew e j10)⟩
    rcases mem3 ha with e | e | e
    · rw [e]; exact kz.2
    · rw [e]; exact k1.2
    · rw [e]; exact k2.2
  off := fun j a ha => ⟨(j.j9 a ha).1, jz_own j a ha⟩

/-- an expression whose things are gone through -/
noncomputable def SrcOk (X : Cx) (C : SC) (lvl : Nat) (e : Expr) (ok : Expr → Bool) (f : Fr → St → R Src) : Prop :=
  ∀ A fs env fr ρ σ s, At X C lvl A fs env fr ρ σ s → f fr σ ≠ .stuck →
    wpAny (model X.prog X.w) A (eval e env) (fun x s1 => wpAny (model X.prog X.w) A (pyIter x) (Post X [] fs ρ s (ItRel X A ok s.heap) (f fr σ)) (PostX X A [] fs ρ s (f fr σ)) s1) (PostX X A [] fs ρ s (f fr σ)) s

theorem ItRel.mono {ok : Expr → Bool} {h0 h1 h : Heap} {src : Src} {it : Value} (r : ItRel X A ok h1 h ρ src it) (k : ∀ a, h1.get? a = none → h0.get? a = none) : ItRel X A ok h0 h ρ src it := by
  obtain ⟨own, J, w, j, f⟩ := r
  exact ⟨own, J, w, j, fun a ha => k a (f a ha)⟩

theorem src_any {e : Expr} {ie : IE} {ev : Fr → IE → St → R PV} (h : EOk X C lvl e fun fr σ => ev fr ie σ) : SrcOk X C lvl e okAll fun fr σ => (evList (ev fr) [ie] σ).bind fun vs σ => srcR 0 vs σ := fun A fs env fr ρ σ s a ns => by
  change (evList (ev fr) [ie] σ).bind _ ≠ _ at ns
  show wpAny _ _ _ (fun x s1 => wpAny _ _ (pyIter x) (Post X [] fs ρ s (ItRel X A okAll s.heap) ((evList (ev fr) [ie] σ).bind _)) (PostX X A [] fs ρ s ((evList (ev fr) [ie] σ).bind _)) s1) (PostX X A [] fs ρ s ((evList (ev fr) [ie] σ).bind _)) s
  rw [evList_one] at ns ⊢
  have n1 : ev fr ie σ ≠ .stuck := fun q => by rw [q] at ns; exact ns rfl
  refine wpAny_mono (h _ _ _ _ _ _ _ a n1) (fun u s1 p => ?_) fun x s1 p => ?_
  · obtain ⟨v, σ1, ρ1, q1, q2, q3, q4, q5⟩ := p
    change ev fr ie σ = _ at q1
    rw [q1] at ns ⊢
    have e0 : (((R.ok v σ1).bind fun v σ => R.ok [v] σ).bind fun vs σ => srcR 0 vs σ) = src0 v σ1 := rfl
    rw [e0] at ns ⊢
    refine wpAny_mono (pyIter_ok (fs := fs) (a.next q3 q5).ar.hd q3 q4 ns) (fun it s2 p => ?_) fun x s2 p => p.from q2 q5
    obtain ⟨src, σ2, ρ2, w1, w2, w3, w4, w5⟩ := p
    refine ⟨src, σ2, ρ2, w1, q2.trans w2, w3, w4.mono fun b hb => ?_, q5.trans w5⟩
    cases e : s.heap.get? b with
    | none => rfl
    | some o => obtain ⟨o', e'⟩ := q5.there b o e (by simp); rw [e'] at hb; cases hb
  · exact p.res fun _ _ w1 => by change ev fr ie σ = _ at w1; rw [w1]; rfl

theorem zip_boot : bootBuiltins "zip" = some (.type "zip") := by kernel_rfl

theorem ap_new {n t : Addr} (h : t < n) : Ap (n + 4) (n + 2) (n + 3) n (n + 1) t where
  TIz := Nat.ne_of_lt (Nat.add_lt_add_left (by decide) n)
  TOz := Nat.ne_of_lt (Nat.add_lt_add_left (by decide) n)
  i1z := Nat.ne_of_lt (Nat.lt_add_of_pos_right (by decide))
  i2z := Nat.ne_of_lt (Nat.add_lt_add_left (by decide) n)
  TITO := Nat.ne_of_lt (Nat.add_lt_add_left (by decide) n)
  TIi1 := Nat.ne_of_gt (Nat.lt_add_of_pos_right (by decide))
  TIi2 := Nat.ne_of_gt (Nat.add_lt_add_left (by decide) n)
  TOi1 := Nat.ne_of_gt (Nat.lt_add_of_pos_right (by decide))
  TOi2 := Nat.ne_of_gt (Nat.add_lt_add_left (by decide) n)
  i12 := Nat.ne_of_lt (Nat.lt_add_of_pos_right (by decide))
  tz := Nat.ne_of_lt (Nat.lt_of_lt_of_le h (Nat.le_add_right n 4))
  tTO := Nat.ne_of_lt (Nat.lt_of_lt_of_le h (Nat.le_add_right n 3))
  ti1 := Nat.ne_of_lt h
  ti2 := Nat.ne_of_lt (Nat.lt_of_lt_of_le h (Nat.le_add_right n 1))
theorem zip_args {vs : List PV} {us : List Value} (r : VReps s.heap ρ vs us) (ns : srcR 2 vs σ ≠ .stuck) : ∃ xs y t items u, vs = [.tup xs, .str y] ∧ us = [.ref t, .str y u] ∧ s.heap.IsTuple t items ∧ t ∉ owned ρ ∧ VReps s.heap ρ xs items.toList ∧ ascii y = true := by
  cases r with
  | nil => exact absurd rfl ns
  | cons r1 r =>
  cases r with
  | nil => exact absurd rfl ns
  | cons r2 r =>
  cases r with
  | cons _ _ => exact absurd rfl ns
  | nil =>
    cases r1 <;> first | exact absurd rfl ns | skip
    cases r2 <;> first | exact absurd rfl ns | skip
    rename_i t items xs ht no rr y u
    refine ⟨xs, y, t, items, u, rfl, rfl, ht, no, rr, ?_⟩
    by_cases ha : ascii y = true
    · exact ha
    · exact absurd (if_neg ha) ns
theorem src_zip (O : SOk X S) {np pos : Pos} {e1 e2 : Expr} {i1 i2 : IE} {ev : Fr → IE → St → R PV} (hs1 : notStar e1 = true) (hs2 : notStar e2 = true) (hk : C.names.lookup ("zip" : Str) = some .globalImplicit) (hn : ("zip" : Str) ∈ S.bnames)
    (h1 : EOk X C lvl e1 fun fr σ => ev fr i1 σ) (h2 : EOk X C lvl e2 fun fr σ => ev fr i2 σ) :
    SrcOk X C lvl (.Call (.Name "zip" np) [e1, e2] [] pos) isTupE fun fr σ => (evList (ev fr) [i1, i2] σ).bind fun vs σ => srcR 2 vs σ := fun A fs env fr ρ σ s a ns => by
  change ((evList (ev fr) [i1, i2] σ).bind fun vs σ => srcR 2 vs σ) ≠ .stuck at ns
  show wpAny _ _ _ (fun x s1 => wpAny _ _ (pyIter x) (Post X [] fs ρ s (ItRel X A isTupE s.heap) ((evList (ev fr) [i1, i2] σ).bind fun vs σ => srcR 2 vs σ)) (PostX X A [] fs ρ s ((evList (ev fr) [i1, i2] σ).bind fun vs σ => srcR 2 vs σ)) s1) (PostX X A [] fs ρ s ((evList (ev fr) [i1, i2] σ).bind fun vs σ => srcR 2 vs σ)) _
  have n1 : evList (ev fr) [i1, i2] σ ≠ .stuck := fun q => by rw [q] at ns; exact ns rfl
  rw [eval_call_name (by intro x hx; simp at hx; rcases hx with rfl | rfl; exact hs1; exact hs2)]
  refine wpAny_bind (boot_gv a (by decide) hk (O.none _ hn) zip_boot (by decide) _ _ fun j => ?_)
  have a' : At X C lvl A fs env fr ρ σ { s with toks := j } := a.next (s' := { s with toks := j }) a.I Step.refl
  refine callWith_of (P := fun _ => True) (by simp) (fun h _ => ⟨.machine, .inr (.inl rfl), Looks.of_pure rfl⟩) ?_
  refine Calls.evalArgs_plain (wpAny_mono (spliced_ok (.cons h1 (.cons h2 .nil)) a' n1) (fun us s1 p => ⟨trivial, ?_⟩) fun x s1 p => ?_)
  · obtain ⟨vs, σ1, ρ1, q1, q2, q3, q4, q5⟩ := p
    rw [q1] at ns ⊢
    have e0 : ((R.ok vs σ1).bind fun vs σ => srcR 2 vs σ) = srcR 2 vs σ1 := rfl
    rw [e0] at ns ⊢
    obtain ⟨xs, y, t, items, u, rfl, rfl, ht, no, rr, ha⟩ := zip_args q4 ns
    rw [show srcR 2 [.tup xs, .str y] σ1 = _ from if_pos ha]
    refine call_zip' ht ha fun h' z1 z2 z3 z4 z5 kk => ?_
    refine wpAny_pyIter_zip (s := { s1 with heap := h' }) z1 ?_
    have nn : ∀ n, s1.heap.get? (s1.heap.objs.size + n) = none := fun n => get?_oob (Nat.le_add_right _ _)
    have tl : t < s1.heap.objs.size := by obtain ⟨o, e, _⟩ := ht; exact Heap.lt_size e
    have D : Ap (s1.heap.objs.size + 4) (s1.heap.objs.size + 2) (s1.heap.objs.size + 3) s1.heap.objs.size (s1.heap.objs.size + 1) t := ap_new tl
    have hn3 : ∀ b, b ∈ ownedOf (s1.heap.objs.size + 3, (none : Option Addr)) → s1.heap.get? b = none := fun b q => by simp [ownedOf] at q; subst q; exact nn 3
    have I2 : Rp X (ρ1 ++ [(s1.heap.objs.size + 3, none)]) (σ1 ++ [.junk]) h' := q3.grow kk hn3 (by simp [ownedOf]) fun S' => .junk z3
    have T2 : Step [] fs ρ1 (ρ1 ++ [(s1.heap.objs.size + 3, none)]) s1.heap h' := Step.grow kk fun b q => hn3 b (by simpa [owned] using q)
    have free : ∀ n, n ≠ 3 → Free X (ρ1 ++ [(s1.heap.objs.size + 3, none)]) (s1.heap.objs.size + n) := fun n hne => by
      refine ⟨fun q => ?_, base_none q3.base (nn n)⟩
      rw [owned_append] at q
      rcases List.mem_append.mp q with q | q
      · exact q3.offNew (nn n) q
      · have q' : s1.heap.objs.size + n = s1.heap.objs.size + 3 := List.mem_singleton.mp q
        exact hne (Nat.add_left_cancel q')
    refine ⟨_, σ1 ++ [.junk], ρ1 ++ [(s1.heap.objs.size + 3, none)], rfl, ?_, I2, ⟨[s1.heap.objs.size + 4, s1.heap.objs.size, s1.heap.objs.size + 1], _, wk_zip (a'.next q3 q5).ar.hd D, ⟨z1, ⟨_, z2, rfl, 0, rfl⟩, z4, z5, ?_, ?_, rr.step T2 noSeq_nil, ?_, ?_, (free 2 (by decide)).1⟩, ?_⟩, q5.trans T2⟩
    · obtain ⟨hh, tt, rfl⟩ := q2
      exact ⟨_, _, rfl⟩
    · obtain ⟨o, e, r⟩ := ht; exact ⟨o, kk _ o e, r⟩
    · obtain ⟨o, e, r⟩ := ht; exact T2.offNew e no
    · rw [← q3.len]; simp
    · intro b hb
      simp at hb
      rcases hb with rfl | rfl | rfl
      · exact free 4 (by decide)
      · exact free 0 (by decide)
      · exact free 1 (by decide)
    · intro b hb
      have hb1 : s1.heap.get? b = none := by
        simp at hb
        rcases hb with rfl | rfl | rfl
        · exact nn 4
        · exact nn 0
        · exact nn 1
      cases e : s.heap.get? b with
      | none => rfl
      | some o => obtain ⟨o', e'⟩ := q5.there _ o e (by simp); rw [hb1] at e'; cases e'
  · exact (p.res fun _ _ w1 => by rw [w1]; rfl).from ⟨_, j, rfl⟩ Step.refl
end
end Mine
end

section
set_option autoImplicit false
set_option linter.unusedVariables false
set_option maxRecDepth 100000
namespace Mine
open PySem PySem.W PyProof.Rows PySem.SeqAt

section
variable {X : Cx} {S : SX} {C : SC} {lvl : Nat} {A : Around} {W fs : List Addr} {env : Env} {Γ : List (Str × Nat)} {fr : Fr} {ρ ρ' : Rho} {σ σ' : St} {s s' : Shared}

theorem FrR.free (F : FrR X Γ env fr ρ s.heap) {a : Addr} (ha : a ∈ frameAddrs env) : Free X ρ a := ⟨(F.off a ha).1, (F.off a ha).2.1⟩
theorem set_some {fr : Fr} {i j : Nat} {v v' : PV} (h : (fr.set i (some v))[j]? = some (some v')) : (j = i ∧ v' = v) ∨ (j ≠ i ∧ fr[j]? = some (some v')) := by
  by_cases e : j = i
  · have hl : j < fr.length := by
      have := (List.getElem?_eq_some_iff.mp h).1
      rw [List.length_set] at this
      exact this
    rw [e] at h hl
    rw [List.getElem?_set_self hl] at h
    cases h
    exact .inl ⟨e, rfl⟩
  · rw [List.getElem?_set_ne (Ne.symm e)] at h
    exact .inr ⟨e, h⟩
theorem ns_data {h : Heap} {a : Addr} {m : Str → Option Value} (hn : h.Ns a m) : ∃ o, h.get? a = some o ∧ (∀ xs n, o.data ≠ .seq xs n) ∧ ∀ vs, o.data ≠ .fields vs := by
  obtain ⟨o, es, ep, ho, hd, r⟩ := hn
  exact ⟨o, ho, fun _ _ => (by rw [hd]; simp), fun _ => (by rw [hd]; simp)⟩
theorem cell_data {h : Heap} {a : Addr} {m : Option Value} (hn : h.IsCell a m) : ∃ o, h.get? a = some o ∧ (∀ xs n, o.data ≠ .seq xs n) ∧ ∀ vs, o.data ≠ .fields vs := by
  obtain ⟨o, ho, hd⟩ := hn
  exact ⟨o, ho, fun _ _ => (by rw [hd]; simp), fun _ => (by rw [hd]; simp)⟩

/-- a name of the frame is bound -/
theorem store_name (I : Rp X ρ σ s.heap) (F : FrR X Γ env fr ρ s.heap) {n : Str} {i : Nat} (hm : (n, i) ∈ Γ) (nf : env.kindOf n ≠ some .free) {v : PV} {u : Value} (r : VRep s.heap ρ v u) {Q : Unit → Shared → Prop} {E : Value → Shared → Prop}
    (h : ∀ h' k a, a ∈ frameAddrs env → (env.kindOf n = some .local → a = env.locals) → Rp X ρ σ h' → FrR X Γ env (fr.set i (some v)) ρ h' → (∀ W fs, a ∈ W → Step W fs ρ ρ s.heap h') → Q () { s with heap := h', toks := k }) :
    wpAny (model X.prog X.w) A (bindName env n u) Q E s := by
  have same : ∀ a, a ∈ frameAddrs env → ∀ h', Heap.SameBut a s.heap h' → (∃ o, h'.get? a = some o ∧ (∀ xs n, o.data ≠ .seq xs n) ∧ ∀ vs, o.data ≠ .fields vs) →
      (∀ W fs, a ∈ W → Step W fs ρ ρ s.heap h') ∧ NoSeq [a] s.heap ∧ Rp X ρ σ h' ∧ (∀ b, b ∈ frameAddrs env → b ∉ owned ρ ∧ X.base.get? b = none ∧ ∃ o, h'.get? b = some o ∧ (∀ xs n, o.data ≠ .seq xs n) ∧ ∀ vs, o.data ≠ .fields vs) := fun a ha h' hs ht => by
    have nt : ∀ items, ¬ s.heap.IsTuple a items := F.noSeq a ha
    refine ⟨fun W fs hW => Step.turn (.inr hW) hs (let ⟨o, e, _⟩ := ht; ⟨o, e⟩), fun b hb => by simp at hb; subst hb; exact nt, I.extBut (F.free ha) nt hs.extBut, fun b hb => ?_⟩
    obtain ⟨q1, q2, o, q3, q4⟩ := F.off b hb
    refine ⟨q1, q2, ?_⟩
    by_cases e : b = a
    · subst e; exact ht
    · exact ⟨o, (hs.2 b e).trans q3, q4⟩
  refine wpAny_bindName ?_
  rcases F.kinds n i hm with hk | hk | hk
  · obtain ⟨m, hn, r1⟩ := F.ns
    refine wpAny_storeName_local hk hn (fun h' hn' hs => ?_) (by rw [F.kind]; rfl)
    obtain ⟨S1, N1, I1, O1⟩ := same env.locals (by simp [frameAddrs]) h' hs (ns_data hn')
    have St := S1 [env.locals] [] (by simp)
    refine h h' _ env.locals (by simp [frameAddrs]) (fun _ => rfl) I1 ⟨F.kind, F.glob, F.bi, F.kinds, F.inj, F.one, ⟨_, hn', fun n' i' hi hk' v' hv => ?_⟩, fun n' i' hi hk' => ?_, O1, F.apart, F.once⟩ S1
    · rcases set_some hv with ⟨rfl, rfl⟩ | ⟨ne, hv⟩
      · cases F.inj _ _ _ hi hm
        exact ⟨u, by simp, r.step St N1⟩
      · have : n' ≠ n := fun e => by subst e; exact ne (F.one _ _ _ hi hm)
        obtain ⟨u', e1, e2⟩ := r1 n' i' hi hk' v' hv
        exact ⟨u', by rw [if_neg this]; exact e1, e2.step St N1⟩
    · obtain ⟨c, cur, hc, hcell, r2⟩ := F.cells n' i' hi hk'
      have hca : c ≠ env.locals := fun e => F.apart (e ▸ List.mem_map.mpr ⟨_, lookup_mem hc, rfl⟩)
      refine ⟨c, cur, hc, hcell.sameBut hs hca, fun v' hv => ?_⟩
      rcases set_some hv with ⟨rfl, rfl⟩ | ⟨ne, hv⟩
      · cases F.inj _ _ _ hi hm
        rw [hk] at hk'
        rcases hk' with hk' | hk' <;> cases hk'
      · obtain ⟨u', e1, e2⟩ := r2 v' hv
        exact ⟨u', e1, e2.step St N1⟩
  · obtain ⟨c, cur, hc, hcell, r0⟩ := F.cells n i hm (.inl hk)
    have hcm : c ∈ frameAddrs env := by simp [frameAddrs]; exact .inr ⟨n, lookup_mem hc⟩
    have hcl : env.locals ≠ c := fun e => F.apart (e ▸ List.mem_map.mpr ⟨_, lookup_mem hc, rfl⟩)
    refine wpAny_storeName_cell F.kind hk hc hcell fun h' hc' hs => ?_
    obtain ⟨S1, N1, I1, O1⟩ := same c hcm h' hs (cell_data hc')
    have St := S1 [c] [] (by simp)
    refine h h' s.toks c hcm (fun e => by rw [hk] at e; cases e) I1 ⟨F.kind, F.glob, F.bi, F.kinds, F.inj, F.one, ?_, fun n' i' hi hk' => ?_, O1, F.apart, F.once⟩ S1
    · obtain ⟨m, hn, r1⟩ := F.ns
      refine ⟨m, ns_slots hn fun o ho => ⟨o.slots, (hs.2 _ hcl).trans ho⟩, fun n' i' hi hk' v' hv => ?_⟩
      rcases set_some hv with ⟨rfl, rfl⟩ | ⟨ne, hv⟩
      · cases F.inj _ _ _ hi hm
        rw [hk] at hk'; cases hk'
      · obtain ⟨u', e1, e2⟩ := r1 n' i' hi hk' v' hv
        exact ⟨u', e1, e2.step St N1⟩
    · obtain ⟨c', cur', hcc, hcell', r2⟩ := F.cells n' i' hi hk'
      by_cases e : n' = n
      · subst e
        rw [hc] at hcc
        cases hcc
        cases F.one _ _ _ hi hm
        refine ⟨c, _, hc, hc', fun v' hv => ?_⟩
        rcases set_some hv with ⟨_, rfl⟩ | ⟨ne, hv⟩
        · exact ⟨u, rfl, r.step St N1⟩
        · exact absurd rfl ne
      · have hne : c' ≠ c := fun q => e (F.once n' n c (q ▸ lookup_mem hcc) (lookup_mem hc))
        refine ⟨c', cur', hcc, hcell'.sameBut hs hne, fun v' hv => ?_⟩
        rcases set_some hv with ⟨rfl, rfl⟩ | ⟨ne, hv⟩
        · exact absurd (F.inj _ _ _ hi hm) e
        · obtain ⟨u', e1, e2⟩ := r2 v' hv
          exact ⟨u', e1, e2.step St N1⟩
  · exact absurd hk nf

/-! unpacking -/
theorem draw_list {it t : Addr} {items : Array Value} (hne : t ≠ it) : ∀ (n i : Nat) (s : Shared) (Q : List Value → Shared → Prop) (E : Value → Shared → Prop), s.heap.IsListIter it t i → s.heap.IsList t items → i + n ≤ items.size →
    (∀ h', h'.IsListIter it t (i + n) → Heap.SameBut it s.heap h' → Q ((items.toList.drop i).take n) { s with heap := h' }) → wpAny (model X.prog X.w) A (draw (.ref it) n) Q E s := by
  intro n
  induction n with
  | zero => intro i s Q E hit _ _ hQ; exact wpAny_pure (hQ s.heap hit (Heap.SameBut.refl ..))
  | succ n ih =>
    intro i s Q E hit ht hle hQ
    have hlt : i < items.size := by omega
    show wpAny _ _ (pyNext (.ref it) >>= _) Q E s
    refine wpAny_bind (wpAny_pyNext_list_item hit ht (x := items[i]) (Array.getElem?_eq_getElem hlt) fun h₁ hit₁ hs₁ => ?_)
    refine wpAny_bind (wpAny_holding (ih (i + 1) _ _ _ hit₁ (ht.extBut hs₁.extBut hne) (by omega) fun h₂ hit₂ hs₂ => wpAny_pure ?_))
    have hd : items.toList.drop i = items[i] :: items.toList.drop (i + 1) := List.drop_eq_getElem_cons (by rw [Array.length_toList]; exact hlt)
    have := hQ h₂ (by rw [show i + (n + 1) = i + 1 + n by omega]; exact hit₂) (hs₁.trans hs₂)
    rw [hd, List.take_succ_cons] at this
    exact this
theorem unpackItems_list {t : Addr} {items : Array Value} {Q : List Value → Shared → Prop} {E : Value → Shared → Prop} (hh : A.handled = none) (ht : s.heap.IsList t items)
    (hQ : ∀ h', Heap.ExtBut s.heap.objs.size s.heap h' → Q items.toList { s with heap := h' }) : wpAny (model X.prog X.w) A (unpackItems (.ref t) items.size none) Q E s := by
  have hlt : t ≠ s.heap.objs.size := by obtain ⟨o, ho, _⟩ := ht; exact Nat.ne_of_lt (Heap.lt_size ho)
  unfold unpackItems
  refine wpAny_bind ?_
  · unfold notIterableAtAll
    refine wpAny_bind (wpAny_specialOf ht.typeIs slot_list_iter.lookup ?_)
    refine wpAny_pure ?_
    simp only [Bool.false_eq_true, if_false]
    refine wpAny_bind (wpAny_holding (wpAny_pyIter_list ht ?_))
    refine wpAny_bind (wpAny_holding (draw_list hlt items.size 0 _ _ _ ⟨_, Heap.get?_push_size _ rfl, rfl, rfl⟩ (ht.push _) (by omega) fun h₁ hit₁ hs₁ => ?_))
    have hall : List.take items.size (List.drop 0 items.toList) = items.toList := by
      rw [List.drop_zero]; exact List.take_of_length_le (by simp)
    rw [hall]
    rw [if_neg (by simp)]
    have ht₁ : h₁.IsList t items := (ht.push _).extBut hs₁.extBut hlt
    refine wpAny_bind (wpAny_holding (wpAny_pyNext_list_end hh hit₁ ht₁ (by simp) fun h₂ he₂ => ?_))
    simp only [Option.isSome_none, Bool.false_eq_true, if_false]
    refine wpAny_pure (hQ h₂ fun b o hb e => he₂ b o hb (hs₁.extBut b o hb (Heap.get?_push_of_some _ e)))

theorem unpackItems_ok (hh : A.handled = none) (I : Rp X ρ σ s.heap) {v : PV} {u : Value} (r : VRep s.heap ρ v u) {vs : List PV} (hv : itemsOf σ v = some vs) {Q : List Value → Shared → Prop} {E : Value → Shared → Prop}
    (h : ∀ us h', us.length = vs.length → Rp X ρ σ h' → (∀ W fs, Step W fs ρ ρ s.heap h') → VReps h' ρ vs us → Q us { s with heap := h' }) : wpAny (model X.prog X.w) A (unpackItems u vs.length none) Q E s := by
  have kp : ∀ h', Heap.ExtBut s.heap.objs.size s.heap h' → ∀ b o, s.heap.get? b = some o → h'.get? b = some o := fun h' hs b o e => hs b o (Nat.ne_of_lt (Heap.lt_size e)) e
  have St : ∀ h', Heap.ExtBut s.heap.objs.size s.heap h' → ∀ W fs, Step W fs ρ ρ s.heap h' := fun h' hs W fs => Step.of_keeps (kp h' hs)
  cases r with
  | tup ht no rr =>
    cases hv
    rw [← size_of rr]
    exact wpAny_unpackItems_tuple hh ht fun h' hs => h _ h' (by rw [rr.length]) (I.keeps (kp h' hs)) (St h' hs) (rr.step (St h' hs [] []) noSeq_nil)
  | loc hp =>
    rename_i l p
    have hv : (match σ[l]? with | some (.list xs) => some xs | _ => none) = some vs := hv
    cases hx : σ[l]? with
    | none => rw [hx] at hv; cases hv
    | some o =>
      rw [hx] at hv
      cases o with
      | list xs =>
        cases hv
        obtain ⟨items, pl, rr⟩ := lst_of' I hp hx
        rw [← size_of rr]
        exact unpackItems_list hh (isList_of_plain pl) fun h' hs => h _ h' (by rw [rr.length]) (I.keeps (kp h' hs)) (St h' hs) (rr.step (St h' hs [] []) noSeq_nil)
      | _ => cases hv
  | _ => cases hv

/-! targets -/
noncomputable def TRel (X : Cx) (C : SC) (env : Env) : Heap → Rho → Fr → Unit → Prop := fun h ρ fr' _ => FrR X C.Γ env fr' ρ h
noncomputable def TOk (X : Cx) (C : SC) (lvl : Nat) (t : Expr) (f : Fr → PV → St → R Fr) : Prop :=
  ∀ A fs env fr ρ σ s v u, At X C lvl A fs env fr ρ σ s → VRep s.heap ρ v u → Ok X A (frameAddrs env) fs ρ s (TRel X C env) (assign t env u) (f fr v σ)

theorem At.nextW {fr' : Fr} (a : At X C lvl A fs env fr ρ σ s) (I : Rp X ρ' σ' s'.heap) (F : FrR X C.Γ env fr' ρ' s'.heap) (T : Step (frameAddrs env) fs ρ ρ' s.heap s'.heap) : At X C lvl A fs env fr' ρ' σ' s' :=
  ⟨I, F, a.names, a.ar.step T fun L _ hW => (let ⟨_, _, o, e, p, q⟩ := F.off L hW; ⟨o, e, q, p⟩), a.rm, a.cd⟩
theorem At.noSeq (a : At X C lvl A fs env fr ρ σ s) : NoSeq (frameAddrs env) s.heap := a.F.noSeq
theorem At.thereW (a : At X C lvl A fs env fr ρ σ s) : ∀ b, b ∈ frameAddrs env → ∃ o, s.heap.get? b = some o := fun b hb => let ⟨_, _, o, e, _⟩ := a.F.off b hb; ⟨o, e⟩
/-- what wrote nothing may stand where more may be written -/
theorem Ok.widen {α β : Type} {rel : Heap → Rho → α → β → Prop} {t : Sem β} {r : R α} (ht : ∀ a, a ∈ W → ∃ o, s.heap.get? a = some o) (h : Ok X A [] fs ρ s rel t r) : Ok X A W fs ρ s rel t r := fun ns =>
  wpAny_mono (h ns) (fun b s' p => by obtain ⟨a, σ', ρ', h1, h2, h3, h4, h5⟩ := p; exact ⟨a, σ', ρ', h1, h2, h3, h4, h5.mono (fun _ q => nomatch q) ht⟩)
    fun e s' p => by obtain ⟨c, σ', ρ', h₁, a, h1, h2, h3, h4, h5, h6⟩ := p; exact ⟨c, σ', ρ', h₁, a, h1, h2, h3, h4, h5.mono (fun _ q => nomatch q) ht, h6⟩
theorem Ok.bind_ {α β γ δ : Type} {t : Sem β} {k : β → Sem δ} {m : R α} {f : α → St → R γ} {rel : Heap → Rho → α → β → Prop} {rel' : Heap → Rho → γ → δ → Prop} (h1 : Ok X A [] fs ρ s rel t m) (ht : ∀ a, a ∈ W → ∃ o, s.heap.get? a = some o)
    (h2 : ∀ a σ' ρ' b s', m = .ok a σ' → Ext s s' → Rp X ρ' σ' s'.heap → rel s'.heap ρ' a b → Step [] fs ρ ρ' s.heap s'.heap → Ok X A W fs ρ' s' rel' (k b) (f a σ')) :
    Ok X A W fs ρ s rel' (t >>= k) (m.bind f) := by
  cases m with
  | stuck => exact .stuck
  | ok a σ' =>
    intro ns
    refine wpAny_bind (wpAny_mono (h1 (fun q => nomatch q)) (fun b s' p => ?_) fun e s' p => ?_)
    · obtain ⟨a', σ'', ρ', e1, e2, e3, e4, e5⟩ := p
      cases e1
      have e6 := e5.mono (fun _ q => nomatch q) ht
      exact wpAny_mono (h2 a σ' ρ' b s' rfl e2 e3 e4 e5 ns) (fun _ _ q => q.from e2 e6) fun _ _ q => q.from e2 e6
    · obtain ⟨c, σ'', _, _, _, e1, _⟩ := p
      cases e1
  | exc c σ' =>
    intro _
    refine wpAny_bind (wpAny_mono (h1 (fun q => nomatch q)) (fun b s' p => ?_) fun e s' p => ?_)
    · obtain ⟨a', σ'', ρ', e1, _⟩ := p
      cases e1
    · obtain ⟨c', σ'', ρ', h₁, a, e1, e2, e3, e4, e5, e6⟩ := p
      cases e1
      exact ⟨c, σ', ρ', h₁, a, rfl, e2, e3, e4, e5.mono (fun _ q => nomatch q) ht, e6⟩

theorem bind_ok {n : Str} {i : Nat} {v : PV} {u : Value} (a : At X C lvl A fs env fr ρ σ s) (hm : (n, i) ∈ C.Γ) (nf : C.names.lookup n ≠ some .free) (r : VRep s.heap ρ v u) : Ok X A (frameAddrs env) fs ρ s (TRel X C env) (bindName env n u) (if i < fr.length then .ok (fr.set i (some v)) σ else .stuck) := by
  exact .guard fun _ => Ok.to fun Q E k => store_name a.I a.F hm (by rw [a.kind]; exact nf) r fun h' j b hb _ I' F' T => k () ρ _ ⟨h', j, rfl⟩ I' F' (T _ _ hb)
theorem t_name {n : Str} {i : Nat} {pos : Pos} (hΓ : C.Γ.lookup n = some i) (nf : C.names.lookup n ≠ some .free) : TOk X C lvl (.Name n pos) fun fr v σ => if i < fr.length then .ok (fr.set i (some v)) σ else .stuck := fun A fs env fr ρ σ s v u a r => by
  rw [arm_assign_Name]
  exact Ok.standAt (bind_ok a (lookup_mem hΓ) nf r)

theorem assignEach_of (es : List Expr) (env : Env) (hs : ∀ e, e ∈ es → notStar e = true) : assignEach es env = es.map fun e => (false, assign e env) := by
  induction es with
  | nil => rfl
  | cons e es ih =>
    have h0 := hs e List.mem_cons_self
    rw [List.map_cons, ← ih fun e h => hs e (List.mem_cons_of_mem _ h)]
    cases e <;> first | rfl | cases h0
theorem no_star : ∀ (es : List Expr) (env : Env), (es.map fun e => (false, assign e env)).findIdx? (·.1) = none := fun es env => by
  rw [List.findIdx?_eq_none_iff]
  intro x hx
  obtain ⟨e, _, rfl⟩ := List.mem_map.mp hx
  rfl

theorem t_attr {o : Expr} {n : Str} {i : Nat} {pos : Pos} {f : Fr → St → R PV} (hn : X.attrs[i]? = some n) (h : EOk X C lvl o f) : TOk X C lvl (.Attribute o n pos) fun fr v σ => (f fr σ).bind fun x σ => (setattr x i v σ).bind fun _ σ => .ok fr σ := fun A fs env fr ρ σ s v u a r => by
  rw [arm_assign_Attribute]
  refine Ok.bind_ (Ok.holding (h _ _ _ _ _ _ _ a)) a.thereW fun x σ1 ρ1 b s1 _ _ I1 r1 T1 => Ok.standAt ?_
  have a1 := a.next I1 T1
  refine Ok.bind_ (Ok.holding (setattr_ok I1 r1 (r.step T1 noSeq_nil) hn)) a1.thereW fun _ σ2 ρ2 _ s2 _ _ I2 _ T2 => ?_
  have a2 := a1.next I2 T2
  refine Ok.widen a2.thereW fun _ => wpAny_release ⟨fr, σ2, ρ2, rfl, .refl _, I2, a2.F, Step.refl⟩
theorem t_sub {o i : Expr} {pos : Pos} {f g : Fr → St → R PV} (h : EOk X C lvl o f) (hi : EOk X C lvl i g) : TOk X C lvl (.Subscript o i pos) fun fr v σ => (f fr σ).bind fun x σ => (g fr σ).bind fun y σ => (setitem x y v σ).bind fun _ σ => .ok fr σ := fun A fs env fr ρ σ s v u a r => by
  rw [arm_assign_Subscript]
  refine Ok.bind_ (Ok.holding (h _ _ _ _ _ _ _ a)) a.thereW fun x σ1 ρ1 b s1 _ _ I1 r1 T1 => ?_
  have a1 := a.next I1 T1
  refine Ok.bind_ (Ok.holding (hi _ _ _ _ _ _ _ a1)) a1.thereW fun y σ2 ρ2 c s2 _ _ I2 r2 T2 => Ok.standAt ?_
  have a2 := a1.next I2 T2
  refine Ok.bind_ (Ok.holding (setitem_ok I2 (r1.step T2 noSeq_nil) r2 ((r.step T1 noSeq_nil).step T2 noSeq_nil))) a2.thereW fun _ σ3 ρ3 _ s3 _ _ I3 _ T3 => ?_
  have a3 := a2.next I3 T3
  refine Ok.widen a3.thereW fun _ => wpAny_release ⟨fr, σ3, ρ3, rfl, .refl _, I3, a3.F, Step.refl⟩
end
end Mine
end

section
set_option autoImplicit false
set_option linter.unusedVariables false
set_option maxRecDepth 100000
namespace Mine
open PySem PySem.W PyProof.Rows PySem.SeqAt

/-! how a loop ran -/
inductive Run {α : Type} (body : PV → α → St → R (Sum α PV)) (src : Src) : Nat → Nat → α → St → R (Sum α PV) → Prop
  | fin {n i : Nat} {a : α} {σ : St} : src.at i σ = some none → Run body src n i a σ (.ok (.inl a) σ)
  | turn {n i : Nat} {a a' : α} {σ σ' : St} {x : PV} {r : R (Sum α PV)} : src.at i σ = some (some x) → body x a σ = .ok (.inl a') σ' → Run body src n (i + 1) a' σ' r → Run body src (n + 1) i a σ r
  | out {n i : Nat} {a : α} {σ σ' : St} {x v : PV} : src.at i σ = some (some x) → body x a σ = .ok (.inr v) σ' → Run body src n i a σ (.ok (.inr v) σ')
  | exc {n i c : Nat} {a : α} {σ σ' : St} {x : PV} : src.at i σ = some (some x) → body x a σ = .exc c σ' → Run body src n i a σ (.exc c σ')

section
variable {α : Type} {body : PV → α → St → R (Sum α PV)}
theorem drop_at {xs l : List PV} {x : PV} {i : Nat} (h : x :: l = xs.drop i) : xs[i]? = some x ∧ l = xs.drop (i + 1) := by
  refine ⟨?_, ?_⟩
  · have : (xs.drop i)[0]? = some x := by rw [← h]; rfl
    rw [List.getElem?_drop] at this; exact this
  · have := congrArg List.tail h
    rw [List.tail_drop] at this; exact this
theorem drop_end {xs : List PV} {i : Nat} (h : [] = xs.drop i) : xs[i]? = none := List.getElem?_eq_none_iff.mpr (List.drop_eq_nil_iff.mp h.symm)
theorem run_step {src : Src} {n i : Nat} {a : α} {σ : St} {x : PV} {f : α → St → R (Sum α PV)} (hx : src.at i σ = some (some x)) (ns : (body x a σ).bind (fun r σ => match r with
      | .inl a => f a σ
      | .inr v => .ok (.inr v) σ) ≠ .stuck) (ih : ∀ a σ, f a σ ≠ .stuck → Run body src n (i + 1) a σ (f a σ)) :
    Run body src (n + 1) i a σ ((body x a σ).bind fun r σ => match r with
      | .inl a => f a σ
      | .inr v => .ok (.inr v) σ) := by
  cases e : body x a σ with
  | stuck => rw [e] at ns; exact absurd rfl ns
  | exc c σ' => exact .exc hx e
  | ok r σ' =>
    rw [e] at ns
    cases r with
    | inl a' => exact .turn hx e (ih _ _ ns)
    | inr v => exact .out hx e
theorem run_imm {xs l : List PV} : ∀ {i : Nat} {a : α} {σ : St}, l = xs.drop i → loopI body l a σ ≠ .stuck → Run body (.imm xs) l.length i a σ (loopI body l a σ) := by
  induction l with
  | nil => intro i a σ h ns; exact .fin (congrArg some (drop_end h))
  | cons x l ih => intro i a σ h ns; exact run_step (congrArg some (drop_at h).1) ns fun a σ ns => ih (drop_at h).2 ns
theorem junk_of {β : Type} {o : Option PO} {r : R β} (ns : junkR o r ≠ .stuck) : o = some .junk := by
  cases o with
  | none => exact absurd rfl ns
  | some o =>
    cases o with
    | junk => rfl
    | _ => exact absurd rfl ns
theorem lst_of {β : Type} {o : Option PO} {f : List PV → R β} (ns : lstO o f ≠ .stuck) : ∃ xs, o = some (.list xs) := by
  cases o with
  | none => exact absurd rfl ns
  | some o =>
    cases o with
    | list xs => exact ⟨_, rfl⟩
    | _ => exact absurd rfl ns
theorem zip_junk {l : List PV} {k : Nat} {a : α} {σ : St} (ns : loopZ body k l a σ ≠ .stuck) : σ[k]? = some .junk := by
  cases l with
  | nil => exact junk_of (r := (.ok (.inl a) σ : R (Sum α PV))) ns
  | cons x l => exact junk_of (r := (body x a σ).bind _) ns
theorem loopZ_nil {k : Nat} {a : α} {σ : St} (h : σ[k]? = some .junk) : loopZ body k [] a σ = .ok (.inl a) σ := by
  show junkR σ[k]? _ = _
  rw [h]; rfl
theorem loopZ_cons {k : Nat} {a : α} {σ : St} {x : PV} {xs : List PV} (h : σ[k]? = some .junk) : loopZ body k (x :: xs) a σ = (body x a σ).bind fun r σ => match r with
              | .inl a => loopZ body k xs a σ
              | .inr v => .ok (.inr v) σ := by
  show junkR σ[k]? _ = _
  rw [h]; rfl
theorem run_zip {xs l : List PV} {k : Nat} : ∀ {i : Nat} {a : α} {σ : St}, l = xs.drop i → loopZ body k l a σ ≠ .stuck → Run body (.zip xs k) l.length i a σ (loopZ body k l a σ) := by
  induction l with
  | nil =>
    intro i a σ h ns
    have hj := zip_junk ns
    rw [loopZ_nil hj]
    refine .fin ?_
    show (match σ[k]? with | some .junk => some xs[i]? | _ => none) = _
    rw [hj, drop_end h]
  | cons x l ih =>
    intro i a σ h ns
    have hj := zip_junk ns
    rw [loopZ_cons hj] at ns ⊢
    refine run_step ?_ ns fun a σ ns => ih (drop_at h).2 ns
    show (match σ[k]? with | some .junk => some xs[i]? | _ => none) = _
    rw [hj, (drop_at h).1]
theorem lst_at {l i : Nat} {xs : List PV} {σ : St} (h : σ[l]? = some (.list xs)) : Src.at (.lst l) i σ = some xs[i]? := by
  show (match σ[l]? with | some (.list xs) => some xs[i]? | _ => none) = _
  rw [h]
theorem loopL_end {l k i : Nat} {a : α} {σ : St} {xs : List PV} (h : σ[l]? = some (.list xs)) (hi : xs[i]? = none) : loopL body l (k + 1) i a σ = .ok (.inl a) σ := by
  show lstO σ[l]? _ = _
  rw [h]
  show endO xs[i]? _ _ = _
  rw [hi]; rfl
theorem loopL_item {l k i : Nat} {a : α} {σ : St} {xs : List PV} {x : PV} (h : σ[l]? = some (.list xs)) (hi : xs[i]? = some x) : loopL body l (k + 1) i a σ = (body x a σ).bind fun r σ => match r with
              | .inl a => loopL body l k (i + 1) a σ
              | .inr v => .ok (.inr v) σ := by
  show lstO σ[l]? _ = _
  rw [h]
  show endO xs[i]? _ _ = _
  rw [hi]; rfl
theorem run_lst {l k : Nat} : ∀ {i : Nat} {a : α} {σ : St}, loopL body l k i a σ ≠ .stuck → Run body (.lst l) k i a σ (loopL body l k i a σ) := by
  induction k with
  | zero => intro i a σ ns; exact absurd rfl ns
  | succ k ih =>
    intro i a σ ns
    obtain ⟨xs, hx⟩ := lst_of (o := σ[l]?) ns
    cases hi : xs[i]? with
    | none => rw [loopL_end hx hi]; exact .fin (by rw [lst_at hx, hi])
    | some x =>
      rw [loopL_item hx hi] at ns ⊢
      exact run_step (by rw [lst_at hx, hi]) ns fun a σ ns => ih ns
theorem run_of {src : Src} {a : α} {σ : St} (ns : loopS body src a σ ≠ .stuck) : ∃ n, Run body src n 0 a σ (loopS body src a σ) := by
  cases src with
  | imm xs => exact ⟨_, run_imm (xs := xs) rfl ns⟩
  | lst l => exact ⟨_, run_lst ns⟩
  | zip xs k => exact ⟨_, run_zip (xs := xs) rfl ns⟩
theorem run_cases {src : Src} {n i : Nat} {a : α} {σ : St} {lr : R (Sum α PV)} (hr : Run body src n i a σ lr) : (src.at i σ = some none ∧ lr = .ok (.inl a) σ) ∨ ∃ x r', src.at i σ = some (some x) ∧ body x a σ = r' ∧ r' ≠ .stuck ∧ (∀ c σ', r' = .exc c σ' → lr = .exc c σ') ∧
    (∀ a' σ', r' = .ok (.inl a') σ' → ∃ m, m < n ∧ Run body src m (i + 1) a' σ' lr) ∧ ∀ v σ', r' = .ok (.inr v) σ' → lr = .ok (.inr v) σ' := by
  cases hr with
  | fin hat => exact .inl ⟨hat, rfl⟩
  | turn hat hb hr' => exact .inr ⟨_, _, hat, hb, (fun q => by cases q), (fun _ _ q => by cases q), (fun _ _ q => by cases q; exact ⟨_, Nat.lt_succ_self _, hr'⟩), fun _ _ q => by cases q⟩
  | out hat hb => exact .inr ⟨_, _, hat, hb, (fun q => by cases q), (fun _ _ q => by cases q), (fun _ _ q => by cases q), fun _ _ q => by cases q; rfl⟩
  | exc hat hb => exact .inr ⟨_, _, hat, hb, (fun q => by cases q), (fun _ _ q => by cases q; rfl), (fun _ _ q => by cases q), fun _ _ q => by cases q⟩
end

/-! what a comprehension's scope catches -/
noncomputable def capt (env : Env) : List (Str × NameKind) → List (Str × Addr) → List (Str × Addr)
  | [], acc => acc
  | (n, k) :: r, acc => if (k == .free) = true then (match env.cells.lookup n with
      | some a => capt env r ((n, a) :: acc)
      | none => capt env r acc) else capt env r acc
theorem capt_cons {env : Env} {n : Str} {k : NameKind} {r : List (Str × NameKind)} {acc : List (Str × Addr)} : (k = .free ∧ ∃ a, env.cells.lookup n = some a ∧ capt env ((n, k) :: r) acc = capt env r ((n, a) :: acc)) ∨ ((k ≠ .free ∨ env.cells.lookup n = none) ∧ capt env ((n, k) :: r) acc = capt env r acc) := by
  have e : capt env ((n, k) :: r) acc = if (k == .free) = true then (match env.cells.lookup n with
      | some a => capt env r ((n, a) :: acc)
      | none => capt env r acc) else capt env r acc := rfl
  rw [e]
  by_cases hk : (k == .free) = true
  · rw [if_pos hk]
    cases hc : env.cells.lookup n with
    | none => exact .inr ⟨.inr rfl, rfl⟩
    | some a => exact .inl ⟨beq_iff_eq.mp hk, a, rfl, rfl⟩
  · rw [if_neg hk]; exact .inr ⟨.inl fun q => hk (beq_iff_eq.mpr q), rfl⟩
theorem capt_mem {env : Env} {n : Str} {c : Addr} {l : List (Str × NameKind)} : ∀ {acc : List (Str × Addr)}, (n, c) ∈ capt env l acc → (n, c) ∈ acc ∨ ((n, .free) ∈ l ∧ env.cells.lookup n = some c) := by
  induction l with
  | nil => intro acc h; exact .inl h
  | cons p r ih =>
    intro acc h
    obtain ⟨m, k⟩ := p
    rcases capt_cons (env := env) (n := m) (k := k) (r := r) (acc := acc) with ⟨hk, a, ha, e⟩ | ⟨_, e⟩
    · rw [e] at h
      rcases ih h with q | ⟨q, q'⟩
      · rcases List.mem_cons.mp q with q | q
        · cases q; rw [hk]; exact .inr ⟨List.mem_cons_self, ha⟩
        · exact .inl q
      · exact .inr ⟨List.mem_cons_of_mem _ q, q'⟩
    · rw [e] at h
      rcases ih h with q | ⟨q, q'⟩
      · exact .inl q
      · exact .inr ⟨List.mem_cons_of_mem _ q, q'⟩
theorem capt_keeps {env : Env} {n : Str} {c : Addr} {l : List (Str × NameKind)} : ∀ {acc : List (Str × Addr)}, (n, c) ∈ acc → (n, c) ∈ capt env l acc := by
  induction l with
  | nil => intro acc h; exact h
  | cons p r ih =>
    intro acc h
    obtain ⟨m, k⟩ := p
    rcases capt_cons (env := env) (n := m) (k := k) (r := r) (acc := acc) with ⟨hk, a, ha, e⟩ | ⟨_, e⟩
    · rw [e]; exact ih (List.mem_cons_of_mem _ h)
    · rw [e]; exact ih h
theorem capt_has {env : Env} {n : Str} {c : Addr} (hc : env.cells.lookup n = some c) {l : List (Str × NameKind)} : ∀ {acc : List (Str × Addr)}, (n, .free) ∈ l → (n, c) ∈ capt env l acc := by
  induction l with
  | nil => intro acc h; cases h
  | cons p r ih =>
    intro acc h
    obtain ⟨m, k⟩ := p
    rcases capt_cons (env := env) (n := m) (k := k) (r := r) (acc := acc) with ⟨hk, a, ha, e⟩ | ⟨hk, e⟩
    · rw [e]
      rcases List.mem_cons.mp h with q | q
      · cases q; rw [hc] at ha; cases ha; exact capt_keeps List.mem_cons_self
      · exact ih q
    · rw [e]
      rcases List.mem_cons.mp h with q | q
      · cases q
        rcases hk with hk | hk
        · exact absurd rfl hk
        · rw [hc] at hk; cases hk
      · exact ih q
theorem lookup_of_mem {n : Str} {c : Addr} {l : List (Str × Addr)} (h : (n, c) ∈ l) (u : ∀ c', (n, c') ∈ l → c' = c) : l.lookup n = some c := by
  induction l with
  | nil => cases h
  | cons p l ih =>
    obtain ⟨m, d⟩ := p
    rw [List.lookup_cons]
    cases e : n == m with
    | true =>
      cases beq_iff_eq.mp e
      rw [u d List.mem_cons_self]
    | false =>
      refine ih ?_ fun c' hc' => u c' (List.mem_cons_of_mem _ hc')
      rcases List.mem_cons.mp h with q | q
      · cases q; rw [beq_self_eq_true] at e; cases e
      · exact q
theorem capt_lookup {env : Env} {n : Str} {c : Addr} {l : List (Str × NameKind)} (hc : env.cells.lookup n = some c) (h : (n, .free) ∈ l) : (capt env l []).lookup n = some c :=
  lookup_of_mem (capt_has hc h) fun c' h' => by
    rcases capt_mem h' with q | ⟨_, q⟩
    · cases q
    · rw [hc] at q; cases q; rfl

theorem closureFor_capt {env : Env} {scope : Scope} (h : ∀ n, (n, NameKind.free) ∈ scope.names → ∃ c, env.cells.lookup n = some c) : closureFor scope env = pure (capt env scope.names []) := by
  unfold closureFor
  have key : ∀ (l : List (Str × NameKind)) (acc : List (Str × Addr)), (∀ n, (n, NameKind.free) ∈ l → ∃ c, env.cells.lookup n = some c) →
      (forIn l acc fun (x : Str × NameKind) (r : List (Str × Addr)) => (match x with | (name, kind) => if (kind == NameKind.free) = true then (do let c ← cellOf env name; pure (ForInStep.yield ((name, c) :: r))) else pure (ForInStep.yield r) : Sem (ForInStep (List (Str × Addr))))) = pure (capt env l acc) := by
    intro l
    induction l with
    | nil => intro acc _; rfl
    | cons x l ih =>
      intro acc hl
      obtain ⟨n, k⟩ := x
      rw [List.forIn_cons]
      dsimp only
      by_cases hk : (k == NameKind.free) = true
      · cases beq_iff_eq.mp hk
        obtain ⟨c, hc⟩ := hl n List.mem_cons_self
        rw [if_pos (show (NameKind.free == NameKind.free) = true from rfl), show capt env ((n, .free) :: l) acc = capt env l ((n, c) :: acc) by show (match env.cells.lookup n with | some a => capt env l ((n, a) :: acc) | none => _) = _; rw [hc]]
        simp only [cellOf, hc, pure_bind]
        exact ih _ fun m hm => hl m (List.mem_cons_of_mem _ hm)
      · rw [if_neg hk, show capt env ((n, k) :: l) acc = capt env l acc from if_neg hk]
        simp only [pure_bind]
        exact ih _ fun m hm => hl m (List.mem_cons_of_mem _ hm)
  have := key scope.names [] h
  simp only [bind_pure]
  exact this
end Mine
end

section
set_option autoImplicit false
set_option linter.unusedVariables false
set_option maxRecDepth 100000
namespace Mine
open PySem PySem.W PyProof.Rows PySem.SeqAt

/-- what the comprehension's own scope is to the scope around -/
structure CompC (C : SC) (scope : Scope) (C' : SC) : Prop where
  code : C'.code = C.code
  kind : scope.kind = .function
  nocell : ∀ y ∈ scope.names, y.2 ≠ .cell
  locals : ∀ y ∈ scope.names, y.2 = .local → scope.names.lookup y.1 = some .local
  names : C'.names = scope.names.map fun (n, k) => if (k == .free && C.names.lookup n == some .cell) then (n, .cell) else (n, k)
  frees : ∀ n, (n, .free) ∈ scope.names → (C.names.lookup n = some .cell ∨ C.names.lookup n = some .free) ∧ ∃ i, (n, i) ∈ C.Γ
  gam : ∀ n i, (n, i) ∈ C'.Γ → (C'.names.lookup n = some .local ∧ C.base ≤ i) ∨ ((n, .free) ∈ scope.names ∧ (n, i) ∈ C.Γ ∧ (C'.names.lookup n = some .cell ∨ C'.names.lookup n = some .free))
  inj : ∀ n n' i, (n, i) ∈ C'.Γ → (n', i) ∈ C'.Γ → n = n'
  one : ∀ n i i', (n, i) ∈ C'.Γ → (n, i') ∈ C'.Γ → i = i'

theorem rep_none {n i : Nat} {v : PV} : (List.replicate n (none : Option PV))[i]? ≠ some (some v) := by
  rw [List.getElem?_replicate]
  by_cases h : i < n
  · rw [if_pos h]; exact fun q => nomatch q
  · rw [if_neg h]; exact fun q => nomatch q
theorem app_none {fr : Fr} {n i : Nat} {v : PV} (h : (fr ++ List.replicate n none)[i]? = some (some v)) : fr[i]? = some (some v) := by
  rcases Nat.lt_or_ge i fr.length with q | q
  · rwa [List.getElem?_append_left q] at h
  · rw [List.getElem?_append_right q] at h
    exact absurd h rep_none

section
variable {X : Cx} {S : SX} {C C' : SC} {lvl : Nat} {A : Around} {W fs : List Addr} {env : Env} {fr : Fr} {ρ ρ' : Rho} {σ σ' : St} {s s' : Shared}

theorem comp_names {scope : Scope} (cc : CompC C scope C') (hk : env.scope.kind = .function) (hn : env.scope.names = C.names) : (relabel scope env).names = C'.names := by
  rw [cc.names]
  show scope.names.map _ = _
  apply List.map_congr_left
  intro x _
  obtain ⟨n, k⟩ := x
  have : env.kindOf n = C.names.lookup n := by unfold Env.kindOf; rw [hn]
  simp only [hk, this, beq_self_eq_true, Bool.and_true]

theorem comp_frame {scope : Scope} (cc : CompC C scope C') (F : FrR X C.Γ env fr ρ s.heap) (hn : env.scope.names = C.names) (I : Rp X ρ σ s.heap) (hl : fr.length = C.base) {L : Addr} {width : Nat} {h1 : Heap} (hL : s.heap.get? L = none) (kp : ∀ b o, s.heap.get? b = some o → h1.get? b = some o)
    (hns : h1.Ns L fun _ => none) : FrR X C'.Γ (compEnvC scope (capt env scope.names []) L env) (fr ++ List.replicate width none) ρ h1 := by
  have kd : ∀ n, (compEnvC scope (capt env scope.names []) L env).kindOf n = C'.names.lookup n := fun n => by
    show List.lookup n (relabel scope env).names = _
    rw [comp_names cc F.kind hn]
  have ke : ∀ n, env.kindOf n = C.names.lookup n := fun n => by unfold Env.kindOf; rw [hn]
  have T : ∀ fs, Step [] fs ρ ρ s.heap h1 := fun fs => Step.of_keeps kp
  have cm : ∀ c, c ∈ (capt env scope.names []).map (·.2) → c ∈ frameAddrs env := fun c hc => by
    obtain ⟨⟨n, c'⟩, hm, rfl⟩ := List.mem_map.mp hc
    rcases capt_mem hm with q | ⟨_, q⟩
    · cases q
    · simp [frameAddrs]; exact .inr ⟨n, lookup_mem q⟩
  refine ⟨cc.kind, F.glob, F.bi, fun n i h => ?_, cc.inj, cc.one, ⟨_, hns, fun n i h hk v hv => ?_⟩, fun n i h hk => ?_, fun a ha => ?_, fun q => ?_, fun n n' c h h' => ?_⟩
  · rw [kd]
    rcases cc.gam n i h with ⟨q, _⟩ | ⟨_, _, q⟩
    · exact .inl q
    · exact .inr q
  · exfalso
    rw [kd] at hk
    rcases cc.gam n i h with ⟨_, q⟩ | ⟨_, _, q⟩
    · rw [List.getElem?_append_right (by omega)] at hv
      exact rep_none hv
    · rw [hk] at q; rcases q with q | q <;> cases q
  · rw [kd] at hk
    rcases cc.gam n i h with ⟨q, _⟩ | ⟨q1, q2, q3⟩
    · rw [q] at hk; rcases hk with hk | hk <;> cases hk
    · obtain ⟨c, cur, hc, hcell, r⟩ := F.cells n i q2 (by rw [ke]; exact (cc.frees n q1).1)
      refine ⟨c, cur, capt_lookup hc q1, hcell.keeps kp, fun v hv => ?_⟩
      obtain ⟨u, e1, e2⟩ := r v (app_none hv)
      exact ⟨u, e1, e2.step (T []) noSeq_nil⟩
  · rcases List.mem_cons.mp ha with rfl | ha
    · exact ⟨I.offNew hL, base_none I.base hL, ns_data hns⟩
    · obtain ⟨a1, a2, o, e, a3⟩ := F.off a (cm a ha)
      exact ⟨a1, a2, o, kp _ _ e, a3⟩
  · obtain ⟨_, _, o, e, _⟩ := F.off _ (cm _ q)
    have e : s.heap.get? L = some o := e
    rw [hL] at e; cases e
  · rcases capt_mem h with q | ⟨_, q⟩
    · cases q
    · rcases capt_mem h' with q' | ⟨_, q'⟩
      · cases q'
      · exact F.once n n' c (lookup_mem q) (lookup_mem q')

/-! the targets of a comprehension -/
noncomputable def LocalAt (C : SC) (e : Expr) (i : Nat) : Prop := ∃ n pos, e = .Name n pos ∧ (n, i) ∈ C.Γ ∧ C.names.lookup n = some .local
noncomputable def TgtOk (C : SC) (t : Expr) (tgt : List Nat) (isTup : Bool) : Prop :=
  (isTup = false ∧ ∃ i, tgt = [i] ∧ LocalAt C t i) ∨ (isTup = true ∧ ∃ es k pos, t = .Tuple es k pos ∧ All2 (LocalAt C) es tgt)

theorem local_ok {e : Expr} {i : Nat} (hi : LocalAt C e i) (I : Rp X ρ σ s.heap) (F : FrR X C.Γ env fr ρ s.heap) (hn : env.scope.names = C.names) {v : PV} {u : Value} (r : VRep s.heap ρ v u) {Q : Unit → Shared → Prop} {E : Value → Shared → Prop}
    (h : ∀ h' k, Rp X ρ σ h' → FrR X C.Γ env (fr.set i (some v)) ρ h' → (∀ fs, Step [env.locals] fs ρ ρ s.heap h') → Q () { s with heap := h', toks := k }) : wpAny (model X.prog X.w) A (assign e env u) Q E s := by
  obtain ⟨n, pos, rfl, hm, hk⟩ := hi
  have hk' : env.kindOf n = some .local := by unfold Env.kindOf; rw [hn]; exact hk
  rw [arm_assign_Name]
  refine wpAny_bind (wpAny_standAt (store_name I F hm (by rw [hk']; simp) r fun h' k a _ ha I' F' T => h h' k I' F' fun fs => T _ _ ?_))
  rw [ha hk']; simp
theorem setAll_cons {fr fr' : Fr} {i : Nat} {is : List Nat} {v : PV} {vs : List PV} (h : setAll fr (i :: is) (v :: vs) = some fr') : i < fr.length ∧ setAll (fr.set i (some v)) is vs = some fr' := by
  have h : (if i < fr.length then setAll (fr.set i (some v)) is vs else none) = some fr' := h
  by_cases hi : i < fr.length
  · rw [if_pos hi] at h; exact ⟨hi, h⟩
  · rw [if_neg hi] at h; cases h
theorem locals_ok {es : List Expr} {is : List Nat} (hs : All2 (LocalAt C) es is) : ∀ {fr fr' : Fr} {s : Shared} {vs : List PV} {us : List Value} {Q : Unit → Shared → Prop} {E : Value → Shared → Prop}, Rp X ρ σ s.heap → FrR X C.Γ env fr ρ s.heap → env.scope.names = C.names → VReps s.heap ρ vs us →
    setAll fr is vs = some fr' → (∀ h' k, Rp X ρ σ h' → FrR X C.Γ env fr' ρ h' → (∀ fs, Step [env.locals] fs ρ ρ s.heap h') → Q () { s with heap := h', toks := k }) → wpAny (model X.prog X.w) A (assignInOrder (es.map fun e => assign e env) us) Q E s := by
  induction hs with
  | nil =>
    intro fr fr' s vs us Q E I F hn r e h
    cases r with
    | nil => cases e; exact wpAny_pure (h s.heap s.toks I F fun _ => Step.refl)
    | cons => cases e
  | cons q qs ih =>
    intro fr fr' s vs us Q E I F hn r e h
    cases r with
    | nil => cases e
    | cons r rs =>
      rename_i i _ is _ v us
      obtain ⟨hi, e⟩ := setAll_cons e
      refine wpAny_bind (wpAny_holding (local_ok q I F hn r fun h1 k1 I1 F1 T1 => ?_))
      have N : NoSeq [env.locals] s.heap := fun a ha => by rw [List.mem_singleton.mp ha]; exact F.noSeq _ List.mem_cons_self
      exact ih I1 F1 hn (rs.step (T1 []) N) e fun h2 k2 I2 F2 T2 => h h2 k2 I2 F2 fun fs => (T1 fs).trans (T2 fs)

theorem notStar_local {e : Expr} {i : Nat} (h : LocalAt C e i) : notStar e = true := by obtain ⟨n, pos, rfl, _⟩ := h; rfl
theorem notStar_locals {es : List Expr} {is : List Nat} (hs : All2 (LocalAt C) es is) : ∀ e, e ∈ es → notStar e = true := by
  induction hs with
  | nil => exact fun _ h => nomatch h
  | cons q _ ih =>
    intro e h
    rcases List.mem_cons.mp h with h | h
    · rw [h]; exact notStar_local q
    · exact ih e h
theorem setAll_len {is : List Nat} : ∀ {vs : List PV} {fr fr' : Fr}, setAll fr is vs = some fr' → is.length = vs.length := by
  induction is with
  | nil => intro vs fr fr' e; cases vs <;> first | rfl | cases e
  | cons i is ih =>
    intro vs fr fr' e
    cases vs with
    | nil => cases e
    | cons v vs => exact congrArg (· + 1) (ih (setAll_cons e).2)
theorem bindT_ok {t : Expr} {tgt : List Nat} {isTup : Bool} (ht : TgtOk C t tgt isTup) (hh : A.handled = none) (I : Rp X ρ σ s.heap) (F : FrR X C.Γ env fr ρ s.heap) (hn : env.scope.names = C.names) {v : PV} {u : Value} (r : VRep s.heap ρ v u) {fr' : Fr} (e : bindT fr tgt isTup v = some fr')
    {Q : Unit → Shared → Prop} {E : Value → Shared → Prop} (h : ∀ h' k, Rp X ρ σ h' → FrR X C.Γ env fr' ρ h' → (∀ fs, Step [env.locals] fs ρ ρ s.heap h') → Q () { s with heap := h', toks := k }) : wpAny (model X.prog X.w) A (assign t env u) Q E s := by
  rcases ht with ⟨rfl, i, rfl, hi⟩ | ⟨rfl, es, k, pos, rfl, hi⟩
  · obtain ⟨_, e⟩ := setAll_cons (is := []) (vs := []) e
    cases e
    exact local_ok hi I F hn r h
  · cases v with
    | tup vs =>
      have e : setAll fr tgt vs = some fr' := e
      rw [arm_assign_Tuple, assignEach_of es env (notStar_locals hi)]
      refine wpAny_bind (wpAny_standAt ?_)
      unfold unpack
      rw [no_star, List.map_map, List.length_map, hi.length, setAll_len e]
      refine wpAny_bind (wpAny_holding (unpackItems_ok hh I r rfl fun us h' hu I' T rr => ?_))
      exact locals_ok hi I' (F.step (T [] [])) hn rr e fun h2 k2 I2 F2 T2 => h h2 k2 I2 F2 fun fs => (T _ fs).trans (T2 fs)
    | _ => cases e

/-! the tests of a comprehension -/
noncomputable def testsOf (ifs : List Expr) (env : Env) (b : Bool) : Sem Bool := forIn ifs b fun c r => if r = true then do let ok ← isTrue c env (eval c env); pure (ForInStep.yield ok) else pure (ForInStep.yield r)
theorem tests_false (ifs : List Expr) (env : Env) : testsOf ifs env false = pure false := by
  induction ifs with
  | nil => rfl
  | cons e r ih =>
    unfold testsOf at ih ⊢
    rw [List.forIn_cons, if_neg Bool.false_ne_true, pure_bind]
    exact ih
theorem tests_cons (e : Expr) (r : List Expr) (env : Env) : testsOf (e :: r) env true = (isTrue e env (eval e env) >>= fun b => testsOf r env b) := by
  unfold testsOf
  rw [List.forIn_cons]
  simp only [if_true, bind_assoc, pure_bind]
theorem tests_ok {ec : Fr → IE → St → R Bool} {es : List Expr} {ies : List IE} (hs : All2 (fun e ie => BOk X C lvl e fun fr σ => ec fr ie σ) es ies) : ∀ {A fs env fr ρ σ s}, At X C lvl A fs env fr ρ σ s →
    Ok X A [] fs ρ s relEq (testsOf es env true) (evIfs (ec fr) ies σ) := by
  induction hs with
  | nil => intro A fs env fr ρ σ s a; exact Ok.ret a.I rfl
  | cons h r ih =>
    intro A fs env fr ρ σ s a
    rw [tests_cons]
    refine Ok.bind (h _ _ _ _ _ _ _ a) fun t σ' ρ' b s' _ _ I' rt T => ?_
    cases rt
    cases t
    · rw [tests_false]; exact Ok.ret I' rfl
    · exact ih (a.next I' T)

theorem Step.loc' {h h1 h3 : Heap} {ρ ρ1 ρ2 : Rho} (T : Step [] fs ρ ρ1 h h1) (S : Step W fs ρ1 ρ2 h1 h3) (hW : ∀ w, w ∈ W → h.get? w = none) : Step [] fs ρ ρ2 h h3 := by
  have nw : ∀ a o, h.get? a = some o → a ∉ W := fun a o e q => by rw [hW a q] at e; cases e
  refine ⟨?_, fun a o e n _ => ?_, fun a o e _ => ?_, fun a q => ?_, fun _ w => nomatch w⟩
  · obtain ⟨τ, rfl⟩ := T.pre
    obtain ⟨τ', rfl⟩ := S.pre
    exact ⟨τ ++ τ', by simp⟩
  · have n1 := T.offNew e n
    obtain ⟨k1, sl, k2⟩ := T.keep a o e n (by simp)
    refine ⟨fun nf => (S.keep a o (k1 nf) n1 (nw a o e)).1 nf, ?_⟩
    obtain ⟨_, sl', k3⟩ := S.keep a _ k2 n1 (nw a o e)
    exact ⟨sl', k3⟩
  · obtain ⟨o', e'⟩ := T.there a o e (by simp)
    exact S.there a o' e' (nw a o e)
  · rcases S.fresh a q with q | q
    · exact T.fresh a q
    · right
      cases e : h.get? a with
      | none => rfl
      | some o => obtain ⟨o', e'⟩ := T.there a o e (by simp); rw [e'] at q; cases q
end
end Mine
end

section
set_option autoImplicit false
set_option linter.unusedVariables false
set_option maxRecDepth 100000
namespace Mine
open PySem PySem.W PyProof.Rows PySem.SeqAt

noncomputable def turnOf (iter target : Expr) (ifs : List Expr) (emit : Sem Unit) (code : Code) (it : Value) (env : Env) : Sem Fin := do
  standAt iter.pos
  match ← pyNext it with
  | none => pure (.done .next)
  | some v =>
    letOwnedTupleGo target it v
    assign target env v
    let mut ok := true
    for c in ifs do
      if ok then ok ← isTrue c env (eval c env)
    if ok then emit
    again code

noncomputable def restOf (target : Expr) (ifs : List Expr) (emit : Sem Unit) (code : Code) (env : Env) (u : Value) : Sem Fin := assign target env u >>= fun _ => testsOf ifs env true >>= fun ok => if ok = true then emit >>= fun _ => again code else again code
theorem turn_eq (iter target : Expr) (ifs : List Expr) (emit : Sem Unit) (code : Code) (it : Value) (env : Env) : turnOf iter target ifs emit code it env = (standAt iter.pos >>= fun _ => pyNext it >>= fun r => match r with
    | none => pure (.done .next)
    | some v => letOwnedTupleGo target it v >>= fun _ => restOf target ifs emit code env v) := rfl
theorem turn_some {M : Model} {A : Around} {iter target : Expr} {ifs : List Expr} {emit : Sem Unit} {code : Code} {it : Value} {env : Env} {Q : Fin → Shared → Prop} {E : Value → Shared → Prop} {s : Shared}
    (h : wpAny M A (pyNext it) (fun r s1 => match r with
      | some u => wpAny M A (letOwnedTupleGo target it u) (fun _ s2 => wpAny M A (restOf target ifs emit code env u) Q E s2) E s1
      | none => False) E s) : wpAny M A (turnOf iter target ifs emit code it env) Q E s := by
  rw [turn_eq]
  refine wpAny_bind (wpAny_standAt (wpAny_bind (wpAny_mono h (fun r s1 h1 => ?_) fun _ _ q => q)))
  cases r with
  | none => exact h1.elim
  | some u => exact wpAny_bind h1
theorem turn_none {M : Model} {A : Around} {iter target : Expr} {ifs : List Expr} {emit : Sem Unit} {code : Code} {it : Value} {env : Env} {Q : Fin → Shared → Prop} {E : Value → Shared → Prop} {s : Shared}
    (h : wpAny M A (pyNext it) (fun r s1 => r = none ∧ Q (.done .next) s1) E s) : wpAny M A (turnOf iter target ifs emit code it env) Q E s := by
  rw [turn_eq]
  refine wpAny_bind (wpAny_standAt (wpAny_bind (wpAny_mono h (fun r s1 h1 => ?_) fun _ _ q => q)))
  obtain ⟨rfl, h1⟩ := h1
  exact wpAny_pure h1

/-- a growing thing that no store place owns yet -/
structure Acc {α : Type} (X : Cx) (AR : Heap → Rho → α → Addr → Prop) (po : α → PO) : Prop where
  step : ∀ {W fs ρ ρ' h h' a D}, Step W fs ρ ρ' h h' → NoSeq W h → D ∉ W → D ∉ fs → D ∉ owned ρ → AR h ρ a D → AR h' ρ' a D
  nt : ∀ {h ρ a D}, AR h ρ a D → ∀ items, ¬ h.IsTuple D items
  th : ∀ {h ρ a D}, AR h ρ a D → ∃ o, h.get? D = some o
  ad : ∀ {h ρ a D}, AR h ρ a D → ORep X h (ρ ++ [(D, none)]) (po a) (D, none)

section
variable {X : Cx} {S : SX} {C C' : SC} {lvl : Nat} {A : Around} {W fs : List Addr} {env : Env} {fr : Fr} {ρ ρ' : Rho} {σ σ' : St} {s s' : Shared}

/-- how the loop of a comprehension stands -/
structure CInv {α : Type} (X : Cx) (C' : SC) (fs W : List Addr) (cenv : Env) (J : Nat → Heap → Rho → Prop) (AR : Heap → Rho → α → Addr → Prop) (D : Addr) (ρ1 : Rho) (s1 : Shared) (i : Nat) (a : Fr × α) (σ : St) (ρ : Rho) (s : Shared) : Prop where
  I : Rp X ρ σ s.heap
  j : J i s.heap ρ
  F : FrR X C'.Γ cenv a.1 ρ s.heap
  ac : AR s.heap ρ a.2 D
  off : D ∉ owned ρ
  T : Step W fs ρ1 ρ s1.heap s.heap
  E : Ext s1 s
/-- what it may write -/
structure CW (cenv : Env) (fs own W : List Addr) (D : Addr) : Prop where
  ow : ∀ x, x ∈ own → x ∈ W
  d : D ∈ W
  l : cenv.locals ∈ W
  all : ∀ x, x ∈ W → x ∈ own ∨ x = D ∨ x = cenv.locals
  off : ∀ x, x ∈ own → x ≠ D ∧ x ∉ frameAddrs cenv
  dfs : ∀ x, x ∈ W → x ∉ fs
  dD : D ∉ frameAddrs cenv

section
variable {α : Type} {it : Value} {D : Addr} {own : List Addr} {src : Src} {J : Nat → Heap → Rho → Prop} {AR : Heap → Rho → α → Addr → Prop} {po : α → PO} {ok : Expr → Bool} {ρ1 : Rho} {s1 : Shared} {i : Nat} {a : Fr × α}
theorem CInv.th (V : CInv X C' fs W env J AR D ρ1 s1 i a σ ρ s) (K : Acc X AR po) (wk : Wk X A src it own ok J) (w : CW env fs own W D) : ∀ x, x ∈ W → ∃ o, s.heap.get? x = some o := fun x hx => by
  rcases w.all x hx with q | q | q
  · exact (wk.off V.j x q).2.1
  · rw [q]; exact K.th V.ac
  · rw [q]; exact (let ⟨_, _, o, e, _⟩ := V.F.off _ List.mem_cons_self; ⟨o, e⟩)
/-- the source took a step -/
theorem CInv.nxt (V : CInv X C' fs W env J AR D ρ1 s1 i a σ ρ s) (K : Acc X AR po) (wk : Wk X A src it own ok J) (w : CW env fs own W D) {h' : Heap} {k j : Nat} (I' : Rp X ρ σ h') (j' : J j h' ρ) (T' : ∀ fs, Step own fs ρ ρ s.heap h') : CInv X C' fs W env J AR D ρ1 s1 j a σ ρ { s with heap := h', toks := k } :=
  have NO : NoSeq own s.heap := fun b hb => (wk.off V.j b hb).2.2
  ⟨I', j', V.F.stepW (T' fs) (fun x hx q => (w.off x q).2 hx) NO, K.step (T' fs) NO (fun q => (w.off _ q).1 rfl) (w.dfs D w.d) V.off V.ac, V.off, V.T.trans ((T' fs).mono w.ow (V.th K wk w)), V.E.trans ⟨h', k, rfl⟩⟩
/-- something else took a step -/
theorem CInv.go {V' : List Addr} (V : CInv X C' fs W env J AR D ρ1 s1 i a σ ρ s) (K : Acc X AR po) (wk : Wk X A src it own ok J) (w : CW env fs own W D) {a' : Fr × α} (T : Step V' fs ρ ρ' s.heap s'.heap) (N : NoSeq V' s.heap) (hV : ∀ x, x ∈ V' → x ∈ W ∧ x ∉ own)
    (E : Ext s s') (I : Rp X ρ' σ' s'.heap) (F : FrR X C'.Γ env a'.1 ρ' s'.heap) (ac : AR s'.heap ρ' a'.2 D) : CInv X C' fs W env J AR D ρ1 s1 i a' σ' ρ' s' :=
  ⟨I, wk.step V.j T N (fun b hb => ⟨fun q => (hV b q).2 hb, w.dfs b (w.ow b hb)⟩), F, ac, (let ⟨o, e⟩ := K.th V.ac; T.offNew e V.off), V.T.trans (T.mono (fun x hx => (hV x hx).1) (V.th K wk w)), V.E.trans E⟩

theorem comp_turn {target : Expr} {ifs : List Expr} {iifs : List IE} {emit : Sem Unit} {code : Code} {tgt : List Nat} {isTup : Bool} {ec : Fr → IE → St → R Bool} {em : Fr → α → St → R α} {P : Fin → Shared → Prop} {E : Value → Shared → Prop} {x : PV} {u : Value} {q : Fr × α} {σ1 : St}
    (K : Acc X AR po) (wk : Wk X A src it own ok J) (w : CW env fs own W D) (ht : TgtOk C' target tgt isTup) (hc : All2 (fun e ie => BOk X C' lvl e fun fr σ => ec fr ie σ) ifs iifs)
    (hem : ∀ fr a ρ σ s, At X C' lvl A fs env fr ρ σ s → AR s.heap ρ a D → D ∉ owned ρ → D ∉ fs → X.base.get? D = none → Ok X A [D] fs ρ s (fun h ρ a (_ : Unit) => AR h ρ a D) emit (em fr a σ))
    (hn : env.scope.names = C'.names) (hcd : ∀ v, C'.code = some v → env.code = v) (rm : Rm A lvl) (ar : ∀ {ρ : Rho} {s : Shared}, Step W fs ρ1 ρ s1.heap s.heap → AOK X A fs ρ s.heap) (dB : X.base.get? D = none)
    (V : CInv X C' fs W env J AR D ρ1 s1 i a σ ρ s) (ru : VRep s.heap ρ x u) (hb : compBody ec em tgt isTup iifs x a σ = .ok (.inl q) σ1)
    (hnext : ∀ ρ' s', CInv X C' fs W env J AR D ρ1 s1 i q σ1 ρ' s' → wpAny (model X.prog X.w) A (again code) P E s') :
    wpAny (model X.prog X.w) A (restOf target ifs emit code env u) P E s := by
  unfold restOf
  unfold compBody at hb
  have N1 : NoSeq [env.locals] s.heap := fun b hb => by rw [List.mem_singleton.mp hb]; exact V.F.noSeq _ List.mem_cons_self
  cases hfr : bindT a.1 tgt isTup x with
  | none => rw [hfr] at hb; cases hb
  | some fr' =>
  rw [hfr] at hb
  refine wpAny_bind (bindT_ok ht (ar V.T).hd V.I V.F hn ru hfr fun h3 k3 I3 F3 T3 => ?_)
  have V2 : CInv X C' fs W env J AR D ρ1 s1 i (fr', a.2) σ ρ { s with heap := h3, toks := k3 } :=
    V.go K wk w (T3 fs) N1 (fun x hx => by rw [List.mem_singleton.mp hx]; exact ⟨w.l, fun q => (w.off _ q).2 List.mem_cons_self⟩) ⟨h3, k3, rfl⟩ I3 F3 (K.step (T3 fs) N1 (fun q => w.dD (List.mem_singleton.mp q ▸ List.mem_cons_self)) (w.dfs D w.d) V.off V.ac)
  generalize ({ s with heap := h3, toks := k3 } : Shared) = s3 at V2
  clear V ru N1
  obtain ⟨t, σ4, e4, hb⟩ := R.bind_inv hb
  refine wpAny_bind (wpAny_mono (tests_ok hc ⟨V2.I, V2.F, hn, ar V2.T, rm, hcd⟩ (fun z => by rw [z] at e4; cases e4)) (fun t' s4 p => ?_) fun x s4 p => ?_)
  rotate_left
  · obtain ⟨c, _, _, _, _, w1, _⟩ := p
    rw [w1] at e4; cases e4
  obtain ⟨t'', σ4', ρ4, q1, q2, q3, q4, q5⟩ := p
  rw [q1] at e4
  cases e4
  cases q4
  have V4 : CInv X C' fs W env J AR D ρ1 s1 i (fr', a.2) σ4 ρ4 s4 := V2.go K wk w q5 noSeq_nil (fun _ q => nomatch q) q2 q3 (V2.F.step q5) (K.step q5 noSeq_nil (fun q => nomatch q) (w.dfs D w.d) V2.off V2.ac)
  clear V2 q1 q2 q3 q5
  cases t with
  | false =>
    cases hb
    exact hnext ρ4 s4 V4
  | true =>
    obtain ⟨a5, σ5, e5, hb⟩ := R.bind_inv hb
    cases hb
    refine wpAny_bind (wpAny_mono (hem fr' a.2 ρ4 σ4 s4 ⟨V4.I, V4.F, hn, ar V4.T, rm, hcd⟩ V4.ac V4.off (w.dfs D w.d) dB (fun z => by rw [z] at e5; cases e5)) (fun _ s5 p => ?_) fun x s5 p => ?_)
    · obtain ⟨a5', σ5', ρ5, w1, w2, w3, w4, w5⟩ := p
      rw [w1] at e5
      cases e5
      have ND5 : NoSeq [D] s4.heap := fun b hb => by rw [List.mem_singleton.mp hb]; exact K.nt V4.ac
      exact hnext ρ5 s5 (V4.go K wk w w5 ND5 (fun x hx => by rw [List.mem_singleton.mp hx]; exact ⟨w.d, fun q => (w.off _ q).1 rfl⟩) w2 w3 (V4.F.stepW w5 (fun b hb q => w.dD (List.mem_singleton.mp q ▸ hb)) ND5) w4)
    · obtain ⟨c, _, _, _, _, w1, _⟩ := p
      rw [w1] at e5; cases e5

noncomputable def CLoop (X : Cx) (C' : SC) (fs W : List Addr) (cenv : Env) (J : Nat → Heap → Rho → Prop) (AR : Heap → Rho → α → Addr → Prop) (D : Addr) (ρ1 : Rho) (s1 : Shared) (src : Src) (body : PV → Fr × α → St → Mine.R (Sum (Fr × α) PV)) (lr : Mine.R (Sum (Fr × α) PV)) (n : Nat) (s : Shared) : Prop :=
  ∃ i a σ ρ, Run body src n i a σ lr ∧ CInv X C' fs W cenv J AR D ρ1 s1 i a σ ρ s
theorem comp_loop {code : Code} {target iter : Expr} {ifs : List Expr} {iifs : List IE} {emit : Sem Unit} {tgt : List Nat} {isTup : Bool} {ec : Fr → IE → St → R Bool} {em : Fr → α → St → R α} {R : Result → Shared → Prop} {p : Fr × α} {σf : St}
    (hq : code.quiet = true) (hund : A.under code = A) (hturn : (model X.prog X.w).den code = (turnOf iter target ifs emit code it env).onRaise fun x => do noteFrame x env; theTreesLotGoes x) (K : Acc X AR po) (wk : Wk X A src it own ok J) (w : CW env fs own W D) (hok : ok target = true) (ht : TgtOk C' target tgt isTup)
    (hc : All2 (fun e ie => BOk X C' lvl e fun fr σ => ec fr ie σ) ifs iifs)
    (hem : ∀ fr a ρ σ s, At X C' lvl A fs env fr ρ σ s → AR s.heap ρ a D → D ∉ owned ρ → D ∉ fs → X.base.get? D = none → Ok X A [D] fs ρ s (fun h ρ a (_ : Unit) => AR h ρ a D) emit (em fr a σ))
    (hn : env.scope.names = C'.names) (hcd : ∀ v, C'.code = some v → env.code = v) (rm : Rm A lvl) (ar : ∀ {ρ : Rho} {s : Shared}, Step W fs ρ1 ρ s1.heap s.heap → AOK X A fs ρ s.heap) (dB : X.base.get? D = none)
    (fin : ∀ ρ s, Rp X ρ σf s.heap → AR s.heap ρ p.2 D → D ∉ owned ρ → Step W fs ρ1 ρ s1.heap s.heap → Ext s1 s → FrR X C'.Γ env p.1 ρ s.heap → R (.ok .next) s)
    {n : Nat} (hr : Run (compBody ec em tgt isTup iifs) src n i a σ (.ok (.inl p) σf)) (V : CInv X C' fs W env J AR D ρ1 s1 i a σ ρ s) : codeAny (model X.prog X.w) A code R s := by
  refine codeAny_loop hq (CLoop X C' fs W env J AR D ρ1 s1 src (compBody ec em tgt isTup iifs) (.ok (.inl p) σf)) (fun n s hI => ?_) n ⟨i, a, σ, ρ, hr, V⟩
  clear hr V
  obtain ⟨i, a, σ, ρ, hr, V⟩ := hI
  rw [hund, hturn]
  refine wpAny_noted ?_
  rcases run_cases hr with ⟨hat, e⟩ | ⟨x, r', hat, hbody, nn, hx, hs, hv⟩
  · cases e
    refine turn_none (wk.fin V.j V.I hat _ _ fun h' k I' T' => ⟨rfl, ?_⟩)
    have NO : NoSeq own s.heap := fun b hb => (wk.off V.j b hb).2.2
    exact fin ρ { s with heap := h', toks := k } I' (K.step (T' fs) NO (fun q => (w.off _ q).1 rfl) (w.dfs D w.d) V.off V.ac) V.off (V.T.trans ((T' fs).mono w.ow (V.th K wk w))) (V.E.trans ⟨h', k, rfl⟩) (V.F.stepW (T' fs) (fun x hx q => (w.off x q).2 hx) NO)
  · cases r' with
    | stuck => exact absurd rfl nn
    | exc c σ' => cases hx _ _ rfl
    | ok z σ' =>
      cases z with
      | inr v => cases hv _ _ rfl
      | inl a' =>
        obtain ⟨m, h1, h2⟩ := hs _ _ rfl
        exact turn_some (wk.next V.j V.I hat target _ _ hok fun u h' k I' j' T' ru => comp_turn K wk w ht hc hem hn hcd rm ar dB (V.nxt K wk w I' j' T') ru hbody fun ρ' s' V' => wpAny_pure ⟨rfl, m, h1, _, _, _, _, h2, V'⟩)
end
end
end Mine
end

section
set_option autoImplicit false
set_option linter.unusedVariables false
set_option maxRecDepth 100000
namespace Mine
open PySem PySem.W PyProof.Rows PySem.SeqAt

section
variable {X : Cx} {S : SX} {C C' : SC} {lvl : Nat} {A : Around} {W fs : List Addr} {env : Env} {fr : Fr} {ρ ρ' : Rho} {σ σ' : St} {s s' : Shared}

/-- a comprehension's parts are as they should be -/
structure CParts {α : Type} (X : Cx) (C C' : SC) (lvl : Nat) (e target iter : Expr) (ifs : List Expr) (iifs : List IE) (scope : Scope) (newAcc : Sem Value) (emit : Addr → Env → Sem Unit) (o0 : Obj) (AR : Heap → Rho → α → Addr → Prop) (po : α → PO) (a0 : α) (ok : Expr → Bool)
    (tgt : List Nat) (isTup : Bool) (ec : Fr → IE → St → R Bool) (em : Fr → α → St → R α) (fsrc : Fr → St → R Src) : Prop where
  cl : clausesOf e = [⟨target, iter, ifs, 0⟩]
  hs : ∀ env x, foldedSetIterable iter env x = pure x
  new : ∀ {A s} {Q : Value → Shared → Prop} {E : Value → Shared → Prop}, Q (.ref s.heap.objs.size) { s with heap := s.heap.push o0 } → wpAny (model X.prog X.w) A newAcc Q E s
  start : ∀ {A D it cenv s} {R : Result → Shared → Prop}, codeAny (model X.prog X.w) A (.compLoop e 0 it (.ref D) cenv) R s → wpAny (model X.prog X.w) A (pyIter it) (fun it' s' => codeAny (model X.prog X.w) A (.compLoop e 0 it' (.ref D) cenv) R s') (notedBy (model X.prog X.w) A cenv fun x s' => R (.error x) s') s → codeAny (model X.prog X.w) A (.compStart e 0 it (.ref D) cenv) R s
  fresh : o0.isFreed = false
  quiet : ∀ it D cenv, (Code.compLoop e 0 it (.ref D) cenv).quiet = true
  under : ∀ (A : Around) it D cenv, A.under (.compLoop e 0 it (.ref D) cenv) = A
  turn : ∀ it D cenv, (model X.prog X.w).den (.compLoop e 0 it (.ref D) cenv) = (turnOf iter target ifs (emit D cenv) (.compLoop e 0 it (.ref D) cenv) it cenv).onRaise fun x => do noteFrame x cenv; theTreesLotGoes x
  K : Acc X AR po
  z : ∀ {h ρ D}, D ≠ sysModules → h.get? D = some o0 → AR h ρ a0 D
  src : SrcOk X C lvl iter ok fsrc
  okT : ok target = true
  tg : TgtOk C' target tgt isTup
  tests : All2 (fun e ie => BOk X C' lvl e fun fr σ => ec fr ie σ) ifs iifs
  em : ∀ D A fs env fr a ρ σ s, At X C' lvl A fs env fr ρ σ s → AR s.heap ρ a D → D ∉ owned ρ → D ∉ fs → X.base.get? D = none → Ok X A [D] fs ρ s (fun h ρ a (_ : Unit) => AR h ρ a D) (emit D env) (em fr a σ)
  cc : CompC C scope C'

theorem noExc_ne {α : Type} {r : R α} (h : noExc r ≠ .stuck) : ∃ a σ, r = .ok a σ := by
  cases r with
  | ok a σ => exact ⟨a, σ, rfl⟩
  | exc c σ => exact absurd rfl h
  | stuck => exact absurd rfl h

theorem comp_core {α : Type} {e target iter : Expr} {ifs : List Expr} {iifs : List IE} {scope : Scope} {pos : Pos} {newAcc : Sem Value} {emit : Addr → Env → Sem Unit} {o0 : Obj} {AR : Heap → Rho → α → Addr → Prop} {po : α → PO} {a0 : α} {ok : Expr → Bool}
    {tgt : List Nat} {isTup : Bool} {ec : Fr → IE → St → R Bool} {em : Fr → α → St → R α} {fsrc : Fr → St → R Src} {use : Option (Value → Sem Unit)} {Q : Value → Shared → Prop} {E : Value → Shared → Prop} {width : Nat}
    (P : CParts X C C' lvl e target iter ifs iifs scope newAcc emit o0 AR po a0 ok tgt isTup ec em fsrc) (a : At X C lvl A fs env fr ρ σ s)
    (ns : compR ec em po a0 tgt isTup iifs fsrc C.base width fr σ ≠ .stuck)
    (fin : ∀ l σ' ρ' s' D L m, compR ec em po a0 tgt isTup iifs fsrc C.base width fr σ = .ok (.loc l) σ' → Ext s s' → Rp X ρ' σ' s'.heap → VRep s'.heap ρ' (.loc l) (.ref D) → Step [] fs ρ ρ' s.heap s'.heap → s'.heap.Ns L m → Free X ρ' L → s.heap.get? L = none →
      compPost (model X.prog X.w) A E use Q (.ref D) L (.ok .next) s') :
    wpAny (model X.prog X.w) A (comprehension e scope env pos newAcc false (eval iter env) use) Q E s := by
  have cc := P.cc
  have ke : ∀ n, env.kindOf n = C.names.lookup n := a.kind
  obtain ⟨rv, σv, hrv⟩ := noExc_ne ns
  have hl : fr.length = C.base := by
    by_cases q : fr.length = C.base
    · exact q
    · rw [if_neg q] at hrv; cases hrv
  rw [if_pos hl] at hrv
  have hrR : compR ec em po a0 tgt isTup iifs fsrc C.base width fr σ = .ok rv σv := by unfold compR; rw [if_pos hl, hrv]; rfl
  have n1 : fsrc fr σ ≠ .stuck := fun q => by rw [q] at hrv; cases hrv
  have hclos : ∀ n, (n, NameKind.free) ∈ scope.names → ∃ c, env.cells.lookup n = some c := fun n hn => by
    obtain ⟨hk, i, hi⟩ := cc.frees n hn
    obtain ⟨c, _, hc, _⟩ := a.F.cells n i hi (by rw [ke]; exact hk)
    exact ⟨c, hc⟩
  refine wpAny_comprehension_free P.cl (P.hs env) (closureFor_capt hclos) cc.kind cc.locals ?_
  refine wpAny_mono (P.src A fs env fr ρ σ s a n1) (fun x s1 hx => wpAny_mono hx (fun it s2 q => ?_) fun x s2 q => ?_) fun x s1 q => ?_
  rotate_left
  · obtain ⟨c, _, _, _, _, w1, _⟩ := q
    rw [w1] at hrv; cases hrv
  · obtain ⟨c, _, _, _, _, w1, _⟩ := q
    rw [w1] at hrv; cases hrv
  obtain ⟨src, σ2, ρ2, q1, q2, q3, ⟨own, J, wk, j0, ofr⟩, q5⟩ := q
  rw [q1] at hrv
  obtain ⟨r, σf, hlr, hrv⟩ := R.bind_inv (m := loopS (compBody ec em tgt isTup iifs) src (fr ++ List.replicate width none, a0) σ2) hrv
  obtain ⟨n, hrun⟩ := run_of (body := compBody ec em tgt isTup iifs) (src := src) (a := (fr ++ List.replicate width none, a0)) (σ := σ2) (by rw [hlr]; exact fun q => nomatch q)
  rw [hlr] at hrun
  cases r with
  | inr v => cases hrv
  | inl p =>
  cases hrv
  clear hlr n1
  refine P.new (wpAny_newFunctionEnv cc.nocell (by intro y hy; simp at hy) (fun h₁ hns₁ hsb₁ => ?_) cc.kind)
  dsimp only at hns₁ hsb₁ ⊢
  generalize hH2 : s2.heap.push o0 = H2 at hns₁ hsb₁ ⊢
  have hC : H2.objs.size = s2.heap.objs.size + 1 := by rw [← hH2, Heap.size_push]
  have D2 : s2.heap.get? s2.heap.objs.size = none := get?_size _
  have L2 : s2.heap.get? H2.objs.size = none := get?_oob (by rw [hC]; exact Nat.le_succ _)
  have DL : s2.heap.objs.size ≠ H2.objs.size := by rw [hC]; exact Nat.ne_of_lt (Nat.lt_succ_self _)
  have kp : ∀ b o, s2.heap.get? b = some o → h₁.get? b = some o := fun b o e => hsb₁.extBut b o (by rw [hC]; exact Nat.ne_of_lt (Nat.lt_succ_of_lt (Heap.lt_size e))) (Heap.get?_push_of_some _ (hH2 ▸ Heap.get?_push_of_some _ e))
  have hD1 : h₁.get? s2.heap.objs.size = some o0 := hsb₁.extBut _ _ DL (Heap.get?_push_of_some _ (hH2 ▸ Heap.get?_push_size _ P.fresh))
  have up : ∀ {b o}, s.heap.get? b = some o → ∃ o', s2.heap.get? b = some o' := fun e => q5.there _ _ e (by simp)
  have dn : ∀ {b}, s2.heap.get? b = none → s.heap.get? b = none := fun {b} e => by
    cases q : s.heap.get? b with
    | none => rfl
    | some o => obtain ⟨o', e'⟩ := up q; rw [e] at e'; cases e'
  have T1 : Step [] fs ρ2 ρ2 s2.heap h₁ := Step.of_keeps kp
  have I1 : Rp X ρ2 σ2 h₁ := q3.keeps kp
  have fD : s2.heap.objs.size ∉ owned ρ2 := q3.offNew D2
  have a2 : At X C lvl A fs env fr ρ2 σ2 s2 := a.next q3 q5
  have F1 : FrR X C'.Γ (compEnvC scope (capt env scope.names []) H2.objs.size env) (fr ++ List.replicate width none) ρ2 h₁ := comp_frame (s := s2) cc a2.F a.names q3 hl L2 kp hns₁
  have envx : ∀ b, b ∈ frameAddrs (compEnvC scope (capt env scope.names []) H2.objs.size env) → b = H2.objs.size ∨ ∃ o, s.heap.get? b = some o := fun b hb => by
    rcases List.mem_cons.mp hb with q | q
    · exact .inl q
    · right
      obtain ⟨⟨n, c'⟩, hm, rfl⟩ := List.mem_map.mp q
      rcases capt_mem hm with q | ⟨_, q⟩
      · cases q
      · obtain ⟨_, _, o, e, _⟩ := a.F.off c' (by simp [frameAddrs]; exact .inr ⟨n, lookup_mem q⟩)
        exact ⟨o, e⟩
  have fsx : ∀ b, b ∈ fs → ∃ o, s.heap.get? b = some o := fun b hb => by
    obtain ⟨l, e1, e2, e3⟩ := a.ar.fr
    subst e2
    obtain ⟨_, o, ho, _⟩ := e3.mem hb
    exact ⟨o, ho⟩
  have ownx : ∀ b, b ∈ own → ∃ o, s2.heap.get? b = some o := fun b hb => (wk.off j0 b hb).2.1
  have Wf : ∀ b, b ∈ own ++ [s2.heap.objs.size, H2.objs.size] → s.heap.get? b = none := fun b hb => by
    rcases List.mem_append.mp hb with q | q
    · exact ofr b q
    · rcases List.mem_cons.mp q with q | q
      · rw [q]; exact dn D2
      · rw [List.mem_singleton.mp q]; exact dn L2
  have w : CW (compEnvC scope (capt env scope.names []) H2.objs.size env) fs own (own ++ [s2.heap.objs.size, H2.objs.size]) s2.heap.objs.size := by
    refine ⟨fun x h => List.mem_append.mpr (.inl h), List.mem_append.mpr (.inr List.mem_cons_self), List.mem_append.mpr (.inr (List.mem_cons_of_mem _ List.mem_cons_self)), fun x h => ?_, fun b hb => ?_, fun b hb q => ?_, fun q => ?_⟩
    · rcases List.mem_append.mp h with q | q
      · exact .inl q
      · rcases List.mem_cons.mp q with q | q
        · exact .inr (.inl q)
        · exact .inr (.inr (List.mem_singleton.mp q))
    · obtain ⟨o, e⟩ := ownx b hb
      refine ⟨fun q => (by rw [q, D2] at e; cases e), fun q => ?_⟩
      rcases envx _ q with q | ⟨o, e'⟩
      · rw [q, L2] at e; cases e
      · rw [ofr b hb] at e'; cases e'
    · obtain ⟨o, e⟩ := fsx b q
      rw [Wf b hb] at e; cases e
    · rcases envx _ q with q | ⟨o, e⟩
      · exact DL q
      · rw [dn D2] at e; cases e
  have loop : ∀ s₃ : Shared, s₃ = { s2 with heap := h₁, toks := s2.toks + ([] : List (Str × Value)).length } →
      codeAny (model X.prog X.w) A (.compLoop e 0 it (.ref s2.heap.objs.size) (compEnvC scope (capt env scope.names []) H2.objs.size env)) (compPost (model X.prog X.w) A E use Q (.ref s2.heap.objs.size) H2.objs.size) s₃ := by
    rintro s₃ rfl
    refine comp_loop (ρ1 := ρ2) (s1 := { s2 with heap := h₁, toks := s2.toks + ([] : List (Str × Value)).length }) (P.quiet _ _ _) (P.under _ _ _ _) (P.turn _ _ _) P.K wk w P.okT P.tg P.tests (fun fr a ρ σ s at_ => P.em _ _ _ _ _ _ _ _ _ at_) (comp_names cc a.F.kind a.names) (by rw [cc.code]; exact a.cd) a.rm
      (fun {ρ' s'} T => ?_) (base_none a.I.base (dn D2)) (fun ρ' s' I' ac off T E1 F' => ?_) hrun ⟨I1, wk.step j0 T1 noSeq_nil fun b hb => ⟨fun q => (nomatch q), w.dfs b (w.ow b hb)⟩, F1, P.z q3.size_ne hD1, fD, Step.refl, Ext.refl _⟩
    · exact (a2.ar.step0 T1).step T fun b hb hW => absurd hb (w.dfs b hW)
    · have T3 : Step [] fs ρ ρ' s.heap s'.heap := Step.loc' (q5.trans T1) T Wf
      have nf : Free X ρ' H2.objs.size := F'.free (s := s') List.mem_cons_self
      obtain ⟨m, hm, _⟩ := F'.ns
      refine fin σf.length (σf ++ [po p.2]) (ρ' ++ [(s2.heap.objs.size, none)]) s' s2.heap.objs.size H2.objs.size m hrR ?_ (I'.adopt (P.K.th ac) off (base_none a.I.base (dn D2)) (P.K.nt ac) (P.K.nt ac) (Heap.SameBut.refl _ _) (P.K.th ac) (P.K.ad ac)) ?_ (T3.adopt (dn D2)) hm ⟨fun q => ?_, nf.2⟩ (dn L2)
      · refine Ext.trans q2 (Ext.trans ?_ E1)
        exact ⟨_, _, rfl⟩
      · have : (ρ' ++ [(s2.heap.objs.size, (none : Option Addr))])[σf.length]? = some (s2.heap.objs.size, none) := by rw [← I'.len]; simp
        exact .loc this
      · rw [owned_append] at q
        rcases List.mem_append.mp q with q | q
        · exact nf.1 q
        · simp [owned, ownedOf] at q
          exact DL q.symm
  exact P.start (loop _ rfl) (wk.self (s := { s2 with heap := h₁, toks := s2.toks + ([] : List (Str × Value)).length }) (wk.step j0 T1 noSeq_nil fun b hb => ⟨fun q => (nomatch q), w.dfs b (w.ow b hb)⟩) _ _ (loop _ rfl))
end
end Mine
end

section
set_option autoImplicit false
set_option linter.unusedVariables false
set_option maxRecDepth 100000
namespace Mine
open PySem PySem.W PyProof.Rows PySem.SeqAt

theorem evE_compL {T : Tb} {n : Nat} {fr : Fr} {elt : IE} {tgt : List Nat} {isTup : Bool} {kind : Nat} {its ifs : List IE} {base width : Nat} {σ : St} :
    evE T (n + 1) fr (.comp elt none tgt isTup kind its ifs base width) σ = compR (evC T n) (emL (evE T n) elt) .list [] tgt isTup ifs (srcF (evE T n) kind its) base width fr σ := rfl

section
variable {X : Cx} {S : SX} {C C' : SC} {lvl : Nat} {A : Around} {W fs : List Addr} {env : Env} {fr : Fr} {ρ ρ' : Rho} {σ σ' : St} {s s' : Shared}

noncomputable def ARL (h : Heap) (ρ : Rho) (xs : List PV) (D : Addr) : Prop := ∃ items, h.PlainList D items ∧ VReps h ρ xs items.toList
theorem own_one {b D : Addr} (h : b ∈ owned [(D, (none : Option Addr))]) : b = D := List.mem_singleton.mp h
theorem arl_nt {h : Heap} {ρ : Rho} {xs : List PV} {D : Addr} (r : ARL h ρ xs D) : ∀ items, ¬ h.IsTuple D items := by
  obtain ⟨items, ⟨n, e⟩, r⟩ := r
  exact notTuple_of_cls e (show Value.type "list" ≠ Value.type "tuple" by decide)
theorem acc_list : Acc X ARL PO.list where
  step := by
    intro W fs ρ ρ' h h' a D T N dW df dO r
    obtain ⟨items, ⟨n, e⟩, r⟩ := r
    exact ⟨items, ⟨n, (T.keep D _ e dO dW).1 df⟩, r.step T N⟩
  nt := arl_nt
  th := fun r => (let ⟨_, ⟨_, e⟩, _⟩ := r; ⟨_, e⟩)
  ad := by
    intro h ρ a D r
    have nt := arl_nt r
    obtain ⟨items, pl, r⟩ := r
    exact .list pl (r.more fun b q its => by rw [own_one q]; exact nt its)

noncomputable def emitL (elt : Expr) (D : Addr) (env : Env) : Sem Unit := do let _ ← call (.builtin "list.append") [.ref D, ← eval elt env]
theorem em_list {elt : Expr} {ielt : IE} {ev : Fr → IE → St → R PV} (h : EOk X C' lvl elt fun fr σ => ev fr ielt σ) : ∀ D A fs env fr a ρ σ s, At X C' lvl A fs env fr ρ σ s → ARL s.heap ρ a D → D ∉ owned ρ → D ∉ fs → X.base.get? D = none →
    Ok X A [D] fs ρ s (fun h ρ a (_ : Unit) => ARL h ρ a D) (emitL elt D env) (emL ev ielt fr a σ) := fun D A fs env fr acc ρ σ s a R0 no nf nb => by
  have th : ∀ b, b ∈ [D] → ∃ o, s.heap.get? b = some o := fun b hb => by rw [List.mem_singleton.mp hb]; exact acc_list.th (X := X) R0
  refine Ok.bind_ (h _ _ _ _ _ _ _ a) th fun v σ' ρ' u s' _ _ I' rv T => ?_
  obtain ⟨items, pl, r⟩ := acc_list.step (X := X) T noSeq_nil (by simp) nf no R0
  refine .guard fun hz => ?_
  have hz := szOK_le hz
  have sz := size_of (s := s') r
  have no' : D ∉ owned ρ' := (let ⟨o, e⟩ := acc_list.th (X := X) R0; T.offNew e no)
  have nt := arl_nt (xs := acc) (h := s'.heap) (ρ := ρ') (D := D) ⟨items, pl, r⟩
  refine Ok.to fun Q E k => wpAny_bind (wpAny_list_append_plain pl (fun h' hl hs => wpAny_pure ?_) (by rw [sizeLine_eq]; omega))
  have N : NoSeq [D] s'.heap := fun b hb => by rw [List.mem_singleton.mp hb]; exact nt
  have T2 : Step [D] fs ρ' ρ' s'.heap h' := Step.turn (.inr List.mem_cons_self) hs (let ⟨n, e⟩ := hl; ⟨_, e⟩)
  refine k () ρ' { s' with heap := h' } ⟨h', s'.toks, rfl⟩ (I'.extBut ⟨no', nb⟩ nt hs.extBut) ⟨_, hl, ?_⟩ T2
  rw [Array.toList_push]
  exact (r.step T2 N).append (.cons (rv.step T2 N) .nil)

theorem parts_list {elt target iter : Expr} {ifs : List Expr} {ielt : IE} {iifs its : List IE} {kind : Nat} {scope : Scope} {pos : Pos} {ok : Expr → Bool} {tgt : List Nat} {isTup : Bool} {ev : Fr → IE → St → R PV} {ec : Fr → IE → St → R Bool}
    (hs : notSet iter = true) (src : SrcOk X C lvl iter ok (srcF ev kind its)) (okT : ok target = true) (tg : TgtOk C' target tgt isTup) (tests : All2 (fun e ie => BOk X C' lvl e fun fr σ => ec fr ie σ) ifs iifs) (h : EOk X C' lvl elt fun fr σ => ev fr ielt σ) (cc : CompC C scope C') :
    CParts X C C' lvl (.ListComp elt [⟨target, iter, ifs, 0⟩] scope pos) target iter ifs iifs scope (newList []) (emitL elt) { cls := .type "list", data := .seq #[] } ARL PO.list [] ok tgt isTup ec (emL ev ielt) (srcF ev kind its) where
  cl := rfl
  hs := fun env x => by cases iter <;> first | rfl | cases hs
  new := fun h => wpAny_newObj_type h
  start := fun h1 h2 => codeAny_compStart_list h1 h2
  fresh := rfl
  quiet := fun _ _ _ => rfl
  under := fun _ _ _ _ => rfl
  turn := fun _ _ _ => rfl
  K := acc_list
  z := fun _ e => ⟨#[], ⟨0, e⟩, .nil⟩
  src := src
  okT := okT
  tg := tg
  tests := tests
  em := em_list h
  cc := cc
/-- a comprehension as a value -/
theorem comp_value {α : Type} {e target iter : Expr} {ifs : List Expr} {iifs : List IE} {scope : Scope} {pos : Pos} {newAcc : Sem Value} {emit : Addr → Env → Sem Unit} {o0 : Obj} {AR : Heap → Rho → α → Addr → Prop} {po : α → PO} {a0 : α} {ok : Expr → Bool}
    {tgt : List Nat} {isTup : Bool} {ec : Fr → IE → St → R Bool} {em : Fr → α → St → R α} {fsrc : Fr → St → R Src} {width : Nat}
    (P : CParts X C C' lvl e target iter ifs iifs scope newAcc emit o0 AR po a0 ok tgt isTup ec em fsrc) (a : At X C lvl A fs env fr ρ σ s) :
    Ok X A [] fs ρ s VRep (comprehension e scope env pos newAcc false (eval iter env)) (compR ec em po a0 tgt isTup iifs fsrc C.base width fr σ) := fun ns => by
  refine comp_core P a ns fun l σ' ρ' s' D L m hr E I' r T hm fr' hL => ⟨m, hm, fun h' hs => ?_⟩
  have nd := ns_data hm
  have nt : ∀ items, ¬ s'.heap.IsTuple L items := fun items ⟨o, e, _, n, hd⟩ => by
    obtain ⟨o', e', q, _⟩ := nd
    rw [e] at e'; cases e'; exact q _ _ hd
  have S2 : Step [L] fs ρ' ρ' s'.heap h' := Step.extBut (by simp) hs.extBut
  refine ⟨.loc l, σ', ρ', hr, E.trans ⟨h', s'.toks, rfl⟩, I'.extBut fr' nt hs.extBut, ?_, Step.loc' T S2 (by simp; exact hL)⟩
  cases r with
  | loc h => exact .loc h

theorem e_lcomp {T : Tb} {n : Nat} {elt target iter : Expr} {ifs : List Expr} {ielt : IE} {iifs its : List IE} {kind width : Nat} {scope : Scope} {pos : Pos} {ok : Expr → Bool} {tgt : List Nat} {isTup : Bool}
    (hs : notSet iter = true) (src : SrcOk X C lvl iter ok (srcF (evE T n) kind its)) (okT : ok target = true) (tg : TgtOk C' target tgt isTup) (tests : All2 (fun e ie => BOk X C' lvl e fun fr σ => evC T n fr ie σ) ifs iifs) (h : EOk X C' lvl elt fun fr σ => evE T n fr ielt σ) (cc : CompC C scope C') :
    EOk X C lvl (.ListComp elt [⟨target, iter, ifs, 0⟩] scope pos) fun fr σ => evE T (n + 1) fr (.comp ielt none tgt isTup kind its iifs C.base width) σ := fun A fs env fr ρ σ s a => by
  show Ok X A [] fs ρ s VRep _ (evE T (n + 1) fr (.comp ielt none tgt isTup kind its iifs C.base width) σ)
  rw [evE_compL, eval_ListComp]
  exact comp_value (parts_list hs src okT tg tests h cc) a
end
end Mine
end

section
set_option autoImplicit false
set_option linter.unusedVariables false
set_option maxRecDepth 100000
namespace Mine
open PySem PySem.W PyProof.Rows PySem.SeqAt

section
variable {X : Cx} {S : SX} {C C' : SC} {lvl : Nat} {A : Around} {W fs : List Addr} {env : Env} {fr : Fr} {ρ ρ' : Rho} {σ σ' : St} {s s' : Shared}

/-! an exception on its way -/
theorem air_note {B : Heap} {outer : List Env} {a L : Addr} {cls a0 : Value} {Q : Unit → Shared → Prop} {E : Value → Shared → Prop} {M : Model} (hfr : A.frames = some (env :: outer)) (hf : env.frame = some L) (x : AirX B (env :: outer) a cls a0 s.heap)
    (h : ∀ h', Heap.HeldW B (env :: outer) a cls a0 L h' → s.heap.UpToSlots h' → Q () { s with heap := h' }) : wpAny M A (noteFrame (.ref a) env) Q E s := by
  rcases x with x | ⟨env', outer', L', e, hf', x⟩ | ⟨x1, x2, x3, oe, vs, x4, x5, x6, x7, x8⟩
  · exact wpAny_looks_onW hfr hf x h
  · cases e
    rw [hf] at hf'; cases hf'
    exact wpAny_noteFrame_againW hf x.2.2.2 (h s.heap x (.refl _))
  · subst x5
    unfold noteFrame
    simp only [hf]
    refine wpAny_bind (wpAny_field x4 x6 x7 ?_)
    rw [if_neg (by decide)]
    refine wpAny_entryW (oe := oe) hfr x3 hf x4 x1 x2 x6 (Array.getElem?_eq_some_iff.mp x7).1 x8 fun h' ⟨k1, k2, k3, k4⟩ => h h' ⟨k1, x2, k2, k3⟩ k4
theorem air_leave {B : Heap} {outer : List Env} {a L : Addr} {cls a0 : Value} {Q : Unit → Shared → Prop} {E : Value → Shared → Prop} {M : Model} (hfr : A.frames = some (env :: outer)) (hf : env.frame = some L) (x : AirX B (env :: outer) a cls a0 s.heap)
    (h : ∀ h', Heap.FlyingW B outer a cls a0 h' → s.heap.UpToSlots h' → Q () { s with heap := h' }) : wpAny M A (leaving env (.ref a)) Q E s := by
  rcases x with x | ⟨env', outer', L', e, hf', x⟩ | ⟨x1, x2, x3, oe, vs, x4, x5, x6, x7, x8⟩
  · exact wpAny_leaves_onW hfr hf x h
  · cases e
    rw [hf] at hf'; cases hf'
    unfold leaving
    refine wpAny_bind (wpAny_noteFrame_againW hf x.2.2.2 ?_)
    refine wpAny_landsW x fun h' hfl hu => ?_
    obtain ⟨k1, k2, ⟨_, _, k3⟩, k4⟩ := hfl
    exact h h' ⟨k1, k2, k3, k4⟩ hu
  · subst x5
    exact wpAny_leaving_firstW hfr x3 hf x4 x1 x2 x6 x7 x8 fun h' ⟨k1, ⟨_, _, k2⟩, k3, k4⟩ => h h' ⟨k1, x2, k2, k3⟩ k4
theorem held_set {B : Heap} {l : List Env} {a L : Addr} {cls a0 : Value} {Q : Unit → Shared → Prop} {E : Value → Shared → Prop} {M : Model} (x : Heap.HeldW B l a cls a0 L s.heap)
    (h : ∀ h', Heap.HeldW B l a cls a0 L h' → s.heap.UpToSlots h' → Q () { s with heap := h' }) : wpAny M A (setFlight (.ref a) (some L)) Q E s := by
  obtain ⟨hkb, hen, hl, oe, vs, T, oT, ts, he, hcls, hd, h1, hnT, hTe, hT, hdT, h3⟩ := x
  have hsz3 : 3 < ts.size := (Array.getElem?_eq_some_iff.mp h3).1
  have other : ∀ b, b ≠ T → (s.heap.update T (Obj.mapFields (·.setIfInBounds 3 ((some L).elim Value.none fun f => rawInt f)))).get? b = s.heap.get? b :=
    fun b hb => Heap.get?_update_other _ _ (Ne.symm hb)
  have noRecord : ∀ b o, s.heap.get? b = some o → (∀ vs, o.data ≠ .fields vs) → b ≠ T := fun b o hb hnf q => by
    rw [q, hT] at hb; injection hb with hb; subst hb; exact hnf ts hdT
  unfold setFlight
  refine wpAny_bind (wpAny_field he hd h1 ?_)
  rw [if_pos (show (Value.ref T != Value.none) = true from by simp)]
  refine wpAny_setField hT hdT hsz3 (h _ ⟨fun b o hbo => (other b fun q => by rw [q, hnT] at hbo; cases hbo).trans (hkb b o hbo), hen,
    hl.of_keeps fun b o hb hnf => ⟨o, (other b (noRecord b o hb hnf)).trans hb, rfl⟩, ?_⟩ fun b o hb hnf => ⟨o.slots, (other b (noRecord b o hb hnf)).trans hb⟩)
  exact ⟨oe, vs, T, _, _, (other a (Ne.symm hTe)).trans he, hcls, hd, h1, hnT, hTe, Heap.get?_update_self _ hT (Obj.isFreed_of_fields (Obj.data_mapFields hdT _)), Obj.data_mapFields hdT _, by simp [hsz3]⟩

/-! statements -/
noncomputable def Top (A : Around) (env : Env) : Prop := ∃ outer L, A.frames = some (env :: outer) ∧ env.frame = some L

/-- raised, and noted in this frame -/
inductive PostH {α : Type} (X : Cx) (A : Around) (env : Env) (W fs : List Addr) (ρ : Rho) (s : Shared) (r : R α) (e : Value) (s' : Shared) : Prop
  | mk (c : Nat) (σ' : St) (ρ' : Rho) (h₁ : Heap) (a : Addr) (l : List Env) (Bx : Heap) (a0 : Value) (L : Addr) (q : r = .exc c σ') (w : e = .ref a) (x : Ext s s') (i : Rp X ρ' σ' h₁) (st : Step W fs ρ ρ' s.heap h₁) (fr : A.frames = some l) (k : ∀ b o, h₁.get? b = some o → b ∉ fs → Bx.get? b = some o)
    (el : env.frame = some L) (hw : Heap.HeldW Bx l a (.ref (X.cls c)) a0 L s'.heap) (u : h₁.UpToSlots s'.heap) (n : NsqF (l.filterMap (·.frame)) s'.heap)
/-- a raised thing is noted on its way out of a loop -/
theorem noted_ok {α : Type} {r : R α} (t : Top A env) {e : Value} (p : PostX X A W fs ρ s r e s') : notedBy (model X.prog X.w) A env (PostH X A env W fs ρ s r) e s' := by
  obtain ⟨c, σ', ρ', h₁, a, e1, e2, ⟨h', t', rfl⟩, e4, e5, l, Bx, a0, f1, f2, f3, f4, f5⟩ := p
  obtain ⟨outer, L, t1, t2⟩ := t
  rw [t1] at f1
  cases f1
  subst e2
  have fr3 := air_frames f3
  exact air_note t1 t2 f3 fun h'' hh hu => ⟨c, σ', ρ', h₁, a, _, Bx, a0, L, e1, rfl, ⟨h'', t', rfl⟩, e4, e5, t1, f2, t2, hh, f4.trans hu, f5.slots fr3 hu⟩
/-- and on its way back into the frame -/
theorem back_ok {α : Type} {r : R α} (t : Top A env) {e : Value} (p : PostH X A env W fs ρ s r e s') : cameBackBy (model X.prog X.w) A env (PostX X A W fs ρ s r) e s' := by
  obtain ⟨c, σ', ρ', h₁, a, l, Bx, a0, L, e1, rfl, ⟨h0, t0, rfl⟩, e4, e5, f1, f2, hf, hh, f4, f5⟩ := p
  obtain ⟨outer, L', t1, t2⟩ := t
  rw [t1] at f1
  cases f1
  unfold cameBackBy
  have hh' := hh
  obtain ⟨_, _, _, oe, vs, T', oT, ts, he, _, hd, h1, _⟩ := hh'
  refine wpAny_bind (wpAny_field he hd h1 ?_)
  rw [if_neg (show ¬ ((Value.ref T' == Value.none) = true) from by simp)]
  rw [hf]
  exact held_set hh fun h'' hh'' hu => ⟨c, σ', ρ', h₁, a, e1, rfl, ⟨h'', t0, rfl⟩, e4, e5, _, Bx, a0, t1, f2, .inr (.inl ⟨env, outer, L, rfl, hf, hh''⟩), f4.trans hu, f5.slots hh.2.2.1 hu⟩
end
end Mine
end

section
set_option autoImplicit false
set_option linter.unusedVariables false
set_option maxRecDepth 100000
namespace Mine
open PySem PySem.W PyProof.Rows PySem.SeqAt

noncomputable def FlRel (X : Cx) (C : SC) (env : Env) : Heap → Rho → Fl → Flow → Prop := fun h ρ fl flow => match fl with
  | .next fr' => (match flow with
    | .next => FrR X C.Γ env fr' ρ h
    | _ => False)
  | .ret v => (match flow with
    | .ret u => VRep h ρ v u
    | _ => False)

noncomputable def SOkS (X : Cx) (C : SC) (lvl : Nat) (st : Stmt) (f : Fr → St → R Fl) : Prop :=
  ∀ A fs env fr ρ σ s, At X C lvl A fs env fr ρ σ s → Top A env → Ok X A (frameAddrs env) fs ρ s (FlRel X C env) (exec st env) (f fr σ)
noncomputable def BlOk (X : Cx) (C : SC) (lvl : Nat) (sts : List Stmt) (f : Fr → St → R Fl) : Prop :=
  ∀ A fs env fr ρ σ s, At X C lvl A fs env fr ρ σ s → Top A env → Ok X A (frameAddrs env) fs ρ s (FlRel X C env) (execs sts env) (f fr σ)

section
variable {X : Cx} {S : SX} {C C' : SC} {lvl : Nat} {A : Around} {W W1 fs : List Addr} {env : Env} {fr : Fr} {ρ ρ' : Rho} {σ σ' : St} {s s' : Shared}

theorem Step.locW {h h1 h3 : Heap} {ρ ρ1 ρ2 : Rho} (T : Step W1 fs ρ ρ1 h h1) (S : Step W fs ρ1 ρ2 h1 h3) (hW : ∀ w, w ∈ W → w ∈ W1 ∨ h.get? w = none) (h1x : ∀ a, a ∈ W1 → ∃ o, h1.get? a = some o) : Step W1 fs ρ ρ2 h h3 := by
  have nw : ∀ a o, h.get? a = some o → a ∉ W1 → a ∉ W := fun a o e n q => by
    rcases hW a q with q | q
    · exact n q
    · rw [q] at e; cases e
  refine ⟨?_, fun a o e n m => ?_, fun a o e m => ?_, fun a q => ?_, fun a w q => ?_⟩
  · obtain ⟨τ, rfl⟩ := T.pre
    obtain ⟨τ', rfl⟩ := S.pre
    exact ⟨τ ++ τ', by simp⟩
  · have n1 := T.offNew e n
    obtain ⟨k1, sl, k2⟩ := T.keep a o e n m
    refine ⟨fun nf => (S.keep a o (k1 nf) n1 (nw a o e m)).1 nf, ?_⟩
    obtain ⟨_, sl', k3⟩ := S.keep a _ k2 n1 (nw a o e m)
    exact ⟨sl', k3⟩
  · obtain ⟨o', e'⟩ := T.there a o e m
    exact S.there a o' e' (nw a o e m)
  · rcases S.fresh a q with q1 | q1
    · exact T.fresh a q1
    · right
      cases e : h.get? a with
      | none => rfl
      | some o =>
        exfalso
        by_cases m : a ∈ W1
        · obtain ⟨o', e'⟩ := h1x a m; rw [e'] at q1; cases q1
        · obtain ⟨o', e'⟩ := T.there a o e m; rw [e'] at q1; cases q1
  · rcases S.fresh a q with q1 | q1
    · exact T.apart a w q1
    · obtain ⟨o', e'⟩ := h1x a w; rw [e'] at q1; cases q1
theorem PostX.from' {α β : Type} {r : R α} {r' : R β} {e : Value} {ρc : Rho} {sc : Shared} (p : PostX X A W fs ρc sc r' e s') (hr : ∀ c σ', r' = .exc c σ' → r = .exc c σ') (E : Ext s sc) (T : ∀ ρ' h', Step W fs ρc ρ' sc.heap h' → Step W1 fs ρ ρ' s.heap h') : PostX X A W1 fs ρ s r e s' := by
  obtain ⟨c, σ', ρ', h₁, a, e1, e2, e3, e4, e5, e6⟩ := p
  exact ⟨c, σ', ρ', h₁, a, hr _ _ e1, e2, E.trans e3, e4, T _ _ e5, e6⟩

/-! what is not a comprehension -/
noncomputable def isComp (e : Expr) : Bool := tagE e == 4 || tagE e == 5 || tagE e == 6
theorem swaps_not {e : Expr} {t : Option Expr} {line : Nat} {env : Env} (h : isComp e = false) : swapsWith e t line env = pure false := by
  cases e <;> first | rfl | cases h
noncomputable def isName (e : Expr) : Bool := tagE e == 7
theorem swaps_target {e t : Expr} {line : Nat} {env : Env} (h : isName t = false) : swapsWith e (some t) line env = pure false := by
  cases e <;> first | rfl | (cases t <;> first | rfl | cases h)
theorem inter_no (F : FrR X C.Γ env fr ρ s.heap) : interactive env = false := by unfold interactive; rw [F.kind]; rfl

theorem s_expr {e : Expr} {pos : Pos} {f : Fr → St → R PV} (hc : isComp e = false) (h : EOk X C lvl e f) : SOkS X C lvl (.Expr e pos) fun fr σ => (f fr σ).bind fun _ σ => .ok (.next fr) σ := fun A fs env fr ρ σ s a t => by
  show Ok X A _ fs ρ s _ _ ((f fr σ).bind fun _ σ => .ok (Fl.next fr) σ)
  rw [exec_Expr env e pos (inter_no a.F) (swaps_not hc)]
  refine Ok.standAt (Ok.bind_ (h _ _ _ _ _ _ _ a) a.thereW fun v σ' ρ' u s' _ _ I' r T => ?_)
  exact fun _ => wpAny_dropValue ⟨.next fr, σ', ρ', rfl, .refl _, I', a.F.step T, Step.refl⟩
theorem s_ret {e : Expr} {pos : Pos} {f : Fr → St → R PV} (h : EOk X C lvl e f) : SOkS X C lvl (.Return (some e) pos) fun fr σ => (f fr σ).bind fun v σ => .ok (.ret v) σ := fun A fs env fr ρ σ s a t => by
  show Ok X A _ fs ρ s _ _ ((f fr σ).bind fun v σ => .ok (Fl.ret v) σ)
  rw [arm_exec_Return]
  refine Ok.standAt (Ok.bind_ (h _ _ _ _ _ _ _ a) a.thereW fun v σ' ρ' u s' _ _ I' r T => ?_)
  exact Ok.ret I' r
theorem s_ret0 {pos : Pos} : SOkS X C lvl (.Return none pos) fun _ σ => .ok (.ret .none) σ := fun A fs env fr ρ σ s a t => by
  rw [arm_exec_Return]
  exact Ok.standAt (Ok.ret a.I .none)

theorem s_if {c : Expr} {b1 b2 : List Stmt} {pos : Pos} {g : Fr → St → R Bool} {f1 f2 : Fr → St → R Fl} (hc : BOk X C lvl c g) (h1 : BlOk X C lvl b1 f1) (h2 : BlOk X C lvl b2 f2) : SOkS X C lvl (.If c b1 b2 pos) fun fr σ => (g fr σ).bind fun b σ => if b then f1 fr σ else f2 fr σ := fun A fs env fr ρ σ s a t => by
  show Ok X A _ fs ρ s _ _ ((g fr σ).bind fun b σ => if b then f1 fr σ else f2 fr σ)
  rw [arm_exec_If]
  refine Ok.standAt (Ok.bind_ (hc _ _ _ _ _ _ _ a) a.thereW fun v σ' ρ' u s' _ _ I' r T => ?_)
  cases r
  cases v
  · exact h2 _ _ _ _ _ _ _ (a.next I' T) t
  · exact h1 _ _ _ _ _ _ _ (a.next I' T) t

theorem bl_nil : BlOk X C lvl [] fun fr σ => .ok (.next fr) σ := fun A fs env fr ρ σ s a t => fun _ => wpAny_execs_nil ⟨.next fr, σ, ρ, rfl, .refl _, a.I, a.F, Step.refl⟩
theorem bl_cons {st : Stmt} {rest : List Stmt} {f g : Fr → St → R Fl} (h : SOkS X C lvl st f) (hr : BlOk X C lvl rest g) : BlOk X C lvl (st :: rest) fun fr σ => (f fr σ).bind fun fl σ => match fl with
    | .next fr => g fr σ
    | .ret v => .ok (.ret v) σ := fun A fs env fr ρ σ s a t => by
  show Ok X A _ fs ρ s _ _ ((f fr σ).bind fun fl σ => match fl with
    | .next fr => g fr σ
    | .ret v => .ok (.ret v) σ)
  rw [execs_cons]
  refine Ok.bind (h _ _ _ _ _ _ _ a t) fun fl σ' ρ' flow s' _ _ I' r T => ?_
  cases fl with
  | next fr' =>
    cases flow <;> first | exact r.elim | skip
    exact hr _ _ _ _ _ _ _ (a.nextW I' r T) t
  | ret v =>
    cases flow <;> first | exact r.elim | skip
    exact Ok.ret I' r

/-! assignments -/
theorem assign_eq {t value : Expr} {pos : Pos} {env : Env} (hs : swapsWith value (some t) pos.line env = pure false) (hw : swappedStores [t] value env = pure none) (hn : notStar t = true) :
    exec (.Assign [t] value pos) env = (standAt pos >>= fun _ => eval value env >>= fun v => assign t env v >>= fun _ => pure .next) := by
  rw [arm_exec_Assign, show swapsWithSole [t] value pos.line env = swapsWith value (some t) pos.line env from rfl, hs, hw]
  have e1 : (assignEach [t] env).map (·.2) = [assign t env] := by rw [assignEach_of [t] env (by simpa using hn)]; rfl
  rw [e1]
  rfl
theorem s_asg {t value : Expr} {pos : Pos} {f : Fr → St → R PV} {g : Fr → PV → St → R Fr} (hs : ∀ env, env.scope.kind = .function → env.scope.names = C.names → swapsWith value (some t) pos.line env = pure false) (hw : ∀ env, env.scope.kind = .function → env.scope.names = C.names → swappedStores [t] value env = pure none) (hn : notStar t = true)
    (h : EOk X C lvl value f) (ht : TOk X C lvl t g) : SOkS X C lvl (.Assign [t] value pos) fun fr σ => (f fr σ).bind fun v σ => (g fr v σ).bind fun fr σ => .ok (.next fr) σ := fun A fs env fr ρ σ s a tp => by
  show Ok X A _ fs ρ s _ _ ((f fr σ).bind fun v σ => (g fr v σ).bind fun fr σ => .ok (Fl.next fr) σ)
  rw [assign_eq (hs env a.F.kind a.names) (hw env a.F.kind a.names) hn]
  refine Ok.standAt (Ok.bind_ (h _ _ _ _ _ _ _ a) a.thereW fun v σ' ρ' u s' _ _ I' r T => ?_)
  have a1 := a.next I' T
  refine Ok.bind (ht _ _ _ _ _ _ _ _ _ a1 r) fun fr' σ2 ρ2 _ s2 _ _ I2 F2 T2 => ?_
  exact Ok.ret I2 F2

/-! a comprehension given to a name: stored before its scope goes -/
theorem comp_store {α : Type} {e target iter : Expr} {ifs : List Expr} {iifs : List IE} {scope : Scope} {pos : Pos} {newAcc : Sem Value} {emit : Addr → Env → Sem Unit} {o0 : Obj} {AR : Heap → Rho → α → Addr → Prop} {po : α → PO} {a0 : α} {ok : Expr → Bool}
    {tgt : List Nat} {isTup : Bool} {ec : Fr → IE → St → R Bool} {em : Fr → α → St → R α} {fsrc : Fr → St → R Src} {width : Nat} {n : Str} {i : Nat} {np : Pos}
    (P : CParts X C C' lvl e target iter ifs iifs scope newAcc emit o0 AR po a0 ok tgt isTup ec em fsrc) (hm : (n, i) ∈ C.Γ) (hk : C.names.lookup n = some .local) (a : At X C lvl A fs env fr ρ σ s) :
    Ok X A (frameAddrs env) fs ρ s (FlRel X C env) (comprehension e scope env pos newAcc false (eval iter env) (some (assign (.Name n np) env)) >>= fun _ => pure .next)
      ((compR ec em po a0 tgt isTup iifs fsrc C.base width fr σ).bind fun v σ => (if i < fr.length then .ok (fr.set i (some v)) σ else .stuck : R Fr).bind fun fr σ => .ok (.next fr) σ) := fun ns => by
  have n1 : compR ec em po a0 tgt isTup iifs fsrc C.base width fr σ ≠ .stuck := fun q => by rw [q] at ns; exact ns rfl
  refine wpAny_bind (comp_core P a n1 fun l σ' ρ' s' D L m hr E I' r T hn fr' hL => ?_)
  rw [hr] at ns
  simp only [R.bind_ok] at ns
  have hlt : i < fr.length := by
    by_cases q : i < fr.length
    · exact q
    · rw [if_neg q] at ns; exact absurd rfl ns
  have a1 : At X C lvl A fs env fr ρ' σ' s' := a.next I' T
  have hk' : env.kindOf n ≠ some .free := by rw [a.kind, hk]; simp
  show wpAny _ _ (assign (.Name n np) env (.ref D)) _ _ s'
  rw [arm_assign_Name]
  refine wpAny_bind (wpAny_standAt (store_name a1.I a1.F hm hk' r fun h2 k2 b hb _ I2 F2 T2 => ⟨m, ?_, fun h3 hs => wpAny_pure ?_⟩))
  · have hne : L ≠ b := fun q => by subst q; obtain ⟨o, e⟩ := a.thereW L hb; rw [hL] at e; cases e
    obtain ⟨o, es, ep, ho, r⟩ := hn
    have S2 := T2 [b] [] (by simp)
    exact ns_slots ⟨o, es, ep, ho, r⟩ fun o ho => (S2.keep L o ho fr'.1 (by simpa using hne)).2
  · have nd := ns_data hn
    have hne : ∀ b, b ∈ frameAddrs env → b ≠ L := fun b hb q => by subst q; obtain ⟨o, e⟩ := a.thereW b hb; rw [hL] at e; cases e
    have nt : ∀ items, ¬ h2.IsTuple L items := fun items ⟨o, e, c, n, hd⟩ => by
      obtain ⟨o', e', q, _⟩ := nd
      have := (T2 [b] [] (by simp)).keep L o' e' fr'.1 (by simpa using (hne b hb).symm)
      have := this.1 (by simp)
      rw [this] at e
      cases e
      exact q _ _ hd
    have N : NoSeq [L] h2 := fun x hx => by simp at hx; subst hx; exact nt
    have S3 : Step [L] fs ρ' ρ' h2 h3 := Step.extBut (by simp) hs.extBut
    have f2 : Free X ρ' L := fr'
    have TT : Step (frameAddrs env) fs ρ ρ' s.heap h2 := (T.mono (by simp) a.thereW).trans (T2 _ _ hb)
    refine ⟨.next (fr.set i (some (.loc l))), σ', ρ', ?_, ?_, I2.extBut f2 nt hs.extBut, F2.stepW S3 (fun x hx q => by simp at q; exact hne x hx q) N, Step.locW TT S3 (by simp; exact .inr hL) fun x hx => ?_⟩
    · rw [hr]; simp only [R.bind_ok]; rw [if_pos hlt]; rfl
    · obtain ⟨hh, tt, rfl⟩ := E
      exact ⟨_, _, rfl⟩
    · obtain ⟨_, _, o, e, _⟩ := F2.off x hx; exact ⟨o, e⟩
end
end Mine
end

section
set_option autoImplicit false
set_option linter.unusedVariables false
set_option maxRecDepth 100000
namespace Mine
open PySem PySem.W PyProof.Rows PySem.SeqAt

section
variable {X : Cx} {S : SX} {C C' : SC} {lvl : Nat} {A : Around} {W W1 fs : List Addr} {env : Env} {fr : Fr} {ρ ρ' : Rho} {σ σ' : St} {s s' : Shared}

theorem fsThere (a : AOK X A fs ρ s.heap) : ∀ b, b ∈ fs → ∃ o, s.heap.get? b = some o := fun b hb => by
  obtain ⟨l, e1, e2, e3⟩ := a.fr
  subst e2
  obtain ⟨_, o, ho, _⟩ := e3.mem hb
  exact ⟨o, ho⟩

/-- how the loop stands -/
structure FInv (X : Cx) (C : SC) (lvl : Nat) (A : Around) (fs : List Addr) (env : Env) (J : Nat → Heap → Rho → Prop) (W : List Addr) (ρ2 : Rho) (s2 : Shared) (i : Nat) (fr : Fr) (σ : St) (ρ : Rho) (s : Shared) : Prop where
  a : At X C lvl A fs env fr ρ σ s
  j : J i s.heap ρ
  E : Ext s2 s
  T : Step W fs ρ2 ρ s2.heap s.heap
/-- what the loop may write -/
structure FW (env : Env) (fs own W : List Addr) : Prop where
  ow : ∀ x, x ∈ own → x ∈ W
  frm : ∀ x, x ∈ frameAddrs env → x ∈ W
  all : ∀ x, x ∈ W → x ∈ own ∨ x ∈ frameAddrs env
  off : ∀ x, x ∈ own → x ∉ frameAddrs env ∧ x ∉ fs

section
variable {src : Src} {it : Value} {own : List Addr} {ok : Expr → Bool} {J : Nat → Heap → Rho → Prop} {ρ2 : Rho} {s2 : Shared} {i : Nat}
theorem FInv.th (V : FInv X C lvl A fs env J W ρ2 s2 i fr σ ρ s) (wk : Wk X A src it own ok J) (w : FW env fs own W) : ∀ x, x ∈ W → ∃ o, s.heap.get? x = some o := fun x hx => by
  rcases w.all x hx with q | q
  · exact (wk.off V.j x q).2.1
  · exact V.a.thereW x q
theorem FInv.next (V : FInv X C lvl A fs env J W ρ2 s2 i fr σ ρ s) (wk : Wk X A src it own ok J) (w : FW env fs own W) {h' : Heap} {k : Nat} (I' : Rp X ρ σ h') (j' : J (i + 1) h' ρ) (T' : ∀ fs, Step own fs ρ ρ s.heap h') : FInv X C lvl A fs env J W ρ2 s2 (i + 1) fr σ ρ { s with heap := h', toks := k } :=
  ⟨⟨I', V.a.F.stepW (T' fs) (fun x hx q => (w.off x q).1 hx) (fun b hb => (wk.off V.j b hb).2.2), V.a.names, V.a.ar.step (T' fs) fun L hL q => absurd hL (w.off L q).2, V.a.rm, V.a.cd⟩, j', V.E.trans ⟨h', k, rfl⟩, V.T.trans ((T' fs).mono w.ow (V.th wk w))⟩
theorem FInv.go (V : FInv X C lvl A fs env J W ρ2 s2 i fr σ ρ s) (wk : Wk X A src it own ok J) (w : FW env fs own W) {fr' : Fr} (E : Ext s s') (I : Rp X ρ' σ' s'.heap) (F : FrR X C.Γ env fr' ρ' s'.heap) (T : Step (frameAddrs env) fs ρ ρ' s.heap s'.heap) : FInv X C lvl A fs env J W ρ2 s2 i fr' σ' ρ' s' :=
  ⟨V.a.nextW I F T, wk.step V.j T V.a.noSeq (fun x hx => w.off x hx), V.E.trans E, V.T.trans (T.mono w.frm (V.th wk w))⟩

noncomputable def turnQ (X : Cx) (A : Around) (env : Env) (target : Expr) (body : List Stmt) (P : Shared → Prop) (R : Result → Shared → Prop) (u : Value) (s4 : Shared) : Prop :=
  wpAny (model X.prog X.w) A (assign target env u) (fun _ s₂ => wpAny (model X.prog X.w) A (execs body env) (fun f s₃ => match f with
    | .next | .cont => P s₃
    | .brk => R (.ok .next) s₃
    | .ret v => R (.ok (.ret v)) s₃) (notedBy (model X.prog X.w) A env fun e s' => R (.error e) s') s₂) (notedBy (model X.prog X.w) A env fun e s' => R (.error e) s') s4

theorem for_turn {target : Expr} {body : List Stmt} {evT : Fr → IT → PV → St → R Fr} {evSs : Fr → List IS → St → R Fl} {t : IT} {b : List IS} {P : Shared → Prop} {R : Result → Shared → Prop} {x : PV} {u : Value} {r' : Mine.R (Sum Fr PV)}
    (wk : Wk X A src it own ok J) (w : FW env fs own W) (tp : Top A env) (ht : TOk X C lvl target fun fr v σ => evT fr t v σ) (hb : BlOk X C lvl body fun fr σ => evSs fr b σ)
    (V : FInv X C lvl A fs env J W ρ2 s2 i fr σ ρ s) (ru : VRep s.heap ρ x u) (hbody : forBody evT evSs t b x fr σ = r') (nn : r' ≠ .stuck)
    (hnext : ∀ fr' σ' ρ' s', r' = .ok (.inl fr') σ' → FInv X C lvl A fs env J W ρ2 s2 i fr' σ' ρ' s' → P s')
    (hret : ∀ v u σ' ρ' s', r' = .ok (.inr v) σ' → Ext s2 s' → Rp X ρ' σ' s'.heap → VRep s'.heap ρ' v u → Step W fs ρ2 ρ' s2.heap s'.heap → R (.ok (.ret u)) s')
    (hexc : ∀ {β : Type} (q : Mine.R β) e fr' σ' ρc sc s', PostX X A (frameAddrs env) fs ρc sc q e s' → (∀ c σ', q = .exc c σ' → r' = .exc c σ') → FInv X C lvl A fs env J W ρ2 s2 i fr' σ' ρc sc → notedBy (model X.prog X.w) A env (fun e s' => R (.error e) s') e s') :
    turnQ X A env target body P R u s := by
  subst hbody
  have m1 : evT fr t x σ ≠ .stuck := fun q => nn (congrArg (fun m => Mine.R.bind m _) q)
  refine wpAny_mono (ht _ _ _ _ _ _ _ _ _ V.a ru m1) (fun _ s5 p => ?_) fun e s5 p => hexc _ e fr σ ρ s s5 p (fun c σ' q => congrArg (fun m => Mine.R.bind m _) q) V
  obtain ⟨fr5, σ5, ρ5, w1, w2, w3, w4, w5⟩ := p
  have V5 := V.go wk w w2 w3 w4 w5
  have e0 : forBody evT evSs t b x fr σ = (evSs fr5 b σ5).bind fun fl σ => match fl with
    | .next fr => .ok (.inl fr) σ
    | .ret v => .ok (.inr v) σ := congrArg (fun m => Mine.R.bind m _) w1
  rw [e0] at nn hnext hret hexc
  have m2 : evSs fr5 b σ5 ≠ .stuck := fun q => nn (congrArg (fun m => Mine.R.bind m _) q)
  refine wpAny_mono (hb _ _ _ _ _ _ _ V5.a tp m2) (fun flow s6 p => ?_) fun e s6 p => hexc _ e fr5 σ5 ρ5 s5 s6 p (fun c σ' q => congrArg (fun m => Mine.R.bind m _) q) V5
  obtain ⟨fl6, σ6, ρ6, z1, z2, z3, z4, z5⟩ := p
  cases fl6 with
  | next fr6 =>
    cases flow <;> first | exact z4.elim | skip
    exact hnext fr6 σ6 ρ6 s6 (congrArg (fun m => Mine.R.bind m _) z1) (V5.go wk w z2 z3 z4 z5)
  | ret v =>
    cases flow <;> first | exact z4.elim | skip
    exact hret v _ σ6 ρ6 s6 (congrArg (fun m => Mine.R.bind m _) z1) (V5.E.trans z2) z3 z4 (V5.T.trans (z5.mono w.frm (V5.th wk w)))

noncomputable def FLoop (X : Cx) (C : SC) (lvl : Nat) (A : Around) (fs : List Addr) (env : Env) (J : Nat → Heap → Rho → Prop) (W : List Addr) (ρ2 : Rho) (s2 : Shared) (src : Src) (body : PV → Fr → St → Mine.R (Sum Fr PV)) (lr : Mine.R (Sum Fr PV)) (n : Nat) (s' : Shared) : Prop :=
  ∃ i fr' σ' ρ', Run body src n i fr' σ' lr ∧ FInv X C lvl A fs env J W ρ2 s2 i fr' σ' ρ' s'
theorem for_go {target : Expr} {body : List Stmt} {evT : Fr → IT → PV → St → R Fr} {evSs : Fr → List IS → St → R Fl} {t : IT} {b : List IS} {R : Result → Shared → Prop} {lr : Mine.R (Sum Fr PV)} {n : Nat}
    (wk : Wk X A src it own ok J) (w : FW env fs own W) (tp : Top A env) (okT : ok target = true) (ht : TOk X C lvl target fun fr v σ => evT fr t v σ) (hb : BlOk X C lvl body fun fr σ => evSs fr b σ)
    (hr : Run (forBody evT evSs t b) src n i fr σ lr) (V : FInv X C lvl A fs env J W ρ2 s2 i fr σ ρ s)
    (hnext : ∀ fr' σ' ρ' s', lr = .ok (.inl fr') σ' → Ext s2 s' → Rp X ρ' σ' s'.heap → FrR X C.Γ env fr' ρ' s'.heap → Step W fs ρ2 ρ' s2.heap s'.heap → R (.ok .next) s')
    (hret : ∀ v u σ' ρ' s', lr = .ok (.inr v) σ' → Ext s2 s' → Rp X ρ' σ' s'.heap → VRep s'.heap ρ' v u → Step W fs ρ2 ρ' s2.heap s'.heap → R (.ok (.ret u)) s')
    (hexc : ∀ {β : Type} (q : Mine.R β) e ρc sc s', PostX X A (frameAddrs env) fs ρc sc q e s' → (∀ c σ', q = .exc c σ' → lr = .exc c σ') → Ext s2 sc → (∀ x, x ∈ W → ∃ o, sc.heap.get? x = some o) → Step W fs ρ2 ρc s2.heap sc.heap → notedBy (model X.prog X.w) A env (fun e s' => R (.error e) s') e s') :
    codeAny (model X.prog X.w) A (.forLoop target it body [] env) R s := by
  refine codeAny_forLoop_any (FLoop X C lvl A fs env J W ρ2 s2 src (forBody evT evSs t b) lr) (fun n s3 hI => ?_) n ⟨i, fr, σ, ρ, hr, V⟩
  clear hr V
  obtain ⟨i, fr3, σ3, ρ3, hr, V⟩ := hI
  rcases run_cases hr with ⟨hat, e⟩ | ⟨x, r', hat, hbody, nn, hx, hn, hv⟩
  · refine wk.fin V.j V.a.I hat _ _ fun h' k I' T' => wpAny_execs_nil ?_
    exact hnext fr3 σ3 ρ3 { s3 with heap := h', toks := k } e (V.E.trans ⟨h', k, rfl⟩) I' (V.a.F.stepW (T' fs) (fun x hx q => (w.off x q).1 hx) fun b hb => (wk.off V.j b hb).2.2) (V.T.trans ((T' fs).mono w.ow (V.th wk w)))
  · refine wpAny_mono (wk.next V.j V.a.I hat target (turnQ X A env target body (fun s₃ => ∃ m, m < n ∧ FLoop X C lvl A fs env J W ρ2 s2 src (forBody evT evSs t b) lr m s₃) R) (notedBy (model X.prog X.w) A env fun e s' => R (.error e) s') okT fun u h' k I' j' T' ru =>
      for_turn wk w tp ht hb (V.next wk w I' j' T') ru hbody nn (fun fr' σ' ρ' s' q V' => (let ⟨m, h1, h2⟩ := hn _ _ q; ⟨m, h1, _, _, _, _, h2, V'⟩))
        (fun v u σ' ρ' s' q => hret v u σ' ρ' s' (hv v σ' q)) fun q e fr' σ' ρc sc s' p hq V' => hexc q e ρc sc s' p (fun c σ' z => hx c σ' (hq c σ' z)) V'.E (V'.th wk w) V'.T) (fun r s1 h => ?_) fun _ _ q => q
    cases r with
    | none => exact h.elim
    | some v => exact h
end

theorem s_for {target iter : Expr} {body : List Stmt} {pos : Pos} {ev : Fr → IE → St → R PV} {evT : Fr → IT → PV → St → R Fr} {evSs : Fr → List IS → St → R Fl} {t : IT} {b : List IS} {its : List IE} {kind : Nat} {ok : Expr → Bool}
    (hs : notSet iter = true) (src : SrcOk X C lvl iter ok (srcF ev kind its)) (okT : ok target = true) (ht : TOk X C lvl target fun fr v σ => evT fr t v σ) (hb : BlOk X C lvl body fun fr σ => evSs fr b σ) :
    SOkS X C lvl (.For target iter body [] pos) fun fr σ => (srcF ev kind its fr σ).bind fun src σ => (loopS (forBody evT evSs t b) src fr σ).bind forEnd := fun A fs env fr ρ σ s a tp => by
  show Ok X A (frameAddrs env) fs ρ s (FlRel X C env) _ ((srcF ev kind its fr σ).bind fun src σ => (loopS (forBody evT evSs t b) src fr σ).bind forEnd)
  intro ns
  refine wpAny_For ?_ (fun x => by cases iter <;> first | rfl | cases hs)
  have n1 : srcF ev kind its fr σ ≠ .stuck := fun q => ns (by rw [q]; rfl)
  generalize hres : ((srcF ev kind its fr σ).bind fun src σ => (loopS (forBody evT evSs t b) src fr σ).bind forEnd : R Fl) = res at ns ⊢
  have up : ∀ {c σ'}, srcF ev kind its fr σ = .exc c σ' → res = .exc c σ' := fun q => by rw [← hres, q]; rfl
  refine wpAny_mono (src A fs env fr ρ σ s a n1) (fun x s1 hx => wpAny_mono hx (fun it s2 q => ?_) fun x s2 q => ?_) fun x s1 q => ?_
  rotate_left
  · exact q.from' (fun c σ' q => up q) (.refl _) fun _ _ T => T.mono (fun _ q => nomatch q) a.thereW
  · exact q.from' (fun c σ' q => up q) (.refl _) fun _ _ T => T.mono (fun _ q => nomatch q) a.thereW
  clear up
  obtain ⟨sr, σ2, ρ2, q1, q2, q3, ⟨own, J, wk, j0, ofr⟩, q5⟩ := q
  have hres : (loopS (forBody evT evSs t b) sr fr σ2).bind forEnd = res := by rw [← hres, q1]; rfl
  have n2 : loopS (forBody evT evSs t b) sr fr σ2 ≠ .stuck := fun q => ns (by rw [← hres, q]; rfl)
  obtain ⟨n, hrun⟩ := run_of n2
  generalize loopS (forBody evT evSs t b) sr fr σ2 = lr at hres hrun
  have w : FW env fs own (own ++ frameAddrs env) := ⟨fun x h => List.mem_append.mpr (.inl h), fun x h => List.mem_append.mpr (.inr h), fun x h => List.mem_append.mp h,
    fun x hx => ⟨fun q => (by obtain ⟨o, e⟩ := a.thereW x q; rw [ofr x hx] at e; cases e), fun q => (by obtain ⟨o, e⟩ := fsThere a.ar x q; rw [ofr x hx] at e; cases e)⟩⟩
  have T2 : Step (frameAddrs env) fs ρ ρ2 s.heap s2.heap := q5.mono (fun _ q => nomatch q) a.thereW
  have a2 : At X C lvl A fs env fr ρ2 σ2 s2 := a.next q3 q5
  have lift : ∀ {ρ' : Rho} {h' : Heap}, Step (own ++ frameAddrs env) fs ρ2 ρ' s2.heap h' → Step (frameAddrs env) fs ρ ρ' s.heap h' := fun T => Step.locW T2 T (fun x hw => (w.all x hw).elim (fun q => .inr (ofr x q)) .inl) a2.thereW
  refine for_go (ρ2 := ρ2) (s2 := s2) wk w tp okT ht hb hrun ⟨a2, j0, .refl _, Step.refl⟩ (fun fr' σ' ρ' s' e E I F T => ?_) (fun v u σ' ρ' s' e E I r T => ?_) fun q e ρc sc s' p hq E th T => ?_
  · exact ⟨.next fr', σ', ρ', by rw [← hres, e]; rfl, q2.trans E, I, F, lift T⟩
  · exact ⟨.ret v, σ', ρ', by rw [← hres, e]; rfl, q2.trans E, I, r, lift T⟩
  · have p2 : PostX X A (frameAddrs env) fs ρ s res _ _ := p.from' (fun c σ' z => by rw [← hres, hq c σ' z]; rfl) (q2.trans E) fun _ _ T' => lift (T.trans (T'.mono w.frm th))
    exact wpAny_mono (noted_ok tp p2) (fun _ _ q => back_ok tp q) fun _ _ q => back_ok tp q
end
end Mine
end

section
set_option autoImplicit false
set_option linter.unusedVariables false
set_option maxRecDepth 100000
namespace Mine
open PySem PySem.W PyProof.Rows PySem.SeqAt

theorem bindL_get {kd : Str → Option NameKind} {n : Str} {v : Value} : ∀ {ns : List Str} {us : List Value} {m : Str → Option Value} {i : Nat}, ns.Nodup → ns[i]? = some n → us[i]? = some v → kd n = some .local → bindL kd (ns.zip us) m n = some v := by
  intro ns
  have keep : ∀ (ns : List Str) (us : List Value) (m : Str → Option Value), n ∉ ns → bindL kd (ns.zip us) m n = m n := by
    intro ns
    induction ns with
    | nil => intros; rfl
    | cons x ns ih =>
      intro us m hn
      cases us with
      | nil => rfl
      | cons u us =>
        rw [List.zip_cons_cons]
        unfold bindL
        rw [ih us _ (fun h => hn (List.mem_cons_of_mem _ h))]
        have : n ≠ x := fun e => hn (e ▸ List.mem_cons_self)
        split <;> simp [this]
  induction ns with
  | nil => intro us m i _ h; simp at h
  | cons x ns ih =>
    intro us m i nd h1 h2 hl
    cases us with
    | nil => simp at h2
    | cons u us =>
      rw [List.zip_cons_cons]
      unfold bindL
      obtain ⟨nx, nd⟩ := List.nodup_cons.mp nd
      cases i with
      | zero =>
        simp at h1 h2
        subst h1 h2
        rw [keep ns us _ nx, if_pos hl]
        simp
      | succ i => exact ih nd (by simpa using h1) (by simpa using h2) hl
theorem bindC_get {kd : Str → Option NameKind} {n : Str} {v : Value} : ∀ {ns : List Str} {us : List Value} {m : Str → Option Value} {i : Nat}, ns.Nodup → ns[i]? = some n → us[i]? = some v → kd n ≠ some .local → bindC kd (ns.zip us) m n = some v := by
  intro ns
  have keep : ∀ (ns : List Str) (us : List Value) (m : Str → Option Value), n ∉ ns → bindC kd (ns.zip us) m n = m n := by
    intro ns
    induction ns with
    | nil => intros; rfl
    | cons x ns ih =>
      intro us m hn
      cases us with
      | nil => rfl
      | cons u us =>
        rw [List.zip_cons_cons]
        unfold bindC
        rw [ih us _ (fun h => hn (List.mem_cons_of_mem _ h))]
        have : n ≠ x := fun e => hn (e ▸ List.mem_cons_self)
        split <;> simp [this]
  induction ns with
  | nil => intro us m i _ h; simp at h
  | cons x ns ih =>
    intro us m i nd h1 h2 hl
    cases us with
    | nil => simp at h2
    | cons u us =>
      rw [List.zip_cons_cons]
      unfold bindC
      obtain ⟨nx, nd⟩ := List.nodup_cons.mp nd
      cases i with
      | zero =>
        simp at h1 h2
        subst h1 h2
        rw [keep ns us _ nx, if_neg hl]
        simp
      | succ i => exact ih nd (by simpa using h1) (by simpa using h2) hl

theorem notTup_of_seqless {h : Heap} {a : Addr} {o : Obj} (e : h.get? a = some o) (q : ∀ xs n, o.data ≠ .seq xs n) (items : Array Value) : ¬ h.IsTuple a items := fun ⟨o', e', _, n, hd⟩ => by
  rw [e] at e'; cases e'; exact q _ _ hd

section
variable {X : Cx} {S : SX} {C C' : SC} {lvl : Nat} {A : Around} {W W1 fs : List Addr} {env : Env} {fr : Fr} {ρ ρ' : Rho} {σ σ' : St} {s s' : Shared}

/-- what a call does is seen from before it -/
theorem Step.callS {h h1 h3 : Heap} {ρ ρ2 : Rho} {L : Addr} (k : ∀ b o, h.get? b = some o → h1.get? b = some o) (S : Step W (L :: fs) ρ ρ2 h1 h3) (hW : ∀ w, w ∈ W → h.get? w = none) (hL : h.get? L = none) : Step [] fs ρ ρ2 h h3 := by
  have nw : ∀ a o, h.get? a = some o → a ∉ W := fun a o e q => by rw [hW a q] at e; cases e
  have nl : ∀ a o, h.get? a = some o → a ≠ L := fun a o e q => by rw [q, hL] at e; cases e
  refine ⟨S.pre, fun a o e n _ => ?_, fun a o e _ => S.there a o (k a o e) (nw a o e), fun a q => ?_, fun _ w => nomatch w⟩
  · obtain ⟨k1, k2⟩ := S.keep a o (k a o e) n (nw a o e)
    exact ⟨fun nf => k1 fun q => (by
      rcases List.mem_cons.mp q with q | q
      · exact nl a o e q
      · exact nf q), k2⟩
  · rcases S.fresh a q with q | q
    · exact .inl q
    · right
      cases e : h.get? a with
      | none => rfl
      | some o => rw [k a o e] at q; cases q
theorem Step.hide {h h3 : Heap} {ρ ρ2 : Rho} {L : Addr} (S : Step [] fs ρ ρ2 h h3) (hL : h.get? L = none) : Step [] fs ρ ρ2 h (h3.hide L) := by
  have nl : ∀ a o, h.get? a = some o → a ≠ L := fun a o e q => by rw [q, hL] at e; cases e
  refine ⟨S.pre, fun a o e n m => ?_, fun a o e m => ?_, S.fresh, S.apart⟩
  · rw [Heap.hide_ne h3 (nl a o e)]; exact S.keep a o e n m
  · rw [Heap.hide_ne h3 (nl a o e)]; exact S.there a o e m

/-- what a function of the text is known to be -/
structure FnFacts (X : Cx) (k : Nat) (fd : FuncData) (body : List Stmt) (params : List Str) (C : SC) : Prop where
  obj : ∃ oc od osl, X.K.lookup (X.fa k) = some ⟨oc, od, .func fd, osl⟩
  code : codeIn X.K fd.code fd.qualname = true
  body : fd.body = .stmts body
  clo : fd.closure = []
  glob : fd.globals = mainGlobals
  bi : fd.builtins = builtinsNs
  co : fd.scope.isCoroutine = false
  gen : fd.scope.isGenerator = false
  kind : fd.scope.kind = .function
  bind : ∀ us : List Value, us.length = params.length → ∀ S, peek X.K S (bindArgs fd ⟨us, []⟩) = some (params.zip us)
  nodup : params.Nodup
  names : C.names = fd.scope.names
  ccode : ∀ v, C.code = some v → fd.code = v
  par : ∀ i n, params[i]? = some n → (n, i) ∈ C.Γ
  kinds : ∀ n i, (n, i) ∈ C.Γ → C.names.lookup n = some .local ∨ C.names.lookup n = some .cell
  cells : ∀ n lo, C.names.lookup n = some .cell → ((cellsFrom lo fd.scope.names []).lookup n).isSome = true
  cellNodup : (fd.scope.names.map (·.1)).Nodup
  inj : ∀ n n' i, (n, i) ∈ C.Γ → (n', i) ∈ C.Γ → n = n'
  one : ∀ n i i', (n, i) ∈ C.Γ → (n, i') ∈ C.Γ → i = i'

theorem cellsFrom_nodup : ∀ {names : List (Str × NameKind)} {lo : Nat} {acc : List (Str × Addr)}, (acc.map (·.1) ++ names.map (·.1)).Nodup → ((cellsFrom lo names acc).map (·.1)).Nodup
  | [], lo, acc, h => by simpa [cellsFrom] using h
  | (n, k) :: r, lo, acc, h => by
    unfold cellsFrom
    have h' : (n :: (acc.map (·.1) ++ r.map (·.1))).Nodup := (List.perm_middle.nodup_iff).mp h
    split
    · exact cellsFrom_nodup (by simpa using h')
    · exact cellsFrom_nodup (List.nodup_cons.mp h').2
theorem fun_of_nodup {n : Str} {c c' : Addr} : ∀ {l : List (Str × Addr)}, (l.map (·.1)).Nodup → (n, c) ∈ l → (n, c') ∈ l → c = c'
  | (m, d) :: l, nd, h, h' => by
    obtain ⟨nx, nd⟩ := List.nodup_cons.mp nd
    rcases List.mem_cons.mp h with q | q <;> rcases List.mem_cons.mp h' with q' | q'
    · cases q; cases q'; rfl
    · cases q; exact absurd (List.mem_map.mpr ⟨_, q', rfl⟩) nx
    · cases q'; exact absurd (List.mem_map.mpr ⟨_, q, rfl⟩) nx
    · exact fun_of_nodup nd q q'
theorem cells_fun {names : List (Str × NameKind)} {lo : Nat} {n : Str} {c c' : Addr} (nd : (names.map (·.1)).Nodup) (h : (n, c) ∈ cellsFrom lo names []) (h' : (n, c') ∈ cellsFrom lo names []) : c = c' :=
  fun_of_nodup (cellsFrom_nodup (by simpa using nd)) h h'
theorem fr_start {vs : List PV} {w i : Nat} {v : PV} (h : (vs.map some ++ List.replicate w (none : Option PV))[i]? = some (some v)) : vs[i]? = some v := by
  have := app_none h
  rw [List.getElem?_map] at this
  cases e : vs[i]? with
  | none => rw [e] at this; cases this
  | some x => rw [e] at this; cases this; rfl

theorem Fly.leave {L c a : Nat} {h₁ : Heap} {outer : List Env} {Q : Unit → Shared → Prop} {E : Value → Shared → Prop} {M : Model} (F : Fly X (A.deeper env) (L :: fs) a c h₁ s'.heap) (hA : A.frames = some outer) (hf : env.frame = some L) (hout : fs = outer.filterMap (·.frame))
    (q : ∀ h'', Fly X A fs a c (h₁.hide L) h'' → (∀ items, ¬ h₁.IsTuple L items) → Q () { s' with heap := h'' }) : wpAny M (A.deeper env) (leaving env (.ref a)) Q E s' := by
  obtain ⟨l, Bx, a0, f1, f2, f3, f4, f5⟩ := F
  have f1' : some (env :: outer) = some l := by
    have : (A.deeper env).frames = some (env :: outer) := by show A.frames.map _ = _; rw [hA]; rfl
    rw [this] at f1; exact f1
  cases f1'
  have fr := air_frames f3
  have hl : (env :: outer).filterMap (·.frame) = L :: outer.filterMap (·.frame) := by rw [List.filterMap_cons, hf]
  have nt : ∀ items, ¬ h₁.IsTuple L items := fun items ⟨o, e, _, n, hd⟩ => by
    obtain ⟨sl, e'⟩ := f4 L o e (fun vs => (by rw [hd]; simp))
    exact f5 L (by rw [hl]; exact List.mem_cons_self) _ e' _ _ hd
  refine air_leave (s := s') f1 hf f3 fun h'' x u => q h'' ⟨outer, Bx, a0, hA, fun b o e nf => ?_, .inl x, ?_, ?_⟩ nt
  · have hb : b ≠ L := fun z => by subst z; rw [Heap.hide_self] at e; cases e
    exact f2 b o (Heap.of_hide e) fun m => by
      rcases List.mem_cons.mp m with m | m
      · exact hb m
      · exact nf m
  · have u2 := f4.trans u
    exact fun b o e nd => u2 b o (Heap.of_hide e) nd
  · have f6 : NsqF (outer.filterMap (·.frame)) s'.heap := fun b hb => f5 b (by rw [hl]; exact List.mem_cons_of_mem _ hb)
    exact f6.slots fr.2.2 u

theorem fn_ok {f : Fn} {k : Nat} {fd : FuncData} {body : List Stmt} {params : List Str} {T : Tb} (lim : X.base.NoLimit) (P : FnFacts X k fd body params C) (hn : params.length = f.nargs) (hb : BlOk X C lvl body fun fr σ => evSs T fuel0 fr f.body σ) :
    FOk X (lvl + 1) (.ref (X.fa k)) fun vs σ => runFn T f vs σ := fun A fs ρ σ s vs us I ar rm rs ns => by
  change runFn T f vs σ ≠ .stuck at ns
  unfold runFn at ns
  by_cases hw : vs.length = f.nargs ∧ f.nargs ≤ f.width
  case neg => rw [if_neg hw] at ns; exact absurd rfl ns
  rw [if_pos hw] at ns
  have hrun : runFn T f vs σ = match evSs T fuel0 (vs.map some ++ List.replicate (f.width - f.nargs) .none) f.body σ with
    | .ok (.ret v) σ => .ok v σ
    | .ok (.next _) σ => .ok .none σ
    | .exc c σ => .exc c σ
    | .stuck => .stuck := by unfold runFn; rw [if_pos hw]; try rfl
  simp only [hrun]
  clear hrun
  have n1 : evSs T fuel0 (vs.map some ++ List.replicate (f.width - f.nargs) .none) f.body σ ≠ .stuck := fun q => by rw [q] at ns; exact ns rfl
  generalize hres : evSs T fuel0 (vs.map some ++ List.replicate (f.width - f.nargs) .none) f.body σ = res at ns n1 ⊢
  obtain ⟨oc, od, osl, hobj⟩ := P.obj
  have hlen : us.length = params.length := by rw [← rs.length, hw.1, hn]
  have hbt : BindsTo s fd ⟨us, []⟩ (params.zip us) := kp_binds I.kin (P.bind us hlen)
  obtain ⟨outer, hA, hfs, hff⟩ := ar.fr
  have kd : ∀ env' : Env, env'.scope = fd.scope → ∀ n, env'.kindOf n = C.names.lookup n := fun env' e n => by unfold Env.kindOf; rw [e, P.names]
  refine codeAny_call_function (by have := rm.1; omega) (I.kin _ _ hobj) rfl P.co P.gen P.body (codeRec_of I.kin P.code) (hbt _ _ _ _ ?_)
  rw [P.clo]
  refine wpAny_newFunctionEnv_cells P.kind (fun x hx => ?_) fun env he s1 x => ?_
  · obtain ⟨i, hi⟩ := List.getElem?_of_mem hx
    rw [List.getElem?_zip_eq_some] at hi
    have h1 := P.par i _ hi.1
    rcases P.kinds _ _ h1 with q | q
    · exact .inl (P.names ▸ q)
    · exact .inr ⟨P.names ▸ q, P.cells _ _ q⟩
  have hL : env.locals = s.heap.objs.size := by subst he; rfl
  have hfrm : env.frame = some s.heap.objs.size := by subst he; rfl
  have hsc : env.scope = fd.scope := by subst he; rfl
  have hgl : env.globals = mainGlobals := by subst he; exact P.glob
  have hbi : env.builtins = builtinsNs := by subst he; exact P.bi
  have hcdv : env.code = fd.code := by subst he; rfl
  have hcl : env.cells = cellsFrom (s.heap.objs.size + 1) fd.scope.names [] := by subst he; rfl
  clear he
  obtain ⟨⟨⟨h1, tk1, rfl⟩, hns, kp, _⟩, hcell, hap, hab⟩ := x
  dsimp only at hns kp hcell
  refine ⟨(lim.keeps (fun b o e => kp b o (I.base b o e))), codeAny_func ?_⟩
  have Lnone : s.heap.get? s.heap.objs.size = none := get?_size s.heap
  have fresh : ∀ a, a ∈ frameAddrs env → s.heap.get? a = none := fun a ha => by
    rcases List.mem_cons.mp ha with q | q
    · rw [q, hL]; exact Lnone
    · obtain ⟨⟨n, c⟩, hm, rfl⟩ := List.mem_map.mp q
      have := hab n c hm
      rw [hL] at this
      exact get?_oob (Nat.le_of_lt this)
  have T1 : Step [] fs ρ ρ s.heap h1 := Step.of_keeps kp
  have I1 : Rp X ρ σ h1 := I.keeps kp
  have rs1 : VReps h1 ρ vs us := rs.step T1 noSeq_nil
  have F1 : FrR X C.Γ env (vs.map some ++ List.replicate (f.width - f.nargs) .none) ρ h1 := by
    refine ⟨by rw [hsc]; exact P.kind, hgl, hbi, fun n i h => ?_, P.inj, P.one, ⟨_, hns, fun n i h hk v hv => ?_⟩, fun n i h hk => ?_, fun a ha => ?_, fun q => ?_, fun n n' c h h' => name_of_addr hap h h'⟩
    · rw [kd env hsc]
      rcases P.kinds n i h with q | q
      · exact .inl q
      · exact .inr (.inl q)
    · have hv := fr_start hv
      have hi : i < params.length := by rw [← hlen, ← rs.length]; exact (List.getElem?_eq_some_iff.mp hv).1
      have hp : params[i]? = some params[i] := List.getElem?_eq_getElem hi
      have en : params[i] = n := P.inj _ _ i (P.par i _ hp) h
      rw [en] at hp
      obtain ⟨u, hu, ru⟩ := rs1.get hv
      exact ⟨u, bindL_get P.nodup hp hu hk, ru⟩
    · have hk' : C.names.lookup n = some .cell := by
        rw [kd env hsc] at hk
        rcases P.kinds n i h with q | q
        · rw [q] at hk; rcases hk with hk | hk <;> cases hk
        · exact q
      obtain ⟨c, hc⟩ := Option.isSome_iff_exists.mp (P.cells n (s.heap.objs.size + 1) hk')
      rw [← hcl] at hc
      refine ⟨c, _, hc, hcell n c hc, fun v hv => ?_⟩
      have hv := fr_start hv
      have hi : i < params.length := by rw [← hlen, ← rs.length]; exact (List.getElem?_eq_some_iff.mp hv).1
      have hp : params[i]? = some params[i] := List.getElem?_eq_getElem hi
      have en : params[i] = n := P.inj _ _ i (P.par i _ hp) h
      rw [en] at hp
      obtain ⟨u, hu, ru⟩ := rs1.get hv
      exact ⟨u, bindC_get P.nodup hp hu (by rw [kd env hsc, hk']; simp), ru⟩
    · have hn0 := fresh a ha
      refine ⟨I.offNew hn0, base_none I.base hn0, ?_⟩
      rcases List.mem_cons.mp ha with q | q
      · rw [q]; exact ns_data hns
      · obtain ⟨⟨n, c⟩, hm, rfl⟩ := List.mem_map.mp q
        have hc : env.cells.lookup n = some c := lookup_of_mem hm fun c' hc' => by
          rw [hcl] at hm hc'
          exact cells_fun P.cellNodup hc' hm
        exact cell_data (hcell n c hc)
    · obtain ⟨⟨n, c⟩, hm, e⟩ := List.mem_map.mp q
      have := hab n c hm
      dsimp only at e
      rw [e] at this
      exact Nat.lt_irrefl _ this
  have rm1 : Rm (A.deeper env) lvl := by
    obtain ⟨r1, r2⟩ := rm
    refine ⟨?_, ?_⟩
    · show A.depth + 1 + lvl < _; omega
    · show A.units + 3 + 3 * lvl + 100 < _; omega
  have frs1 : (A.deeper env).frames = some (env :: outer) := by show A.frames.map _ = _; rw [hA]; rfl
  have nsq1 : NsqF (s.heap.objs.size :: fs) h1 := fun b hb o ho => by
    rcases List.mem_cons.mp hb with q | q
    · obtain ⟨o', e, q1, _⟩ := ns_data hns
      rw [q, ← hL, e] at ho; cases ho; exact q1
    · obtain ⟨_, o', e, _⟩ := hff.mem (hfs ▸ q)
      rw [kp _ _ e] at ho; cases ho
      exact ar.nsq b q _ e
  have ar1 : AOK X (A.deeper env) (s.heap.objs.size :: fs) ρ h1 := by
    refine ⟨ar.hd, ⟨env :: outer, frs1, by rw [List.filterMap_cons, hfrm, hfs], ?_⟩, fun b hb => ?_, nsq1⟩
    · obtain ⟨o', e, _, q2⟩ := ns_data hns
      refine ⟨by rw [hsc, P.kind]; simp, ⟨s.heap.objs.size, o', hfrm, base_none I.base Lnone, by rw [← hL]; exact e, q2⟩, funFrames_of hff fun b hb => ?_⟩
      obtain ⟨_, o, e, q⟩ := hff.mem hb
      exact ⟨o, kp _ _ e, q⟩
    · rcases List.mem_cons.mp hb with q | q
      · rw [q]; exact I.offNew Lnone
      · exact ar.off b q
  have hat : At X C lvl (A.deeper env) (s.heap.objs.size :: fs) env (vs.map some ++ List.replicate (f.width - f.nargs) .none) ρ σ { s with heap := h1, toks := tk1 } := ⟨I1, F1, by rw [hsc, P.names], ar1, rm1, fun v hv => hcdv.trans (P.ccode v hv)⟩
  have top1 : Top (A.deeper env) env := ⟨outer, _, frs1, hfrm⟩
  have key := hb _ _ _ _ _ _ _ hat top1 (by show evSs T fuel0 _ f.body σ ≠ _; rw [hres]; exact n1)
  change wpAny _ _ _ (Post X (frameAddrs env) _ ρ _ (FlRel X C env) (evSs T fuel0 _ f.body σ)) (PostX X _ (frameAddrs env) _ ρ _ (evSs T fuel0 _ f.body σ)) _ at key
  rw [hres] at key
  refine wpAny_mono key (fun flow s2 p => ?_) fun e s2 p => ?_
  · obtain ⟨fl, σ2, ρ2, e1, e2, e3, e4, e5⟩ := p
    subst e1
    have T2 : Step [] fs ρ ρ2 s.heap s2.heap := Step.callS kp e5 fresh Lnone
    have E2 : Ext s s2 := Ext.trans ⟨h1, tk1, rfl⟩ e2
    cases fl with
    | next fr' =>
      cases flow <;> first | exact e4.elim | skip
      exact ⟨.none, σ2, ρ2, rfl, E2, e3, .none, T2⟩
    | ret v =>
      cases flow <;> first | exact e4.elim | skip
      exact ⟨v, σ2, ρ2, rfl, E2, e3, e4, T2⟩
  · obtain ⟨c, σ2, ρ2, h₁, a, e1, rfl, e3, e4, e5, e6⟩ := p
    subst e1
    refine Fly.leave (fs := fs) e6 hA hfrm hfs fun h'' F' nt => ?_
    have T2 : Step [] fs ρ ρ2 s.heap h₁ := Step.callS kp e5 fresh Lnone
    have fL : Free X ρ2 s.heap.objs.size := ⟨(let ⟨o, e, _⟩ := ns_data hns; e5.offNew (by rw [← hL]; exact e) (I.offNew Lnone)), base_none I.base Lnone⟩
    · refine ⟨c, σ2, ρ2, h₁.hide s.heap.objs.size, a, rfl, rfl, ?_, ?_, T2.hide Lnone, F'⟩
      · obtain ⟨hh, tt, rfl⟩ := e3; exact ⟨_, _, rfl⟩
      · exact e4.extBut fL nt fun b o hb e => by rw [Heap.hide_ne _ hb]; exact e
end
end Mine
end

section
set_option autoImplicit false
set_option linter.unusedVariables false
set_option maxRecDepth 100000
namespace Mine
open PySem PySem.W PyProof.Rows PySem.SeqAt

section
variable {X : Cx} {S : SX} {C C' : SC} {lvl : Nat} {A : Around} {W W1 fs : List Addr} {env : Env} {fr : Fr} {ρ ρ' : Rho} {σ σ' : St} {s s' : Shared}

structure NewFacts (X : Cx) (c f : Nat) : Prop where
  makes : makesIn X.K (X.cls c) = true
  init : findIn X.K (.ref (X.cls c)) "__init__" = some (some (.ref (X.fa f)))
  fn : typeIn X.K (.ref (X.fa f)) = some (.type "function")

theorem under_frames (A : Around) {a : Addr} {rest : List Value} {kw : List (Str × Value)} : (A.under (.builtin "type.__call__" ⟨.ref a :: rest, kw⟩)).frames = A.frames := rfl
theorem under_handled (A : Around) (c : Code) : (A.under c).handled = A.handled := rfl
theorem under_rm {a : Addr} {rest : List Value} {kw : List (Str × Value)} (rm : Rm A (lvl + 1)) : Rm (A.under (.builtin "type.__call__" ⟨.ref a :: rest, kw⟩)) lvl := by
  obtain ⟨r1, r2⟩ := rm
  have e1 : (Code.builtin "type.__call__" ⟨.ref a :: rest, kw⟩).weight = 1 := by
    unfold Code.weight
    rw [show (Code.builtin "type.__call__" ⟨.ref a :: rest, kw⟩).isCreation = true from rfl, show (Code.builtin "type.__call__" ⟨.ref a :: rest, kw⟩).isGuard = false from (by show guardIds.contains "type.__call__" = false; decide +kernel), show (Code.builtin "type.__call__" ⟨.ref a :: rest, kw⟩).isCaller = false from rfl, show (Code.builtin "type.__call__" ⟨.ref a :: rest, kw⟩).frames = 0 from (by rfl)]
    rfl
  have e2 : (Code.builtin "type.__call__" ⟨.ref a :: rest, kw⟩).cUnits ≤ 1 := by
    show 1 + 3 * (Code.builtin "type.__call__" ⟨.ref a :: rest, kw⟩).frames ≤ 1
    rw [show (Code.builtin "type.__call__" ⟨.ref a :: rest, kw⟩).frames = 0 from (by rfl)]
    exact Nat.le_refl _
  refine ⟨?_, ?_⟩
  · show A.depth + (Code.builtin "type.__call__" ⟨.ref a :: rest, kw⟩).weight + lvl < _
    omega
  · show A.units + (Code.builtin "type.__call__" ⟨.ref a :: rest, kw⟩).cUnits + 3 * lvl + 100 < _
    omega

theorem new_ok {c f : Nat} {T : Tb} (hc : c < NC) (N : NewFacts X c f) (h : FOk X lvl (.ref (X.fa f)) (T.F f)) : FOk X (lvl + 1) (.ref (X.cls c)) (newSem T c f) := fun A fs ρ σ s vs us I ar rm rs ns => by
  have e0 : newSem T c f vs σ = (T.F f (.loc σ.length :: vs) (σ ++ [.inst c []])).bind fun r σ' => match r with
      | .none => .ok (.loc σ.length) σ'
      | _ => .stuck := by unfold newSem; rfl
  simp only [e0] at ns ⊢
  have n1 : T.F f (.loc σ.length :: vs) (σ ++ [.inst c []]) ≠ .stuck := fun q => by rw [q] at ns; exact ns rfl
  obtain ⟨hh, g, d, t, os⟩ := s
  refine make_core (makes_of I.kin N.makes) (looks_findIn I.kin N.init) (fun self => bind_fn I.kin self N.fn) (.inl rfl) ?_
  have kp : ∀ b o, hh.get? b = some o → ((hh.push emptyDict).push (instObj (X.cls c) hh.objs.size)).get? b = some o := fun b o e => Heap.get?_push_of_some _ (Heap.get?_push_of_some _ e)
  have gd : ((hh.push emptyDict).push (instObj (X.cls c) hh.objs.size)).get? hh.objs.size = some emptyDict := Heap.get?_push_of_some _ (Heap.get?_push_size _ rfl)
  have gx : ((hh.push emptyDict).push (instObj (X.cls c) hh.objs.size)).get? (hh.objs.size + 1) = some (instObj (X.cls c) hh.objs.size) := by heap_get
  generalize hH : (hh.push emptyDict).push (instObj (X.cls c) hh.objs.size) = H at kp gd gx ⊢
  have n0 : ∀ a, a ∈ ownedOf (hh.objs.size + 1, some hh.objs.size) → hh.get? a = none := fun a ha => by
    simp [ownedOf] at ha
    rcases ha with rfl | rfl
    · exact get?_oob (Nat.le_succ _)
    · exact get?_size _
  have I1 : Rp X (ρ ++ [(hh.objs.size + 1, some hh.objs.size)]) (σ ++ [.inst c []]) H := by
    refine Rp.grow I kp n0 (by simp [ownedOf]) fun T => ?_
    refine .inst hc gx rfl rfl rfl (Heap.Ns1.of_empty ⟨_, #[], _, gd, rfl, fun e he => absurd he (by simp), fun _ => rfl⟩) (fun y hy => absurd rfl hy) fun k n hk => ?_
    simp
  have T1 : Step [] fs ρ (ρ ++ [(hh.objs.size + 1, some hh.objs.size)]) hh H := Step.grow kp fun a q => n0 a (by simpa [owned] using q)
  have ar1 : AOK X (A.under (.builtin "type.__call__" ⟨.ref (X.cls c) :: us, []⟩)) fs (ρ ++ [(hh.objs.size + 1, some hh.objs.size)]) H := (ar.step0 T1).around rfl rfl
  have r0 : VRep H (ρ ++ [(hh.objs.size + 1, some hh.objs.size)]) (.loc σ.length) (.ref (hh.objs.size + 1)) := by
    have : (ρ ++ [(hh.objs.size + 1, some hh.objs.size)])[σ.length]? = some (hh.objs.size + 1, some hh.objs.size) := by rw [← I.len]; simp
    exact .loc this
  have key := h _ fs _ _ ⟨H, g, d, t, os⟩ (.loc σ.length :: vs) (.ref (hh.objs.size + 1) :: us) I1 ar1 (under_rm rm) (.cons r0 (rs.step T1 noSeq_nil)) n1
  refine codeAny_mono key fun r s' z => ?_
  rcases r with e | (v | _ | _ | _) <;> first | exact z.elim | skip
  · obtain ⟨c', σ2, ρ2, h₁, a, e1, e2, ⟨h2, t2, rfl⟩, e4, e5, e6⟩ := z
    refine ⟨c', σ2, ρ2, h₁, a, by rw [e1]; rfl, e2, ⟨h2, t2, rfl⟩, e4, T1.trans e5, ?_⟩
    obtain ⟨l, Bx, a0, f1, f2, f3, f4, f5⟩ := e6
    exact ⟨l, Bx, a0, f1, f2, f3, f4, f5⟩
  · obtain ⟨v', σ2, ρ2, e1, ⟨h2, t2, rfl⟩, e3, e4, e5⟩ := z
    rw [e1] at ns ⊢
    cases v' <;> first | exact absurd rfl ns | skip
    cases e4
    exact ⟨rfl, .loc σ.length, σ2, ρ2, rfl, ⟨h2, t2, rfl⟩, e3, r0.step e5 noSeq_nil, T1.trans e5⟩
end
end Mine
end

section
set_option autoImplicit false
set_option linter.unusedVariables false
set_option maxRecDepth 100000
set_option maxHeartbeats 1000000
namespace Mine
open PySem PySem.W PyProof.Rows PySem.SeqAt

noncomputable def exTail : List Value := [.type "Exception", .type "BaseException", .type "object"]
noncomputable def isRefV : Value → Bool
  | .ref _ => true
  | _ => false
noncomputable def exOnly : List Value → Bool
  | [] => false
  | v :: r => decide (v :: r = exTail) || (isRefV v && exOnly r)
theorem isRefV_ex {v : Value} (h : isRefV v = true) : ∃ c, v = .ref c := by
  cases v <;> first | exact ⟨_, rfl⟩ | cases h
theorem exOnly_cons {v : Value} {r : List Value} (h : exOnly (v :: r) = true) : v :: r = exTail ∨ (∃ c, v = .ref c) ∧ exOnly r = true := by
  rcases Bool.or_eq_true_iff.mp (show (decide (v :: r = exTail) || (isRefV v && exOnly r)) = true from h) with e | e
  · exact .inl (of_decide_eq_true e)
  · exact .inr ⟨isRefV_ex (Bool.and_eq_true_iff.mp e).1, (Bool.and_eq_true_iff.mp e).2⟩
theorem exOnly_refuse (self : Value) {l : List Value} (h : exOnly l = true) : refuseLoop self "__setattr__" l = pure () := by
  induction l with
  | nil => cases h
  | cons v r ih =>
    rcases exOnly_cons h with e | ⟨⟨c, e⟩, h⟩
    · rw [e]; exact PySem.F.store_Exception.passes self
    · rw [e, refuseLoop_ref]; exact ih h
theorem exOnly_has {l : List Value} (h : exOnly l = true) : l.contains (.type "Exception") = true ∧ l.contains (.type "BaseException") = true ∧ l.contains (.type "object") = true ∧ l.contains (.type "AttributeError") = false ∧ l.contains (.type "NameError") = false := by
  induction l with
  | nil => cases h
  | cons v r ih =>
    rcases exOnly_cons h with e | ⟨⟨c, e⟩, h⟩
    · rw [e]; decide +kernel
    · obtain ⟨h1, h2, h3, h4, h5⟩ := ih h
      rw [e]
      refine ⟨?_, ?_, ?_, ?_, ?_⟩ <;> rw [List.contains_cons]
      · rw [h1, Bool.or_true]
      · rw [h2, Bool.or_true]
      · rw [h3, Bool.or_true]
      · rw [h4]; rfl
      · rw [h5]; rfl

noncomputable def mroOk (C : Addr) (l : List Value) : Bool := match l with
  | v :: bm => decide (v = .ref C) && exOnly bm
  | [] => false
noncomputable def excData (C : Addr) (sl : List (Option Value)) (d : Data) : Bool := match d with
  | .cls cd => mroOk C cd.mro && !cd.hasDel && cd.hasDict && decide (sl.length = 6) && decide (sl[4]? = some (some (.builtin "Exception.__new__")))
  | _ => false
noncomputable def excOk (K : Frag) (C : Addr) : Bool := match K.lookup C with
  | some o => decide (o.cls = .type "type") && excData C o.slots.toList o.data && specialIn K (.ref C) "__call__" == some (some (.builtin "type.__call__")) && instIn K (.ref C) (.type "type") == some true
  | none => false

structure ExcAt (K : Frag) (C : Addr) (bm : List Value) : Prop where
  obj : ∃ nm q N bs sn sub ab col dd k0 k1 k2 k3 k5, K.lookup C = some (excClassObj nm q C N bs bm true sn sub ab col dd k0 k1 k2 k3 k5 "Exception.__new__")
  only : exOnly bm = true
  call : specialIn K (.ref C) "__call__" = some (some (.builtin "type.__call__"))
  typ : instIn K (.ref C) (.type "type") = some true
theorem six_of {l : List (Option Value)} {n : Option Value} (h : l.length = 6) (h4 : l[4]? = some n) : ∃ k0 k1 k2 k3 k5, l = [k0, k1, k2, k3, n, k5] := by
  rcases l with _ | ⟨k0, _ | ⟨k1, _ | ⟨k2, _ | ⟨k3, _ | ⟨k4, _ | ⟨k5, _ | ⟨k6, l⟩⟩⟩⟩⟩⟩⟩
  all_goals first | (cases h; done) | skip
  cases h4
  exact ⟨_, _, _, _, _, rfl⟩
theorem excAt_of {K : Frag} {C : Addr} (e : excOk K C = true) : ∃ bm, ExcAt K C bm := by
  unfold excOk at e
  cases ho : K.lookup C with
  | none => rw [ho] at e; cases e
  | some o =>
    rw [ho] at e
    obtain ⟨ocl, odi, oda, osl⟩ := o
    have e : (decide (ocl = .type "type") && excData C osl.toList oda && specialIn K (.ref C) "__call__" == some (some (.builtin "type.__call__")) && instIn K (.ref C) (.type "type") == some true) = true := e
    obtain ⟨e, e2⟩ := Bool.and_eq_true_iff.mp e
    obtain ⟨e, e1⟩ := Bool.and_eq_true_iff.mp e
    obtain ⟨e, ed⟩ := Bool.and_eq_true_iff.mp e
    cases of_decide_eq_true e
    cases oda with
    | cls cd =>
      obtain ⟨nm, bs, mro, ns, qn, hd, sn, sub, ab, col, del⟩ := cd
      have ed : (mroOk C mro && !del && hd && decide (osl.toList.length = 6) && decide (osl.toList[4]? = some (some (.builtin "Exception.__new__")))) = true := ed
      obtain ⟨ee, d5⟩ := Bool.and_eq_true_iff.mp ed
      obtain ⟨ef, d4⟩ := Bool.and_eq_true_iff.mp ee
      obtain ⟨eg, d3⟩ := Bool.and_eq_true_iff.mp ef
      obtain ⟨eh, d2⟩ := Bool.and_eq_true_iff.mp eg
      clear ed ee ef eg
      cases hd with
      | false => cases d3
      | true =>
      cases del with
      | true => cases d2
      | false =>
      obtain ⟨k0, k1, k2, k3, k5, hs⟩ := six_of (of_decide_eq_true d4) (of_decide_eq_true d5)
      obtain ⟨osl⟩ := osl
      have hs : osl = _ := hs
      cases hs
      cases mro with
      | nil => cases eh
      | cons v bm =>
        obtain ⟨ev, eb⟩ := Bool.and_eq_true_iff.mp (show (decide (v = .ref C) && exOnly bm) = true from eh)
        cases of_decide_eq_true ev
        exact ⟨bm, ⟨nm, qn, ns, bs, sn, sub, ab, col, odi, k0, k1, k2, k3, k5, ho⟩, eb, beq_iff_eq.mp e1, beq_iff_eq.mp e2⟩
    | _ => cases ed

section
variable {K : Frag} {prog : Program} {w : World} {A : Around} {R : Result → Shared → Prop} {h : Heap} {g : Array GenState} {d : Drawn} {t : Nat} {os : OsState} {C : Addr} {bm : List Value}
variable {nm q : Str} {N : Addr} {bs : List Value} {hdct : Bool} {sn : List Str} {sub : List Value} {ab : Bool} {col : Option Bool} {dd : Option Addr} {k0 k1 k2 k3 k5 : Option Value}

theorem exc_check_new {M : Model} {E : Value → Shared → Prop} {rest : List Value} {Q : Unit → Shared → Prop} (ho : exOnly bm = true) (hC : h.get? C = some (excClassObj nm q C N bs bm hdct sn sub ab col dd k0 k1 k2 k3 k5 "Exception.__new__"))
    (hq : Q () ⟨h, g, d, t, os⟩) : wpAny M A (checkBuiltinCall "Exception.__new__" ⟨.ref C :: rest, []⟩) Q E ⟨h, g, d, t, os⟩ := by
  have F := PySem.F.excBase_Exception
  have hcont : (Value.ref C :: bm).contains (.type "Exception") = true := by rw [List.contains_cons, (exOnly_has ho).1, Bool.or_true]
  have hstar := F.noStar
  simp only [checkBuiltinCall, F.newKind, F.newSplit, F.newRow]
  repeat (first | refine wpAny_loadPart_at hC ?_ | (refine wpAny_isSubtype_exc hC ?_; rw [hcont]) | refine wpAny_staticBase_exc hC ?_ | refine wpAny_madeBy_exc hC ?_ | simp only [bne_self_eq_false, Bool.false_eq_true, if_false] | wp_step)
  exact hq
theorem exc_new {rest : List Value} (ho : exOnly bm = true) (hC : h.get? C = some (excClassObj nm q C N bs bm hdct sn sub ab col dd k0 k1 k2 k3 k5 "Exception.__new__"))
    (hq : R (.ok (.ret (.ref (h.objs.size + 1)))) ⟨(h.push { cls := .type "tuple", data := .seq rest.toArray }).push
      { cls := .ref C, data := .fields #[.ref h.objs.size, .none, .none, .none, .bool false, .none] }, g, d, t, os⟩) (hrest : rest.length ≤ sizeLine) :
    codeAny (model prog w) A (.builtin "Exception.__new__" ⟨.ref C :: rest, []⟩) R ⟨h, g, d, t, os⟩ := by
  have F := PySem.F.excBase_Exception
  obtain ⟨o1, o2, o3, o4, o5⟩ := exOnly_has ho
  have hends := F.ends
  have hcB : (Value.ref C :: bm).contains (.type "Exception") = true := by rw [List.contains_cons, o1, Bool.or_true]
  have hcA : (Value.ref C :: bm).contains (.type "AttributeError") = false := by rw [List.contains_cons, o4]; rfl
  have hcN : (Value.ref C :: bm).contains (.type "NameError") = false := by rw [List.contains_cons, o5]; rfl
  refine codeAny_builtinAt F.entry ?_
  unfold Builtin.«BaseException.__new__»
  refine PySem.wpAt_bind ?_
  show PySem.wpAt _ _ _ (stack >>= _) _ _ _
  refine PySem.wpAt_bind (PySem.wpAt_stack fun p below => PySem.wpAt_of_wpAny ?_)
  wp_walk
  refine PySem.wpAt_of_wpAny ?_
  rw [F.owner]
  repeat (first | with_reducible refine wpAny_madeHere_exc F.canon hC ?_ | with_reducible refine wpAny_loadPart_at hC ?_ | (with_reducible refine wpAny_isSubtype_exc hC ?_; first | rw [hcB] | rw [hcA] | rw [hcN]) | wp_step)
  show R _ _
  rw [Heap.size_push]
  exact hq

/-- an exception as it is born -/
abbrev bornExc (C t : Addr) : Obj := { cls := .ref C, data := .fields #[.ref t, .none, .none, .none, .bool false, .none] }

theorem exc_make {rest : List Value} {fi : Addr} (X : K.In h) (P : ExcAt K C bm) (hi : findIn K (.ref C) "__init__" = some (some (.ref fi))) (hf : typeIn K (.ref fi) = some (.type "function")) (hrest : rest.length ≤ sizeLine)
    (hq : codeAny (model prog w) (A.under (.builtin "type.__call__" ⟨.ref C :: rest, []⟩)) (.call (.ref fi) ⟨.ref (h.objs.size + 1) :: rest, []⟩) (InitBack (h.objs.size + 1) R) ⟨(h.push { cls := .type "tuple", data := .seq rest.toArray }).push (bornExc C h.objs.size), g, d, t, os⟩) :
    codeAny (model prog w) A (.call (.ref C) ⟨rest, []⟩) R ⟨h, g, d, t, os⟩ := by
  obtain ⟨⟨nm, q, N, bs, sn, sub, ab, col, dd, k0, k1, k2, k3, k5, hK⟩, ho, hcall, htyp⟩ := P
  have F := PySem.F.excBase_Exception
  have hC := X _ _ hK
  have call : Looks (model prog w) h (specialOf (.ref C) "__call__") (some (.builtin "type.__call__")) := looks_specialIn X hcall
  have typ : Looks (model prog w) h (isInstance (.ref C) (.type "type")) true := looks_instIn X htyp
  refine codeAny_of_tree ?_
  show wpAny _ _ (callAny (.ref C) _) _ _ _
  refine nd_load hC ?_
  show wpAny _ _ (callAny.viaDunder (.ref C) _) _ _ _
  unfold callAny.viaDunder
  refine wpAny_bind (call.at ?_)
  dsimp only
  rw [tc_bind]
  refine wpAny_bind (wpAny_pure (wpAny_bind (wpAny_pure ?_)))
  refine wpAny_pure (a := Fin.again (.call (.builtin "type.__call__") ⟨.ref C :: rest, []⟩)) (And.intro rfl ?_)
  refine codeAny_call_builtin_at (Code.quiet_builtin _ (by decide +kernel)) entry_typeCall (check_slot tc_kind tc_split typ (tc_args _ _ _) ?_)
  unfold Builtin.«type.__call__»
  have e4 : (Value.ref C :: bm).isEmpty = false := rfl
  have hm : Looks (model prog w) h (mroOf (.ref C)) (.ref C :: bm) := ((Looks.ld (part := none) hC).andThen .now).andThen .now
  have made : Looks (model prog w) h (Bind.madeBy (.ref C)) (some "Exception.__new__") := fun A Q E s k q' => wpAny_madeBy_exc (k _ _ hC) q'
  have self : Looks (model prog w) h (isSubtype (.ref C) (.ref C)) true := fun A Q E s k q' => wpAny_isSubtype_exc (k _ _ hC) (by rw [show (Value.ref C :: bm).contains (.ref C) = true from by simp]; exact q')
  repeat (first | simp only [e4, Bool.false_eq_true, if_false] | with_reducible refine wpAny_call ?_ | lk)
  refine codeAny_call_builtin_code (Code.quiet_builtin _ F.quiet) (exc_check_new ho hC ?_)
  refine exc_new ho hC ?_ hrest
  have k : ∀ b o, h.get? b = some o → ((h.push { cls := .type "tuple", data := .seq rest.toArray }).push (bornExc C h.objs.size)).get? b = some o := fun b o e => Heap.get?_push_of_some _ (Heap.get?_push_of_some _ e)
  have hx : ((h.push { cls := .type "tuple", data := .seq rest.toArray }).push (bornExc C h.objs.size)).get? (h.objs.size + 1) = some (bornExc C h.objs.size) := by heap_get
  have t1 : Looks (model prog w) ((h.push { cls := .type "tuple", data := .seq rest.toArray }).push (bornExc C h.objs.size)) (typeOf (.ref (h.objs.size + 1))) (.ref C) := (Looks.ld hx).andThen .now
  have s1 := self.keeps k
  have i1 := (looks_findIn (M := model prog w) X hi).keeps k
  have b1 := (bind_fn (M := model prog w) X (.ref (h.objs.size + 1)) hf).keeps k
  show wpAny _ _ _ _ _ _
  unfold isInstance callSpecial? specialOf
  repeat (first | with_reducible refine wpAny_call ?_ | lk)
  refine codeAny_mono hq fun r s' z => ?_
  rcases r with e | (v | _ | _ | _) <;> first | exact z | exact z.elim | skip
  obtain ⟨rfl, z⟩ := z
  exact wpAny_pure (wpAny_pure z)
end
end Mine
end

section
set_option autoImplicit false
set_option linter.unusedVariables false
set_option maxRecDepth 100000
set_option maxHeartbeats 1000000
namespace Mine
open PySem PySem.W PyProof.Rows PySem.SeqAt Builtin Builtin.ObjectAttr

section
variable {K : Frag} {prog : Program} {w : World} {A : Around} {R : Result → Shared → Prop} {h : Heap} {g : Array GenState} {d : Drawn} {t : Nat} {os : OsState} {C : Addr} {bm : List Value} {x : Addr} {mA : Str → Option Value} {name : Str} {v : Value}

theorem inst_at {h : Heap} {x C : Addr} {mA : Str → Option Value} (I : h.Inst x C mA) : ∃ ox od, InstAt h x ox C od ∧ h.get? x = some ox := by
  obtain ⟨o, hx, hc, hn, hd⟩ := I
  have nc : notCls o = true := by
    unfold notCls
    split
    · rename_i c e; exact absurd e (hn c)
    · rfl
  rcases hd with ⟨hd, _⟩ | ⟨dx, hd, _, hns⟩
  · exact ⟨o, none, ⟨hx, hc, nc, by rw [hd]; trivial⟩, hx⟩
  · obtain ⟨od, _, _, ho, _⟩ := hns
    exact ⟨o, some od, ⟨hx, hc, nc, by rw [hd]; exact ho⟩, hx⟩

theorem exc_osa {tk : Tok} {ns : List Str} (X : K.In h) (P : ExcAt K C bm) (ht : takerIn K C name = some none) (I : h.Inst x C mA) (hw : Within mA ns) (hsz : ns.length ≤ 100)
    (hq : ∀ h' tk', h'.Inst x C (fun y => if y = name then some v else mA y) →
      (∀ b o, b ≠ x → (∀ o₀ dx, h.get? x = some o₀ → o₀.dict = some dx → b ≠ dx) → h.get? b = some o → h'.get? b = some o) →
      (∀ o₀, h.get? x = some o₀ → ∃ o₁, h'.get? x = some o₁ ∧ o₁.cls = o₀.cls ∧ o₁.data = o₀.data ∧ ∀ dx, o₀.dict = some dx → o₁.dict = some dx) →
      (∀ o₁ dx, h'.get? x = some o₁ → o₁.dict = some dx → (∃ o₀, h.get? x = some o₀ ∧ o₀.dict = some dx) ∨ h.get? dx = none) → R (.ok (.ret .none)) ⟨h', g, d, tk', os⟩) :
    codeAny (model prog w) A (.call (.builtin "object.__setattr__") ⟨[.ref x, .str name tk, v], []⟩) R ⟨h, g, d, t, os⟩ := by
  have SF := PySem.F.store_object
  obtain ⟨⟨nm, q, N, bs, sn, sub, ab, col, dd, k0, k1, k2, k3, k5, hK⟩, ho, hcall, htyp⟩ := P
  have hC := X _ _ hK
  obtain ⟨ox, od, IA, hx⟩ := inst_at I
  obtain ⟨o1, o2, o3, o4, o5⟩ := exOnly_has ho
  have sub' : Looks (model prog w) h (isSubtype (.ref C) (.type "object")) true := fun A Q E s k q' => wpAny_isSubtype_exc (k _ _ hC) (by rw [List.contains_cons, o3, Bool.or_true]; exact q')
  have sub : Looks (model prog w) h (isInstance (.ref x) (.type "object")) true := IA.type.andThen sub'
  refine codeAny_call_builtin SF.slot.plain SF.entry (@check_slot (model prog w) _ _ _ "object.__setattr__" "object" "__setattr__" (.ref x) [.str name tk, v] [] _ SF.kind SF.split sub (SF.args (.ref x) (.str name tk) v) ?_)
  obtain ⟨attr, ha, hr⟩ := Option.bind_eq_some_iff.mp ht
  have hm : Looks (model prog w) h (mroOf (.ref C)) (.ref C :: bm) := ((Looks.ld (part := none) hC).andThen .now).andThen .now
  have L3 : Looks (model prog w) h (storeTaker? attr) none := by
    cases attr with
    | none => exact .now
    | some a =>
      obtain ⟨b, hb, hbb⟩ := Option.map_eq_some_iff.mp hr
      refine (looks_takesIn X hb).andThen ?_
      cases b
      · exact .now
      · cases hbb
  rw [osa_eq, refuse_eq]
  refine wpAny_bind (wpAny_bind (IA.type.here (s := ⟨h, g, d, t, os⟩) (wpAny_bind (hm.here ?_))))
  rw [refuseLoop_ref, exOnly_refuse _ ho]
  refine wpAny_pure (wpAny_bind (IA.type.here (s := ⟨h, g, d, t, os⟩) (wpAny_bind ((looks_findIn X ha).here (s := ⟨h, g, d, t, os⟩) (wpAny_bind (L3.here (s := ⟨h, g, d, t, os⟩) ?_))))))
  show wpAny _ _ (storeInOwnDict (.ref x) (.ref C) (.str name tk) name v _) _ _ _
  obtain ⟨o, hx', hc, hnc, hd⟩ := I
  rw [hx] at hx'
  cases hx'
  refine wpAny_bind (wpAny_pure (wpAny_bind (wpAny_bind (wpAny_loadPart hx ?_))))
  rw [hc]
  dsimp only
  unfold classData
  refine wpAny_bind (wpAny_bind (wpAny_load hC (wpAny_pure ?_)))
  dsimp only
  rw [if_neg (by decide)]
  rcases hd with ⟨hdn, hmA⟩ | ⟨dx, hdx, hne, hns⟩
  · rw [hdn]
    dsimp only
    rw [if_neg (by simp [typeHasDict])]
    split
    · rename_i c hcd
      exact absurd hcd (hnc c)
    · have hx₁ : (h.push { cls := .type "dict", data := .dict #[] }).get? x = some ox := Heap.get?_push_of_some _ hx
      have hxs : x ≠ h.objs.size := Nat.ne_of_lt (Heap.lt_size hx)
      refine wpAny_bind (wpAny_alloc' ?_)
      refine wpAny_bind (wpAny_update' hx₁ ?_)
      refine wpAny_pure (a := some h.objs.size) ?_
      have hgd : ((h.push { cls := .type "dict", data := .dict #[] }).update x fun o => { cls := o.cls, dict := some h.objs.size, data := o.data, slots := o.slots }).get? h.objs.size
          = some { cls := .type "dict", data := .dict #[] } :=
        (Heap.get?_update_ne _ _ _ _ hxs.symm).trans (Heap.get?_push_at rfl rfl)
      have hnd : ((h.push { cls := .type "dict", data := .dict #[] }).update x fun o => { cls := o.cls, dict := some h.objs.size, data := o.data, slots := o.slots }).Ns h.objs.size (fun _ => none) :=
        ⟨_, #[], _, hgd, rfl, fun e he => absurd he (by simp), fun _ => rfl⟩
      show wpAny _ _ (storeInDict h.objs.size (.str name tk) name v) _ _ _
      unfold storeInDict newKeyGuard
      refine wpAny_bind (wpAny_pure (wpAny_bind (wpAny_nsSet1 (Heap.Ns1.of_empty hnd) fun h' hn' hs => ?_)))
      obtain ⟨oD, esD, epD, hoD, hdD, hcD⟩ := hn'.count (Within.cons name v Within.nil)
      refine wpAny_bind (wpAny_lookBehind hoD (by rw [hdD]; exact pastItsLine_dict (Nat.le_trans hcD (by rw [List.length_cons, List.length_nil, sizeLine_eq]; omega))) ?_)
      have hx' : h'.get? x = some { cls := ox.cls, dict := some h.objs.size, data := ox.data, slots := ox.slots } := by
        refine (hs.2 x hxs).trans (Heap.get?_update_self _ hx₁ ?_)
        have hfr := (Heap.get?_some_iff.mp hx).2
        obtain ⟨oc, od, odt, osl⟩ := ox
        cases odt <;> first | rfl | exact hfr
      refine wpAny_pure (hq h' _ ⟨_, hx', hc, hnc, .inr ⟨h.objs.size, rfl, hxs.symm, ?_⟩⟩ (fun b ob hbx _ hb => ?_)
        (fun o₀ h₀ => by obtain rfl : ox = o₀ := Option.some.inj (hx.symm.trans h₀); exact ⟨_, hx', rfl, rfl, fun dx e => by rw [hdn] at e; cases e⟩) fun o₁ dx e1 e2 => ?_)
      · obtain ⟨o', es, ep, e1, e2, e3, eu, e4⟩ := hn'
        exact ⟨o', es, ep, e1, e2, e3, eu, fun y => by rw [e4 y]; by_cases hy : y = name <;> simp [hy, hmA]⟩
      · exact (hs.2 b (Nat.ne_of_lt (Heap.lt_size hb))).trans ((Heap.get?_update_ne _ _ _ _ hbx).trans (Heap.get?_push_of_some _ hb))
      · rw [hx'] at e1; cases e1; cases e2
        exact .inr (get?_size _)
  · rw [hdx]
    refine wpAny_pure (a := some dx) ?_
    show wpAny _ _ (storeInDict dx (.str name tk) name v) _ _ _
    unfold storeInDict newKeyGuard
    refine wpAny_bind (wpAny_pure (wpAny_bind (wpAny_nsSet1 hns fun h' hn' hs => ?_)))
    obtain ⟨oD, esD, epD, hoD, hdD, hcD⟩ := hn'.count (Within.cons name v hw)
    refine wpAny_bind (wpAny_lookBehind hoD (by rw [hdD]; exact pastItsLine_dict (Nat.le_trans hcD (by rw [List.length_cons, sizeLine_eq]; omega))) ?_)
    refine wpAny_pure (hq h' _ ⟨ox, (hs.2 x hne.symm).trans hx, hc, hnc, .inr ⟨dx, hdx, hne, hn'⟩⟩ (fun b ob _ hbd hb => ?_) (fun o₀ h₀ => ⟨o₀, (hs.2 x hne.symm).trans h₀, rfl, rfl, fun _ e => e⟩) fun o₁ dx' e1 e2 => .inl ⟨o₁, (hs.2 x hne.symm).symm.trans e1, e2⟩)
    exact (hs.2 b (hbd ox dx hx hdx)).trans hb

theorem exc_set {E : Value → Shared → Prop} {ns : List Str} {Q : Unit → Shared → Prop} (X : K.In h) (P : ExcAt K C bm) (hs : findIn K (.ref C) "__setattr__" = some (some (.builtin "object.__setattr__"))) (ht : takerIn K C name = some none) (I : h.Inst x C mA) (hw : Within mA ns) (hsz : ns.length ≤ 100)
    (hq : ∀ h' tk', h'.Inst x C (fun y => if y = name then some v else mA y) →
      (∀ b o, b ≠ x → (∀ o₀ dx, h.get? x = some o₀ → o₀.dict = some dx → b ≠ dx) → h.get? b = some o → h'.get? b = some o) →
      (∀ o₀, h.get? x = some o₀ → ∃ o₁, h'.get? x = some o₁ ∧ o₁.cls = o₀.cls ∧ o₁.data = o₀.data ∧ ∀ dx, o₀.dict = some dx → o₁.dict = some dx) →
      (∀ o₁ dx, h'.get? x = some o₁ → o₁.dict = some dx → (∃ o₀, h.get? x = some o₀ ∧ o₀.dict = some dx) ∨ h.get? dx = none) → Q () ⟨h', g, d, tk', os⟩) :
    wpAny (model prog w) A (setAttr (.ref x) name v) Q E ⟨h, g, d, t, os⟩ := by
  obtain ⟨ox, od, IA, hx⟩ := inst_at I
  refine set_plain X IA hs (exc_osa X P ht I hw hsz fun h' tk' a b c d => hq h' tk' a b c d)
end
end Mine
end

section
set_option autoImplicit false
set_option linter.unusedVariables false
set_option maxRecDepth 100000
set_option maxHeartbeats 1000000
namespace Mine
open PySem PySem.W PyProof.Rows PySem.SeqAt Builtin Builtin.ObjectAttr

section
variable {K : Frag} {prog : Program} {w : World} {A : Around} {R : Result → Shared → Prop} {h : Heap} {g : Array GenState} {d : Drawn} {t : Nat} {os : OsState} {C : Addr} {bm : List Value} {x : Addr} {mA : Str → Option Value} {name : Str} {v : Value}

theorem exc_init_check {M : Model} {E : Value → Shared → Prop} {Q : Unit → Shared → Prop} {oe : Obj} {rest : List Value} (X : K.In h) (P : ExcAt K C bm) (he : h.get? x = some oe) (hcls : oe.cls = .ref C) (hq : Q () ⟨h, g, d, t, os⟩) :
    wpAny M A (checkBuiltinCall "Exception.__init__" ⟨.ref x :: rest, []⟩) Q E ⟨h, g, d, t, os⟩ := by
  have F := PySem.F.excBase_Exception
  obtain ⟨⟨nm, q, N, bs, sn, sub, ab, col, dd, k0, k1, k2, k3, k5, hK⟩, ho, hcall, htyp⟩ := P
  have hC := X _ _ hK
  obtain ⟨o1, o2, o3, o4, o5⟩ := exOnly_has ho
  have hcB : (Value.ref C :: bm).contains (.type "Exception") = true := by rw [List.contains_cons, o1, Bool.or_true]
  have hshort := F.noStar
  simp only [checkBuiltinCall, F.initKind, F.initSplit, F.initRow]
  repeat (first | (with_reducible refine wpAny_loadPart_at he ?_; rw [hcls]) | with_reducible refine wpAny_loadPart_at hC ?_ | (with_reducible refine wpAny_isSubtype_exc hC ?_; rw [hcB]) | wp_step)
  refine wpAny_onRaise ?_
  rw [show ∀ (a b : String) (n : Nat), Bind.check ⟨.positional, "*", "Exception", .self, [⟨"args", .varPos, false⟩]⟩ a b n (List.map (fun x => x.fst) ({ pos := Value.ref x :: rest } : Args).kw) = pure () from
    fun a b n => check_star_args _ _ _ _ _ _]
  exact wpAny_pure hq

theorem exc_base_init {E : Value → Shared → Prop} {Q : Value → Shared → Prop} {t0 : Addr} {dct : Option Addr} {sl : Array (Option Value)} {a : Value} (X : K.In h) (P : ExcAt K C bm)
    (hx : h.get? x = some ⟨.ref C, dct, .fields #[.ref t0, .none, .none, .none, .bool false, .none], sl⟩)
    (hq : ∀ h', h'.get? x = some ⟨.ref C, dct, .fields #[.ref h.objs.size, .none, .none, .none, .bool false, .none], sl⟩ → (∀ b o, b ≠ x → h.get? b = some o → h'.get? b = some o) → Q .none ⟨h', g, d, t, os⟩) :
    wpAny (model prog w) A (call (.builtin "Exception.__init__") [.ref x, a]) Q E ⟨h, g, d, t, os⟩ := by
  have F := PySem.F.excBase_Exception
  refine wpAny_call (codeAny_call_builtin F.init.plain F.initEntry (exc_init_check X P hx rfl ?_))
  clear F P X
  have hne : x ≠ h.objs.size := Nat.ne_of_lt (Heap.lt_size hx)
  have hx1 := Heap.get?_push_of_some { cls := .type "tuple", data := .seq #[a] } hx
  wp_walk
  refine hq _ ?_ fun b o hb e => ?_
  · rw [Heap.get?_update_self _ hx1 rfl]
    rfl
  · rw [Heap.get?_update_other _ _ hb.symm]
    exact Heap.get?_push_of_some _ e
end
end Mine
end

section
set_option autoImplicit false
set_option linter.unusedVariables false
set_option maxRecDepth 100000
set_option maxHeartbeats 1000000
namespace Mine
open PySem PySem.W PyProof.Rows PySem.SeqAt Builtin Builtin.ObjectAttr

/-- the __init__ of the text's own exceptions -/
noncomputable def initBody (p1 p2 p3 p4 p5 p6 q1 q2 q3 q4 r1 r2 r3 r4 : Pos) : List Stmt :=
  [.Expr (.Call (.Attribute (.Name "Exception" p1) "__init__" p2) [.Name "self" p3, .Name "what" p4] [] p5) p6,
   .Assign [.Attribute (.Name "self" q1) "what" q2] (.Name "what" q3) q4,
   .Assign [.Attribute (.Name "self" r1) "at" r2] (.Name "at" r3) r4]

structure ExcInit (X : Cx) (fi : Addr) (C : Addr) : Prop where
  fn : ∃ oc od osl fd p1 p2 p3 p4 p5 p6 q1 q2 q3 q4 r1 r2 r3 r4, X.K.lookup fi = some ⟨oc, od, .func fd, osl⟩ ∧ codeIn X.K fd.code fd.qualname = true ∧ fd.body = .stmts (initBody p1 p2 p3 p4 p5 p6 q1 q2 q3 q4 r1 r2 r3 r4) ∧
    (∀ e a : Value, ∃ dv, ∀ S, peek X.K S (bindArgs fd ⟨[e, a], []⟩) = some [(("self" : Str), e), (("what" : Str), a), (("at" : Str), dv)]) ∧ fd.closure = [] ∧ fd.globals = mainGlobals ∧ fd.builtins = builtinsNs ∧
    fd.scope.isCoroutine = false ∧ fd.scope.isGenerator = false ∧ fd.scope.kind = .function ∧ (∀ y ∈ fd.scope.names, y.2 ≠ .cell) ∧
    fd.scope.names.lookup ("self" : Str) = some .local ∧ fd.scope.names.lookup ("what" : Str) = some .local ∧ fd.scope.names.lookup ("at" : Str) = some .local ∧ fd.scope.names.lookup ("Exception" : Str) = some .globalImplicit ∧ (p2.endLine == p5.line) = true
  none_ : X.mg "Exception" = none
  set_ : findIn X.K (.ref C) "__setattr__" = some (some (.builtin "object.__setattr__"))
  what_ : takerIn X.K C "what" = some none
  at_ : takerIn X.K C "at" = some none

theorem ei_boot : bootBuiltins "Exception" = some (.type "Exception") := by kernel_rfl
theorem ei_find : findCls [] (.type "Exception") (.type "type") "__init__" = some (.val (.builtin "Exception.__init__")) := by kernel_rfl
theorem ei_type : typeOf (.type "Exception") = pure (.type "type") := by kernel_rfl
theorem K_nil {h : Heap} : Frag.In [] h := fun _ _ e => by cases e

theorem methodCall_then {M : Model} {A : Around} {s : Shared} {env : Env} {o : Expr} {name : Str} {apos pos : Pos} {ov : Value} {n : Nat} {args : List (Sem Value)} {Q : Value → Shared → Prop} {E : Value → Shared → Prop} (hn : n < 30) (hline : (apos.endLine == pos.line) = true)
    (hm : ∀ pl, wpAny M A (getMethod ov name pl) (fun fx s1 => wpAny M A (callWith pos fx.1 fx.2 (args.map fun t => (false, t)) []) Q E s1) E s) : wpAny M A (methodCall o name apos pos env ov n (args.map fun t => (false, t)) []) Q E s := by
  have hform : methodCallForm n (args.map fun t => (false, t)) [] = true := by
    unfold methodCallForm
    simp [hn]
  have hpos : methodCallPos true o env apos pos = pure pos := by unfold methodCallPos; simp [hline]
  unfold methodCall
  rw [hform]
  refine wpAny_bind (wpAny_holding (wpAny_mono (hm _) (fun fx s1 h1 => ?_) fun _ _ q => q))
  exact wpAny_bind (wpAny_of_eq hpos h1)

section
variable {X : Cx} {A : Around} {R : Result → Shared → Prop} {H : Heap} {g : Array GenState} {d : Drawn} {t : Nat} {os : OsState} {C : Addr} {bm : List Value} {fi e : Addr} {a : Value}

theorem exc_init (lim : X.base.NoLimit) (P : ExcAt X.K C bm) (F : ExcInit X fi C) (B : X.base.StaysIn H) {t0 : Addr} (he : H.get? e = some (bornExc C t0)) (hb : X.base.get? e = none) (hroom : A.depth < recursionLimit)
    (hq : ∀ h' tk' dct sl t2, h'.get? e = some ⟨.ref C, dct, .fields #[.ref t2, .none, .none, .none, .bool false, .none], sl⟩ → (∀ b o, b ≠ e → H.get? b = some o → h'.get? b = some o) → R (.ok (.ret .none)) ⟨h', g, d, tk', os⟩) :
    codeAny (model X.prog X.w) A (.call (.ref fi) ⟨[.ref e, a], []⟩) R ⟨H, g, d, t, os⟩ := by
  obtain ⟨⟨oc, od, osl, fd, p1, p2, p3, p4, p5, p6, q1, q2, q3, q4, r1, r2, r3, r4, hobj, hcode, hbody, hbind, hclo, hglob, hbi, hco, hgen, hkind, hcell, n1, n2, n3, n4, hline⟩, hmg, hset, hw, hat⟩ := F
  have XH : X.K.In H := X.kin.keeps B
  obtain ⟨dv, hbd⟩ := hbind (.ref e) a
  refine codeAny_call_def hroom (XH _ _ hobj) rfl (lim.keeps B) (codeRec_of XH hcode) hbody (kp_binds XH hbd) hcell (fun x hx => ?_) (fun h₀ hns kp => ?_) hco hgen hkind
  · simp only [List.mem_cons, List.not_mem_nil, or_false] at hx
    rcases hx with rfl | rfl | rfl
    · exact n1
    · exact n2
    · exact n3
  dsimp only at hns kp ⊢
  generalize hL : H.objs.size = L at hns
  have kd : ∀ n, (callEnv fd L fi).kindOf n = fd.scope.names.lookup n := fun n => rfl
  have hLn : H.get? L = none := by rw [← hL]; exact get?_size _
  have hk : (callEnv fd L fi).scope.kind = .function := hkind
  have hbL : X.base.get? L = none := base_none B hLn
  have B0 : X.base.StaysIn h₀ := fun b o e => kp b o (B b o e)
  have he0 : h₀.get? e = some (bornExc C t0) := kp _ _ he
  have hin : interactive (callEnv fd L fi) = false := by unfold interactive; rw [hk]; rfl
  -- a step of the loads
  have ld : ∀ {A' : Around} {h' : Heap} {tk : Nat} {n : Str} {v : Value} {pos : Pos} {Q : Value → Shared → Prop} {E : Value → Shared → Prop}, (∀ b o, b ≠ e → h₀.get? b = some o → h'.get? b = some o) → fd.scope.names.lookup n = some .local → [(("self" : Str), Value.ref e), (("what" : Str), a), (("at" : Str), dv)].reverse.lookup n = some v → (n == ("__debug__" : Str)) = false →
      Q v ⟨h', g, d, tk, os⟩ → wpAny (model X.prog X.w) A' (eval (.Name n pos) (callEnv fd L fi)) Q E ⟨h', g, d, tk, os⟩ := by
    intro A' h' tk n v pos Q E hk' hn hv hdbg hQ
    have hLe : L ≠ e := fun q => by rw [q, he] at hLn; cases hLn
    have hn' : h'.Ns L (fun x => [(("self" : Str), Value.ref e), (("what" : Str), a), (("at" : Str), dv)].reverse.lookup x) := hns.at fun o ho => hk' L o hLe ho
    exact wpAny_Name (wpAny_loadName_local hk hn hn' hv hQ) hdbg
  unfold initBody
  rw [execs_cons]
  refine wpAny_bind ?_
  rw [exec_Expr _ _ _ hin (swaps_not rfl)]
  refine wpAny_bind (wpAny_standAt (wpAny_bind ?_))
  rw [eval_call_attr (by intro x hx; simp at hx; rcases hx with rfl | rfl <;> rfl) rfl]
  have mg0 : h₀.Ns (callEnv fd L fi).globals X.mg := by rw [show (callEnv fd L fi).globals = mainGlobals from hglob]; exact X.gns.keeps B0
  have mb0 : h₀.Ns (callEnv fd L fi).builtins X.mb := by rw [show (callEnv fd L fi).builtins = builtinsNs from hbi]; exact X.bns.keeps B0
  refine wpAny_bind (Calls.Name_function_global hk (by rw [kd]; exact n4) (Calls.loadGlobal_builtin mg0 hmg mb0 (X.boot _ _ ei_boot (by decide)) ?_) (by decide))
  refine wpAny_bind (wpAny_standAt ?_)
  refine methodCall_then (args := [eval (.Name "self" p3) (callEnv fd L fi), eval (.Name "what" p4) (callEnv fd L fi)]) (by show 2 < 30; decide) hline fun pl => ?_
  refine method_type (m := fun x => [(("self" : Str), Value.ref e), (("what" : Str), a), (("at" : Str), dv)].reverse.lookup x) (L := L) (h₀ := H) ⟨hns, kp, Nat.le_of_eq hL⟩ K_nil ei_type (by decide +kernel) ei_find rfl ?_
  refine Calls.callWith_builtin rfl (Calls.evalArgs_plain ?_)
  refine Calls.spliced_cons (ld (fun b o _ e' => e') n1 rfl (by decide) ?_)
  refine Calls.spliced_cons (ld (fun b o _ e' => e') n2 rfl (by decide) ?_)
  refine Calls.spliced_nil ?_
  have X0 : X.K.In h₀ := X.kin.keeps B0
  refine exc_base_init X0 P he0 fun h1 he1 hk1 => ?_
  refine wpAny_dropValue ?_
  have B1 : X.base.StaysIn h1 := fun b o e' => hk1 b o (fun q => by rw [q, hb] at e'; cases e') (B0 b o e')
  have X1 : X.K.In h1 := X.kin.keeps B1
  have I1 : h1.Inst e C fun _ => none := ⟨_, he1, rfl, fun _ => by simp, .inl ⟨rfl, fun _ => rfl⟩⟩
  dsimp only
  rw [execs_cons]
  refine wpAny_bind ?_
  rw [assign_eq (swaps_target rfl) rfl rfl]
  refine wpAny_bind (wpAny_standAt (wpAny_bind (ld hk1 n2 rfl (by decide) (wpAny_bind ?_))))
  rw [arm_assign_Attribute]
  refine wpAny_bind (wpAny_holding (ld hk1 n1 rfl (by decide) (wpAny_bind (wpAny_standAt (wpAny_bind (wpAny_holding ?_))))))
  refine exc_set X1 P hset hw I1 Within.nil (by simp) fun h2 tk2 I2 k2 o2 d2 => ?_
  refine wpAny_release (wpAny_pure ?_)
  have d1 : ∀ o₁ dx, h1.get? e = some o₁ → o₁.dict = some dx → False := fun o₁ dx e1 e2 => by rw [he1] at e1; cases e1; cases e2
  have hk2 : ∀ b o, b ≠ e → h₀.get? b = some o → h2.get? b = some o := fun b o nb e' => k2 b o nb (fun o₀ dx e1 e2 => (d1 _ _ e1 e2).elim) (hk1 b o nb e')
  have B2 : X.base.StaysIn h2 := fun b o e' => hk2 b o (fun q => by rw [q, hb] at e'; cases e') (B0 b o e')
  have X2 : X.K.In h2 := X.kin.keeps B2
  dsimp only
  rw [execs_cons]
  refine wpAny_bind ?_
  rw [assign_eq (swaps_target rfl) rfl rfl]
  refine wpAny_bind (wpAny_standAt (wpAny_bind (ld hk2 n3 rfl (by decide) (wpAny_bind ?_))))
  rw [arm_assign_Attribute]
  refine wpAny_bind (wpAny_holding (ld hk2 n1 rfl (by decide) (wpAny_bind (wpAny_standAt (wpAny_bind (wpAny_holding ?_))))))
  refine exc_set X2 P hset hat I2 (Within.cons _ _ Within.nil) (by simp) fun h3 tk3 I3 k3 o3 d3 => ?_
  refine wpAny_release (wpAny_pure ?_)
  dsimp only
  refine wpAny_execs_nil ?_
  obtain ⟨oe2, e21, e22, e23, _⟩ := o2 _ he1
  obtain ⟨oe3, e31, e32, e33, _⟩ := o3 _ e21
  obtain ⟨c3, dct3, dat3, sl3⟩ := oe3
  dsimp only at e32 e33
  rw [e22] at e32
  rw [e23] at e33
  subst e32 e33
  refine hq h3 tk3 dct3 sl3 _ e31 fun b o nb e' => k3 b o nb (fun o₀ dx e1 e2 => ?_) (hk2 b o nb (kp b o e'))
  rcases d2 o₀ dx e1 e2 with ⟨o', e3, e4⟩ | z
  · exact (d1 _ _ e3 e4).elim
  · intro q
    subst q
    rw [hk1 b o nb (kp b o e')] at z
    cases z
end
end Mine
end

section
set_option autoImplicit false
set_option linter.unusedVariables false
set_option maxRecDepth 100000
set_option maxHeartbeats 1000000
namespace Mine
open PySem PySem.W PyProof.Rows PySem.SeqAt

theorem funFrames_new {h h' base B : Heap} : ∀ {l : List Env}, h.FunFrames base l → (∀ L, L ∈ l.filterMap (·.frame) → B.get? L = none) → (∀ b o, h.get? b = some o → h'.get? b = some o) → h'.FunFrames B l
  | [], _, _, _ => trivial
  | env :: r, ⟨hk, ⟨L, o, hf, hn, e, q⟩, hr⟩, hB, k => by
    refine ⟨hk, ⟨L, o, hf, hB L (by simp [hf]), k _ _ e, q⟩, funFrames_new hr (fun L' hL' => hB L' ?_) k⟩
    rw [List.filterMap_cons, hf]; exact List.mem_cons_of_mem _ hL'

structure ExcFacts (X : Cx) (c : Nat) : Prop where
  ex : ∃ bm, ExcAt X.K (X.cls c) bm
  init : ∃ fi, findIn X.K (.ref (X.cls c)) "__init__" = some (some (.ref fi)) ∧ typeIn X.K (.ref fi) = some (.type "function") ∧ ExcInit X fi (X.cls c)

section
variable {X : Cx} {S : SX} {C C' : SC} {lvl : Nat} {A : Around} {W W1 fs : List Addr} {env : Env} {fr : Fr} {ρ ρ' : Rho} {σ σ' : St} {s s' : Shared}

theorem raise_made {M : Model} {E : Value → Shared → Prop} {K : Frag} {CC : Addr} {bm : List Value} {x : Sem Value} {Q : Flow → Shared → Prop} (P : ExcAt K CC bm) (hh : A.handled = none)
    (h : wpAny M A x (fun v s₁ => ∃ e t dct sl, v = .ref e ∧ K.In s₁.heap ∧ s₁.heap.get? e = some ⟨.ref CC, dct, .fields #[.ref t, .none, .none, .none, .bool false, .none], sl⟩ ∧ E (.ref e) s₁) E s) :
    wpAny M A (raiseStmt env (some x) none) Q E s := by
  obtain ⟨⟨nm, q, N, bs, sn, sub, ab, col, dd, k0, k1, k2, k3, k5, hK⟩, ho, hcall, htyp⟩ := P
  have hcB : (Value.ref CC :: bm).contains (.type "BaseException") = true := by rw [List.contains_cons, (exOnly_has ho).2.1, Bool.or_true]
  unfold raiseStmt
  refine wpAny_bind (wpAny_mono h (fun v s₁ h₁ => ?_) fun _ _ x => x)
  obtain ⟨e, t, dct, sl, rfl, X, he, hE⟩ := h₁
  have hC := X _ _ hK
  obtain ⟨hp, g, d, tk, os⟩ := s₁
  repeat (first | with_reducible refine wpAny_loadPart_at he ?_ | with_reducible refine wpAny_loadPart_at hC ?_ | (with_reducible refine wpAny_isSubtype_exc hC ?_; rw [hcB]) | wp_step)
  exact wpAny_raiseNew_none hh hE

theorem s_raise (O : SOk X S) (lim : X.base.NoLimit) {id x : Str} {k c : Nat} {np cp cpos pos : Pos} (F : ExcFacts X c) (hl : 1 ≤ lvl) (hd : (id == ("__debug__" : Str)) = false) (hk : C.names.lookup id = some .globalImplicit) (hg : S.glob.lookup id = some (.cls c)) :
    SOkS X C lvl (.Raise (some (.Call (.Name id np) [.Constant (.str x) k cp] [] cpos)) none pos) fun _ σ => .exc c σ := fun A fs env fr ρ σ s a tp ns => by
  obtain ⟨⟨bm, P⟩, fi, hi, hf, FI⟩ := F
  obtain ⟨e1, e2⟩ := O.cls _ _ hg
  rw [arm_exec_Raise]
  show wpAny _ _ (standAt pos >>= fun _ => raiseStmt env (some (eval (.Call (.Name id np) [.Constant (.str x) k cp] [] cpos) env >>= fun v => standAt pos >>= fun _ => pure v)) none) _ _ s
  refine wpAny_bind (wpAny_standAt (raise_made P a.ar.hd ?_))
  rw [eval_call_name (by intro y hy; simp at hy; subst hy; rfl)]
  refine wpAny_bind (wpAny_bind (glob_gv a hd hk e1 _ _ fun j => ?_))
  have a1 : At X C lvl A fs env fr ρ σ { s with toks := j } := a.next (s' := { s with toks := j }) a.I Step.refl
  refine callWith_of (P := X.K.In) (by simp) (keeps_ref e2) (Calls.evalArgs_plain (Calls.spliced_cons (wpAny_Constant_str (Calls.spliced_nil ⟨a.I.kin, ?_⟩))))
  obtain ⟨hh, g, d, tk, os⟩ := s
  dsimp only
  refine wpAny_call (exc_make (w := X.w) a.I.kin P hi hf (by rw [sizeLine_eq]; show 1 ≤ 16777216; decide) ?_)
  have hnew : hh.get? (hh.objs.size + 1) = none := get?_oob (Nat.le_succ _)
  have kp : ∀ b o, hh.get? b = some o → ((hh.push { cls := .type "tuple", data := .seq #[.str x j] }).push (bornExc (X.cls c) hh.objs.size)).get? b = some o := fun b o e => Heap.get?_push_of_some _ (Heap.get?_push_of_some _ e)
  have he : ((hh.push { cls := .type "tuple", data := .seq #[.str x j] }).push (bornExc (X.cls c) hh.objs.size)).get? (hh.objs.size + 1) = some (bornExc (X.cls c) hh.objs.size) := by heap_get
  refine exc_init lim P FI (fun b o e => kp b o (a.I.base b o e)) he (base_none a.I.base hnew) ?_ fun h' tk' dct sl t2 he' k' => ⟨rfl, ?_⟩
  · have := (under_rm (lvl := lvl - 1) (a := X.cls c) (rest := [.str x j]) (kw := []) (A := A) (by rw [Nat.sub_add_cancel hl]; exact a.rm)).1
    exact Nat.lt_of_le_of_lt (Nat.le_add_right _ _) this
  have kk : ∀ b o, hh.get? b = some o → h'.get? b = some o := fun b o e => k' b o (fun q => by rw [q, hnew] at e; cases e) (kp b o e)
  refine wpAny_bind (wpAny_standAt (wpAny_pure ⟨_, t2, dct, sl, rfl, a.I.kin.keeps kk, he', ?_⟩))
  obtain ⟨l, f1, f2, f3⟩ := a.ar.fr
  have hB : ∀ b o, (hideAll hh fs).get? b = some o → h'.get? b = some o := fun b o e => kk b o (of_hideAll fs e)
  refine ⟨c, σ, ρ, hh, hh.objs.size + 1, rfl, rfl, ⟨h', tk', rfl⟩, a.I, Step.refl, l, hideAll hh fs, .ref t2, f1, fun b o e nf => hideAll_get fs e nf, .inr (.inr ⟨hB, ?_, ?_, _, _, he', rfl, rfl, rfl, rfl⟩), fun b ob e _ => ⟨ob.slots, kk b ob e⟩, fun L hL o' ho' => ?_⟩
  · cases e : (hideAll hh fs).get? (hh.objs.size + 1) with
    | none => rfl
    | some o => have := of_hideAll fs e; rw [hnew] at this; cases this
  · exact funFrames_new f3 (fun L hL => hideAll_none fs (f2 ▸ hL)) kk
  · obtain ⟨_, o1, e, _⟩ := f3.mem hL
    rw [kk _ _ e] at ho'; cases ho'
    exact a.ar.nsq L (f2 ▸ hL) _ e
end
end Mine
end

section
set_option autoImplicit false
set_option linter.unusedVariables false
set_option maxRecDepth 100000
set_option maxHeartbeats 1000000
namespace Mine
open PySem PySem.W PyProof.Rows PySem.SeqAt

section
variable {X : Cx} {S : SX} {C C' : SC} {lvl : Nat} {A : Around} {W W1 fs : List Addr} {env : Env} {fr : Fr} {ρ ρ' : Rho} {σ σ' : St} {s s' : Shared}

theorem Rp.land {h h' : Heap} (I : Rp X ρ σ h) (T : Step [] fs ρ ρ h h') (k : ∀ a, a ∈ owned ρ → ∀ o, h.get? a = some o → h'.get? a = some o) (b : X.base.StaysIn h') : Rp X ρ σ h' :=
  ⟨b, I.len, I.nodup, I.off, I.fz, fun i p o hi ho => (I.objs i p o hi ho).step T noSeq_nil fun a ha ob e => k a (List.mem_flatMap.mpr ⟨p, List.mem_of_getElem? hi, ha⟩) ob e⟩

/-- an exception lands where it is caught -/
theorem landed {h h₁ h₄ : Heap} {l : List Env} {Bx : Heap} {a : Addr} {cls a0 : Value} (ar : AOK X A fs ρ h) (I : Rp X ρ' σ' h₁) (T : Step [] fs ρ ρ' h h₁) (hA : A.frames = some l) (hB : ∀ b o, h₁.get? b = some o → b ∉ fs → Bx.get? b = some o)
    (u : h₁.UpToSlots h₄) (x : Heap.FlyingW Bx l a cls a0 h₄) : Rp X ρ' σ' h₄ ∧ Step [] fs ρ ρ' h h₄ := by
  have ar1 := ar.step0 T
  obtain ⟨l', e1, e2, e3⟩ := ar1.fr
  rw [hA] at e1
  cases e1
  have kk : ∀ b o, h₁.get? b = some o → b ∉ fs → h₄.get? b = some o := fun b o e n => x.1 b o (hB b o e n)
  have T4 : Step [] fs ρ' ρ' h₁ h₄ := by
    refine ⟨⟨[], by simp⟩, fun b o e _ _ => ⟨fun nf => kk b o e nf, ?_⟩, fun b o e _ => ?_, fun _ q => .inl q, fun _ _ q => q⟩
    · by_cases m : b ∈ fs
      · obtain ⟨_, o', e', q⟩ := e3.mem (e2 ▸ m)
        rw [e] at e'; cases e'
        exact u b o e q
      · exact ⟨o.slots, kk b o e m⟩
    · by_cases m : b ∈ fs
      · obtain ⟨_, o', e', q⟩ := e3.mem (e2 ▸ m)
        rw [e] at e'; cases e'
        obtain ⟨sl, z⟩ := u b o e q
        exact ⟨_, z⟩
      · exact ⟨o, kk b o e m⟩
  have bs : X.base.StaysIn h₄ := fun b o e => kk b o (I.base b o e) fun m => by
    obtain ⟨hn, _⟩ := e3.mem (e2 ▸ m)
    rw [hn] at e; cases e
  exact ⟨I.land T4 (fun b hb o e => kk b o e fun m => ar1.off b m hb) bs, T.trans T4⟩

end
end Mine
end

section
set_option autoImplicit false
set_option linter.unusedVariables false
set_option maxRecDepth 100000
set_option maxHeartbeats 1000000
namespace Mine
open PySem PySem.W PyProof.Rows PySem.SeqAt

noncomputable def noArgs : Arguments := { posonlyargs := [], args := [], vararg := none, kwonlyargs := [], kw_defaults := [], kwarg := none, defaults := [] }

/-- the text's own helper that says whether a thing is let -/
noncomputable def letBody (cn : Str) (k1 k2 : Nat) (p1 p2 p3 p4 p5 p6 p7 p8 p9 p10 : Pos) : List Stmt :=
  [.Try [.Expr (.Call (.Name "deed" p1) [] [] p2) p3] [.ExceptHandler (some (.Name cn p4)) none [.Return (some (.Constant (.bool false) k1 p5)) p6] p7] [] [] p8,
   .Return (some (.Constant (.bool true) k2 p9)) p10]

structure LetFacts (X : Cx) (ka c : Nat) : Prop where
  fn : ∃ oc od osl fd cn k1 k2 p1 p2 p3 p4 p5 p6 p7 p8 p9 p10, X.K.lookup (X.fa ka) = some ⟨oc, od, .func fd, osl⟩ ∧ codeIn X.K fd.code fd.qualname = true ∧ fd.body = .stmts (letBody cn k1 k2 p1 p2 p3 p4 p5 p6 p7 p8 p9 p10) ∧
    (∀ (u : Value) S, peek X.K S (bindArgs fd ⟨[u], []⟩) = some [(("deed" : Str), u)]) ∧ fd.closure = [] ∧ fd.globals = mainGlobals ∧ fd.builtins = builtinsNs ∧
    fd.scope.isCoroutine = false ∧ fd.scope.isGenerator = false ∧ fd.scope.kind = .function ∧ (∀ y ∈ fd.scope.names, y.2 ≠ .cell) ∧
    fd.scope.names.lookup ("deed" : Str) = some .local ∧ fd.scope.names.lookup cn = some .globalImplicit ∧ (cn == ("__debug__" : Str)) = false ∧ X.mg cn = some (.ref (X.cls c))

/-- where the code of a lambda is kept -/
structure TabFacts (X : Cx) (c0 : Addr) : Prop where
  code : CodeHd X.base c0 X.tabP
  bi : X.base.BuiltinsAt X.mg X.tabP

/-- the scope of a lambda without names of its own -/
structure LamC (C : SC) (scope : Scope) (C' : SC) : Prop where
  kind : scope.kind = .function
  co : scope.isCoroutine = false
  gen : scope.isGenerator = false
  nocell : ∀ y ∈ scope.names, y.2 ≠ .cell
  names : C'.names = scope.names
  code : C'.code = none
  frees : ∀ n, (n, .free) ∈ scope.names → (C.names.lookup n = some .cell ∨ C.names.lookup n = some .free) ∧ ∃ i, (n, i) ∈ C.Γ
  gam : ∀ n i, (n, i) ∈ C'.Γ → (n, .free) ∈ scope.names ∧ (n, i) ∈ C.Γ ∧ C'.names.lookup n = some .free
  inj : ∀ n n' i, (n, i) ∈ C'.Γ → (n', i) ∈ C'.Γ → n = n'
  one : ∀ n i i', (n, i) ∈ C'.Γ → (n, i') ∈ C'.Γ → i = i'

noncomputable def isLetR (c line col : Nat) (f : Fr → St → R PV) (fr : Fr) (σ : St) : R PV := match σ[(1 : Nat)]? with
  | some (.tab ks) => if (line, col) ∈ ks then .stuck else match f fr (σ.set 1 (.tab ((line, col) :: ks))) with
      | .ok _ σ => .ok (.bool true) σ
      | .exc c' σ => if c = c' then .ok (.bool false) σ else .stuck
      | .stuck => .stuck
  | _ => .stuck

section
variable {X : Cx} {S : SX} {C C' : SC} {lvl : Nat} {A : Around} {W W1 fs : List Addr} {env : Env} {fr : Fr} {ρ ρ' : Rho} {σ σ' : St} {s s' : Shared}

theorem AOK.enter {h h' : Heap} (ar : AOK X A fs ρ h) (I : Rp X ρ σ h) {env' : Env} {L : Addr} {m : Str → Option Value} (hf : env'.frame = some L) (hk : env'.scope.kind = .function) (hns : h'.Ns L m) (hL : h.get? L = none) (kp : ∀ b o, h.get? b = some o → h'.get? b = some o) :
    AOK X (A.deeper env') (L :: fs) ρ h' ∧ ∃ outer, (A.deeper env').frames = some (env' :: outer) ∧ A.frames = some outer ∧ fs = outer.filterMap (·.frame) := by
  obtain ⟨outer, hA, hfs, hff⟩ := ar.fr
  have frs1 : (A.deeper env').frames = some (env' :: outer) := by show A.frames.map _ = _; rw [hA]; rfl
  refine ⟨⟨ar.hd, ⟨env' :: outer, frs1, by rw [List.filterMap_cons, hf, hfs], ?_⟩, fun b hb => ?_, fun b hb o ho => ?_⟩, outer, frs1, hA, hfs⟩
  · obtain ⟨o', e, _, q2⟩ := ns_data hns
    refine ⟨by rw [hk]; simp, ⟨L, o', hf, base_none I.base hL, e, q2⟩, funFrames_of hff fun b hb => ?_⟩
    obtain ⟨_, o, e, q⟩ := hff.mem hb
    exact ⟨o, kp _ _ e, q⟩
  · rcases List.mem_cons.mp hb with q | q
    · rw [q]; exact I.offNew hL
    · exact ar.off b q
  · rcases List.mem_cons.mp hb with q | q
    · obtain ⟨o', e, q1, _⟩ := ns_data hns
      rw [q, e] at ho; cases ho; exact q1
    · obtain ⟨_, o', e, _⟩ := hff.mem (hfs ▸ q)
      rw [kp _ _ e] at ho; cases ho
      exact ar.nsq b q _ e

/-- a code is noted in its table -/
theorem Rp.noted {h h' : Heap} {k ks : List (Nat × Nat)} (I : Rp X ρ σ h) (hl : σ[(1 : Nat)]? = some (.tab ks)) (hx : Heap.ExtBut X.tabP h h') {ps : Array Value} (ht : h'.get? X.tabP = some (tabObj ps)) (h2 : TriplesOk ps.toList) (h3 : ∀ pos : Pos, (pos.line, pos.col) ∉ k → codeAmong pos ps.toList = none) :
    Rp X ρ (σ.set 1 (.tab k)) h' ∧ Step [] fs ρ ρ h h' := by
  have hlt : 1 < ρ.length := by rw [I.len]; exact (List.getElem?_eq_some_iff.mp hl).1
  have hp : ρ[(1 : Nat)]? = some ρ[1] := List.getElem?_eq_getElem hlt
  have r := I.objs _ _ _ hp hl
  generalize ρ[1] = p at hp r
  cases r with
  | tab e1 e2 e3 =>
  have own : X.tabP ∈ owned ρ := mem_owned_fst (p := (X.tabP, none)) hp
  have S : Step [] fs ρ ρ h h' := by
    refine ⟨⟨[], by simp⟩, fun a o e n _ => ?_, fun a o e _ => ?_, fun _ q => .inl q, fun _ _ q => q⟩
    · have ne : a ≠ X.tabP := fun q => n (q ▸ own)
      exact ⟨fun _ => hx a o ne e, o.slots, hx a o ne e⟩
    · by_cases q : a = X.tabP
      · exact ⟨_, q ▸ ht⟩
      · exact ⟨o, hx a o q e⟩
  refine ⟨⟨fun b o e => hx b o (fun q => by rw [q, I.off _ own] at e; cases e) (I.base b o e), by simpa using I.len, I.nodup, I.off, ?_, fun i q o hi ho => ?_⟩, S⟩
  · obtain ⟨xs, e⟩ := I.fz
    exact ⟨xs, by rw [List.getElem?_set_ne (by decide)]; exact e⟩
  · by_cases e : i = 1
    · subst e
      rw [hp] at hi
      cases hi
      have : 1 < σ.length := (List.getElem?_eq_some_iff.mp hl).1
      rw [List.getElem?_set_self this] at ho
      cases ho
      exact .tab ht h2 h3
    · rw [List.getElem?_set_ne (Ne.symm e)] at ho
      refine (I.objs i q o hi ho).step S noSeq_nil fun x hx' ob eo => hx x ob (fun z => ?_) eo
      subst z
      exact e (nodup_ownedOf I.nodup hi hp hx' (by simp [ownedOf]))

theorem lam_bind {name qual : Str} {body : Expr} {scope : Scope} {cl : List (Str × Addr)} {pm cdv ct : Value} : bindArgs (kla_fn name qual noArgs body scope cl pm cdv ct) ⟨[], []⟩ = pure [] := by kernel_rfl

theorem lam_frame {h2 : Heap} {scope : Scope} {qual : Str} {f : Addr} {cdv : Value} (cc : LamC C scope C') (F : FrR X C.Γ env fr ρ s.heap) (hn : env.scope.names = C.names) (I : Rp X ρ σ s.heap) {L : Addr} (hL : s.heap.get? L = none) (kp : ∀ b o, s.heap.get? b = some o → h2.get? b = some o) (hns : h2.Ns L fun _ => none) :
    FrR X C'.Γ (newEnv scope L mainGlobals (capt env scope.names []) qual (some f) cdv none builtinsNs) fr ρ h2 := by
  have ke : ∀ n, env.kindOf n = C.names.lookup n := fun n => by unfold Env.kindOf; rw [hn]
  have kd : ∀ n, (newEnv scope L mainGlobals (capt env scope.names []) qual (some f) cdv none builtinsNs).kindOf n = C'.names.lookup n := fun n => by rw [cc.names]; rfl
  have T : Step [] [] ρ ρ s.heap h2 := Step.of_keeps kp
  have cm : ∀ c, c ∈ (capt env scope.names []).map (·.2) → c ∈ frameAddrs env := fun c hc => by
    obtain ⟨⟨n, c'⟩, hm, rfl⟩ := List.mem_map.mp hc
    rcases capt_mem hm with q | ⟨_, q⟩
    · cases q
    · simp [frameAddrs]; exact .inr ⟨n, lookup_mem q⟩
  refine ⟨cc.kind, rfl, rfl, fun n i h => ?_, cc.inj, cc.one, ⟨_, hns, fun n i h hk v hv => ?_⟩, fun n i h hk => ?_, fun a ha => ?_, fun q => ?_, fun n n' c h h' => ?_⟩
  · rw [kd]; exact .inr (.inr (cc.gam n i h).2.2)
  · exfalso
    rw [kd, (cc.gam n i h).2.2] at hk
    cases hk
  · obtain ⟨q1, q2, q3⟩ := cc.gam n i h
    obtain ⟨c, cur, hc, hcell, r⟩ := F.cells n i q2 (by rw [ke]; exact (cc.frees n q1).1)
    refine ⟨c, cur, capt_lookup hc q1, hcell.keeps kp, fun v hv => ?_⟩
    obtain ⟨u, e1, e2⟩ := r v hv
    exact ⟨u, e1, e2.step T noSeq_nil⟩
  · rcases List.mem_cons.mp ha with rfl | ha
    · exact ⟨I.offNew hL, base_none I.base hL, ns_data hns⟩
    · obtain ⟨a1, a2, o, e, a3⟩ := F.off a (cm a ha)
      exact ⟨a1, a2, o, kp _ _ e, a3⟩
  · obtain ⟨_, _, o, e, _⟩ := F.off _ (cm _ q)
    have e : s.heap.get? L = some o := e
    rw [hL] at e; cases e
  · rcases capt_mem h with q | ⟨_, q⟩
    · cases q
    · rcases capt_mem h' with q' | ⟨_, q'⟩
      · cases q'
      · exact F.once n n' c (lookup_mem q) (lookup_mem q')
end
end Mine
end

section
set_option autoImplicit false
set_option linter.unusedVariables false
set_option maxRecDepth 100000
set_option maxHeartbeats 2000000
namespace Mine
open PySem PySem.W PyProof.Rows PySem.SeqAt

section
variable {X : Cx} {S : SX} {C C' : SC} {lvl : Nat} {A : Around} {W W1 fs : List Addr} {env : Env} {fr : Fr} {ρ ρ' : Rho} {σ σ' : St} {s s' : Shared}

theorem lam_call (lim : X.base.NoLimit) {scope : Scope} {body : Expr} {f : Addr} {c' : Addr} {pm ctv : Value} {qual : Str} {f0 : Fr → St → R PV} (cc : LamC C scope C') (ar : AOK X A fs ρ s.heap) (I : Rp X ρ σ s.heap) (F : FrR X C.Γ env fr ρ s.heap) (hn : env.scope.names = C.names) (rm : Rm A (lvl + 1))
    (ho : s.heap.get? f = some (kla_obj "<lambda>" qual noArgs body scope (capt env scope.names []) pm c' ctv)) (hcd : s.heap.CodeRec (.ref c') qual) (h : EOk X C' lvl body f0) (ns : f0 fr σ ≠ .stuck) :
    wpAny (model X.prog X.w) A (call (.ref f) []) (Post X [] fs ρ s VRep (f0 fr σ)) (PostX X A [] fs ρ s (f0 fr σ)) s := by
  refine wpAny_call (kla_callFunE (by have := rm.1; omega) ho rfl cc.co cc.gen rfl hcd ?_)
  rw [lam_bind]
  refine wpAny_pure (wpAny_newFunctionEnv cc.nocell (fun x hx => by cases hx) (fun h2 hns2 hsb2 => ⟨?_, kla_codeExpr ?_⟩) cc.kind)
  all_goals
    have kp : ∀ b o, s.heap.get? b = some o → h2.get? b = some o := fun b o e => hsb2.extBut b o (Nat.ne_of_lt (Heap.lt_size e)) (Heap.get?_push_of_some _ e)
  · exact lim.keeps fun b o e => kp b o (I.base b o e)
  have hns2' : h2.Ns s.heap.objs.size fun _ => none := hns2
  have Ln : s.heap.get? s.heap.objs.size = none := get?_size _
  have F2 := lam_frame (s := s) (qual := qual ++ ".<locals>.") (f := f) (cdv := .ref c') cc F hn I Ln kp hns2'
  obtain ⟨ar2, outer, frs2, hA, hfs⟩ := ar.enter I (env' := newEnv scope s.heap.objs.size mainGlobals (capt env scope.names []) (qual ++ ".<locals>.") (some f) (.ref c') none builtinsNs) rfl cc.kind hns2' Ln kp
  have rm2 : Rm (A.deeper (newEnv scope s.heap.objs.size mainGlobals (capt env scope.names []) (qual ++ ".<locals>.") (some f) (.ref c') none builtinsNs)) lvl := by
    obtain ⟨r1, r2⟩ := rm
    refine ⟨?_, ?_⟩
    · show A.depth + 1 + lvl < _; omega
    · show A.units + 3 + 3 * lvl + 100 < _; omega
  have at2 : At X C' lvl (A.deeper _) (s.heap.objs.size :: fs) _ fr ρ σ { s with heap := h2, toks := s.toks + 0 } := ⟨I.keeps kp, F2, by rw [cc.names]; rfl, ar2, rm2, fun v hv => by rw [cc.code] at hv; cases hv⟩
  refine wpAny_mono (h _ _ _ _ _ _ _ at2 ns) (fun u s3 p => ?_) fun e s3 p => ?_
  · obtain ⟨v, σ3, ρ3, e1, ⟨h3, t3, rfl⟩, e3, e4, e5⟩ := p
    exact ⟨v, σ3, ρ3, e1, ⟨h3, t3, rfl⟩, e3, e4, Step.callS kp e5 (by simp) Ln⟩
  · obtain ⟨cx, σ3, ρ3, h₁, a, e1, rfl, ⟨h3, t3, rfl⟩, e4, e5, e6⟩ := p
    refine Fly.leave (fs := fs) e6 hA rfl hfs fun h'' F' nt => ?_
    have T2 : Step [] fs ρ ρ3 s.heap h₁ := Step.callS kp e5 (by simp) Ln
    have fL : Free X ρ3 s.heap.objs.size := ⟨(let ⟨o, e, _⟩ := ns_data hns2'; e5.offNew e (I.offNew Ln)), base_none I.base Ln⟩
    exact ⟨cx, σ3, ρ3, h₁.hide s.heap.objs.size, a, e1, rfl, ⟨_, _, rfl⟩, e4.extBut fL nt fun b o hb e => by rw [Heap.hide_ne _ hb]; exact e, T2.hide Ln, F'⟩

theorem codeAmong_snoc' {pos : Pos} {a b : Int} {c : Value} (l : List Value) (h : TriplesOk l) (hn : codeAmong pos l = none) :
    codeAmong pos (l ++ [rawInt a, rawInt b, c]) = if (a == pos.line && b == pos.col) = true then some c else none := by
  fun_induction TriplesOk l with
  | case1 => simp [codeAmong, rawInt]
  | case2 a' t b' u x rest ih =>
    simp only [List.cons_append, codeAmong] at hn ⊢
    split at hn
    · cases hn
    · rename_i hc; rw [if_neg hc]; exact ih h hn
  | case3 l h1 h2 => exact h.elim
noncomputable def letR (c : Nat) (r : R PV) : R PV := match r with
  | .ok _ σ => .ok (.bool true) σ
  | .exc c' σ => if c = c' then .ok (.bool false) σ else .stuck
  | .stuck => .stuck

theorem let_call (lim : X.base.NoLimit) {ka c : Nat} (LF : LetFacts X ka c) (EF : ExcFacts X c) {scope : Scope} {body : Expr} {f : Addr} {c' : Addr} {pm ctv : Value} {qual : Str} {f0 : Fr → St → R PV} (cc : LamC C scope C') (ar : AOK X A fs ρ s.heap) (I : Rp X ρ σ s.heap) (F : FrR X C.Γ env fr ρ s.heap) (hn : env.scope.names = C.names) (rm : Rm A (lvl + 2))
    (ho : s.heap.get? f = some (kla_obj "<lambda>" qual noArgs body scope (capt env scope.names []) pm c' ctv)) (hcd : s.heap.CodeRec (.ref c') qual) (h : EOk X C' lvl body f0) (ns : letR c (f0 fr σ) ≠ .stuck) (E : Value → Shared → Prop) :
    wpAny (model X.prog X.w) A (call (.ref (X.fa ka)) [.ref f]) (Post X [] fs ρ s VRep (letR c (f0 fr σ))) E s := by
  obtain ⟨oc, od, osl, fd, cn, k1, k2, p1, p2, p3, p4, p5, p6, p7, p8, p9, p10, hobj, hcode, hbody, hbind, hclo, hglob, hbi, hco, hgen, hkind, hcell, n1, n2, n3, n4⟩ := LF.fn
  have XK := I.kin
  refine wpAny_call (codeAny_call_def (by have := rm.1; omega) (XK _ _ hobj) rfl (lim.keeps I.base) (codeRec_of XK hcode) hbody (kp_binds XK (hbind _)) hcell (fun x hx => ?_) (fun h₀ hns kp => ?_) hco hgen hkind)
  · simp only [List.mem_cons, List.not_mem_nil, or_false] at hx
    subst hx
    exact n1
  dsimp only at hns kp ⊢
  have Ln : s.heap.get? s.heap.objs.size = none := get?_size _
  have hk : (callEnv fd s.heap.objs.size (X.fa ka)).scope.kind = .function := hkind
  obtain ⟨ar1, outer, frs1, hA, hfs⟩ := ar.enter I (env' := callEnv fd s.heap.objs.size (X.fa ka)) rfl hkind hns Ln kp
  have I1 : Rp X ρ σ h₀ := I.keeps kp
  have F1 : FrR X C.Γ env fr ρ h₀ := F.step (Step.of_keeps (W := []) (fs := []) kp)
  have rm1 : Rm (A.deeper (callEnv fd s.heap.objs.size (X.fa ka))) (lvl + 1) := by
    obtain ⟨r1, r2⟩ := rm
    refine ⟨?_, ?_⟩
    · show A.depth + 1 + (lvl + 1) < _; omega
    · show A.units + 3 + 3 * (lvl + 1) + 100 < _; omega
  have ho1 := kp _ _ ho
  have hcd1 : h₀.CodeRec (.ref c') qual := (let ⟨c, o, vs, t, e1, e2, e3⟩ := hcd; ⟨c, o, vs, t, e1, kp _ _ e2, e3⟩)
  have nf : f0 fr σ ≠ .stuck := fun q => by rw [q] at ns; exact ns rfl
  have hin : interactive (callEnv fd s.heap.objs.size (X.fa ka)) = false := by unfold interactive; rw [hk]; rfl
  have kd : ∀ n, (callEnv fd s.heap.objs.size (X.fa ka)).kindOf n = fd.scope.names.lookup n := fun n => rfl
  unfold letBody
  rw [execs_cons]
  refine wpAny_bind (wpAny_Try_except ?_)
  rw [execs_cons]
  refine wpAny_bind ?_
  rw [exec_Expr _ _ _ hin (swaps_not rfl)]
  refine wpAny_bind (wpAny_standAt (wpAny_bind ?_))
  rw [eval_call_name (by intro y hy; cases hy)]
  refine wpAny_bind (wpAny_Name (wpAny_loadName_local hk (by rw [kd]; exact n1) hns rfl ?_) (by decide))
  refine callWith_of (P := fun h => FnAt f h) rfl keeps_F (evalArgs_nil3 ⟨⟨_, _, _, _, ho1⟩, ?_⟩)
  have kcall := lam_call (s := { s with heap := h₀, toks := s.toks + [(("deed" : Str), Value.ref f)].length }) lim cc ar1 I1 F1 hn rm1 ho1 hcd1 h nf
  refine wpAny_mono kcall (fun u s3 p => ?_) fun e s3 p => ?_
  · obtain ⟨v, σ3, ρ3, e1, ⟨h3, t3, rfl⟩, e3, e4, e5⟩ := p
    rw [e1]
    refine wpAny_dropValue ?_
    dsimp only
    refine wpAny_execs_nil ?_
    dsimp only
    refine wpAny_execs_nil ?_
    dsimp only
    rw [execs_cons]
    refine wpAny_bind ?_
    rw [arm_exec_Return]
    refine wpAny_bind (wpAny_standAt (wpAny_bind (Constant_bool (wpAny_pure (wpAny_pure ?_)))))
    exact ⟨.bool true, σ3, ρ3, rfl, ⟨_, _, rfl⟩, e3, .bool true, Step.callS kp e5 (by simp) Ln⟩
  · obtain ⟨cx, σ3, ρ3, h₁, a, e1, rfl, ⟨h3, t3, rfl⟩, e4, e5, l, Bx, a0, f1, f2, f3, f4, f5⟩ := p
    rw [e1] at ns ⊢
    have hcc : c = cx := by
      by_cases q : c = cx
      · exact q
      · change (if c = cx then _ else _) ≠ _ at ns; rw [if_neg q] at ns; exact absurd rfl ns
    subst hcc
    rw [frs1] at f1
    cases f1
    refine air_note frs1 rfl f3 fun h4 hheld u4 => ?_
    refine wpAny_landsW hheld fun h5 hfl u5 => ?_
    have u5' : h₁.UpToSlots h5 := (f4.trans u4).trans u5
    obtain ⟨I5, T5⟩ := landed ar1 e4 e5 frs1 f2 u5' hfl
    obtain ⟨⟨bm, P⟩, _⟩ := EF
    obtain ⟨⟨nm, q, N, bs, sn, sub, ab, col, dd, q0, q1, q2, q3, q5, hK⟩, hxo, hcall, htyp⟩ := P
    have hx5 := hfl.there
    refine wpAny_handleBy_cons (codeAny_handlers_test (Calls.Name_function_global hk (by rw [kd]; exact n2) (Calls.loadGlobal_global (mg := X.mg) (by rw [show (callEnv fd s.heap.objs.size (X.fa ka)).globals = mainGlobals from hglob]; exact X.gns.keeps I5.base) n4 ?_) n3)) (by intro q; cases q)
    obtain ⟨oe, he, hcls⟩ := hx5
    refine wpAny_excMatches_sub_self ((X.kin.keeps I5.base) _ _ hK) he hcls (exOnly_has hxo).2.1 ?_
    dsimp only [if_true]
    refine codeAny_handlers_suite (lands_againW hfl fun h6 hfl6 u6 => ?_)
    obtain ⟨I6, T6⟩ := landed ar1 e4 e5 frs1 f2 (u5'.trans u6) hfl6
    rw [execs_cons]
    refine wpAny_bind ?_
    rw [arm_exec_Return]
    refine wpAny_bind (wpAny_standAt (wpAny_bind (Constant_bool (wpAny_pure (wpAny_pure ?_)))))
    dsimp only
    refine wpAny_pure ?_
    dsimp only
    refine ⟨.bool false, σ3, ρ3, by show (if c = c then _ else _) = _; rw [if_pos rfl], ⟨_, _, rfl⟩, I6, .bool false, Step.callS kp T6 (by simp) Ln⟩

theorem e_isLet (O : SOk X S) (lim : X.base.NoLimit) {id : Str} {np lpos pos : Pos} {ka c : Nat} {c0 : Addr} {body : Expr} {scope : Scope} {f0 : Fr → St → R PV} (hd : (id == ("__debug__" : Str)) = false) (hk : C.names.lookup id = some .globalImplicit) (hg : S.glob.lookup id = some (.fn ka)) (LF : LetFacts X ka c) (EF : ExcFacts X c) (TF : TabFacts X c0)
    (hc : C.code = some (.ref c0)) (cc : LamC C scope C') (h : EOk X C' lvl body f0) :
    EOk X C (lvl + 2) (.Call (.Name id np) [.Lambda noArgs body scope lpos] [] pos) fun fr σ => isLetR c lpos.line lpos.col f0 fr σ := fun A fs env fr ρ σ s a ns => by
  dsimp only at ns ⊢
  obtain ⟨e1, e2⟩ := O.fn _ _ hg
  have ke : ∀ n, env.kindOf n = C.names.lookup n := a.kind
  unfold isLetR at ns ⊢
  split at ns
  case h_2 => exact absurd rfl ns
  rename_i ks hks
  split at ns
  · exact absurd rfl ns
  rename_i hfresh
  rw [if_neg hfresh]
  change letR c (f0 fr (σ.set 1 (.tab ((lpos.line, lpos.col) :: ks)))) ≠ .stuck at ns
  show wpAny _ _ _ (Post X [] fs ρ s VRep (letR c (f0 fr (σ.set 1 (.tab ((lpos.line, lpos.col) :: ks)))))) (PostX X A [] fs ρ s (letR c (f0 fr (σ.set 1 (.tab ((lpos.line, lpos.col) :: ks)))))) s
  have hclos : ∀ n, (n, NameKind.free) ∈ scope.names → ∃ c, env.cells.lookup n = some c := fun n hn => by
    obtain ⟨hk, i, hi⟩ := cc.frees n hn
    obtain ⟨c, _, hc, _⟩ := a.F.cells n i hi (by rw [ke]; exact hk)
    exact ⟨c, hc⟩
  have hlt : 1 < ρ.length := by rw [a.I.len]; exact (List.getElem?_eq_some_iff.mp hks).1
  have hp : ρ[(1 : Nat)]? = some ρ[1] := List.getElem?_eq_getElem hlt
  have r := a.I.objs _ _ _ hp hks
  generalize ρ[1] = p at hp r
  cases r with
  | tab t1 t2 t3 =>
  rename_i ps
  have own : X.tabP ∈ owned ρ := mem_owned_fst (p := (X.tabP, none)) hp
  have bP : X.base.get? X.tabP = none := a.I.off _ own
  have hgP : mainGlobals ≠ X.tabP := fun q => by
    obtain ⟨o, es, ep, e, _⟩ := X.gns
    rw [q, bP] at e; cases e
  rw [eval_call_name (by intro y hy; simp at hy; subst hy; rfl)]
  refine wpAny_bind (glob_gv a hd hk e1 _ _ fun j => ?_)
  have hbi : s.heap.BuiltinsAt X.mg X.tabP := by
    obtain ⟨bm, ob, b1, b2, b3, b4, b5, b6⟩ := TF.bi
    exact ⟨bm, ob, b1, b2, b3, b4, a.I.base _ _ b5, b6⟩
  refine callWith_of (P := X.K.In) (by simp) (keeps_ref e2) (Calls.evalArgs_plain (Calls.spliced_cons (kla_eval rfl
    (kla_makeFunction (ps := ps) (mg := X.mg) (c := c0) (P := X.tabP) (closureFor_capt hclos) a.F.glob (X.gns.keeps a.I.base) (a.cd _ hc) (TF.code.keeps a.I.base) t1 t2 (t3 _ hfresh) hgP hbi fun c' ctv h' tk hx hge hlt' hrec htb => Calls.spliced_nil ?_))))
  have T0 : ∀ a0 b0, TriplesOk (ps ++ #[rawInt a0, rawInt b0, .ref c']).toList := fun a0 b0 => by
    rw [Array.toList_append]; exact TriplesOk_snoc _ _ _ _ t2
  obtain ⟨I1, S1⟩ := a.I.noted (fs := fs) (k := (lpos.line, lpos.col) :: ks) hks hx htb (T0 _ _) fun pos hpos => by
    rw [Array.toList_append]
    show codeAmong pos (ps.toList ++ [rawInt lpos.line, rawInt lpos.col, .ref c']) = none
    rw [codeAmong_snoc' _ t2 (t3 pos fun q => hpos (List.mem_cons_of_mem _ q))]
    rw [if_neg]
    intro q
    simp only [Bool.and_eq_true, beq_iff_eq] at q
    exact hpos (by rw [← Int.ofNat.inj q.1, ← Int.ofNat.inj q.2]; exact List.mem_cons_self)
  have kp1 : ∀ (o : Obj) b ob, h'.get? b = some ob → (h'.push o).get? b = some ob := fun o b ob e => Heap.get?_push_of_some _ e
  have S2 : ∀ o : Obj, Step [] fs ρ ρ h' (h'.push o) := fun o => Step.of_keeps (kp1 o)
  refine ⟨(X.kin.keeps I1.base).keeps (kp1 _), ?_⟩
  generalize hO : kla_obj "<lambda>" (env.qual ++ "<lambda>") noArgs body scope (capt env scope.names []) ((X.mg "__name__").getD .none) c' ctv = ob
  have I2 := I1.keeps (kp1 ob)
  have T2 := S1.trans (S2 ob)
  have ho : (h'.push ob).get? h'.objs.size = some (kla_obj "<lambda>" (env.qual ++ "<lambda>") noArgs body scope (capt env scope.names []) ((X.mg "__name__").getD .none) c' ctv) := by rw [hO]; exact Heap.get?_push_size _ (by rw [← hO]; rfl)
  have hcd : (h'.push ob).CodeRec (.ref c') (env.qual ++ "<lambda>") := (let ⟨c, o, vs, t, e1, e2, e3⟩ := hrec; ⟨c, o, vs, t, e1, kp1 ob _ _ e2, e3⟩)
  have key := let_call (s := { s with heap := h'.push ob, toks := tk }) lim LF EF cc (a.ar.step0 T2) I2 (a.F.step T2) a.names a.rm ho hcd h ns
  exact wpAny_mono (key _) (fun _ _ q => q.from ⟨_, _, rfl⟩ T2) fun _ _ q => q
end
end Mine
end

section
set_option autoImplicit false
set_option linter.unusedVariables false
set_option maxRecDepth 100000
set_option maxHeartbeats 1000000
namespace Mine
open PySem PySem.W PyProof.Rows PySem.SeqAt

noncomputable def noSwap (t v : Expr) : Bool := match t with
  | .Tuple ts _ _ => !isTupE v || ts.any fun t => !isName t
  | .List _ _ => false
  | _ => true
theorem filterMap_short {α β : Type} {f : α → Option β} {l : List α} (h : ∃ x ∈ l, f x = none) : (l.filterMap f).length < l.length := by
  induction l with
  | nil => exact (let ⟨_, h, _⟩ := h; nomatch h)
  | cons a l ih =>
    obtain ⟨x, h, e⟩ := h
    rw [List.filterMap_cons]
    rcases List.mem_cons.mp h with h | h
    · rw [h] at e; rw [e]; exact Nat.lt_succ_of_le (List.length_filterMap_le f l)
    · have ih := ih ⟨x, h, e⟩
      cases f a with
      | none => exact Nat.lt_succ_of_lt ih
      | some b => exact Nat.succ_lt_succ ih
theorem noSwap_none {t v : Expr} {env : Env} (h : noSwap t v = true) : swappedStores [t] v env = pure none := by
  cases t with
  | Tuple ts k tp =>
    cases v with
    | Tuple vs kv vp =>
      obtain ⟨x, hx, hn⟩ := List.any_eq_true.mp (show (ts.any fun t => !isName t) = true from h)
      unfold swappedStores
      dsimp only
      split
      · rfl
      split
      · rfl
      rw [if_pos]
      rw [Bool.or_eq_true]
      left
      rw [bne_iff_ne]
      refine Nat.ne_of_lt (filterMap_short ⟨x, hx, ?_⟩)
      cases x <;> first | rfl | cases hn
    | _ => rfl
  | List ts tp => cases h
  | _ => rfl

section
variable {X : Cx} {S : SX} {C C' : SC} {lvl : Nat} {A : Around} {W W1 fs : List Addr} {env : Env} {fr : Fr} {ρ ρ' : Rho} {σ σ' : St} {s s' : Shared}

noncomputable def compName (nm : Str) (np cpos : Pos) (scope : Scope) : Bool := np.line == cpos.line && !(scope.names.any fun (n, k) => n == nm && (k == .local || k == .cell))
theorem swaps_comp {elt : Expr} {gens : List Comprehension} {scope : Scope} {nm : Str} {np cpos : Pos} {l : Nat} (hc : compName nm np cpos scope = true) (hk : env.scope.kind = .function) (hl : env.kindOf nm = some .local) :
    swapsWith (.ListComp elt gens scope cpos) (some (.Name nm np)) l env = pure true := by
  simp only [compName, Bool.and_eq_true, beq_iff_eq, Bool.not_eq_true'] at hc
  have hb : env.blockKind = .function := by unfold Env.blockKind; rw [hk]; rfl
  unfold swapsWith
  dsimp only [Expr.pos]
  rw [hb, hl, hc.1, hc.2]
  simp

theorem s_lcomp {T : Tb} {n : Nat} {elt target iter : Expr} {ifs : List Expr} {ielt : IE} {iifs its : List IE} {kind width : Nat} {scope : Scope} {np cpos pos : Pos} {ok : Expr → Bool} {tgt : List Nat} {isTup : Bool} {nm : Str} {i : Nat}
    (hΓ : C.Γ.lookup nm = some i) (hk : C.names.lookup nm = some .local) (hcn : compName nm np cpos scope = true)
    (hs : notSet iter = true) (src : SrcOk X C lvl iter ok (srcF (evE T n) kind its)) (okT : ok target = true) (tg : TgtOk C' target tgt isTup) (tests : All2 (fun e ie => BOk X C' lvl e fun fr σ => evC T n fr ie σ) ifs iifs) (h : EOk X C' lvl elt fun fr σ => evE T n fr ielt σ) (cc : CompC C scope C') :
    SOkS X C lvl (.Assign [.Name nm np] (.ListComp elt [⟨target, iter, ifs, 0⟩] scope cpos) pos) fun fr σ => (evE T (n + 1) fr (.comp ielt none tgt isTup kind its iifs C.base width) σ).bind fun v σ => (if i < fr.length then .ok (fr.set i (some v)) σ else .stuck : R Fr).bind fun fr σ => .ok (.next fr) σ := fun A fs env fr ρ σ s a t => by
  show Ok X A _ fs ρ s _ _ ((evE T (n + 1) fr (.comp ielt none tgt isTup kind its iifs C.base width) σ).bind fun v σ => (if i < fr.length then .ok (fr.set i (some v)) σ else .stuck : R Fr).bind fun fr σ => .ok (Fl.next fr) σ)
  rw [evE_compL]
  rw [exec_Assign_Name_used _ _ _ _ (swaps_comp (scope := scope) hcn a.F.kind ((a.kind nm).trans hk))]
  refine Ok.standAt ?_
  refine Ok.of_eq (bind_assoc _ _ _) ?_
  exact comp_store (np := np) (parts_list hs src okT tg tests h cc) (lookup_mem hΓ) hk a
end
end Mine
end

section
set_option autoImplicit false
set_option linter.unusedVariables false
set_option maxRecDepth 100000
set_option maxHeartbeats 1000000
namespace Mine
open PySem PySem.W PyProof.Rows PySem.SeqAt

/-! the compiler -/
structure SY extends SX where
  excs : List Nat
  letf : Option (Nat × Nat)
  c0 : Option Addr

noncomputable def stuckE : IE := .neg (.cst .none)
noncomputable def findA (a : Str) : List Str → Nat → Option Nat
  | [], _ => none
  | x :: r, i => if x == a then some i else findA a r (i + 1)

noncomputable def dbg (id : Str) : Bool := id == ("__debug__" : Str) || id == ("__classdict__" : Str)
noncomputable def isGl (C : SC) (id : Str) : Bool := C.names.lookup id == some .globalImplicit

noncomputable def cConst : Const → IE
  | .none => .cst .none
  | .bool b => .cst (.bool b)
  | .int i => .cst (.int i)
  | .str x => .cst (.str x)
  | .bytes l => .cst (.bytes l.toArray)
  | _ => stuckE
noncomputable def ifE (b : Bool) (t : IE) : IE := cond b t stuckE
noncomputable def opE {α : Type} (o : Option α) (f : α → IE) : IE := o.elim stuckE f
noncomputable def cGlob : Option GV → IE
  | some (.cst v) => .cst v
  | _ => stuckE
noncomputable def cName (S : SY) (C : SC) (id : Str) : IE := ifE (!dbg id) (match C.Γ.lookup id with
    | some i => .var i
    | none => ifE (isGl C id) (cGlob (S.glob.lookup id)))

/-- zip of two plain arguments -/
noncomputable def nameOf : Expr → Option Str
  | .Name id _ => some id
  | _ => none
noncomputable def callOf : Expr → Option (Expr × List Expr × Bool)
  | .Call f args kws _ => some (f, args, kws.isEmpty)
  | _ => none
noncomputable def twoOf (id : Str) : List Expr → Option (Str × Expr × Expr)
  | [a, b] => some (id, a, b)
  | _ => none
/-- zip of two plain arguments -/
noncomputable def zipArgs (iter : Expr) : Option (Str × Expr × Expr) := (callOf iter).bind fun c => (nameOf c.1).bind fun id => cond c.2.2 (twoOf id c.2.1) none
noncomputable def cSrc (S : SY) (C : SC) (f : Expr → IE) (iter : Expr) : Nat × List IE := match zipArgs iter with
  | some p => cond (p.1 == ("zip" : Str)) (cond (isGl C p.1 && S.bnames.contains p.1 && notStar p.2.1 && notStar p.2.2) (2, [f p.2.1, f p.2.2]) (0, [stuckE])) (0, [f iter])
  | none => (0, [f iter])

noncomputable def localIdx (C : SC) (e : Expr) : Option Nat := (nameOf e).bind fun id => cond (C.names.lookup id == some .local) (C.Γ.lookup id) none
noncomputable def localIdxs (C : SC) : List Expr → Option (List Nat)
  | [] => some []
  | e :: r => (localIdx C e).bind fun i => (localIdxs C r).map (i :: ·)
noncomputable def cTgt (C : SC) (t : Expr) : Option (List Nat × Bool) := match t with
  | .Tuple es _ _ => (localIdxs C es).map fun l => (l, true)
  | t => (localIdx C t).map fun i => ([i], false)

noncomputable def freeΓ (C : SC) (scope : Scope) : List (Str × Nat) := scope.names.filterMap fun p => if p.2 == .free then (C.Γ.lookup p.1).map fun i => (p.1, i) else none
noncomputable def localsOf (scope : Scope) : List Str := scope.names.filterMap fun p => if p.2 == .local then some p.1 else none
noncomputable def cInner (C : SC) (scope : Scope) : SC where
  names := scope.names.map fun (n, k) => if (k == .free && C.names.lookup n == some .cell) then (n, .cell) else (n, k)
  Γ := freeΓ C scope ++ (localsOf scope).zipIdx C.base
  base := C.base + (localsOf scope).length
  code := C.code
noncomputable def injΓ (Γ : List (Str × Nat)) : Bool := Γ.all fun p => Γ.all fun q => (p.1 == q.1) == (p.2 == q.2)
noncomputable def compOk (C : SC) (scope : Scope) : Bool :=
  scope.kind == .function && scope.names.all (fun y => y.2 != .cell) && scope.names.all (fun y => y.2 != .local || scope.names.lookup y.1 == some .local) &&
  scope.names.all (fun y => y.2 != .free || ((C.names.lookup y.1 == some .cell || C.names.lookup y.1 == some .free) && (C.Γ.lookup y.1).isSome)) &&
  (cInner C scope).Γ.all (fun p => ((cInner C scope).names.lookup p.1 == some .local && decide (C.base ≤ p.2)) || (scope.names.contains (p.1, .free) && C.Γ.contains p && ((cInner C scope).names.lookup p.1 == some .cell || (cInner C scope).names.lookup p.1 == some .free))) &&
  injΓ (cInner C scope).Γ
noncomputable def cLam (C : SC) (scope : Scope) : SC where
  names := scope.names
  Γ := freeΓ C scope
  base := C.base
  code := none
noncomputable def lamOk (C : SC) (scope : Scope) : Bool :=
  scope.kind == .function && !scope.isCoroutine && !scope.isGenerator && scope.names.all (fun y => y.2 != .cell) &&
  scope.names.all (fun y => y.2 != .free || ((C.names.lookup y.1 == some .cell || C.names.lookup y.1 == some .free) && (C.Γ.lookup y.1).isSome)) &&
  (freeΓ C scope).all (fun p => scope.names.contains (p.1, .free) && C.Γ.contains p && scope.names.lookup p.1 == some .free) && injΓ (freeΓ C scope)

noncomputable def cKeys : List (Option Expr) → List Expr → Option (List (Expr × Expr))
  | [], vs => cond vs.isEmpty (some []) none
  | k :: ks, vs => k.bind fun k => vs.head?.bind fun v => (cKeys ks vs.tail).map ((k, v) :: ·)

noncomputable def isiArgs (args : List Expr) : Option (Expr × Str) := match args with
  | [e, t] => (nameOf t).map fun tn => (e, tn)
  | _ => none
noncomputable def cIsi (S : SY) (C : SC) (id : Str) (args : List Expr) (f : Expr → IE) : IE := opE (isiArgs args) fun p => opE (isTable.lookup p.2) fun b => ifE (S.bnames.contains id && isGl C p.2 && S.bnames.contains p.2) (.blt b [f p.1])
noncomputable def cGCall (S : SY) (id : Str) (args : List Expr) (f : Expr → IE) (o : Option GV) : IE := match o with
  | some g => (match g with
    | .fn k => .call k (args.map f)
    | .cls c => .new c (args.map f)
    | .cst _ => stuckE)
  | none => opE (biTable.lookup id) fun b => ifE (S.bnames.contains id) (.blt b (args.map f))
noncomputable def cCall (S : SY) (C : SC) (id : Str) (args : List Expr) (f : Expr → IE) : IE :=
  ifE (args.all notStar && !dbg id && isGl C id) (cond (id == ("isinstance" : Str)) (cIsi S C id args f) (cGCall S id args f (S.glob.lookup id)))
noncomputable def cMeth (S : SY) (o : Expr) (mn : Str) (apos pos : Pos) (args : List Expr) (f : Expr → IE) : IE :=
  ifE (args.all notStar && notSuper o && decide (args.length < 30) && (apos.endLine == pos.line)) (match miTable.lookup mn with
    | some m => .meth m (f o) (args.map f)
    | none => opE (findA mn S.attrs 0) fun m => .umeth m (f o) (args.map f))
/-- a lambda that takes nothing, alone -/
noncomputable def lamArg (args : List Expr) : Option (Expr × Scope × Pos) := match args with
  | [a] => (match a with
    | .Lambda p body scope lpos => (match p with
      | ⟨[], [], none, [], [], none, []⟩ => some (body, scope, lpos)
      | _ => none)
    | _ => none)
  | _ => none
noncomputable def fnOf : GV → Option Nat
  | .fn k => some k
  | _ => none
noncomputable def cLet (S : SY) (C : SC) (id : Str) (f : SC → Expr → IE) (p : Expr × Scope × Pos) : IE := opE S.letf fun l => opE S.c0 fun c0 => opE ((S.glob.lookup id).bind fnOf) fun k =>
  ifE (k == l.1 && C.code == some (.ref c0)) (.isLet l.2 (f (cLam C p.2.1) p.1) p.2.2.line p.2.2.col)
noncomputable def sliceOf (i : Expr) : Option (Option Expr × Option Expr × Option Expr) := match i with
  | .Slice lo hi st _ => some (lo, hi, st)
  | _ => none
noncomputable def genOf (gens : List Comprehension) : Option (Expr × Expr × List Expr) := match gens with
  | [g] => cond (g.is_async == 0) (some (g.target, g.iter, g.ifs)) none
  | _ => none
noncomputable def cComp (S : SY) (C : SC) (f : SC → Expr → IE) (elt : Expr) (scope : Scope) (p : Expr × Expr × List Expr) : IE := ifE (notSet p.2.1 && compOk C scope) (opE (cTgt (cInner C scope) p.1) fun q =>
  ifE ((cSrc S C (f C) p.2.1).1 != 2 || isTupE p.1) (.comp (f (cInner C scope) elt) none q.1 q.2 (cSrc S C (f C) p.2.1).1 (cSrc S C (f C) p.2.1).2 (p.2.2.map (f (cInner C scope))) C.base (localsOf scope).length))

noncomputable def cSl (f : Expr → IE) (o : Expr) (lo hi st : Option Expr) : IE := match st with
  | none => .slice (f o) (lo.map f) (hi.map f)
  | some _ => stuckE
noncomputable def cSubS (f : Expr → IE) (o i : Expr) (s : Option (Option Expr × Option Expr × Option Expr)) : IE := match s with
  | some p => cSl f o p.1 p.2.1 p.2.2
  | none => .sub (f o) (f i)
noncomputable def cLm (S : SY) (C : SC) (lam : Bool) (f : Expr → IE) (f0 : SC → Expr → IE) (id : Str) (args : List Expr) (o : Option (Expr × Scope × Pos)) : IE := match o with
  | some p => ifE (lam && !(id == ("__debug__" : Str)) && isGl C id && lamOk C p.2.1) (cLet S C id f0 p)
  | none => cCall S C id args f
noncomputable def cFn (S : SY) (C : SC) (lam : Bool) (f : Expr → IE) (f0 : SC → Expr → IE) (fe : Expr) (args : List Expr) (pos : Pos) : IE := match fe with
  | .Name id _ => cLm S C lam f f0 id args (lamArg args)
  | .Attribute o mn apos => cMeth S o mn apos pos args f
  | _ => stuckE

noncomputable def cE (S : SY) : Nat → Bool → SC → Expr → IE
  | 0, _, _, _ => stuckE
  | n + 1, lam, C, e => match e with
    | .Constant c _ _ => cConst c
    | .Name id _ => cName S C id
    | .UnaryOp op x _ => (match op with
      | .Not => .not (cE S n lam C x)
      | .USub => .neg (cE S n lam C x)
      | _ => stuckE)
    | .BoolOp op es _ => .bop (op == .And) (es.map (cE S n lam C))
    | .IfExp c t e _ => .ite (cE S n lam C c) (cE S n lam C t) (cE S n lam C e)
    | .BinOp l op r _ => .bin op (cE S n lam C l) (cE S n lam C r)
    | .Compare l ops cs _ => ifE (ops.length == cs.length && cs.all notSet) (.cmp (cE S n lam C l) (ops.zip (cs.map (cE S n lam C))))
    | .List es _ => ifE (es.all notStar) (.list (es.map (cE S n lam C)))
    | .Tuple es _ _ => ifE (es.all notStar) (.tup (es.map (cE S n lam C)))
    | .Dict ks vs _ => opE (cKeys ks vs) fun kvs => ifE (!kvs.isEmpty && decide (kvs.length ≤ 15)) (.dict (kvs.map fun p => (cE S n lam C p.1, cE S n lam C p.2)))
    | .Attribute o a _ => opE (findA a S.attrs 0) fun i => ifE (notSuper o) (.attr (cE S n lam C o) i)
    | .Subscript o i _ => cSubS (cE S n lam C) o i (sliceOf i)
    | .Call f args kws pos => ifE kws.isEmpty (cFn S C lam (cE S n lam C) (cE S n false) f args pos)
    | .ListComp elt gens scope _ => opE (genOf gens) fun p => cComp S C (cE S n lam) elt scope p
    | _ => stuckE
end Mine
end

section
set_option autoImplicit false
set_option linter.unusedVariables false
set_option maxRecDepth 100000
set_option maxHeartbeats 1000000
namespace Mine
open PySem PySem.W PyProof.Rows PySem.SeqAt

structure SYOk (X : Cx) (S : SY) : Prop where
  base : SOk X S.toSX
  lim : X.base.NoLimit
  excs : ∀ c, c ∈ S.excs → ExcFacts X c
  letf : ∀ ka c, S.letf = some (ka, c) → LetFacts X ka c ∧ ExcFacts X c
  tab : ∀ c0, S.c0 = some c0 → TabFacts X c0

theorem Rm.mono {A : Around} {m n : Nat} (r : Rm A m) (h : n ≤ m) : Rm A n := ⟨by have := r.1; omega, by have := r.2; omega⟩

section
variable {X : Cx} {S : SY} {C C' : SC} {lvl L : Nat} {T : Tb} {A : Around} {W W1 fs : List Addr} {env : Env} {fr : Fr} {ρ ρ' : Rho} {σ σ' : St} {s s' : Shared}

theorem FOk.mono {m n : Nat} {f : Value} {g : List PV → St → R PV} (h : FOk X n f g) (hl : n ≤ m) : FOk X m f g := fun A fs ρ σ s vs us I ar rm rs ns => h A fs ρ σ s vs us I ar (rm.mono hl) rs ns
theorem TbOk.mono {m n : Nat} (h : TbOk X n T) (hl : n ≤ m) : TbOk X m T := ⟨fun k => (h.fn k).mono hl, h.meth, fun c f hc hf => (h.new c f hc hf).mono hl⟩

theorem EOk.congr {e : Expr} {f g : Fr → St → R PV} (h : EOk X C L e f) (q : ∀ fr σ, g fr σ = f fr σ) : EOk X C L e g := by
  have : g = f := funext fun fr => funext fun σ => q fr σ
  rw [this]; exact h
theorem BOk.congr {e : Expr} {f g : Fr → St → R Bool} (h : BOk X C L e f) (q : ∀ fr σ, g fr σ = f fr σ) : BOk X C L e g := by
  have : g = f := funext fun fr => funext fun σ => q fr σ
  rw [this]; exact h
theorem e_stuck {e : Expr} {f : Fr → St → R PV} (h : ∀ fr σ, f fr σ = .stuck) : EOk X C L e f := fun A fs env fr ρ σ s a => by rw [h]; exact .stuck
theorem b_stuck {e : Expr} {f : Fr → St → R Bool} (h : ∀ fr σ, f fr σ = .stuck) : BOk X C L e f := fun A fs env fr ρ σ s a => by rw [h]; exact .stuck
theorem evE_0 {ie : IE} : evE T 0 fr ie σ = .stuck := rfl
theorem evC_0 {ie : IE} : evC T 0 fr ie σ = .stuck := rfl
theorem evE_stuck (m : Nat) : evE T m fr stuckE σ = .stuck := by
  cases m with
  | zero => rfl
  | succ m => cases m <;> rfl
theorem evC_stuck (m : Nat) : evC T m fr stuckE σ = .stuck := by
  cases m with
  | zero => rfl
  | succ m => exact congrArg (fun r => R.bind r _) (evE_stuck m)

noncomputable def plainIE : IE → Bool
  | .not _ => false
  | .bop _ _ => false
  | .ite _ _ _ => false
  | .cmp _ _ => false
  | _ => true
theorem evC_plain {ie : IE} (h : plainIE ie = true) (m : Nat) : evC T (m + 1) fr ie σ = (evE T m fr ie σ).bind fun v σ => truR v σ := by
  cases ie <;> first | rfl | cases h

/-- both ways of looking at a thing -/
noncomputable def Both (X : Cx) (T : Tb) (C : SC) (L : Nat) (e : Expr) (ie : IE) : Prop := (∀ m, EOk X C L e fun fr σ => evE T m fr ie σ) ∧ ∀ m, BOk X C L e fun fr σ => evC T m fr ie σ
theorem both_stuck {e : Expr} : Both X T C L e stuckE := ⟨fun m => e_stuck fun _ _ => evE_stuck m, fun m => b_stuck fun _ _ => evC_stuck m⟩
theorem both_if {e : Expr} {b : Bool} {t : IE} (h : b = true → Both X T C L e t) : Both X T C L e (ifE b t) := by
  cases b
  · exact both_stuck
  · exact h rfl
theorem both_op {α : Type} {e : Expr} {o : Option α} {f : α → IE} (h : ∀ a, o = some a → Both X T C L e (f a)) : Both X T C L e (opE o f) := by
  cases o
  · exact both_stuck
  · exact h _ rfl
noncomputable def isNot : UnaryOp → Bool
  | .Not => true
  | _ => false
noncomputable def plainE : Expr → Bool
  | .UnaryOp op _ _ => !isNot op
  | .BoolOp .. => false
  | .IfExp .. => false
  | .Compare .. => false
  | .NamedExpr .. => false
  | _ => true
theorem isTrue_plain {e : Expr} (h : plainE e = true) : ∀ env whole, isTrue e env whole = (whole >>= fun v => standAt e.pos >>= fun _ => holding [v] (PySem.truthy v)) := by
  intro env whole
  cases e <;> first | rfl | (cases h; done) | skip
  rename_i op x pos
  cases op <;> first | rfl | cases h
theorem get_E {e : Expr} {ie : IE} (h : ∀ m, EOk X C L e fun fr σ => evE T (m + 1) fr ie σ) (m : Nat) : EOk X C L e fun fr σ => evE T m fr ie σ := by
  cases m with
  | zero => exact e_stuck fun _ _ => rfl
  | succ m => exact h m
theorem get_B {e : Expr} {ie : IE} (h : ∀ m, BOk X C L e fun fr σ => evC T (m + 1) fr ie σ) (m : Nat) : BOk X C L e fun fr σ => evC T m fr ie σ := by
  cases m with
  | zero => exact b_stuck fun _ _ => rfl
  | succ m => exact h m
theorem both_plain {e : Expr} {ie : IE} (he : plainE e = true) (hi : plainIE ie = true) (h : ∀ m, EOk X C L e fun fr σ => evE T (m + 1) fr ie σ) : Both X T C L e ie :=
  ⟨get_E h, get_B fun m => (b_plain (isTrue_plain he) (get_E h m)).congr fun fr σ => evC_plain hi m⟩

theorem findA_get {a : Str} {l : List Str} : ∀ {k i : Nat}, findA a l k = some i → k ≤ i ∧ l[i - k]? = some a := by
  induction l with
  | nil => intro k i h; cases h
  | cons x r ih =>
    intro k i h
    have h : (if (x == a) = true then some k else findA a r (k + 1)) = some i := h
    by_cases hx : (x == a) = true
    · rw [if_pos hx] at h
      cases h
      exact ⟨Nat.le_refl _, by rw [Nat.sub_self, beq_iff_eq.mp hx]; rfl⟩
    · rw [if_neg hx] at h
      obtain ⟨h1, h2⟩ := ih h
      refine ⟨Nat.le_of_succ_le h1, ?_⟩
      rw [show i - k = (i - (k + 1)) + 1 by omega]
      exact h2
theorem attr_of (O : SOk X S.toSX) {a : Str} {i : Nat} (h : findA a S.attrs 0 = some i) : X.attrs[i]? = some a := by
  rw [O.attrs]
  exact (findA_get h).2

theorem all2_map {α β : Type} {P : α → β → Prop} {g : α → β} {l : List α} (h : ∀ x, x ∈ l → P x (g x)) : All2 P l (l.map g) := by
  induction l with
  | nil => exact .nil
  | cons x l ih => exact .cons (h x List.mem_cons_self) (ih fun y hy => h y (List.mem_cons_of_mem _ hy))

theorem isGl_eq {id : Str} (h : isGl C id = true) : C.names.lookup id = some .globalImplicit := beq_iff_eq.mp h
theorem dbg_no {id : Str} (h : dbg id = false) : (id == ("__debug__" : Str)) = false ∧ (id == ("__classdict__" : Str)) = false := by
  unfold dbg at h
  exact Bool.or_eq_false_iff.mp h

theorem dbg_no' {id : Str} (h : (!dbg id) = true) : (id == ("__debug__" : Str)) = false ∧ (id == ("__classdict__" : Str)) = false := dbg_no (by rw [Bool.not_eq_true'] at h; exact h)
theorem and4 {a b : Bool} (h : (a && b) = true) : a = true ∧ b = true := Bool.and_eq_true_iff.mp h

theorem cConst_ok {c : Const} {k : Nat} {pos : Pos} : Both X T C L (.Constant c k pos) (cConst c) := by
  cases c <;> first | exact both_stuck | skip
  · exact both_plain rfl rfl fun m => e_none k pos
  · exact both_plain rfl rfl fun m => e_bool _ k pos
  · exact both_plain rfl rfl fun m => e_int _ k pos
  · exact both_plain rfl rfl fun m => e_str _ k pos
  · exact both_plain rfl rfl fun m => e_bytes _ k pos
theorem cName_ok (O : SYOk X S) {id : Str} {pos : Pos} : Both X T C L (.Name id pos) (cName S C id) := by
  refine both_if fun hd => ?_
  obtain ⟨d1, d2⟩ := dbg_no' hd
  cases hi : C.Γ.lookup id with
  | some i => exact both_plain rfl rfl fun m => e_var d1 d2 hi
  | none =>
    refine both_if fun hg => ?_
    cases hv : S.glob.lookup id with
    | none => exact both_stuck
    | some g =>
      cases g with
      | cst v => exact both_plain rfl rfl fun m => e_gcst O.base d1 (isGl_eq hg) hv
      | _ => exact both_stuck

theorem src_stuck {iter : Expr} {m : Nat} : SrcOk X C L iter okAll (srcF (evE T m) 0 [stuckE]) := fun A fs env fr ρ σ s a ns => by
  refine absurd ?_ ns
  unfold srcF
  rw [evList_one, evE_stuck]; rfl
theorem nameOf_eq {e : Expr} {id : Str} (h : nameOf e = some id) : ∃ pos, e = .Name id pos := by
  cases e <;> first | (cases h; done) | skip
  cases h
  exact ⟨_, rfl⟩
theorem callOf_eq {e : Expr} {c : Expr × List Expr × Bool} (h : callOf e = some c) : ∃ kws pos, e = .Call c.1 c.2.1 kws pos ∧ c.2.2 = kws.isEmpty := by
  cases e <;> first | (cases h; done) | skip
  cases h
  exact ⟨_, _, rfl, rfl⟩
theorem zipArgs_eq {iter : Expr} {p : Str × Expr × Expr} (h : zipArgs iter = some p) : ∃ np pos, iter = .Call (.Name p.1 np) [p.2.1, p.2.2] [] pos := by
  obtain ⟨⟨f, args, b⟩, h1, h2⟩ := Option.bind_eq_some_iff.mp h
  obtain ⟨id, h3, h4⟩ := Option.bind_eq_some_iff.mp h2
  obtain ⟨kws, pos, rfl, hk⟩ := callOf_eq h1
  obtain ⟨np, hf⟩ := nameOf_eq h3
  cases hf
  cases kws with
  | cons _ _ => cases hk; cases h4
  | nil =>
    cases hk
    rcases args with _ | ⟨x, _ | ⟨y, _ | ⟨z, r⟩⟩⟩
    all_goals first | (cases h4; done) | skip
    cases h4
    exact ⟨_, _, rfl⟩

noncomputable def kindOk (k : Nat) : Expr → Bool := if k = 2 then isTupE else okAll
theorem cSrc_ok (O : SYOk X S) {f : Expr → IE} (hf : ∀ e m, EOk X C L e fun fr σ => evE T m fr (f e) σ) (iter : Expr) (m : Nat) :
    SrcOk X C L iter (kindOk (cSrc S C f iter).1) (srcF (evE T m) (cSrc S C f iter).1 (cSrc S C f iter).2) := by
  have any : SrcOk X C L iter (kindOk ((0, [f iter]) : Nat × List IE).1) (srcF (evE T m) ((0, [f iter]) : Nat × List IE).1 ((0, [f iter]) : Nat × List IE).2) := src_any (hf iter m)
  have stk : SrcOk X C L iter (kindOk ((0, [stuckE]) : Nat × List IE).1) (srcF (evE T m) ((0, [stuckE]) : Nat × List IE).1 ((0, [stuckE]) : Nat × List IE).2) := src_stuck
  unfold cSrc
  cases hz : zipArgs iter with
  | none => exact any
  | some p =>
    dsimp only
    cases hid : (p.1 == ("zip" : Str)) with
    | false => exact any
    | true =>
      cases hc : (isGl C p.1 && S.bnames.contains p.1 && notStar p.2.1 && notStar p.2.2) with
      | false => exact stk
      | true =>
        obtain ⟨hc, h4⟩ := and4 hc
        obtain ⟨hc, h3⟩ := and4 hc
        obtain ⟨h1, h2⟩ := and4 hc
        obtain ⟨np, pos, rfl⟩ := zipArgs_eq hz
        rw [beq_iff_eq.mp hid] at h1 h2 ⊢
        exact src_zip O.base h3 h4 (isGl_eq h1) (List.contains_iff_mem.mp h2) (hf _ m) (hf _ m)
end
end Mine
end

section
set_option autoImplicit false
set_option linter.unusedVariables false
set_option maxRecDepth 100000
set_option maxHeartbeats 2000000
namespace Mine
open PySem PySem.W PyProof.Rows PySem.SeqAt

section
variable {X : Cx} {S : SY} {C C' : SC} {lvl L : Nat} {T : Tb} {A : Around} {W W1 fs : List Addr} {env : Env} {fr : Fr} {ρ ρ' : Rho} {σ σ' : St} {s s' : Shared}

theorem localIdx_ok {e : Expr} {i : Nat} (h : localIdx C e = some i) : LocalAt C e i := by
  obtain ⟨id, h1, h2⟩ := Option.bind_eq_some_iff.mp h
  obtain ⟨pos, rfl⟩ := nameOf_eq h1
  cases hk : (C.names.lookup id == some .local) with
  | false => rw [hk] at h2; cases h2
  | true => rw [hk] at h2; exact ⟨id, pos, rfl, lookup_mem h2, beq_iff_eq.mp hk⟩
theorem localIdxs_ok {es : List Expr} : ∀ {is : List Nat}, localIdxs C es = some is → All2 (LocalAt C) es is := by
  induction es with
  | nil => intro is h; cases h; exact .nil
  | cons e r ih =>
    intro is h
    obtain ⟨i, hi, h⟩ := Option.bind_eq_some_iff.mp h
    obtain ⟨is', his, h⟩ := Option.map_eq_some_iff.mp h
    cases h
    exact .cons (localIdx_ok hi) (ih his)
theorem cTgt_ok {t : Expr} {tgt : List Nat} {isTup : Bool} (h : cTgt C t = some (tgt, isTup)) : TgtOk C t tgt isTup := by
  have one : (localIdx C t).map (fun i => ([i], false)) = some (tgt, isTup) → TgtOk C t tgt isTup := fun h => by
    obtain ⟨i, hi, he⟩ := Option.map_eq_some_iff.mp h
    cases he
    exact .inl ⟨rfl, i, rfl, localIdx_ok hi⟩
  cases t with
  | Tuple es k pos =>
    obtain ⟨l, hl, he⟩ := Option.map_eq_some_iff.mp h
    cases he
    exact .inr ⟨rfl, _, _, _, rfl, localIdxs_ok hl⟩
  | _ => exact one h

theorem injΓ_ok {Γ : List (Str × Nat)} (h : injΓ Γ = true) : (∀ n n' i, (n, i) ∈ Γ → (n', i) ∈ Γ → n = n') ∧ ∀ n i i', (n, i) ∈ Γ → (n, i') ∈ Γ → i = i' := by
  unfold injΓ at h
  rw [List.all_eq_true] at h
  refine ⟨fun n n' i a b => ?_, fun n i i' a b => ?_⟩
  · have := List.all_eq_true.mp (h _ a) _ b
    simp only [beq_self_eq_true, beq_iff_eq] at this
    exact this
  · have := List.all_eq_true.mp (h _ a) _ b
    simp only [beq_self_eq_true] at this
    have := beq_iff_eq.mp this
    exact (beq_iff_eq.mp this.symm)
theorem free_ok {scope : Scope} (h : scope.names.all (fun y => y.2 != .free || ((C.names.lookup y.1 == some .cell || C.names.lookup y.1 == some .free) && (C.Γ.lookup y.1).isSome)) = true) :
    ∀ n, (n, NameKind.free) ∈ scope.names → (C.names.lookup n = some .cell ∨ C.names.lookup n = some .free) ∧ ∃ i, (n, i) ∈ C.Γ := fun n hn => by
  have := List.all_eq_true.mp h _ hn
  simp only [bne_self_eq_false, Bool.false_or, Bool.and_eq_true, Bool.or_eq_true, beq_iff_eq] at this
  obtain ⟨i, hi⟩ := Option.isSome_iff_exists.mp this.2
  exact ⟨this.1, i, lookup_mem hi⟩
theorem nocell_ok {scope : Scope} (h : scope.names.all (fun y => y.2 != .cell) = true) : ∀ y ∈ scope.names, y.2 ≠ .cell := fun y hy => by
  simpa using List.all_eq_true.mp h y hy
theorem compOk_ok {scope : Scope} (h : compOk C scope = true) : CompC C scope (cInner C scope) := by
  unfold compOk at h
  simp only [Bool.and_eq_true] at h
  obtain ⟨⟨⟨⟨⟨h1, h2⟩, h3⟩, h4⟩, h5⟩, h6⟩ := h
  obtain ⟨j1, j2⟩ := injΓ_ok h6
  refine ⟨rfl, beq_iff_eq.mp h1, nocell_ok h2, fun y hy e => ?_, rfl, free_ok h4, fun n i hi => ?_, j1, j2⟩
  · have := List.all_eq_true.mp h3 y hy
    simpa [e] using this
  · have := List.all_eq_true.mp h5 _ hi
    simp only [Bool.or_eq_true, Bool.and_eq_true, beq_iff_eq, decide_eq_true_eq] at this
    rcases this with q | ⟨⟨q1, q2⟩, q3⟩
    · exact .inl q
    · exact .inr ⟨List.contains_iff_mem.mp q1, List.contains_iff_mem.mp q2, q3⟩
theorem lamOk_ok {scope : Scope} (h : lamOk C scope = true) : LamC C scope (cLam C scope) := by
  unfold lamOk at h
  simp only [Bool.and_eq_true, Bool.not_eq_true'] at h
  obtain ⟨⟨⟨⟨⟨⟨h1, h2⟩, h3⟩, h4⟩, h5⟩, h6⟩, h7⟩ := h
  obtain ⟨j1, j2⟩ := injΓ_ok h7
  refine ⟨beq_iff_eq.mp h1, h2, h3, nocell_ok h4, rfl, rfl, free_ok h5, fun n i hi => ?_, j1, j2⟩
  have := List.all_eq_true.mp h6 _ hi
  simp only [Bool.and_eq_true, beq_iff_eq] at this
  exact ⟨List.contains_iff_mem.mp this.1.1, List.contains_iff_mem.mp this.1.2, this.2⟩

theorem cKeys_ok {ks : List (Option Expr)} : ∀ {vs : List Expr} {kvs : List (Expr × Expr)}, cKeys ks vs = some kvs → ks = kvs.map (fun e => some e.1) ∧ vs = kvs.map (·.2) := by
  induction ks with
  | nil =>
    intro vs kvs h
    cases vs with
    | nil => cases h; exact ⟨rfl, rfl⟩
    | cons _ _ => cases h
  | cons k ks ih =>
    intro vs kvs h
    obtain ⟨k, rfl, h1⟩ := Option.bind_eq_some_iff.mp h
    obtain ⟨v, hv, h2⟩ := Option.bind_eq_some_iff.mp h1
    obtain ⟨r, hr, he⟩ := Option.map_eq_some_iff.mp h2
    cases he
    cases vs with
    | nil => cases hv
    | cons w vs =>
      cases hv
      obtain ⟨e1, e2⟩ := ih hr
      exact ⟨congrArg (List.cons (some k)) e1, congrArg (List.cons _) e2⟩

theorem all_mem {α : Type} {p : α → Bool} {l : List α} (h : l.all p = true) : ∀ e, e ∈ l → p e = true := fun e he => List.all_eq_true.mp h e he

theorem isiArgs_eq {args : List Expr} {p : Expr × Str} (h : isiArgs args = some p) : ∃ tp, args = [p.1, .Name p.2 tp] := by
  rcases args with _ | ⟨a, _ | ⟨b, _ | ⟨c, r⟩⟩⟩
  all_goals first | (cases h; done) | skip
  obtain ⟨tn, h1, h⟩ := Option.map_eq_some_iff.mp h
  cases h
  obtain ⟨pos, rfl⟩ := nameOf_eq h1
  exact ⟨pos, rfl⟩
theorem cCall_ok (O : SYOk X S) (B : TbOk X L T) {f : Expr → IE} (hf : ∀ e m, EOk X C L e fun fr σ => evE T m fr (f e) σ) {id : Str} {np pos : Pos} {args : List Expr} : Both X T C L (.Call (.Name id np) args [] pos) (cCall S C id args f) := by
  refine both_if fun h0 => ?_
  obtain ⟨h0, hg⟩ := and4 h0
  obtain ⟨hs, hd⟩ := and4 h0
  have hs := all_mem hs
  have hd := (dbg_no' hd).1
  have hg := isGl_eq hg
  have ha : ∀ m, All2 (fun e ie => EOk X C L e fun fr σ => evE T m fr ie σ) args (args.map f) := fun m => all2_map fun e _ => hf e m
  cases hid : (id == ("isinstance" : Str)) with
  | true =>
    cases beq_iff_eq.mp hid
    refine both_op fun p hp => both_op fun b hb => both_if fun hc => ?_
    obtain ⟨tp, rfl⟩ := isiArgs_eq hp
    obtain ⟨hc, h3⟩ := and4 hc
    obtain ⟨h1, h2⟩ := and4 hc
    exact both_plain rfl rfl fun m => e_isi O.base (hs _ List.mem_cons_self) hb hg (List.contains_iff_mem.mp h1) (isGl_eq h2) (List.contains_iff_mem.mp h3) (hf _ m)
  | false =>
    show Both X T C L _ (cGCall S id args f (S.glob.lookup id))
    cases hk : S.glob.lookup id with
    | none => exact both_op fun b hb => both_if fun hc => both_plain rfl rfl fun m => e_blt O.base hs hb hg (List.contains_iff_mem.mp hc) (ha m)
    | some g =>
      cases g with
      | fn k => exact both_plain rfl rfl fun m => e_call O.base B hs hd hg hk (ha m)
      | cls c => exact both_plain rfl rfl fun m => e_new O.base B hs hd hg hk (ha m)
      | cst _ => exact both_stuck
theorem cMeth_ok (O : SYOk X S) (B : TbOk X L T) {f : Expr → IE} (hf : ∀ e m, EOk X C L e fun fr σ => evE T m fr (f e) σ) {o : Expr} {mn : Str} {apos pos : Pos} {args : List Expr} : Both X T C L (.Call (.Attribute o mn apos) args [] pos) (cMeth S o mn apos pos args f) := by
  refine both_if fun h0 => ?_
  obtain ⟨h0, hline⟩ := and4 h0
  obtain ⟨h0, hl⟩ := and4 h0
  obtain ⟨hs, hb⟩ := and4 h0
  have hl := of_decide_eq_true hl
  have hs := all_mem hs
  have ha : ∀ m, All2 (fun e ie => EOk X C L e fun fr σ => evE T m fr ie σ) args (args.map f) := fun m => all2_map fun e _ => hf e m
  cases hk : miTable.lookup mn with
  | some k => exact both_plain rfl rfl fun m => e_meth hs hb hl hline hk (hf o m) (ha m)
  | none => exact both_op fun k hk => both_plain rfl rfl fun m => e_umeth B hs hb hl hline (attr_of O.base hk) (hf o m) (ha m)
end
end Mine
end

section
set_option autoImplicit false
set_option linter.unusedVariables false
set_option maxRecDepth 100000
set_option maxHeartbeats 4000000
namespace Mine
open PySem PySem.W PyProof.Rows PySem.SeqAt

noncomputable def LL (lvl : Nat) (lam : Bool) : Nat := if lam then lvl + 2 else lvl
theorem LL_le {lvl : Nat} {lam : Bool} : lvl ≤ LL lvl lam := by
  cases lam
  · exact Nat.le_refl _
  · exact Nat.le_add_right _ _

section
variable {X : Cx} {S : SY} {C C' : SC} {lvl L : Nat} {T : Tb} {A : Around} {W W1 fs : List Addr} {env : Env} {fr : Fr} {ρ ρ' : Rho} {σ σ' : St} {s s' : Shared} {f : Expr → IE} {f0 : SC → Expr → IE}

theorem sliceOf_eq {i : Expr} {p : Option Expr × Option Expr × Option Expr} (h : sliceOf i = some p) : ∃ q, i = .Slice p.1 p.2.1 p.2.2 q := by
  cases i <;> first | (cases h; done) | skip
  cases h
  exact ⟨_, rfl⟩
theorem sliceOf_no {i : Expr} (h : sliceOf i = none) : isSlice i = false := by
  cases i <;> first | rfl | cases h
theorem cSub_ok {o i : Expr} {pos : Pos} (hE : ∀ e m, EOk X C L e fun fr σ => evE T m fr (f e) σ) : Both X T C L (.Subscript o i pos) (cSubS f o i (sliceOf i)) := by
  cases h : sliceOf i with
  | none => exact both_plain rfl rfl fun m => e_sub (sliceOf_no h) (hE o m) (hE i m)
  | some p =>
    obtain ⟨lo, up, st⟩ := p
    obtain ⟨q, rfl⟩ := sliceOf_eq h
    cases st with
    | some st => exact both_stuck
    | none =>
      refine both_plain rfl rfl fun m => e_slice (ev := fun fr ie σ => evE T m fr ie σ) (ilo := lo.map f) (ihi := up.map f) (hE o m) ?_ ?_
      · cases lo with
        | none => trivial
        | some e => exact hE e m
      · cases up with
        | none => trivial
        | some e => exact hE e m
theorem genOf_eq {gens : List Comprehension} {p : Expr × Expr × List Expr} (h : genOf gens = some p) : gens = [⟨p.1, p.2.1, p.2.2, 0⟩] := by
  rcases gens with _ | ⟨g, _ | ⟨g', r⟩⟩
  all_goals first | (cases h; done) | skip
  obtain ⟨t, i, l, a⟩ := g
  have h : cond (a == 0) (some (t, i, l)) none = some p := h
  cases ha : (a == 0) with
  | false => rw [ha] at h; cases h
  | true => rw [ha] at h; cases h; rw [beq_iff_eq.mp ha]
theorem kindOk_of {k : Nat} {t : Expr} (h : (k != 2 || isTupE t) = true) : kindOk k t = true := by
  unfold kindOk
  by_cases hk : k = 2
  · rw [if_pos hk]
    rcases Bool.or_eq_true_iff.mp h with q | q
    · exact absurd hk (bne_iff_ne.mp q)
    · exact q
  · rw [if_neg hk]; rfl
theorem lamArg_eq {args : List Expr} {p : Expr × Scope × Pos} (h : lamArg args = some p) : args = [.Lambda ⟨[], [], none, [], [], none, []⟩ p.1 p.2.1 p.2.2] := by
  rcases args with _ | ⟨a, _ | ⟨b, r⟩⟩
  all_goals first | (cases h; done) | skip
  cases a <;> first | (cases h; done) | skip
  rename_i q body scope lpos
  obtain ⟨a1, a2, a3, a4, a5, a6, a7⟩ := q
  cases a1 <;> first | (cases h; done) | skip
  cases a2 <;> first | (cases h; done) | skip
  cases a3 <;> first | (cases h; done) | skip
  cases a4 <;> first | (cases h; done) | skip
  cases a5 <;> first | (cases h; done) | skip
  cases a6 <;> first | (cases h; done) | skip
  cases a7 <;> first | (cases h; done) | skip
  cases h
  rfl
theorem fnOf_eq {o : Option GV} {k : Nat} (h : o.bind fnOf = some k) : o = some (.fn k) := by
  obtain ⟨g, rfl, h⟩ := Option.bind_eq_some_iff.mp h
  cases g <;> first | (cases h; done) | skip
  cases h; rfl
theorem cFn_ok (O : SYOk X S) {lam : Bool} (B : TbOk X (LL lvl lam) T) (hE : ∀ e m, EOk X C (LL lvl lam) e fun fr σ => evE T m fr (f e) σ) (h0 : ∀ C e m, EOk X C lvl e fun fr σ => evE T m fr (f0 C e) σ) {fe : Expr} {args : List Expr} {pos : Pos} : Both X T C (LL lvl lam) (.Call fe args [] pos) (cFn S C lam f f0 fe args pos) := by
  cases fe with
  | Attribute o mn apos => exact cMeth_ok O B hE
  | Name id np =>
    show Both X T C _ _ (cLm S C lam f f0 id args (lamArg args))
    cases hl : lamArg args with
    | none => exact cCall_ok O B hE
    | some p =>
      refine both_if fun hc => both_op fun l hl1 => both_op fun c0 hc0 => both_op fun k hk => both_if fun hq => ?_
      obtain ⟨hc, hlo⟩ := and4 hc
      obtain ⟨hc, hg⟩ := and4 hc
      obtain ⟨hlam, hd⟩ := and4 hc
      obtain ⟨hka, hcode⟩ := and4 hq
      subst hlam
      obtain ⟨ka, c⟩ := l
      cases beq_iff_eq.mp hka
      obtain ⟨LF, EF⟩ := O.letf _ _ hl1
      cases lamArg_eq hl
      exact both_plain rfl rfl fun m => e_isLet (lvl := lvl) O.base O.lim (by rw [Bool.not_eq_true'] at hd; exact hd) (isGl_eq hg) (fnOf_eq hk) LF EF (O.tab _ hc0) (beq_iff_eq.mp hcode) (lamOk_ok hlo) (h0 (cLam C p.2.1) p.1 m)
  | _ => exact both_stuck

theorem cE_ok (O : SYOk X S) (B : TbOk X lvl T) : ∀ n lam C e, Both X T C (LL lvl lam) e (cE S n lam C e) := by
  have B' : ∀ lam, TbOk X (LL lvl lam) T := fun lam => B.mono LL_le
  intro n
  induction n with
  | zero => intro lam C e; exact both_stuck
  | succ n ih =>
    intro lam C e
    have ihE : ∀ C e m, EOk X C (LL lvl lam) e fun fr σ => evE T m fr (cE S n lam C e) σ := fun C e m => (ih lam C e).1 m
    have ihB : ∀ C e m, BOk X C (LL lvl lam) e fun fr σ => evC T m fr (cE S n lam C e) σ := fun C e m => (ih lam C e).2 m
    have all : ∀ C (es : List Expr) m, All2 (fun e ie => EOk X C (LL lvl lam) e fun fr σ => evE T m fr ie σ) es (es.map (cE S n lam C)) := fun C es m => all2_map fun e _ => ihE C e m
    have allB : ∀ C (es : List Expr) m, All2 (fun e ie => BOk X C (LL lvl lam) e fun fr σ => evC T m fr ie σ) es (es.map (cE S n lam C)) := fun C es m => all2_map fun e _ => ihB C e m
    cases e with
    | Constant c k pos => exact cConst_ok
    | Name id pos => exact cName_ok O
    | UnaryOp op x pos =>
      cases op with
      | Not =>
        show Both X T C _ _ (.not (cE S n lam C x))
        exact ⟨get_E fun m => e_not (ihE C x m), get_B fun m => b_not (ihB C x m)⟩
      | USub =>
        show Both X T C _ _ (.neg (cE S n lam C x))
        exact both_plain rfl rfl fun m => e_neg (ihE C x m)
      | _ => exact both_stuck
    | BoolOp op es pos =>
      show Both X T C _ _ (.bop (op == .And) (es.map (cE S n lam C)))
      exact ⟨get_E fun m => e_bop (ev := fun fr ie σ => evE T m fr ie σ) (all C es m), get_B fun m => b_bop (ec := fun fr ie σ => evC T m fr ie σ) (allB C es m)⟩
    | IfExp c t e pos =>
      show Both X T C _ _ (.ite (cE S n lam C c) (cE S n lam C t) (cE S n lam C e))
      exact ⟨get_E fun m => e_ite (ihB C c m) (ihE C t m) (ihE C e m), get_B fun m => b_ite (ihB C c m) (ihB C t m) (ihB C e m)⟩
    | BinOp l op r pos =>
      show Both X T C _ _ (.bin op (cE S n lam C l) (cE S n lam C r))
      exact both_plain rfl rfl fun m => e_bin (ihE C l m) (ihE C r m)
    | Compare l ops cs pos =>
      show Both X T C _ _ (ifE (ops.length == cs.length && cs.all notSet) (.cmp (cE S n lam C l) (ops.zip (cs.map (cE S n lam C)))))
      refine both_if fun h => ?_
      obtain ⟨h1, h2⟩ := and4 h
      exact ⟨get_E fun m => e_cmp (ev := fun fr ie σ => evE T m fr ie σ) (beq_iff_eq.mp h1) (all_mem h2) (ihE C l m) (all C cs m), get_B fun m => b_cmp (ev := fun fr ie σ => evE T m fr ie σ) (beq_iff_eq.mp h1) (all_mem h2) (ihE C l m) (all C cs m)⟩
    | List es pos =>
      show Both X T C _ _ (ifE (es.all notStar) (.list (es.map (cE S n lam C))))
      exact both_if fun h => both_plain rfl rfl fun m => e_list (ev := fun fr ie σ => evE T m fr ie σ) (all_mem h) (all C es m)
    | Tuple es k pos =>
      show Both X T C _ _ (ifE (es.all notStar) (.tup (es.map (cE S n lam C))))
      exact both_if fun h => both_plain rfl rfl fun m => e_tup (ev := fun fr ie σ => evE T m fr ie σ) (all_mem h) (all C es m)
    | Dict ks vs pos =>
      show Both X T C _ _ (opE (cKeys ks vs) fun kvs => ifE (!kvs.isEmpty && decide (kvs.length ≤ 15)) (.dict (kvs.map fun p => (cE S n lam C p.1, cE S n lam C p.2))))
      refine both_op fun kvs hk => both_if fun hl => ?_
      obtain ⟨rfl, rfl⟩ := cKeys_ok hk
      cases kvs with
      | nil => cases hl
      | cons p r =>
        have hl := of_decide_eq_true (and4 hl).2
        refine both_plain rfl rfl fun m => ?_
        refine (e_dict (ev := fun fr ie σ => evE T m fr ie σ) (kvs := p :: r) (ikvs := (p :: r).map fun p => (cE S n lam C p.1, cE S n lam C p.2)) (fun q => by cases q) hl (all2_map fun p _ => ⟨ihE C p.1 m, ihE C p.2 m⟩)).congr fun fr σ => ?_
        exact if_pos (by rw [List.length_map]; exact hl)
    | Attribute o a pos =>
      show Both X T C _ _ (opE (findA a S.attrs 0) fun i => ifE (notSuper o) (.attr (cE S n lam C o) i))
      exact both_op fun i hi => both_if fun hs => both_plain rfl rfl fun m => e_attr (attr_of O.base hi) hs (ihE C o m)
    | Subscript o i pos =>
      show Both X T C _ _ (cSubS (cE S n lam C) o i (sliceOf i))
      exact cSub_ok (ihE C)
    | ListComp elt gens scope pos =>
      show Both X T C _ _ (opE (genOf gens) fun p => cComp S C (cE S n lam) elt scope p)
      refine both_op fun p hp => both_if fun h0 => both_op fun q hq => both_if fun hz => ?_
      cases genOf_eq hp
      obtain ⟨hs, hc⟩ := and4 h0
      exact both_plain rfl rfl fun m => e_lcomp hs (cSrc_ok O (ihE C) p.2.1 m) (kindOk_of hz) (cTgt_ok hq) (allB _ p.2.2 m) (ihE _ elt m) (compOk_ok hc)
    | Call fe args kws pos =>
      show Both X T C _ _ (ifE kws.isEmpty (cFn S C lam (cE S n lam C) (cE S n false) fe args pos))
      refine both_if fun hk => ?_
      cases kws with
      | cons _ _ => cases hk
      | nil => exact cFn_ok O (B' lam) (ihE C) fun C e m => (ih false C e).1 m
    | _ => exact both_stuck
end
end Mine
end

section
set_option autoImplicit false
set_option linter.unusedVariables false
set_option maxRecDepth 100000
set_option maxHeartbeats 4000000
namespace Mine
open PySem PySem.W PyProof.Rows PySem.SeqAt

noncomputable def stuckT : IT := .attr stuckE 0
noncomputable def stuckS : IS := .expr stuckE
noncomputable def ifT (b : Bool) (t : IT) : IT := cond b t stuckT
noncomputable def opT {α : Type} (o : Option α) (f : α → IT) : IT := o.elim stuckT f
noncomputable def ifS (b : Bool) (t : IS) : IS := cond b t stuckS
noncomputable def opS {α : Type} (o : Option α) (f : α → IS) : IS := o.elim stuckS f
noncomputable def cT (C : SC) (f : Expr → IE) (S : SY) : Nat → Expr → IT
  | 0, _ => stuckT
  | k + 1, t => match t with
    | .Name id _ => opT (C.Γ.lookup id) fun i => ifT (C.names.lookup id != some .free) (.name i)
    | .Tuple ts _ _ => ifT (ts.all notStar) (.tup (ts.map (cT C f S k)))
    | .Attribute o a _ => opT (findA a S.attrs 0) fun i => .attr (f o) i
    | .Subscript o i _ => .sub (f o) (f i)
    | _ => stuckT
noncomputable def nmOf : Expr → Option (Str × Pos)
  | .Name id p => some (id, p)
  | _ => none
noncomputable def lcOf : Expr → Option (Scope × Pos)
  | .ListComp _ _ s p => some (s, p)
  | _ => none
noncomputable def cAsg (C : SC) (f : Expr → IE) (S : SY) (t v : Expr) : IS :=
  cond (isComp v) (opS (nmOf t) fun p => opS (lcOf v) fun q => ifS (C.names.lookup p.1 == some .local && compName p.1 p.2 q.2 q.1) (opS (C.Γ.lookup p.1) fun i => .asg (.name i) (f v)))
    (ifS (noSwap t v && notStar t) (.asg (cT C f S 3 t) (f v)))
noncomputable def clsOf : GV → Option Nat
  | .cls c => some c
  | _ => none
noncomputable def excOf (S : SY) (C : SC) (id : Str) : Option Nat := cond (!dbg id && isGl C id) (((S.glob.lookup id).bind clsOf).bind fun c => cond (S.excs.contains c) (some c) none) none
noncomputable def isStrK : Const → Bool
  | .str _ => true
  | _ => false
noncomputable def isStrC : Expr → Bool
  | .Constant c _ _ => isStrK c
  | _ => false
noncomputable def strArg : List Expr → Bool
  | [a] => isStrC a
  | _ => false
noncomputable def raiseOf (exc cause : Option Expr) : Option Str := cond cause.isNone (exc.bind fun e => (callOf e).bind fun c => cond (c.2.2 && strArg c.2.1) (nameOf c.1) none) none
noncomputable def oneOf : List Expr → Option Expr
  | [t] => some t
  | _ => none
noncomputable def cRet (f : Expr → IE) : Option Expr → IE
  | some e => f e
  | none => .cst .none

noncomputable def cS (S : SY) (n : Nat) (lam : Bool) (C : SC) : Nat → Stmt → IS
  | 0, _ => stuckS
  | k + 1, st => match st with
    | .Expr e _ => ifS (!isComp e) (.expr (cE S n lam C e))
    | .Return v _ => .ret (cRet (cE S n lam C) v)
    | .If c a b _ => .ife (cE S n lam C c) (a.map (cS S n lam C k)) (b.map (cS S n lam C k))
    | .For t it b e _ => ifS (e.isEmpty && notSet it && ((cSrc S C (cE S n lam C) it).1 != 2 || isTupE t)) (.forr (cT C (cE S n lam C) S 3 t) (cSrc S C (cE S n lam C) it).1 (cSrc S C (cE S n lam C) it).2 (b.map (cS S n lam C k)))
    | .Assign ts v _ => opS (oneOf ts) fun t => cAsg C (cE S n lam C) S t v
    | .Raise exc cause _ => opS (raiseOf exc cause) fun id => opS (excOf S C id) fun c => .raise c
    | _ => stuckS

section
variable {X : Cx} {S : SY} {C C' : SC} {lvl L n : Nat} {T : Tb} {A : Around} {W W1 fs : List Addr} {env : Env} {fr : Fr} {ρ ρ' : Rho} {σ σ' : St} {s s' : Shared} {f : Expr → IE}

theorem Ok.le {α β : Type} {rel : Heap → Rho → α → β → Prop} {t : Sem β} {r r' : R α} (h : Ok X A W fs ρ s rel t r) (q : r' ≠ .stuck → r' = r) : Ok X A W fs ρ s rel t r' := fun ns => by
  have := q ns
  subst this
  exact h ns
theorem SOkS.le {st : Stmt} {f g : Fr → St → R Fl} (h : SOkS X C L st f) (q : ∀ fr σ, g fr σ ≠ .stuck → g fr σ = f fr σ) : SOkS X C L st g := fun A fs env fr ρ σ s a t => (h A fs env fr ρ σ s a t).le (q fr σ)
theorem SOkS.congr {st : Stmt} {f g : Fr → St → R Fl} (h : SOkS X C L st f) (q : ∀ fr σ, g fr σ = f fr σ) : SOkS X C L st g := h.le fun fr σ _ => q fr σ
theorem TOk.congr {t : Expr} {f g : Fr → PV → St → R Fr} (h : TOk X C L t f) (q : ∀ fr v σ, g fr v σ = f fr v σ) : TOk X C L t g := fun A fs env fr ρ σ s v u a r => by rw [q]; exact h A fs env fr ρ σ s v u a r
theorem t_stuck {t : Expr} {f : Fr → PV → St → R Fr} (h : ∀ fr v σ, f fr v σ = .stuck) : TOk X C L t f := fun A fs env fr ρ σ s v u a r => by rw [h]; exact .stuck
theorem s_stuck {t : Stmt} {f : Fr → St → R Fl} (h : ∀ fr σ, f fr σ = .stuck) : SOkS X C L t f := fun A fs env fr ρ σ s a tp => by rw [h]; exact .stuck
theorem evT_stuck {v : PV} (m : Nat) : evT T m fr stuckT v σ = .stuck := by
  cases m with
  | zero => rfl
  | succ m => exact congrArg (fun r => R.bind r _) (evE_stuck m)
theorem evS_stuck (m : Nat) : evS T m fr stuckS σ = .stuck := by
  cases m with
  | zero => rfl
  | succ m => exact congrArg (fun r => R.bind r _) (evE_stuck m)
theorem t_get {t : Expr} {it : IT} (h : ∀ m, TOk X C L t fun fr v σ => evT T (m + 1) fr it v σ) (m : Nat) : TOk X C L t fun fr v σ => evT T m fr it v σ := by
  cases m with
  | zero => exact t_stuck fun _ _ _ => rfl
  | succ m => exact h m
theorem s_get {t : Stmt} {it : IS} (h : ∀ m, SOkS X C L t fun fr σ => evS T (m + 1) fr it σ) (m : Nat) : SOkS X C L t fun fr σ => evS T m fr it σ := by
  cases m with
  | zero => exact s_stuck fun _ _ => rfl
  | succ m => exact h m
noncomputable def AllT (X : Cx) (T : Tb) (C : SC) (L : Nat) (t : Expr) (it : IT) : Prop := ∀ m, TOk X C L t fun fr v σ => evT T m fr it v σ
noncomputable def AllS (X : Cx) (T : Tb) (C : SC) (L : Nat) (t : Stmt) (it : IS) : Prop := ∀ m, SOkS X C L t fun fr σ => evS T m fr it σ
theorem t_stk {t : Expr} : AllT X T C L t stuckT := fun m => t_stuck fun _ _ _ => evT_stuck m
theorem s_stk {t : Stmt} : AllS X T C L t stuckS := fun m => s_stuck fun _ _ => evS_stuck m
theorem t_if {t : Expr} {b : Bool} {it : IT} (h : b = true → AllT X T C L t it) : AllT X T C L t (ifT b it) := by
  cases b
  · exact t_stk
  · exact h rfl
theorem t_op {α : Type} {t : Expr} {o : Option α} {g : α → IT} (h : ∀ a, o = some a → AllT X T C L t (g a)) : AllT X T C L t (opT o g) := by
  cases o
  · exact t_stk
  · exact h _ rfl
theorem st_if {t : Stmt} {b : Bool} {it : IS} (h : b = true → AllS X T C L t it) : AllS X T C L t (ifS b it) := by
  cases b
  · exact s_stk
  · exact h rfl
theorem st_op {α : Type} {t : Stmt} {o : Option α} {g : α → IS} (h : ∀ a, o = some a → AllS X T C L t (g a)) : AllS X T C L t (opS o g) := by
  cases o
  · exact s_stk
  · exact h _ rfl

theorem ts_ok {ts : List Expr} {its : List IT} (hs : All2 (AllT X T C L) ts its) : ∀ m {A fs env fr ρ σ s vs us}, ts.length = vs.length → At X C L A fs env fr ρ σ s → VReps s.heap ρ vs us →
      Ok X A (frameAddrs env) fs ρ s (TRel X C env) (assignInOrder (ts.map fun e => assign e env) us) (evTs T m fr its vs σ) := by
  induction hs with
  | nil =>
    intro m A fs env fr ρ σ s vs us hl a r
    cases m with
    | zero => exact .stuck
    | succ m =>
      cases r with
      | nil => exact Ok.ret a.I a.F
      | cons => cases hl
  | cons q qs ih =>
    intro m A fs env fr ρ σ s vs us hl a r
    cases m with
    | zero => exact .stuck
    | succ m =>
      cases r with
      | nil => cases hl
      | cons r rs =>
        refine Ok.bind (Ok.holding (q m _ _ _ _ _ _ _ _ _ a r)) fun fr' σ' ρ' _ s' _ _ I' F' T' => ?_
        exact ih m (Nat.succ.inj hl) (a.nextW I' F' T') (rs.step T' a.noSeq)
theorem t_tup {ts : List Expr} {its : List IT} {k : Nat} {pos : Pos} (hs : ∀ e, e ∈ ts → notStar e = true) (h : All2 (AllT X T C L) ts its) (m : Nat) : TOk X C L (.Tuple ts k pos) fun fr v σ => evT T (m + 1) fr (.tup its) v σ := fun A fs env fr ρ σ s v u a r => by
  show Ok X A _ fs ρ s _ _ (match itemsOf σ v with
        | some vs => if its.length = vs.length then evTs T m fr its vs σ else .stuck
        | .none => .stuck)
  cases hv : itemsOf σ v with
  | none => exact .stuck
  | some vs =>
    refine .guard fun hl => ?_
    rw [arm_assign_Tuple, assignEach_of ts env hs]
    refine Ok.standAt ?_
    unfold unpack
    rw [no_star, List.map_map, List.length_map, h.length, hl]
    intro ns
    refine wpAny_bind (wpAny_holding (unpackItems_ok a.ar.hd a.I r hv fun us h' hu I' T rr => ?_))
    have T0 := T [] fs
    have a' : At X C L A fs env fr ρ σ { s with heap := h' } := a.next I' T0
    exact wpAny_mono (ts_ok h m (by rw [h.length, hl]) a' rr ns) (fun _ _ p => p.from ⟨h', s.toks, rfl⟩ (T _ _)) fun _ _ p => p.from ⟨h', s.toks, rfl⟩ (T _ _)

theorem cT_ok (O : SYOk X S) (hf : ∀ e m, EOk X C L e fun fr σ => evE T m fr (f e) σ) : ∀ k t, AllT X T C L t (cT C f S k t) := by
  intro k
  induction k with
  | zero => intro t; exact t_stk
  | succ k ih =>
    intro t
    cases t with
    | Name id pos =>
      show AllT X T C L _ (opT (C.Γ.lookup id) fun i => ifT (C.names.lookup id != some .free) (.name i))
      exact t_op fun i hi => t_if fun hn => t_get fun m => t_name hi (bne_iff_ne.mp hn)
    | Tuple ts k' pos =>
      show AllT X T C L _ (ifT (ts.all notStar) (.tup (ts.map (cT C f S k))))
      exact t_if fun h => t_get fun m => t_tup (all_mem h) (all2_map fun e _ => ih e) m
    | Attribute o a pos =>
      show AllT X T C L _ (opT (findA a S.attrs 0) fun i => .attr (f o) i)
      exact t_op fun i hi => t_get fun m => t_attr (attr_of O.base hi) (hf o m)
    | Subscript o i pos =>
      show AllT X T C L _ (.sub (f o) (f i))
      exact t_get fun m => t_sub (hf o m) (hf i m)
    | _ => exact t_stk
end
end Mine
end

section
set_option autoImplicit false
set_option linter.unusedVariables false
set_option maxRecDepth 100000
set_option maxHeartbeats 4000000
namespace Mine
open PySem PySem.W PyProof.Rows PySem.SeqAt

section
variable {X : Cx} {S : SY} {C C' : SC} {lvl L n : Nat} {T : Tb} {A : Around} {W W1 fs : List Addr} {env : Env} {fr : Fr} {ρ ρ' : Rho} {σ σ' : St} {s s' : Shared} {f : Expr → IE}

/-- a comprehension's value given to a name -/
theorem s_compName {t v : Expr} {pos : Pos} {i : Nat} {ie : IE} (h : ∀ m, SOkS X C L (.Assign [t] v pos) fun fr σ => (evE T m fr ie σ).bind fun v σ => (if i < fr.length then .ok (fr.set i (some v)) σ else .stuck : R Fr).bind fun fr σ => .ok (.next fr) σ) :
    AllS X T C L (.Assign [t] v pos) (.asg (.name i) ie) := s_get fun m => (h m).le fun fr σ ns => by
  cases m <;> rfl

theorem s_asgPlain {t v : Expr} {pos : Pos} {ie : IE} {it : IT} (hs : ∀ env, env.scope.kind = .function → env.scope.names = C.names → swapsWith v (some t) pos.line env = pure false) (hw : ∀ env, env.scope.kind = .function → env.scope.names = C.names → swappedStores [t] v env = pure none) (hn : notStar t = true)
    (h : ∀ m, EOk X C L v fun fr σ => evE T m fr ie σ) (ht : AllT X T C L t it) : AllS X T C L (.Assign [t] v pos) (.asg it ie) :=
  s_get fun m => s_asg hs hw hn (h m) (ht m)
theorem nmOf_eq {e : Expr} {p : Str × Pos} (h : nmOf e = some p) : e = .Name p.1 p.2 := by
  cases e <;> first | (cases h; done) | skip
  cases h
  rfl
theorem lcOf_eq {e : Expr} {p : Scope × Pos} (h : lcOf e = some p) : ∃ elt gens, e = .ListComp elt gens p.1 p.2 := by
  cases e <;> first | (cases h; done) | skip
  cases h
  exact ⟨_, _, rfl⟩
theorem gone {t v : Expr} {pos : Pos} {i m : Nat} {ie : IE} (q : ie = stuckE) : SOkS X C L (.Assign [t] v pos) fun fr σ => (evE T m fr ie σ).bind fun v σ => (if i < fr.length then .ok (fr.set i (some v)) σ else .stuck : R Fr).bind fun fr σ => .ok (.next fr) σ := s_stuck fun fr σ => by rw [q, evE_stuck]; rfl

theorem cAsg_ok (O : SYOk X S) (B : TbOk X lvl T) (lam : Bool) {t v : Expr} {pos : Pos} : AllS X T C (LL lvl lam) (.Assign [t] v pos) (cAsg C (cE S n lam C) S t v) := by
  have hE : ∀ n C e m, EOk X C (LL lvl lam) e fun fr σ => evE T m fr (cE S n lam C e) σ := fun n C e m => (cE_ok O B n lam C e).1 m
  unfold cAsg
  cases hnc : isComp v with
  | false => exact st_if fun h3 => s_asgPlain (fun env _ _ => swaps_not hnc) (fun env _ _ => noSwap_none (and4 h3).1) (and4 h3).2 (hE n C _) (cT_ok O (hE n C) 3 _)
  | true =>
    refine st_op fun p hp => st_op fun q hq => st_if fun h0 => st_op fun i hi => ?_
    obtain ⟨h1, h2⟩ := and4 h0
    cases nmOf_eq hp
    obtain ⟨elt, gens, rfl⟩ := lcOf_eq hq
    refine s_compName fun m => ?_
    cases n with
    | zero => exact gone rfl
    | succ n =>
    have e0 : cE S (n + 1) lam C (.ListComp elt gens q.1 q.2) = opE (genOf gens) fun p => cComp S C (cE S n lam) elt q.1 p := rfl
    cases hg : genOf gens with
    | none => exact gone (by rw [e0, hg]; rfl)
    | some g =>
    have e1 : cE S (n + 1) lam C (.ListComp elt gens q.1 q.2) = cComp S C (cE S n lam) elt q.1 g := by rw [e0, hg]; rfl
    cases hc : (notSet g.2.1 && compOk C q.1) with
    | false => exact gone (by rw [e1]; unfold cComp; rw [hc]; rfl)
    | true =>
    cases ht : cTgt (cInner C q.1) g.1 with
    | none => exact gone (by rw [e1]; unfold cComp; rw [hc, ht]; rfl)
    | some tg =>
    cases hz : ((cSrc S C (cE S n lam C) g.2.1).1 != 2 || isTupE g.1) with
    | false => exact gone (by rw [e1]; unfold cComp; rw [hc, ht]; show ifE _ _ = _; rw [hz]; rfl)
    | true =>
    have e2 : cE S (n + 1) lam C (.ListComp elt gens q.1 q.2) = .comp (cE S n lam (cInner C q.1) elt) none tg.1 tg.2 (cSrc S C (cE S n lam C) g.2.1).1 (cSrc S C (cE S n lam C) g.2.1).2 (g.2.2.map (cE S n lam (cInner C q.1))) C.base (localsOf q.1).length := by
      rw [e1]; unfold cComp; rw [hc, ht]; show ifE _ _ = _; rw [hz]; rfl
    rw [e2]
    cases genOf_eq hg
    cases m with
    | zero => exact s_stuck fun fr σ => rfl
    | succ m => exact s_lcomp hi (beq_iff_eq.mp h1) h2 (and4 hc).1 (cSrc_ok O (hE n C) g.2.1 m) (kindOk_of hz) (cTgt_ok ht) (all2_map fun e _ => (cE_ok O B n lam _ e).2 m) (hE n _ elt m) (compOk_ok (and4 hc).2)
end
end Mine
end

section
set_option autoImplicit false
set_option linter.unusedVariables false
set_option maxRecDepth 100000
set_option maxHeartbeats 4000000
namespace Mine
open PySem PySem.W PyProof.Rows PySem.SeqAt

section
variable {X : Cx} {S : SY} {C C' : SC} {lvl L n : Nat} {T : Tb} {A : Around} {W W1 fs : List Addr} {env : Env} {fr : Fr} {ρ ρ' : Rho} {σ σ' : St} {s s' : Shared} {f : Expr → IE}

theorem bl_stuck {t : List Stmt} {f : Fr → St → R Fl} (h : ∀ fr σ, f fr σ = .stuck) : BlOk X C L t f := fun A fs env fr ρ σ s a tp => by rw [h]; exact .stuck
theorem bl_map {g : Stmt → IS} (h : ∀ st, AllS X T C L st (g st)) : ∀ m (sts : List Stmt), BlOk X C L sts fun fr σ => evSs T m fr (sts.map g) σ := by
  intro m
  induction m with
  | zero => intro sts; exact bl_stuck fun _ _ => rfl
  | succ m ih =>
    intro sts
    cases sts with
    | nil => exact bl_nil
    | cons st r => exact bl_cons (h st m) (ih r)

theorem clsOf_eq {o : Option GV} {k : Nat} (h : o.bind clsOf = some k) : o = some (.cls k) := by
  obtain ⟨g, rfl, h⟩ := Option.bind_eq_some_iff.mp h
  cases g <;> first | (cases h; done) | skip
  cases h; rfl
theorem excOf_ok (O : SYOk X S) {id : Str} {c : Nat} (h : excOf S C id = some c) : (id == ("__debug__" : Str)) = false ∧ C.names.lookup id = some .globalImplicit ∧ S.glob.lookup id = some (.cls c) ∧ ExcFacts X c := by
  unfold excOf at h
  cases h0 : (!dbg id && isGl C id) with
  | false => rw [h0] at h; cases h
  | true =>
    rw [h0] at h
    obtain ⟨c', hc, h2⟩ := Option.bind_eq_some_iff.mp h
    cases hm : S.excs.contains c' with
    | false => rw [hm] at h2; cases h2
    | true =>
      rw [hm] at h2
      cases h2
      exact ⟨(dbg_no' (and4 h0).1).1, isGl_eq (and4 h0).2, clsOf_eq hc, O.excs _ (List.contains_iff_mem.mp hm)⟩
theorem strArg_eq {args : List Expr} (h : strArg args = true) : ∃ x k p, args = [.Constant (.str x) k p] := by
  rcases args with _ | ⟨a, _ | ⟨b, r⟩⟩
  all_goals first | (cases h; done) | skip
  cases a <;> first | (cases h; done) | skip
  rename_i c k p
  cases c <;> first | (cases h; done) | skip
  exact ⟨_, _, _, rfl⟩
theorem raiseOf_eq {exc cause : Option Expr} {id : Str} (h : raiseOf exc cause = some id) : ∃ np x kk cp cpos, exc = some (.Call (.Name id np) [.Constant (.str x) kk cp] [] cpos) ∧ cause = none := by
  unfold raiseOf at h
  cases cause with
  | some _ => cases h
  | none =>
    obtain ⟨e, rfl, h1⟩ := Option.bind_eq_some_iff.mp h
    obtain ⟨⟨g, args, b⟩, h2, h3⟩ := Option.bind_eq_some_iff.mp h1
    obtain ⟨kws, pos, rfl, hk⟩ := callOf_eq h2
    have h3 : (cond (b && strArg args) (nameOf g) none : Option Str) = some id := h3
    cases hb : (b && strArg args) with
    | false => rw [hb] at h3; cases h3
    | true =>
      rw [hb] at h3
      obtain ⟨b1, b2⟩ := and4 hb
      obtain ⟨np, hg⟩ := nameOf_eq h3
      obtain ⟨x, k, p, ha⟩ := strArg_eq b2
      cases kws with
      | cons _ _ => cases hk; cases b1
      | nil => cases hg; cases ha; exact ⟨_, _, _, _, _, rfl, rfl⟩
theorem oneOf_eq {ts : List Expr} {t : Expr} (h : oneOf ts = some t) : ts = [t] := by
  rcases ts with _ | ⟨a, _ | ⟨b, r⟩⟩
  all_goals first | (cases h; done) | skip
  cases h; rfl

theorem cS_ok (O : SYOk X S) (B : TbOk X lvl T) (hl : 1 ≤ lvl) (lam : Bool) : ∀ k st, AllS X T C (LL lvl lam) st (cS S n lam C k st) := by
  have hE : ∀ C e m, EOk X C (LL lvl lam) e fun fr σ => evE T m fr (cE S n lam C e) σ := fun C e m => (cE_ok O B n lam C e).1 m
  have hB : ∀ C e m, BOk X C (LL lvl lam) e fun fr σ => evC T m fr (cE S n lam C e) σ := fun C e m => (cE_ok O B n lam C e).2 m
  intro k
  induction k with
  | zero => intro st; exact s_stk
  | succ k ih =>
    intro st
    have ihB : ∀ m sts, BlOk X C (LL lvl lam) sts fun fr σ => evSs T m fr (sts.map (cS S n lam C k)) σ := bl_map ih
    cases st with
    | Expr e pos =>
      show AllS X T C _ _ (ifS (!isComp e) (.expr (cE S n lam C e)))
      exact st_if fun hc => s_get fun m => s_expr (by rw [Bool.not_eq_true'] at hc; exact hc) (hE C e m)
    | Return v pos =>
      show AllS X T C _ _ (.ret (cRet (cE S n lam C) v))
      cases v with
      | none =>
        refine s_get fun m => s_ret0.le fun fr σ ns => ?_
        cases m with
        | zero => exact absurd rfl ns
        | succ m => rfl
      | some e => exact s_get fun m => s_ret (hE C e m)
    | If c a b pos =>
      show AllS X T C _ _ (.ife (cE S n lam C c) (a.map (cS S n lam C k)) (b.map (cS S n lam C k)))
      exact s_get fun m => s_if (hB C c m) (ihB m a) (ihB m b)
    | For t it b e pos =>
      show AllS X T C _ _ (ifS (e.isEmpty && notSet it && ((cSrc S C (cE S n lam C) it).1 != 2 || isTupE t)) (.forr (cT C (cE S n lam C) S 3 t) (cSrc S C (cE S n lam C) it).1 (cSrc S C (cE S n lam C) it).2 (b.map (cS S n lam C k))))
      refine st_if fun h0 => ?_
      obtain ⟨h0, hz⟩ := and4 h0
      obtain ⟨he, hs⟩ := and4 h0
      cases e with
      | cons _ _ => cases he
      | nil => exact s_get fun m => s_for (ev := fun fr ie σ => evE T m fr ie σ) (evT := fun fr it v σ => evT T m fr it v σ) (evSs := fun fr b σ => evSs T m fr b σ) hs (cSrc_ok O (hE C) it m) (kindOk_of hz) (cT_ok O (hE C) 3 t m) (ihB m b)
    | Assign ts v pos =>
      show AllS X T C _ _ (opS (oneOf ts) fun t => cAsg C (cE S n lam C) S t v)
      refine st_op fun t ht => ?_
      cases oneOf_eq ht
      exact cAsg_ok O B lam
    | Raise exc cause pos =>
      show AllS X T C _ _ (opS (raiseOf exc cause) fun id => opS (excOf S C id) fun c => .raise c)
      refine st_op fun id hid => st_op fun c hc => ?_
      obtain ⟨np, x, kk, cp, cpos, rfl, rfl⟩ := raiseOf_eq hid
      obtain ⟨e1, e2, e3, e4⟩ := excOf_ok O hc
      exact s_get fun m => s_raise O.base O.lim e4 (Nat.le_trans hl LL_le) e1 e2 e3
    | _ => exact s_stk
end
end Mine
end

section
set_option autoImplicit false
set_option linter.unusedVariables false
set_option maxRecDepth 100000
set_option maxHeartbeats 1000000
namespace Mine
open PySem PySem.W PyProof.Rows PySem.SeqAt

noncomputable def slotNames (names : List (Str × NameKind)) : List Str := names.filterMap fun p => if p.2 == .local || p.2 == .cell then some p.1 else none
noncomputable def fnSC (names : List (Str × NameKind)) (code : Option Value) : SC where
  names := names
  Γ := (slotNames names).zipIdx
  base := (slotNames names).length
  code := code
noncomputable def isStmts : FuncBody → Bool
  | .stmts _ => true
  | _ => false
noncomputable def stmtsOf : FuncBody → List Stmt
  | .stmts b => b
  | _ => []
noncomputable def fdAt (K : Frag) (a : Addr) : Option FuncData := match K.lookup a with
  | some ⟨_, _, .func fd, _⟩ => some fd
  | _ => none
noncomputable def fnOk (K : Frag) (a : Addr) (params : List Str) : Bool := match fdAt K a with
  | some fd => codeIn K fd.code fd.qualname && isStmts fd.body && fd.closure.isEmpty && fd.globals == mainGlobals && fd.builtins == builtinsNs && !fd.scope.isCoroutine && !fd.scope.isGenerator && fd.scope.kind == .function &&
      decide params.Nodup && params.zipIdx.all (fun p => (slotNames fd.scope.names).zipIdx.contains p) && (slotNames fd.scope.names).zipIdx.all (fun p => fd.scope.names.lookup p.1 == some .local || fd.scope.names.lookup p.1 == some .cell) &&
      decide ((fd.scope.names.map (·.1)).Nodup) && injΓ ((slotNames fd.scope.names).zipIdx)
  | none => false

theorem cells_some {n : Str} : ∀ {names : List (Str × NameKind)} {lo : Nat} {acc : List (Str × Addr)}, ((n, NameKind.cell) ∈ names ∨ (acc.lookup n).isSome = true) → ((cellsFrom lo names acc).lookup n).isSome = true
  | [], lo, acc, h => by
    rcases h with h | h
    · cases h
    · exact h
  | (m, k) :: r, lo, acc, h => by
    unfold cellsFrom
    split
    · rename_i hk
      refine cells_some ?_
      rcases h with h | h
      · rcases List.mem_cons.mp h with q | q
        · cases q; right; simp
        · exact .inl q
      · right
        rw [List.lookup_cons]
        split
        · rfl
        · exact h
    · rename_i hk
      refine cells_some ?_
      rcases h with h | h
      · rcases List.mem_cons.mp h with q | q
        · cases q; exact absurd rfl hk
        · exact .inl q
      · exact .inr h

section
variable {X : Cx} {S : SY} {lvl n : Nat} {T : Tb}

theorem fnFacts_of {k : Nat} {params : List Str} (h : fnOk X.K (X.fa k) params = true) (hb : ∀ fd, fdAt X.K (X.fa k) = some fd → ∀ us : List Value, us.length = params.length → ∀ S, peek X.K S (bindArgs fd ⟨us, []⟩) = some (params.zip us)) (code : Bool) :
    ∃ fd, fdAt X.K (X.fa k) = some fd ∧ FnFacts X k fd (stmtsOf fd.body) params (fnSC fd.scope.names (if code then some fd.code else none)) := by
  unfold fnOk at h
  split at h
  case h_2 => cases h
  rename_i fd hfd
  simp only [Bool.and_eq_true, beq_iff_eq, Bool.not_eq_true', List.isEmpty_iff, decide_eq_true_eq] at h
  obtain ⟨⟨⟨⟨⟨⟨⟨⟨⟨⟨⟨⟨h1, h2⟩, h3⟩, h4⟩, h5⟩, h6⟩, h7⟩, h8⟩, h9⟩, h10⟩, h11⟩, h12⟩, h13⟩ := h
  obtain ⟨j1, j2⟩ := injΓ_ok h13
  have hfd0 := hfd
  unfold fdAt at hfd
  split at hfd
  case h_2 => cases hfd
  rename_i oc od fd' osl hK
  cases hfd
  refine ⟨fd, hfd0, ⟨⟨_, _, _, hK⟩, h1, ?_, h3, h4, h5, h6, h7, h8, hb _ hfd0, h9, rfl, fun v hv => ?_, fun i n hi => ?_, fun n i hi => ?_, fun n lo hn => cells_some (.inl (lookup_mem hn)), h12, j1, j2⟩⟩
  · cases hq : fd.body with
    | stmts b => rfl
    | _ => rw [hq] at h2; cases h2
  · cases code
    · cases hv
    · cases hv; rfl
  · refine List.contains_iff_mem.mp (List.all_eq_true.mp h10 (n, i) ?_)
    exact List.mem_zipIdx_iff_getElem?.mpr hi
  · have := List.all_eq_true.mp h11 _ hi
    show fd.scope.names.lookup n = _ ∨ fd.scope.names.lookup n = _
    simpa [Bool.or_eq_true] using this

/-- the text's functions -/
structure Prg where
  S : SY
  fns : Nat → Option Fn
  me : Nat → Nat → Option Nat
  ini : Nat → Option Nat
noncomputable def tb (P : Prg) : Nat → Tb
  | 0 => ⟨fun _ _ _ => .stuck, P.me, P.ini⟩
  | d + 1 => ⟨fun k vs σ => match P.fns k with
      | some f => runFn (tb P d) f vs σ
      | none => .stuck, P.me, P.ini⟩
/-- a function of the text, compiled -/
noncomputable def FnIs (X : Cx) (S : SY) (N : Nat) (k : Nat) (f : Fn) (lam : Bool) : Prop := ∃ fd params C, FnFacts X k fd (stmtsOf fd.body) params C ∧ params.length = f.nargs ∧ f.body = (stmtsOf fd.body).map (cS S N lam C N)

structure PrgOk (X : Cx) (P : Prg) (N : Nat) : Prop where
  S : SYOk X P.S
  fns : ∀ k f, P.fns k = some f → FnIs X P.S N k f false
  me : ∀ c m n f, c < NC → P.me c m = some f → X.attrs[m]? = some n → plainGet X.K (X.cls c) n = true ∧ findIn X.K (.ref (X.cls c)) n = some (some (.ref (X.fa f))) ∧ isFn X.K (.ref (X.fa f)) = true ∧ keepIn X.K (.ref (X.fa f)) = true
  ini : ∀ c f, c < NC → P.ini c = some f → NewFacts X c f

theorem fn_is {k : Nat} {f : Fn} {lam : Bool} (O : SYOk X S) {N : Nat} (h : FnIs X S N k f lam) (B : TbOk X lvl T) (hl : 1 ≤ lvl) : FOk X (LL lvl lam + 1) (.ref (X.fa k)) fun vs σ => runFn T f vs σ := by
  obtain ⟨fd, params, C, F, hn, hb⟩ := h
  refine fn_ok O.lim F hn ?_
  rw [hb]
  exact bl_map (cS_ok O B hl lam N) _ _

theorem fok_stuck {f : Value} {g : List PV → St → R PV} (h : ∀ vs σ, g vs σ = .stuck) : FOk X lvl f g := fun A fs ρ σ s vs us I ar rm rs ns => absurd (h vs σ) ns
theorem tb_ok {P : Prg} {N : Nat} (O : PrgOk X P N) : ∀ d, TbOk X (2 * d + 1) (tb P d)
  | 0 => ⟨fun k => fok_stuck fun _ _ => rfl, O.me, fun c f hc hf => fok_stuck fun _ _ => rfl⟩
  | d + 1 => by
    have ih := tb_ok O d
    have fn : ∀ k, FOk X (2 * d + 1 + 1) (.ref (X.fa k)) ((tb P (d + 1)).F k) := fun k => by
      show FOk X _ _ fun vs σ => match P.fns k with
        | some f => runFn (tb P d) f vs σ
        | none => .stuck
      cases hk : P.fns k with
      | none => exact fok_stuck fun _ _ => rfl
      | some f => exact fn_is (lam := false) O.S (O.fns k f hk) ih (by omega)
    refine ⟨fun k => (fn k).mono (by omega), O.me, fun c f hc hf => ?_⟩
    exact (new_ok hc (O.ini c f hc hf) (fn f)).mono (by omega)
end
end Mine
end

section
set_option autoImplicit false
set_option linter.unusedVariables false
set_option maxRecDepth 100000
set_option maxHeartbeats 1000000
namespace Mine
open PySem PySem.W PyProof.Rows PySem.SeqAt

/-- where the text's things lie -/
structure Dat where
  attrs : List Str
  cls : List Addr
  fa : List Addr
noncomputable def Dat.clsAt (D : Dat) (c : Nat) : Addr := D.cls.getD c 0
noncomputable def Dat.faAt (D : Dat) (c : Nat) : Addr := D.fa.getD c 0

noncomputable def getChk (K : Frag) (D : Dat) : Bool := (List.range NC).all fun c => (D.attrs.take ND).all fun n => plainGet K (D.clsAt c) n && hasDictIn K (D.clsAt c) && (match findIn K (.ref (D.clsAt c)) n with
  | some attr => noGet K attr
  | none => false)
noncomputable def setChk (K : Frag) (D : Dat) : Bool := (List.range NC).all fun c => (D.attrs.take ND).all fun n => findIn K (.ref (D.clsAt c)) "__setattr__" == some (some (.builtin "object.__setattr__")) && plainOver K (D.clsAt c) && takerIn K (D.clsAt c) n == some none
noncomputable def fragChk (K : Frag) : Bool := K.all (fun p => p.2.cls != .type "list") && noTabs K
noncomputable def datChk (D : Dat) : Bool := decide (ND ≤ D.attrs.length) && decide (D.attrs.length ≤ 1000) && decide D.attrs.Nodup

structure HeadF (s : Shared) (K : Frag) (mg mb : Str → Option Value) (l : Addr) (ol : Obj) (tabs : List Addr) : Prop where
  g : s.heap.Ns mainGlobals mg
  b : s.heap.Ns builtinsNs mb
  boot : ∀ x : Str, x ≠ "__name__" → mb x = bootBuiltins x
  lim : s.heap.NoLimit
  kin : K.In s.heap
  lst : s.heap.get? l = some ol
  lcls : ol.cls = .type "list"
  ldat : ∃ items n, ol.data = .seq items n
  tabs : ∀ P, P ∈ tabs → s.heap.get? P = some (tabObj #[])
  chk : fragChk K = true
  bmain : ∃ bm ob, mg "__builtins__" = some (.ref bm) ∧ bm ≠ builtinsNs ∧ s.heap.get? bm = some ob ∧ ob.cls = .type "module" ∧ ob.dict = some builtinsNs ∧ ob.data = .plain

section
variable {s : Shared} {K : Frag} {mg mb : Str → Option Value} {l : Addr} {ol : Obj} {tabs : List Addr}
noncomputable def baseOf (s : Shared) (l : Addr) (tabs : List Addr) : Heap := hideAll s.heap (l :: tabs)
theorem base_keep (H : HeadF s K mg mb l ol tabs) {b : Addr} {o : Obj} (e : s.heap.get? b = some o) (h1 : o ≠ ol) (h2 : o ≠ tabObj #[]) : (baseOf s l tabs).get? b = some o := by
  refine hideAll_get _ e fun m => ?_
  rcases List.mem_cons.mp m with rfl | m
  · rw [H.lst] at e; cases e; exact h1 rfl
  · rw [H.tabs _ m] at e; cases e; exact h2 rfl
theorem base_ns (H : HeadF s K mg mb l ol tabs) {a : Addr} {m : Str → Option Value} (n : s.heap.Ns a m) : (baseOf s l tabs).Ns a m := by
  obtain ⟨o, es, ep, e, hd, r⟩ := n
  refine ⟨o, es, ep, base_keep H e (fun q => ?_) (fun q => by rw [q] at hd; cases hd), hd, r⟩
  obtain ⟨items, n, hl⟩ := H.ldat
  rw [q, hl] at hd; cases hd
theorem base_K (H : HeadF s K mg mb l ol tabs) : K.In (baseOf s l tabs) := fun a o e => by
  have hc := H.chk
  unfold fragChk noTabs at hc
  rw [Bool.and_eq_true, List.all_eq_true, List.all_eq_true] at hc
  have m := mem_of_lookupK e
  refine base_keep H (H.kin a o e) (fun q => ?_) (fun q => ?_)
  · have := hc.1 _ m
    rw [q] at this
    dsimp only at this
    rw [H.lcls] at this
    simp at this
  · have := hc.2 _ m
    rw [q] at this
    exact absurd (show false = true from this) Bool.false_ne_true

theorem getChk_of {D : Dat} (h : getChk K D = true) : ∀ c a n, c < NC → a < ND → D.attrs[a]? = some n → plainGet K (D.clsAt c) n = true ∧ hasDictIn K (D.clsAt c) = true ∧ ∃ attr, findIn K (.ref (D.clsAt c)) n = some attr ∧ noGet K attr = true := fun c a n hc ha hn => by
  have h1 := List.all_eq_true.mp h c (List.mem_range.mpr hc)
  have h2 := List.all_eq_true.mp h1 n (by
    refine List.mem_of_getElem? (i := a) ?_
    rw [List.getElem?_take, if_pos ha]; exact hn)
  simp only [Bool.and_eq_true] at h2
  refine ⟨h2.1.1, h2.1.2, ?_⟩
  have h3 := h2.2
  split at h3
  · rename_i attr e
    exact ⟨attr, e, h3⟩
  · cases h3
theorem setChk_of {D : Dat} (h : setChk K D = true) : ∀ c a n, c < NC → a < ND → D.attrs[a]? = some n → findIn K (.ref (D.clsAt c)) "__setattr__" = some (some (.builtin "object.__setattr__")) ∧ plainOver K (D.clsAt c) = true ∧ takerIn K (D.clsAt c) n = some none := fun c a n hc ha hn => by
  have h1 := List.all_eq_true.mp h c (List.mem_range.mpr hc)
  have h2 := List.all_eq_true.mp h1 n (by
    refine List.mem_of_getElem? (i := a) ?_
    rw [List.getElem?_take, if_pos ha]; exact hn)
  simp only [Bool.and_eq_true, beq_iff_eq] at h2
  exact ⟨h2.1.1, h2.1.2, h2.2⟩

noncomputable def mkCx (prog : Program) (w : World) (D : Dat) (tabP : Addr) (H : HeadF s K mg mb l ol tabs) (hd : datChk D = true) (hg : getChk K D = true) (hs : setChk K D = true) : Cx where
  prog := prog
  w := w
  base := baseOf s l tabs
  attrs := D.attrs
  cls := D.clsAt
  fzo := ol
  fa := D.faAt
  tabP := tabP
  mg := mg
  mb := mb
  gns := base_ns H H.g
  bns := base_ns H H.b
  boot := fun x v e n => (H.boot x n).trans e
  K := K
  kin := base_K H
  attrLen := by simp only [datChk, Bool.and_eq_true, decide_eq_true_eq] at hd; exact hd.1.1
  attrShort := by simp only [datChk, Bool.and_eq_true, decide_eq_true_eq] at hd; exact hd.1.2
  attrNodup := by simp only [datChk, Bool.and_eq_true, decide_eq_true_eq] at hd; exact hd.2
  getOk := getChk_of hg
  setOk := setChk_of hs

theorem base_lim (H : HeadF s K mg mb l ol tabs) : (baseOf s l tabs).NoLimit := by
  obtain ⟨mc, a, b⟩ := H.lim
  exact ⟨mc, base_ns H a, b⟩

noncomputable def cstIs : PV → Value → Bool
  | .int i, .int j _ => i == j
  | .str x, .str y _ => x == y
  | _, _ => false
theorem cstIs_ok {v : PV} {u : Value} (h : cstIs v u = true) (hp : Heap) (ρ : Rho) : VRep hp ρ v u := by
  cases v <;> cases u <;> first | (cases h; done) | skip
  · rename_i i j t; cases beq_iff_eq.mp h; exact .int _ _
  · rename_i x y t; cases beq_iff_eq.mp h; exact .str _ _
noncomputable def gvChk (K : Frag) (D : Dat) (p : Str × GV) : Bool := match p.2 with
  | .fn k => nsIn K mainGlobals p.1 == some (some (.ref (D.faAt k))) && keepIn K (.ref (D.faAt k))
  | .cls c => nsIn K mainGlobals p.1 == some (some (.ref (D.clsAt c))) && keepIn K (.ref (D.clsAt c))
  | .cst v => (match nsIn K mainGlobals p.1 with
    | some (some u) => cstIs v u
    | _ => false)
noncomputable def sxChk (K : Frag) (D : Dat) (S : SX) : Bool := S.glob.all (gvChk K D) && S.bnames.all (fun n => nsIn K mainGlobals n == some none) && decide (S.attrs = D.attrs)

theorem mgOf (X : K.In s.heap) (G : s.heap.Ns mainGlobals mg) {n : Str} {v : Value} (e : nsIn K mainGlobals n = some (some v)) : mg n = some v := mg_of X G e
theorem sok_of {prog : Program} {w : World} {D : Dat} {tabP : Addr} {S : SX} (H : HeadF s K mg mb l ol tabs) (hd : datChk D = true) (hg : getChk K D = true) (hs : setChk K D = true) (hx : sxChk K D S = true) : SOk (mkCx prog w D tabP H hd hg hs) S := by
  unfold sxChk at hx
  simp only [Bool.and_eq_true, decide_eq_true_eq] at hx
  obtain ⟨⟨h1, h2⟩, h3⟩ := hx
  have gv : ∀ n v, S.glob.lookup n = some v → gvChk K D (n, v) = true := fun n v h => List.all_eq_true.mp h1 _ (lookup_mem h)
  refine ⟨h3.symm, fun n k h => ?_, fun n k h => ?_, fun n v h => ?_, fun n h => ?_⟩
  · have := gv _ _ h
    simp only [gvChk, Bool.and_eq_true, beq_iff_eq] at this
    exact ⟨mgOf H.kin H.g this.1, this.2⟩
  · have := gv _ _ h
    simp only [gvChk, Bool.and_eq_true, beq_iff_eq] at this
    exact ⟨mgOf H.kin H.g this.1, this.2⟩
  · have := gv _ _ h
    simp only [gvChk] at this
    split at this
    · rename_i u hu
      exact ⟨u, mgOf H.kin H.g hu, cstIs_ok this⟩
    · cases this
  · have := List.all_eq_true.mp h2 n h
    exact ns_none_of H.kin H.g (beq_iff_eq.mp this)
end
end Mine
end

section
set_option autoImplicit false
set_option linter.unusedVariables false
set_option maxRecDepth 100000
set_option maxHeartbeats 1000000
namespace Mine
open PySem PySem.W PyProof.Rows PySem.SeqAt

section
variable {s : Shared} {K : Frag} {mg mb : Str → Option Value} {l : Addr} {ol : Obj} {tabs : List Addr}

theorem intsR_rep {h : Heap} {ρ : Rho} : ∀ {vs : List Value} {ns : List Int}, IntsAre vs ns → VReps h ρ (ns.map PV.int) vs
  | _, _, .nil => .nil
  | _, _, .cons _ _ r => .cons (.int _ _) (intsR_rep r)

theorem base_off (H : HeadF s K mg mb l ol tabs) {a : Addr} (ha : a ∈ l :: tabs) : (baseOf s l tabs).get? a = none := hideAll_none _ ha
theorem base_stays : (baseOf s l tabs).StaysIn s.heap := fun b o e => of_hideAll _ e

theorem aok0 {X : Cx} {ρ : Rho} {h : Heap} : AOK X callerA [] ρ h := ⟨rfl, ⟨[], rfl, rfl, trivial⟩, (fun _ h => nomatch h), (fun _ h => nomatch h)⟩
theorem rm0 {n : Nat} (h : n ≤ 200) : Rm callerA n := by
  refine ⟨?_, ?_⟩
  · show 1 + claimMargin + n < recursionLimit
    have : claimMargin = 300 := rfl
    have : recursionLimit = 1000 := rfl
    omega
  · show 4 + 3 * n + 100 < cLine
    have : cLine = 9900 := rfl
    omega

/-- a script list alone -/
theorem rp_one {prog : Program} {w : World} {D : Dat} {tabP : Addr} {vs : List Value} {ns : List Int} {n : Nat} (H : HeadF s K mg mb l ol []) (hd : datChk D = true) (hg : getChk K D = true) (hs : setChk K D = true) (ho : ol.data = .seq vs.toArray n) (hi : IntsAre vs ns) :
    Rp (mkCx prog w D tabP H hd hg hs) [(l, none)] [.frz (ns.map .int)] s.heap := by
  refine ⟨base_stays, rfl, by simp [owned, ownedOf], fun a ha => base_off H (by simpa [owned, ownedOf] using ha), ⟨_, rfl⟩, fun i p o hi' ho' => ?_⟩
  cases i with
  | zero =>
    simp at hi' ho'
    subst hi' ho'
    exact .frz H.lst H.lcls ho (by simpa using intsR_rep hi)
  | succ i => simp at hi'
/-- a script list and the law's table of codes -/
theorem rp_two {prog : Program} {w : World} {D : Dat} {P : Addr} {vs : List Value} {ns : List Int} {n : Nat} (H : HeadF s K mg mb l ol [P]) (hd : datChk D = true) (hg : getChk K D = true) (hs : setChk K D = true) (ho : ol.data = .seq vs.toArray n) (hi : IntsAre vs ns) :
    Rp (mkCx prog w D P H hd hg hs) [(l, none), (P, none)] [.frz (ns.map .int), .tab []] s.heap := by
  have hne : l ≠ P := fun q => by
    have := H.tabs P (by simp)
    rw [← q, H.lst] at this
    cases this
    have := H.lcls
    cases this
  refine ⟨base_stays, rfl, by simpa [owned, ownedOf] using hne, fun a ha => base_off H (by simpa [owned, ownedOf] using ha), ⟨_, rfl⟩, fun i p o hi' ho' => ?_⟩
  match i with
  | 0 =>
    simp at hi' ho'
    subst hi' ho'
    exact .frz H.lst H.lcls ho (by simpa using intsR_rep hi)
  | 1 =>
    simp at hi' ho'
    subst hi' ho'
    exact .tab (H.tabs P (by simp)) trivial (fun _ _ => rfl)
  | i + 2 => simp at hi'

/-- the whole claim from the run -/
theorem fin_one {prog : Program} {w : World} {D : Dat} {tabP : Addr} {vs : List Value} {ns : List Int} {n L : Nat} (H : HeadF s K mg mb l ol []) (hd : datChk D = true) (hg : getChk K D = true) (hs : setChk K D = true) (ho : ol.data = .seq vs.toArray n) (hi : IntsAre vs ns)
    {f : Value} {g : List PV → St → R PV} (F : FOk (mkCx prog w D tabP H hd hg hs) L f g) (hL : L ≤ 200) {σ' : St} (hr : g [.loc 0] [.frz (ns.map .int)] = .ok (.bool true) σ') (hgens : s.gens = #[])
    {cw : ClaimW} {cl : Str → Option Addr} {mean : ExcName → Option Value} {args : List WData} (hnr : ∀ a x, cw.raises a x = false) (hpost : cw.post args (.bool true) args = true) :
    codeAny (model prog w) callerA (.call f ⟨[.ref l], []⟩) (GoodW cw cl mean args s) s := by
  have I := rp_one (prog := prog) (w := w) (tabP := tabP) H hd hg hs ho hi
  have key := F callerA [] [(l, none)] _ s [.loc 0] [.ref l] I aok0 (rm0 hL) (.cons (.loc (p := (l, none)) rfl) .nil) (by rw [hr]; simp)
  refine codeAny_mono key fun r s' z => ?_
  rcases r with e | (v | _ | _ | _) <;> first | exact z.elim | skip
  · obtain ⟨c, _, _, _, _, q, _⟩ := z
    rw [hr] at q; cases q
  · obtain ⟨v', σ2, ρ2, e1, ⟨h', t', rfl⟩, I', r', T⟩ := z
    rw [hr] at e1
    cases e1
    cases r'
    refine ⟨.inl ⟨.bool true, .bool true, [], rfl, fun c => hnr _ _, .bool true, hpost, fun _ => ⟨List.nodup_nil, (fun _ h => nomatch h)⟩⟩, fun b o e => ?_, rfl, hgens⟩
    dsimp only
    obtain ⟨τ, hτ⟩ := T.pre
    by_cases hb : b = l
    · subst hb
      rw [H.lst] at e; cases e
      obtain ⟨xs, hx⟩ := I'.fz
      have := I'.objs 0 (b, none) _ (by rw [hτ]; rfl) hx
      cases this with
      | frz q _ _ _ => exact q
    · exact I'.base b o (hideAll_get _ e (by simpa using hb))
theorem fin_two {prog : Program} {w : World} {D : Dat} {c0 P : Addr} {vs : List Value} {ns : List Int} {n L : Nat} (H : HeadF s K mg mb l ol [P]) (hd : datChk D = true) (hg : getChk K D = true) (hs : setChk K D = true) (ho : ol.data = .seq vs.toArray n) (hi : IntsAre vs ns)
    {f : Value} {g : List PV → St → R PV} (F : FOk (mkCx prog w D P H hd hg hs) L f g) (hL : L ≤ 200) {σ' : St} {ks : List (Nat × Nat)} (hr : g [.loc 0] [.frz (ns.map .int), .tab []] = .ok (.bool true) σ') (hk : σ'[(1 : Nat)]? = some (.tab ks)) (hgens : s.gens = #[])
    {cw : ClaimW} {cl : Str → Option Addr} {mean : ExcName → Option Value} {args : List WData} (hnr : ∀ a x, cw.raises a x = false) (hpost : cw.post args (.bool true) args = true) :
    codeAny (model prog w) callerA (.call f ⟨[.ref l], []⟩) (fun r s' => GoodW cw cl mean args { s with heap := ghostOf s.heap [(c0, P)] } r s' ∧ GrownAll [(c0, P)] s'.heap) s := by
  have I := rp_two (prog := prog) (w := w) H hd hg hs ho hi
  have key := F callerA [] [(l, none), (P, none)] _ s [.loc 0] [.ref l] I aok0 (rm0 hL) (.cons (.loc (p := (l, none)) rfl) .nil) (by rw [hr]; simp)
  refine codeAny_mono key fun r s' z => ?_
  rcases r with e | (v | _ | _ | _) <;> first | exact z.elim | skip
  · obtain ⟨c, _, _, _, _, q, _⟩ := z
    rw [hr] at q; cases q
  · obtain ⟨v', σ2, ρ2, e1, ⟨h', t', rfl⟩, I', r', T⟩ := z
    rw [hr] at e1
    cases e1
    cases r'
    obtain ⟨τ, hτ⟩ := T.pre
    refine ⟨⟨.inl ⟨.bool true, .bool true, [], rfl, fun c => hnr _ _, .bool true, hpost, fun _ => ⟨List.nodup_nil, (fun _ h => nomatch h)⟩⟩, fun b o e => ?_, rfl, hgens⟩, ?_, trivial⟩
    · dsimp only at e ⊢
      have e0 := of_hideAll _ e
      by_cases hb : b = l
      · subst hb
        rw [H.lst] at e0; cases e0
        obtain ⟨xs, hx⟩ := I'.fz
        have := I'.objs 0 (b, none) _ (by rw [hτ]; rfl) hx
        cases this with
        | frz q _ _ _ => exact q
      · refine I'.base b o (hideAll_get _ e0 fun m => ?_)
        simp at m
        rcases m with m | m
        · exact hb m
        · subst m
          rw [show (ghostOf s.heap [(c0, b)]).get? b = none from hideAll_none _ (by simp)] at e
          cases e
    · have := I'.objs 1 (P, none) _ (by rw [hτ]; rfl) hk
      cases this with
      | tab q _ _ => exact ⟨_, q⟩
end
end Mine
end

section
set_option autoImplicit false
set_option linter.unusedVariables false
set_option maxRecDepth 100000
set_option maxHeartbeats 1000000
namespace Mine
open PySem PySem.W PyProof.Rows PySem.SeqAt

theorem fnIs_of {X : Cx} {S : SY} {N k a : Nat} {f : Fn} {K : Frag} (lam : Bool) (params : List Str) (hK : X.K = K) (ha : X.fa k = a) (h1 : fnOk K a params = true)
    (h2 : ∀ us : List Value, us.length = params.length → ∀ S, (fdAt K a).map (fun fd => peek K S (bindArgs fd ⟨us, []⟩)) = some (some (params.zip us)))
    (h3 : (fdAt K a).map (fun fd => (stmtsOf fd.body).map (cS S N lam (fnSC fd.scope.names (if lam then some fd.code else none)) N)) = some f.body) (hn : params.length = f.nargs) : FnIs X S N k f lam := by
  subst hK ha
  obtain ⟨fd, e, F⟩ := fnFacts_of h1 (fun fd e us hu S => by
    have := h2 us hu S
    rw [e] at this
    exact Option.some.inj this) lam
  rw [e] at h3
  exact ⟨fd, params, _, F, hn, (Option.some.inj h3).symm⟩

noncomputable def FnsIs (X : Cx) (S : SY) (N : Nat) : Nat → List Fn → Prop
  | _, [] => True
  | k, f :: r => FnIs X S N k f false ∧ FnsIs X S N (k + 1) r
theorem FnsIs.at {X : Cx} {S : SY} {N : Nat} : ∀ {l : List Fn} {k0 : Nat}, FnsIs X S N k0 l → ∀ k f, l[k]? = some f → FnIs X S N (k0 + k) f false
  | [], _, _, k, f, h => by simp at h
  | g :: r, k0, ⟨h1, h2⟩, 0, f, h => by
    simp at h; subst h; exact h1
  | g :: r, k0, ⟨h1, h2⟩, k + 1, f, h => by
    have := FnsIs.at h2 k f (by simpa using h)
    rwa [show k0 + 1 + k = k0 + (k + 1) by omega] at this

noncomputable def meOf (l : List ((Nat × Nat) × Nat)) (c m : Nat) : Option Nat := l.lookup (c, m)
noncomputable def iniOf (l : List (Nat × Nat)) (c : Nat) : Option Nat := l.lookup c
noncomputable def meChk (K : Frag) (D : Dat) (l : List ((Nat × Nat) × Nat)) : Bool := l.all fun p => match D.attrs[p.1.2]? with
  | some n => plainGet K (D.clsAt p.1.1) n && findIn K (.ref (D.clsAt p.1.1)) n == some (some (.ref (D.faAt p.2))) && isFn K (.ref (D.faAt p.2)) && keepIn K (.ref (D.faAt p.2))
  | none => true
noncomputable def iniChk (K : Frag) (D : Dat) (l : List (Nat × Nat)) : Bool := l.all fun p => makesIn K (D.clsAt p.1) && findIn K (.ref (D.clsAt p.1)) "__init__" == some (some (.ref (D.faAt p.2))) && typeIn K (.ref (D.faAt p.2)) == some (.type "function")
noncomputable def prgOf (S : SY) (fns : List Fn) (me : List ((Nat × Nat) × Nat)) (ini : List (Nat × Nat)) : Prg := ⟨S, fun k => fns[k]?, meOf me, iniOf ini⟩

theorem prgOk_of {X : Cx} {S : SY} {fns : List Fn} {me : List ((Nat × Nat) × Nat)} {ini : List (Nat × Nat)} {N : Nat} {K : Frag} {D : Dat} (hK : X.K = K) (ha : X.attrs = D.attrs) (hc : X.cls = D.clsAt) (hf : X.fa = D.faAt) (O : SYOk X S) (F : FnsIs X S N 0 fns)
    (hm : meChk K D me = true) (hi : iniChk K D ini = true) : PrgOk X (prgOf S fns me ini) N := by
  subst hK
  refine ⟨O, fun k f h => by have := F.at k f h; rw [Nat.zero_add] at this; exact this, fun c m n f hc' hm' hn => ?_, fun c f hc' h => ?_⟩
  · have := List.all_eq_true.mp hm _ (lookup_mem hm')
    dsimp only at this
    rw [← ha, hn] at this
    simp only [Bool.and_eq_true, beq_iff_eq] at this
    rw [hc, hf]
    exact ⟨this.1.1.1, this.1.1.2, this.1.2, this.2⟩
  · have := List.all_eq_true.mp hi _ (lookup_mem h)
    simp only [Bool.and_eq_true, beq_iff_eq] at this
    refine ⟨?_, ?_, ?_⟩
    · rw [hc]; exact this.1.1
    · rw [hc, hf]; exact this.1.2
    · rw [hf]; exact this.2
end Mine
end

section
set_option autoImplicit false
set_option linter.unusedVariables false
set_option maxRecDepth 100000
namespace Mine
open PySem
-- _law_box [(script, 0), (cell, 1), (cells, 2), (great, 3), (state, 4)]
noncomputable def b02_0 : List IS := [(.asg (.name 2) (.comp (.blt .int [(.var 6)]) none [6] false 0 [(.slice (.var 0) none (some (.cst (.int (48)))))] [] 5 2)), (.asg (.name 3) (.cst (.int (0)))), (.ife (.bop true [(.var 2), (.cmp (.blt .abs [(.sub (.var 2) (.cst (.int (0))))]) [(.GtE, (.bin .Pow (.cst (.int (10))) (.cst (.int (15)))))])])
    [(.asg (.name 3) (.bin .Mod (.bin .FloorDiv (.blt .abs [(.sub (.var 2) (.cst (.int (0))))]) (.cst (.int (2)))) (.bin .Pow (.cst (.int (10))) (.cst (.int (260))))))]
    []), (.asg (.name 4) (.cst (.int (1)))), (.forr (.name 1) 0 [(.var 2)]
    [(.asg (.name 4) (.bin .Mod (.bin .Add (.bin .Add (.bin .Mult (.var 4) (.cst (.int (48271)))) (.bin .Mod (.var 1) (.cst (.int (2147483647))))) (.cst (.int (1301)))) (.cst (.int (2147483647)))))]), (.ret (.list [(.var 2), (.var 3), (.var 4), (.cst (.int (0)))]))]
noncomputable def f02_0 : Fn := ⟨1, 5, b02_0⟩
-- _law_draw [(box, 0), (limit, 1), (place, 2), (digit, 3)]
noncomputable def b02_1 : List IS := [(.asg (.name 2) (.sub (.var 0) (.cst (.int (3))))), (.asg (.sub (.var 0) (.cst (.int (3)))) (.bin .Add (.var 2) (.cst (.int (1))))), (.ife (.cmp (.sub (.var 0) (.cst (.int (1)))) [(.Gt, (.cst (.int (0))))])
    [(.asg (.name 3) (.bin .Mod (.sub (.var 0) (.cst (.int (1)))) (.var 1))), (.asg (.sub (.var 0) (.cst (.int (1)))) (.bin .FloorDiv (.sub (.var 0) (.cst (.int (1)))) (.var 1))), (.ret (.var 3))]
    []), (.asg (.sub (.var 0) (.cst (.int (2)))) (.bin .Mod (.bin .Add (.bin .Add (.bin .Mult (.sub (.var 0) (.cst (.int (2)))) (.cst (.int (16807)))) (.bin .Mult (.var 2) (.var 2))) (.cst (.int (29)))) (.cst (.int (2147483647))))), (.ife (.cmp (.var 2) [(.Lt, (.blt .len [(.sub (.var 0) (.cst (.int (0))))]))])
    [(.ret (.bin .Mod (.sub (.sub (.var 0) (.cst (.int (0)))) (.var 2)) (.var 1)))]
    []), (.ret (.bin .Mod (.bin .Pow (.bin .FloorDiv (.sub (.var 0) (.cst (.int (2)))) (.cst (.int (3)))) (.cst (.int (3)))) (.var 1)))]
noncomputable def f02_1 : Fn := ⟨2, 4, b02_1⟩
-- _law_shapes []
noncomputable def b02_2 : List IS := [(.ret (.list [(.tup [(.cst (.str (Str.ofString "create"))), (.cst (.str (Str.ofString "tn")))]), (.tup [(.cst (.str (Str.ofString "delete"))), (.cst (.str (Str.ofString "t")))]), (.tup [(.cst (.str (Str.ofString "rename"))), (.cst (.str (Str.ofString "tt")))]), (.tup [(.cst (.str (Str.ofString "append"))), (.cst (.str (Str.ofString "tfno")))]), (.tup [(.cst (.str (Str.ofString "flags"))), (.cst (.str (Str.ofString "tnf")))]), (.tup [(.cst (.str (Str.ofString "store"))), (.cst (.str (Str.ofString "tutfn")))]), (.tup [(.cst (.str (Str.ofString "expunge"))), (.cst (.str (Str.ofString "tu")))]), (.tup [(.cst (.str (Str.ofString "copy"))), (.cst (.str (Str.ofString "tut")))]), (.tup [(.cst (.str (Str.ofString "move"))), (.cst (.str (Str.ofString "tut")))]), (.tup [(.cst (.str (Str.ofString "subscribe"))), (.cst (.str (Str.ofString "t")))]), (.tup [(.cst (.str (Str.ofString "unsubscribe"))), (.cst (.str (Str.ofString "t")))]), (.tup [(.cst (.str (Str.ofString "forget"))), (.cst (.str (Str.ofString "tn")))]), (.tup [(.cst (.str (Str.ofString "snapshot"))), (.cst (.str (Str.ofString "nfr")))])]))]
noncomputable def f02_2 : Fn := ⟨0, 0, b02_2⟩
-- _law_values []
noncomputable def b02_3 : List IS := [(.ret (.list [(.tup [(.cst (.str (Str.ofString "INBOX"))), (.cst (.str (Str.ofString "t")))]), (.tup [(.cst (.str (Str.ofString ""))), (.cst (.str (Str.ofString "t")))]), (.tup [(.cst (.int (7))), (.cst (.str (Str.ofString "n")))]), (.tup [(.neg (.cst (.int (1)))), (.cst (.str (Str.ofString "n")))]), (.tup [(.cst (.bool true)), (.cst (.str (Str.ofString "")))]), (.tup [(.cst .none), (.cst (.str (Str.ofString "")))]), (.tup [(.cst (.bytes #[73, 78, 66, 79, 88])), (.cst (.str (Str.ofString "o")))]), (.tup [(.cst (.bytes #[])), (.cst (.str (Str.ofString "o")))]), (.tup [(.tup []), (.cst (.str (Str.ofString "fur")))]), (.tup [(.tup [(.cst (.str (Str.ofString "a"))), (.cst (.str (Str.ofString "b")))]), (.cst (.str (Str.ofString "fr")))]), (.tup [(.tup [(.cst (.int (1))), (.cst (.int (2)))]), (.cst (.str (Str.ofString "ur")))]), (.tup [(.tup [(.cst (.int (1))), (.cst (.str (Str.ofString "b")))]), (.cst (.str (Str.ofString "r")))]), (.tup [(.tup [(.cst (.bool true))]), (.cst (.str (Str.ofString "r")))]), (.tup [(.list [(.cst (.str (Str.ofString "a")))]), (.cst (.str (Str.ofString "")))]), (.tup [(.tup [(.cst (.bytes #[97]))]), (.cst (.str (Str.ofString "r")))]), (.tup [(.bin .Pow (.cst (.int (2))) (.cst (.int (70)))), (.cst (.str (Str.ofString "n")))])]))]
noncomputable def f02_3 : Fn := ⟨0, 0, b02_3⟩
-- _law_of_sort [(box, 0), (sort, 1), (some, 2)]
noncomputable def b02_4 : List IS := [(.asg (.name 2) (.comp (.var 4) none [4, 5] true 0 [(.call 3 [])] [(.cmp (.var 1) [(.In, (.var 5))])] 3 3)), (.ret (.sub (.var 2) (.call 1 [(.var 0), (.blt .len [(.var 2)])])))]
noncomputable def f02_4 : Fn := ⟨2, 3, b02_4⟩
-- _law_is_let [(deed, 0)]
noncomputable def b02_5 : List IS := [stuckS, (.ret (.cst (.bool true)))]
noncomputable def f02_5 : Fn := ⟨1, 1, b02_5⟩
-- is_number [(value, 0)]
noncomputable def b02_6 : List IS := [(.ret (.bop true [(.blt .isInt [(.var 0)]), (.not (.blt .isBool [(.var 0)]))]))]
noncomputable def f02_6 : Fn := ⟨1, 1, b02_6⟩
-- are_texts [(value, 0)]
noncomputable def b02_7 : List IS := [(.ret (.bop true [(.blt .isTuple [(.var 0)]), (.blt .all [(.comp (.blt .isStr [(.var 2)]) none [2] false 0 [(.var 0)] [] 1 2)])]))]
noncomputable def f02_7 : Fn := ⟨1, 1, b02_7⟩
-- are_numbers [(value, 0)]
noncomputable def b02_8 : List IS := [(.ret (.bop true [(.blt .isTuple [(.var 0)]), (.blt .all [(.comp (.call 6 [(.var 2)]) none [2] false 0 [(.var 0)] [] 1 2)])]))]
noncomputable def f02_8 : Fn := ⟨1, 1, b02_8⟩
-- check_row [(row, 0), (entry, 1), (word, 2), (shape, 3), (value, 4), (letter, 5)]
noncomputable def b02_9 : List IS := [(.ife (.bop false [(.not (.blt .isTuple [(.var 0)])), (.cmp (.blt .len [(.var 0)]) [(.Eq, (.cst (.int (0))))]), (.not (.blt .isStr [(.sub (.var 0) (.cst (.int (0))))]))])
    [(.raise 3)]
    []), (.forr (.name 1) 0 [(.meth .split (.cst (.str (Str.ofString "create:tn delete:t rename:tt append:tfno flags:tnf store:tutfn expunge:tu copy:tut move:tut subscribe:t unsubscribe:t forget:tn snapshot:nfr"))) [(.cst (.str (Str.ofString " ")))])]
    [(.asg (.tup [(.name 2), (.name 3)]) (.meth .split (.var 1) [(.cst (.str (Str.ofString ":")))])), (.ife (.cmp (.var 2) [(.Eq, (.sub (.var 0) (.cst (.int (0)))))])
    [(.ife (.cmp (.blt .len [(.var 0)]) [(.NotEq, (.bin .Add (.blt .len [(.var 3)]) (.cst (.int (1)))))])
    [(.raise 3)]
    []), (.forr (.tup [(.name 4), (.name 5)]) 2 [(.slice (.var 0) (some (.cst (.int (1)))) none), (.var 3)]
    [(.ife (.not (.call 10 [(.var 4), (.var 5)]))
    [(.raise 3)]
    [])]), (.ret (.cst .none))]
    [])]), (.raise 3)]
noncomputable def f02_9 : Fn := ⟨1, 6, b02_9⟩
-- fits_shape [(value, 0), (letter, 1)]
noncomputable def b02_10 : List IS := [(.ife (.cmp (.var 1) [(.Eq, (.cst (.str (Str.ofString "t"))))])
    [(.ret (.blt .isStr [(.var 0)]))]
    []), (.ife (.cmp (.var 1) [(.Eq, (.cst (.str (Str.ofString "n"))))])
    [(.ret (.call 6 [(.var 0)]))]
    []), (.ife (.cmp (.var 1) [(.Eq, (.cst (.str (Str.ofString "o"))))])
    [(.ret (.blt .isBytes [(.var 0)]))]
    []), (.ife (.cmp (.var 1) [(.Eq, (.cst (.str (Str.ofString "f"))))])
    [(.ret (.call 7 [(.var 0)]))]
    []), (.ife (.cmp (.var 1) [(.Eq, (.cst (.str (Str.ofString "u"))))])
    [(.ret (.call 8 [(.var 0)]))]
    []), (.ret (.blt .isTuple [(.var 0)]))]
noncomputable def f02_10 : Fn := ⟨2, 2, b02_10⟩
-- apply [(store, 0), (row, 1), (word, 2)]
noncomputable def b02_11 : List IS := [(.expr (.call 9 [(.var 1)])), (.asg (.name 2) (.sub (.var 1) (.cst (.int (0))))), (.ife (.cmp (.var 2) [(.Eq, (.cst (.str (Str.ofString "create"))))])
    [(.ret stuckE)]
    []), (.ife (.cmp (.var 2) [(.Eq, (.cst (.str (Str.ofString "delete"))))])
    [(.ret stuckE)]
    []), (.ife (.cmp (.var 2) [(.Eq, (.cst (.str (Str.ofString "rename"))))])
    [(.ret stuckE)]
    []), (.ife (.cmp (.var 2) [(.Eq, (.cst (.str (Str.ofString "append"))))])
    [(.ret stuckE)]
    []), (.ife (.cmp (.var 2) [(.Eq, (.cst (.str (Str.ofString "flags"))))])
    [(.ret stuckE)]
    []), (.ife (.cmp (.var 2) [(.Eq, (.cst (.str (Str.ofString "store"))))])
    [(.ret stuckE)]
    []), (.ife (.cmp (.var 2) [(.Eq, (.cst (.str (Str.ofString "expunge"))))])
    [(.ret stuckE)]
    []), (.ife (.bop false [(.cmp (.var 2) [(.Eq, (.cst (.str (Str.ofString "copy"))))]), (.cmp (.var 2) [(.Eq, (.cst (.str (Str.ofString "move"))))])])
    [(.ret stuckE)]
    []), (.ife (.cmp (.var 2) [(.Eq, (.cst (.str (Str.ofString "subscribe"))))])
    [(.ret stuckE)]
    []), (.ife (.cmp (.var 2) [(.Eq, (.cst (.str (Str.ofString "unsubscribe"))))])
    [(.ret stuckE)]
    []), (.ife (.cmp (.var 2) [(.Eq, (.cst (.str (Str.ofString "forget"))))])
    [(.ret stuckE)]
    []), (.ret stuckE)]
noncomputable def f02_11 : Fn := ⟨2, 3, b02_11⟩
-- Store.__init__ [(self, 0)]
noncomputable def b02_12 : List IS := [(.asg (.attr (.var 0) 12) (.dict [((.cst (.str (Str.ofString "INBOX"))), (.new 1 [(.cst (.str (Str.ofString "INBOX"))), (.cst (.int (1)))]))])), (.asg (.attr (.var 0) 13) (.list [])), (.asg (.attr (.var 0) 14) (.cst (.int (2))))]
noncomputable def f02_12 : Fn := ⟨1, 1, b02_12⟩
-- Store.told [(self, 0), (boxes, 1)]
noncomputable def b02_13 : List IS := [(.asg (.name 1) (.blt .tuple [(.comp (.umeth 15 (.sub (.attr (.var 0) 12) (.var 3)) []) none [3] false 0 [(.umeth 19 (.var 0) [])] [] 2 2)])), (.ret (.tup [(.attr (.var 0) 14), (.blt .tuple [(.attr (.var 0) 13)]), (.var 1)]))]
noncomputable def f02_13 : Fn := ⟨1, 2, b02_13⟩
-- Store.names [(self, 0)]
noncomputable def b02_14 : List IS := [(.ret (.blt .sorted [(.blt .list [(.attr (.var 0) 12)])]))]
noncomputable def f02_14 : Fn := ⟨1, 1, b02_14⟩
-- Box.__init__ [(self, 0), (name, 1), (validity, 2)]
noncomputable def b02_15 : List IS := [(.asg (.attr (.var 0) 5) (.var 1)), (.asg (.attr (.var 0) 6) (.var 2)), (.asg (.attr (.var 0) 7) (.cst (.int (1)))), (.asg (.attr (.var 0) 8) (.cst (.int (1)))), (.asg (.attr (.var 0) 9) (.cst (.int (0)))), (.asg (.attr (.var 0) 10) (.list [])), (.asg (.attr (.var 0) 11) (.list []))]
noncomputable def f02_15 : Fn := ⟨3, 3, b02_15⟩
-- Box.told [(self, 0), (letters, 1)]
noncomputable def b02_16 : List IS := [(.asg (.name 1) (.blt .tuple [(.comp (.umeth 15 (.var 3) []) none [3] false 0 [(.attr (.var 0) 10)] [] 2 2)])), (.ret (.tup [(.attr (.var 0) 5), (.attr (.var 0) 6), (.attr (.var 0) 7), (.attr (.var 0) 8), (.attr (.var 0) 9), (.var 1), (.blt .tuple [(.attr (.var 0) 11)])]))]
noncomputable def f02_16 : Fn := ⟨1, 2, b02_16⟩
-- law [(script, 0), (box, 1), (word, 2), (shape, 3), (value, 4), (sorts, 5), (way, 6), (place, 7), (is_right, 8), (before, 9), (bent, 10), (row, 11), (store, 12)]
noncomputable def b02_17 : List IS := [(.asg (.name 1) (.call 0 [(.var 0)])), (.asg (.tup [(.name 2), (.name 3)]) (.sub (.call 2 []) (.call 1 [(.var 1), (.cst (.int (13)))]))), (.asg (.name 11) (.bin .Add (.tup [(.var 2)]) (.blt .tuple [(.comp (.call 4 [(.var 1), (.var 14)]) none [14] false 0 [(.var 3)] [] 13 2)]))), (.ife (.not (.isLet 3 (.call 9 [(.var 11)]) 491 23))
    [(.ret (.cst (.bool false)))]
    []), (.forr (.tup [(.name 4), (.name 5)]) 0 [(.call 3 [])]
    [(.ife (.bop false [(.cmp (.call 6 [(.var 4)]) [(.NotEq, (.cmp (.cst (.str (Str.ofString "n"))) [(.In, (.var 5))]))]), (.cmp (.call 7 [(.var 4)]) [(.NotEq, (.cmp (.cst (.str (Str.ofString "f"))) [(.In, (.var 5))]))]), (.cmp (.call 8 [(.var 4)]) [(.NotEq, (.cmp (.cst (.str (Str.ofString "u"))) [(.In, (.var 5))]))])])
    [(.ret (.cst (.bool false)))]
    [])]), (.asg (.name 6) (.call 1 [(.var 1), (.cst (.int (5)))])), (.asg (.name 7) (.call 1 [(.var 1), (.blt .len [(.var 3)])])), (.asg (.tup [(.name 4), (.name 5)]) (.sub (.call 3 []) (.call 1 [(.var 1), (.cst (.int (16)))]))), (.asg (.name 8) (.cst (.bool false))), (.ife (.cmp (.var 6) [(.Lt, (.cst (.int (2))))])
    [(.asg (.name 10) (.bin .Add (.bin .Add (.slice (.var 11) none (some (.bin .Add (.var 7) (.cst (.int (1)))))) (.tup [(.var 4)])) (.slice (.var 11) (some (.bin .Add (.var 7) (.cst (.int (2))))) none))), (.asg (.name 8) (.cmp (.sub (.var 3) (.var 7)) [(.In, (.var 5))]))]
    [(.ife (.cmp (.var 6) [(.Eq, (.cst (.int (2))))])
    [(.asg (.name 10) (.ite (.cmp (.var 4) [(.Eq, (.cst (.str (Str.ofString ""))))]) (.slice (.var 11) none (some (.neg (.cst (.int (1)))))) (.bin .Add (.var 11) (.tup [(.var 4)]))))]
    [(.ife (.cmp (.var 6) [(.Eq, (.cst (.int (3))))])
    [(.asg (.name 10) (.sub (.list [(.tup [(.cst (.str (Str.ofString "Create"))), (.cst (.str (Str.ofString "x"))), (.cst (.int (7)))]), (.tup [(.cst (.str (Str.ofString ""))), (.cst (.str (Str.ofString "")))]), (.tup [(.cst (.int (7))), (.cst (.str (Str.ofString "x")))]), (.tup [])]) (.bin .Mod (.var 7) (.cst (.int (4))))))]
    [(.asg (.name 10) (.sub (.list [(.blt .list [(.var 11)]), (.var 2), (.cst .none), (.slice (.var 11) (some (.cst (.int (1)))) none)]) (.bin .Mod (.var 7) (.cst (.int (4))))))])])]), (.ife (.cmp (.isLet 3 (.call 9 [(.var 10)]) 509 19) [(.NotEq, (.var 8))])
    [(.ret (.cst (.bool false)))]
    []), (.asg (.name 12) (.new 2 [])), (.asg (.name 9) (.umeth 15 (.var 12) [])), (.ret (.bop false [(.var 8), (.bop true [(.not (.isLet 3 (.call 11 [(.var 12), (.var 10)]) 513 40)), (.cmp (.umeth 15 (.var 12) []) [(.Eq, (.var 9))])])]))]
noncomputable def f02_17 : Fn := ⟨1, 13, b02_17⟩
end Mine
end

section
set_option maxRecDepth 100000
set_option maxHeartbeats 8000000
namespace Mine
open PySem PySem.W PyProof.Rows
noncomputable section
noncomputable def st02 (i : Nat) : Stmt := PySem.Challenge.pw_nz0321_02.main.body.getD i default
noncomputable def inCls (s : Stmt) (j : Nat) : Stmt := match s with
  | .ClassDef _ _ _ b _ _ _ _ _ _ _ => b.getD j default
  | _ => default
noncomputable def fnPs (s : Stmt) : Arguments := match s with
  | .FunctionDef _ p _ _ _ _ _ _ _ _ => p
  | _ => default
noncomputable def fnBd (s : Stmt) : List Stmt := match s with
  | .FunctionDef _ _ b _ _ _ _ _ _ _ => b
  | _ => default
noncomputable def fnSc (s : Stmt) : Scope := match s with
  | .FunctionDef _ _ _ _ _ _ c _ _ _ => c
  | _ => default
noncomputable def K02 (P : Params) : Frag := [
  (3, Obj.mk (Value.type "dict") Option.none (Data.dict #[DictEntry.mk (PyData.keyHash P (Str.ofString "__name__")) (Value.str (Str.ofString "__name__") 165) (Value.str (Str.ofString "law_nz0321_02") 892), DictEntry.mk (PyData.keyHash P (Str.ofString "__doc__")) (Value.str (Str.ofString "__doc__") 166) Value.none, DictEntry.mk (PyData.keyHash P (Str.ofString "__package__")) (Value.str (Str.ofString "__package__") 167) Value.none, DictEntry.mk (PyData.keyHash P (Str.ofString "__loader__")) (Value.str (Str.ofString "__loader__") 168) (Value.builtin "__main__.__loader__#opaque"), DictEntry.mk (PyData.keyHash P (Str.ofString "__spec__")) (Value.str (Str.ofString "__spec__") 169) Value.none, DictEntry.mk (PyData.keyHash P (Str.ofString "__annotations__")) (Value.str (Str.ofString "__annotations__") 170) (Value.ref 6), DictEntry.mk (PyData.keyHash P (Str.ofString "__builtins__")) (Value.str (Str.ofString "__builtins__") 171) (Value.ref 4), DictEntry.mk (PyData.keyHash P (Str.ofString "__file__")) (Value.str (Str.ofString "__file__") 173) (Value.str (Str.ofString "/claim/cut.py") 172), DictEntry.mk (PyData.keyHash P (Str.ofString "__cached__")) (Value.str (Str.ofString "__cached__") 174) Value.none, DictEntry.mk (PyData.keyHash P (Str.ofString "PostError")) (Value.str (Str.ofString "PostError") 228) (Value.ref 39), DictEntry.mk (PyData.keyHash P (Str.ofString "NameFault")) (Value.str (Str.ofString "NameFault") 244) (Value.ref 52), DictEntry.mk (PyData.keyHash P (Str.ofString "StoreFault")) (Value.str (Str.ofString "StoreFault") 260) (Value.ref 64), DictEntry.mk (PyData.keyHash P (Str.ofString "SYSTEM")) (Value.str (Str.ofString "SYSTEM") 264) (Value.str (Str.ofString "\\Seen \\Answered \\Flagged \\Deleted \\Draft") 263), DictEntry.mk (PyData.keyHash P (Str.ofString "NO_KEYWORD")) (Value.str (Str.ofString "NO_KEYWORD") 266) (Value.str (Str.ofString "(){ %*\"\\]") 265), DictEntry.mk (PyData.keyHash P (Str.ofString "MOST_KEYWORD")) (Value.str (Str.ofString "MOST_KEYWORD") 268) (Value.int 60 267), DictEntry.mk (PyData.keyHash P (Str.ofString "system_flags")) (Value.str (Str.ofString "system_flags") 274) (Value.ref 73), DictEntry.mk (PyData.keyHash P (Str.ofString "is_keyword")) (Value.str (Str.ofString "is_keyword") 282) (Value.ref 80), DictEntry.mk (PyData.keyHash P (Str.ofString "flag_name")) (Value.str (Str.ofString "flag_name") 290) (Value.ref 87), DictEntry.mk (PyData.keyHash P (Str.ofString "flag_tuple")) (Value.str (Str.ofString "flag_tuple") 300) (Value.ref 94), DictEntry.mk (PyData.keyHash P (Str.ofString "Letter")) (Value.str (Str.ofString "Letter") 352) (Value.ref 125), DictEntry.mk (PyData.keyHash P (Str.ofString "Box")) (Value.str (Str.ofString "Box") 409) (Value.ref 163), DictEntry.mk (PyData.keyHash P (Str.ofString "remade")) (Value.str (Str.ofString "remade") 415) (Value.ref 172), DictEntry.mk (PyData.keyHash P (Str.ofString "place_of")) (Value.str (Str.ofString "place_of") 426) (Value.ref 179), DictEntry.mk (PyData.keyHash P (Str.ofString "raised")) (Value.str (Str.ofString "raised") 433) (Value.ref 186), DictEntry.mk (PyData.keyHash P (Str.ofString "add_letter")) (Value.str (Str.ofString "add_letter") 445) (Value.ref 193), DictEntry.mk (PyData.keyHash P (Str.ofString "set_flags")) (Value.str (Str.ofString "set_flags") 457) (Value.ref 200), DictEntry.mk (PyData.keyHash P (Str.ofString "flags_after")) (Value.str (Str.ofString "flags_after") 463) (Value.ref 205), DictEntry.mk (PyData.keyHash P (Str.ofString "expunge")) (Value.str (Str.ofString "expunge") 469) (Value.ref 210), DictEntry.mk (PyData.keyHash P (Str.ofString "copy_letters")) (Value.str (Str.ofString "copy_letters") 475) (Value.ref 215), DictEntry.mk (PyData.keyHash P (Str.ofString "move_letters")) (Value.str (Str.ofString "move_letters") 481) (Value.ref 220), DictEntry.mk (PyData.keyHash P (Str.ofString "is_sound")) (Value.str (Str.ofString "is_sound") 487) (Value.ref 225), DictEntry.mk (PyData.keyHash P (Str.ofString "is_refused")) (Value.str (Str.ofString "is_refused") 497) (Value.ref 232), DictEntry.mk (PyData.keyHash P (Str.ofString "store_flags")) (Value.str (Str.ofString "store_flags") 503) (Value.ref 238), DictEntry.mk (PyData.keyHash P (Str.ofString "distinct")) (Value.str (Str.ofString "distinct") 512) (Value.ref 245), DictEntry.mk (PyData.keyHash P (Str.ofString "forget_gone")) (Value.str (Str.ofString "forget_gone") 518) (Value.ref 250), DictEntry.mk (PyData.keyHash P (Str.ofString "upper_text")) (Value.str (Str.ofString "upper_text") 526) (Value.ref 255), DictEntry.mk (PyData.keyHash P (Str.ofString "DELIMITER")) (Value.str (Str.ofString "DELIMITER") 530) (Value.str (Str.ofString "/") 529), DictEntry.mk (PyData.keyHash P (Str.ofString "INBOX_names")) (Value.str (Str.ofString "INBOX_names") 532) (Value.str (Str.ofString "INBOX") 531), DictEntry.mk (PyData.keyHash P (Str.ofString "WILD_SIGNS")) (Value.str (Str.ofString "WILD_SIGNS") 534) (Value.str (Str.ofString "%*") 533), DictEntry.mk (PyData.keyHash P (Str.ofString "is_half")) (Value.str (Str.ofString "is_half") 541) (Value.ref 262), DictEntry.mk (PyData.keyHash P (Str.ofString "first_part")) (Value.str (Str.ofString "first_part") 549) (Value.ref 269), DictEntry.mk (PyData.keyHash P (Str.ofString "normal_name")) (Value.str (Str.ofString "normal_name") 558) (Value.ref 276), DictEntry.mk (PyData.keyHash P (Str.ofString "is_barred_code")) (Value.str (Str.ofString "is_barred_code") 565) (Value.ref 283), DictEntry.mk (PyData.keyHash P (Str.ofString "check_name")) (Value.str (Str.ofString "check_name") 575) (Value.ref 290), DictEntry.mk (PyData.keyHash P (Str.ofString "is_below")) (Value.str (Str.ofString "is_below") 583) (Value.ref 297), DictEntry.mk (PyData.keyHash P (Str.ofString "INBOX_store")) (Value.str (Str.ofString "INBOX_store") 587) (Value.str (Str.ofString "INBOX") 586), DictEntry.mk (PyData.keyHash P (Str.ofString "MOST")) (Value.str (Str.ofString "MOST") 589) (Value.int 4294967295 588), DictEntry.mk (PyData.keyHash P (Str.ofString "MOST_MODSEQ")) (Value.str (Str.ofString "MOST_MODSEQ") 591) (Value.int 9223372036854775807 590), DictEntry.mk (PyData.keyHash P (Str.ofString "SHAPES")) (Value.str (Str.ofString "SHAPES") 593) (Value.str (Str.ofString "create:tn delete:t rename:tt append:tfno flags:tnf store:tutfn expunge:tu copy:tut move:tut subscribe:t unsubscribe:t forget:tn snapshot:nfr") 592), DictEntry.mk (PyData.keyHash P (Str.ofString "Store")) (Value.str (Str.ofString "Store") 653) (Value.ref 340), DictEntry.mk (PyData.keyHash P (Str.ofString "is_number")) (Value.str (Str.ofString "is_number") 660) (Value.ref 351), DictEntry.mk (PyData.keyHash P (Str.ofString "are_texts")) (Value.str (Str.ofString "are_texts") 666) (Value.ref 356), DictEntry.mk (PyData.keyHash P (Str.ofString "are_numbers")) (Value.str (Str.ofString "are_numbers") 672) (Value.ref 361), DictEntry.mk (PyData.keyHash P (Str.ofString "fits_shape")) (Value.str (Str.ofString "fits_shape") 680) (Value.ref 368), DictEntry.mk (PyData.keyHash P (Str.ofString "check_row")) (Value.str (Str.ofString "check_row") 692) (Value.ref 375), DictEntry.mk (PyData.keyHash P (Str.ofString "settled_name")) (Value.str (Str.ofString "settled_name") 701) (Value.ref 382), DictEntry.mk (PyData.keyHash P (Str.ofString "need_modseqs")) (Value.str (Str.ofString "need_modseqs") 709) (Value.ref 389), DictEntry.mk (PyData.keyHash P (Str.ofString "need_room")) (Value.str (Str.ofString "need_room") 717) (Value.ref 396), DictEntry.mk (PyData.keyHash P (Str.ofString "need_new")) (Value.str (Str.ofString "need_new") 725) (Value.ref 403), DictEntry.mk (PyData.keyHash P (Str.ofString "need_validity")) (Value.str (Str.ofString "need_validity") 733) (Value.ref 410), DictEntry.mk (PyData.keyHash P (Str.ofString "need_uids")) (Value.str (Str.ofString "need_uids") 739) (Value.ref 415), DictEntry.mk (PyData.keyHash P (Str.ofString "create_box")) (Value.str (Str.ofString "create_box") 749) (Value.ref 422), DictEntry.mk (PyData.keyHash P (Str.ofString "delete_box")) (Value.str (Str.ofString "delete_box") 758) (Value.ref 429), DictEntry.mk (PyData.keyHash P (Str.ofString "renamed_pairs")) (Value.str (Str.ofString "renamed_pairs") 770) (Value.ref 436), DictEntry.mk (PyData.keyHash P (Str.ofString "rename_box")) (Value.str (Str.ofString "rename_box") 776) (Value.ref 441), DictEntry.mk (PyData.keyHash P (Str.ofString "rename_inbox")) (Value.str (Str.ofString "rename_inbox") 786) (Value.ref 448), DictEntry.mk (PyData.keyHash P (Str.ofString "append_letter")) (Value.str (Str.ofString "append_letter") 799) (Value.ref 455), DictEntry.mk (PyData.keyHash P (Str.ofString "flag_letter")) (Value.str (Str.ofString "flag_letter") 810) (Value.ref 462), DictEntry.mk (PyData.keyHash P (Str.ofString "store_letters")) (Value.str (Str.ofString "store_letters") 823) (Value.ref 469), DictEntry.mk (PyData.keyHash P (Str.ofString "expunge_letters")) (Value.str (Str.ofString "expunge_letters") 833) (Value.ref 476), DictEntry.mk (PyData.keyHash P (Str.ofString "copy_or_move")) (Value.str (Str.ofString "copy_or_move") 839) (Value.ref 481), DictEntry.mk (PyData.keyHash P (Str.ofString "subscribe_name")) (Value.str (Str.ofString "subscribe_name") 848) (Value.ref 488), DictEntry.mk (PyData.keyHash P (Str.ofString "unsubscribe_name")) (Value.str (Str.ofString "unsubscribe_name") 854) (Value.ref 493), DictEntry.mk (PyData.keyHash P (Str.ofString "is_letter_told")) (Value.str (Str.ofString "is_letter_told") 861) (Value.ref 500), DictEntry.mk (PyData.keyHash P (Str.ofString "is_box_told")) (Value.str (Str.ofString "is_box_told") 867) (Value.ref 505), DictEntry.mk (PyData.keyHash P (Str.ofString "need_sound")) (Value.str (Str.ofString "need_sound") 876) (Value.ref 512), DictEntry.mk (PyData.keyHash P (Str.ofString "restore")) (Value.str (Str.ofString "restore") 882) (Value.ref 517), DictEntry.mk (PyData.keyHash P (Str.ofString "apply")) (Value.str (Str.ofString "apply") 891) (Value.ref 524), DictEntry.mk (PyData.keyHash P (Str.ofString "_law_box")) (Value.str (Str.ofString "_law_box") 899) (Value.ref 529), DictEntry.mk (PyData.keyHash P (Str.ofString "_law_draw")) (Value.str (Str.ofString "_law_draw") 909) (Value.ref 536), DictEntry.mk (PyData.keyHash P (Str.ofString "_law_shapes")) (Value.str (Str.ofString "_law_shapes") 915) (Value.ref 543), DictEntry.mk (PyData.keyHash P (Str.ofString "_law_values")) (Value.str (Str.ofString "_law_values") 921) (Value.ref 550), DictEntry.mk (PyData.keyHash P (Str.ofString "_law_of_sort")) (Value.str (Str.ofString "_law_of_sort") 927) (Value.ref 555), DictEntry.mk (PyData.keyHash P (Str.ofString "_law_is_let")) (Value.str (Str.ofString "_law_is_let") 934) (Value.ref 562), DictEntry.mk (PyData.keyHash P (Str.ofString "law")) (Value.str (Str.ofString "law") 940) (Value.ref 567)] 85) #[]),
  (22, Obj.mk (Value.type "tuple") Option.none (Data.seq #[Value.int (-1) 202]) #[]),
  (28, Obj.mk (Value.type "code") Option.none (Data.fields #[Value.str (Str.ofString "__init__") 203, Value.str (Str.ofString "PostError.__init__") 204, Value.str (Str.ofString "/claim/cut.py") 205, Value.int 4 0, Value.int 3 0, Value.int 0 0, Value.int 0 0, Value.int 3 0, Value.ref 23, Value.bool Bool.true, Value.int 181 0, Value.ref 24, Value.none, Value.ref 25, Value.ref 26, Value.ref 27, Value.int 209 0, Value.int 4 0, Value.str (Str.ofString "/claim/cut.py") 210]) #[]),
  (29, ⟨Value.type "function", Option.none, .func ⟨(Str.ofString "__init__"), (Str.ofString "PostError.__init__"), (fnPs (inCls (st02 1) 0)), (FuncBody.stmts (fnBd (inCls (st02 1) 0))), (fnSc (inCls (st02 1) 0)), (3), ([]), (Value.ref 22), (Value.none), (Value.none), (Value.str (Str.ofString "postkeep.errors") 187), (Option.none), (Value.ref 28), (Value.none), (0)⟩, #[]⟩),
  (38, Obj.mk (Value.type "dict") Option.none (Data.dict #[DictEntry.mk (PyData.keyHash P (Str.ofString "__module__")) (Value.str (Str.ofString "__module__") 196) (Value.str (Str.ofString "postkeep.errors") 187), DictEntry.mk (PyData.keyHash P (Str.ofString "__firstlineno__")) (Value.str (Str.ofString "__firstlineno__") 200) (Value.int 2 199), DictEntry.mk (PyData.keyHash P (Str.ofString "__init__")) (Value.str (Str.ofString "__init__") 211) (Value.ref 29), DictEntry.mk (PyData.keyHash P (Str.ofString "told")) (Value.str (Str.ofString "told") 218) (Value.ref 36), DictEntry.mk (PyData.keyHash P (Str.ofString "__static_attributes__")) (Value.str (Str.ofString "__static_attributes__") 221) (Value.ref 37), DictEntry.mk (PyData.keyHash P (Str.ofString "__weakref__")) (Value.str (Str.ofString "__weakref__") 223) (Value.ref 40), DictEntry.mk (PyData.keyHash P (Str.ofString "__doc__")) (Value.str (Str.ofString "__doc__") 224) Value.none] 3) #[]),
  (39, Obj.mk (Value.type "type") Option.none (Data.cls (ClassData.mk (Str.ofString "PostError") [Value.type "Exception"] [Value.ref 39, Value.type "Exception", Value.type "BaseException", Value.type "object"] 38 (Str.ofString "PostError") Bool.true [] [Value.ref 52, Value.ref 64] Bool.false Option.none Bool.false)) #[Option.some (Value.ref 15), Option.none, Option.some (Value.str (Str.ofString "PostError") 189), Option.some (Value.str (Str.ofString "PostError") 197), Option.some (Value.builtin "Exception.__new__"), Option.some (Value.bool Bool.true)]),
  (63, Obj.mk (Value.type "dict") Option.none (Data.dict #[DictEntry.mk (PyData.keyHash P (Str.ofString "__module__")) (Value.str (Str.ofString "__module__") 252) (Value.str (Str.ofString "postkeep.errors") 187), DictEntry.mk (PyData.keyHash P (Str.ofString "__firstlineno__")) (Value.str (Str.ofString "__firstlineno__") 256) (Value.int 13 255), DictEntry.mk (PyData.keyHash P (Str.ofString "__static_attributes__")) (Value.str (Str.ofString "__static_attributes__") 257) (Value.ref 62), DictEntry.mk (PyData.keyHash P (Str.ofString "__doc__")) (Value.str (Str.ofString "__doc__") 258) Value.none] 2) #[]),
  (64, Obj.mk (Value.type "type") Option.none (Data.cls (ClassData.mk (Str.ofString "StoreFault") [Value.ref 39] [Value.ref 64, Value.ref 39, Value.type "Exception", Value.type "BaseException", Value.type "object"] 63 (Str.ofString "StoreFault") Bool.true [] [] Bool.false Option.none Bool.false)) #[Option.some (Value.ref 55), Option.none, Option.some (Value.str (Str.ofString "StoreFault") 245), Option.some (Value.str (Str.ofString "StoreFault") 253), Option.some (Value.builtin "Exception.__new__"), Option.some (Value.bool Bool.true)]),
  (124, Obj.mk (Value.type "dict") Option.none (Data.dict #[DictEntry.mk (PyData.keyHash P (Str.ofString "__module__")) (Value.str (Str.ofString "__module__") 308) (Value.str (Str.ofString "postkeep.boxes") 261), DictEntry.mk (PyData.keyHash P (Str.ofString "__firstlineno__")) (Value.str (Str.ofString "__firstlineno__") 312) (Value.int 42 311), DictEntry.mk (PyData.keyHash P (Str.ofString "__init__")) (Value.str (Str.ofString "__init__") 324) (Value.ref 108), DictEntry.mk (PyData.keyHash P (Str.ofString "has")) (Value.str (Str.ofString "has") 332) (Value.ref 115), DictEntry.mk (PyData.keyHash P (Str.ofString "told")) (Value.str (Str.ofString "told") 339) (Value.ref 122), DictEntry.mk (PyData.keyHash P (Str.ofString "__static_attributes__")) (Value.str (Str.ofString "__static_attributes__") 345) (Value.ref 123), DictEntry.mk (PyData.keyHash P (Str.ofString "__dict__")) (Value.str (Str.ofString "__dict__") 347) (Value.ref 126), DictEntry.mk (PyData.keyHash P (Str.ofString "__weakref__")) (Value.str (Str.ofString "__weakref__") 349) (Value.ref 127), DictEntry.mk (PyData.keyHash P (Str.ofString "__doc__")) (Value.str (Str.ofString "__doc__") 350) Value.none] 4) #[]),
  (125, Obj.mk (Value.type "type") Option.none (Data.cls (ClassData.mk (Str.ofString "Letter") [Value.type "object"] [Value.ref 125, Value.type "object"] 124 (Str.ofString "Letter") Bool.true [] [] Bool.false Option.none Bool.false)) #[Option.none, Option.none, Option.some (Value.str (Str.ofString "Letter") 301), Option.some (Value.str (Str.ofString "Letter") 309), Option.some (Value.builtin "object.__new__"), Option.some (Value.bool Bool.true)]),
  (142, Obj.mk (Value.type "code") Option.none (Data.fields #[Value.str (Str.ofString "__init__") 365, Value.str (Str.ofString "Box.__init__") 366, Value.str (Str.ofString "/claim/cut.py") 367, Value.int 58 0, Value.int 3 0, Value.int 0 0, Value.int 0 0, Value.int 3 0, Value.ref 137, Value.bool Bool.true, Value.int 181 0, Value.ref 138, Value.none, Value.ref 139, Value.ref 140, Value.ref 141, Value.int 371 0, Value.int 58 0, Value.str (Str.ofString "/claim/cut.py") 372]) #[]),
  (143, ⟨Value.type "function", Option.none, .func ⟨(Str.ofString "__init__"), (Str.ofString "Box.__init__"), (fnPs (inCls (st02 13) 0)), (FuncBody.stmts (fnBd (inCls (st02 13) 0))), (fnSc (inCls (st02 13) 0)), (3), ([]), (Value.none), (Value.none), (Value.none), (Value.str (Str.ofString "postkeep.boxes") 261), (Option.none), (Value.ref 142), (Value.none), (0)⟩, #[]⟩),
  (159, Obj.mk (Value.type "code") Option.none (Data.fields #[Value.str (Str.ofString "told") 389, Value.str (Str.ofString "Box.told") 390, Value.str (Str.ofString "/claim/cut.py") 391, Value.int 74 0, Value.int 1 0, Value.int 0 0, Value.int 0 0, Value.int 3 0, Value.ref 156, Value.bool Bool.true, Value.int 181 0, Value.ref 157, Value.none, Value.none, Value.none, Value.ref 158, Value.int 392 0, Value.int 74 0, Value.str (Str.ofString "/claim/cut.py") 393]) #[]),
  (160, ⟨Value.type "function", Option.none, .func ⟨(Str.ofString "told"), (Str.ofString "Box.told"), (fnPs (inCls (st02 13) 3)), (FuncBody.stmts (fnBd (inCls (st02 13) 3))), (fnSc (inCls (st02 13) 3)), (3), ([]), (Value.none), (Value.none), (Value.none), (Value.str (Str.ofString "postkeep.boxes") 261), (Option.none), (Value.ref 159), (Value.none), (0)⟩, #[]⟩),
  (162, Obj.mk (Value.type "dict") Option.none (Data.dict #[DictEntry.mk (PyData.keyHash P (Str.ofString "__module__")) (Value.str (Str.ofString "__module__") 360) (Value.str (Str.ofString "postkeep.boxes") 261), DictEntry.mk (PyData.keyHash P (Str.ofString "__firstlineno__")) (Value.str (Str.ofString "__firstlineno__") 364) (Value.int 56 363), DictEntry.mk (PyData.keyHash P (Str.ofString "__init__")) (Value.str (Str.ofString "__init__") 373) (Value.ref 143), DictEntry.mk (PyData.keyHash P (Str.ofString "letter")) (Value.str (Str.ofString "letter") 382) (Value.ref 150), DictEntry.mk (PyData.keyHash P (Str.ofString "uids")) (Value.str (Str.ofString "uids") 388) (Value.ref 155), DictEntry.mk (PyData.keyHash P (Str.ofString "told")) (Value.str (Str.ofString "told") 394) (Value.ref 160), DictEntry.mk (PyData.keyHash P (Str.ofString "__static_attributes__")) (Value.str (Str.ofString "__static_attributes__") 402) (Value.ref 161), DictEntry.mk (PyData.keyHash P (Str.ofString "__dict__")) (Value.str (Str.ofString "__dict__") 404) (Value.ref 164), DictEntry.mk (PyData.keyHash P (Str.ofString "__weakref__")) (Value.str (Str.ofString "__weakref__") 406) (Value.ref 165), DictEntry.mk (PyData.keyHash P (Str.ofString "__doc__")) (Value.str (Str.ofString "__doc__") 407) Value.none] 4) #[]),
  (163, Obj.mk (Value.type "type") Option.none (Data.cls (ClassData.mk (Str.ofString "Box") [Value.type "object"] [Value.ref 163, Value.type "object"] 162 (Str.ofString "Box") Bool.true [] [] Bool.false Option.none Bool.false)) #[Option.none, Option.none, Option.some (Value.str (Str.ofString "Box") 353), Option.some (Value.str (Str.ofString "Box") 361), Option.some (Value.builtin "object.__new__"), Option.some (Value.bool Bool.true)]),
  (310, Obj.mk (Value.type "code") Option.none (Data.fields #[Value.str (Str.ofString "__init__") 606, Value.str (Str.ofString "Store.__init__") 607, Value.str (Str.ofString "/claim/cut.py") 608, Value.int 231 0, Value.int 1 0, Value.int 0 0, Value.int 0 0, Value.int 3 0, Value.ref 305, Value.bool Bool.true, Value.int 181 0, Value.ref 306, Value.none, Value.ref 307, Value.ref 308, Value.ref 309, Value.int 610 0, Value.int 231 0, Value.str (Str.ofString "/claim/cut.py") 611]) #[]),
  (311, ⟨Value.type "function", Option.none, .func ⟨(Str.ofString "__init__"), (Str.ofString "Store.__init__"), (fnPs (inCls (st02 46) 0)), (FuncBody.stmts (fnBd (inCls (st02 46) 0))), (fnSc (inCls (st02 46) 0)), (3), ([]), (Value.none), (Value.none), (Value.none), (Value.str (Str.ofString "postkeep.store") 584), (Option.none), (Value.ref 310), (Value.none), (0)⟩, #[]⟩),
  (331, Obj.mk (Value.type "code") Option.none (Data.fields #[Value.str (Str.ofString "names") 630, Value.str (Str.ofString "Store.names") 631, Value.str (Str.ofString "/claim/cut.py") 632, Value.int 245 0, Value.int 1 0, Value.int 0 0, Value.int 0 0, Value.int 3 0, Value.ref 326, Value.bool Bool.true, Value.int 181 0, Value.ref 327, Value.none, Value.ref 328, Value.ref 329, Value.ref 330, Value.int 634 0, Value.int 245 0, Value.str (Str.ofString "/claim/cut.py") 635]) #[]),
  (332, ⟨Value.type "function", Option.none, .func ⟨(Str.ofString "names"), (Str.ofString "Store.names"), (fnPs (inCls (st02 46) 3)), (FuncBody.stmts (fnBd (inCls (st02 46) 3))), (fnSc (inCls (st02 46) 3)), (3), ([]), (Value.none), (Value.none), (Value.none), (Value.str (Str.ofString "postkeep.store") 584), (Option.none), (Value.ref 331), (Value.none), (0)⟩, #[]⟩),
  (336, Obj.mk (Value.type "code") Option.none (Data.fields #[Value.str (Str.ofString "told") 637, Value.str (Str.ofString "Store.told") 638, Value.str (Str.ofString "/claim/cut.py") 639, Value.int 248 0, Value.int 1 0, Value.int 0 0, Value.int 0 0, Value.int 3 0, Value.ref 333, Value.bool Bool.true, Value.int 181 0, Value.ref 334, Value.none, Value.none, Value.none, Value.ref 335, Value.int 640 0, Value.int 248 0, Value.str (Str.ofString "/claim/cut.py") 641]) #[]),
  (337, ⟨Value.type "function", Option.none, .func ⟨(Str.ofString "told"), (Str.ofString "Store.told"), (fnPs (inCls (st02 46) 4)), (FuncBody.stmts (fnBd (inCls (st02 46) 4))), (fnSc (inCls (st02 46) 4)), (3), ([]), (Value.none), (Value.none), (Value.none), (Value.str (Str.ofString "postkeep.store") 584), (Option.none), (Value.ref 336), (Value.none), (0)⟩, #[]⟩),
  (339, Obj.mk (Value.type "dict") Option.none (Data.dict #[DictEntry.mk (PyData.keyHash P (Str.ofString "__module__")) (Value.str (Str.ofString "__module__") 601) (Value.str (Str.ofString "postkeep.store") 584), DictEntry.mk (PyData.keyHash P (Str.ofString "__firstlineno__")) (Value.str (Str.ofString "__firstlineno__") 605) (Value.int 229 604), DictEntry.mk (PyData.keyHash P (Str.ofString "__init__")) (Value.str (Str.ofString "__init__") 612) (Value.ref 311), DictEntry.mk (PyData.keyHash P (Str.ofString "has")) (Value.str (Str.ofString "has") 620) (Value.ref 318), DictEntry.mk (PyData.keyHash P (Str.ofString "box")) (Value.str (Str.ofString "box") 629) (Value.ref 325), DictEntry.mk (PyData.keyHash P (Str.ofString "names")) (Value.str (Str.ofString "names") 636) (Value.ref 332), DictEntry.mk (PyData.keyHash P (Str.ofString "told")) (Value.str (Str.ofString "told") 642) (Value.ref 337), DictEntry.mk (PyData.keyHash P (Str.ofString "__static_attributes__")) (Value.str (Str.ofString "__static_attributes__") 646) (Value.ref 338), DictEntry.mk (PyData.keyHash P (Str.ofString "__dict__")) (Value.str (Str.ofString "__dict__") 648) (Value.ref 341), DictEntry.mk (PyData.keyHash P (Str.ofString "__weakref__")) (Value.str (Str.ofString "__weakref__") 650) (Value.ref 342), DictEntry.mk (PyData.keyHash P (Str.ofString "__doc__")) (Value.str (Str.ofString "__doc__") 651) Value.none] 4) #[]),
  (340, Obj.mk (Value.type "type") Option.none (Data.cls (ClassData.mk (Str.ofString "Store") [Value.type "object"] [Value.ref 340, Value.type "object"] 339 (Str.ofString "Store") Bool.true [] [] Bool.false Option.none Bool.false)) #[Option.none, Option.none, Option.some (Value.str (Str.ofString "Store") 594), Option.some (Value.str (Str.ofString "Store") 602), Option.some (Value.builtin "object.__new__"), Option.some (Value.bool Bool.true)]),
  (350, Obj.mk (Value.type "code") Option.none (Data.fields #[Value.str (Str.ofString "is_number") 654, Value.str (Str.ofString "is_number") 655, Value.str (Str.ofString "/claim/cut.py") 656, Value.int 251 0, Value.int 1 0, Value.int 0 0, Value.int 0 0, Value.int 3 0, Value.ref 345, Value.bool Bool.true, Value.int 181 0, Value.ref 346, Value.none, Value.ref 347, Value.ref 348, Value.ref 349, Value.int 658 0, Value.int 251 0, Value.str (Str.ofString "/claim/cut.py") 659]) #[]),
  (351, ⟨Value.type "function", Option.none, .func ⟨(Str.ofString "is_number"), (Str.ofString "is_number"), (fnPs (st02 47)), (FuncBody.stmts (fnBd (st02 47))), (fnSc (st02 47)), (3), ([]), (Value.none), (Value.none), (Value.none), (Value.str (Str.ofString "postkeep.store") 584), (Option.none), (Value.ref 350), (Value.none), (0)⟩, #[]⟩),
  (355, Obj.mk (Value.type "code") Option.none (Data.fields #[Value.str (Str.ofString "are_texts") 661, Value.str (Str.ofString "are_texts") 662, Value.str (Str.ofString "/claim/cut.py") 663, Value.int 253 0, Value.int 1 0, Value.int 0 0, Value.int 0 0, Value.int 3 0, Value.ref 352, Value.bool Bool.true, Value.int 181 0, Value.ref 353, Value.none, Value.none, Value.none, Value.ref 354, Value.int 664 0, Value.int 253 0, Value.str (Str.ofString "/claim/cut.py") 665]) #[]),
  (356, ⟨Value.type "function", Option.none, .func ⟨(Str.ofString "are_texts"), (Str.ofString "are_texts"), (fnPs (st02 48)), (FuncBody.stmts (fnBd (st02 48))), (fnSc (st02 48)), (3), ([]), (Value.none), (Value.none), (Value.none), (Value.str (Str.ofString "postkeep.store") 584), (Option.none), (Value.ref 355), (Value.none), (0)⟩, #[]⟩),
  (360, Obj.mk (Value.type "code") Option.none (Data.fields #[Value.str (Str.ofString "are_numbers") 667, Value.str (Str.ofString "are_numbers") 668, Value.str (Str.ofString "/claim/cut.py") 669, Value.int 255 0, Value.int 1 0, Value.int 0 0, Value.int 0 0, Value.int 3 0, Value.ref 357, Value.bool Bool.true, Value.int 181 0, Value.ref 358, Value.none, Value.none, Value.none, Value.ref 359, Value.int 670 0, Value.int 255 0, Value.str (Str.ofString "/claim/cut.py") 671]) #[]),
  (361, ⟨Value.type "function", Option.none, .func ⟨(Str.ofString "are_numbers"), (Str.ofString "are_numbers"), (fnPs (st02 49)), (FuncBody.stmts (fnBd (st02 49))), (fnSc (st02 49)), (3), ([]), (Value.none), (Value.none), (Value.none), (Value.str (Str.ofString "postkeep.store") 584), (Option.none), (Value.ref 360), (Value.none), (0)⟩, #[]⟩),
  (367, Obj.mk (Value.type "code") Option.none (Data.fields #[Value.str (Str.ofString "fits_shape") 673, Value.str (Str.ofString "fits_shape") 674, Value.str (Str.ofString "/claim/cut.py") 675, Value.int 257 0, Value.int 2 0, Value.int 0 0, Value.int 0 0, Value.int 3 0, Value.ref 362, Value.bool Bool.true, Value.int 181 0, Value.ref 363, Value.none, Value.ref 364, Value.ref 365, Value.ref 366, Value.int 678 0, Value.int 257 0, Value.str (Str.ofString "/claim/cut.py") 679]) #[]),
  (368, ⟨Value.type "function", Option.none, .func ⟨(Str.ofString "fits_shape"), (Str.ofString "fits_shape"), (fnPs (st02 50)), (FuncBody.stmts (fnBd (st02 50))), (fnSc (st02 50)), (3), ([]), (Value.none), (Value.none), (Value.none), (Value.str (Str.ofString "postkeep.store") 584), (Option.none), (Value.ref 367), (Value.none), (0)⟩, #[]⟩),
  (374, Obj.mk (Value.type "code") Option.none (Data.fields #[Value.str (Str.ofString "check_row") 681, Value.str (Str.ofString "check_row") 682, Value.str (Str.ofString "/claim/cut.py") 683, Value.int 269 0, Value.int 1 0, Value.int 0 0, Value.int 0 0, Value.int 3 0, Value.ref 369, Value.bool Bool.true, Value.int 181 0, Value.ref 370, Value.none, Value.ref 371, Value.ref 372, Value.ref 373, Value.int 690 0, Value.int 269 0, Value.str (Str.ofString "/claim/cut.py") 691]) #[]),
  (375, ⟨Value.type "function", Option.none, .func ⟨(Str.ofString "check_row"), (Str.ofString "check_row"), (fnPs (st02 51)), (FuncBody.stmts (fnBd (st02 51))), (fnSc (st02 51)), (3), ([]), (Value.none), (Value.none), (Value.none), (Value.str (Str.ofString "postkeep.store") 584), (Option.none), (Value.ref 374), (Value.none), (0)⟩, #[]⟩),
  (523, Obj.mk (Value.type "code") Option.none (Data.fields #[Value.str (Str.ofString "apply") 883, Value.str (Str.ofString "apply") 884, Value.str (Str.ofString "/claim/cut.py") 885, Value.int 427 0, Value.int 2 0, Value.int 0 0, Value.int 0 0, Value.int 3 0, Value.ref 518, Value.bool Bool.true, Value.int 181 0, Value.ref 519, Value.none, Value.ref 520, Value.ref 521, Value.ref 522, Value.int 889 0, Value.int 427 0, Value.str (Str.ofString "/claim/cut.py") 890]) #[]),
  (524, ⟨Value.type "function", Option.none, .func ⟨(Str.ofString "apply"), (Str.ofString "apply"), (fnPs (st02 74)), (FuncBody.stmts (fnBd (st02 74))), (fnSc (st02 74)), (3), ([]), (Value.none), (Value.none), (Value.none), (Value.str (Str.ofString "postkeep.store") 584), (Option.none), (Value.ref 523), (Value.none), (0)⟩, #[]⟩),
  (528, Obj.mk (Value.type "code") Option.none (Data.fields #[Value.str (Str.ofString "_law_box") 894, Value.str (Str.ofString "_law_box") 895, Value.str (Str.ofString "/claim/cut.py") 896, Value.int 454 0, Value.int 1 0, Value.int 0 0, Value.int 0 0, Value.int 3 0, Value.ref 525, Value.bool Bool.true, Value.int 181 0, Value.ref 526, Value.none, Value.none, Value.none, Value.ref 527, Value.int 897 0, Value.int 454 0, Value.str (Str.ofString "/claim/cut.py") 898]) #[]),
  (529, ⟨Value.type "function", Option.none, .func ⟨(Str.ofString "_law_box"), (Str.ofString "_law_box"), (fnPs (st02 76)), (FuncBody.stmts (fnBd (st02 76))), (fnSc (st02 76)), (3), ([]), (Value.none), (Value.none), (Value.none), (Value.str (Str.ofString "law_nz0321_02") 892), (Option.none), (Value.ref 528), (Value.none), (0)⟩, #[]⟩),
  (535, Obj.mk (Value.type "code") Option.none (Data.fields #[Value.str (Str.ofString "_law_draw") 900, Value.str (Str.ofString "_law_draw") 901, Value.str (Str.ofString "/claim/cut.py") 902, Value.int 463 0, Value.int 2 0, Value.int 0 0, Value.int 0 0, Value.int 3 0, Value.ref 530, Value.bool Bool.true, Value.int 181 0, Value.ref 531, Value.none, Value.ref 532, Value.ref 533, Value.ref 534, Value.int 907 0, Value.int 463 0, Value.str (Str.ofString "/claim/cut.py") 908]) #[]),
  (536, ⟨Value.type "function", Option.none, .func ⟨(Str.ofString "_law_draw"), (Str.ofString "_law_draw"), (fnPs (st02 77)), (FuncBody.stmts (fnBd (st02 77))), (fnSc (st02 77)), (3), ([]), (Value.none), (Value.none), (Value.none), (Value.str (Str.ofString "law_nz0321_02") 892), (Option.none), (Value.ref 535), (Value.none), (0)⟩, #[]⟩),
  (542, Obj.mk (Value.type "code") Option.none (Data.fields #[Value.str (Str.ofString "_law_shapes") 910, Value.str (Str.ofString "_law_shapes") 911, Value.str (Str.ofString "/claim/cut.py") 912, Value.int 474 0, Value.int 0 0, Value.int 0 0, Value.int 0 0, Value.int 3 0, Value.ref 537, Value.bool Bool.true, Value.int 181 0, Value.ref 538, Value.none, Value.ref 539, Value.ref 540, Value.ref 541, Value.int 913 0, Value.int 474 0, Value.str (Str.ofString "/claim/cut.py") 914]) #[]),
  (543, ⟨Value.type "function", Option.none, .func ⟨(Str.ofString "_law_shapes"), (Str.ofString "_law_shapes"), (fnPs (st02 78)), (FuncBody.stmts (fnBd (st02 78))), (fnSc (st02 78)), (3), ([]), (Value.none), (Value.none), (Value.none), (Value.str (Str.ofString "law_nz0321_02") 892), (Option.none), (Value.ref 542), (Value.none), (0)⟩, #[]⟩),
  (549, Obj.mk (Value.type "code") Option.none (Data.fields #[Value.str (Str.ofString "_law_values") 916, Value.str (Str.ofString "_law_values") 917, Value.str (Str.ofString "/claim/cut.py") 918, Value.int 476 0, Value.int 0 0, Value.int 0 0, Value.int 0 0, Value.int 3 0, Value.ref 544, Value.bool Bool.true, Value.int 181 0, Value.ref 545, Value.none, Value.ref 546, Value.ref 547, Value.ref 548, Value.int 919 0, Value.int 476 0, Value.str (Str.ofString "/claim/cut.py") 920]) #[]),
  (550, ⟨Value.type "function", Option.none, .func ⟨(Str.ofString "_law_values"), (Str.ofString "_law_values"), (fnPs (st02 79)), (FuncBody.stmts (fnBd (st02 79))), (fnSc (st02 79)), (3), ([]), (Value.none), (Value.none), (Value.none), (Value.str (Str.ofString "law_nz0321_02") 892), (Option.none), (Value.ref 549), (Value.none), (0)⟩, #[]⟩),
  (554, Obj.mk (Value.type "code") Option.none (Data.fields #[Value.str (Str.ofString "_law_of_sort") 922, Value.str (Str.ofString "_law_of_sort") 923, Value.str (Str.ofString "/claim/cut.py") 924, Value.int 478 0, Value.int 2 0, Value.int 0 0, Value.int 0 0, Value.int 3 0, Value.ref 551, Value.bool Bool.true, Value.int 181 0, Value.ref 552, Value.none, Value.none, Value.none, Value.ref 553, Value.int 925 0, Value.int 478 0, Value.str (Str.ofString "/claim/cut.py") 926]) #[]),
  (555, ⟨Value.type "function", Option.none, .func ⟨(Str.ofString "_law_of_sort"), (Str.ofString "_law_of_sort"), (fnPs (st02 80)), (FuncBody.stmts (fnBd (st02 80))), (fnSc (st02 80)), (3), ([]), (Value.none), (Value.none), (Value.none), (Value.str (Str.ofString "law_nz0321_02") 892), (Option.none), (Value.ref 554), (Value.none), (0)⟩, #[]⟩),
  (561, Obj.mk (Value.type "code") Option.none (Data.fields #[Value.str (Str.ofString "_law_is_let") 928, Value.str (Str.ofString "_law_is_let") 929, Value.str (Str.ofString "/claim/cut.py") 930, Value.int 481 0, Value.int 1 0, Value.int 0 0, Value.int 0 0, Value.int 3 0, Value.ref 556, Value.bool Bool.true, Value.int 181 0, Value.ref 557, Value.none, Value.ref 558, Value.ref 559, Value.ref 560, Value.int 932 0, Value.int 481 0, Value.str (Str.ofString "/claim/cut.py") 933]) #[]),
  (562, ⟨Value.type "function", Option.none, .func ⟨(Str.ofString "_law_is_let"), (Str.ofString "_law_is_let"), (fnPs (st02 81)), (FuncBody.stmts (fnBd (st02 81))), (fnSc (st02 81)), (3), ([]), (Value.none), (Value.none), (Value.none), (Value.str (Str.ofString "law_nz0321_02") 892), (Option.none), (Value.ref 561), (Value.none), (0)⟩, #[]⟩),
  (566, Obj.mk (Value.type "code") Option.none (Data.fields #[Value.str (Str.ofString "law") 935, Value.str (Str.ofString "law") 936, Value.str (Str.ofString "/claim/cut.py") 937, Value.int 487 0, Value.int 1 0, Value.int 0 0, Value.int 0 0, Value.int 3 0, Value.ref 563, Value.bool Bool.true, Value.int 181 0, Value.ref 564, Value.none, Value.none, Value.none, Value.ref 565, Value.int 938 0, Value.int 487 0, Value.str (Str.ofString "/claim/cut.py") 939]) #[]),
  (567, ⟨Value.type "function", Option.none, .func ⟨(Str.ofString "law"), (Str.ofString "law"), (fnPs (st02 82)), (FuncBody.stmts (fnBd (st02 82))), (fnSc (st02 82)), (3), ([]), (Value.none), (Value.none), (Value.none), (Value.str (Str.ofString "law_nz0321_02") 892), (Option.none), (Value.ref 566), (Value.none), (0)⟩, #[]⟩)]
noncomputable def as02 : List Addr := [3, 22, 28, 29, 38, 39, 63, 64, 124, 125, 142, 143, 159, 160, 162, 163, 310, 311, 331, 332, 336, 337, 339, 340, 350, 351, 355, 356, 360, 361, 367, 368, 374, 375, 523, 524, 528, 529, 535, 536, 542, 543, 549, 550, 554, 555, 561, 562, 566, 567]
theorem as02_ok : ∀ P, as02 = (K02 P).map (·.1) := fun _ => by kernel_rfl
noncomputable def H02 : Hook := kmHook K02 as02 as02_ok [564]
noncomputable def view02 : Program := { PySem.Challenge.pw_nz0321_02 with main := { PySem.Challenge.pw_nz0321_02.main with body := [st02 82] } }
noncomputable def loose02 : List Str := [Str.ofString "PostError", Str.ofString "NameFault", Str.ofString "StoreFault", Str.ofString "SYSTEM", Str.ofString "NO_KEYWORD", Str.ofString "MOST_KEYWORD", Str.ofString "system_flags", Str.ofString "is_keyword", Str.ofString "flag_name", Str.ofString "flag_tuple", Str.ofString "Letter", Str.ofString "Box", Str.ofString "remade", Str.ofString "place_of", Str.ofString "raised", Str.ofString "add_letter", Str.ofString "set_flags", Str.ofString "flags_after", Str.ofString "expunge", Str.ofString "copy_letters", Str.ofString "move_letters", Str.ofString "is_sound", Str.ofString "is_refused", Str.ofString "store_flags", Str.ofString "distinct", Str.ofString "forget_gone", Str.ofString "upper_text", Str.ofString "DELIMITER", Str.ofString "INBOX_names", Str.ofString "WILD_SIGNS", Str.ofString "is_half", Str.ofString "first_part", Str.ofString "normal_name", Str.ofString "is_barred_code", Str.ofString "check_name", Str.ofString "is_below", Str.ofString "INBOX_store", Str.ofString "MOST", Str.ofString "MOST_MODSEQ", Str.ofString "SHAPES", Str.ofString "Store", Str.ofString "is_number", Str.ofString "are_texts", Str.ofString "are_numbers", Str.ofString "fits_shape", Str.ofString "check_row", Str.ofString "settled_name", Str.ofString "need_modseqs", Str.ofString "need_room", Str.ofString "need_new", Str.ofString "need_validity", Str.ofString "need_uids", Str.ofString "create_box", Str.ofString "delete_box", Str.ofString "renamed_pairs", Str.ofString "rename_box", Str.ofString "rename_inbox", Str.ofString "append_letter", Str.ofString "flag_letter", Str.ofString "store_letters", Str.ofString "expunge_letters", Str.ofString "copy_or_move", Str.ofString "subscribe_name", Str.ofString "unsubscribe_name", Str.ofString "is_letter_told", Str.ofString "is_box_told", Str.ofString "need_sound", Str.ofString "restore", Str.ofString "apply", Str.ofString "_law_box", Str.ofString "_law_draw", Str.ofString "_law_shapes", Str.ofString "_law_values", Str.ofString "_law_of_sort", Str.ofString "_law_is_let"]
theorem left02 : LeftO PySem.Challenge.rw_nz0321_02.row.toRowW.prog view02 loose02 (fun s => xlAt view02 [] s && recOk PySem.Challenge.rw_nz0321_02.row.toRowW.records s) H02.obs H02.val 7256 := fun w => by
  unfold openEnds fencedOpening topFrom
  rw [PySem.W.Fast.te14364793385576792824, PySem.W.Fast.te10274390034422433532, PySem.W.Fast.te14082659384304107361, PySem.W.Fast.te4187177175401517315, PySem.W.Fast.te8920871248978507458, PySem.W.Fast.te1435165496053646825, PySem.W.Fast.te14289696077712309145, PySem.W.Fast.te5923862056798008813]
  kernel_rfl
end
end Mine
end

section
set_option autoImplicit false
set_option linter.unusedVariables false
set_option maxRecDepth 100000
set_option maxHeartbeats 4000000
namespace Mine
open PySem PySem.W PyProof.Rows PySem.SeqAt
noncomputable def attrsL : List Str := [Str.ofString "uid", Str.ofString "octets", Str.ofString "flags", Str.ofString "instant", Str.ofString "modseq", Str.ofString "name", Str.ofString "validity", Str.ofString "next_uid", Str.ofString "top", Str.ofString "floor", Str.ofString "letters", Str.ofString "gone", Str.ofString "boxes", Str.ofString "subscribed", Str.ofString "next_validity", Str.ofString "told", Str.ofString "letter", Str.ofString "uids", Str.ofString "box", Str.ofString "names", Str.ofString "has"]
noncomputable def dat02 : Dat := ⟨attrsL, [125, 163, 340, 64], [529, 536, 543, 550, 555, 562, 351, 356, 361, 375, 368, 524, 311, 337, 332, 143, 160, 567]⟩
noncomputable def sy02 : SY := { glob := [(Str.ofString "_law_box", .fn 0),
  (Str.ofString "_law_draw", .fn 1),
  (Str.ofString "_law_shapes", .fn 2),
  (Str.ofString "_law_values", .fn 3),
  (Str.ofString "_law_of_sort", .fn 4),
  (Str.ofString "_law_is_let", .fn 5),
  (Str.ofString "is_number", .fn 6),
  (Str.ofString "are_texts", .fn 7),
  (Str.ofString "are_numbers", .fn 8),
  (Str.ofString "check_row", .fn 9),
  (Str.ofString "fits_shape", .fn 10),
  (Str.ofString "apply", .fn 11),
  (Str.ofString "law", .fn 17),
  (Str.ofString "Letter", .cls 0),
  (Str.ofString "Box", .cls 1),
  (Str.ofString "Store", .cls 2),
  (Str.ofString "StoreFault", .cls 3),
  (Str.ofString "INBOX_store", .cst (.str (Str.ofString "INBOX"))),
  (Str.ofString "SHAPES", .cst (.str (Str.ofString "create:tn delete:t rename:tt append:tfno flags:tnf store:tutfn expunge:tu copy:tut move:tut subscribe:t unsubscribe:t forget:tn snapshot:nfr")))], bnames := [Str.ofString "len", Str.ofString "sorted", Str.ofString "list", Str.ofString "tuple", Str.ofString "all", Str.ofString "any", Str.ofString "ord", Str.ofString "chr", Str.ofString "str", Str.ofString "abs", Str.ofString "int", Str.ofString "isinstance", Str.ofString "bool", Str.ofString "bytes", Str.ofString "range", Str.ofString "zip"], attrs := attrsL, excs := [3], letf := some (5, 3), c0 := some 566 }
noncomputable def me02 : List ((Nat × Nat) × Nat) := [((1, 15), 16), ((2, 15), 13), ((2, 19), 14)]
noncomputable def ini02 : List (Nat × Nat) := [(1, 15), (2, 12)]

theorem dat02_ok : datChk dat02 = true := by decide +kernel
theorem frag02_ok (p : Params) : fragChk (K02 p) = true := by kernel_rfl
theorem get02_ok (p : Params) : getChk (K02 p) dat02 = true := by kernel_rfl
theorem set02_ok (p : Params) : setChk (K02 p) dat02 = true := by kernel_rfl
theorem sx02_ok (p : Params) : sxChk (K02 p) dat02 sy02.toSX = true := by kernel_rfl
theorem me02_ok (p : Params) : meChk (K02 p) dat02 me02 = true := by kernel_rfl
theorem ini02_ok (p : Params) : iniChk (K02 p) dat02 ini02 = true := by kernel_rfl
theorem fo02_0 (p : Params) : fnOk (K02 p) 529 [("script" : Str)] = true := by kernel_rfl
theorem fb02_0 (p : Params) (u0 : Value) (S : Setting) : (fdAt (K02 p) 529).map (fun fd => peek (K02 p) S (bindArgs fd ⟨[u0], []⟩)) = some (some [(("script" : Str), u0)]) := by kernel_rfl
theorem fc02_0 (p : Params) : (fdAt (K02 p) 529).map (fun fd => (stmtsOf fd.body).map (cS sy02 30 false (fnSC fd.scope.names (if false then some fd.code else none)) 30)) = some b02_0 := by kernel_rfl
theorem fo02_1 (p : Params) : fnOk (K02 p) 536 [("box" : Str), ("limit" : Str)] = true := by kernel_rfl
theorem fb02_1 (p : Params) (u0 u1 : Value) (S : Setting) : (fdAt (K02 p) 536).map (fun fd => peek (K02 p) S (bindArgs fd ⟨[u0, u1], []⟩)) = some (some [(("box" : Str), u0), (("limit" : Str), u1)]) := by kernel_rfl
theorem fc02_1 (p : Params) : (fdAt (K02 p) 536).map (fun fd => (stmtsOf fd.body).map (cS sy02 30 false (fnSC fd.scope.names (if false then some fd.code else none)) 30)) = some b02_1 := by kernel_rfl
theorem fo02_2 (p : Params) : fnOk (K02 p) 543 [] = true := by kernel_rfl
theorem fb02_2 (p : Params)  (S : Setting) : (fdAt (K02 p) 543).map (fun fd => peek (K02 p) S (bindArgs fd ⟨[], []⟩)) = some (some []) := by kernel_rfl
theorem fc02_2 (p : Params) : (fdAt (K02 p) 543).map (fun fd => (stmtsOf fd.body).map (cS sy02 30 false (fnSC fd.scope.names (if false then some fd.code else none)) 30)) = some b02_2 := by kernel_rfl
theorem fo02_3 (p : Params) : fnOk (K02 p) 550 [] = true := by kernel_rfl
theorem fb02_3 (p : Params)  (S : Setting) : (fdAt (K02 p) 550).map (fun fd => peek (K02 p) S (bindArgs fd ⟨[], []⟩)) = some (some []) := by kernel_rfl
theorem fc02_3 (p : Params) : (fdAt (K02 p) 550).map (fun fd => (stmtsOf fd.body).map (cS sy02 30 false (fnSC fd.scope.names (if false then some fd.code else none)) 30)) = some b02_3 := by kernel_rfl
theorem fo02_4 (p : Params) : fnOk (K02 p) 555 [("box" : Str), ("sort" : Str)] = true := by kernel_rfl
theorem fb02_4 (p : Params) (u0 u1 : Value) (S : Setting) : (fdAt (K02 p) 555).map (fun fd => peek (K02 p) S (bindArgs fd ⟨[u0, u1], []⟩)) = some (some [(("box" : Str), u0), (("sort" : Str), u1)]) := by kernel_rfl
theorem fc02_4 (p : Params) : (fdAt (K02 p) 555).map (fun fd => (stmtsOf fd.body).map (cS sy02 30 false (fnSC fd.scope.names (if false then some fd.code else none)) 30)) = some b02_4 := by kernel_rfl
theorem fo02_5 (p : Params) : fnOk (K02 p) 562 [("deed" : Str)] = true := by kernel_rfl
theorem fb02_5 (p : Params) (u0 : Value) (S : Setting) : (fdAt (K02 p) 562).map (fun fd => peek (K02 p) S (bindArgs fd ⟨[u0], []⟩)) = some (some [(("deed" : Str), u0)]) := by kernel_rfl
theorem fc02_5 (p : Params) : (fdAt (K02 p) 562).map (fun fd => (stmtsOf fd.body).map (cS sy02 30 false (fnSC fd.scope.names (if false then some fd.code else none)) 30)) = some b02_5 := by kernel_rfl
theorem fo02_6 (p : Params) : fnOk (K02 p) 351 [("value" : Str)] = true := by kernel_rfl
theorem fb02_6 (p : Params) (u0 : Value) (S : Setting) : (fdAt (K02 p) 351).map (fun fd => peek (K02 p) S (bindArgs fd ⟨[u0], []⟩)) = some (some [(("value" : Str), u0)]) := by kernel_rfl
theorem fc02_6 (p : Params) : (fdAt (K02 p) 351).map (fun fd => (stmtsOf fd.body).map (cS sy02 30 false (fnSC fd.scope.names (if false then some fd.code else none)) 30)) = some b02_6 := by kernel_rfl
theorem fo02_7 (p : Params) : fnOk (K02 p) 356 [("value" : Str)] = true := by kernel_rfl
theorem fb02_7 (p : Params) (u0 : Value) (S : Setting) : (fdAt (K02 p) 356).map (fun fd => peek (K02 p) S (bindArgs fd ⟨[u0], []⟩)) = some (some [(("value" : Str), u0)]) := by kernel_rfl
theorem fc02_7 (p : Params) : (fdAt (K02 p) 356).map (fun fd => (stmtsOf fd.body).map (cS sy02 30 false (fnSC fd.scope.names (if false then some fd.code else none)) 30)) = some b02_7 := by kernel_rfl
theorem fo02_8 (p : Params) : fnOk (K02 p) 361 [("value" : Str)] = true := by kernel_rfl
theorem fb02_8 (p : Params) (u0 : Value) (S : Setting) : (fdAt (K02 p) 361).map (fun fd => peek (K02 p) S (bindArgs fd ⟨[u0], []⟩)) = some (some [(("value" : Str), u0)]) := by kernel_rfl
theorem fc02_8 (p : Params) : (fdAt (K02 p) 361).map (fun fd => (stmtsOf fd.body).map (cS sy02 30 false (fnSC fd.scope.names (if false then some fd.code else none)) 30)) = some b02_8 := by kernel_rfl
theorem fo02_9 (p : Params) : fnOk (K02 p) 375 [("row" : Str)] = true := by kernel_rfl
theorem fb02_9 (p : Params) (u0 : Value) (S : Setting) : (fdAt (K02 p) 375).map (fun fd => peek (K02 p) S (bindArgs fd ⟨[u0], []⟩)) = some (some [(("row" : Str), u0)]) := by kernel_rfl
theorem fc02_9 (p : Params) : (fdAt (K02 p) 375).map (fun fd => (stmtsOf fd.body).map (cS sy02 30 false (fnSC fd.scope.names (if false then some fd.code else none)) 30)) = some b02_9 := by kernel_rfl
theorem fo02_10 (p : Params) : fnOk (K02 p) 368 [("value" : Str), ("letter" : Str)] = true := by kernel_rfl
theorem fb02_10 (p : Params) (u0 u1 : Value) (S : Setting) : (fdAt (K02 p) 368).map (fun fd => peek (K02 p) S (bindArgs fd ⟨[u0, u1], []⟩)) = some (some [(("value" : Str), u0), (("letter" : Str), u1)]) := by kernel_rfl
theorem fc02_10 (p : Params) : (fdAt (K02 p) 368).map (fun fd => (stmtsOf fd.body).map (cS sy02 30 false (fnSC fd.scope.names (if false then some fd.code else none)) 30)) = some b02_10 := by kernel_rfl
theorem fo02_11 (p : Params) : fnOk (K02 p) 524 [("store" : Str), ("row" : Str)] = true := by kernel_rfl
theorem fb02_11 (p : Params) (u0 u1 : Value) (S : Setting) : (fdAt (K02 p) 524).map (fun fd => peek (K02 p) S (bindArgs fd ⟨[u0, u1], []⟩)) = some (some [(("store" : Str), u0), (("row" : Str), u1)]) := by kernel_rfl
theorem fc02_11 (p : Params) : (fdAt (K02 p) 524).map (fun fd => (stmtsOf fd.body).map (cS sy02 30 false (fnSC fd.scope.names (if false then some fd.code else none)) 30)) = some b02_11 := by kernel_rfl
theorem fo02_12 (p : Params) : fnOk (K02 p) 311 [("self" : Str)] = true := by kernel_rfl
theorem fb02_12 (p : Params) (u0 : Value) (S : Setting) : (fdAt (K02 p) 311).map (fun fd => peek (K02 p) S (bindArgs fd ⟨[u0], []⟩)) = some (some [(("self" : Str), u0)]) := by kernel_rfl
theorem fc02_12 (p : Params) : (fdAt (K02 p) 311).map (fun fd => (stmtsOf fd.body).map (cS sy02 30 false (fnSC fd.scope.names (if false then some fd.code else none)) 30)) = some b02_12 := by kernel_rfl
theorem fo02_13 (p : Params) : fnOk (K02 p) 337 [("self" : Str)] = true := by kernel_rfl
theorem fb02_13 (p : Params) (u0 : Value) (S : Setting) : (fdAt (K02 p) 337).map (fun fd => peek (K02 p) S (bindArgs fd ⟨[u0], []⟩)) = some (some [(("self" : Str), u0)]) := by kernel_rfl
theorem fc02_13 (p : Params) : (fdAt (K02 p) 337).map (fun fd => (stmtsOf fd.body).map (cS sy02 30 false (fnSC fd.scope.names (if false then some fd.code else none)) 30)) = some b02_13 := by kernel_rfl
theorem fo02_14 (p : Params) : fnOk (K02 p) 332 [("self" : Str)] = true := by kernel_rfl
theorem fb02_14 (p : Params) (u0 : Value) (S : Setting) : (fdAt (K02 p) 332).map (fun fd => peek (K02 p) S (bindArgs fd ⟨[u0], []⟩)) = some (some [(("self" : Str), u0)]) := by kernel_rfl
theorem fc02_14 (p : Params) : (fdAt (K02 p) 332).map (fun fd => (stmtsOf fd.body).map (cS sy02 30 false (fnSC fd.scope.names (if false then some fd.code else none)) 30)) = some b02_14 := by kernel_rfl
theorem fo02_15 (p : Params) : fnOk (K02 p) 143 [("self" : Str), ("name" : Str), ("validity" : Str)] = true := by kernel_rfl
theorem fb02_15 (p : Params) (u0 u1 u2 : Value) (S : Setting) : (fdAt (K02 p) 143).map (fun fd => peek (K02 p) S (bindArgs fd ⟨[u0, u1, u2], []⟩)) = some (some [(("self" : Str), u0), (("name" : Str), u1), (("validity" : Str), u2)]) := by kernel_rfl
theorem fc02_15 (p : Params) : (fdAt (K02 p) 143).map (fun fd => (stmtsOf fd.body).map (cS sy02 30 false (fnSC fd.scope.names (if false then some fd.code else none)) 30)) = some b02_15 := by kernel_rfl
theorem fo02_16 (p : Params) : fnOk (K02 p) 160 [("self" : Str)] = true := by kernel_rfl
theorem fb02_16 (p : Params) (u0 : Value) (S : Setting) : (fdAt (K02 p) 160).map (fun fd => peek (K02 p) S (bindArgs fd ⟨[u0], []⟩)) = some (some [(("self" : Str), u0)]) := by kernel_rfl
theorem fc02_16 (p : Params) : (fdAt (K02 p) 160).map (fun fd => (stmtsOf fd.body).map (cS sy02 30 false (fnSC fd.scope.names (if false then some fd.code else none)) 30)) = some b02_16 := by kernel_rfl
theorem fo02_17 (p : Params) : fnOk (K02 p) 567 [("script" : Str)] = true := by kernel_rfl
theorem fb02_17 (p : Params) (u0 : Value) (S : Setting) : (fdAt (K02 p) 567).map (fun fd => peek (K02 p) S (bindArgs fd ⟨[u0], []⟩)) = some (some [(("script" : Str), u0)]) := by kernel_rfl
theorem fc02_17 (p : Params) : (fdAt (K02 p) 567).map (fun fd => (stmtsOf fd.body).map (cS sy02 30 true (fnSC fd.scope.names (if true then some fd.code else none)) 30)) = some b02_17 := by kernel_rfl
end Mine
end

section
set_option autoImplicit false
set_option linter.unusedVariables false
set_option maxRecDepth 100000
set_option maxHeartbeats 4000000
namespace Mine
open PySem PySem.W PyProof.Rows PySem.SeqAt

noncomputable def fns02 : List Fn := [f02_0, f02_1, f02_2, f02_3, f02_4, f02_5, f02_6, f02_7, f02_8, f02_9, f02_10, f02_11, f02_12, f02_13, f02_14, f02_15, f02_16]
noncomputable def P02 : Prg := prgOf sy02 fns02 me02 ini02

theorem builtinsAt_of {s : Shared} {K : Frag} {mg mb : Str → Option Value} {l P : Addr} {ol : Obj} {tabs : List Addr} (H : HeadF s K mg mb l ol tabs) (hP : s.heap.get? P = some (tabObj #[])) : (baseOf s l tabs).BuiltinsAt mg P := by
  obtain ⟨bm, ob, h1, h2, h3, h4, h5, h6⟩ := H.bmain
  refine ⟨bm, ob, h1, h2, ?_, ?_, base_keep H h3 (fun q => ?_) (fun q => ?_), h4, h5, h6⟩
  · intro q; subst q
    obtain ⟨o, es, ep, e, hd, r⟩ := H.g
    rw [h3] at e; cases e
    rw [h6] at hd; cases hd
  · intro q; subst q
    rw [h3] at hP; cases hP
    cases h6
  · obtain ⟨items, n, hl⟩ := H.ldat
    rw [q, hl] at h6; cases h6
  · rw [q] at h6; cases h6

theorem noCells {l : List (Str × NameKind)} (h : (l.all fun y => y.2 != .cell) = true) : ∀ y ∈ l, y.2 ≠ .cell := fun y hy => by simpa using List.all_eq_true.mp h y hy

section
variable {prog : Program} {w : World} {s : Shared} {mg mb : Str → Option Value} {l : Addr} {ol : Obj}
noncomputable abbrev X02 (prog : Program) (w : World) (H : HeadF s (K02 w.params) mg mb l ol [564]) : Cx := mkCx prog w dat02 564 H dat02_ok (get02_ok _) (set02_ok _)

theorem excInit02 (H : HeadF s (K02 w.params) mg mb l ol [564]) : ExcInit (X02 prog w H) 29 64 := by
  refine ⟨?_, ns_none_of H.kin H.g (by kernel_rfl), by (show findIn (K02 w.params) _ _ = _; kernel_rfl), by (show takerIn (K02 w.params) _ _ = _; kernel_rfl), by (show takerIn (K02 w.params) _ _ = _; kernel_rfl)⟩
  refine ⟨_, _, _, _, _, _, _, _, _, _, _, _, _, _, _, _, _, _, (rfl : (K02 w.params).lookup 29 = _), (by show codeIn (K02 w.params) _ _ = _; kernel_rfl), rfl, ?_, rfl, rfl, rfl, rfl, rfl, rfl, ?_, rfl, rfl, rfl, rfl, rfl⟩
  · intro e a
    exact ⟨_, fun S => rfl⟩
  · exact noCells (by kernel_rfl)
theorem excFacts02 (H : HeadF s (K02 w.params) mg mb l ol [564]) : ExcFacts (X02 prog w H) 3 := by
  refine ⟨excAt_of (K := K02 w.params) (C := 64) (by kernel_rfl), 29, by (show findIn (K02 w.params) (.ref 64) _ = _; kernel_rfl), by (show typeIn (K02 w.params) _ = _; kernel_rfl), excInit02 H⟩
theorem letFacts02 (H : HeadF s (K02 w.params) mg mb l ol [564]) : LetFacts (X02 prog w H) 5 3 := by
  refine ⟨_, _, _, _, _, _, _, _, _, _, _, _, _, _, _, _, _, (rfl : (K02 w.params).lookup 562 = _), (by show codeIn (K02 w.params) _ _ = _; kernel_rfl), rfl, ?_, rfl, rfl, rfl, rfl, rfl, rfl, ?_, rfl, rfl, rfl, mgOf H.kin H.g (by kernel_rfl)⟩
  · intro u S
    show peek (K02 w.params) _ _ = _
    kernel_rfl
  · exact noCells (by kernel_rfl)
theorem tabFacts02 (H : HeadF s (K02 w.params) mg mb l ol [564]) : TabFacts (X02 prog w H) 566 :=
  ⟨codeHd_of_K (K := K02 w.params) (base_K H) (by kernel_rfl), builtinsAt_of H (H.tabs 564 (by simp))⟩
theorem syOk02 (H : HeadF s (K02 w.params) mg mb l ol [564]) : SYOk (X02 prog w H) sy02 := by
  refine ⟨sok_of H dat02_ok (get02_ok _) (set02_ok _) (sx02_ok _), base_lim H, fun c hc => ?_, fun ka c h => ?_, fun c0 h => ?_⟩
  · cases List.mem_singleton.mp hc; exact excFacts02 H
  · cases h; exact ⟨letFacts02 H, excFacts02 H⟩
  · cases h; exact tabFacts02 H

theorem prgOk02 (H : HeadF s (K02 w.params) mg mb l ol [564]) : PrgOk (X02 prog w H) P02 30 := by
  refine prgOk_of (K := K02 w.params) (D := dat02) rfl rfl rfl rfl (syOk02 H) ?_ (me02_ok _) (ini02_ok _)
  refine ⟨?_, ?_, ?_, ?_, ?_, ?_, ?_, ?_, ?_, ?_, ?_, ?_, ?_, ?_, ?_, ?_, ?_, trivial⟩
  · exact fnIs_of (a := 529) false [("script" : Str)] (K := K02 w.params) rfl rfl (fo02_0 _) (fun us hu S => by match us, hu with | [u0], _ => exact fb02_0 _ u0 S) (fc02_0 _) rfl
  · exact fnIs_of (a := 536) false [("box" : Str), ("limit" : Str)] (K := K02 w.params) rfl rfl (fo02_1 _) (fun us hu S => by match us, hu with | [u0, u1], _ => exact fb02_1 _ u0 u1 S) (fc02_1 _) rfl
  · exact fnIs_of (a := 543) false [] (K := K02 w.params) rfl rfl (fo02_2 _) (fun us hu S => by match us, hu with | [], _ => exact fb02_2 _  S) (fc02_2 _) rfl
  · exact fnIs_of (a := 550) false [] (K := K02 w.params) rfl rfl (fo02_3 _) (fun us hu S => by match us, hu with | [], _ => exact fb02_3 _  S) (fc02_3 _) rfl
  · exact fnIs_of (a := 555) false [("box" : Str), ("sort" : Str)] (K := K02 w.params) rfl rfl (fo02_4 _) (fun us hu S => by match us, hu with | [u0, u1], _ => exact fb02_4 _ u0 u1 S) (fc02_4 _) rfl
  · exact fnIs_of (a := 562) false [("deed" : Str)] (K := K02 w.params) rfl rfl (fo02_5 _) (fun us hu S => by match us, hu with | [u0], _ => exact fb02_5 _ u0 S) (fc02_5 _) rfl
  · exact fnIs_of (a := 351) false [("value" : Str)] (K := K02 w.params) rfl rfl (fo02_6 _) (fun us hu S => by match us, hu with | [u0], _ => exact fb02_6 _ u0 S) (fc02_6 _) rfl
  · exact fnIs_of (a := 356) false [("value" : Str)] (K := K02 w.params) rfl rfl (fo02_7 _) (fun us hu S => by match us, hu with | [u0], _ => exact fb02_7 _ u0 S) (fc02_7 _) rfl
  · exact fnIs_of (a := 361) false [("value" : Str)] (K := K02 w.params) rfl rfl (fo02_8 _) (fun us hu S => by match us, hu with | [u0], _ => exact fb02_8 _ u0 S) (fc02_8 _) rfl
  · exact fnIs_of (a := 375) false [("row" : Str)] (K := K02 w.params) rfl rfl (fo02_9 _) (fun us hu S => by match us, hu with | [u0], _ => exact fb02_9 _ u0 S) (fc02_9 _) rfl
  · exact fnIs_of (a := 368) false [("value" : Str), ("letter" : Str)] (K := K02 w.params) rfl rfl (fo02_10 _) (fun us hu S => by match us, hu with | [u0, u1], _ => exact fb02_10 _ u0 u1 S) (fc02_10 _) rfl
  · exact fnIs_of (a := 524) false [("store" : Str), ("row" : Str)] (K := K02 w.params) rfl rfl (fo02_11 _) (fun us hu S => by match us, hu with | [u0, u1], _ => exact fb02_11 _ u0 u1 S) (fc02_11 _) rfl
  · exact fnIs_of (a := 311) false [("self" : Str)] (K := K02 w.params) rfl rfl (fo02_12 _) (fun us hu S => by match us, hu with | [u0], _ => exact fb02_12 _ u0 S) (fc02_12 _) rfl
  · exact fnIs_of (a := 337) false [("self" : Str)] (K := K02 w.params) rfl rfl (fo02_13 _) (fun us hu S => by match us, hu with | [u0], _ => exact fb02_13 _ u0 S) (fc02_13 _) rfl
  · exact fnIs_of (a := 332) false [("self" : Str)] (K := K02 w.params) rfl rfl (fo02_14 _) (fun us hu S => by match us, hu with | [u0], _ => exact fb02_14 _ u0 S) (fc02_14 _) rfl
  · exact fnIs_of (a := 143) false [("self" : Str), ("name" : Str), ("validity" : Str)] (K := K02 w.params) rfl rfl (fo02_15 _) (fun us hu S => by match us, hu with | [u0, u1, u2], _ => exact fb02_15 _ u0 u1 u2 S) (fc02_15 _) rfl
  · exact fnIs_of (a := 160) false [("self" : Str)] (K := K02 w.params) rfl rfl (fo02_16 _) (fun us hu S => by match us, hu with | [u0], _ => exact fb02_16 _ u0 S) (fc02_16 _) rfl
theorem lawIs02 (H : HeadF s (K02 w.params) mg mb l ol [564]) : FnIs (X02 prog w H) sy02 30 17 f02_17 true := 
  fnIs_of (a := 567) true [("script" : Str)] (K := K02 w.params) rfl rfl (fo02_17 _) (fun us hu S => by match us, hu with | [u0], _ => exact fb02_17 _ u0 S) (fc02_17 _) rfl
theorem fok02 (H : HeadF s (K02 w.params) mg mb l ol [564]) (d : Nat) : FOk (X02 prog w H) (LL (2 * d + 1) true + 1) (.ref 567) fun vs σ => runFn (tb P02 d) f02_17 vs σ :=
  fn_is (syOk02 H) (lawIs02 H) (tb_ok (prgOk02 H) d) (by omega)
end
end Mine
end

section
set_option autoImplicit false
set_option linter.unusedVariables false
set_option maxRecDepth 100000
set_option maxHeartbeats 1000000
/-! the run of the evaluator, told by what must hold ahead of it -/
namespace Mine
open PySem

theorem lt_of_at {σ : St} {i : Nat} {o : PO} (h : σ[i]? = some o) : i < σ.length := (List.getElem?_eq_some_iff.mp h).1
/-- all stay -/
noncomputable def Gw (σ σ' : St) : Prop := ∀ (i : Nat) (o : PO), σ[i]? = some o → σ'[i]? = some o
theorem Gw.refl {σ : St} : Gw σ σ := fun _ _ h => h
theorem Gw.trans {a b c : St} (h : Gw a b) (k : Gw b c) : Gw a c := fun i o e => k i o (h i o e)
/-- one more stands -/
structure Al (o : PO) (σ σ' : St) : Prop where
  gw : Gw σ σ'
  me : σ'[σ.length]? = some o
  len : σ'.length = σ.length + 1
theorem Al.mk' {o : PO} {σ : St} : Al o σ (σ ++ [o]) := ⟨fun i x h => by rw [List.getElem?_append_left (lt_of_at h)]; exact h, by rw [List.getElem?_append_right (Nat.le_refl _), Nat.sub_self]; rfl, List.length_append⟩
/-- one is another now -/
structure Se (l : Nat) (o : PO) (σ σ' : St) : Prop where
  me : ∀ x, σ[l]? = some x → σ'[l]? = some o
  ne : ∀ (i : Nat) (x : PO), i ≠ l → σ[i]? = some x → σ'[i]? = some x
  len : σ'.length = σ.length
theorem Se.mk' {l : Nat} {o : PO} {σ : St} : Se l o σ (σ.set l o) := ⟨fun x h => List.getElem?_set_self (lt_of_at h), fun i x n h => by rw [List.getElem?_set_ne n.symm]; exact h, List.length_set⟩

noncomputable def Rn {α : Type} (m : R α) (Q : α → St → Prop) (E : Nat → St → Prop) : Prop := match m with
  | .ok a σ => Q a σ
  | .exc c σ => E c σ
  | .stuck => False
section
variable {α β : Type} {Q : α → St → Prop} {E : Nat → St → Prop}
theorem Rn.mono {m : R α} {Q' : α → St → Prop} {E' : Nat → St → Prop} (h : Rn m Q E) (hq : ∀ a σ, Q a σ → Q' a σ) (he : ∀ c σ, E c σ → E' c σ) : Rn m Q' E' := by
  cases m with
  | ok a σ => exact hq _ _ h
  | exc c σ => exact he _ _ h
  | stuck => exact h
theorem Rn.bind {m : R β} {f : β → St → R α} (h : Rn m (fun a σ => Rn (f a σ) Q E) E) : Rn (m.bind f) Q E := by
  cases m with
  | ok a σ => exact h
  | exc c σ => exact h
  | stuck => exact h
theorem Rn.bind' {m : R β} {f : β → St → R α} {Q' : β → St → Prop} (h : Rn m Q' E) (k : ∀ a σ, Q' a σ → Rn (f a σ) Q E) : Rn (m.bind f) Q E := .bind (h.mono k fun _ _ e => e)
theorem rn_noExc {m : R α} (h : Rn m Q (fun _ _ => False)) : Rn (noExc m) Q E := by
  cases m with
  | ok a σ => exact h
  | exc c σ => exact h.elim
  | stuck => exact h

/-- a test that must hold -/
noncomputable def gd (b : Bool) (P : Prop) : Prop := match b with
  | true => P
  | false => False
theorem gd_ok {b : Bool} {P : Prop} (h : b = true) (k : P) : gd b P := by rw [h]; exact k
theorem gd_d {c : Prop} [Decidable c] {P : Prop} (h : c) (k : P) : gd (decide c) P := gd_ok (decide_eq_true h) k
theorem rn_gd {c : Prop} [Decidable c] {m : R α} {P : Prop} (h : gd (decide c) P) (k : P → Rn m Q E) : Rn (if c then m else .stuck) Q E := by
  by_cases hc : c
  · rw [if_pos hc]; rw [decide_eq_true hc] at h; exact k h
  · rw [decide_eq_false hc] at h; exact h.elim
theorem rn_gb {b : Bool} {m : R α} {P : Prop} (h : gd b P) (k : P → Rn m Q E) : Rn (if b = true then m else .stuck) Q E := by
  cases b
  · exact h.elim
  · exact k h
/-- a branch -/
noncomputable def br (b : Bool) (P P' : Prop) : Prop := match b with
  | true => P
  | false => P'
theorem br_t {b : Bool} {P P' : Prop} (h : b = true) (k : P) : br b P P' := by rw [h]; exact k
theorem br_f {b : Bool} {P P' : Prop} (h : b = false) (k : P') : br b P P' := by rw [h]; exact k
theorem br_both {b : Bool} {P P' : Prop} (h : b = true → P) (k : b = false → P') : br b P P' := by
  cases b
  · exact k rfl
  · exact h rfl
theorem rn_br {b : Bool} {m n : R α} {P P' : Prop} (h : br b P P') (k : P → Rn m Q E) (k' : P' → Rn n Q E) : Rn (if b = true then m else n) Q E := by
  cases b
  · exact k' h
  · exact k h
noncomputable def opP {γ : Type} (o : Option γ) (P : γ → Prop) : Prop := match o with
  | some a => P a
  | .none => False
theorem op_ok {γ : Type} {o : Option γ} {P : γ → Prop} {a : γ} (h : o = some a) (k : P a) : opP o P := by rw [h]; exact k
theorem rn_op {γ : Type} {o : Option γ} {f : γ → R PV} {P : γ → Prop} {Q : PV → St → Prop} (h : opP o P) (k : ∀ a, P a → Rn (f a) Q E) : Rn (optR o f) Q E := by
  cases o
  · exact h.elim
  · exact k _ h
/-- an object that is looked up -/
noncomputable def obP (o : Option PO) (L F : List PV → Prop) (D : List (PV × PV) → Prop) (I : Nat → List (Nat × PV) → Prop) : Prop := match o with
  | some (.list xs) => L xs
  | some (.frz xs) => F xs
  | some (.dict es) => D es
  | some (.inst c fs) => I c fs
  | _ => False
theorem ob_l {o : Option PO} {L F : List PV → Prop} {D : List (PV × PV) → Prop} {I : Nat → List (Nat × PV) → Prop} {xs : List PV} (h : o = some (.list xs)) (k : L xs) : obP o L F D I := by rw [h]; exact k
theorem ob_f {o : Option PO} {L F : List PV → Prop} {D : List (PV × PV) → Prop} {I : Nat → List (Nat × PV) → Prop} {xs : List PV} (h : o = some (.frz xs)) (k : F xs) : obP o L F D I := by rw [h]; exact k
theorem ob_d {o : Option PO} {L F : List PV → Prop} {D : List (PV × PV) → Prop} {I : Nat → List (Nat × PV) → Prop} {es : List (PV × PV)} (h : o = some (.dict es)) (k : D es) : obP o L F D I := by rw [h]; exact k
theorem ob_i {o : Option PO} {L F : List PV → Prop} {D : List (PV × PV) → Prop} {I : Nat → List (Nat × PV) → Prop} {c : Nat} {fs : List (Nat × PV)} (h : o = some (.inst c fs)) (k : I c fs) : obP o L F D I := by rw [h]; exact k
noncomputable def noL : List PV → Prop := fun _ => False
noncomputable def noD : List (PV × PV) → Prop := fun _ => False
noncomputable def noI : Nat → List (Nat × PV) → Prop := fun _ _ => False

/-! what is built in -/
noncomputable def wInt2 (a b : PV) (f : Int → Int → Prop) : Prop := match a with
  | .int x => (match b with
    | .int y => f x y
    | _ => False)
  | _ => False
theorem int2_w {a b : PV} {P : Int → Int → Prop} {f : Int → Int → R PV} {Q : PV → St → Prop} (h : wInt2 a b P) (k : ∀ x y, P x y → Rn (f x y) Q E) : Rn (int2 a b f) Q E := by
  cases a <;> first | exact h.elim | skip
  cases b <;> first | exact h.elim | exact k _ _ h
noncomputable def wAdd (a b : PV) (σ : St) (Q : PV → St → Prop) : Prop := match a with
  | .int _ => wInt2 a b fun x y => Q (.int (x + y)) σ
  | .tup x => (match b with
    | .tup y => gd (szOK (x.length + y.length)) (Q (.tup (x ++ y)) σ)
    | _ => False)
  | _ => False
noncomputable def wBin (op : Operator) (a b : PV) (σ : St) (Q : PV → St → Prop) : Prop := match op with
  | .Add => wAdd a b σ Q
  | .Mult => wInt2 a b fun x y => gd (decide (x.natAbs < 2 ^ 62 ∧ y.natAbs < 2 ^ 62)) (Q (.int (x * y)) σ)
  | .FloorDiv => wInt2 a b fun x y => gd (decide (0 < y ∧ y < 2 ^ 30)) (Q (.int (x.fdiv y)) σ)
  | .Mod => wInt2 a b fun x y => gd (decide (y ≠ 0)) (Q (.int (x.fmod y)) σ)
  | .Pow => wInt2 a b fun x y => gd (decide (0 ≤ x ∧ x < 2 ^ 31 ∧ 0 < y ∧ y ≤ 300)) (Q (.int (x ^ y.toNat)) σ)
  | _ => False
theorem bin_w {op : Operator} {a b : PV} {σ : St} {Q : PV → St → Prop} (h : wBin op a b σ Q) : Rn (binop op a b σ) Q E := by
  cases op <;> first | exact h.elim | exact int2_w h (fun x y h => rn_gd h fun h => h) | skip
  cases a with
  | int i =>
    have h : wInt2 (.int i) b (fun x y => Q (.int (x + y)) σ) := h
    show Rn (int2 (.int i) b fun x y => .ok (.int (x + y)) σ) Q E
    exact int2_w h fun x y h => h
  | tup xs => cases b <;> first | exact h.elim | exact rn_gb h fun h => h
  | _ => exact h.elim
noncomputable def wTru (v : PV) (σ : St) (Q : Bool → St → Prop) : Prop := match v with
  | .none => Q false σ
  | .bool b => Q b σ
  | .loc l => obP σ[l]? (fun xs => gd (szOK xs.length) (Q (!xs.isEmpty) σ)) noL noD noI
  | _ => False
theorem ob_L {σ : St} {l : Nat} {P : List PV → Prop} (h : obP σ[l]? P noL noD noI) : ∃ xs, σ[l]? = some (.list xs) ∧ P xs := by
  cases ho : σ[l]? with
  | none => rw [ho] at h; exact h.elim
  | some o => rw [ho] at h; cases o <;> first | exact ⟨_, rfl, h⟩ | exact h.elim
theorem tru_w {v : PV} {σ : St} {Q : Bool → St → Prop} (h : wTru v σ Q) : Rn (truR v σ) Q E := by
  cases v <;> first | exact h.elim | exact h | skip
  rename_i l
  obtain ⟨xs, hx, h⟩ := ob_L h
  unfold truR
  have e : truthy σ (.loc l) = if szOK xs.length then some (!xs.isEmpty) else none := by
    show (match σ[l]? with
      | some (.list xs) => if szOK xs.length then some (!xs.isEmpty) else none
      | _ => none) = _
    rw [hx]
  rw [e]
  cases hz : szOK xs.length with
  | false => rw [hz] at h; exact h.elim
  | true => rw [hz] at h; exact h
noncomputable def wEqS (a : PV) (y : Str) (σ : St) (Q : Bool → St → Prop) : Prop := match a with
  | .str x => ∀ t, (x == y) = t → Q t σ
  | .loc l => gd (isLs σ[l]?) (Q false σ)
  | _ => Q false σ
noncomputable def wEq (a b : PV) (σ : St) (Q : Bool → St → Prop) : Prop := match b with
  | .str y => wEqS a y σ Q
  | b => opP (eqv σ eqFuel a b) fun r => Q r σ
theorem eq_w {a b : PV} {σ : St} {Q : Bool → St → Prop} (h : wEq a b σ Q) : opP (eqv σ eqFuel a b) fun r => Q r σ := by
  cases b <;> first | exact h | skip
  cases a <;> first | exact h _ rfl | exact h | skip
  rename_i l
  have h : gd (isLs σ[l]?) (Q false σ) := h
  show opP (if isLs σ[l]? = true then some false else none) _
  cases hl : isLs σ[l]? with
  | true => rw [hl] at h; exact h
  | false => rw [hl] at h; exact h.elim
noncomputable def wIn (a b : PV) (σ : St) (Q : Bool → St → Prop) : Prop := match b with
  | .str s => (match a with
    | .str y => ∀ t, (!(Builtin.Str.occurrences s y 0 s.length 1).isEmpty) = t → Q t σ
    | _ => False)
  | _ => False
theorem in_w {a b : PV} {σ : St} {Q : Bool → St → Prop} (h : wIn a b σ Q) : opP (isIn a b) fun r => Q r σ := by
  cases b <;> first | exact h.elim | skip
  cases a <;> first | exact h.elim | exact h _ rfl
noncomputable def wCmp (op : CmpOp) (a b : PV) (σ : St) (Q : Bool → St → Prop) : Prop := match op with
  | .Lt => wInt2 a b fun x y => Q (decide (x < y)) σ
  | .Gt => wInt2 a b fun x y => Q (decide (x > y)) σ
  | .GtE => wInt2 a b fun x y => Q (decide (x ≥ y)) σ
  | .Eq => wEq a b σ Q
  | .In => wIn a b σ Q
  | op => opP (cmpop op a b σ) fun r => Q r σ
theorem cmpO_w {op : CmpOp} {a b : PV} {σ : St} {Q : Bool → St → Prop} (h : opP (cmpop op a b σ) fun r => Q r σ) : Rn (cmpR op a b σ) Q E := by
  unfold cmpR
  cases hc : cmpop op a b σ with
  | none => rw [hc] at h; exact h.elim
  | some r => rw [hc] at h; exact h
theorem cmpI_w {a b : PV} {f : Int → Int → Bool} {P : Bool → Prop} (h : wInt2 a b fun x y => P (f x y)) : opP (cmp2 a b f) P := by
  cases a <;> first | exact h.elim | skip
  cases b <;> first | exact h.elim | exact h
theorem cmp_w {op : CmpOp} {a b : PV} {σ : St} {Q : Bool → St → Prop} (h : wCmp op a b σ Q) : Rn (cmpR op a b σ) Q E := by
  refine cmpO_w ?_
  cases op <;> first | exact eq_w h | exact in_w h | exact h | exact cmpI_w (P := fun r => Q r σ) h
noncomputable def wOneI (v : PV) (P : Int → Prop) : Prop := match v with
  | .int i => P i
  | _ => False
theorem oneI_w {v : PV} {P : Int → Prop} {f : Int → R PV} {Q : PV → St → Prop} (h : wOneI v P) (k : ∀ i, P i → Rn (f i) Q E) : Rn (biInt v f) Q E := by
  cases v <;> first | exact h.elim | exact k _ h
noncomputable def wLst (σ : St) (v : PV) (P : List PV → Prop) : Prop := match v with
  | .loc l => obP σ[l]? P noL noD noI
  | _ => False
theorem lst_w {v : PV} {σ : St} {P : List PV → Prop} {f : List PV → R PV} {Q : PV → St → Prop} (h : wLst σ v P) (k : ∀ xs, P xs → Rn (f xs) Q E) : Rn (lstR σ v f) Q E := by
  cases v <;> first | exact h.elim | skip
  obtain ⟨xs, hx, h⟩ := ob_L h
  unfold lstR
  dsimp only
  rw [hx]
  exact k xs h
noncomputable def wLen (σ : St) (v : PV) (Q : PV → St → Prop) : Prop := match v with
  | .str x => gd (szOK x.length) (Q (.int x.length) σ)
  | .tup xs => gd (szOK xs.length) (Q (.int xs.length) σ)
  | v => wLst σ v fun xs => gd (szOK xs.length) (Q (.int xs.length) σ)
noncomputable def wAl (o : PO) (σ : St) (Q : PV → St → Prop) : Prop := ∀ σ', Al o σ σ' → Q (.loc σ.length) σ'
noncomputable def wList (σ : St) (v : PV) (Q : PV → St → Prop) : Prop := match v with
  | .tup xs => gd (szOK xs.length) (wAl (.list xs) σ Q)
  | .loc l => obP σ[l]? noL noL (fun es => gd (szOK es.length) (wAl (.list (es.map (·.1))) σ Q)) noI
  | _ => False
noncomputable def wBi1 (b : Bi) (v : PV) (σ : St) (Q : PV → St → Prop) : Prop := match b with
  | .len => wLen σ v Q
  | .sorted => wLst σ v fun xs => gd (decide (xs.length ≤ 60)) (opP (strKeys xs) fun ss => wAl (.list ((sortG sltS ss).map .str)) σ Q)
  | .list => wList σ v Q
  | .tuple => wLst σ v fun xs => gd (szOK xs.length) (Q (.tup xs) σ)
  | .all => wLst σ v fun xs => gd (szOK xs.length) (opP (boolsOf xs) fun bs => Q (.bool (bs.all id)) σ)
  | .abs => wOneI v fun i => Q (.int i.natAbs) σ
  | .int => wOneI v fun i => Q (.int i) σ
  | .isStr => gd (plainV σ v) (Q (.bool (isStr v)) σ)
  | .isInt => gd (plainV σ v) (Q (.bool (isInt v)) σ)
  | .isBool => gd (plainV σ v) (Q (.bool (isBool v)) σ)
  | .isBytes => gd (plainV σ v) (Q (.bool (isBytes v)) σ)
  | .isTuple => gd (plainV σ v) (Q (.bool (isTuple v)) σ)
noncomputable def wBi (b : Bi) (args : List PV) (σ : St) (Q : PV → St → Prop) : Prop := match args with
  | [v] => wBi1 b v σ Q
  | _ => False
theorem bi_w {b : Bi} {args : List PV} {σ : St} {Q : PV → St → Prop} (h : wBi b args σ Q) : Rn (builtin b args σ) Q E := by
  cases args with
  | nil => exact h.elim
  | cons v r =>
  cases r with
  | cons _ _ => exact h.elim
  | nil =>
  cases b with
  | len =>
    cases v <;> first | exact rn_gb h (fun h => h) | exact h.elim | skip
    obtain ⟨xs, hx, h⟩ := ob_L h
    show Rn (biLen σ (.loc _)) Q E
    unfold biLen
    dsimp only
    rw [hx]
    exact rn_gb h fun h => h
  | list =>
    cases v <;> first | exact h.elim | exact rn_gb h (fun h => h _ .mk') | skip
    rename_i l
    have h : obP σ[l]? noL noL (fun es => gd (szOK es.length) (wAl (.list (es.map (·.1))) σ Q)) noI := h
    show Rn (biList σ (.loc l)) Q E
    unfold biList
    dsimp only
    cases ho : σ[l]? with
    | none => rw [ho] at h; exact h.elim
    | some o => rw [ho] at h; cases o <;> first | exact h.elim | exact rn_gb h fun h => h _ .mk'
  | sorted => exact lst_w h fun xs h => rn_gd h fun h => rn_op h fun ss h => h _ .mk'
  | tuple => exact lst_w h fun xs h => rn_gb h fun h => h
  | all => exact lst_w h fun xs h => rn_gb h fun h => rn_op h fun bs h => h
  | abs => exact oneI_w h fun i h => h
  | int => exact oneI_w h fun i h => h
  | isStr => exact rn_gb h fun h => h
  | isInt => exact rn_gb h fun h => h
  | isBool => exact rn_gb h fun h => h
  | isBytes => exact rn_gb h fun h => h
  | isTuple => exact rn_gb h fun h => h
noncomputable def wSplit (x : Str) (args : List PV) (σ : St) (Q : PV → St → Prop) : Prop := match args with
  | [v] => (match v with
    | .str y => ((y.length == 0) = false ∧ szOK x.length ∧ szOK (Txt.split x y).length) ∧ wAl (.list ((Txt.split x y).map .str)) σ Q
    | _ => False)
  | _ => False
noncomputable def wMeth (o : PV) (args : List PV) (σ : St) (Q : PV → St → Prop) : Prop := match o with
  | .str x => wSplit x args σ Q
  | _ => False
theorem meth_w {m : Mi} {o : PV} {args : List PV} {σ : St} {Q : PV → St → Prop} (h : wMeth o args σ Q) : Rn (method m o args σ) Q E := by
  cases o <;> first | exact h.elim | skip
  cases args with
  | nil => exact h.elim
  | cons v r =>
  cases r with
  | cons _ _ => exact h.elim
  | nil => cases v <;> first | exact h.elim | exact rn_gd (gd_d h.1 h.2) fun h => h _ .mk'
noncomputable def wSub (o i : PV) (σ : St) (Q : PV → St → Prop) : Prop := match o with
  | .str x => wOneI i fun k => gd (decide (szOK x.length ∧ k.natAbs ≤ 1000000)) (opP ((seqIndex? k x.length).bind (x.cps[·]?)) fun c => Q (.str ⟨#[c]⟩) σ)
  | .tup xs => wOneI i fun k => gd (decide (k.natAbs ≤ 1000000)) (opP ((seqIndex? k xs.length).bind (xs[·]?)) fun v => Q v σ)
  | .loc l => obP σ[l]? (fun xs => wOneI i fun k => gd (decide (0 ≤ k ∧ k ≤ 1000000)) (opP xs[k.toNat]? fun v => Q v σ)) noL (fun es => gd (keysLike i es) (opP (dget i es) fun v => Q v σ)) noI
  | _ => False
theorem sub_w {o i : PV} {σ : St} {Q : PV → St → Prop} (h : wSub o i σ Q) : Rn (subscr o i σ) Q E := by
  cases o <;> first | exact h.elim | exact oneI_w h (fun k h => rn_gd h fun h => rn_op h fun _ h => h) | skip
  rename_i l
  have h : obP σ[l]? (fun xs => wOneI i fun k => gd (decide (0 ≤ k ∧ k ≤ 1000000)) (opP xs[k.toNat]? fun v => Q v σ)) noL (fun es => gd (keysLike i es) (opP (dget i es) fun v => Q v σ)) noI := h
  show Rn (subObj σ[l]? i σ) Q E
  cases ho : σ[l]? with
  | none => rw [ho] at h; exact h.elim
  | some o => rw [ho] at h; cases o <;> first | exact h.elim | exact oneI_w h (fun k h => rn_gd h fun h => rn_op h fun _ h => h) | exact rn_gb h fun h => rn_op h fun _ h => h
noncomputable def wSlice (o : PV) (lo hi : Option PV) (σ : St) (Q : PV → St → Prop) : Prop := opP (partOf lo) fun a => opP (partOf hi) fun b => match o with
  | .tup xs => gd (szOK xs.length) (Q (.tup (pick xs a b)) σ)
  | .loc l => obP σ[l]? noL (fun xs => gd (szOK xs.length) (wAl (.list (pick xs a b)) σ Q)) noD noI
  | _ => False
theorem slice_w {o : PV} {lo hi : Option PV} {σ : St} {Q : PV → St → Prop} (h : wSlice o lo hi σ Q) : Rn (sliced o lo hi σ) Q E := by
  refine rn_op h fun a h => rn_op h fun b h => ?_
  cases o with
  | tup xs => exact rn_gb h fun h => h
  | loc l =>
    have h : obP σ[l]? noL (fun xs => gd (szOK xs.length) (wAl (.list (pick xs a b)) σ Q)) noD noI := h
    dsimp only
    cases ho : σ[l]? with
    | none => rw [ho] at h; exact h.elim
    | some o => rw [ho] at h; cases o <;> first | exact h.elim | exact rn_gb h fun h => h _ .mk'
  | _ => exact h.elim
noncomputable def wGet (o : PV) (a : Nat) (σ : St) (Q : PV → St → Prop) : Prop := match o with
  | .loc l => obP σ[l]? noL noL noD fun _ fs => gd (decide (a < ND)) (opP (fs.lookup a) fun v => Q v σ)
  | _ => False
theorem get_w {o : PV} {a : Nat} {σ : St} {Q : PV → St → Prop} (h : wGet o a σ Q) : Rn (getattr o a σ) Q E := by
  cases o <;> first | exact h.elim | skip
  rename_i l
  have h : obP σ[l]? noL noL noD (fun _ fs => gd (decide (a < ND)) (opP (fs.lookup a) fun v => Q v σ)) := h
  unfold getattr
  dsimp only
  cases ho : σ[l]? with
  | none => rw [ho] at h; exact h.elim
  | some o => rw [ho] at h; cases o <;> first | exact h.elim | exact rn_gd h fun h => rn_op h fun _ h => h
noncomputable def wSetA (o : PV) (a : Nat) (v : PV) (σ : St) (Q : St → Prop) : Prop := match o with
  | .loc l => obP σ[l]? noL noL noD fun c fs => gd (decide (a < ND)) (∀ σ', Se l (.inst c (putF a v fs)) σ σ' → Q σ')
  | _ => False
theorem setA_w {o : PV} {a : Nat} {v : PV} {σ : St} {Q : St → Prop} (h : wSetA o a v σ Q) : Rn (setattr o a v σ) (fun _ σ => Q σ) E := by
  cases o <;> first | exact h.elim | skip
  rename_i l
  have h : obP σ[l]? noL noL noD (fun c fs => gd (decide (a < ND)) (∀ σ', Se l (.inst c (putF a v fs)) σ σ' → Q σ')) := h
  unfold setattr
  dsimp only
  cases ho : σ[l]? with
  | none => rw [ho] at h; exact h.elim
  | some o => rw [ho] at h; cases o <;> first | exact h.elim | exact rn_gd h fun h => h _ .mk'
noncomputable def wSetI (o i v : PV) (σ : St) (Q : St → Prop) : Prop := match o with
  | .loc l => obP σ[l]? (fun xs => wOneI i fun k => gd (decide (0 ≤ k ∧ k.toNat < xs.length ∧ k ≤ 1000000)) (∀ σ', Se l (.list (xs.set k.toNat v)) σ σ' → Q σ')) noL noD noI
  | _ => False
theorem setI_w {o i v : PV} {σ : St} {Q : St → Prop} (h : wSetI o i v σ Q) : Rn (setitem o i v σ) (fun _ σ => Q σ) E := by
  cases o <;> first | exact h.elim | skip
  obtain ⟨xs, hx, h⟩ := ob_L h
  unfold setitem
  dsimp only
  rw [hx]
  cases i <;> first | exact h.elim | exact rn_gd h fun h => h _ .mk'
noncomputable def wSrc0 (v : PV) (σ : St) (Q : Src → St → Prop) : Prop := match v with
  | .tup xs => Q (.imm xs) σ
  | .str x => gd (ascii x) (Q (.imm (signs x)) σ)
  | .loc l => obP σ[l]? (fun _ => Q (.lst l) σ) noL noD noI
  | _ => False
noncomputable def wSrc2 (v w : PV) (σ : St) (Q : Src → St → Prop) : Prop := match v with
  | .tup xs => (match w with
    | .str y => gd (ascii y) (∀ σ', Al .junk σ σ' → Q (.zip ((xs.zip (signs y)).map fun p => .tup [p.1, p.2]) σ.length) σ')
    | _ => False)
  | _ => False
noncomputable def wSrc (kind : Nat) (vs : List PV) (σ : St) (Q : Src → St → Prop) : Prop := match kind with
  | 0 => (match vs with
    | [v] => wSrc0 v σ Q
    | _ => False)
  | 2 => (match vs with
    | [v, w] => wSrc2 v w σ Q
    | _ => False)
  | _ => False
theorem src_w {kind : Nat} {vs : List PV} {σ : St} {Q : Src → St → Prop} (h : wSrc kind vs σ Q) : Rn (srcR kind vs σ) Q E := by
  have two : ∀ v w, wSrc2 v w σ Q → Rn (src2 v w σ) Q E := fun v w h => by
    cases v <;> first | exact h.elim | skip
    cases w <;> first | exact h.elim | exact rn_gb h fun h => h _ .mk'
  have one : ∀ v, wSrc0 v σ Q → Rn (src0 v σ) Q E := fun v h => by
    cases v <;> first | exact h.elim | exact rn_gb h (fun h => h) | exact h | skip
    obtain ⟨xs, hx, h⟩ := ob_L h
    show Rn (if isLs σ[_]? then _ else _) Q E
    rw [hx]
    exact h
  cases vs with
  | nil => exact (by unfold wSrc at h; split at h <;> exact h.elim)
  | cons v r =>
  match kind, r, h with
  | 0, [], h => exact one v h
  | 2, [w], h => exact two v w h
end
end Mine
end

section
set_option autoImplicit false
set_option linter.unusedVariables false
set_option maxRecDepth 100000
set_option maxHeartbeats 1000000
namespace Mine
open PySem

noncomputable def varP (o : Option (Option PV)) (P : PV → Prop) : Prop := match o with
  | some (some v) => P v
  | _ => False
noncomputable def sumP {α : Type} (r : Sum α PV) (N : α → Prop) (K : PV → Prop) : Prop := match r with
  | .inl a => N a
  | .inr v => K v
noncomputable def isN (r : PV) (P : Prop) : Prop := match r with
  | .none => P
  | _ => False
noncomputable def isNo {α : Type} (o : Option α) (P : Prop) : Prop := match o with
  | .none => P
  | some _ => False
noncomputable def noE : Nat → St → Prop := fun _ _ => False
noncomputable def tabP (o : Option PO) (P : List (Nat × Nat) → Prop) : Prop := match o with
  | some (.tab ks) => P ks
  | _ => False
noncomputable def wUm (T : Tb) (m : Nat) (x : PV) (σ : St) (K : Nat → Prop) : Prop := match x with
  | .loc l => obP σ[l]? noL noL noD fun c fs => opP (T.ME c m) fun f => isNo (fs.lookup m) (K f)
  | _ => False
/-- an and, or an or, goes on or ends -/
noncomputable def brA (isAnd t : Bool) (P P' : Prop) : Prop := match isAnd with
  | true => br t P P'
  | false => br t P' P
section
variable (w : IE → St → (PV → St → Prop) → Prop)
noncomputable def wL : List IE → St → (List PV → St → Prop) → Prop
  | [], σ, Q => Q [] σ
  | e :: es, σ, Q => w e σ fun v σ => wL es σ fun vs σ => Q (v :: vs) σ
noncomputable def wPairs : List (IE × IE) → St → (List (PV × PV) → St → Prop) → Prop
  | [], σ, Q => Q [] σ
  | e :: es, σ, Q => w e.1 σ fun k σ => w e.2 σ fun v σ => wPairs es σ fun vs σ => Q ((k, v) :: vs) σ
noncomputable def wOpt (o : Option IE) (σ : St) (Q : Option PV → St → Prop) : Prop := match o with
  | .none => Q .none σ
  | some e => w e σ fun v σ => Q (some v) σ
noncomputable def wChain (a : PV) : List (CmpOp × IE) → St → (Bool → St → Prop) → Prop
  | [], _, _ => False
  | p :: r, σ, Q => match r with
    | [] => w p.2 σ fun b σ => wCmp p.1 a b σ Q
    | _ :: _ => False
noncomputable def wBop (isAnd : Bool) : List IE → St → (PV → St → Prop) → Prop
  | [], _, _ => False
  | e :: r, σ, Q => match r with
    | [] => w e σ Q
    | _ :: _ => w e σ fun v σ => wTru v σ fun t σ => brA isAnd t (wBop isAnd r σ Q) (Q v σ)
variable (wc : IE → St → (Bool → St → Prop) → Prop)
noncomputable def wAll (isAnd : Bool) : List IE → St → (Bool → St → Prop) → Prop
  | [], σ, Q => Q isAnd σ
  | e :: r, σ, Q => wc e σ fun t σ => brA isAnd t (wAll isAnd r σ Q) (Q (!isAnd) σ)
noncomputable def wIfs : List IE → St → (Bool → St → Prop) → Prop
  | [], σ, Q => Q true σ
  | e :: r, σ, Q => wc e σ fun t σ => br t (wIfs r σ Q) (Q false σ)
end
mutual
noncomputable def wE (T : Tb) : Nat → Fr → (Nat → St → Prop) → IE → St → (PV → St → Prop) → Prop
  | 0, _, _, _, _, _ => False
  | n + 1, fr, E, e, σ, Q => match e with
    | .cst v => Q v σ
    | .var i => varP fr[i]? fun v => Q v σ
    | .neg e => wE T n fr E e σ fun v σ => wOneI v fun i => Q (.int (-i)) σ
    | .not e => wE T n fr E e σ fun v σ => wTru v σ fun b σ => Q (.bool (!b)) σ
    | .bop isAnd es => wBop (wE T n fr E) isAnd es σ Q
    | .ite c t e => wC T n fr E c σ fun b σ => br b (wE T n fr E t σ Q) (wE T n fr E e σ Q)
    | .bin op a b => wE T n fr E a σ fun x σ => wE T n fr E b σ fun y σ => wBin op x y σ Q
    | .cmp a r => wE T n fr E a σ fun x σ => wChain (wE T n fr E) x r σ fun b σ => Q (.bool b) σ
    | .list es => wL (wE T n fr E) es σ fun vs σ => gd (szOK vs.length) (wAl (.list vs) σ Q)
    | .tup es => wL (wE T n fr E) es σ fun vs σ => gd (szOK vs.length) (Q (.tup vs) σ)
    | .dict kvs => gd (decide (kvs.length ≤ 15)) (wPairs (wE T n fr E) kvs σ fun ps σ => opP (dictAll [] ps) fun es => wAl (.dict es) σ Q)
    | .call f es => wL (wE T n fr E) es σ fun vs σ => Rn (T.F f vs σ) Q E
    | .new c es => wL (wE T n fr E) es σ fun vs σ => gd (decide (c < NC)) (opP (T.IN c) fun f => ∀ σ', Al (.inst c []) σ σ' → Rn (T.F f (.loc σ.length :: vs) σ') (fun r σ' => isN r (Q (.loc σ.length) σ')) E)
    | .blt b es => wL (wE T n fr E) es σ fun vs σ => wBi b vs σ Q
    | .meth m o es => wE T n fr E o σ fun x σ => gd (isStr x) (wL (wE T n fr E) es σ fun vs σ => wMeth x vs σ Q)
    | .umeth m o es => wE T n fr E o σ fun x σ => wUm T m x σ fun f => wL (wE T n fr E) es σ fun vs σ => Rn (T.F f (x :: vs) σ) Q E
    | .attr o a => wE T n fr E o σ fun x σ => wGet x a σ Q
    | .isLet c e line col => tabP σ[(1 : Nat)]? fun ks => gd (decide (¬ (line, col) ∈ ks)) (∀ σ', Se 1 (.tab ((line, col) :: ks)) σ σ' → ∀ M : Bool → St → Prop, (∀ b σ, Q (.bool b) σ → M b σ) → wE T n fr (fun c' σ => c = c' ∧ M false σ) e σ' fun _ σ => M true σ)
    | .sub o i => wE T n fr E o σ fun x σ => wE T n fr E i σ fun y σ => wSub x y σ Q
    | .slice o lo hi => wE T n fr E o σ fun x σ => wOpt (wE T n fr E) lo σ fun a σ => wOpt (wE T n fr E) hi σ fun b σ => wSlice x a b σ Q
    | .comp elt val tgt isTup kind its ifs base width => isNo val (gd (decide (fr.length = base)) (wL (wE T n fr noE) its σ fun vs σ => wSrc kind vs σ fun src σ =>
        Rn (loopS (compBody (evC T n) (emL (evE T n) elt) tgt isTup ifs) src (fr ++ List.replicate width none, []) σ) (fun r σ => sumP r (fun p => wAl (.list p.2) σ Q) fun _ => False) noE))
noncomputable def wC (T : Tb) : Nat → Fr → (Nat → St → Prop) → IE → St → (Bool → St → Prop) → Prop
  | 0, _, _, _, _, _ => False
  | n + 1, fr, E, e, σ, Q => match e with
    | .not e => wC T n fr E e σ fun b σ => Q (!b) σ
    | .bop isAnd es => wAll (wC T n fr E) isAnd es σ Q
    | .ite c t e => wC T n fr E c σ fun b σ => br b (wC T n fr E t σ Q) (wC T n fr E e σ Q)
    | .cmp a r => wE T n fr E a σ fun x σ => wChain (wE T n fr E) x r σ Q
    | e => wE T n fr E e σ fun v σ => wTru v σ Q
end
section
variable {α : Type} {E : Nat → St → Prop} {σ : St}
theorem var_w {o : Option (Option PV)} {P : PV → Prop} {f : PV → R α} {Q : α → St → Prop} (h : varP o P) (k : ∀ v, P v → Rn (f v) Q E) : Rn (match o with | some (some v) => f v | _ => .stuck) Q E := by
  cases o with
  | none => exact h.elim
  | some o => cases o with
    | none => exact h.elim
    | some v => exact k v h
variable {w : IE → St → (PV → St → Prop) → Prop} {ev : IE → St → R PV} (hw : ∀ e σ Q, w e σ Q → Rn (ev e σ) Q E)
include hw
theorem l_w {es : List IE} : ∀ {σ : St} {Q : List PV → St → Prop}, wL w es σ Q → Rn (evList ev es σ) Q E := by
  induction es with
  | nil => exact fun h => h
  | cons e es ih => exact fun h => .bind' (hw _ _ _ h) fun v σ h => .bind' (ih h) fun vs σ h => h
theorem pairs_w {es : List (IE × IE)} : ∀ {σ : St} {Q : List (PV × PV) → St → Prop}, wPairs w es σ Q → Rn (evPairs ev es σ) Q E := by
  induction es with
  | nil => exact fun h => h
  | cons e es ih => exact fun h => .bind' (hw _ _ _ h) fun k σ h => .bind' (hw _ _ _ h) fun v σ h => .bind' (ih h) fun vs σ h => h
theorem opt_w {o : Option IE} {Q : Option PV → St → Prop} (h : wOpt w o σ Q) : Rn (evOpt ev o σ) Q E := by
  cases o with
  | none => exact h
  | some e => exact .bind' (hw _ _ _ h) fun v σ h => h
theorem chain_w {a : PV} {r : List (CmpOp × IE)} {Q : Bool → St → Prop} (h : wChain w a r σ Q) : Rn (evChain ev a r σ) Q E := by
  cases r with
  | nil => exact h.elim
  | cons p r => cases r with
    | nil => exact .bind' (hw _ _ _ h) fun b σ h => cmp_w h
    | cons _ _ => exact h.elim
omit hw in
theorem brA_w {b t : Bool} {P P' : Prop} {m n : R α} {Q : α → St → Prop} (h : brA b t P P') (k : P → Rn m Q E) (k' : P' → Rn n Q E) : Rn (if t == b then m else n) Q E := by
  cases b <;> cases t <;> first | exact k h | exact k' h
theorem bop_w {b : Bool} {es : List IE} : ∀ {σ : St} {Q : PV → St → Prop}, wBop w b es σ Q → Rn (evBop ev b es σ) Q E := by
  induction es with
  | nil => exact fun h => h.elim
  | cons e r ih => cases r with
    | nil => exact fun h => hw _ _ _ h
    | cons f r => exact fun h => .bind' (hw _ _ _ h) fun v σ h => .bind' (tru_w h) fun t σ h => brA_w h (fun h => ih h) fun h => h
omit hw
variable {wc : IE → St → (Bool → St → Prop) → Prop} {ec : IE → St → R Bool} (hc : ∀ e σ Q, wc e σ Q → Rn (ec e σ) Q E)
include hc
theorem all_w {b : Bool} {es : List IE} : ∀ {σ : St} {Q : Bool → St → Prop}, wAll wc b es σ Q → Rn (evAll ec b es σ) Q E := by
  induction es with
  | nil => exact fun h => h
  | cons e r ih => exact fun h => .bind' (hc _ _ _ h) fun t σ h => by cases b <;> cases t <;> first | exact ih h | exact h
theorem ifs_w {es : List IE} : ∀ {σ : St} {Q : Bool → St → Prop}, wIfs wc es σ Q → Rn (evIfs ec es σ) Q E := by
  induction es with
  | nil => exact fun h => h
  | cons e r ih => exact fun h => .bind' (hc _ _ _ h) fun t σ h => rn_br h (fun h => ih h) fun h => h
end
theorem um_w {T : Tb} {args : St → R (List PV)} {m : Nat} {x : PV} {σ : St} {Q : PV → St → Prop} {E : Nat → St → Prop} {K : Nat → Prop} (h : wUm T m x σ K) (k : ∀ f, K f → Rn ((args σ).bind fun vs σ => T.F f (x :: vs) σ) Q E) : Rn (umE T args m x σ) Q E := by
  cases x <;> first | exact h.elim | skip
  rename_i l
  have h : obP σ[l]? noL noL noD (fun c fs => opP (T.ME c m) fun f => isNo (fs.lookup m) (K f)) := h
  show Rn (umR T args m _ σ[l]? σ) Q E
  cases ho : σ[l]? with
  | none => rw [ho] at h; exact h.elim
  | some o =>
    rw [ho] at h
    cases o <;> first | exact h.elim | skip
    rename_i c fs
    have h : opP (T.ME c m) (fun f => isNo (fs.lookup m) (K f)) := h
    show Rn (umK T.F args _ (T.ME c m) (fs.lookup m) σ) Q E
    generalize T.ME c m = o1 at h ⊢
    generalize fs.lookup m = o2 at h ⊢
    cases o1 with
    | none => exact h.elim
    | some f => cases o2 with
      | none => exact k f h
      | some _ => exact h.elim
theorem let_w {c line col : Nat} {f : St → R PV} {σ : St} {Q : PV → St → Prop} {E : Nat → St → Prop} {P : List (Nat × Nat) → Prop} (h : tabP σ[(1 : Nat)]? fun ks => gd (decide (¬ (line, col) ∈ ks)) (P ks)) (k : ∀ ks, P ks → Rn (f (σ.set 1 (.tab ((line, col) :: ks)))) (fun _ σ => Q (.bool true) σ) (fun c' σ => c = c' ∧ Q (.bool false) σ)) :
    Rn (match σ[(1 : Nat)]? with
        | some (.tab ks) => if (line, col) ∈ ks then .stuck else match f (σ.set 1 (.tab ((line, col) :: ks))) with
            | .ok _ σ => .ok (.bool true) σ
            | .exc c' σ => if c = c' then .ok (.bool false) σ else .stuck
            | .stuck => .stuck
        | _ => .stuck) Q E := by
  generalize σ[(1 : Nat)]? = o at h
  cases o with
  | none => exact h.elim
  | some o =>
    cases o <;> first | exact h.elim | skip
    rename_i ks
    by_cases hm : (line, col) ∈ ks
    · exact (by have h : gd (decide (¬ (line, col) ∈ ks)) (P ks) := h; rw [decide_eq_false (by simpa using hm)] at h; exact h.elim)
    · have h : gd (decide (¬ (line, col) ∈ ks)) (P ks) := h
      rw [decide_eq_true hm] at h
      have := k ks h
      show Rn (if (line, col) ∈ ks then _ else _) Q E
      rw [if_neg hm]
      cases hf : f (σ.set 1 (.tab ((line, col) :: ks))) with
      | ok _ σ => rw [hf] at this; exact this
      | exc c' σ =>
        rw [hf] at this
        show Rn (if c = c' then _ else _) Q E
        rw [if_pos this.1]; exact this.2
      | stuck => rw [hf] at this; exact this
theorem comp_w {T : Tb} {n : Nat} {fr : Fr} {elt : IE} {tgt : List Nat} {isTup : Bool} {kind : Nat} {its ifs : List IE} {base width : Nat} {σ : St} {Q : PV → St → Prop} {E : Nat → St → Prop} {w : IE → St → (PV → St → Prop) → Prop} (hw : ∀ e σ Q, w e σ Q → Rn (evE T n fr e σ) Q noE)
    (h : gd (decide (fr.length = base)) (wL w its σ fun vs σ => wSrc kind vs σ fun src σ =>
        Rn (loopS (compBody (evC T n) (emL (evE T n) elt) tgt isTup ifs) src (fr ++ List.replicate width none, []) σ) (fun r σ => sumP r (fun p => wAl (.list p.2) σ Q) fun _ => False) noE)) :
    Rn (compR (evC T n) (emL (evE T n) elt) .list [] tgt isTup ifs (srcF (evE T n) kind its) base width fr σ) Q E :=
  rn_noExc (rn_gd h fun h => .bind' (.bind' (l_w hw h) fun vs σ h => src_w h) fun src σ h => .bind' h fun r σ h => by
    cases r with
    | inl p => exact h _ .mk'
    | inr v => exact h)
theorem ev_w (T : Tb) (n : Nat) : (∀ fr E e σ Q, wE T n fr E e σ Q → Rn (evE T n fr e σ) Q E) ∧ ∀ fr E e σ Q, wC T n fr E e σ Q → Rn (evC T n fr e σ) Q E := by
  induction n with
  | zero => exact ⟨fun fr E e σ Q h => h.elim, fun fr E e σ Q h => h.elim⟩
  | succ n ih =>
    obtain ⟨iE, iC⟩ := ih
    have hE : ∀ fr E e σ Q, wE T (n + 1) fr E e σ Q → Rn (evE T (n + 1) fr e σ) Q E := fun fr E e σ Q h => by
      cases e with
      | cst v => exact h
      | var i => exact var_w h fun v h => h
      | neg e => exact .bind' (iE _ _ _ _ _ h) fun v σ h => by cases v <;> first | exact h.elim | exact h
      | not e => exact .bind' (iE _ _ _ _ _ h) fun v σ h => .bind' (tru_w h) fun b σ h => h
      | bop b es => exact bop_w (iE _ _) h
      | ite c t e => exact .bind' (iC _ _ _ _ _ h) fun b σ h => rn_br h (iE _ _ _ _ _) (iE _ _ _ _ _)
      | bin op a b => exact .bind' (iE _ _ _ _ _ h) fun x σ h => .bind' (iE _ _ _ _ _ h) fun y σ h => bin_w h
      | cmp a r => exact .bind' (iE _ _ _ _ _ h) fun x σ h => .bind' (chain_w (iE _ _) h) fun b σ h => h
      | list es => exact .bind' (l_w (iE _ _) h) fun vs σ h => rn_gb h fun h => h _ .mk'
      | tup es => exact .bind' (l_w (iE _ _) h) fun vs σ h => rn_gb h fun h => h
      | dict kvs =>
        refine rn_gd h fun h => .bind' (pairs_w (iE _ _) h) fun ps σ h => ?_
        generalize dictAll [] ps = o at h
        cases o with
        | none => exact h.elim
        | some es => exact h _ .mk'
      | call f es => exact .bind' (l_w (iE _ _) h) fun vs σ h => h
      | new c es =>
        refine .bind' (l_w (iE _ _) h) fun vs σ h => ?_
        by_cases hc : c < NC
        · rw [if_pos hc]
          rw [decide_eq_true hc] at h
          have h : opP (T.IN c) (fun f => ∀ σ', Al (.inst c []) σ σ' → Rn (T.F f (.loc σ.length :: vs) σ') (fun r σ' => isN r (Q (.loc σ.length) σ')) E) := h
          generalize T.IN c = o at h
          cases o with
          | none => exact h.elim
          | some f =>
            refine .bind ?_
            show Rn ((T.F f (.loc σ.length :: vs) (σ ++ [.inst c []])).bind _) Q E
            exact .bind' (h _ .mk') fun r σ' (h : isN r _) => by cases r <;> first | exact h.elim | exact h
        · rw [decide_eq_false hc] at h; exact h.elim
      | blt b es => exact .bind' (l_w (iE _ _) h) fun vs σ h => bi_w h
      | meth m o es => exact .bind' (iE _ _ _ _ _ h) fun x σ h => rn_gb h fun h => .bind' (l_w (iE _ _) h) fun vs σ h => meth_w h
      | umeth m o es => exact .bind' (iE _ _ _ _ _ h) fun x σ h => um_w h fun f h => .bind' (l_w (iE _ _) h) fun vs σ h => h
      | attr o a => exact .bind' (iE _ _ _ _ _ h) fun x σ h => get_w h
      | isLet c e line col => exact let_w h fun ks h => iE _ _ _ _ _ (h _ .mk' (fun b σ => Q (.bool b) σ) fun _ _ q => q)
      | sub o i => exact .bind' (iE _ _ _ _ _ h) fun x σ h => .bind' (iE _ _ _ _ _ h) fun y σ h => sub_w h
      | slice o lo hi => exact .bind' (iE _ _ _ _ _ h) fun x σ h => .bind' (opt_w (iE _ _) h) fun a σ h => .bind' (opt_w (iE _ _) h) fun b σ h => slice_w h
      | comp elt val tgt isTup kind its ifs base width => cases val with
        | none => exact comp_w (iE _ _) h
        | some _ => exact h.elim
    refine ⟨hE, fun fr E e σ Q h => ?_⟩
    have fb : (wE T n fr E e σ fun v σ => wTru v σ Q) → Rn ((evE T n fr e σ).bind fun v σ => truR v σ) Q E := fun h => .bind' (iE _ _ _ _ _ h) fun v σ h => tru_w h
    cases e with
    | not e => exact .bind' (iC _ _ _ _ _ h) fun b σ h => h
    | bop b es => exact all_w (iC _ _) h
    | ite c t e => exact .bind' (iC _ _ _ _ _ h) fun b σ h => rn_br h (iC _ _ _ _ _) (iC _ _ _ _ _)
    | cmp a r => exact .bind' (iE _ _ _ _ _ h) fun x σ h => chain_w (iE _ _) h
    | _ => exact fb h
end Mine
end

section
set_option autoImplicit false
set_option linter.unusedVariables false
set_option maxRecDepth 100000
set_option maxHeartbeats 1000000
namespace Mine
open PySem

noncomputable def itP (σ : St) (v : PV) (P : List PV → Prop) : Prop := match v with
  | .tup xs => P xs
  | .loc l => obP σ[l]? P noL noD noI
  | _ => False
noncomputable def flP (fl : Fl) (N : Fr → Prop) (K : PV → Prop) : Prop := match fl with
  | .next fr => N fr
  | .ret v => K v
mutual
noncomputable def wT (T : Tb) : Nat → Fr → (Nat → St → Prop) → IT → PV → St → (Fr → St → Prop) → Prop
  | 0, _, _, _, _, _, _ => False
  | n + 1, fr, E, t, v, σ, Q => match t with
    | .name i => gd (decide (i < fr.length)) (Q (fr.set i (some v)) σ)
    | .tup ts => itP σ v fun vs => gd (decide (ts.length = vs.length)) (wTs T n fr E ts vs σ Q)
    | .attr o a => wE T n fr E o σ fun x σ => wSetA x a v σ fun σ => Q fr σ
    | .sub o i => wE T n fr E o σ fun x σ => wE T n fr E i σ fun y σ => wSetI x y v σ fun σ => Q fr σ
noncomputable def wTs (T : Tb) : Nat → Fr → (Nat → St → Prop) → List IT → List PV → St → (Fr → St → Prop) → Prop
  | 0, _, _, _, _, _, _ => False
  | n + 1, fr, E, ts, vs, σ, Q => match ts with
    | [] => (match vs with
      | [] => Q fr σ
      | _ :: _ => False)
    | t :: ts => (match vs with
      | [] => False
      | v :: vs => wT T n fr E t v σ fun fr σ => wTs T n fr E ts vs σ Q)
end
mutual
noncomputable def wS (T : Tb) : Nat → Fr → (Nat → St → Prop) → IS → St → (Fr → St → Prop) → (PV → St → Prop) → Prop
  | 0, _, _, _, _, _, _ => False
  | n + 1, fr, E, s, σ, N, K => match s with
    | .expr e => wE T n fr E e σ fun _ σ => N fr σ
    | .ret e => wE T n fr E e σ K
    | .asg t e => wE T n fr E e σ fun v σ => wT T n fr E t v σ N
    | .ife c t e => wC T n fr E c σ fun b σ => br b (wSs T n fr E t σ N K) (wSs T n fr E e σ N K)
    | .forr t kind its b => wL (wE T n fr E) its σ fun vs σ => wSrc kind vs σ fun src σ => Rn (loopS (forBody (evT T n) (evSs T n) t b) src fr σ) (fun r σ => sumP r (fun fr => N fr σ) fun v => K v σ) E
    | .raise c => E c σ
noncomputable def wSs (T : Tb) : Nat → Fr → (Nat → St → Prop) → List IS → St → (Fr → St → Prop) → (PV → St → Prop) → Prop
  | 0, _, _, _, _, _, _ => False
  | n + 1, fr, E, ss, σ, N, K => match ss with
    | [] => N fr σ
    | s :: ss => wS T n fr E s σ (fun fr σ => wSs T n fr E ss σ N K) K
end
theorem wE_ok {T : Tb} {n : Nat} {fr : Fr} {E : Nat → St → Prop} {e : IE} {σ : St} {Q : PV → St → Prop} (h : wE T n fr E e σ Q) : Rn (evE T n fr e σ) Q E := (ev_w T n).1 _ _ _ _ _ h
theorem wC_ok {T : Tb} {n : Nat} {fr : Fr} {E : Nat → St → Prop} {e : IE} {σ : St} {Q : Bool → St → Prop} (h : wC T n fr E e σ Q) : Rn (evC T n fr e σ) Q E := (ev_w T n).2 _ _ _ _ _ h
theorem it_w {α : Type} {σ : St} {v : PV} {P : List PV → Prop} {f : List PV → R α} {Q : α → St → Prop} {E : Nat → St → Prop} (h : itP σ v P) (k : ∀ vs, P vs → Rn (f vs) Q E) : Rn (match itemsOf σ v with
        | some vs => f vs
        | .none => .stuck) Q E := by
  cases v <;> first | exact h.elim | exact k _ h | skip
  obtain ⟨xs, hx, h⟩ := ob_L h
  have e : ∀ l, σ[l]? = some (.list xs) → itemsOf σ (.loc l) = some xs := fun l q => by
    unfold itemsOf
    dsimp only
    rw [q]
  rw [e _ hx]
  exact k _ h
theorem evT_w (T : Tb) (n : Nat) : (∀ fr E t v σ Q, wT T n fr E t v σ Q → Rn (evT T n fr t v σ) Q E) ∧ ∀ fr E ts vs σ Q, wTs T n fr E ts vs σ Q → Rn (evTs T n fr ts vs σ) Q E := by
  induction n with
  | zero => exact ⟨fun fr E t v σ Q h => h.elim, fun fr E t v σ Q h => h.elim⟩
  | succ n ih =>
    refine ⟨fun fr E t v σ Q h => ?_, fun fr E ts vs σ Q h => ?_⟩
    · cases t with
      | name i => exact rn_gd h fun h => h
      | tup ts => exact it_w h fun vs h => rn_gd h fun h => ih.2 _ _ _ _ _ _ h
      | attr o a => exact .bind' (wE_ok h) fun x σ h => .bind' (setA_w h) fun _ σ h => h
      | sub o i => exact .bind' (wE_ok h) fun x σ h => .bind' (wE_ok h) fun y σ h => .bind' (setI_w h) fun _ σ h => h
    · cases ts <;> cases vs <;> first | exact h.elim | exact h | exact .bind' (ih.1 _ _ _ _ _ _ h) fun fr σ h => ih.2 _ _ _ _ _ _ h
theorem evS_w (T : Tb) (n : Nat) : (∀ fr E s σ N K, wS T n fr E s σ N K → Rn (evS T n fr s σ) (fun fl σ => flP fl (fun fr => N fr σ) fun v => K v σ) E) ∧ ∀ fr E ss σ N K, wSs T n fr E ss σ N K → Rn (evSs T n fr ss σ) (fun fl σ => flP fl (fun fr => N fr σ) fun v => K v σ) E := by
  induction n with
  | zero => exact ⟨fun fr E s σ N K h => h.elim, fun fr E s σ N K h => h.elim⟩
  | succ n ih =>
    refine ⟨fun fr E s σ N K h => ?_, fun fr E ss σ N K h => ?_⟩
    · cases s with
      | expr e => exact .bind' (wE_ok h) fun _ σ h => h
      | ret e => exact .bind' (wE_ok h) fun _ σ h => h
      | asg t e => exact .bind' (wE_ok h) fun v σ h => .bind' ((evT_w T n).1 _ _ _ _ _ _ h) fun fr σ h => h
      | ife c t e => exact .bind' (wC_ok h) fun b σ h => rn_br h (ih.2 _ _ _ _ _ _) (ih.2 _ _ _ _ _ _)
      | forr t kind its b => exact .bind' (.bind' (l_w ((ev_w T n).1 _ _) h) fun vs σ h => src_w h) fun src σ (h : Rn _ _ _) => .bind' h fun r σ h => by cases r <;> exact h
      | raise c => exact h
    · cases ss with
      | nil => exact h
      | cons s ss =>
        refine .bind' (ih.1 _ _ _ _ _ _ h) fun fl σ h => ?_
        cases fl with
        | next fr => exact ih.2 _ _ _ _ _ _ h
        | ret v => exact h
theorem fn_w {T : Tb} {f : Fn} {args : List PV} {σ : St} {Q : PV → St → Prop} {E : Nat → St → Prop} (h : args.length = f.nargs ∧ f.nargs ≤ f.width)
    (hr : wSs T fuel0 (args.map some ++ List.replicate (f.width - f.nargs) .none) E f.body σ (fun _ σ => Q .none σ) Q) : Rn (runFn T f args σ) Q E := by
  have hr := (evS_w T _).2 _ _ _ _ _ _ hr
  unfold runFn
  rw [if_pos h]
  cases hm : evSs T fuel0 (args.map some ++ List.replicate (f.width - f.nargs) .none) f.body σ with
  | ok fl σ => rw [hm] at hr; cases fl <;> exact hr
  | exc c σ => rw [hm] at hr; exact hr
  | stuck => rw [hm] at hr; exact hr
theorem F_of {P : Prg} {d k : Nat} {f : Fn} {args : List PV} {σ : St} {Q : PV → St → Prop} {E : Nat → St → Prop} (hf : P.fns k = some f) (h : Rn (runFn (tb P d) f args σ) Q E) : Rn ((tb P (d + 1)).F k args σ) Q E := by
  show Rn (match P.fns k with
    | some f => runFn (tb P d) f args σ
    | none => .stuck) Q E
  rw [hf]
  exact h
theorem F_w {P : Prg} {d k : Nat} {f : Fn} {args : List PV} {σ : St} {Q : PV → St → Prop} {E : Nat → St → Prop} (hf : P.fns k = some f) (h : args.length = f.nargs ∧ f.nargs ≤ f.width)
    (hr : wSs (tb P d) fuel0 (args.map some ++ List.replicate (f.width - f.nargs) .none) E f.body σ (fun _ σ => Q .none σ) Q) : Rn ((tb P (d + 1)).F k args σ) Q E :=
  F_of hf (fn_w h hr)
/-! loops -/
theorem for_w {T : Tb} {n : Nat} {t : IT} {b : List IS} {x : PV} {fr : Fr} {σ : St} {Q : Sum Fr PV → St → Prop} {E : Nat → St → Prop} (h : wT T n fr E t x σ fun fr σ => wSs T n fr E b σ (fun fr σ => Q (.inl fr) σ) fun v σ => Q (.inr v) σ) : Rn (forBody (evT T n) (evSs T n) t b x fr σ) Q E :=
  .bind' ((evT_w T n).1 _ _ _ _ _ _ h) fun fr σ h => .bind' ((evS_w T n).2 _ _ _ _ _ _ h) fun fl σ h => by cases fl <;> exact h
theorem cmpr_w {T : Tb} {n : Nat} {elt : IE} {tgt : List Nat} {isTup : Bool} {ifs : List IE} {x : PV} {p : Fr × List PV} {σ : St} {Q : Sum (Fr × List PV) PV → St → Prop} {E : Nat → St → Prop}
    (h : opP (bindT p.1 tgt isTup x) fun fr => wIfs (wC T n fr E) ifs σ fun t σ => br t (wE T n fr E elt σ fun v σ => gd (szOK p.2.length) (Q (.inl (fr, p.2 ++ [v])) σ)) (Q (.inl (fr, p.2)) σ)) :
    Rn (compBody (evC T n) (emL (evE T n) elt) tgt isTup ifs x p σ) Q E := by
  unfold compBody
  generalize bindT p.1 tgt isTup x = o at h
  cases o with
  | none => exact h.elim
  | some fr => exact .bind' (ifs_w ((ev_w T n).2 _ _) h) fun t σ h => rn_br h (fun h => .bind' (Q' := fun a σ => Q (.inl (fr, a)) σ) (.bind' (wE_ok h) fun v σ h => rn_gb h fun h => h) fun a σ h => h) fun h => h
theorem cmpr0_w {T : Tb} {n : Nat} {elt : IE} {tgt : List Nat} {isTup : Bool} {x : PV} {p : Fr × List PV} {σ : St} {Q : Sum (Fr × List PV) PV → St → Prop} {E : Nat → St → Prop}
    (h : opP (bindT p.1 tgt isTup x) fun fr => wE T n fr E elt σ fun v σ => gd (szOK p.2.length) (Q (.inl (fr, p.2 ++ [v])) σ)) :
    Rn (compBody (evC T n) (emL (evE T n) elt) tgt isTup [] x p σ) Q E := cmpr_w h
section
variable {α : Type} {body : PV → α → St → R (Sum α PV)} {N : α → St → Prop} {K : PV → St → Prop} {E : Nat → St → Prop}
theorem lpI (P : List PV → α → St → Prop) (h0 : ∀ a σ, P [] a σ → N a σ)
    (hs : ∀ x rest a σ, P (x :: rest) a σ → Rn (body x a σ) (fun r σ' => sumP r (fun a' => P rest a' σ') fun v => K v σ') E) {xs : List PV} : ∀ {a σ}, P xs a σ → Rn (loopS body (.imm xs) a σ) (fun r σ => sumP r (fun a => N a σ) fun v => K v σ) E := by
  induction xs with
  | nil => exact fun h => h0 _ _ h
  | cons x xs ih =>
    refine fun h => .bind' (hs _ _ _ _ h) fun r σ h => ?_
    cases r with
    | inl a => exact ih h
    | inr v => exact h
theorem lpZ (P : List PV → α → St → Prop) (l : Nat) (hl : ∀ rest a σ, P rest a σ → σ[l]? = some .junk) (h0 : ∀ a σ, P [] a σ → N a σ)
    (hs : ∀ x rest a σ, P (x :: rest) a σ → Rn (body x a σ) (fun r σ' => sumP r (fun a' => P rest a' σ') fun v => K v σ') E) {xs : List PV} : ∀ {a σ}, P xs a σ → Rn (loopS body (.zip xs l) a σ) (fun r σ => sumP r (fun a => N a σ) fun v => K v σ) E := by
  induction xs with
  | nil =>
    intro a σ h
    show Rn (junkR σ[l]? _) _ E
    rw [hl _ _ _ h]; exact h0 _ _ h
  | cons x xs ih =>
    intro a σ h
    show Rn (junkR σ[l]? _) _ E
    rw [hl _ _ _ h]
    refine .bind' (hs _ _ _ _ h) fun r σ h => ?_
    cases r with
    | inl a => exact ih h
    | inr v => exact h
theorem lpL_aux {xs : List PV} (P : List PV → α → St → Prop) (l : Nat) (hl : ∀ rest a σ, P rest a σ → σ[l]? = some (.list xs)) (h0 : ∀ a σ, P [] a σ → N a σ)
    (hs : ∀ x rest a σ, P (x :: rest) a σ → Rn (body x a σ) (fun r σ' => sumP r (fun a' => P rest a' σ') fun v => K v σ') E) {rest : List PV} : ∀ {k i a σ}, xs.drop i = rest → rest.length < k → P rest a σ → Rn (loopL body l k i a σ) (fun r σ => sumP r (fun a => N a σ) fun v => K v σ) E := by
  induction rest with
  | nil =>
    intro k i a σ hd hk h
    cases k with
    | zero => exact absurd hk (Nat.not_lt_zero _)
    | succ k =>
      show Rn (lstO σ[l]? _) _ E
      rw [hl _ _ _ h]
      show Rn (endO xs[i]? _ _) _ E
      rw [List.getElem?_eq_none (List.drop_eq_nil_iff.mp hd)]
      exact h0 _ _ h
  | cons x rest ih =>
    intro k i a σ hd hk h
    cases k with
    | zero => exact absurd hk (Nat.not_lt_zero _)
    | succ k =>
      show Rn (lstO σ[l]? _) _ E
      rw [hl _ _ _ h]
      show Rn (endO xs[i]? _ _) _ E
      have hx : xs[i]? = some x := by
        have := congrArg (fun l : List PV => l[0]?) hd
        rwa [List.getElem?_drop] at this
      rw [hx]
      refine .bind' (hs _ _ _ _ h) fun r σ h => ?_
      cases r with
      | inl a => exact ih (by rw [← List.drop_drop, hd]; rfl) (Nat.lt_of_succ_lt_succ hk) h
      | inr v => exact h
theorem lpL {xs : List PV} (P : List PV → α → St → Prop) (l : Nat) {a : α} {σ : St} (hk : xs.length < 2000) (h : P xs a σ) (hl : ∀ rest a σ, P rest a σ → σ[l]? = some (.list xs)) (h0 : ∀ a σ, P [] a σ → N a σ)
    (hs : ∀ x rest a σ, P (x :: rest) a σ → Rn (body x a σ) (fun r σ' => sumP r (fun a' => P rest a' σ') fun v => K v σ') E) : Rn (loopS body (.lst l) a σ) (fun r σ => sumP r (fun a => N a σ) fun v => K v σ) E :=
  lpL_aux P l hl h0 hs rfl hk h
end
end Mine
end

section
set_option autoImplicit false
set_option linter.unusedVariables false
set_option maxRecDepth 100000
set_option maxHeartbeats 1000000
set_option pp.deepTerms false
set_option pp.maxSteps 300
namespace Mine
open PySem

structure Bx where
  g : Int
  s : Int
  p : Int
noncomputable def boxObj (c : Nat) (b : Bx) : PO := .list [.loc c, .int b.g, .int b.s, .int b.p]
theorem szOK_of {n : Nat} (h : n ≤ 1000000) : szOK n = true := decide_eq_true h
/-- all but one object stay -/
noncomputable def Kp (lb : Nat) (σ σ' : St) : Prop := ∀ (i : Nat) (o : PO), σ[i]? = some o → i ≠ lb → σ'[i]? = some o
theorem Kp.refl {lb : Nat} {σ : St} : Kp lb σ σ := fun _ _ h _ => h
theorem Kp.trans {lb : Nat} {a b c : St} (h : Kp lb a b) (k : Kp lb b c) : Kp lb a c := fun i o e n => k i o (h i o e n) n
theorem Gw.kp {lb : Nat} {σ σ' : St} (h : Gw σ σ') : Kp lb σ σ' := fun i o e _ => h i o e
theorem Se.kp {lb : Nat} {o : PO} {σ σ' : St} (h : Se lb o σ σ') : Kp lb σ σ' := fun i o e n => h.ne i o n e
/-- the box of the script -/
noncomputable def BoxAt (σ : St) (lb k : Nat) : Prop := ∃ (c : Nat) (b : Bx) (cells : List Int), σ[lb]? = some (boxObj c b) ∧ σ[c]? = some (.list (cells.map .int)) ∧ cells.length ≤ 48 ∧ 0 ≤ b.g ∧ 0 ≤ b.s ∧ b.s < 2147483647 ∧ 0 ≤ b.p ∧ b.p ≤ (k : Int)
theorem box_ne {σ : St} {c lb : Nat} {b : Bx} {cells : List Int} (hb : σ[lb]? = some (boxObj c b)) (hc : σ[c]? = some (.list (cells.map .int))) : c ≠ lb := fun q => by
  rw [q, hb] at hc
  cases cells with
  | nil => exact nomatch hc
  | cons x r => exact nomatch hc
theorem abs_lt {x : Int} (h0 : 0 ≤ x) (h : x < 2 ^ 62) : x.natAbs < 2 ^ 62 := by omega
theorem fm0 {x k : Int} (h : 0 < k) : 0 ≤ x.fmod k := Int.fmod_nonneg_of_pos _ h
theorem fm1 {x k : Int} (h : 0 < k) : x.fmod k < k := Int.fmod_lt_of_pos _ h
theorem draw_w {T : Tb} {σ : St} {lb k : Nat} {lim : Int} {Q : PV → St → Prop} {E : Nat → St → Prop} (h : BoxAt σ lb k) (hk : k ≤ 100000) (h0 : 0 < lim) (h1 : lim < 2 ^ 30)
    (K : ∀ r σ', 0 ≤ r → r < lim → BoxAt σ' lb (k + 1) → Kp lb σ σ' → Q (.int r) σ') : Rn (runFn T f02_1 [.loc lb, .int lim] σ) Q E := by
  obtain ⟨c, b, cells, hb, hc, b3, g0, s0, s1, p0, p1⟩ := h
  have hne := box_ne hb hc
  have p2 : b.p < 2 ^ 62 := by omega
  have fin : ∀ (g s r : Int) (σ' : St), σ'[lb]? = some (boxObj c ⟨g, s, b.p + 1⟩) → Kp lb σ σ' → 0 ≤ g → 0 ≤ s → s < 2147483647 → 0 ≤ r → r < lim → Q (.int r) σ' := fun g s r σ' e k g0 s0 s1 r0 r1 =>
    K r _ r0 r1 ⟨c, _, cells, e, k _ _ hc hne, b3, g0, s0, s1, Int.le_add_one p0, Int.add_le_add_right p1 1⟩ k
  refine fn_w ⟨rfl, by decide⟩ ?_
  refine ob_l hb ?_
  refine ob_l hb fun σ1 t1 => ?_
  have hb1 := t1.me _ hb
  refine ob_l hb1 ?_
  by_cases hg : 0 < b.g
  · refine br_t (decide_eq_true hg) ?_
    refine ob_l hb1 ?_
    refine gd_d (Int.ne_of_gt h0) ?_
    refine ob_l hb1 ?_
    refine gd_d ⟨h0, h1⟩ ?_
    refine ob_l hb1 fun σ2 t2 => ?_
    exact fin _ _ _ _ (t2.me _ hb1) (t1.kp.trans t2.kp) (Int.fdiv_nonneg g0 (Int.le_of_lt h0)) s0 s1 (fm0 h0) (fm1 h0)
  · refine br_f (decide_eq_false hg) ?_
    refine ob_l hb1 ?_
    refine gd_d ⟨abs_lt s0 (Int.lt_trans s1 (by decide)), by decide⟩ ?_
    refine gd_d ⟨abs_lt p0 p2, abs_lt p0 p2⟩ ?_
    refine ob_l hb1 fun σ2 t2 => ?_
    have k2 := t1.kp.trans t2.kp
    have hb2 := t2.me _ hb1
    have hc2 := k2 _ _ hc hne
    refine ob_l hb2 ?_
    refine ob_l hc2 ?_
    refine gd_ok (szOK_of (by rw [List.length_map]; omega)) ?_
    have u0 : 0 ≤ (b.s * 16807 + b.p * b.p + 29).fmod 2147483647 := fm0 (by decide)
    have u1 : (b.s * 16807 + b.p * b.p + 29).fmod 2147483647 < 2147483647 := fm1 (by decide)
    have fin2 := fun r => fin _ _ r σ2 hb2 k2 g0 u0 u1
    by_cases hp : b.p < (((cells.map PV.int).length : Nat) : Int)
    · refine br_t (decide_eq_true hp) ?_
      refine ob_l hb2 ?_
      refine ob_l hc2 ?_
      refine gd_d ⟨p0, by omega⟩ ?_
      obtain ⟨x, hx⟩ : ∃ x, cells[b.p.toNat]? = some x := ⟨_, List.getElem?_eq_getElem (by rw [List.length_map] at hp; omega)⟩
      refine op_ok (a := .int x) (by rw [List.getElem?_map, hx]; rfl) ?_
      refine gd_d (Int.ne_of_gt h0) ?_
      exact fin2 _ (fm0 h0) (fm1 h0)
    · refine br_f (decide_eq_false hp) ?_
      refine ob_l hb2 ?_
      refine gd_d ⟨Int.fdiv_nonneg u0 (by decide), ?_, by decide, by decide⟩ ?_
      · rw [Int.fdiv_eq_ediv_of_nonneg _ (by decide)]; exact Int.lt_of_le_of_lt (Int.ediv_le_self _ u0) (Int.lt_trans u1 (by decide))
      refine gd_d (Int.ne_of_gt h0) ?_
      exact fin2 _ (fm0 h0) (fm1 h0)
end Mine
end

section
set_option autoImplicit false
set_option linter.unusedVariables false
set_option maxRecDepth 100000
set_option maxHeartbeats 1000000
set_option exponentiation.threshold 300
namespace Mine
open PySem

theorem seq_w {T : Tb} {n : Nat} {fr : Fr} {E : Nat → St → Prop} {s : IS} {ss : List IS} {σ : St} {N : Fr → St → Prop} {K : PV → St → Prop} (J : Fr → St → Prop)
    (h : ∀ M : Fr → St → Prop, (∀ fr σ, J fr σ → M fr σ) → wS T n fr E s σ M K) (hN : ∀ fr σ, J fr σ → wSs T n fr E ss σ N K) : wSs T (n + 1) fr E (s :: ss) σ N K := h _ hN
theorem BoxAt.ext {σ σ' : St} {lb k : Nat} (h : BoxAt σ lb k) (x : Gw σ σ') : BoxAt σ' lb k :=
  have ⟨c, b, cells, h1, h2, h3⟩ := h
  ⟨c, b, cells, x _ _ h1, x _ _ h2, h3⟩
theorem map_cons {α β : Type} {f : α → β} {x : β} {r : List β} {l : List α} (h : x :: r = l.map f) : ∃ a l', l = a :: l' ∧ x = f a ∧ r = l'.map f := by
  cases l with
  | nil => exact nomatch h
  | cons a l => exact ⟨a, l, rfl, (List.cons.inj h).1, (List.cons.inj h).2⟩
theorem map_nil {α β : Type} {f : α → β} {l : List α} (h : [] = l.map f) : l = [] := by
  cases l with
  | nil => rfl
  | cons a l => exact nomatch h
theorem pick_to {α : Type} {l : List α} {k : Int} (h : 0 ≤ k) : pick l none (some k) = l.take k.toNat := by
  unfold pick
  simp [PySem.W.kms_lo, PySem.W.kms_hi]
  rw [if_neg (by omega)]
  omega
theorem box_w {T : Tb} {σ : St} {ns : List Int} {Q : PV → St → Prop} {E : Nat → St → Prop} (h0 : σ[(0 : Nat)]? = some (.frz (ns.map .int))) (hn : ns.length ≤ 1000)
    (K : ∀ l σ', l = σ.length + 2 → BoxAt σ' l 0 → Gw σ σ' → Q (.loc l) σ') : Rn (runFn T f02_0 [.loc 0] σ) Q E := by
  refine fn_w ⟨rfl, by decide⟩ ?_
  refine ob_f h0 ?_
  refine gd_ok (szOK_of (by rw [List.length_map]; omega)) fun σ1 a1 => ?_
  have e1 := a1.me
  rw [pick_to (by decide), ← List.map_take] at e1
  refine ob_l e1 ?_
  refine lpL (fun rest p σ' => σ' = σ1 ∧ ∃ (u : Option PV) (cs rs : List Int), p = ([some (PV.loc 0), none, none, none, none, none, u], cs.map PV.int) ∧ rest = rs.map PV.int ∧ cs.length + rs.length ≤ 48) _ ?_ (xs := (ns.take 48).map PV.int) ⟨rfl, none, [], _, rfl, rfl, ?_⟩ ?_ ?_ ?_
  · rw [List.length_map, List.length_take]; omega
  · rw [List.length_take]; exact Nat.le_trans (Nat.le_of_eq (Nat.zero_add _)) (Nat.min_le_left _ _)
  · rintro _ _ _ ⟨rfl, _⟩
    exact e1
  · rintro _ σ0 ⟨rfl, u, cs, rs, rfl, e, hl⟩
    have e := map_nil e
    subst e
    have hl : cs.length ≤ 48 := hl
    refine fun σ2 a2 => ?_
    have l2 : σ2.length = σ.length + 2 := by rw [a2.len, a1.len]
    have x2 := a1.gw.trans a2.gw
    have e2 : σ2[σ0.length]? = some (.list (cs.map PV.int)) := a2.me
    generalize σ0.length = l at e2 ⊢
    show wSs _ _ _ _ (IS.ife _ _ _ :: _) _ _ _
    refine seq_w (fun fr σ' => σ' = σ2 ∧ ∃ g, 0 ≤ g ∧ fr = [some (.loc 0), none, some (.loc l), some (.int g), none]) ?_ ?_
    · intro M hM
      refine ob_l e2 ?_
      refine gd_ok (szOK_of (by rw [List.length_map]; omega)) ?_
      cases cs with
      | nil => exact hM _ _ ⟨rfl, 0, by decide, rfl⟩
      | cons c cs =>
        refine ob_l e2 ?_
        by_cases hc : ((c.natAbs : Nat) : Int) ≥ 10 ^ 15
        · refine br_t (decide_eq_true hc) ?_
          refine ob_l e2 ?_
          exact hM _ _ ⟨rfl, _, fm0 (by decide), rfl⟩
        · refine br_f (decide_eq_false hc) ?_
          exact hM _ _ ⟨rfl, 0, by decide, rfl⟩
    · rintro _ σ2 ⟨rfl, g, hg, rfl⟩
      refine ob_l e2 ?_
      refine lpL (fun rest fr σ' => σ' = σ2 ∧ ∃ (u : Option PV) (s : Int) (rs : List Int), rest = rs.map PV.int ∧ fr = [some (.loc 0), u, some (.loc l), some (.int g), some (.int s)] ∧ 0 ≤ s ∧ s < 2147483647) _ ?_ (xs := cs.map PV.int) ⟨rfl, none, 1, cs, rfl, rfl, by decide, by decide⟩ ?_ ?_ ?_
      · rw [List.length_map]; omega
      · rintro _ _ _ ⟨rfl, _⟩
        exact e2
      · rintro _ _ ⟨rfl, u, s, rs, _, rfl, s0, s1⟩
        refine fun σ3 a3 => ?_
        refine K _ _ (l2) ⟨_, ⟨g, s, 0⟩, cs, a3.me, a3.gw _ _ e2, hl, hg, s0, s1, Int.le_refl _, Int.le_refl _⟩ (x2.trans a3.gw)
      · rintro _ _ _ _ ⟨rfl, u, s, rs, e, rfl, s0, s1⟩
        obtain ⟨r, rs', rfl, rfl, rfl⟩ := map_cons e
        refine for_w ?_
        refine gd_d ⟨abs_lt s0 (Int.lt_trans s1 (by decide)), by decide⟩ ?_
        exact ⟨rfl, _, _, rs', rfl, rfl, fm0 (by decide), fm1 (by decide)⟩
  · rintro _ _ _ _ ⟨rfl, u, cs, rs, rfl, e, hl⟩
    obtain ⟨r, rs', rfl, rfl, rfl⟩ := map_cons e
    refine cmpr_w ?_
    refine gd_ok (szOK_of (by rw [List.length_map]; omega)) ?_
    refine ⟨rfl, _, cs ++ [r], rs', congrArg _ (by rw [List.map_append]; rfl), rfl, by rw [List.length_append]; exact Nat.le_trans (Nat.le_of_eq (Nat.add_right_comm _ _ _)) hl⟩
end Mine
end

section
set_option autoImplicit false
set_option linter.unusedVariables false
set_option maxRecDepth 100000
set_option maxHeartbeats 1000000
namespace Mine
open PySem

/-- the functions that both laws lean on -/
structure Std (P : Prg) : Prop where
  f6 : P.fns 6 = some f02_6
  f7 : P.fns 7 = some f02_7
  f8 : P.fns 8 = some f02_8
  f9 : P.fns 9 = some f02_9
  f10 : P.fns 10 = some f02_10
/-- what is a list stays one -/
noncomputable def Ls (σ σ' : St) : Prop := ∀ i : Nat, isLs σ[i]? = true → isLs σ'[i]? = true
theorem Ls.trans {a b c : St} (h : Ls a b) (k : Ls b c) : Ls a c := fun i e => k i (h i e)
theorem ls_at {σ : St} {i : Nat} (h : isLs σ[i]? = true) : ∃ xs, σ[i]? = some (.list xs) := by
  cases q : σ[i]? with
  | none => rw [q] at h; exact nomatch h
  | some o => rw [q] at h; cases o <;> first | exact ⟨_, rfl⟩ | exact nomatch h
theorem Gw.ls {σ σ' : St} (h : Gw σ σ') : Ls σ σ' := fun i e => by
  obtain ⟨xs, q⟩ := ls_at e
  rw [h _ _ q]; rfl
theorem Ls.plain {σ σ' : St} {v : PV} (h : Ls σ σ') (e : plainV σ v = true) : plainV σ' v = true := by
  cases v with
  | loc l => exact h l e
  | _ => rfl
/-- a plain value, and its items if it is a tuple -/
structure Pl2 (σ : St) (v : PV) : Prop where
  own : plainV σ v = true
  items : ∀ ws, v = .tup ws → ws.length ≤ 1000 ∧ ∀ w ∈ ws, plainV σ w = true
theorem Ls.pl2 {σ σ' : St} {v : PV} (h : Ls σ σ') (e : Pl2 σ v) : Pl2 σ' v := ⟨h.plain e.own, fun ws q => ⟨(e.items ws q).1, fun w hw => h.plain ((e.items ws q).2 w hw)⟩⟩

noncomputable def isNum (v : PV) : Bool := isInt v && !isBool v
theorem isnum_w {P : Prg} (S : Std P) {d : Nat} {v : PV} {σ : St} {Q : PV → St → Prop} {E : Nat → St → Prop} (h : plainV σ v = true) (K : Q (.bool (isNum v)) σ) : Rn ((tb P (d + 1)).F 6 [v] σ) Q E := by
  refine F_w S.f6 ⟨rfl, by decide⟩ ?_
  refine gd_ok h ?_
  unfold isNum at K
  generalize isInt v = b at K ⊢
  cases b
  · exact K
  · exact gd_ok h K

noncomputable def allOf (f : PV → Bool) : PV → Bool
  | .tup ws => ws.all f
  | _ => false
noncomputable def textsOf : PV → Bool := allOf isStr
noncomputable def numsOf : PV → Bool := allOf isNum
theorem boolsOf_map (f : PV → Bool) (ws : List PV) : boolsOf (ws.map fun w => .bool (f w)) = some (ws.map f) := by
  induction ws with
  | nil => rfl
  | cons w r ih =>
    show (boolsOf (r.map fun w => .bool (f w))).map (f w :: ·) = _
    rw [ih]; rfl
theorem all_map {α : Type} (f : α → Bool) (ws : List α) : (ws.map f).all id = ws.all f := by rw [List.all_map]; rfl
/-- all items of a tuple -/
theorem tup_w {T : Tb} {v : PV} {σ : St} {Q : PV → St → Prop} {E : Nat → St → Prop} {f : PV → Bool} {elt : IE} (h : Pl2 σ v) (K : ∀ σ', Gw σ σ' → Q (.bool (allOf f v)) σ')
    (hf : ∀ w n u Q, plainV σ w = true → Q (.bool (f w)) σ → wE T (n + 10) [u, .none, some w] noE elt σ Q) :
    wSs T fuel0 [some v] E [(.ret (.bop true [(.blt .isTuple [(.var 0)]), (.blt .all [(.comp elt none [2] false 0 [(.var 0)] [] 1 2)])]))] σ (fun _ σ => Q .none σ) Q := by
  refine gd_ok h.own ?_
  cases v with
  | tup ws =>
    have hw := (h.items ws rfl).2
    have hn := (h.items ws rfl).1
    refine lpI (fun rest p σ' => σ' = σ ∧ ∃ u ds, p = ([some (PV.tup ws), none, u], ds.map fun w => PV.bool (f w)) ∧ ws = ds ++ rest) ?_ ?_ ⟨rfl, none, [], rfl, rfl⟩
    · rintro _ σ ⟨rfl, u, ds, rfl, e⟩
      rw [List.append_nil] at e
      subst e
      refine fun σ2 a2 => ?_
      refine ob_l a2.me ?_
      refine gd_ok (szOK_of (by rw [List.length_map]; omega)) ?_
      refine op_ok (boolsOf_map _ _) ?_
      rw [all_map]
      exact K _ a2.gw
    · rintro x rest _ σ ⟨rfl, u, ds, rfl, e⟩
      refine cmpr0_w (op_ok rfl ?_)
      have hl := congrArg List.length e
      rw [List.length_append] at hl
      refine hf x 185 _ _ (hw x (e ▸ List.mem_append_right _ List.mem_cons_self)) ?_
      refine gd_ok (szOK_of (by rw [List.length_map]; omega)) ?_
      exact ⟨rfl, _, ds ++ [x], congrArg _ (by rw [List.map_append]; rfl), by rw [e, List.append_assoc]; rfl⟩
  | _ => exact K _ .refl
theorem texts_w {P : Prg} (S : Std P) {d : Nat} {v : PV} {σ : St} {Q : PV → St → Prop} {E : Nat → St → Prop} (h : Pl2 σ v) (K : ∀ σ', Gw σ σ' → Q (.bool (textsOf v)) σ') : Rn ((tb P (d + 1)).F 7 [v] σ) Q E :=
  F_w S.f7 ⟨rfl, by decide⟩ (tup_w (elt := .blt .isStr [.var 2]) h K fun w n u Q hw q => gd_ok hw q)
theorem nums_w {P : Prg} (S : Std P) {d : Nat} {v : PV} {σ : St} {Q : PV → St → Prop} {E : Nat → St → Prop} (h : Pl2 σ v) (K : ∀ σ', Gw σ σ' → Q (.bool (numsOf v)) σ') : Rn ((tb P (d + 2)).F 8 [v] σ) Q E :=
  F_w S.f8 ⟨rfl, by decide⟩ (tup_w (elt := .call 6 [.var 2]) h K fun w n u Q hw q => isnum_w S hw q)

noncomputable def fits (v : PV) (c : Nat) : Bool := if c = 116 then isStr v else if c = 110 then isNum v else if c = 111 then isBytes v else if c = 102 then textsOf v else if c = 117 then numsOf v else isTuple v
noncomputable def ch (c : Nat) : PV := .str ⟨#[c]⟩
theorem str_eq1 {a b : Nat} {s : Str} (h : s = ⟨#[b]⟩) : ((⟨#[a]⟩ : Str) == s) = decide (a = b) := by
  subst h
  rw [Bool.eq_iff_iff, beq_iff_eq]; simp
theorem fits_w {P : Prg} (S : Std P) {d : Nat} {v : PV} {c : Nat} {σ : St} {Q : PV → St → Prop} {E : Nat → St → Prop} (h : Pl2 σ v) (K : ∀ σ', Gw σ σ' → Q (.bool (fits v c)) σ') : Rn ((tb P (d + 3)).F 10 [v, ch c] σ) Q E := by
  refine F_w S.f10 ⟨rfl, by decide⟩ ?_
  have own := h.own
  have K0 := K _ .refl
  unfold fits at K K0
  have t := str_eq1 (a := c) (b := 116) (s := Str.ofString "t") (by decide +kernel)
  have n := str_eq1 (a := c) (b := 110) (s := Str.ofString "n") (by decide +kernel)
  have o := str_eq1 (a := c) (b := 111) (s := Str.ofString "o") (by decide +kernel)
  have f := str_eq1 (a := c) (b := 102) (s := Str.ofString "f") (by decide +kernel)
  have u := str_eq1 (a := c) (b := 117) (s := Str.ofString "u") (by decide +kernel)
  by_cases c1 : c = 116
  · refine fun b e => br_t (e.symm.trans (t.trans (decide_eq_true c1))) ?_
    refine gd_ok own ?_
    rw [if_pos c1] at K0
    exact K0
  refine fun b e => br_f (e.symm.trans (t.trans (decide_eq_false c1))) ?_
  by_cases c2 : c = 110
  · refine fun b e => br_t (e.symm.trans (n.trans (decide_eq_true c2))) ?_
    rw [if_neg c1, if_pos c2] at K0
    exact isnum_w S own K0
  refine fun b e => br_f (e.symm.trans (n.trans (decide_eq_false c2))) ?_
  by_cases c3 : c = 111
  · refine fun b e => br_t (e.symm.trans (o.trans (decide_eq_true c3))) ?_
    refine gd_ok own ?_
    rw [if_neg c1, if_neg c2, if_pos c3] at K0
    exact K0
  refine fun b e => br_f (e.symm.trans (o.trans (decide_eq_false c3))) ?_
  by_cases c4 : c = 102
  · refine fun b e => br_t (e.symm.trans (f.trans (decide_eq_true c4))) ?_
    rw [if_neg c1, if_neg c2, if_neg c3, if_pos c4] at K
    exact texts_w S h K
  refine fun b e => br_f (e.symm.trans (f.trans (decide_eq_false c4))) ?_
  by_cases c5 : c = 117
  · refine fun b e => br_t (e.symm.trans (u.trans (decide_eq_true c5))) ?_
    rw [if_neg c1, if_neg c2, if_neg c3, if_neg c4, if_pos c5] at K
    exact nums_w S h K
  refine fun b e => br_f (e.symm.trans (u.trans (decide_eq_false c5))) ?_
  refine gd_ok own ?_
  rw [if_neg c1, if_neg c2, if_neg c3, if_neg c4, if_neg c5] at K0
  exact K0
end Mine
end

section
set_option autoImplicit false
set_option linter.unusedVariables false
set_option maxRecDepth 100000
set_option maxHeartbeats 1000000
namespace Mine
open PySem

/-- the words and the letters of their rows -/
noncomputable def shapes : List (Str × List Nat) := [(Str.ofString "create", [116, 110]), (Str.ofString "delete", [116]), (Str.ofString "rename", [116, 116]), (Str.ofString "append", [116, 102, 110, 111]), (Str.ofString "flags", [116, 110, 102]), (Str.ofString "store", [116, 117, 116, 102, 110]), (Str.ofString "expunge", [116, 117]), (Str.ofString "copy", [116, 117, 116]), (Str.ofString "move", [116, 117, 116]), (Str.ofString "subscribe", [116]), (Str.ofString "unsubscribe", [116]), (Str.ofString "forget", [116, 110]), (Str.ofString "snapshot", [110, 102, 114])]
noncomputable def shStr (l : List Nat) : Str := ⟨l.toArray⟩
noncomputable def entStr (p : Str × List Nat) : Str := p.1 ++ Str.ofString ":" ++ shStr p.2
noncomputable def allShapes : Str := Str.ofString "create:tn delete:t rename:tt append:tfno flags:tnf store:tutfn expunge:tu copy:tut move:tut subscribe:t unsubscribe:t forget:tn snapshot:nfr"
theorem split_all : Txt.split allShapes (Str.ofString " ") = shapes.map entStr := by decide +kernel
theorem all_guard : ((Str.ofString " ").length == 0) = false ∧ szOK allShapes.length = true ∧ szOK (Txt.split allShapes (Str.ofString " ")).length = true := by decide +kernel
theorem ent_ok : ∀ p ∈ shapes, (((Str.ofString ":").length == 0) = false ∧ szOK (entStr p).length = true ∧ szOK (Txt.split (entStr p) (Str.ofString ":")).length = true) ∧ Txt.split (entStr p) (Str.ofString ":") = [p.1, shStr p.2] ∧ p.2.length ≤ 5 ∧ ascii (shStr p.2) = true := by decide +kernel
noncomputable def shapeOf (w : Str) : List (Str × List Nat) → Option (List Nat)
  | [] => none
  | p :: ps => if (p.1 == w) = true then some p.2 else shapeOf w ps
noncomputable def fitAll (vs : List PV) (sh : List Nat) : Bool := vs.length == sh.length && (vs.zip sh).all fun p => fits p.1 p.2
noncomputable def fitO (vs : List PV) : Option (List Nat) → Bool
  | some sh => fitAll vs sh
  | none => false
noncomputable def rowOk : PV → Bool
  | .tup (.str w :: vs) => fitO vs (shapeOf w shapes)
  | _ => false
/-- a row that can be looked at -/
structure Pl3 (σ : St) (row : PV) : Prop where
  own : plainV σ row = true
  items : ∀ vs, row = .tup vs → vs.length ≤ 100 ∧ ∀ v ∈ vs, Pl2 σ v
theorem Ls.pl3 {σ σ' : St} {v : PV} (h : Ls σ σ') (e : Pl3 σ v) : Pl3 σ' v := ⟨h.plain e.own, fun ws q => ⟨(e.items ws q).1, fun w hw => h.pl2 ((e.items ws q).2 w hw)⟩⟩
theorem sub0 {x : PV} {vs : List PV} : ((seqIndex? 0 (x :: vs).length).bind ((x :: vs)[·]?)) = some x := by
  rw [show seqIndex? 0 (x :: vs).length = some 0 by simp [seqIndex?]]; rfl
theorem pick_from {α : Type} {l : List α} {k : Int} (h : 0 ≤ k) : pick l (some k) none = l.drop k.toNat := by
  unfold pick
  simp [PySem.W.kms_lo, PySem.W.kms_hi]
  rw [if_neg (by omega)]
  by_cases hk : k.toNat ≤ l.length
  · rw [Nat.min_eq_left hk]
    exact List.take_of_length_le (by simp)
  · rw [Nat.min_eq_right (by omega), List.drop_eq_nil_of_le (Nat.le_refl _), List.drop_eq_nil_of_le (by omega)]
    simp
theorem signs_sh (sh : List Nat) : signs (shStr sh) = sh.map ch := rfl
theorem zip_ch (vs : List PV) (sh : List Nat) : (vs.zip (signs (shStr sh))).map (fun p => PV.tup [p.1, p.2]) = (vs.zip sh).map fun p => .tup [p.1, ch p.2] := by
  rw [signs_sh, List.zip_map_right, List.map_map]; rfl
noncomputable def zipB : List IS := [(.ife (.not (.call 10 [(.var 4), (.var 5)])) [(.raise 3)] [])]
/-- the walk over values and letters -/
theorem zip_w {P : Prg} (S : Std P) {d n l : Nat} {qs : List (PV × Nat)} {r u1 u2 u3 : Option PV} {σ : St} {N : Fr → St → Prop} {K : PV → St → Prop} {E : Nat → St → Prop} (hj : σ[l]? = some .junk) (hq : ∀ q ∈ qs, Pl2 σ q.1)
    (k1 : (qs.all fun p => fits p.1 p.2) = true → ∀ fr σ', Gw σ σ' → N fr σ') (k2 : (qs.all fun p => fits p.1 p.2) = false → ∀ σ', Gw σ σ' → E 3 σ') :
    Rn (loopS (forBody (evT (tb P (d + 3)) (n + 10)) (evSs (tb P (d + 3)) (n + 10)) (.tup [.name 4, .name 5]) zipB) (.zip (qs.map fun p => .tup [p.1, ch p.2]) l) [r, u1, u2, u3, none, none] σ) (fun r σ => sumP r (fun fr => N fr σ) fun v => K v σ) E := by
  refine lpZ (fun rest fr σ' => ∃ u4 u5 ps, fr = [r, u1, u2, u3, u4, u5] ∧ Gw σ σ' ∧ (∀ q ∈ ps, Pl2 σ q.1) ∧ rest = ps.map (fun p => PV.tup [p.1, ch p.2]) ∧ (ps.all fun p => fits p.1 p.2) = qs.all fun p => fits p.1 p.2) l ?_ ?_ ?_ ⟨none, none, qs, rfl, .refl, hq, rfl, rfl⟩
  · rintro _ _ _ ⟨u4, u5, ps, _, g, _⟩
    exact g _ _ hj
  · rintro _ _ ⟨u4, u5, ps, rfl, g, _, e, ha⟩
    have e := map_nil e
    subst e
    exact k1 ha.symm _ _ g
  · rintro _ _ _ σ1 ⟨u4, u5, ps, rfl, g, hp, e, ha⟩
    obtain ⟨q, ps', rfl, rfl, rfl⟩ := map_cons e
    refine for_w ?_
    refine fits_w S (g.ls.pl2 (hp _ List.mem_cons_self)) fun σ2 g2 => ?_
    have ha : (fits q.1 q.2 && ps'.all fun p => fits p.1 p.2) = _ := ha
    generalize fits q.1 q.2 = b at ha ⊢
    cases b with
    | false => exact k2 ha.symm _ (g.trans g2)
    | true => exact ⟨_, _, ps', rfl, g.trans g2, fun q h => hp q (List.mem_cons_of_mem _ h), rfl, ha⟩
theorem row_w {P : Prg} (S : Std P) {d : Nat} {row : PV} {σ : St} {Q : PV → St → Prop} {E : Nat → St → Prop} (h : Pl3 σ row) (k1 : rowOk row = true → ∀ σ', Gw σ σ' → Q .none σ') (k2 : rowOk row = false → ∀ σ', Gw σ σ' → E 3 σ') : Rn ((tb P (d + 4)).F 9 [row] σ) Q E := by
  refine F_w S.f9 ⟨rfl, by decide⟩ ?_
  refine gd_ok h.own ?_
  cases row with
  | tup xs =>
    have hi := h.items xs rfl
    refine gd_ok (szOK_of (Nat.le_trans hi.1 (by decide))) ?_
    cases xs with
    | nil => exact k2 rfl _ .refl
    | cons x vs =>
      refine op_ok sub0 ?_
      refine gd_ok (hi.2 x List.mem_cons_self).own ?_
      cases x with
      | str w =>
        refine ⟨all_guard, fun σ1 a1 => ?_⟩
        have e1 : σ1[σ.length]? = some (.list ((shapes.map entStr).map PV.str)) := split_all ▸ a1.me
        refine ob_l e1 ?_
        refine lpL (fun rest fr σ' => ∃ ps u1 u2 u3, rest = (ps.map entStr).map PV.str ∧ (∀ p ∈ ps, p ∈ shapes) ∧ shapeOf w ps = shapeOf w shapes ∧ fr = [some (PV.tup (.str w :: vs)), u1, u2, u3, none, none] ∧ Gw σ1 σ') _ (by decide) ⟨shapes, none, none, none, rfl, fun p h => h, rfl, rfl, .refl⟩ ?_ ?_ ?_ (xs := (shapes.map entStr).map PV.str)
        · rintro _ _ _ ⟨ps, u1, u2, u3, _, _, _, _, g⟩
          exact g _ _ e1
        · rintro _ _ ⟨ps, u1, u2, u3, e, hps, hf, rfl, g⟩
          have e := map_nil (map_nil e).symm
          subst e
          exact k2 (congrArg (fitO vs) hf.symm) _ (a1.gw.trans g)
        · rintro _ _ _ σ2 ⟨ps, u1, u2, u3, e, hps, hf, rfl, g⟩
          obtain ⟨_, _, e', rfl, rfl⟩ := map_cons e
          obtain ⟨p, ps', rfl, rfl, rfl⟩ := map_cons e'.symm
          have hp := hps p List.mem_cons_self
          obtain ⟨hg, hs, hl5, has⟩ := ent_ok p hp
          refine for_w ?_
          refine ⟨hg, fun σ3 a3 => ?_⟩
          have e3 : σ3[σ2.length]? = some (.list [.str p.1, .str (shStr p.2)]) := a3.me.trans (congrArg (fun l => some (PO.list (l.map PV.str))) hs)
          have g3 := g.trans a3.gw
          refine ob_l e3 ?_
          refine op_ok sub0 fun t ht => ?_
          unfold shapeOf at hf
          cases t with
          | false =>
            rw [if_neg (by rw [ht]; decide)] at hf
            exact ⟨ps', _, _, _, rfl, fun p h => hps p (List.mem_cons_of_mem _ h), hf, rfl, g3⟩
          | true =>
            rw [if_pos ht] at hf
            have hr : rowOk (.tup (.str w :: vs)) = fitAll vs p.2 := congrArg (fitO vs) hf.symm
            refine gd_ok (szOK_of (Nat.le_trans hi.1 (by decide))) ?_
            refine gd_ok (szOK_of (Nat.le_trans hl5 (by decide))) ?_
            by_cases hl : vs.length = p.2.length
            · have hb : (!(((PV.str w :: vs).length : Int) == ((shStr p.2).length : Int) + 1)) = false := by
                rw [show (shStr p.2).length = p.2.length from List.size_toArray, ← hl]; exact congrArg _ (beq_self_eq_true _)
              refine br_f hb ?_
              refine gd_ok (szOK_of (Nat.le_trans hi.1 (by decide))) ?_
              refine gd_ok has fun σ4 a4 => ?_
              have g4 := (a1.gw.trans g3).trans a4.gw
              rw [pick_from (by decide), zip_ch]
              refine zip_w S a4.me (fun q hq => g4.ls.pl2 (hi.2 q.1 (List.mem_cons_of_mem _ (List.of_mem_zip hq).1))) ?_ ?_
              · exact fun (hf : ((vs.zip p.2).all fun p => fits p.1 p.2) = true) fr σ' g' => k1 (hr.trans (by unfold fitAll; rw [hf, hl, beq_self_eq_true]; rfl)) _ (g4.trans g')
              · exact fun (hf : ((vs.zip p.2).all fun p => fits p.1 p.2) = false) σ' g' => k2 (hr.trans (by unfold fitAll; rw [hf, Bool.and_false])) _ (g4.trans g')
            · have hb : (!(((PV.str w :: vs).length : Int) == ((shStr p.2).length : Int) + 1)) = true := by
                rw [show (shStr p.2).length = p.2.length from List.size_toArray]
                exact Bool.not_eq_true' .. ▸ beq_eq_false_iff_ne.mpr (fun q => hl (by rw [List.length_cons] at q; omega))
              refine br_t hb ?_
              exact k2 (hr.trans (by unfold fitAll; rw [beq_eq_false_iff_ne.mpr hl]; rfl)) _ (a1.gw.trans g3)
      | _ => exact k2 rfl _ .refl
  | _ => exact k2 rfl _ .refl
end Mine
end

section
set_option autoImplicit false
set_option linter.unusedVariables false
set_option maxRecDepth 100000
set_option maxHeartbeats 1000000
namespace Mine
open PySem

theorem Kp.ls {lb k : Nat} {σ σ' : St} (h : Kp lb σ σ') (hb : BoxAt σ' lb k) : Ls σ σ' := fun i e => by
  obtain ⟨xs, q⟩ := ls_at e
  by_cases hi : i = lb
  · obtain ⟨c, b, cells, h1, _⟩ := hb
    rw [hi, h1]; rfl
  · rw [h i _ q hi]; rfl
/-- the values of the second law and their sorts -/
noncomputable def vals (l : Nat) : List (PV × List Nat) := [(.str (Str.ofString "INBOX"), [116]), (.str (Str.ofString ""), [116]), (.int 7, [110]), (.int (-1), [110]), (.bool true, []), (.none, []), (.bytes #[73, 78, 66, 79, 88], [111]), (.bytes #[], [111]),
  (.tup [], [102, 117, 114]), (.tup [.str (Str.ofString "a"), .str (Str.ofString "b")], [102, 114]), (.tup [.int 1, .int 2], [117, 114]), (.tup [.int 1, .str (Str.ofString "b")], [114]), (.tup [.bool true], [114]), (.loc l, []), (.tup [.bytes #[97]], [114]), (.int (2 ^ 70), [110])]
noncomputable def valPV (l : Nat) : List PV := (vals l).map fun p => .tup [p.1, .str (shStr p.2)]
noncomputable def lets : List Nat := [116, 110, 111, 102, 117, 114]
theorem vals_fit (l : Nat) : ∀ p ∈ vals l, ∀ c ∈ lets, fits p.1 c = p.2.contains c := by
  have : (vals l).all (fun p => lets.all fun c => fits p.1 c == p.2.contains c) = true := by rfl
  intro p hp c hc
  exact beq_iff_eq.mp (List.all_eq_true.mp (List.all_eq_true.mp this p hp) c hc)
noncomputable def sorts : List (List Nat) := [[116], [110], [], [111], [102, 117, 114], [102, 114], [117, 114], [114]]
theorem vals_in (l : Nat) : ∀ p ∈ vals l, ∀ c ∈ lets, (!(Builtin.Str.occurrences (shStr p.2) ⟨#[c]⟩ 0 (shStr p.2).length 1).isEmpty) = p.2.contains c := by
  have h : (sorts.all fun s => lets.all fun c => (!(Builtin.Str.occurrences (shStr s) ⟨#[c]⟩ 0 (shStr s).length 1).isEmpty) == s.contains c) = true := by decide +kernel
  have hs : (vals l).all (fun p => sorts.contains p.2) = true := by rfl
  intro p hp c hc
  exact beq_iff_eq.mp (List.all_eq_true.mp (List.all_eq_true.mp h p.2 (List.contains_iff_mem.mp (List.all_eq_true.mp hs p hp))) c hc)
noncomputable def atom : PV → Bool
  | .loc _ => false
  | _ => true
noncomputable def plOf (l : Nat) : PV → Bool
  | .loc k => k == l
  | .tup ws => Nat.ble ws.length 1000 && ws.all atom
  | _ => true
theorem atom_pl {σ : St} {v : PV} (h : atom v = true) : plainV σ v = true := by cases v <;> first | rfl | exact nomatch h
theorem vals_pl {σ : St} {l : Nat} (h : isLs σ[l]? = true) : ∀ p ∈ vals l, Pl2 σ p.1 := by
  have e : (vals l).all (fun p => plOf l p.1) = ((l == l) && true) := by rfl
  intro p hp
  have q := List.all_eq_true.mp (e.trans (by rw [beq_self_eq_true]; rfl)) p hp
  obtain ⟨v, s⟩ := p
  cases v with
  | loc k =>
    obtain rfl : k = l := beq_iff_eq.mp q
    exact ⟨h, fun _ e => nomatch e⟩
  | tup ws =>
    obtain ⟨q1, q2⟩ := Bool.and_eq_true_iff.mp q
    exact ⟨rfl, fun _ e => (PV.tup.inj e) ▸ ⟨Nat.le_of_ble_eq_true q1, fun w hw => atom_pl (List.all_eq_true.mp q2 w hw)⟩⟩
  | _ => exact ⟨rfl, fun _ e => nomatch e⟩
noncomputable def shPV : List PV := shapes.map fun p => .tup [.str p.1, .str (shStr p.2)]
theorem shapes_w {P : Prg} (S2 : P.fns 2 = some f02_2) {d : Nat} {σ : St} {Q : PV → St → Prop} {E : Nat → St → Prop} (K : ∀ l σ', σ.length ≤ l → Gw σ σ' → σ'[l]? = some (.list shPV) → Q (.loc l) σ') : Rn ((tb P (d + 1)).F 2 [] σ) Q E := by
  refine F_w S2 ⟨rfl, by decide⟩ ?_
  exact fun σ' a => K _ _ (Nat.le_refl _) a.gw (a.me.trans (congrArg (fun l => some (PO.list l)) (by kernel_rfl)))
theorem values_w {P : Prg} (S3 : P.fns 3 = some f02_3) {d : Nat} {σ : St} {Q : PV → St → Prop} {E : Nat → St → Prop} (K : ∀ l0 l σ', σ.length ≤ l → Gw σ σ' → isLs σ'[l0]? = true → σ'[l]? = some (.list (valPV l0)) → Q (.loc l) σ') : Rn ((tb P (d + 1)).F 3 [] σ) Q E := by
  refine F_w S3 ⟨rfl, by decide⟩ ?_
  exact fun σ1 a1 σ2 a2 => K σ.length _ _ (by rw [a1.len]; exact Nat.le_succ _) (a1.gw.trans a2.gw) (by rw [a2.gw _ _ a1.me]; rfl) (a2.me.trans (congrArg (fun l => some (PO.list l)) (by kernel_rfl)))
end Mine
end

section
set_option autoImplicit false
set_option linter.unusedVariables false
set_option maxRecDepth 100000
set_option maxHeartbeats 1000000
namespace Mine
open PySem

noncomputable def selOf (c : Nat) (ds : List (PV × List Nat)) : List PV := (ds.filter fun p => p.2.contains c).map (·.1)
theorem selOf_add {c : Nat} {ds : List (PV × List Nat)} {p : PV × List Nat} : selOf c (ds ++ [p]) = if p.2.contains c then selOf c ds ++ [p.1] else selOf c ds := by
  unfold selOf
  rw [List.filter_append, List.map_append, List.filter_cons]
  cases p.2.contains c
  · exact List.append_nil _
  · rfl
theorem selOf_len {c : Nat} {ds : List (PV × List Nat)} : (selOf c ds).length ≤ ds.length := by
  unfold selOf; rw [List.length_map]; exact List.length_filter_le _ _
theorem selOf_mem {c : Nat} {ds : List (PV × List Nat)} {v : PV} (h : v ∈ selOf c ds) : ∃ p, p ∈ ds ∧ p.2.contains c = true ∧ p.1 = v := by
  obtain ⟨p, hp, e⟩ := List.mem_map.mp h
  have := List.mem_filter.mp hp
  exact ⟨p, this.1, this.2, e⟩
/-- not one of the words -/
noncomputable def nw : PV → Bool
  | .str x => (shapeOf x shapes).isNone
  | _ => true
theorem vals_nw (l : Nat) : ∀ p ∈ vals l, nw p.1 = true := by
  have h : (nw (.str (Str.ofString "INBOX")) && nw (.str (Str.ofString ""))) = true := by decide +kernel
  obtain ⟨h1, h2⟩ := Bool.and_eq_true_iff.mp h
  have : (vals l).all (fun p => nw p.1) = (nw (.str (Str.ofString "INBOX")) && (nw (.str (Str.ofString "")) && true)) := rfl
  exact fun p hp => List.all_eq_true.mp (this.trans (by rw [h1, h2]; rfl)) p hp
theorem sel_pos (l : Nat) : ∀ c ∈ lets, 0 < (selOf c (vals l)).length := by
  have : lets.all (fun c => Nat.ble 1 (selOf c (vals l)).length) = true := by rfl
  exact fun c hc => Nat.le_of_ble_eq_true (List.all_eq_true.mp this c hc)
theorem ofsort_w {P : Prg} (S1 : P.fns 1 = some f02_1) (S3 : P.fns 3 = some f02_3) (S4 : P.fns 4 = some f02_4) {d lb k : Nat} {σ : St} {c : Nat} {Q : PV → St → Prop} {E : Nat → St → Prop} (hc : c ∈ lets) (hB : BoxAt σ lb k) (hk : k ≤ 10000)
    (K : ∀ v σ', fits v c = true → Pl2 σ' v → nw v = true → BoxAt σ' lb (k + 1) → Kp lb σ σ' → Q v σ') : Rn ((tb P (d + 2)).F 4 [.loc lb, ch c] σ) Q E := by
  refine F_w S4 ⟨rfl, by decide⟩ ?_
  refine values_w S3 fun l0 l σ1 _ g1 h0 hL => ?_
  refine ob_l hL ?_
  refine lpL (fun rest p σ' => σ' = σ1 ∧ ∃ u4 u5 ds rs, p = ([some (PV.loc lb), some (ch c), none, none, u4, u5], selOf c ds) ∧ rest = rs.map (fun p => PV.tup [p.1, .str (shStr p.2)]) ∧ vals l0 = ds ++ rs) _ (of_decide_eq_true rfl) ⟨rfl, none, none, [], vals l0, rfl, rfl, rfl⟩ ?_ ?_ ?_ (xs := valPV l0)
  · rintro _ _ _ ⟨rfl, _⟩
    exact hL
  · rintro _ σ1 ⟨rfl, u4, u5, ds, rs, rfl, e, hv⟩
    have e := map_nil e
    subst e
    rw [List.append_nil] at hv
    subst hv
    have hlen : (selOf c (vals l0)).length ≤ 16 := selOf_len
    refine fun σ2 a2 => ?_
    refine ob_l a2.me ?_
    refine gd_ok (szOK_of (Nat.le_trans hlen (by decide))) ?_
    have hB2 := hB.ext (g1.trans a2.gw)
    have hne : σ1.length ≠ lb := fun q => by
      obtain ⟨_, _, _, h1, _⟩ := hB.ext g1
      have := lt_of_at h1
      omega
    refine F_of S1 (draw_w hB2 (by omega) (Int.ofNat_lt.mpr (sel_pos l0 c hc)) (show ((selOf c (vals l0)).length : Int) < 2 ^ 30 by omega) fun r σ3 r0 r1 hB3 k3 => ?_)
    have r1 : r < ((selOf c (vals l0)).length : Int) := r1
    refine ob_l (k3 _ _ a2.me hne) ?_
    refine gd_d ⟨r0, by omega⟩ ?_
    have hr : r.toNat < (selOf c (vals l0)).length := by omega
    refine op_ok (List.getElem?_eq_getElem hr) ?_
    obtain ⟨p, hp, hpc, e⟩ := selOf_mem (List.getElem_mem hr)
    rw [← e]
    exact K _ _ ((vals_fit l0 p hp c hc).trans hpc) (vals_pl ((a2.gw.ls.trans (k3.ls hB3)) _ h0) p hp) (vals_nw l0 p hp) hB3 ((g1.trans a2.gw).kp.trans k3)
  · rintro _ _ _ σ1 ⟨rfl, u4, u5, ds, rs, rfl, e, hv⟩
    obtain ⟨p, rs', rfl, rfl, rfl⟩ := map_cons e
    have hlen : (selOf c ds).length ≤ 16 := by
      have h1 := selOf_len (c := c) (ds := ds)
      have h2 : 16 = (ds ++ p :: rs').length := congrArg List.length hv
      rw [List.length_append] at h2
      omega
    refine cmpr_w ?_
    refine fun t ht => ?_
    have ht := ht.symm.trans (vals_in l0 p (hv ▸ List.mem_append_right _ List.mem_cons_self) c hc)
    have hs := selOf_add (c := c) (ds := ds) (p := p)
    rw [← ht] at hs
    have hv' : vals l0 = (ds ++ [p]) ++ rs' := by rw [hv, List.append_assoc]; rfl
    cases t with
    | true =>
      refine gd_ok (szOK_of (Nat.le_trans hlen (by decide))) ?_
      exact ⟨rfl, _, _, ds ++ [p], rs', congrArg _ hs.symm, rfl, hv'⟩
    | false => exact ⟨rfl, _, _, ds ++ [p], rs', congrArg _ hs.symm, rfl, hv'⟩
end Mine
end

section
set_option autoImplicit false
set_option linter.unusedVariables false
set_option maxRecDepth 100000
set_option maxHeartbeats 1000000
namespace Mine
open PySem

/-- what the store's classes are -/
structure StoreP (P : Prg) : Prop where
  f12 : P.fns 12 = some f02_12
  f13 : P.fns 13 = some f02_13
  f14 : P.fns 14 = some f02_14
  f15 : P.fns 15 = some f02_15
  f16 : P.fns 16 = some f02_16
  i1 : P.ini 1 = some 15
  i2 : P.ini 2 = some 12
  m1 : P.me 1 15 = some 16
  m2 : P.me 2 15 = some 13
  m3 : P.me 2 19 = some 14
section
variable {α : Type} {body : PV → α → St → R (Sum α PV)} {N : α → St → Prop} {K : PV → St → Prop} {E : Nat → St → Prop} {l : Nat} {a : α} {σ : St}
theorem lp0 (h : σ[l]? = some (.list [])) (k : N a σ) : Rn (loopS body (.lst l) a σ) (fun r σ => sumP r (fun a => N a σ) fun v => K v σ) E :=
  lpL (fun rest a' σ' => rest = [] ∧ a' = a ∧ σ' = σ) l (by decide) ⟨rfl, rfl, rfl⟩ (fun _ _ _ q => q.2.2 ▸ h) (fun _ _ q => q.2.1 ▸ q.2.2 ▸ k) (fun _ _ _ _ q => nomatch q.1)
theorem lp1 {x : PV} (h : σ[l]? = some (.list [x])) (k : Rn (body x a σ) (fun r σ' => sumP r (fun a' => Gw σ σ' ∧ N a' σ') fun v => K v σ') E) : Rn (loopS body (.lst l) a σ) (fun r σ => sumP r (fun a => N a σ) fun v => K v σ) E := by
  refine lpL (fun rest a' σ' => Gw σ σ' ∧ match rest with
    | [] => N a' σ'
    | y :: r => (y = x ∧ r = []) ∧ a' = a ∧ σ' = σ) l (show 1 < 2000 by decide) (xs := [x]) ⟨.refl, ⟨rfl, rfl⟩, rfl, rfl⟩ (fun _ _ _ q => q.1 _ _ h) (fun _ _ q => q.2) ?_
  rintro _ _ _ _ ⟨_, ⟨rfl, rfl⟩, rfl, rfl⟩
  exact k
end
noncomputable def inbox : PV := .str (Str.ofString "INBOX")
noncomputable def boxI (x y : Nat) : PO := .inst 1 [(5, inbox), (6, .int 1), (7, .int 1), (8, .int 1), (9, .int 0), (10, .loc x), (11, .loc y)]
theorem boxnew_w {P : Prg} (H : StoreP P) {d b : Nat} {σ : St} {Q : PV → St → Prop} {E : Nat → St → Prop} (h : σ[b]? = some (.inst 1 []))
    (K : ∀ x y σ', Kp b σ σ' → σ'[b]? = some (boxI x y) → σ'[x]? = some (.list []) → σ'[y]? = some (.list []) → Q .none σ') : Rn ((tb P (d + 1)).F 15 [.loc b, inbox, .int 1] σ) Q E := by
  refine F_w H.f15 ⟨rfl, by decide⟩ ?_
  refine ob_i h fun σ1 t1 => ?_
  refine ob_i (t1.me _ h) fun σ2 t2 => ?_
  refine ob_i (t2.me _ (t1.me _ h)) fun σ3 t3 => ?_
  have k3 := (t1.kp.trans t2.kp).trans t3.kp
  have h3 := t3.me _ (t2.me _ (t1.me _ h))
  refine ob_i h3 fun σ4 t4 => ?_
  refine ob_i (t4.me _ h3) fun σ5 t5 => ?_
  have k5 := (k3.trans t4.kp).trans t5.kp
  have h5 := t5.me _ (t4.me _ h3)
  refine fun σ6 a6 => ?_
  refine ob_i (a6.gw _ _ h5) fun σ7 t7 => ?_
  have h7 := t7.me _ (a6.gw _ _ h5)
  refine fun σ8 a8 => ?_
  refine ob_i (a8.gw _ _ h7) fun σ9 t9 => ?_
  have n6 : σ5.length ≠ b := (Nat.ne_of_lt (lt_of_at h5)).symm
  have n8 : σ7.length ≠ b := (Nat.ne_of_lt (lt_of_at h7)).symm
  exact K σ5.length σ7.length σ9 ((((k5.trans a6.gw.kp).trans t7.kp).trans a8.gw.kp).trans t9.kp) (t9.me _ (a8.gw _ _ h7)) (t9.ne _ _ n6 (a8.gw _ _ (t7.ne _ _ n6 a6.me))) (t9.ne _ _ n8 a8.me)
noncomputable def storeI (d s : Nat) : PO := .inst 2 [(12, .loc d), (13, .loc s), (14, .int 2)]
structure StoreIs (σ : St) (st d s b x y : Nat) : Prop where
  st : σ[st]? = some (storeI d s)
  d : σ[d]? = some (.dict [(inbox, .loc b)])
  s : σ[s]? = some (.list [])
  b : σ[b]? = some (boxI x y)
  x : σ[x]? = some (.list [])
  y : σ[y]? = some (.list [])
noncomputable def StoreAt (σ : St) (st : Nat) : Prop := ∃ d s b x y, StoreIs σ st d s b x y
noncomputable def isTab : PO → Bool
  | .tab _ => true
  | _ => false
/-- all stay but the table -/
noncomputable def Nt (σ σ' : St) : Prop := ∀ (i : Nat) (o : PO), isTab o = false → σ[i]? = some o → σ'[i]? = some o
theorem Nt.trans {a b c : St} (h : Nt a b) (k : Nt b c) : Nt a c := fun i o n e => k i o n (h i o n e)
theorem Gw.nt {a b : St} (h : Gw a b) : Nt a b := fun i o _ e => h i o e
theorem Nt.ls {a b : St} (h : Nt a b) : Ls a b := fun i e => by
  obtain ⟨xs, q⟩ := ls_at e
  rw [h _ _ rfl q]; rfl
theorem Se.nt {a b : St} {ks : List (Nat × Nat)} {o : PO} (t : Se 1 o a b) (h : a[(1 : Nat)]? = some (.tab ks)) : Nt a b := fun i o' n e => t.ne i _ (fun q => by rw [q, h] at e; cases e; exact nomatch n) e
theorem Nt.store {a b : St} {st : Nat} (h : Nt a b) : StoreAt a st → StoreAt b st := fun ⟨d, s, b', x, y, q⟩ => ⟨d, s, b', x, y, h _ _ rfl q.st, h _ _ rfl q.d, h _ _ rfl q.s, h _ _ rfl q.b, h _ _ rfl q.x, h _ _ rfl q.y⟩
theorem store_w {P : Prg} (H : StoreP P) {d st : Nat} {σ : St} {Q : PV → St → Prop} {E : Nat → St → Prop} (h : σ[st]? = some (.inst 2 []))
    (K : ∀ σ', Kp st σ σ' → StoreAt σ' st → Q .none σ') : Rn ((tb P (d + 2)).F 12 [.loc st] σ) Q E := by
  refine F_w H.f12 ⟨rfl, by decide⟩ ?_
  refine op_ok H.i1 fun σ1 a1 => ?_
  refine boxnew_w H a1.me fun x y σ2 k2 hb hx hy => ?_
  have k12 : Gw σ σ2 := fun i o e => k2 i o (a1.gw _ _ e) (Nat.ne_of_lt (lt_of_at e))
  have h2 := k12 _ _ h
  refine fun σ3 a3 => ?_
  refine ob_i (a3.gw _ _ h2) fun σ4 t4 => ?_
  have h4 := t4.me _ (a3.gw _ _ h2)
  refine fun σ5 a5 => ?_
  refine ob_i (a5.gw _ _ h4) fun σ6 t6 => ?_
  have h6 := t6.me _ (a5.gw _ _ h4)
  refine ob_i h6 fun σ7 t7 => ?_
  have k7 := (t6.kp.trans t7.kp)
  have k4 := (t4.kp.trans a5.gw.kp).trans k7
  have k3 := a3.gw.kp.trans k4
  have nb : ∀ {i : Nat} {o : PO}, σ2[i]? = some o → o ≠ .inst 2 [] → i ≠ st := fun e n q => by rw [q, h2] at e; cases e; exact n rfl
  exact K σ7 (k12.kp.trans k3) ⟨σ2.length, σ4.length, σ.length, x, y, t7.me _ h6, k4 _ _ a3.me (Nat.ne_of_lt (lt_of_at h2)).symm, k7 _ _ a5.me (Nat.ne_of_lt (lt_of_at h4)).symm,
    k3 _ _ hb (nb hb (fun q => nomatch q)), k3 _ _ hx (nb hx (fun q => nomatch q)), k3 _ _ hy (nb hy (fun q => nomatch q))⟩
noncomputable def boxT : PV := .tup [inbox, .int 1, .int 1, .int 1, .int 0, .tup [], .tup []]
noncomputable def told0 : PV := .tup [.int 2, .tup [], .tup [boxT]]
theorem boxtold_w {P : Prg} (H : StoreP P) {d b x y : Nat} {σ : St} {Q : PV → St → Prop} {E : Nat → St → Prop} (hb : σ[b]? = some (boxI x y)) (hx : σ[x]? = some (.list [])) (hy : σ[y]? = some (.list []))
    (K : ∀ σ', Gw σ σ' → Q boxT σ') : Rn ((tb P (d + 1)).F 16 [.loc b] σ) Q E := by
  refine F_w H.f16 ⟨rfl, by decide⟩ ?_
  refine ob_i hb ?_
  refine ob_l hx ?_
  refine lp0 hx ?_
  refine fun σ1 a1 => ?_
  have hb1 := a1.gw _ _ hb
  refine ob_l a1.me ?_
  refine ob_i hb1 ?_
  refine ob_i hb1 ?_
  refine ob_i hb1 ?_
  refine ob_i hb1 ?_
  refine ob_i hb1 ?_
  refine ob_i hb1 ?_
  refine ob_l (a1.gw _ _ hy) ?_
  exact K _ a1.gw
theorem names_w {P : Prg} (H : StoreP P) {d st dd s b : Nat} {σ : St} {Q : PV → St → Prop} {E : Nat → St → Prop} (h : σ[st]? = some (storeI dd s)) (hd : σ[dd]? = some (.dict [(inbox, .loc b)]))
    (K : ∀ l σ', Gw σ σ' → σ'[l]? = some (.list [inbox]) → Q (.loc l) σ') : Rn ((tb P (d + 1)).F 14 [.loc st] σ) Q E := by
  refine F_w H.f14 ⟨rfl, by decide⟩ ?_
  refine ob_i h ?_
  refine ob_d hd fun σ1 a1 => ?_
  refine ob_l a1.me fun σ2 a2 => ?_
  exact K _ _ (a1.gw.trans a2.gw) a2.me
theorem told_w {P : Prg} (H : StoreP P) {d st : Nat} {σ : St} {Q : PV → St → Prop} {E : Nat → St → Prop} (h : StoreAt σ st) (K : ∀ σ', Gw σ σ' → Q told0 σ') : Rn ((tb P (d + 2)).F 13 [.loc st] σ) Q E := by
  obtain ⟨dd, s, b, x, y, h⟩ := h
  refine F_w H.f13 ⟨rfl, by decide⟩ ?_
  refine ob_i h.st ?_
  refine op_ok H.m3 ?_
  refine names_w H h.st h.d fun l σ1 g1 hl => ?_
  refine ob_l hl ?_
  refine lp1 hl ?_
  refine cmpr0_w (op_ok rfl ?_)
  refine ob_i (g1 _ _ h.st) ?_
  refine ob_d (g1 _ _ h.d) ?_
  have hk : dget inbox [(inbox, PV.loc b)] = some (.loc b) := by
    show (if keyEq inbox inbox = true then _ else _) = _
    rw [if_pos (show keyEq inbox inbox = true from beq_self_eq_true (Str.ofString "INBOX"))]
  refine gd_ok rfl ?_
  refine op_ok hk ?_
  refine ob_i (g1 _ _ h.b) ?_
  refine op_ok H.m1 ?_
  refine boxtold_w H (g1 _ _ h.b) (g1 _ _ h.x) (g1 _ _ h.y) fun σ2 g2 => ?_
  refine ⟨g2, fun σ3 a3 => ?_⟩
  have g3 := (g1.trans g2).trans a3.gw
  refine ob_l a3.me ?_
  refine ob_i (g3 _ _ h.st) ?_
  refine ob_i (g3 _ _ h.st) ?_
  refine ob_l (g3 _ _ h.s) ?_
  exact K _ g3
end Mine
end

section
set_option autoImplicit false
set_option linter.unusedVariables false
set_option maxRecDepth 100000
set_option maxHeartbeats 1000000
namespace Mine
open PySem

structure P2 (P : Prg) : Prop extends Std P, StoreP P where
  f0 : P.fns 0 = some f02_0
  f1 : P.fns 1 = some f02_1
  f2 : P.fns 2 = some f02_2
  f3 : P.fns 3 = some f02_3
  f4 : P.fns 4 = some f02_4
  f11 : P.fns 11 = some f02_11
theorem tab_ok {o : Option PO} {ks : List (Nat × Nat)} {P : List (Nat × Nat) → Prop} (h : o = some (.tab ks)) (k : P ks) : tabP o P := by rw [h]; exact k
theorem var_ok {o : Option (Option PV)} {v : PV} {P : PV → Prop} (h : o = some (some v)) (k : P v) : varP o P := by rw [h]; exact k
theorem nb_f {a b : Bool} (h : b = a) : (!(a == b)) = false := by subst h; cases b <;> rfl
/-- what stands, as the law goes on -/
structure Sv (lb k : Nat) (ks : List (Nat × Nat)) (vs : List PV) (σ : St) : Prop where
  n1 : 1 ≠ lb
  box : BoxAt σ lb k
  tab : σ[(1 : Nat)]? = some (.tab ks)
  pl : ∀ v ∈ vs, Pl2 σ v
section
variable {lb k k' : Nat} {ks ks' : List (Nat × Nat)} {vs : List PV} {σ σ' : St}
theorem Sv.gw (s : Sv lb k ks vs σ) (g : Gw σ σ') : Sv lb k ks vs σ' := ⟨s.n1, s.box.ext g, g _ _ s.tab, fun v h => g.ls.pl2 (s.pl v h)⟩
theorem Sv.kp (s : Sv lb k ks vs σ) (hB : BoxAt σ' lb k') (g : Kp lb σ σ') : Sv lb k' ks vs σ' := ⟨s.n1, hB, g _ _ s.tab s.n1, fun v h => (g.ls hB).pl2 (s.pl v h)⟩
theorem Sv.nt (s : Sv lb k ks vs σ) (g : Nt σ σ') (hT : σ'[(1 : Nat)]? = some (.tab ks')) : Sv lb k ks' vs σ' :=
  have ⟨c, b, cells, h1, h2, h3⟩ := s.box
  ⟨s.n1, ⟨c, b, cells, g _ _ rfl h1, g _ _ rfl h2, h3⟩, hT, fun v h => g.ls.pl2 (s.pl v h)⟩
theorem Sv.add {v : PV} (s : Sv lb k ks vs σ) (h : Pl2 σ v) : Sv lb k ks (vs ++ [v]) σ := ⟨s.n1, s.box, s.tab, fun x hx => (List.mem_append.mp hx).elim (s.pl x) fun q => List.mem_singleton.mp q ▸ h⟩
theorem Sv.lt (s : Sv lb k ks vs σ) : lb < σ.length := have ⟨_, _, _, h1, _⟩ := s.box; lt_of_at h1
theorem drawS_w {P : Prg} {d : Nat} {lim : Int} {Q : PV → St → Prop} {E : Nat → St → Prop} (f1 : P.fns 1 = some f02_1) (s : Sv lb k ks vs σ) (hk : k ≤ 100000) (h0 : 0 < lim) (h1 : lim < 2 ^ 30)
    (K : ∀ r σ', 0 ≤ r → r < lim → Sv lb (k + 1) ks vs σ' → Kp lb σ σ' → Q (.int r) σ') : Rn ((tb P (d + 1)).F 1 [.loc lb, .int lim] σ) Q E :=
  F_of f1 (draw_w s.box hk h0 h1 fun r σ' r0 r1 hB g => K r σ' r0 r1 (s.kp hB g) g)
end
theorem apply_w {P : Prg} (H : P2 P) {d : Nat} {st row : PV} {σ : St} {Q : PV → St → Prop} {E : Nat → St → Prop} (hp : Pl3 σ row) (hr : rowOk row = false) (K : ∀ σ', Gw σ σ' → E 3 σ') : Rn ((tb P (d + 5)).F 11 [st, row] σ) Q E :=
  F_w H.f11 ⟨rfl, by decide⟩ (row_w H.toStd hp (fun h => nomatch hr.symm.trans h) fun _ => K)
theorem told_eq {σ : St} : eqv σ eqFuel told0 told0 = some true := by kernel_rfl
noncomputable def tail17 : List IS := [(.asg (.name 12) (.new 2 [])), (.asg (.name 9) (.umeth 15 (.var 12) [])), (.ret (.bop false [(.var 8), (.bop true [(.not (.isLet 3 (.call 11 [(.var 12), (.var 10)]) 513 40)), (.cmp (.umeth 15 (.var 12) []) [(.Eq, (.var 9))])])]))]
noncomputable def Good : PV → St → Prop := fun v σ => v = .bool true ∧ ∃ ks, σ[(1 : Nat)]? = some (.tab ks)
theorem no513 : decide (¬ ((513, 40) : Nat × Nat) ∈ [(509, 19), (491, 23)]) = true := by decide
theorem tail_w {P : Prg} (H : P2 P) {d : Nat} {isr : Bool} {bent : PV} {f0 f1 f2 f3 f4 f5 f6 f7 f9 f11 f12 : Option PV} {σ : St} {N : Fr → St → Prop} (hT : σ[(1 : Nat)]? = some (.tab [(509, 19), (491, 23)])) (hp : Pl3 σ bent) (hr : rowOk bent = isr) :
    wSs (tb P (d + 10)) 189 [f0, f1, f2, f3, f4, f5, f6, f7, some (.bool isr), f9, some bent, f11, f12] noE tail17 σ N Good := by
  refine op_ok H.i2 fun σ2 a2 => ?_
  refine store_w H.toStoreP a2.me fun σ3 k3 hS => ?_
  have g3 : Gw σ σ3 := fun i o e => k3 i o (a2.gw i o e) (Nat.ne_of_lt (lt_of_at e))
  have hT3 := g3 _ _ hT
  have hp3 := g3.ls.pl3 hp
  generalize σ.length = st at hS ⊢
  obtain ⟨d1, s1, b1, x1, y1, hI⟩ := id hS
  refine ob_i hI.st ?_
  refine op_ok H.m2 ?_
  refine told_w H.toStoreP hS fun σ4 g4 => ?_
  have hT4 := g4 _ _ hT3
  cases isr with
  | true => exact ⟨rfl, _, hT4⟩
  | false =>
    refine tab_ok hT4 (gd_ok no513 fun σ5 t5 M hM => ?_)
    have n5 := t5.nt hT4
    refine apply_w H ((g4.nt.trans n5).ls.pl3 hp3) hr fun σ6 g6 => ⟨rfl, hM _ _ ?_⟩
    have hS6 := ((g4.nt.trans n5).trans g6.nt).store hS
    obtain ⟨d1, s1, b1, x1, y1, hI⟩ := id hS6
    refine ob_i hI.st ?_
    refine op_ok H.m2 ?_
    refine told_w H.toStoreP hS6 fun σ7 g7 => ?_
    show opP (eqv σ7 eqFuel told0 told0) fun r => Good (.bool r) σ7
    rw [told_eq]
    exact ⟨rfl, _, g7 _ _ (g6 _ _ (t5.me _ hT4))⟩
end Mine
end

section
set_option autoImplicit false
set_option linter.unusedVariables false
set_option maxRecDepth 100000
set_option maxHeartbeats 1000000
namespace Mine
open PySem

theorem shapes_lets : ∀ p ∈ shapes, (∀ c ∈ p.2, c ∈ lets) ∧ 1 ≤ p.2.length ∧ p.2.length ≤ 5 ∧ shapeOf p.1 shapes = some p.2 ∧ ascii (shStr p.2) = true := by decide +kernel
theorem at_map {α β : Type} {l : List α} {f : α → β} {r : Int} {n : Nat} (hl : l.length = n) (r0 : 0 ≤ r) (r1 : r < n) : ∃ p ∈ l, (l.map f)[r.toNat]? = some (f p) := by
  have h : r.toNat < l.length := by omega
  exact ⟨l[r.toNat], List.getElem_mem h, by rw [List.getElem?_map, List.getElem?_eq_getElem h]; rfl⟩
theorem mkPl3 {σ : St} {l : List PV} (h : ∀ v ∈ l, Pl2 σ v) (hl : l.length ≤ 100) : Pl3 σ (.tup l) := ⟨rfl, fun _ e => (PV.tup.inj e) ▸ ⟨hl, h⟩⟩
theorem pl2_str {σ : St} {x : Str} : Pl2 σ (.str x) := ⟨rfl, fun _ q => nomatch q⟩
theorem pl2_cons {σ : St} {x : Str} {l : List PV} (h : ∀ v ∈ l, Pl2 σ v) : ∀ v ∈ PV.str x :: l, Pl2 σ v := fun v hv => (List.mem_cons.mp hv).elim (fun q => q ▸ pl2_str) (h v)
/-- the row, as it is made -/
structure Bt (lb k : Nat) (ds : List Nat) (vs : List PV) (σ : St) : Prop where
  sv : Sv lb (k + ds.length) [] vs σ
  len : vs.length = ds.length
  fit : ((vs.zip ds).all fun p => fits p.1 p.2) = true
  nw : ∀ v ∈ vs, nw v = true
theorem Bt.add {lb k c : Nat} {ds : List Nat} {vs : List PV} {v : PV} {σ σ' : St} (b : Bt lb k ds vs σ) (hf : fits v c = true) (hp : Pl2 σ' v) (hn : Mine.nw v = true) (hB : BoxAt σ' lb (k + ds.length + 1)) (g : Kp lb σ σ') : Bt lb k (ds ++ [c]) (vs ++ [v]) σ' where
  sv := by rw [List.length_append]; exact (b.sv.kp hB g).add hp
  len := by rw [List.length_append, List.length_append, b.len]; rfl
  fit := by rw [List.zip_append b.len, List.all_append, b.fit]; show (true && (fits v c && true)) = true; rw [hf]; rfl
  nw := fun x hx => (List.mem_append.mp hx).elim (b.nw x) fun q => List.mem_singleton.mp q ▸ hn
/-- the values that the law draws -/
theorem made_w {P : Prg} (H : P2 P) {d lb k : Nat} {f2 f3 : Option PV} {sh : List Nat} {σ : St} {N : Fr × List PV → St → Prop} {K : PV → St → Prop} (hs : ∀ c ∈ sh, c ∈ lets) (hl : sh.length ≤ 5) (hk : k ≤ 100) (s : Sv lb k [] [] σ)
    (kN : ∀ fr vs σ', Bt lb k sh vs σ' → N (fr, vs) σ') :
    Rn (loopS (compBody (evC (tb P (d + 2)) 193) (emL (evE (tb P (d + 2)) 193) (.call 4 [.var 1, .var 14])) [14] false []) (.imm (signs (shStr sh))) ([some (.loc 0), some (.loc lb), f2, f3, none, none, none, none, none, none, none, none, none, none, none], []) σ)
      (fun r σ => sumP r (fun p => N p σ) fun v => K v σ) noE := by
  refine lpI (fun rest p σ' => ∃ ds cs u vs, rest = cs.map ch ∧ sh = ds ++ cs ∧ p = ([some (PV.loc 0), some (.loc lb), f2, f3, none, none, none, none, none, none, none, none, none, none, u], vs) ∧ Bt lb k ds vs σ') ?_ ?_ ⟨[], sh, none, [], rfl, rfl, rfl, s, rfl, rfl, fun _ h => nomatch h⟩
  · rintro _ σ' ⟨ds, cs, u, vs, e, rfl, rfl, b⟩
    have e := map_nil e
    subst e
    exact kN _ _ _ (by rw [List.append_nil]; exact b)
  · rintro _ _ _ σ' ⟨ds, cs, u, vs, e, rfl, rfl, b⟩
    obtain ⟨c, cs', rfl, rfl, rfl⟩ := map_cons e
    rw [List.length_append] at hl
    refine cmpr_w ?_
    refine ofsort_w H.f1 H.f3 H.f4 (hs c (List.mem_append_right _ List.mem_cons_self)) b.sv.box (by omega) fun v σ2 hf hp hn hB g => ?_
    refine gd_ok (szOK_of (by rw [b.len]; omega)) ?_
    exact ⟨ds ++ [c], cs', _, _, rfl, by rw [List.append_assoc]; rfl, rfl, b.add hf hp hn hB g⟩
noncomputable def valB : List IS := [(.ife (.bop false [(.cmp (.call 6 [(.var 4)]) [(.NotEq, (.cmp (.cst (.str (Str.ofString "n"))) [(.In, (.var 5))]))]), (.cmp (.call 7 [(.var 4)]) [(.NotEq, (.cmp (.cst (.str (Str.ofString "f"))) [(.In, (.var 5))]))]), (.cmp (.call 8 [(.var 4)]) [(.NotEq, (.cmp (.cst (.str (Str.ofString "u"))) [(.In, (.var 5))]))])])
    [(.ret (.cst (.bool false)))]
    [])]
theorem in_val {l : Nat} {p : PV × List Nat} {s : Str} {c : Nat} {t : Bool} (hs : s = ⟨#[c]⟩) (hp : p ∈ vals l) (hc : c ∈ lets) (h : (!(Builtin.Str.occurrences (shStr p.2) s 0 (shStr p.2).length 1).isEmpty) = t) : t = fits p.1 c := by
  rw [hs, vals_in l p hp c hc, ← vals_fit l p hp c hc] at h
  exact h.symm
theorem vals_w {P : Prg} (S : Std P) {d n l a : Nat} {f0 f1 f2 f3 f6 f7 f8 f9 f10 f11 f12 : Option PV} {σ : St} {N : Fr → St → Prop} {K : PV → St → Prop} (hl : σ[l]? = some (.list (valPV a))) (ha : isLs σ[a]? = true)
    (k : ∀ u4 u5 σ', Gw σ σ' → N [f0, f1, f2, f3, u4, u5, f6, f7, f8, f9, f10, f11, f12] σ') :
    Rn (loopS (forBody (evT (tb P (d + 2)) (n + 20)) (evSs (tb P (d + 2)) (n + 20)) (.tup [.name 4, .name 5]) valB) (.lst l) [f0, f1, f2, f3, none, none, f6, f7, f8, f9, f10, f11, f12] σ) (fun r σ => sumP r (fun fr => N fr σ) fun v => K v σ) noE := by
  refine lpL (fun rest fr σ' => ∃ u4 u5 ps, fr = [f0, f1, f2, f3, u4, u5, f6, f7, f8, f9, f10, f11, f12] ∧ Gw σ σ' ∧ rest = ps.map (fun p => PV.tup [p.1, .str (shStr p.2)]) ∧ ∀ p ∈ ps, p ∈ vals a) _ (of_decide_eq_true rfl) (xs := valPV a) ⟨none, none, vals a, rfl, .refl, rfl, fun p h => h⟩ ?_ ?_ ?_
  · rintro _ _ _ ⟨u4, u5, ps, _, g, _⟩
    exact g _ _ hl
  · rintro _ _ ⟨u4, u5, ps, rfl, g, _⟩
    exact k _ _ _ g
  · rintro _ _ _ σ1 ⟨u4, u5, ps, rfl, g, e, hps⟩
    obtain ⟨p, ps', rfl, rfl, rfl⟩ := map_cons e
    have hp := hps p List.mem_cons_self
    have pl := vals_pl (g.ls a ha) p hp
    refine for_w ?_
    refine isnum_w S pl.own ?_
    refine fun t ht => ?_
    have e : t = isNum p.1 := in_val (c := 110) (by decide +kernel) hp (by decide) ht
    refine br_f (nb_f e) ?_
    refine texts_w S pl fun σ2 g2 => ?_
    refine fun t ht => ?_
    have e : t = textsOf p.1 := in_val (c := 102) (by decide +kernel) hp (by decide) ht
    refine br_f (nb_f e) ?_
    refine nums_w S (g2.ls.pl2 pl) fun σ3 g3 => ?_
    refine fun t ht => ?_
    have e : t = numsOf p.1 := in_val (c := 117) (by decide +kernel) hp (by decide) ht
    refine br_f (nb_f e) ?_
    exact ⟨_, _, ps', rfl, (g.trans g2).trans g3, rfl, fun p h => hps p (List.mem_cons_of_mem _ h)⟩
end Mine
end

section
set_option autoImplicit false
set_option linter.unusedVariables false
set_option maxRecDepth 100000
set_option maxHeartbeats 1000000
namespace Mine
open PySem

theorem pick_last {α : Type} {l : List α} : pick l none (some (-1)) = l.take (l.length - 1) := by
  unfold pick
  simp [PySem.W.kms_lo, PySem.W.kms_hi]
theorem part_int {k : Int} (h : k.natAbs ≤ 1000000) : partOf (some (.int k)) = some (some k) := if_pos h
theorem fits_row {w : Str} {sh : List Nat} {l : List PV} (h : shapeOf w shapes = some sh) : rowOk (.tup (.str w :: l)) = fitAll l sh := congrArg (fitO l) h
theorem no_row {w : Str} {l : List PV} (h : shapeOf w shapes = none) : rowOk (.tup (.str w :: l)) = false := congrArg (fitO l) h
theorem fit_len {sh : List Nat} {l : List PV} (h : l.length ≠ sh.length) : fitAll l sh = false := by
  unfold fitAll; rw [beq_eq_false_iff_ne.mpr h]; rfl
theorem fit_set {v : PV} {c : Nat} : ∀ {vs : List PV} {sh : List Nat} {p : Nat}, vs.length = sh.length → sh[p]? = some c → (vs.zip sh).all (fun q => fits q.1 q.2) = true → ((vs.set p v).zip sh).all (fun q => fits q.1 q.2) = fits v c := by
  intro vs
  induction vs with
  | nil => intro sh p hl hc _; cases sh with
    | nil => exact nomatch hc
    | cons _ _ => exact nomatch hl
  | cons x vs ih => intro sh p hl hc h; cases sh with
    | nil => exact nomatch hl
    | cons y sh =>
      obtain ⟨h1, h2⟩ := Bool.and_eq_true_iff.mp h
      have h2 : ((vs.zip sh).all fun q => fits q.1 q.2) = true := h2
      cases p with
      | zero =>
        obtain rfl : y = c := Option.some.inj hc
        show (fits v y && (vs.zip sh).all _) = _
        rw [h2, Bool.and_true]
      | succ p =>
        show (fits x y && ((vs.set p v).zip sh).all _) = _
        rw [show fits x y = true from h1, ih (Nat.succ.inj hl) hc h2]; rfl
theorem char_at {sh : List Nat} {k : Int} {c : Nat} (h0 : 0 ≤ k) (h1 : k < sh.length) (hc : sh[k.toNat]? = some c) : (seqIndex? k (shStr sh).length).bind ((shStr sh).cps[·]?) = some c := by
  have e : (shStr sh).length = sh.length := List.size_toArray
  have hi : seqIndex? k sh.length = some k.toNat := by
    unfold seqIndex?
    simp
    omega
  rw [e, hi]
  show (sh.toArray)[k.toNat]? = some c
  rw [List.getElem?_toArray]; exact hc
theorem eqstr_w {σ : St} {v : PV} {y : Str} {Q : Bool → St → Prop} (h : plainV σ v = true) (k : ∀ t, Q t σ) : wEqS v y σ Q := by
  cases v with
  | str x => exact fun t _ => k t
  | loc l => exact gd_ok h (k false)
  | _ => exact k false
theorem eqC_w {T : Tb} {n i : Nat} {fr : Fr} {E : Nat → St → Prop} {σ : St} {v : PV} {y : Str} {Q : Bool → St → Prop} (hv : fr[i]? = some (some v)) (h : plainV σ v = true) (k : ∀ t, Q t σ) : wC T (n + 3) fr E (.cmp (.var i) [(.Eq, .cst (.str y))]) σ Q := by
  refine var_ok hv ?_
  show wEqS v y σ Q
  exact eqstr_w h k
theorem ite_w {T : Tb} {n : Nat} {fr : Fr} {E : Nat → St → Prop} {σ : St} {c t e : IE} {Q : PV → St → Prop} (h : wC T n fr E c σ fun b σ => br b (wE T n fr E t σ Q) (wE T n fr E e σ Q)) : wE T (n + 1) fr E (.ite c t e) σ Q := h
/-- the frame, once the rest is told -/
noncomputable def frB (lb : Nat) (w : Str) (sh so : List Nat) (v : PV) (way place : Int) (vs : List PV) (isr : Bool) (bent : Option PV) : Fr := [some (.loc 0), some (.loc lb), some (.str w), some (.str (shStr sh)), some v, some (.str (shStr so)), some (.int way), some (.int place), some (.bool isr), none, bent, some (.tup (.str w :: vs)), none]
noncomputable def Bent (lb : Nat) (w : Str) (sh so : List Nat) (v : PV) (way place : Int) (vs : List PV) (fr : Fr) (σ : St) : Prop := ∃ isr bent, fr = frB lb w sh so v way place vs isr (some bent) ∧ σ[(1 : Nat)]? = some (.tab [(491, 23)]) ∧ Pl3 σ bent ∧ rowOk bent = isr
noncomputable def wayS : IS := .ife (.cmp (.var 6) [(.Lt, (.cst (.int (2))))])
    [(.asg (.name 10) (.bin .Add (.bin .Add (.slice (.var 11) none (some (.bin .Add (.var 7) (.cst (.int (1)))))) (.tup [(.var 4)])) (.slice (.var 11) (some (.bin .Add (.var 7) (.cst (.int (2))))) none))), (.asg (.name 8) (.cmp (.sub (.var 3) (.var 7)) [(.In, (.var 5))]))]
    [(.ife (.cmp (.var 6) [(.Eq, (.cst (.int (2))))])
    [(.asg (.name 10) (.ite (.cmp (.var 4) [(.Eq, (.cst (.str (Str.ofString ""))))]) (.slice (.var 11) none (some (.neg (.cst (.int (1)))))) (.bin .Add (.var 11) (.tup [(.var 4)]))))]
    [(.ife (.cmp (.var 6) [(.Eq, (.cst (.int (3))))])
    [(.asg (.name 10) (.sub (.list [(.tup [(.cst (.str (Str.ofString "Create"))), (.cst (.str (Str.ofString "x"))), (.cst (.int (7)))]), (.tup [(.cst (.str (Str.ofString ""))), (.cst (.str (Str.ofString "")))]), (.tup [(.cst (.int (7))), (.cst (.str (Str.ofString "x")))]), (.tup [])]) (.bin .Mod (.var 7) (.cst (.int (4))))))]
    [(.asg (.name 10) (.sub (.list [(.blt .list [(.var 11)]), (.var 2), (.cst .none), (.slice (.var 11) (some (.cst (.int (1)))) none)]) (.bin .Mod (.var 7) (.cst (.int (4))))))])])]
theorem way_w {T : Tb} {lb l : Nat} {w : Str} {sh so : List Nat} {v : PV} {way place : Int} {vs : List PV} {σ : St} {E : Nat → St → Prop} {M : Fr → St → Prop} {K : PV → St → Prop} (hT : σ[(1 : Nat)]? = some (.tab [(491, 23)])) (hpl : ∀ v ∈ vs, Pl2 σ v) (hv : Pl2 σ v)
    (hl1 : 1 ≤ sh.length) (hl : sh.length ≤ 5) (hvl : vs.length = sh.length) (hfit : ((vs.zip sh).all fun p => fits p.1 p.2) = true) (hnw : ∀ v ∈ vs, nw v = true) (hlets : ∀ c ∈ sh, c ∈ lets) (hshape : shapeOf w shapes = some sh) (hvm : (v, so) ∈ vals l)
    (p0 : 0 ≤ place) (p1 : place < sh.length) (hM : ∀ fr σ, Bent lb w sh so v way place vs fr σ → M fr σ) : wS T 190 (frB lb w sh so v way place vs false none) E wayS σ M K := by
  have sz : ∀ {n : Nat}, n ≤ 20 → szOK n = true := fun h => szOK_of (Nat.le_trans h (by decide))
  have hvl5 : vs.length ≤ 5 := hvl ▸ hl
  have hL : (PV.str w :: vs).length ≤ 6 := Nat.succ_le_succ hvl5
  have hL20 := sz (Nat.le_trans hL (by decide))
  have hall := pl2_cons (x := w) hpl
  by_cases hw : way < 2
  · refine br_t (decide_eq_true hw) ?_
    obtain ⟨c, hc⟩ : ∃ c, sh[place.toNat]? = some c := ⟨_, List.getElem?_eq_getElem (by omega)⟩
    refine op_ok (part_int (by omega)) ?_
    refine gd_ok hL20 ?_
    rw [pick_to (by omega)]
    have e1 : (PV.str w :: vs).take (place + 1).toNat = .str w :: vs.take place.toNat := by
      rw [show (place + 1).toNat = place.toNat + 1 by omega]; rfl
    rw [e1]
    have hA : (PV.str w :: vs.take place.toNat).length ≤ 6 := Nat.succ_le_succ (Nat.le_trans (List.length_take_le' ..) hvl5)
    refine gd_ok (sz (Nat.le_trans (Nat.add_le_add_right hA 1) (by decide))) ?_
    refine op_ok (part_int (by omega)) ?_
    refine gd_ok hL20 ?_
    rw [pick_from (by omega)]
    have e2 : (PV.str w :: vs).drop (place + 2).toNat = vs.drop (place.toNat + 1) := by
      rw [show (place + 2).toNat = (place.toNat + 1) + 1 by omega]; rfl
    rw [e2]
    have e3 : (PV.str w :: vs.take place.toNat) ++ [v] ++ vs.drop (place.toNat + 1) = .str w :: vs.set place.toNat v := by
      rw [List.set_eq_take_append_cons_drop, if_pos (by omega), List.append_assoc]; rfl
    have hlen : ((PV.str w :: vs.take place.toNat) ++ [v]).length + (vs.drop (place.toNat + 1)).length ≤ 20 := by
      rw [← List.length_append, e3, List.length_cons, List.length_set]; omega
    refine gd_ok (sz hlen) ?_
    refine gd_d ⟨sz (show sh.toArray.size ≤ 20 by rw [List.size_toArray]; omega), by omega⟩ ?_
    refine op_ok (char_at p0 p1 hc) ?_
    refine fun t ht => ?_
    have ht := ht.symm.trans ((vals_in l _ hvm c (hlets c (List.mem_of_getElem? hc))).trans (vals_fit l _ hvm c (hlets c (List.mem_of_getElem? hc))).symm)
    refine hM _ _ ⟨t, _, rfl, hT, mkPl3 ?_ ?_, ?_⟩
    · rw [e3]
      exact pl2_cons fun x hx => (List.mem_or_eq_of_mem_set hx).elim (hpl x) fun q => q ▸ hv
    · rw [List.length_append]; exact Nat.le_trans hlen (by decide)
    · rw [e3, fits_row hshape]
      unfold fitAll
      rw [fit_set hvl hc hfit, List.length_set, hvl, beq_self_eq_true, Bool.true_and]
      exact ht.symm
  · refine br_f (decide_eq_false hw) ?_
    have b0 : ∀ (bent : PV) (σ' : St), σ'[(1 : Nat)]? = some (.tab [(491, 23)]) → Pl3 σ' bent → rowOk bent = false → M (frB lb w sh so v way place vs false (some bent)) σ' := fun bent σ' h1 h2 h3 => hM _ _ ⟨false, bent, rfl, h1, h2, h3⟩
    by_cases hw2 : (way == 2) = true
    · refine br_t hw2 ?_
      refine ite_w ?_
      refine eqC_w (v := v) rfl hv.own fun t => ?_
      cases t with
      | true =>
        refine gd_ok hL20 ?_
        refine b0 _ _ hT (mkPl3 ?_ ?_) ?_
        · rw [pick_last]; exact fun x hx => hall x (List.mem_of_mem_take hx)
        · rw [pick_last]; exact Nat.le_trans (List.length_take_le' ..) (Nat.le_trans hL (by decide))
        · rw [pick_last]
          cases vs with
          | nil => exact absurd (hvl ▸ hl1) (by decide)
          | cons x r => exact (fits_row (l := (x :: r).take r.length) hshape).trans (fit_len (by rw [List.length_take, ← hvl]; exact Nat.ne_of_lt (Nat.lt_succ_of_le (Nat.min_le_left _ _))))
      | false =>
        refine gd_ok (sz (Nat.le_trans (Nat.add_le_add_right hL 1) (by decide))) ?_
        refine b0 _ _ hT (mkPl3 ?_ ?_) ?_
        · exact fun x hx => (List.mem_append.mp hx).elim (hall x) fun q => List.mem_singleton.mp q ▸ hv
        · rw [List.length_append]; exact Nat.le_trans (Nat.add_le_add_right hL 1) (by decide)
        · exact (fits_row (l := vs ++ [v]) hshape).trans (fit_len (by rw [List.length_append, hvl]; exact Nat.succ_ne_self _))
    · refine br_f (Bool.eq_false_iff.mpr hw2) ?_
      have f0 : 0 ≤ place.fmod 4 := fm0 (by decide)
      have f1 : place.fmod 4 < 4 := fm1 (by decide)
      have f2 : (place.fmod 4).toNat < 4 := by omega
      have pin : ∀ {σ' : St} {x : Int}, Pl2 σ' (.int x) := ⟨rfl, fun _ q => nomatch q⟩
      by_cases hw3 : (way == 3) = true
      · refine br_t hw3 fun σ1 a1 => ?_
        refine ob_l a1.me ?_
        refine gd_d ⟨f0, by omega⟩ ?_
        refine op_ok (List.getElem?_eq_getElem f2) ?_
        have n1 : shapeOf (Str.ofString "Create") shapes = none := by decide +kernel
        have n2 : shapeOf (Str.ofString "") shapes = none := by decide +kernel
        refine (fun (q : Pl3 σ1 _ ∧ rowOk _ = false) => b0 _ _ (a1.gw _ _ hT) q.1 q.2) ((List.forall_mem_cons (p := fun x => Pl3 σ1 x ∧ rowOk x = false)).mpr ⟨⟨mkPl3 ?_ (by decide), no_row n1⟩, List.forall_mem_cons.mpr ⟨⟨mkPl3 ?_ (by decide), no_row n2⟩, List.forall_mem_cons.mpr ⟨⟨mkPl3 ?_ (by decide), rfl⟩, List.forall_mem_cons.mpr ⟨⟨mkPl3 ?_ (by decide), rfl⟩, fun _ h => absurd h List.not_mem_nil⟩⟩⟩⟩ _ (List.getElem_mem f2))
        · exact pl2_cons (List.forall_mem_cons.mpr ⟨pl2_str, List.forall_mem_cons.mpr ⟨pin, fun _ h => nomatch h⟩⟩)
        · exact pl2_cons (pl2_cons fun _ h => nomatch h)
        · exact List.forall_mem_cons.mpr ⟨pin, pl2_cons fun _ h => nomatch h⟩
        · exact fun _ h => nomatch h
      · refine br_f (Bool.eq_false_iff.mpr hw3) ?_
        refine gd_ok hL20 fun σ1 a1 => ?_
        refine gd_ok hL20 fun σ2 a2 => ?_
        refine ob_l a2.me ?_
        refine gd_d ⟨f0, by omega⟩ ?_
        refine op_ok (List.getElem?_eq_getElem f2) ?_
        have g2 := a1.gw.trans a2.gw
        have at1 : ∀ x, (∀ l, x ≠ PV.tup l) → plainV σ2 x = true → Pl3 σ2 x := fun x n h => ⟨h, fun l q => absurd q (n l)⟩
        refine (fun (q : Pl3 σ2 _ ∧ rowOk _ = false) => b0 _ _ (g2 _ _ hT) q.1 q.2) ((List.forall_mem_cons (p := fun x => Pl3 σ2 x ∧ rowOk x = false)).mpr ⟨⟨at1 _ (fun _ => PV.noConfusion) ?_, rfl⟩, List.forall_mem_cons.mpr ⟨⟨at1 _ (fun _ => PV.noConfusion) rfl, rfl⟩, List.forall_mem_cons.mpr ⟨⟨at1 _ (fun _ => PV.noConfusion) rfl, rfl⟩, List.forall_mem_cons.mpr ⟨?_, fun _ h => absurd h List.not_mem_nil⟩⟩⟩⟩ _ (List.getElem_mem f2))
        · show isLs σ2[_]? = true
          rw [a2.gw _ _ a1.me]; rfl
        · rw [pick_from (by decide)]
          refine ⟨mkPl3 (fun v h => g2.ls.pl2 (hpl v h)) (Nat.le_trans hvl5 (by decide)), ?_⟩
          cases vs with
          | nil => rfl
          | cons x r =>
            have hx := hnw x List.mem_cons_self
            cases x with
            | str y => exact no_row (Option.isNone_iff_eq_none.mp hx)
            | _ => rfl
end Mine
end

section
set_option autoImplicit false
set_option linter.unusedVariables false
set_option maxRecDepth 100000
set_option maxHeartbeats 1000000
namespace Mine
open PySem

theorem law2_w {P : Prg} (H : P2 P) {d : Nat} {ns : List Int} (hn : ns.length ≤ 63) : Rn (runFn (tb P (d + 10)) f02_17 [.loc 0] [.frz (ns.map .int), .tab []]) Good noE := by
  refine fn_w ⟨rfl, by decide⟩ ?_
  refine F_of H.f0 (box_w (ns := ns) rfl (Nat.le_trans hn (by decide)) fun lb σ0 el hB0 g0 => ?_)
  have s0 : Sv lb 0 [] [] σ0 := ⟨by rw [el]; exact (by decide : (1 : Nat) ≠ 4), hB0, g0 1 _ rfl, fun _ h => nomatch h⟩
  refine shapes_w H.f2 fun l σ1 hl g1 hS => ?_
  refine drawS_w H.f1 (s0.gw g1) (by decide) (by decide) (by decide) fun r σ2 r0 r1 s2 k2 => ?_
  refine ob_l (k2 _ _ hS (Nat.ne_of_lt (Nat.lt_of_lt_of_le s0.lt hl)).symm) ?_
  refine gd_d ⟨r0, Int.le_of_lt (Int.lt_trans r1 (by decide))⟩ ?_
  obtain ⟨⟨w, sh⟩, hp, hpe⟩ := at_map (f := fun p : Str × List Nat => PV.tup [.str p.1, .str (shStr p.2)]) (n := 13) (l := shapes) rfl r0 r1
  refine op_ok hpe ?_
  obtain ⟨hlets, hsh1, hsh5, hshape, hasc⟩ : (∀ c ∈ sh, c ∈ lets) ∧ 1 ≤ sh.length ∧ sh.length ≤ 5 ∧ shapeOf w shapes = some sh ∧ ascii (shStr sh) = true := shapes_lets _ hp
  refine gd_ok hasc ?_
  refine made_w H hlets hsh5 (by decide) s2 fun fr vs σ3 b => ?_
  have hvl : vs.length ≤ 5 := b.len ▸ hsh5
  refine fun σ4 a4 => ?_
  refine ob_l a4.me ?_
  refine gd_ok (szOK_of (Nat.le_trans hvl (by decide))) ?_
  refine gd_ok (szOK_of (Nat.le_trans (Nat.add_le_add_left hvl 1) (by decide))) ?_
  have s4 := b.sv.gw a4.gw
  have hrow : rowOk (.tup (.str w :: vs)) = true := (fits_row hshape).trans (by unfold fitAll; rw [b.fit, b.len, beq_self_eq_true]; rfl)
  refine tab_ok s4.tab fun σ5 t5 M hM => ?_
  have n5 := t5.nt s4.tab
  have s5 := s4.nt n5 (t5.me _ s4.tab)
  refine row_w H.toStd (mkPl3 (pl2_cons s5.pl) (Nat.le_trans (Nat.succ_le_succ hvl) (by decide))) (fun _ σ6 g6 => hM _ _ ?_) (fun h => nomatch hrow.symm.trans h)
  have s6 := s5.gw g6
  refine values_w H.f3 fun l0 l1 σ7 _ g7 h0 hL => ?_
  refine ob_l hL ?_
  refine vals_w H.toStd hL h0 fun u4 u5 σ8 g8 => ?_
  have kk : ∀ {k : Nat}, k ≤ 10 → sh.length + k ≤ 100000 := fun h => Nat.le_trans (Nat.add_le_add hsh5 h) (by decide)
  have kd : ∀ {k : Nat}, 0 + 1 + sh.length + k = sh.length + (k + 1) := by omega
  refine drawS_w H.f1 ((s6.gw g7).gw g8) (kd (k := 0) ▸ kk (by decide)) (by decide) (by decide) fun way σ9 w0 w1 s9 k9 => ?_
  refine gd_ok (szOK_of (show sh.toArray.size ≤ 1000000 by rw [List.size_toArray]; omega)) ?_
  have hsz : ((shStr sh).length : Int) = (sh.length : Int) := congrArg _ (List.size_toArray ..)
  refine drawS_w H.f1 s9 (kd (k := 1) ▸ kk (by decide)) (by rw [hsz]; omega) (by rw [hsz]; omega) fun place σ10 p0 p1 s10 k10 => ?_
  rw [hsz] at p1
  refine values_w H.f3 fun m0 m σ11 hm g11 hm0 hmL => ?_
  have s11 := s10.gw g11
  refine drawS_w H.f1 s11 (kd (k := 2) ▸ kk (by decide)) (by decide) (by decide) fun z σ12 z0 z1 s12 k12 => ?_
  refine ob_l (k12 _ _ hmL (Nat.ne_of_lt (Nat.lt_of_lt_of_le s10.lt hm)).symm) ?_
  refine gd_d ⟨z0, Int.le_of_lt (Int.lt_trans z1 (by decide))⟩ ?_
  obtain ⟨⟨v, so⟩, hvm, hve⟩ := at_map (f := fun p : PV × List Nat => PV.tup [p.1, .str (shStr p.2)]) (n := 16) (l := vals m0) rfl z0 z1
  refine op_ok hve ?_
  have hv := vals_pl ((k12.ls s12.box) _ hm0) _ hvm
  show wSs _ _ _ _ (IS.ife _ _ _ :: _) _ _ _
  refine seq_w (Bent lb w sh so v way place vs) (fun M hM => way_w s12.tab s12.pl hv hsh1 hsh5 b.len b.fit b.nw hlets hshape hvm p0 p1 hM) ?_
  rintro _ σ13 ⟨isr, bent, rfl, hT, hp, hr⟩
  refine tab_ok hT fun σ14 t14 M hM => ?_
  have n14 := t14.nt hT
  have hT14 := t14.me _ hT
  have hp14 := n14.ls.pl3 hp
  refine row_w H.toStd hp14 (fun h σ15 g => hM _ _ ?_) (fun h σ15 g => ⟨rfl, hM _ _ ?_⟩)
  · refine br_f (nb_f (hr.symm.trans h)) ?_
    exact tail_w H (g _ _ hT14) (g.ls.pl3 hp14) hr
  · refine br_f (nb_f (hr.symm.trans h)) ?_
    exact tail_w H (g _ _ hT14) (g.ls.pl3 hp14) hr
end Mine
end

section
set_option maxRecDepth 100000
set_option maxHeartbeats 8000000
namespace Mine
open PySem PySem.W PySem.Spec PyProof.Rows
theorem p2_02 : P2 P02 where
  f0 := rfl
  f1 := rfl
  f2 := rfl
  f3 := rfl
  f4 := rfl
  f6 := rfl
  f7 := rfl
  f8 := rfl
  f9 := rfl
  f10 := rfl
  f11 := rfl
  f12 := rfl
  f13 := rfl
  f14 := rfl
  f15 := rfl
  f16 := rfl
  i1 := rfl
  i2 := rfl
  m1 := rfl
  m2 := rfl
  m3 := rfl
theorem run02 (ns : List Int) (hn : ¬ (63 : Int) < (ns.length : Int)) : ∃ σ' ks, runFn (tb P02 12) f02_17 [.loc 0] [.frz (ns.map .int), .tab []] = .ok (.bool true) σ' ∧ σ'[(1 : Nat)]? = some (.tab ks) := by
  have h := law2_w p2_02 (d := 2) (ns := ns) (by omega)
  cases hm : runFn (tb P02 (2 + 10)) f02_17 [.loc 0] [.frz (ns.map .int), .tab []] with
  | ok v σ' =>
    rw [hm] at h
    obtain ⟨rfl, ks, hk⟩ := h
    exact ⟨σ', ks, rfl, hk⟩
  | exc c σ' => rw [hm] at h; exact h.elim
  | stuck => rw [hm] at h; exact h.elim
theorem post_true {r : RowW} (h1 : r.returns = .bool) (h2 : r.post = .eq .res (.lit (.bool true))) (a b : List WData) : r.claim.post a (.bool true) b = true := by
  simp [RowW.claim, h1, h2, WShape.has, WShape.arms, WTm.holds, WTm.value, W.same]
theorem whole02 : PySem.Challenge.rw_nz0321_02.Holds := by
  w_on
  refine holds_law (by kernel_rfl) fun said => ?_
  refine PySem.W.holds_open (q := view02) (loose := loose02) (Xt := fun s => xlAt view02 [] s && recOk PySem.Challenge.rw_nz0321_02.row.toRowW.records s) (XP := XL view02 []) (Yf := H02.obs) (Ya := H02.val) (YP := H02.says) (N := 7256) left02 H02.of H02.keeps (fun s e => xl_of s (Bool.and_eq_true_iff.mp e).1) XL.keeps (by rfl) (by rfl) (by rfl) (fun s e => recFacts_of (Bool.and_eq_true_iff.mp e).2) (by rfl) (by first | assumption | decide +kernel) (by decide +kernel) ⟨rfl, rfl, rfl, rfl, rfl, by decide +kernel⟩ ?hw ?hc
  case hw => w_witness2
  case hc =>
    intro w s₀ s₁ mg mb G Y fa o pm cd doc dV kV ho hd hcd hD hmg hg args vals as hpre hlay hrd hwl hlo
    have KX := km_in_of Y
    have hT8 := km_tabs_of Y
    have X := (Ground.X G).1
    have V := (Ground.X G).2
    refine Ground.open G ?_
    intro T B D TE TW
    try (refine guard_noD D (by decide +kernel) ?_; clear D)
    have hT9 : TabsAt [(566, 564)] _ := List.forall_mem_cons.mpr ⟨⟨codeHd_of_K (c := 566) (P := 564) KX (by kernel_rfl), hT8 564 (by k_mem)⟩, fun _ h => nomatch h⟩
    have he9 : cd = PySem.Value.ref 566 := law_code (x := PySem.Str.ofString "law") (c := 566) (P := 564) KX (Top.g T) (by kernel_rfl) hmg ho hd
    subst he9
    clear hd
    wrow_args hpre hlay hrd hwl hlo
    rename_i hL _ _ _ hI _ hsz _
    obtain ⟨ol, e1, e2, n, e3⟩ := hL
    have hfa : fa = 567 := by
      have q := mg_of (K := K02 w.params) KX T.g (n := Str.ofString "law") (v := .ref 567) (by kernel_rfl)
      have q2 : mg (Str.ofString "law") = some (.ref fa) := hmg
      rw [q] at q2
      cases q2; rfl
    subst hfa
    have H : HeadF s₁ (K02 w.params) mg mb _ ol [564] := ⟨T.g, T.b, T.builtins, T.nolimit, KX, e1, e2, ⟨_, _, e3⟩, hT8, frag02_ok _, T.bmain⟩
    obtain ⟨σ', ks, hr, hk⟩ := run02 _ hsz
    refine enter_call ?_
    refine kn_post hT9 (fun _ _ => rfl) ?_
    exact fin_two (L := LL 25 true + 1) H dat02_ok (get02_ok _) (set02_ok _) e3 hI (fok02 H 12) (by decide) hr hk hg (fun _ _ => rfl) (post_true rfl rfl _ _)
end Mine
end

theorem PySem.Challenge.cw_nz0321_02_holds : PySem.Challenge.rw_nz0321_02.Holds :=
  Mine.whole02
