import PyProof.Rows.All
import PyProof.ForAny
import PyProof.StrLoop
import PyProof.StrWalks
import PyProof.CompFree
import PyProof.DictCompW
import PyProof.ExcBaseAll.Exception
import PyProof.WalksMore
import PyProof.InstStoreFacts
import PyProof.ZipIter
import Wide.BytesFacts
import Wide.BytesRules
import KE.LcSums
import KE.KDictList
import KE.KIsBytes
import KE.KSliceW
import KE.KTryOn
import Wide.FinOn
import OpenK.AllK
import Wide.All
import PySem.Challenge.RW_nz0321_01
set_option Elab.async false
set_option autoImplicit false
set_option tactic.hygienic false
set_option bootstrap.genMatcherCode false
set_option genInjectivity false
set_option genCtorIdx false
set_option genSizeOf false
set_option linter.all false
set_option maxRecDepth 100000
set_option maxHeartbeats 8000000
set_option exponentiation.threshold 300
section
namespace Mine
open PySem
set_option genCtorIdx true in
inductive PV where
 | none
 | bool (b : Bool)
 | int (i : Int)
 | str (x : Str)
 | bytes (b : Array UInt8)
 | tup (l : List PV)
 | loc (n : Nat)
set_option genCtorIdx true in
inductive PO where
 | list (xs : List PV)
 | frz (xs : List PV)
 | junk
 | tab (ks : List (Nat × Nat))
 | dict (es : List (PV × PV))
 | inst (c : Nat) (fs : List (Nat × PV))
abbrev St := List PO
set_option genCtorIdx true in
inductive R (α : Type) where
 | ok (a : α) (U : St)
 | exc (c : Nat) (U : St)
 | stuck
namespace R
noncomputable def bind {α β : Type} : R α -> (α -> St -> R β) -> R β
 | .ok a U, f => f a U
 | .exc c U, _ => .exc c U
 | .stuck, _ => .stuck
@[simp] theorem bind_ok {α β : Type} (a : α) (U : St) (f : α -> St -> R β) : (R.ok a U).bind f = f a U := rfl
@[simp] theorem bind_exc {α β : Type} (c : Nat) (U : St) (f : α -> St -> R β) : (R.exc c U : R α).bind f = .exc c U := rfl
@[simp] theorem bind_stuck {α β : Type} (f : α -> St -> R β) : (R.stuck : R α).bind f = .stuck := rfl
theorem bind_assoc {α β γ : Type} (m : R α) (f : α -> St -> R β) (g : β -> St -> R γ) : (m.bind f).bind g = m.bind fun a U => (f a U).bind g := by cases m <;> rfl
end R
set_option genCtorIdx true in
inductive Bi where
 | len | sorted | list | tuple | all | any | ord | chr | str | abs | int
 | isStr | isInt | isBool | isBytes | isTuple
set_option genCtorIdx true in
inductive Mi where
 | split | lower | find | join | append
inductive IE where
 | cst (v : PV)
 | var (i : Nat)
 | neg (e : IE)
 | not (e : IE)
 | bop (isAnd : Bool) (es : List IE)
 | ite (c t e : IE)
 | bin (op : Operator) (a b : IE)
 | cmp (a : IE) (rest : List (CmpOp × IE))
 | list (es : List IE)
 | tup (es : List IE)
 | dict (kvs : List (IE × IE))
 | call (f : Nat) (es : List IE)
 | new (c : Nat) (es : List IE)
 | blt (b : Bi) (es : List IE)
 | meth (m : Mi) (o : IE) (es : List IE)
 | umeth (m : Nat) (o : IE) (es : List IE)
 | attr (o : IE) (a : Nat)
 | sub (o i : IE)
 | slice (o : IE) (lo hi : Option IE)
 | comp (elt : IE) (val : Option IE) (tgt : List Nat) (isTup : Bool) (kind : Nat) (its : List IE) (ifs : List IE) (base width : Nat)
inductive IT where
 | name (i : Nat)
 | tup (ts : List IT)
 | attr (o : IE) (a : Nat)
 | sub (o i : IE)
inductive IS where
 | expr (e : IE)
 | ret (e : IE)
 | asg (t : IT) (e : IE)
 | ife (c : IE) (t e : List IS)
 | whl (c : IE) (b : List IS)
 | forr (t : IT) (kind : Nat) (its : List IE) (b : List IS)
 | raise (c : Nat)
 | asg2 (i j : Nat) (e : IE)
 | tryn (b : List IS)
 | tryx (i : Nat) (e : IE) (b : List IS) (c j : Nat) (v : PV)
abbrev Fr := List (Option PV)
inductive Fl where
 | next (fr : Fr)
 | ret (v : PV)
noncomputable def Jp (n : Nat) : Bool := decide (n ≤ 1000000)
noncomputable def ZH (f : PV -> PV -> Option Bool) : List PV -> List PV -> Option Bool
 | [], _ => some true
 | _ :: _, [] => some true
 | x :: xs, y :: ys => (f x y).bind fun a => (ZH f xs ys).map (a && ·)
noncomputable def Ul : Option PO -> Option (List PV)
 | some (.list xs) => some xs
 | _ => none
noncomputable def dictOf : Option PO -> Option (List (PV × PV))
 | some (.dict es) => some es
 | _ => none
noncomputable def Zl : Option PO -> Option (Nat × List (Nat × PV))
 | some (.inst c fs) => some (c, fs)
 | _ => none
noncomputable def isLs (o : Option PO) : Bool := (Ul o).isSome
noncomputable def Za : PV -> Option Int | .int i => some i | _ => none
noncomputable def Oq : PV -> Option Str | .str i => some i | _ => none
noncomputable def asBool : PV -> Option Bool | .bool i => some i | _ => none
noncomputable def asBytes : PV -> Option (Array UInt8) | .bytes i => some i | _ => none
noncomputable def asTup : PV -> Option (List PV) | .tup i => some i | _ => none
noncomputable def UD : PV -> Option Nat | .loc i => some i | _ => none
section
variable {v : PV}
theorem YH {i : Int} (h : Za v = some i) : v = .int i := by cases v <;> first | (cases h; done) | (cases h; rfl)
theorem YG {i : Str} (h : Oq v = some i) : v = .str i := by cases v <;> first | (cases h; done) | (cases h; rfl)
theorem asBool_eq {i : Bool} (h : asBool v = some i) : v = .bool i := by cases v <;> first | (cases h; done) | (cases h; rfl)
theorem asBytes_eq {i : Array UInt8} (h : asBytes v = some i) : v = .bytes i := by cases v <;> first | (cases h; done) | (cases h; rfl)
theorem UC {i : List PV} (h : asTup v = some i) : v = .tup i := by cases v <;> first | (cases h; done) | (cases h; rfl)
theorem Oc {i : Nat} (h : UD v = some i) : v = .loc i := by cases v <;> first | (cases h; done) | (cases h; rfl)
theorem On {o : Option PO} {xs : List PV} (h : Ul o = some xs) : o = some (.list xs) := by
 cases o with
 | none => cases h
 | some o => cases o <;> first | (cases h; done) | (cases h; rfl)
end
section
variable {o : Option PO}
theorem dictOf_eq {es : List (PV × PV)} (h : dictOf o = some es) : o = some (.dict es) := by
 cases o with
 | none => cases h
 | some o => cases o <;> first | (cases h; done) | (cases h; rfl)
theorem UW {p : Nat × List (Nat × PV)} (h : Zl o = some p) : o = some (.inst p.1 p.2) := by
 cases o with
 | none => cases h
 | some o => cases o <;> first | (cases h; done) | (cases h; rfl)
end
noncomputable def eqLs (f : PV -> PV -> Option Bool) (a b : Option PO) : Option Bool := (Ul a).bind fun xs => (Ul b).bind fun ys => if xs.length == ys.length then ZH f xs ys else some false
noncomputable def eqk (U : St) (f : PV -> PV -> Option Bool) (a b : PV) : Option Bool := match b with
  | .str y => (Oq a).map (· == y)
  | .bytes y => (asBytes a).map (· == y)
  | .loc m => (UD a).bind fun l => eqLs f U[l]? U[m]?
  | .bool y => (asBool a).map (· == y)
  | .int y => (Za a).map (· == y)
  | .tup ys => (asTup a).bind fun xs => (ZH f xs ys).map fun r => r && xs.length == ys.length
  | .none => .none
noncomputable def eqv (U : St) : Nat -> PV -> PV -> Option Bool
 | 0 => fun _ _ => .none
 | n + 1 => eqk U (eqv U n)
noncomputable def JL : Nat := 16
noncomputable def truthy (U : St) : PV -> Option Bool
 | .none => some false
 | .bool b => some b
 | .loc l => match U[l]? with
   | some (.list xs) => if Jp xs.length then some (!xs.isEmpty) else .none
   | _ => .none
 | _ => .none
noncomputable def Kt (v : PV) (U : St) : R Bool := match truthy U v with
 | some b => .ok b U
 | .none => .stuck
noncomputable def JT (o : PO) (U : St) : R PV := .ok (.loc U.length) (U ++ [o])
noncomputable def OP {α : Type} (l : List α) (lo hi : Option Int) : List α := (l.drop (W.kms_lo lo l.length)).take (W.kms_hi hi l.length - W.kms_lo lo l.length)
noncomputable def optR {α β : Type} (o : Option α) (f : α -> R β) : R β := match o with
 | some a => f a
 | .none => .stuck
noncomputable def int2 (a b : PV) (f : Int -> Int -> R PV) : R PV := optR (Za a) fun x => optR (Za b) fun y => f x y
noncomputable def addLs (a b : Option PO) (U : St) : R PV := optR (Ul a) fun xs => optR (Ul b) fun ys => if Jp (xs.length + ys.length) then JT (.list (xs ++ ys)) U else .stuck
noncomputable def binAdd (a b : PV) (U : St) : R PV := match a with
 | .str x => optR (Oq b) fun y => if Jp (x.length + y.length) then .ok (.str (x ++ y)) U else .stuck
 | .loc l => optR (UD b) fun m => addLs U[l]? U[m]? U
 | .int _ => int2 a b fun x y => .ok (.int (x + y)) U
 | .tup x => optR (asTup b) fun y => if Jp (x.length + y.length) then .ok (.tup (x ++ y)) U else .stuck
 | _ => .stuck
noncomputable def binop (op : Operator) (a b : PV) (U : St) : R PV := match op with
 | .Add => binAdd a b U
 | .Sub => int2 a b fun x y => .ok (.int (x - y)) U
 | .Mult => int2 a b fun x y => if x.natAbs < 2 ^ 62 /\ y.natAbs < 2 ^ 62 then .ok (.int (x * y)) U else .stuck
 | .FloorDiv => int2 a b fun x y => if 0 < y /\ y < 2 ^ 30 then .ok (.int (x.fdiv y)) U else .stuck
 | .Mod => int2 a b fun x y => if y ≠ 0 then .ok (.int (x.fmod y)) U else .stuck
 | .Pow => int2 a b fun x y => if 0 ≤ x /\ x < 2 ^ 31 /\ 0 < y /\ y ≤ 300 then .ok (.int (x ^ y.toNat)) U else .stuck
 | _ => .stuck
noncomputable def isStr : PV -> Bool | .str _ => true | _ => false
noncomputable def keyEq (a b : PV) : Bool := match a with
 | .str a => (match b with
  | .str b => a == b
  | _ => false)
 | .int a => (match b with
  | .int b => a == b
  | _ => false)
 | _ => false
noncomputable def dget (k : PV) : List (PV × PV) -> Option PV
 | [] => .none
 | e :: r => if keyEq e.1 k then some e.2 else dget k r
noncomputable def Ob (k v : PV) : List (PV × PV) -> List (PV × PV)
 | [] => [(k, v)]
 | e :: r => if keyEq e.1 k then (e.1, v) :: r else e :: Ob k v r
noncomputable def isI : PV -> Bool | .int _ => true | _ => false
noncomputable def Jt (k : PV) (es : List (PV × PV)) : Bool := (isStr k && es.all fun e => isStr e.1) || (isI k && es.all fun e => isI e.1)
noncomputable def Od (U : St) (x : PV) : List PV -> Option Bool
 | [] => some false
 | y :: ys => (eqv U JL y x).bind fun a => (Od U x ys).map (a || ·)
noncomputable def inObj (U : St) (x : PV) (o : Option PO) : Option Bool := match o with
 | some (.list ys) => Od U x ys
 | some (.dict es) => if Jt x es then some (dget x es).isSome else .none
 | _ => .none
noncomputable def isIn (x c : PV) (U : St) : Option Bool := match c with
 | .str s => (Oq x).map fun y => !(Builtin.Str.occurrences s y 0 s.length 1).isEmpty
 | .tup ys => Od U x ys
 | .loc l => inObj U x U[l]?
 | _ => .none
noncomputable def isNone : PV -> Bool | .none => true | _ => false
noncomputable def cmp2 (a b : PV) (f : Int -> Int -> Bool) : Option Bool := (Za a).bind fun x => (Za b).map fun y => f x y
noncomputable def isBytes : PV -> Bool | .bytes _ => true | _ => false
noncomputable def leOf (a b : PV) : Option Bool := match a with
 | .str x => (Oq b).map fun y => !(decide (y.cps.toList < x.cps.toList))
 | a => cmp2 a b fun x y => decide (x ≤ y)
noncomputable def cmpop (op : CmpOp) (a b : PV) (U : St) : Option Bool := match op with
 | .Eq => eqv U JL a b
 | .NotEq => if isBytes a then .none else (eqv U JL a b).map (! ·)
 | .Is => if isNone b then some (isNone a) else .none
 | .IsNot => if isNone b then some (!isNone a) else .none
 | .In => isIn a b U
 | .NotIn => (isIn a b U).map (! ·)
 | .LtE => leOf a b
 | .Lt => cmp2 a b fun x y => decide (x < y)
 | .Gt => cmp2 a b fun x y => decide (x > y)
 | .GtE => cmp2 a b fun x y => decide (x ≥ y)
noncomputable def cmpR (op : CmpOp) (a b : PV) (U : St) : R Bool := match cmpop op a b U with
 | some r => .ok r U
 | .none => .stuck
noncomputable def mapO {β : Type} (f : PV -> Option β) : List PV -> Option (List β)
 | [] => some []
 | v :: r => (f v).bind fun x => (mapO f r).map (x :: ·)
noncomputable def OM : List PV -> Option (List Str) := mapO Oq
noncomputable def Ur : List PV -> Option (List Int) := mapO Za
noncomputable def Gy {α : Type} (lt : α -> α -> Bool) (x : α) : List α -> List α
 | [] => [x]
 | y :: r => if lt x y then x :: y :: r else y :: Gy lt x r
noncomputable def YJ {α : Type} (lt : α -> α -> Bool) : List α -> List α
 | [] => []
 | x :: r => Gy lt x (YJ lt r)
noncomputable def sltI (x y : Int) : Bool := decide (x < y)
noncomputable def Of (x y : Str) : Bool := decide (x.cps.toList < y.cps.toList)
noncomputable def Yy (U : St) (v : PV) : Option (List PV) := match v with
 | .tup xs => some xs
 | .loc l => Ul U[l]?
 | _ => .none
noncomputable def YN : List PV -> Option (List Bool) := mapO asBool
noncomputable def isInt : PV -> Bool | .int _ => true | .bool _ => true | _ => false
noncomputable def isBool : PV -> Bool | .bool _ => true | _ => false
noncomputable def isTuple : PV -> Bool | .tup _ => true | _ => false
noncomputable def JO (U : St) : PV -> Bool
 | .loc l => isLs U[l]?
 | _ => true
noncomputable def lenO (U : St) (o : Option PO) : R PV := match o with
 | some (.list xs) => if Jp xs.length then .ok (.int xs.length) U else .stuck
 | some (.dict es) => if Jp es.length then .ok (.int es.length) U else .stuck
 | _ => .stuck
noncomputable def biLen (U : St) : PV -> R PV
 | .str x => if Jp x.length then .ok (.int x.length) U else .stuck
 | .tup xs => if Jp xs.length then .ok (.int xs.length) U else .stuck
 | .loc l => lenO U U[l]?
 | _ => .stuck
noncomputable def lstR (U : St) (v : PV) (f : List PV -> R PV) : R PV := optR (UD v) fun l => optR (Ul U[l]?) f
noncomputable def biList (U : St) : PV -> R PV
 | .tup xs => if Jp xs.length then JT (.list xs) U else .stuck
 | .loc l => optR (dictOf U[l]?) fun es => if Jp es.length then JT (.list (es.map (·.1))) U else .stuck
 | _ => .stuck
noncomputable def tupR (U : St) (v : PV) : R PV := match v with
 | .tup xs => .ok (.tup xs) U
 | v => lstR U v fun xs => if Jp xs.length then .ok (.tup xs) U else .stuck
noncomputable def UB (v : PV) (f : Int -> R PV) : R PV := optR (Za v) f
noncomputable def JY (xs : List PV) : Option (List PV) := match Ur xs with
 | some ns => some ((YJ sltI ns).map .int)
 | .none => (OM xs).map fun ss => (YJ Of ss).map .str
noncomputable def UK (i : Int) : Str := Str.ofString (toString i)
noncomputable def ordR (v : PV) (U : St) : R PV := optR (Oq v) fun x => match x.cps.toList with
  | [c] => .ok (.int c) U
  | _ => .stuck
noncomputable def bi1 (b : Bi) (v : PV) (U : St) : R PV := match b with
 | .len => biLen U v
 | .sorted => lstR U v fun xs => if xs.length ≤ 60 then optR (JY xs) fun ys => JT (.list ys) U else .stuck
 | .list => biList U v
 | .tuple => tupR U v
 | .all => lstR U v fun xs => if Jp xs.length then optR (YN xs) fun bs => .ok (.bool (bs.all id)) U else .stuck
 | .any => lstR U v fun xs => if Jp xs.length then optR (YN xs) fun bs => .ok (.bool (bs.any id)) U else .stuck
 | .ord => ordR v U
 | .chr => UB v fun i => if 0 ≤ i /\ i < 128 then .ok (.str ⟨#[i.toNat]⟩) U else .stuck
 | .str => UB v fun i => if 0 ≤ i /\ i < 10000 then .ok (.str (UK i)) U else .stuck
 | .abs => UB v fun i => .ok (.int i.natAbs) U
 | .int => UB v fun i => .ok (.int i) U
 | .isStr => if JO U v then .ok (.bool (isStr v)) U else .stuck
 | .isInt => if JO U v then .ok (.bool (isInt v)) U else .stuck
 | .isBool => if JO U v then .ok (.bool (isBool v)) U else .stuck
 | .isBytes => if JO U v then .ok (.bool (isBytes v)) U else .stuck
 | .isTuple => if JO U v then .ok (.bool (isTuple v)) U else .stuck
noncomputable def builtin (b : Bi) (args : List PV) (U : St) : R PV := match args with
 | [v] => bi1 b v U
 | _ => .stuck
noncomputable def strR (v : PV) (f : Str -> R PV) : R PV := optR (Oq v) f
noncomputable def oneR (args : List PV) (f : PV -> R PV) : R PV := match args with
 | [v] => f v
 | _ => .stuck
noncomputable def nilR (args : List PV) (m : R PV) : R PV := match args with
 | [] => m
 | _ => .stuck
noncomputable def methS (m : Mi) (x : Str) (args : List PV) (U : St) : R PV := match m with
 | .split => oneR args fun v => strR v fun y => if (y.length == 0) = false /\ Jp x.length /\ Jp (Txt.split x y).length then JT (.list ((Txt.split x y).map .str)) U else .stuck
 | .lower => nilR args (if Jp x.length then .ok (.str (Txt.lower x)) U else .stuck)
 | .find => oneR args fun v => strR v fun y => .ok (.int (Txt.find x y)) U
 | .join => oneR args fun v => lstR U v fun xs => optR (OM xs) fun ss => if JoinOk x ss then .ok (.str (Txt.join x ss)) U else .stuck
 | .append => .stuck
noncomputable def appR (l : Nat) (o : Option PO) (args : List PV) (U : St) : R PV := optR (Ul o) fun xs => oneR args fun v => if Jp xs.length then .ok .none (U.set l (.list (xs ++ [v]))) else .stuck
noncomputable def isApp : Mi -> Bool | .append => true | _ => false
noncomputable def Gm (m : Mi) (o : PV) (args : List PV) (U : St) : R PV := match o with
 | .str x => methS m x args U
 | .loc l => if isApp m then appR l U[l]? args U else .stuck
 | _ => .stuck
noncomputable def Gn (m : Mi) (o : PV) (U : St) : Bool := match o with
 | .str _ => !isApp m
 | .loc l => isApp m && isLs U[l]?
 | _ => false
noncomputable def subStr (x : Str) (i : PV) (U : St) : R PV := UB i fun k => if Jp x.length /\ k.natAbs ≤ 1000000 then optR ((seqIndex? k x.length).bind (x.cps[·]?)) fun c => .ok (.str ⟨#[c]⟩) U else .stuck
noncomputable def subTup (xs : List PV) (i : PV) (U : St) : R PV := UB i fun k => if k.natAbs ≤ 1000000 then optR ((seqIndex? k xs.length).bind (xs[·]?)) fun v => .ok v U else .stuck
noncomputable def subObj (o : Option PO) (i : PV) (U : St) : R PV := match o with
 | some (.list xs) => UB i fun k => if 0 ≤ k /\ k ≤ 1000000 then optR xs[k.toNat]? fun v => .ok v U else .stuck
 | some (.dict es) => if Jt i es then optR (dget i es) fun v => .ok v U else .stuck
 | _ => .stuck
noncomputable def KV (o i : PV) (U : St) : R PV := match o with
 | .str x => subStr x i U
 | .tup xs => subTup xs i U
 | .loc l => subObj U[l]? i U
 | _ => .stuck
noncomputable def ZS : Option PV -> Option (Option Int)
 | .none => some .none
 | some v => (Za v).bind fun k => if k.natAbs ≤ 1000000 then some (some k) else .none
noncomputable def sliO (o : Option PO) (a b : Option Int) (U : St) : R PV := match o with
 | some (.frz xs) => if Jp xs.length then JT (.list (OP xs a b)) U else .stuck
 | some (.list xs) => if Jp xs.length then JT (.list (OP xs a b)) U else .stuck
 | _ => .stuck
noncomputable def UM (o : PV) (lo hi : Option PV) (U : St) : R PV := optR (ZS lo) fun a => optR (ZS hi) fun b => match o with
 | .tup xs => if Jp xs.length then .ok (.tup (OP xs a b)) U else .stuck
 | .loc l => sliO U[l]? a b U
 | _ => .stuck
noncomputable def ND : Nat := 15
noncomputable def NC : Nat := 3
noncomputable def KJ (o : PV) (a : Nat) (U : St) : R PV := optR (UD o) fun l => optR (Zl U[l]?) fun p => if a < ND then optR (p.2.lookup a) fun v => .ok v U else .stuck
noncomputable def putF (a : Nat) (v : PV) : List (Nat × PV) -> List (Nat × PV)
 | [] => [(a, v)]
 | e :: r => if e.1 == a then (e.1, v) :: r else e :: putF a v r
noncomputable def KB (o : PV) (a : Nat) (v : PV) (U : St) : R Unit := optR (UD o) fun l => optR (Zl U[l]?) fun p => if a < ND then .ok () (U.set l (.inst p.1 (putF a v p.2))) else .stuck
noncomputable def setObj (l : Nat) (o : Option PO) (i v : PV) (U : St) : R Unit := match o with
 | some (.list xs) => optR (Za i) fun k => if 0 ≤ k /\ k.toNat < xs.length /\ k ≤ 1000000 then .ok () (U.set l (.list (xs.set k.toNat v))) else .stuck
 | some (.dict es) => if Jt i es /\ es.length ≤ 100000 then .ok () (U.set l (.dict (Ob i v es))) else .stuck
 | _ => .stuck
noncomputable def KA (o i v : PV) (U : St) : R Unit := optR (UD o) fun l => setObj l U[l]? i v U
noncomputable def YD (x : Str) : List PV := x.cps.toList.map fun c => .str ⟨#[c]⟩
noncomputable def ZP (x : Str) : Bool := x.cps.all (· < 128)
inductive Src where
 | imm (xs : List PV)
 | lst (l : Nat)
 | zip (xs : List PV) (k : Nat)
noncomputable def src0 (v : PV) (U : St) : R Src := match v with
 | .tup xs => .ok (.imm xs) U
 | .str x => if ZP x then .ok (.imm (YD x)) U else .stuck
 | .loc l => if isLs U[l]? then .ok (.lst l) U else .stuck
 | _ => .stuck
noncomputable def src1 (v : PV) (U : St) : R Src := match v with
 | .int n => if 0 ≤ n /\ n ≤ 100000 then .ok (.imm ((List.range n.toNat).map fun (i : Nat) => PV.int i)) U else .stuck
 | _ => .stuck
noncomputable def src2 (v w : PV) (U : St) : R Src := optR (asTup v) fun xs => optR (Oq w) fun y => if ZP y then .ok (.zip ((xs.zip (YD y)).map fun p => .tup [p.1, p.2]) U.length) (U ++ [.junk]) else .stuck
noncomputable def Zd (kind : Nat) (vs : List PV) (U : St) : R Src := match kind with
 | 0 => (match vs with
  | [v] => src0 v U
  | _ => .stuck)
 | 1 => (match vs with
  | [v] => src1 v U
  | _ => .stuck)
 | 2 => (match vs with
  | [v, w] => src2 v w U
  | _ => .stuck)
 | _ => .stuck
noncomputable def OD {α : Type} : R α -> R α
 | .exc _ _ => .stuck
 | r => r
section
variable {α : Type}
noncomputable def loopI (body : PV -> α -> St -> R (Sum α PV)) : List PV -> α -> St -> R (Sum α PV)
 | [], a, U => .ok (.inl a) U
 | x :: xs, a, U => (body x a U).bind fun r U => match r with
   | .inl a => loopI body xs a U
   | .inr v => .ok (.inr v) U
noncomputable def Gr {β : Type} (o : Option PO) (m : R β) : R β := match o with
 | some .junk => m
 | _ => .stuck
noncomputable def lstO {β : Type} (o : Option PO) (f : List PV -> R β) : R β := match o with
 | some (.list xs) => f xs
 | _ => .stuck
noncomputable def endO {β : Type} (o : Option PV) (m : R β) (f : PV -> R β) : R β := match o with
 | .none => m
 | some x => f x
noncomputable def Kh (body : PV -> α -> St -> R (Sum α PV)) (l : Nat) : List PV -> α -> St -> R (Sum α PV)
 | [], a, U => Gr U[l]? (.ok (.inl a) U)
 | x :: xs, a, U => Gr U[l]? ((body x a U).bind fun r U => match r with
   | .inl a => Kh body l xs a U
   | .inr v => .ok (.inr v) U)
noncomputable def Kj (body : PV -> α -> St -> R (Sum α PV)) (l : Nat) : Nat -> Nat -> α -> St -> R (Sum α PV)
 | 0, _, _, _ => .stuck
 | k + 1, i, a, U => lstO U[l]? fun xs => endO xs[i]? (.ok (.inl a) U) fun x => (body x a U).bind fun r U => match r with
   | .inl a => Kj body l k (i + 1) a U
   | .inr v => .ok (.inr v) U
end
noncomputable def loopFuel : Nat := 2000
noncomputable def Jy {α : Type} (body : PV -> α -> St -> R (Sum α PV)) (s : Src) (a : α) (U : St) : R (Sum α PV) := match s with
 | .imm xs => loopI body xs a U
 | .lst l => Kj body l loopFuel 0 a U
 | .zip xs l => Kh body l xs a U
structure Tb where
 F : Nat -> List PV -> St -> R PV
 ME : Nat -> Nat -> Option Nat
 IN : Nat -> Option Nat
noncomputable def OO (fr : Fr) : List Nat -> List PV -> Option Fr
 | [], [] => some fr
 | i :: is, v :: vs => if i < fr.length then OO (fr.set i (some v)) is vs else .none
 | _, _ => .none
noncomputable def Zp (fr : Fr) (tgt : List Nat) (isTup : Bool) (v : PV) : Option Fr :=
 if isTup then (match v with
  | .tup vs => OO fr tgt vs
  | _ => .none)
 else (match tgt with
  | [i] => OO fr [i] [v]
  | _ => .none)
section
variable (ev : IE -> St -> R PV)
noncomputable def Jo : List IE -> St -> R (List PV)
 | [], U => .ok [] U
 | e :: es, U => (ev e U).bind fun v U => (Jo es U).bind fun vs U => .ok (v :: vs) U
noncomputable def OR : List (IE × IE) -> St -> R (List (PV × PV))
 | [], U => .ok [] U
 | e :: es, U => (ev e.1 U).bind fun k U => (ev e.2 U).bind fun v U => (OR es U).bind fun vs U => .ok ((k, v) :: vs) U
noncomputable def Kn : Option IE -> St -> R (Option PV)
 | .none, U => .ok .none U
 | some e, U => (ev e U).bind fun v U => .ok (some v) U
noncomputable def Yo (a : PV) : List (CmpOp × IE) -> St -> R Bool
 | [], _ => .stuck
 | [p], U => (ev p.2 U).bind fun b U => cmpR p.1 a b U
 | p :: q :: r, U => (ev p.2 U).bind fun b U => (cmpR p.1 a b U).bind fun t U => if t then Yo b (q :: r) U else .ok false U
noncomputable def evBop (isAnd : Bool) : List IE -> St -> R PV
 | [], _ => .stuck
 | [e], U => ev e U
 | e :: f :: r, U => (ev e U).bind fun v U => (Kt v U).bind fun t U => if t == isAnd then evBop isAnd (f :: r) U else .ok v U
variable (ec : IE -> St -> R Bool)
noncomputable def evAll (isAnd : Bool) : List IE -> St -> R Bool
 | [], U => .ok isAnd U
 | e :: r, U => (ec e U).bind fun t U => if t == isAnd then evAll isAnd r U else .ok t U
noncomputable def evIfs : List IE -> St -> R Bool
 | [], U => .ok true U
 | e :: r, U => (ec e U).bind fun t U => if t then evIfs r U else .ok false U
end
noncomputable def Oo : List (PV × PV) -> List (PV × PV) -> Option (List (PV × PV))
 | acc, [] => some acc
 | acc, e :: r => if Jt e.1 acc then Oo (Ob e.1 e.2 acc) r else .none
noncomputable def umE (T : Tb) (args : St -> R (List PV)) (m : Nat) (x : PV) (U : St) : R PV := optR (UD x) fun l => optR (Zl U[l]?) fun p => optR (T.ME p.1 m) fun f => if (p.2.lookup m).isNone then (args U).bind fun vs U => T.F f (x :: vs) U else .stuck
noncomputable def emL (ev : Fr -> IE -> St -> R PV) (ielt : IE) (fr : Fr) (acc : List PV) (U : St) : R (List PV) := (ev fr ielt U).bind fun v U => if Jp acc.length then .ok (acc ++ [v]) U else .stuck
noncomputable def emD (ev : Fr -> IE -> St -> R PV) (ielt iv : IE) (fr : Fr) (acc : List (PV × PV)) (U : St) : R (List (PV × PV)) := (ev fr ielt U).bind fun k U => (ev fr iv U).bind fun v U => if Jt k acc /\ acc.length ≤ 100000 then .ok (Ob k v acc) U else .stuck
noncomputable def YC (ev : Fr -> IE -> St -> R PV) (kind : Nat) (its : List IE) (fr : Fr) (U : St) : R Src := (Jo (ev fr) its U).bind fun vs U => Zd kind vs U
noncomputable def Jq {α : Type} (ec : Fr -> IE -> St -> R Bool) (em : Fr -> α -> St -> R α) (tgt : List Nat) (isTup : Bool) (ifs : List IE) (x : PV) (p : Fr × α) (U : St) : R (Sum (Fr × α) PV) := match Zp p.1 tgt isTup x with
 | .none => .stuck
 | some fr' => (evIfs (ec fr') ifs U).bind fun t U => if t then (em fr' p.2 U).bind fun a U => .ok (.inl (fr', a)) U else .ok (.inl (fr', p.2)) U
noncomputable def compEnd {α : Type} (po : α -> PO) (r : Sum (Fr × α) PV) (U : St) : R PV := match r with
 | .inl p => JT (po p.2) U
 | .inr _ => .stuck
noncomputable def OZ {α : Type} (ec : Fr -> IE -> St -> R Bool) (em : Fr -> α -> St -> R α) (po : α -> PO) (a0 : α) (tgt : List Nat) (isTup : Bool) (iifs : List IE) (fsrc : Fr -> St -> R Src) (base width : Nat) (fr : Fr) (U : St) : R PV :=
 OD (if fr.length = base then (fsrc fr U).bind fun src U => (Jy (Jq ec em tgt isTup iifs) src (fr ++ List.replicate width none, a0) U).bind (compEnd po) else .stuck)
noncomputable def JK (evT : Fr -> IT -> PV -> St -> R Fr) (evSs : Fr -> List IS -> St -> R Fl) (t : IT) (b : List IS) (x : PV) (fr : Fr) (U : St) : R (Sum Fr PV) := (evT fr t x U).bind fun fr U => (evSs fr b U).bind fun fl U => match fl with
 | .next fr => .ok (.inl fr) U
 | .ret v => .ok (.inr v) U
noncomputable def forEnd (r : Sum Fr PV) (U : St) : R Fl := match r with
 | .inl fr => .ok (.next fr) U
 | .inr v => .ok (.ret v) U
noncomputable def noneR (r : PV) (m : R PV) : R PV := match r with
 | .none => m
 | _ => .stuck
mutual
noncomputable def evE (T : Tb) : Nat -> Fr -> IE -> St -> R PV
 | 0, _, _, _ => .stuck
 | n + 1, fr, e, U => match e with
  | .cst v => .ok v U
  | .var i => match fr[i]? with
    | some (some v) => .ok v U
    | _ => .stuck
  | .neg e => (evE T n fr e U).bind fun v U => match v with
    | .int i => .ok (.int (-i)) U
    | _ => .stuck
  | .not e => (evE T n fr e U).bind fun v U => (Kt v U).bind fun b U => .ok (.bool (!b)) U
  | .bop isAnd es => evBop (evE T n fr) isAnd es U
  | .ite c t e => (evC T n fr c U).bind fun b U => if b then evE T n fr t U else evE T n fr e U
  | .bin op a b => (evE T n fr a U).bind fun x U => (evE T n fr b U).bind fun y U => binop op x y U
  | .cmp a rest => (evE T n fr a U).bind fun x U => (Yo (evE T n fr) x rest U).bind fun b U => .ok (.bool b) U
  | .list es => (Jo (evE T n fr) es U).bind fun vs U => if Jp vs.length then JT (.list vs) U else .stuck
  | .tup es => (Jo (evE T n fr) es U).bind fun vs U => if Jp vs.length then .ok (.tup vs) U else .stuck
  | .dict kvs => if kvs.length ≤ 15 then (OR (evE T n fr) kvs U).bind fun ps U => match Oo [] ps with
    | some es => JT (.dict es) U
    | .none => .stuck
   else .stuck
  | .call f es => (Jo (evE T n fr) es U).bind fun vs U => T.F f vs U
  | .new c es => (Jo (evE T n fr) es U).bind fun vs U => match (if c < NC then T.IN c else .none) with
    | some f => (JT (.inst c []) U).bind fun o U => (T.F f (o :: vs) U).bind fun r U => noneR r (.ok o U)
    | .none => .stuck
  | .blt b es => (Jo (evE T n fr) es U).bind fun vs U => builtin b vs U
  | .meth m o es => (evE T n fr o U).bind fun x U => if Gn m x U then (Jo (evE T n fr) es U).bind fun vs U => Gm m x vs U else .stuck
  | .umeth m o es => (evE T n fr o U).bind fun x U => umE T (Jo (evE T n fr) es) m x U
  | .attr o a => (evE T n fr o U).bind fun x U => KJ x a U
  | .sub o i => (evE T n fr o U).bind fun x U => (evE T n fr i U).bind fun y U => KV x y U
  | .slice o lo hi => (evE T n fr o U).bind fun x U => (Kn (evE T n fr) lo U).bind fun a U => (Kn (evE T n fr) hi U).bind fun b U => UM x a b U
  | .comp elt val tgt isTup kind its ifs base width => match val with
    | .none => OZ (evC T n) (emL (evE T n) elt) .list [] tgt isTup ifs (YC (evE T n) kind its) base width fr U
    | some v => OZ (evC T n) (emD (evE T n) elt v) .dict [] tgt isTup ifs (YC (evE T n) kind its) base width fr U
noncomputable def evC (T : Tb) : Nat -> Fr -> IE -> St -> R Bool
 | 0, _, _, _ => .stuck
 | n + 1, fr, e, U => match e with
  | .not e => (evC T n fr e U).bind fun b U => .ok (!b) U
  | .bop isAnd es => evAll (evC T n fr) isAnd es U
  | .ite c t e => (evC T n fr c U).bind fun b U => if b then evC T n fr t U else evC T n fr e U
  | .cmp a rest => (evE T n fr a U).bind fun x U => Yo (evE T n fr) x rest U
  | e => (evE T n fr e U).bind fun v U => Kt v U
end
mutual
noncomputable def evT (T : Tb) : Nat -> Fr -> IT -> PV -> St -> R Fr
 | 0, _, _, _, _ => .stuck
 | n + 1, fr, t, v, U => match t with
  | .name i => if i < fr.length then .ok (fr.set i (some v)) U else .stuck
  | .tup ts => match Yy U v with
    | some vs => if ts.length = vs.length then evTs T n fr ts vs U else .stuck
    | .none => .stuck
  | .attr o a => (evE T n fr o U).bind fun x U => (KB x a v U).bind fun _ U => .ok fr U
  | .sub o i => (evE T n fr o U).bind fun x U => (evE T n fr i U).bind fun y U => (KA x y v U).bind fun _ U => .ok fr U
noncomputable def evTs (T : Tb) : Nat -> Fr -> List IT -> List PV -> St -> R Fr
 | 0, _, _, _, _ => .stuck
 | n + 1, fr, ts, vs, U => match ts, vs with
  | [], [] => .ok fr U
  | t :: ts, v :: vs => (evT T n fr t v U).bind fun fr U => evTs T n fr ts vs U
  | _, _ => .stuck
end
noncomputable def whileFuel : Nat := 100
noncomputable def flE (f : Fr -> St -> R Fl) (fl : Fl) (U : St) : R Fl := match fl with
 | .next fr => f fr U
 | .ret v => .ok (.ret v) U
noncomputable def Ki (test : Fr -> St -> R Bool) (body : Fr -> St -> R Fl) : Nat -> Fr -> St -> R Fl
 | 0, _, _ => .stuck
 | k + 1, fr, U => (test fr U).bind fun b U => if b then (body fr U).bind (flE (Ki test body k)) else .ok (.next fr) U
noncomputable def Yk (fr : Fr) (i : Nat) (v : PV) (f : Fr -> St -> R Fl) (U : St) : R Fl := if i < fr.length then f (fr.set i (some v)) U else .stuck
noncomputable def tryR (m : R PV) (f : PV -> St -> R Fl) (c : Nat) (h : St -> R Fl) : R Fl := match m with
 | .ok v U => OD (f v U)
 | .exc c' U => if c = c' then h U else .stuck
 | .stuck => .stuck
noncomputable def twoR (o : Option (List PV)) (f : PV -> PV -> R Fl) : R Fl := match o with
 | some [v1, v2] => f v1 v2
 | _ => .stuck
noncomputable def setTwo (fr : Fr) (i j : Nat) (U : St) (v1 v2 : PV) : R Fl := if i < fr.length /\ j < fr.length then .ok (.next ((fr.set i (some v1)).set j (some v2))) U else .stuck
mutual
noncomputable def evS (T : Tb) : Nat -> Fr -> IS -> St -> R Fl
 | 0, _, _, _ => .stuck
 | n + 1, fr, s, U => match s with
  | .expr e => (evE T n fr e U).bind fun _ U => .ok (.next fr) U
  | .ret e => (evE T n fr e U).bind fun v U => .ok (.ret v) U
  | .asg t e => (evE T n fr e U).bind fun v U => (evT T n fr t v U).bind fun fr U => .ok (.next fr) U
  | .ife c t e => (evC T n fr c U).bind fun b U => if b then evSs T n fr t U else evSs T n fr e U
  | .forr t kind its b => (YC (evE T n) kind its fr U).bind fun src U => (Jy (JK (evT T n) (evSs T n) t b) src fr U).bind forEnd
  | .raise c => .exc c U
  | .whl c b => OD (Ki (fun fr U => evC T n fr c U) (fun fr U => evSs T n fr b U) whileFuel fr U)
  | .asg2 i j e => (evE T n fr e U).bind fun v U => twoR (Yy U v) (setTwo fr i j U)
  | .tryn b => OD (evSs T n fr b U)
  | .tryx i e b c j v => tryR (evE T n fr e U) (fun x U => Yk fr i x (fun fr U => evSs T n fr b U) U) c fun U => Yk fr j v (fun fr U => .ok (.next fr) U) U
noncomputable def evSs (T : Tb) : Nat -> Fr -> List IS -> St -> R Fl
 | 0, _, _, _ => .stuck
 | n + 1, fr, ss, U => match ss with
  | [] => .ok (.next fr) U
  | s :: ss => (evS T n fr s U).bind fun fl U => match fl with
    | .next fr => evSs T n fr ss U
    | .ret v => .ok (.ret v) U
end
structure Fn where
 nargs : Nat
 width : Nat
 body : List IS
noncomputable def OY : Nat := 200
noncomputable def Yj (T : Tb) (f : Fn) (args : List PV) (U : St) : R PV :=
 if args.length = f.nargs /\ f.nargs ≤ f.width then
  match evSs T OY (args.map some ++ List.replicate (f.width - f.nargs) .none) f.body U with
  | .ok (.ret v) U => .ok v U
  | .ok (.next _) U => .ok .none U
  | .exc c U => .exc c U
  | .stuck => .stuck
 else .stuck
end Mine
end
namespace Mine
open PySem PySem.W PyProof.Rows
section
abbrev Rho := List (Addr × Option Addr)
noncomputable def Jk (p : Addr × Option Addr) : List Addr := p.1 :: p.2.toList
noncomputable def Je (Z : Rho) : List Addr := Z.flatMap Jk
theorem Yl (Z τ : Rho) : Je (Z ++ τ) = Je Z ++ Je τ := by simp [Je]
theorem Ov {Z : Rho} {i : Nat} {p : Addr × Option Addr} (h : Z[i]? = some p) : p.1 ∈ Je Z :=
 List.mem_flatMap.mpr ⟨p, List.mem_of_getElem? h, by simp [Jk]⟩
theorem mem_owned_snd {Z : Rho} {i : Nat} {p : Addr × Option Addr} {d : Addr} (h : Z[i]? = some p) (e : p.2 = some d) : d ∈ Je Z :=
 List.mem_flatMap.mpr ⟨p, List.mem_of_getElem? h, by simp [Jk, e]⟩
structure Cx where
 prog : Program
 w : World
 base : Heap
 attrs : List Str
 cls : Nat -> Addr
 fzo : Obj
 fa : Nat -> Addr
 tabP : Addr
 mg : Str -> Option Value
 mb : Str -> Option Value
 gns : base.Ns mainGlobals mg
 bns : base.Ns builtinsNs mb
 boot : ∀ x v, bootBuiltins x = some v -> x ≠ "__name__" -> mb x = some v
 K : Frag
 kin : K.In base
 attrLen : ND ≤ attrs.length
 attrShort : attrs.length ≤ 1000
 attrNodup : attrs.Nodup
 getOk : ∀ c a n, c < NC -> a < ND -> attrs[a]? = some n -> plainGet K (cls c) n = true /\ hasDictIn K (cls c) = true /\ ∃ attr, findIn K (.ref (cls c)) n = some attr /\ noGet K attr = true
 setOk : ∀ c a n, c < NC -> a < ND -> attrs[a]? = some n -> findIn K (.ref (cls c)) "__setattr__" = some (some (.builtin "object.__setattr__")) /\ plainOver K (cls c) = true /\ takerIn K (cls c) n = some none
mutual
inductive VRep (h : Heap) (Z : Rho) : PV -> Value -> Prop
 | none : VRep h Z .none .none
 | bool (b : Bool) : VRep h Z (.bool b) (.bool b)
 | int (i : Int) (t : Tok) : VRep h Z (.int i) (.int i t)
 | str (x : Str) (t : Tok) : VRep h Z (.str x) (.str x t)
 | bytes (b : Array UInt8) (t : Tok) : VRep h Z (.bytes b) (.bytes b t)
 | tup {a : Addr} {items : Array Value} {l : List PV} : h.IsTuple a items -> a ∉ Je Z -> VReps h Z l items.toList -> VRep h Z (.tup l) (.ref a)
 | loc {i : Nat} {p : Addr × Option Addr} : Z[i]? = some p -> VRep h Z (.loc i) (.ref p.1)
inductive VReps (h : Heap) (Z : Rho) : List PV -> List Value -> Prop
 | nil : VReps h Z [] []
 | cons {v : PV} {u : Value} {vs : List PV} {us : List Value} : VRep h Z v u -> VReps h Z vs us -> VReps h Z (v :: vs) (u :: us)
end
noncomputable def VI (h : Heap) (Z : Rho) (v : PV) (u : Value) : Prop := match v with
 | .none => u = .none
 | .bool b => u = .bool b
 | .int i => ∃ t, u = .int i t
 | .str x => ∃ t, u = .str x t
 | .bytes b => ∃ t, u = .bytes b t
 | .tup l => ∃ a items, u = .ref a /\ h.IsTuple a items /\ a ∉ Je Z /\ VReps h Z l items.toList
 | .loc i => ∃ p, u = .ref p.1 /\ Z[i]? = some p
theorem VRep.inv {h : Heap} {Z : Rho} {v : PV} {u : Value} (r : VRep h Z v u) : VI h Z v u :=
 VRep.casesOn (motive_1 := fun v u _ => VI h Z v u) r rfl (fun _ => rfl) (fun _ t => ⟨t, rfl⟩) (fun _ t => ⟨t, rfl⟩) (fun _ t => ⟨t, rfl⟩) (fun h n r => ⟨_, _, rfl, h, n, r⟩) fun hp => ⟨_, rfl, hp⟩
noncomputable def VU (h : Heap) (Z : Rho) (u : Value) (v : PV) : Prop := match u with
 | .none => v = .none
 | .bool b => v = .bool b
 | .int i _ => v = .int i
 | .str x _ => v = .str x
 | .bytes b _ => v = .bytes b
 | .ref a => (∃ l items, v = .tup l /\ h.IsTuple a items /\ a ∉ Je Z /\ VReps h Z l items.toList) \/ ∃ i p, v = .loc i /\ Z[i]? = some p /\ p.1 = a
 | _ => False
theorem VRep.invU {h : Heap} {Z : Rho} {v : PV} {u : Value} (r : VRep h Z v u) : VU h Z u v :=
 VRep.casesOn (motive_1 := fun v u _ => VU h Z u v) r rfl (fun _ => rfl) (fun _ _ => rfl) (fun _ _ => rfl) (fun _ _ => rfl) (fun h n r => .inl ⟨_, _, rfl, h, n, r⟩) fun hp => .inr ⟨_, _, rfl, hp, rfl⟩
structure Step (W fs : List Addr) (Z Z' : Rho) (h h' : Heap) : Prop where
 pre : ∃ τ, Z' = Z ++ τ
 keep : ∀ a o, h.get? a = some o -> a ∉ Je Z -> a ∉ W -> (a ∉ fs -> h'.get? a = some o) /\ ∃ sl, h'.get? a = some { o with slots := sl }
 there : ∀ a o, h.get? a = some o -> a ∉ W -> ∃ o', h'.get? a = some o'
 fresh : ∀ a, a ∈ Je Z' -> a ∈ Je Z \/ h.get? a = none
 apart : ∀ a, a ∈ W -> a ∈ Je Z' -> a ∈ Je Z
section
variable {W W' fs : List Addr} {Z Z' Z'' : Rho} {h h' h'' : Heap}
theorem Step.refl : Step W fs Z Z h h := ⟨⟨[], by simp⟩, fun _ o e _ _ => ⟨fun _ => e, o.slots, e⟩, fun _ o e _ => ⟨o, e⟩, fun _ q => .inl q, fun _ _ q => q⟩
theorem Step.offNew (S : Step W fs Z Z' h h') {a : Addr} {o : Obj} (e : h.get? a = some o) (n : a ∉ Je Z) : a ∉ Je Z' := fun q => by
 rcases S.fresh a q with q | q
 ·exact n q
 ·rw [e] at q; cases q
theorem Step.trans (S : Step W fs Z Z' h h') (T : Step W fs Z' Z'' h' h'') : Step W fs Z Z'' h h'' := by
 refine ⟨?_, fun a o e n nw => ?_, fun a o e nw => ?_, fun a q => ?_, fun a w q => S.apart a w (T.apart a w q)⟩
 ·obtain ⟨τ, rfl⟩ := S.pre
  obtain ⟨τ', rfl⟩ := T.pre
  exact ⟨τ ++ τ', by simp⟩
 ·have n' := S.offNew e n
  obtain ⟨k1, sl, k2⟩ := S.keep a o e n nw
  refine ⟨fun nf => ?_, ?_⟩
  ·exact (T.keep a o (k1 nf) n' nw).1 nf
  ·obtain ⟨_, sl', k3⟩ := T.keep a _ k2 n' nw
   exact ⟨sl', k3⟩
 ·obtain ⟨o', e'⟩ := S.there a o e nw
  exact T.there a o' e' nw
 ·rcases T.fresh a q with q1 | q1
  ·exact S.fresh a q1
  ·by_cases w : a ∈ W
   ·exact .inl (S.apart a w (T.apart a w q))
   ·right
    cases e : h.get? a with
    | none => rfl
    | some o => obtain ⟨o', e'⟩ := S.there a o e w; rw [e'] at q1; cases q1
theorem Step.mono (S : Step W fs Z Z' h h') (hW : ∀ a, a ∈ W -> a ∈ W') (ht : ∀ a, a ∈ W' -> ∃ o, h.get? a = some o) : Step W' fs Z Z' h h' :=
 ⟨S.pre, fun a o e n nw => S.keep a o e n (fun q => nw (hW a q)), fun a o e nw => S.there a o e fun q => nw (hW a q), S.fresh, fun a w q => by
  rcases S.fresh a q with q | q
  ·exact q
  ·obtain ⟨o, e⟩ := ht a w; rw [e] at q; cases q⟩
theorem Step.of_keeps (k : ∀ b o, h.get? b = some o -> h'.get? b = some o) : Step W fs Z Z h h' :=
 ⟨⟨[], by simp⟩, fun a o e _ _ => ⟨fun _ => k a o e, o.slots, k a o e⟩, fun a o e _ => ⟨o, k a o e⟩, fun _ q => .inl q, fun _ _ q => q⟩
theorem Step.grow (k : ∀ b o, h.get? b = some o -> h'.get? b = some o) {τ : Rho} (hn : ∀ a, a ∈ Je τ -> h.get? a = none) : Step [] fs Z (Z ++ τ) h h' :=
 ⟨⟨τ, rfl⟩, fun a o e _ _ => ⟨fun _ => k a o e, o.slots, k a o e⟩, fun a o e _ => ⟨o, k a o e⟩, fun a q => by
  rw [Yl] at q
  rcases List.mem_append.mp q with q | q
  ·exact .inl q
  ·exact .inr (hn a q), fun _ w => nomatch w⟩
theorem Step.turn {a : Addr} (ha : a ∈ Je Z \/ a ∈ W) (hs : Heap.SameBut a h h') (ht : ∃ o, h'.get? a = some o) : Step W fs Z Z h h' := by
 refine ⟨⟨[], by simp⟩, fun b o e n nw => ?_, fun b o e _ => ?_, fun _ q => .inl q, fun _ _ q => q⟩
 ·have hb : b ≠ a := fun q => by subst q; rcases ha with ha | ha; exact n ha; exact nw ha
  exact ⟨fun _ => (hs.2 b hb).trans e, o.slots, (hs.2 b hb).trans e⟩
 ·by_cases hb : b = a
  ·subst hb; exact ht
  ·exact ⟨o, (hs.2 b hb).trans e⟩
theorem Step.extBut {a : Addr} (ha : a ∈ W) (hs : Heap.ExtBut a h h') : Step W fs Z Z h h' := by
 refine ⟨⟨[], by simp⟩, fun b o e n nw => ?_, fun b o e nw => ?_, fun _ q => .inl q, fun _ _ q => q⟩
 ·have hb : b ≠ a := fun q => by subst q; exact nw ha
  exact ⟨fun _ => hs b o hb e, o.slots, hs b o hb e⟩
 ·exact ⟨o, hs b o (fun q => by subst q; exact nw ha) e⟩
theorem JF (S : Step W fs Z Z' h h') {a : Addr} {items : Array Value} (n : a ∉ Je Z) (nw : a ∉ W) (x : h.IsTuple a items) : h'.IsTuple a items := by
 obtain ⟨o, ho, hc, k, hd⟩ := x
 obtain ⟨_, sl, e⟩ := S.keep a o ho n nw
 exact ⟨_, e, hc, k, hd⟩
theorem isList_step (S : Step W fs Z Z' h h') {a : Addr} {items : Array Value} (n : a ∉ Je Z) (nw : a ∉ W) (x : h.IsList a items) : h'.IsList a items := by
 obtain ⟨o, ho, hc, k, hd⟩ := x
 obtain ⟨_, sl, e⟩ := S.keep a o ho n nw
 exact ⟨_, e, hc, k, hd⟩
noncomputable def JI (W : List Addr) (h : Heap) : Prop := ∀ a, a ∈ W -> ∀ items, ¬ h.IsTuple a items
theorem JR {a : Addr} {items : Array Value} (N : JI W h) (x : h.IsTuple a items) : a ∉ W := fun q => N a q items x
theorem Uo (S : Step W fs Z Z' h h') {i : Nat} {p : Addr × Option Addr} (hi : Z[i]? = some p) : Z'[i]? = some p := by
 obtain ⟨τ, rfl⟩ := S.pre
 rw [List.getElem?_append_left (List.getElem?_eq_some_iff.mp hi).1]
 exact hi
theorem VRep.step (S : Step W fs Z Z' h h') (N : JI W h) {v : PV} {u : Value} (r : VRep h Z v u) : VRep h' Z' v u :=
 VRep.rec (motive_1 := fun v u _ => VRep h' Z' v u) (motive_2 := fun v u _ => VReps h' Z' v u) .none .bool .int .str .bytes
  (fun ht n _ r => .tup (JF S n (JR N ht) ht) (Exists.elim ht fun _ e => S.offNew e.1 n) r) (fun hi => .loc (Uo S hi)) .nil (fun _ _ a r => .cons a r) r
theorem VReps.step (S : Step W fs Z Z' h h') (N : JI W h) {v : List PV} {u : List Value} (r : VReps h Z v u) : VReps h' Z' v u :=
 VReps.rec (motive_1 := fun v u _ => VRep h' Z' v u) (motive_2 := fun v u _ => VReps h' Z' v u) .none .bool .int .str .bytes
  (fun ht n _ r => .tup (JF S n (JR N ht) ht) (Exists.elim ht fun _ e => S.offNew e.1 n) r) (fun hi => .loc (Uo S hi)) .nil (fun _ _ a r => .cons a r) r
theorem Ja : JI [] h := fun _ q => nomatch q
end
section
variable {h h' : Heap} {Z Z' : Rho}
theorem VReps.ind {P : (l : List PV) -> (us : List Value) -> VReps h Z l us -> Prop} (nil : P [] [] .nil) (cons : ∀ {v : PV} {u : Value} {vs : List PV} {us : List Value} (a : VRep h Z v u) (r : VReps h Z vs us), P vs us r -> P (v :: vs) (u :: us) (.cons a r))
  {l : List PV} {us : List Value} (r : VReps h Z l us) : P l us r :=
 VReps.rec (motive_1 := fun _ _ _ => True) (motive_2 := P) trivial (fun _ => trivial) (fun _ _ => trivial) (fun _ _ => trivial) (fun _ _ => trivial) (fun _ _ _ _ => trivial) (fun _ => trivial) nil (fun a r _ ih => cons a r ih) r
theorem VReps.length {l : List PV} {us : List Value} (r : VReps h Z l us) : l.length = us.length := by
 induction r using VReps.ind with
 | nil => rfl
 | cons a r ih => exact congrArg (· + 1) ih
theorem VReps.append {l m : List PV} {us ws : List Value} (r : VReps h Z l us) (k : VReps h Z m ws) : VReps h Z (l ++ m) (us ++ ws) := by
 induction r using VReps.ind with
 | nil => exact k
 | cons a r ih => exact .cons a ih
theorem VReps.get {l : List PV} {us : List Value} (r : VReps h Z l us) : ∀ {i : Nat} {v : PV}, l[i]? = some v -> ∃ u, us[i]? = some u /\ VRep h Z v u := by
 induction r using VReps.ind with
 | nil => exact fun e => nomatch e
 | cons a r ih =>
  intro i v e
  cases i with
  | zero => cases e; exact ⟨_, rfl, a⟩
  | succ i => exact ih e
theorem VReps.getU {l : List PV} {us : List Value} (r : VReps h Z l us) : ∀ {i : Nat} {u : Value}, us[i]? = some u -> ∃ v, l[i]? = some v /\ VRep h Z v u := by
 induction r using VReps.ind with
 | nil => exact fun e => nomatch e
 | cons a r ih =>
  intro i v e
  cases i with
  | zero => cases e; exact ⟨_, rfl, a⟩
  | succ i => exact ih e
theorem VReps.drop {l : List PV} {us : List Value} (r : VReps h Z l us) : ∀ n : Nat, VReps h Z (l.drop n) (us.drop n) := by
 induction r using VReps.ind with
 | nil => intro n; rw [List.drop_nil, List.drop_nil]; exact .nil
 | cons a r ih =>
  intro n
  cases n with
  | zero => exact .cons a r
  | succ n => exact ih n
theorem VReps.take {l : List PV} {us : List Value} (r : VReps h Z l us) : ∀ n : Nat, VReps h Z (l.take n) (us.take n) := by
 induction r using VReps.ind with
 | nil => intro n; rw [List.take_nil, List.take_nil]; exact .nil
 | cons a r ih =>
  intro n
  cases n with
  | zero => exact .nil
  | succ n => exact .cons a (ih n)
theorem VReps.set {l : List PV} {us : List Value} (r : VReps h Z l us) {v : PV} {u : Value} (q : VRep h Z v u) : ∀ n : Nat, VReps h Z (l.set n v) (us.set n u) := by
 induction r using VReps.ind with
 | nil => exact fun _ => .nil
 | cons a r ih =>
  intro n
  cases n with
  | zero => exact .cons q r
  | succ n => exact .cons a (ih n)
theorem VReps.strs : ∀ (ss : List Str) (us : List Value), us.length = ss.length -> (∀ (i : Nat) (x : Str), ss[i]? = some x -> ∃ t, us[i]? = some (Value.str x t)) -> VReps h Z (ss.map PV.str) us := by
 intro ss
 induction ss with
 | nil => intro us e _; cases us with
  | nil => exact .nil
  | cons _ _ => cases e
 | cons x ss ih => intro us e k; cases us with
  | nil => cases e
  | cons u us =>
   obtain ⟨t, q⟩ := k 0 x rfl
   cases q
   exact .cons (.str x t) (ih us (Nat.succ.inj e) fun i y hy => k (i + 1) y hy)
end
inductive KVs (h : Heap) (Z : Rho) {K : Type} (f : K -> PV) : List (PV × PV) -> List (K × Value) -> Prop
 | nil : KVs h Z f [] []
 | cons {k : K} {v : PV} {u : Value} {es : List (PV × PV)} {kvs : List (K × Value)} : VRep h Z v u -> KVs h Z f es kvs -> KVs h Z f ((f k, v) :: es) ((k, u) :: kvs)
inductive KG (prog : Program) (w : World) : (K : Type) -> (dec : DecidableEq K) -> @KeyKind prog w K dec -> (K -> PV) -> Prop
 | str : KG prog w Str inferInstance (strKind prog w) PV.str
 | int : KG prog w Int inferInstance (intKind prog w) PV.int
inductive DRep (X : Cx) (h : Heap) (Z : Rho) (es : List (PV × PV)) (a : Addr) : Prop
 | mk (ns : a ≠ sysModules) {K : Type} [dec : DecidableEq K] {knd : KeyKind X.prog X.w K} {f : K -> PV} (g : KG X.prog X.w K dec knd f) (kvs : List (K × Value)) (d : h.DictOf knd a kvs) (r : KVs h Z f es kvs)
noncomputable def FsRep (X : Cx) (h : Heap) (Z : Rho) (fs : List (Nat × PV)) (m : Str -> Option Value) : Prop :=
 ∀ (k : Nat) (n : Str), X.attrs[k]? = some n -> match fs.lookup k with
  | some v => ∃ u, m n = some u /\ VRep h Z v u
  | none => m n = none
inductive ORep (X : Cx) (h : Heap) (Z : Rho) : PO -> Addr × Option Addr -> Prop
 | list {xs : List PV} {a : Addr} {items : Array Value} : h.PlainList a items -> VReps h Z xs items.toList -> ORep X h Z (.list xs) (a, none)
 | frz {xs : List PV} {a : Addr} {items : Array Value} {n : Nat} : h.get? a = some X.fzo -> X.fzo.cls = .type "list" -> X.fzo.data = .seq items n -> VReps h Z xs items.toList -> ORep X h Z (.frz xs) (a, none)
 | junk {a : Addr} {x y : Value} : h.get? a = some { cls := .type "tuple", data := .seq #[x, y] } -> ORep X h Z .junk (a, none)
 | tab {ks : List (Nat × Nat)} {ps : Array Value} : h.get? X.tabP = some (tabObj ps) -> TriplesOk ps.toList -> (∀ pos : Pos, (pos.line, pos.col) ∉ ks -> codeAmong pos ps.toList = none) -> ORep X h Z (.tab ks) (X.tabP, none)
 | dict {es : List (PV × PV)} {a : Addr} : DRep X h Z es a -> ORep X h Z (.dict es) (a, none)
 | inst {c : Nat} {fs : List (Nat × PV)} {a dx : Addr} {ox : Obj} {m : Str -> Option Value} : c < NC -> h.get? a = some ox -> ox.cls = .ref (X.cls c) -> ox.dict = some dx -> ox.data = .plain ->
   h.Ns1 dx m -> Within m X.attrs -> FsRep X h Z fs m -> ORep X h Z (.inst c fs) (a, some dx)
structure Rp (X : Cx) (Z : Rho) (U : St) (h : Heap) : Prop where
 base : X.base.StaysIn h
 len : Z.length = U.length
 nodup : (Je Z).Nodup
 off : ∀ a, a ∈ Je Z -> X.base.get? a = none
 fz : ∃ xs, U[0]? = some (.frz xs)
 objs : ∀ (i : Nat) (p : Addr × Option Addr) (o : PO), Z[i]? = some p -> U[i]? = some o -> ORep X h Z o p
section
variable {X : Cx} {Z Z' : Rho} {h h' : Heap} {W fs : List Addr}
theorem KVs.step (S : Step W fs Z Z' h h') (N : JI W h) {K : Type} {f : K -> PV} {es : List (PV × PV)} {kvs : List (K × Value)} (r : KVs h Z f es kvs) : KVs h' Z' f es kvs := by
 induction r with
 | nil => exact .nil
 | cons a _ ih => exact .cons (a.step S N) ih
set_option tactic.hygienic true in
theorem FsRep.step (S : Step W fs Z Z' h h') (N : JI W h) {l : List (Nat × PV)} {m : Str -> Option Value} (r : FsRep X h Z l m) : FsRep X h' Z' l m := fun k n e => by
 have q := r k n e
 split
 ·rename_i v hv
  rw [hv] at q
  obtain ⟨u, a, b⟩ := q
  exact ⟨u, a, b.step S N⟩
 ·rename_i hv
  rw [hv] at q
  exact q
theorem own1 {p : Addr × Option Addr} : p.1 ∈ Jk p := List.mem_cons_self
theorem own2 {a d : Addr} : d ∈ Jk (a, some d) := List.mem_cons_of_mem _ List.mem_cons_self
theorem ORep.step (S : Step W fs Z Z' h h') (N : JI W h) {o : PO} {p : Addr × Option Addr} (r : ORep X h Z o p) (k : ∀ a, a ∈ Jk p -> ∀ ob, h.get? a = some ob -> h'.get? a = some ob) : ORep X h' Z' o p := by
 cases r with
 | list hl r => exact .list (hl.at (k _ own1)) (r.step S N)
 | frz h1 h2 h3 r => exact .frz (k _ own1 _ h1) h2 h3 (r.step S N)
 | junk h1 => exact .junk (k _ own1 _ h1)
 | tab h1 h2 h3 => exact .tab (k _ own1 _ h1) h2 h3
 | dict d =>
  obtain ⟨ns, g, kvs, d, r⟩ := d
  exact .dict ⟨ns, g, kvs, d.at (k _ own1), r.step S N⟩
 | inst h0 h1 h2 h3 h4 h5 hw h6 => exact .inst h0 (k _ own1 _ h1) h2 h3 h4 (h5.at fun o e => k _ own2 _ e) hw (h6.step S N)
theorem ORep.there {o : PO} {p : Addr × Option Addr} (r : ORep X h Z o p) {a : Addr} (ha : a ∈ Jk p) : ∃ ob, h.get? a = some ob := by
 cases r with
 | list hl _ => obtain ⟨n, e⟩ := hl; cases List.mem_singleton.mp ha; exact ⟨_, e⟩
 | frz h1 _ _ _ => cases List.mem_singleton.mp ha; exact ⟨_, h1⟩
 | junk h1 => cases List.mem_singleton.mp ha; exact ⟨_, h1⟩
 | tab h1 _ _ => cases List.mem_singleton.mp ha; exact ⟨_, h1⟩
 | dict d =>
  obtain ⟨_, _, _, ⟨o, _, _, e, _⟩, _⟩ := d
  cases List.mem_singleton.mp ha; exact ⟨o, e⟩
 | inst _ h1 _ _ _ h5 _ _ =>
  obtain ⟨o, _, _, ho, _⟩ := h5
  rcases List.mem_cons.mp ha with e | ha
  ·cases e; exact ⟨_, h1⟩
  ·cases List.mem_singleton.mp ha; exact ⟨_, ho⟩
theorem Rp.there {U : St} (I : Rp X Z U h) {a : Addr} (ha : a ∈ Je Z) : ∃ ob, h.get? a = some ob := by
 obtain ⟨p, hp, ha⟩ := List.mem_flatMap.mp ha
 obtain ⟨i, hi⟩ := List.getElem?_of_mem hp
 have hlt : i < U.length := I.len ▸ (List.getElem?_eq_some_iff.mp hi).1
 exact (I.objs i p _ hi (List.getElem?_eq_getElem hlt)).there ha
theorem Rp.offNew {U : St} (I : Rp X Z U h) {a : Addr} (e : h.get? a = none) : a ∉ Je Z := fun q => by
 obtain ⟨ob, k⟩ := I.there q
 rw [e] at k; cases k
theorem get?_size (h : Heap) : h.get? h.objs.size = none := by
 cases e : h.get? h.objs.size with
 | none => rfl
 | some o => exact absurd (Heap.lt_size e) (Nat.lt_irrefl _)
theorem Rp.size_off {U : St} (I : Rp X Z U h) : h.objs.size ∉ Je Z := I.offNew (get?_size h)
theorem Rp.size_ne {U : St} (I : Rp X Z U h) : h.objs.size ≠ sysModules := fun q => by
 obtain ⟨o, _, _, e, _⟩ := X.gns
 have := Heap.lt_size (I.base _ _ e)
 rw [q] at this
 exact absurd this (by decide)
theorem Rp.keeps {U : St} (I : Rp X Z U h) (k : ∀ b o, h.get? b = some o -> h'.get? b = some o) : Rp X Z U h' :=
 ⟨fun b o e => k b o (I.base b o e), I.len, I.nodup, I.off, I.fz, fun i p o a b => (I.objs i p o a b).step (W := []) (fs := []) (Step.of_keeps k) Ja fun x _ ob e => k x ob e⟩
theorem Ou {Z : Rho} (n : (Je Z).Nodup) {i j : Nat} {p q : Addr × Option Addr} (hi : Z[i]? = some p) (hj : Z[j]? = some q) {a : Addr} (hp : a ∈ Jk p) (hq : a ∈ Jk q) : i = j := by
 induction Z generalizing i j with
 | nil => simp at hi
 | cons r Z ih =>
  have e : Je (r :: Z) = Jk r ++ Je Z := by simp [Je]
  rw [e, List.nodup_append] at n
  obtain ⟨_, n2, n3⟩ := n
  have out : ∀ (k : Nat) (p : Addr × Option Addr), Z[k]? = some p -> a ∈ Jk p -> a ∈ Je Z := fun k p hk hm => List.mem_flatMap.mpr ⟨p, List.mem_of_getElem? hk, hm⟩
  cases i with
  | zero =>
   cases j with
   | zero => rfl
   | succ j => simp at hi hj; subst hi; exact absurd rfl (n3 a hp a (out j q hj hq))
  | succ i =>
   cases j with
   | zero => simp at hi hj; subst hj; exact absurd rfl (n3 a hq a (out i p hi hp))
   | succ j => simp at hi hj; rw [ih n2 hi hj]
theorem Rp.turn {U : St} (I : Rp X Z U h) {l : Nat} {p : Addr × Option Addr} {po : PO} (hl : Z[l]? = some p) (nf : ∀ xs, U[l]? ≠ some (.frz xs)) {a : Addr} (ha : a ∈ Jk p) (hs : Heap.SameBut a h h') (ht : ∃ o, h'.get? a = some o)
  (hr : Step [] [] Z Z h h' -> ORep X h' Z po p) : Rp X Z (U.set l po) h' := by
 have S : Step [] [] Z Z h h' := Step.turn (.inl (List.mem_flatMap.mpr ⟨p, List.mem_of_getElem? hl, ha⟩)) hs ht
 refine ⟨fun b o e => ?_, by simpa using I.len, I.nodup, I.off, ?_, fun i q o hi ho => ?_⟩
 ·have : b ≠ a := fun z => by
   subst z
   rw [I.off _ (List.mem_flatMap.mpr ⟨p, List.mem_of_getElem? hl, ha⟩)] at e; cases e
  exact (hs.2 b this).trans (I.base b o e)
 ·obtain ⟨xs, e⟩ := I.fz
  have : l ≠ 0 := fun z => by subst z; exact nf xs e
  exact ⟨xs, by rw [List.getElem?_set_ne this]; exact e⟩
 ·by_cases e : i = l
  ·subst e
   rw [hl] at hi
   cases hi
   have : i < U.length := I.len ▸ (List.getElem?_eq_some_iff.mp hl).1
   rw [List.getElem?_set_self this] at ho
   cases ho
   exact hr S
  ·rw [List.getElem?_set_ne (Ne.symm e)] at ho
   refine (I.objs i q o hi ho).step S Ja fun x hx ob eo => ?_
   have : x ≠ a := fun z => by subst z; exact e (Ou I.nodup hi hl hx ha)
   exact (hs.2 x this).trans eo
theorem Rp.grow {U : St} (I : Rp X Z U h) (k : ∀ b o, h.get? b = some o -> h'.get? b = some o) {p : Addr × Option Addr} {po : PO} (hn : ∀ a, a ∈ Jk p -> h.get? a = none) (hd : (Jk p).Nodup)
  (hr : Step [] [] Z (Z ++ [p]) h h' -> ORep X h' (Z ++ [p]) po p) : Rp X (Z ++ [p]) (U ++ [po]) h' := by
 have S : Step [] [] Z (Z ++ [p]) h h' := Step.grow k fun a q => hn a (by simpa [Je] using q)
 have e1 : Je (Z ++ [p]) = Je Z ++ Jk p := by simp [Je]
 have off : ∀ a, a ∈ Jk p -> X.base.get? a = none := fun a q => by
  cases e : X.base.get? a with
  | none => rfl
  | some o => have := I.base a o e; rw [hn a q] at this; cases this
 refine ⟨fun b o e => k b o (I.base b o e), by simp [I.len], ?_, fun a q => ?_, ?_, fun i q o hi ho => ?_⟩
 ·rw [e1, List.nodup_append]
  refine ⟨I.nodup, hd, fun a ha b hb e => ?_⟩
  subst e
  exact I.offNew (hn a hb) ha
 ·rw [e1] at q
  rcases List.mem_append.mp q with q | q
  ·exact I.off a q
  ·exact off a q
 ·obtain ⟨xs, e⟩ := I.fz
  exact ⟨xs, by rw [List.getElem?_append_left (List.getElem?_eq_some_iff.mp e).1]; exact e⟩
 ·rcases Nat.lt_or_ge i Z.length with hlt | hge
  ·rw [List.getElem?_append_left hlt] at hi
   rw [List.getElem?_append_left (I.len ▸ hlt)] at ho
   exact (I.objs i q o hi ho).step S Ja fun x _ ob e => k x ob e
  ·rw [List.getElem?_append_right hge] at hi
   rw [List.getElem?_append_right (I.len ▸ hge)] at ho
   have z : i - Z.length = 0 := by
    cases q : i - Z.length with
    | zero => rfl
    | succ n => rw [q] at hi; simp at hi
   have z' : i - U.length = 0 := by rw [← I.len]; exact z
   rw [z] at hi
   rw [z'] at ho
   simp at hi ho
   subst hi
   subst ho
   exact hr S
end
end
noncomputable def Jb (env : Env) : List Addr := env.locals :: env.cells.map (·.2)
structure FrR (X : Cx) (Γ : List (Str × Nat)) (env : Env) (fr : Fr) (Z : Rho) (h : Heap) : Prop where
 kind : env.scope.kind = .function
 glob : env.globals = mainGlobals
 bi : env.builtins = builtinsNs
 kinds : ∀ n i, (n, i) ∈ Γ -> env.kindOf n = some .local \/ env.kindOf n = some .cell \/ env.kindOf n = some .free
 inj : ∀ n n' i, (n, i) ∈ Γ -> (n', i) ∈ Γ -> n = n'
 one : ∀ n i i', (n, i) ∈ Γ -> (n, i') ∈ Γ -> i = i'
 ns : ∃ m, h.Ns env.locals m /\ ∀ n i, (n, i) ∈ Γ -> env.kindOf n = some .local -> ∀ v, fr[i]? = some (some v) -> ∃ u, m n = some u /\ VRep h Z v u
 cells : ∀ n i, (n, i) ∈ Γ -> env.kindOf n = some .cell \/ env.kindOf n = some .free -> ∃ c cur, env.cells.lookup n = some c /\ h.IsCell c cur /\ ∀ v, fr[i]? = some (some v) -> ∃ u, cur = some u /\ VRep h Z v u
 off : ∀ a, a ∈ Jb env -> a ∉ Je Z /\ X.base.get? a = none /\ ∃ o, h.get? a = some o /\ (∀ xs n, o.data ≠ .seq xs n) /\ ∀ vs, o.data ≠ .fields vs
 apart : env.locals ∉ env.cells.map (·.2)
 once : ∀ n n' c, (n, c) ∈ env.cells -> (n', c) ∈ env.cells -> n = n'
theorem FrR.noSeq {X : Cx} {Γ : List (Str × Nat)} {env : Env} {fr : Fr} {Z : Rho} {h : Heap} (F : FrR X Γ env fr Z h) : JI (Jb env) h := fun a ha items ho => by
 obtain ⟨_, _, o', ho', q, _⟩ := F.off a ha
 obtain ⟨o, ho, _, n, hd⟩ := ho
 rw [ho] at ho'; cases ho'; exact q _ _ hd
theorem Gh {h h' : Heap} {a : Addr} {m : Str -> Option Value} (hn : h.Ns a m) (k : ∀ o, h.get? a = some o -> ∃ sl, h'.get? a = some { o with slots := sl }) : h'.Ns a m := by
 obtain ⟨o, es, ep, ho, hd, r⟩ := hn
 obtain ⟨sl, e⟩ := k o ho
 exact ⟨_, es, ep, e, hd, r⟩
theorem cell_slots {h h' : Heap} {a : Addr} {v : Option Value} (hn : h.IsCell a v) (k : ∀ o, h.get? a = some o -> ∃ sl, h'.get? a = some { o with slots := sl }) : h'.IsCell a v := by
 obtain ⟨o, ho, hd⟩ := hn
 obtain ⟨sl, e⟩ := k o ho
 exact ⟨_, e, hd⟩
theorem Ji {α β : Type} [BEq α] [LawfulBEq α] {l : List (α × β)} {n : α} {c : β} (h : l.lookup n = some c) : (n, c) ∈ l := by
 induction l with
 | nil => cases h
 | cons p r ih =>
  obtain ⟨k, v⟩ := p
  rw [List.lookup_cons] at h
  cases hb : n == k with
  | true => rw [hb] at h; cases h; rw [beq_iff_eq.mp hb]; exact List.mem_cons_self
  | false => rw [hb] at h; exact List.mem_cons_of_mem _ (ih h)
theorem FrR.stepW {X : Cx} {Γ : List (Str × Nat)} {env : Env} {fr : Fr} {Z Z' : Rho} {h h' : Heap} {W fs : List Addr} (F : FrR X Γ env fr Z h) (S : Step W fs Z Z' h h') (hW : ∀ a, a ∈ Jb env -> a ∉ W) (N : JI W h) : FrR X Γ env fr Z' h' := by
 have kp : ∀ a, a ∈ Jb env -> ∀ o, h.get? a = some o -> ∃ sl, h'.get? a = some { o with slots := sl } := fun a ha o ho => (S.keep a o ho (F.off a ha).1 (hW a ha)).2
 refine ⟨F.kind, F.glob, F.bi, F.kinds, F.inj, F.one, ?_, fun n i hi hk => ?_, fun a ha => ?_, F.apart, F.once⟩
 ·obtain ⟨m, hn, r⟩ := F.ns
  refine ⟨m, Gh hn (kp _ (by simp [Jb])), fun n i hi hk v hv => ?_⟩
  obtain ⟨u, e, q⟩ := r n i hi hk v hv
  exact ⟨u, e, q.step S N⟩
 ·obtain ⟨c, cur, hc, hcell, r⟩ := F.cells n i hi hk
  refine ⟨c, cur, hc, cell_slots hcell (kp c (by simp [Jb]; exact .inr ⟨n, Ji hc⟩)), fun v hv => ?_⟩
  obtain ⟨u, e, q⟩ := r v hv
  exact ⟨u, e, q.step S N⟩
 ·obtain ⟨a1, a2, o, ho, q1, q2⟩ := F.off a ha
  obtain ⟨sl, e⟩ := kp a ha o ho
  exact ⟨S.offNew ho a1, a2, _, e, q1, q2⟩
theorem FrR.step {X : Cx} {Γ : List (Str × Nat)} {env : Env} {fr : Fr} {Z Z' : Rho} {h h' : Heap} {fs : List Addr} (F : FrR X Γ env fr Z h) (S : Step [] fs Z Z' h h') : FrR X Γ env fr Z' h' := F.stepW S (by simp) Ja
theorem funFrames_get {h base : Heap} : ∀ {l : List Env}, h.FunFrames base l -> ∀ L, L ∈ l.filterMap (·.frame) -> base.get? L = none /\ ∃ o, h.get? L = some o /\ ∀ vs, o.data ≠ .fields vs :=
 fun hl _ hm => hl.mem hm
theorem Uw {h h' base : Heap} {l : List Env} (f : h.FunFrames base l) (k : ∀ L, L ∈ l.filterMap (·.frame) -> ∃ o, h'.get? L = some o /\ ∀ vs, o.data ≠ .fields vs) : h'.FunFrames base l := by
 induction l with
 | nil => exact trivial
 | cons env r ih =>
  obtain ⟨hk, ⟨L, o, hf, hn, _, _⟩, hr⟩ := f
  have e0 : (env :: r).filterMap (·.frame) = L :: r.filterMap (·.frame) := by rw [List.filterMap_cons, hf]
  rw [e0] at k
  obtain ⟨o', e, q⟩ := k L List.mem_cons_self
  exact ⟨hk, ⟨L, o', hf, hn, e, q⟩, ih hr fun L' hL' => k L' (List.mem_cons_of_mem _ hL')⟩
noncomputable def NsqF (fs : List Addr) (h : Heap) : Prop := ∀ L, L ∈ fs -> ∀ o, h.get? L = some o -> ∀ xs n, o.data ≠ .seq xs n
structure AOK (X : Cx) (A : Around) (fs : List Addr) (Z : Rho) (h : Heap) : Prop where
 hd : A.handled = none
 fr : ∃ l, A.frames = some l /\ fs = l.filterMap (·.frame) /\ h.FunFrames X.base l
 off : ∀ L, L ∈ fs -> L ∉ Je Z
 nsq : NsqF fs h
theorem AOK.step {X : Cx} {A : Around} {W fs : List Addr} {Z Z' : Rho} {h h' : Heap} (a : AOK X A fs Z h) (S : Step W fs Z Z' h h')
  (hW : ∀ L, L ∈ fs -> L ∈ W -> ∃ o, h'.get? L = some o /\ (∀ vs, o.data ≠ .fields vs) /\ ∀ xs n, o.data ≠ .seq xs n) : AOK X A fs Z' h' := by
 have nq := a.nsq
 obtain ⟨l, e1, rfl, e3⟩ := a.fr
 refine ⟨a.hd, ⟨l, e1, rfl, Uw e3 fun L hL => ?_⟩, fun L hL => ?_, fun L hL o' ho' => ?_⟩
 ·by_cases m : L ∈ W
  ·obtain ⟨o, e, q, _⟩ := hW L hL m; exact ⟨o, e, q⟩
  ·obtain ⟨_, o, ho, q⟩ := e3.mem hL
   obtain ⟨_, sl, e⟩ := S.keep L o ho (a.off L hL) m
   exact ⟨_, e, q⟩
 ·obtain ⟨_, o, ho, q⟩ := e3.mem hL
  exact S.offNew ho (a.off L hL)
 ·by_cases m : L ∈ W
  ·obtain ⟨o, e, _, q⟩ := hW L hL m
   rw [e] at ho'; cases ho'; exact q
  ·obtain ⟨_, o, ho, q⟩ := e3.mem hL
   obtain ⟨_, sl, e⟩ := S.keep L o ho (a.off L hL) m
   rw [e] at ho'; cases ho'; exact nq L hL o ho
theorem AOK.step0 {X : Cx} {A : Around} {fs : List Addr} {Z Z' : Rho} {h h' : Heap} (a : AOK X A fs Z h) (S : Step [] fs Z Z' h h') : AOK X A fs Z' h' := a.step S fun _ _ q => nomatch q
theorem AOK.around {X : Cx} {A A' : Around} {fs : List Addr} {Z : Rho} {h : Heap} (a : AOK X A fs Z h) (e1 : A'.handled = A.handled) (e2 : A'.frames = A.frames) : AOK X A' fs Z h :=
 ⟨e1 ▸ a.hd, by rw [e2]; exact a.fr, a.off, a.nsq⟩
noncomputable def Ext (s s' : Shared) : Prop := ∃ h t, s' = { s with heap := h, toks := t }
theorem Ext.refl (s : Shared) : Ext s s := ⟨_, _, rfl⟩
theorem Ext.trans {s s' s'' : Shared} (a : Ext s s') (b : Ext s' s'') : Ext s s'' := by
 obtain ⟨h, t, rfl⟩ := a
 obtain ⟨h', t', rfl⟩ := b
 exact ⟨h', t', rfl⟩
inductive Post {α β : Type} (X : Cx) (W fs : List Addr) (Z : Rho) (s : Shared) (rel : Heap -> Rho -> α -> β -> Prop) (r : R α) (b : β) (s' : Shared) : Prop
 | mk (a : α) (U' : St) (Z' : Rho) (e : r = .ok a U') (x : Ext s s') (i : Rp X Z' U' s'.heap) (v : rel s'.heap Z' a b) (st : Step W fs Z Z' s.heap s'.heap)
noncomputable def MadeX (B : Heap) (l : List Env) (a : Addr) (cls a0 : Value) (h : Heap) : Prop := B.StaysIn h /\ B.get? a = none /\ h.FunFrames B l /\ ∃ oe vs, h.get? a = some oe /\ oe.cls = cls /\ oe.data = .fields vs /\ vs[1]? = some .none /\ vs[0]? = some a0
noncomputable def AirX (B : Heap) (l : List Env) (a : Addr) (cls a0 : Value) (h : Heap) : Prop := Heap.FlyingW B l a cls a0 h \/ (∃ env outer L, l = env :: outer /\ env.frame = some L /\ Heap.HeldW B l a cls a0 L h) \/ MadeX B l a cls a0 h
theorem air_frames {B : Heap} {l : List Env} {a : Addr} {cls a0 : Value} {h : Heap} (x : AirX B l a cls a0 h) : h.FunFrames B l := by
 rcases x with x | ⟨_, _, _, _, _, x⟩ | x
 ·exact x.2.2.1
 ·exact x.2.2.1
 ·exact x.2.2.1
theorem NsqF.slots {B : Heap} {l : List Env} {h h' : Heap} (n : NsqF (l.filterMap (·.frame)) h) (f : h.FunFrames B l) (u : h.UpToSlots h') : NsqF (l.filterMap (·.frame)) h' := fun L hL o' ho' => by
 obtain ⟨_, o, ho, q⟩ := f.mem hL
 obtain ⟨sl, e⟩ := u L o ho q
 rw [e] at ho'; cases ho'
 exact n L hL o ho
inductive Fly (X : Cx) (A : Around) (fs : List Addr) (a : Addr) (c : Nat) (h₁ h' : Heap) : Prop
 | mk (l : List Env) (Bx : Heap) (a0 : Value) (e : A.frames = some l) (k : ∀ b o, h₁.get? b = some o -> b ∉ fs -> Bx.get? b = some o) (x : AirX Bx l a (.ref (X.cls c)) a0 h') (u : h₁.UpToSlots h') (n : NsqF (l.filterMap (·.frame)) h')
inductive PostX {α : Type} (X : Cx) (A : Around) (W fs : List Addr) (Z : Rho) (s : Shared) (r : R α) (e : Value) (s' : Shared) : Prop
 | mk (c : Nat) (U' : St) (Z' : Rho) (h₁ : Heap) (a : Addr) (q : r = .exc c U') (w : e = .ref a) (x : Ext s s') (i : Rp X Z' U' h₁) (st : Step W fs Z Z' s.heap h₁) (f : Fly X A fs a c h₁ s'.heap)
noncomputable def Ok {α β : Type} (X : Cx) (A : Around) (W fs : List Addr) (Z : Rho) (s : Shared) (rel : Heap -> Rho -> α -> β -> Prop) (t : Sem β) (r : R α) : Prop :=
 r ≠ .stuck -> wpAny (model X.prog X.w) A t (Post X W fs Z s rel r) (PostX X A W fs Z s r) s
section
variable {α β γ δ : Type} {X : Cx} {A : Around} {W fs : List Addr} {Z Z' : Rho} {s s' : Shared}
theorem Post.from {rel : Heap -> Rho -> α -> β -> Prop} {r : R α} {b : β} {s'' : Shared} (E : Ext s s') (S : Step W fs Z Z' s.heap s'.heap) (p : Post X W fs Z' s' rel r b s'') : Post X W fs Z s rel r b s'' := by
 obtain ⟨a, U', Z'', h1, h2, h3, h4, h5⟩ := p
 exact ⟨a, U', Z'', h1, E.trans h2, h3, h4, S.trans h5⟩
theorem PostX.from {r : R α} {e : Value} {s'' : Shared} (E : Ext s s') (S : Step W fs Z Z' s.heap s'.heap) (p : PostX X A W fs Z' s' r e s'') : PostX X A W fs Z s r e s'' := by
 obtain ⟨c, U', Z'', h₁, a, h1, h2, h3, h4, h5, h6⟩ := p
 exact ⟨c, U', Z'', h₁, a, h1, h2, E.trans h3, h4, S.trans h5, h6⟩
theorem PostX.res {r : R α} {r' : R β} {e : Value} (p : PostX X A W fs Z s r e s') (k : ∀ c U, r = .exc c U -> r' = .exc c U) : PostX X A W fs Z s r' e s' := by
 obtain ⟨c, U', Z', h₁, a, h1, h2, h3, h4, h5, h6⟩ := p
 exact ⟨c, U', Z', h₁, a, k _ _ h1, h2, h3, h4, h5, h6⟩
theorem Ok.bind {t : Sem β} {k : β -> Sem δ} {m : R α} {f : α -> St -> R γ} {rel : Heap -> Rho -> α -> β -> Prop} {rel' : Heap -> Rho -> γ -> δ -> Prop} (h1 : Ok X A W fs Z s rel t m)
  (h2 : ∀ a U' Z' b s', m = .ok a U' -> Ext s s' -> Rp X Z' U' s'.heap -> rel s'.heap Z' a b -> Step W fs Z Z' s.heap s'.heap -> Ok X A W fs Z' s' rel' (k b) (f a U')) :
  Ok X A W fs Z s rel' (t >>= k) (m.bind f) := by
 intro ns
 cases m with
 | stuck => exact absurd rfl ns
 | ok a U' =>
  refine wpAny_bind (wpAny_mono (h1 (by simp)) (fun b s' p => ?_) fun e s' p => ?_)
  ·obtain ⟨a', U'', Z', e1, e2, e3, e4, e5⟩ := p
   cases e1
   exact wpAny_mono (h2 a U' Z' b s' rfl e2 e3 e4 e5 ns) (fun _ _ q => q.from e2 e5) fun _ _ q => q.from e2 e5
  ·obtain ⟨c, U'', _, _, _, e1, _⟩ := p
   cases e1
 | exc c U' =>
  refine wpAny_bind (wpAny_mono (h1 (by simp)) (fun b s' p => ?_) fun e s' p => ?_)
  ·obtain ⟨a', U'', Z', e1, _⟩ := p
   cases e1
  ·obtain ⟨c', U'', Z', h₁, a, e1, e2, e3, e4, e5, e6⟩ := p
   cases e1
   exact ⟨c, U', Z', h₁, a, rfl, e2, e3, e4, e5, e6⟩
theorem Ok.ret {a : α} {b : β} {U : St} {rel : Heap -> Rho -> α -> β -> Prop} (I : Rp X Z U s.heap) (r : rel s.heap Z a b) : Ok X A W fs Z s rel (pure b) (.ok a U) :=
 fun _ => wpAny_pure ⟨a, U, Z, rfl, .refl s, I, r, Step.refl⟩
theorem Ok.stuck {rel : Heap -> Rho -> α -> β -> Prop} {t : Sem β} : Ok X A W fs Z s rel t (.stuck : R α) := fun h => absurd rfl h
theorem Ok.of_eq {rel : Heap -> Rho -> α -> β -> Prop} {t t' : Sem β} {r : R α} (e : t = t') (h : Ok X A W fs Z s rel t' r) : Ok X A W fs Z s rel t r := e ▸ h
theorem Ok.ite {rel : Heap -> Rho -> α -> β -> Prop} {t : Sem β} {c : Prop} [Decidable c] {m n : R α} (h1 : c -> Ok X A W fs Z s rel t m) (h2 : ¬ c -> Ok X A W fs Z s rel t n) : Ok X A W fs Z s rel t (if c then m else n) := by
 by_cases h : c
 ·rw [if_pos h]; exact h1 h
 ·rw [if_neg h]; exact h2 h
theorem Ok.guard {rel : Heap -> Rho -> α -> β -> Prop} {t : Sem β} {c : Prop} [Decidable c] {m : R α} (h : c -> Ok X A W fs Z s rel t m) : Ok X A W fs Z s rel t (if c then m else .stuck) := .ite h fun _ => .stuck
theorem Ok.map {g : α -> γ} {t : Sem β} {m : R α} {rel : Heap -> Rho -> α -> β -> Prop} {rel' : Heap -> Rho -> γ -> β -> Prop} (h : Ok X A W fs Z s rel t m) (q : ∀ h Z a b, rel h Z a b -> rel' h Z (g a) b) : Ok X A W fs Z s rel' t (m.bind fun a U => .ok (g a) U) := fun ns => by
 have nm : m ≠ .stuck := fun e => ns (by rw [e]; rfl)
 refine wpAny_mono (h nm) (fun b s' p => ?_) fun e s' p => ?_
 ·obtain ⟨a, U', Z', e1, e2, e3, e4, e5⟩ := p
  exact ⟨g a, U', Z', by rw [e1]; rfl, e2, e3, q _ _ _ _ e4, e5⟩
 ·exact p.res fun _ _ e1 => by rw [e1]; rfl
theorem Ok.of_res {rel : Heap -> Rho -> α -> β -> Prop} {t : Sem β} {r r' : R α} (e : r = r') (h : Ok X A W fs Z s rel t r') : Ok X A W fs Z s rel t r := e ▸ h
theorem R.bind_inv {m : R α} {f : α -> St -> R γ} {c : γ} {U : St} (h : m.bind f = .ok c U) : ∃ a U', m = .ok a U' /\ f a U' = .ok c U := by
 cases m with
 | ok a U' => exact ⟨a, U', rfl, h⟩
 | exc _ _ => cases h
 | stuck => cases h
theorem R.bind_ret (m : R α) : (m.bind fun a U => .ok a U) = m := by cases m <;> rfl
theorem Ok.to {rel : Heap -> Rho -> α -> β -> Prop} {t : Sem β} {a : α} {U' : St}
  (h : ∀ Q E, (∀ b Z' s', Ext s s' -> Rp X Z' U' s'.heap -> rel s'.heap Z' a b -> Step W fs Z Z' s.heap s'.heap -> Q b s') -> wpAny (model X.prog X.w) A t Q E s) : Ok X A W fs Z s rel t (.ok a U') :=
 fun _ => h _ _ fun _ Z' s' h1 h2 h3 h4 => ⟨a, U', Z', rfl, h1, h2, h3, h4⟩
theorem Ok.step {t : Sem Unit} {k : Sem δ} {r : R γ} {rel' : Heap -> Rho -> γ -> δ -> Prop} (h1 : ∀ Q E, Q () s -> wpAny (model X.prog X.w) A t Q E s) (h2 : Ok X A W fs Z s rel' k r) : Ok X A W fs Z s rel' (t >>= fun _ => k) r :=
 fun ns => wpAny_bind (h1 _ _ (h2 ns))
theorem Ok.standAt {pos : Pos} {k : Sem δ} {r : R γ} {rel' : Heap -> Rho -> γ -> δ -> Prop} (h : Ok X A W fs Z s rel' k r) : Ok X A W fs Z s rel' (standAt pos >>= fun _ => k) r :=
 fun ns => wpAny_bind (wpAny_standAt (h ns))
theorem Ok.holding {vs : List Value} {t : Sem δ} {r : R γ} {rel' : Heap -> Rho -> γ -> δ -> Prop} (h : Ok X A W fs Z s rel' t r) : Ok X A W fs Z s rel' (holding vs t) r :=
 fun ns => wpAny_holding (h ns)
theorem Ok.operate {vs : List Value} {t : Sem Value} {r : R γ} {rel' : Heap -> Rho -> γ -> Value -> Prop} (h : Ok X A W fs Z s rel' t r) : Ok X A W fs Z s rel' (operate vs t) r :=
 fun ns Γ p hΓ => by rw [Sem.wp_operate]; exact h ns Γ p hΓ
end
section
variable {X : Cx} {A : Around} {W fs : List Addr} {Z : Rho} {U : St} {s : Shared}
theorem Rp.tok (I : Rp X Z U s.heap) (t : Nat) : Rp X Z U ({ s with toks := t } : Shared).heap := I
theorem JQ {t : Sem Value} {i : Int} (I : Rp X Z U s.heap) (h : ∀ Q E, (∀ u k, Q (.int i u) { s with toks := k }) -> wpAny (model X.prog X.w) A t Q E s) : Ok X A [] fs Z s VRep t (.ok (.int i) U) :=
 Ok.to fun Q E k => h Q E fun u j => k _ Z _ ⟨s.heap, j, rfl⟩ I (.int i u) Step.refl
theorem ZT {t : Sem Value} {x : Str} (I : Rp X Z U s.heap) (h : ∀ Q E, (∀ u k, Q (.str x u) { s with toks := k }) -> wpAny (model X.prog X.w) A t Q E s) : Ok X A [] fs Z s VRep t (.ok (.str x) U) :=
 Ok.to fun Q E k => h Q E fun u j => k _ Z _ ⟨s.heap, j, rfl⟩ I (.str x u) Step.refl
theorem Zx {t : Sem Value} {b : Bool} (I : Rp X Z U s.heap) (h : ∀ Q E, (∀ k, Q (.bool b) { s with toks := k }) -> wpAny (model X.prog X.w) A t Q E s) : Ok X A [] fs Z s VRep t (.ok (.bool b) U) :=
 Ok.to fun Q E k => h Q E fun j => k _ Z _ ⟨s.heap, j, rfl⟩ I (.bool b) Step.refl
theorem Ym {t : Sem Value} {v : PV} {u : Value} (I : Rp X Z U s.heap) (r : VRep s.heap Z v u) (h : ∀ Q E, (∀ k, Q u { s with toks := k }) -> wpAny (model X.prog X.w) A t Q E s) : Ok X A [] fs Z s VRep t (.ok v U) :=
 Ok.to fun Q E k => h Q E fun j => k _ Z _ ⟨s.heap, j, rfl⟩ I r Step.refl
theorem Jx (h : Heap) (o : Obj) : ∀ b ob, h.get? b = some ob -> (h.push o).get? b = some ob := fun _ _ e => Heap.get?_push_of_some o e
theorem ok_tup {t : Sem Value} {l : List PV} {us : List Value} (I : Rp X Z U s.heap) (r : VReps s.heap Z l us)
  (h : ∀ Q E, (∀ k, Q (.ref s.heap.objs.size) { s with heap := s.heap.push { cls := .type "tuple", data := .seq us.toArray }, toks := k }) -> wpAny (model X.prog X.w) A t Q E s) :
  Ok X A [] fs Z s VRep t (.ok (.tup l) U) :=
 Ok.to fun Q E k => h Q E fun j => by
  have kp := Jx s.heap { cls := .type "tuple", data := .seq us.toArray }
  have S : Step (W := []) (fs := fs) Z Z s.heap (s.heap.push { cls := .type "tuple", data := .seq us.toArray }) := Step.of_keeps kp
  have S' : Step (W := []) (fs := fs) Z Z s.heap (s.heap.push { cls := .type "tuple", data := .seq us.toArray }) := Step.of_keeps kp
  exact k _ Z _ ⟨_, j, rfl⟩ (I.keeps kp) (.tup (items := us.toArray) ⟨_, Heap.get?_push_size _ rfl, rfl, 0, rfl⟩ I.size_off (by simpa using r.step S' Ja)) S
theorem ok_list {t : Sem Value} {l : List PV} {us : List Value} (I : Rp X Z U s.heap) (r : VReps s.heap Z l us)
  (h : ∀ Q E, (∀ k, Q (.ref s.heap.objs.size) { s with heap := s.heap.push { cls := .type "list", data := .seq us.toArray }, toks := k }) -> wpAny (model X.prog X.w) A t Q E s) :
  Ok X A [] fs Z s VRep t (JT (.list l) U) :=
 Ok.to fun Q E k => h Q E fun j => by
  have kp := Jx s.heap { cls := .type "list", data := .seq us.toArray }
  have hn : ∀ a, a ∈ Jk (s.heap.objs.size, (none : Option Addr)) -> s.heap.get? a = none := fun a q => by simp [Jk] at q; subst q; exact get?_size _
  have S : Step (W := []) (fs := fs) Z (Z ++ [(s.heap.objs.size, none)]) s.heap (s.heap.push { cls := .type "list", data := .seq us.toArray }) := Step.grow kp fun a q => hn a (by simpa [Je] using q)
  refine k _ (Z ++ [(s.heap.objs.size, none)]) _ ⟨_, j, rfl⟩ (I.grow kp hn (by simp [Jk]) fun S' => ?_) ?_ S
  ·exact .list (items := us.toArray) ⟨0, Heap.get?_push_size _ rfl⟩ (by simpa using r.step S' Ja)
  ·have : (Z ++ [(s.heap.objs.size, (none : Option Addr))])[U.length]? = some (s.heap.objs.size, none) := by rw [← I.len]; simp
   exact .loc this
theorem mul_ok {x y : Int} (hx : x.natAbs < 2 ^ 62) : IntMulOk x y := by
 refine IntMulOk.of_left ?_
 unfold Builtin.Int.intBits
 split
 ·lia
 ·have : x.natAbs.log2 < 62 := by
   by_cases z : x.natAbs = 0
   ·rw [z]; decide
   ·exact (Nat.log2_lt z).mpr hx
  lia
theorem div_ok {x y : Int} (h0 : 0 < y) (h1 : y < 2 ^ 30) : ¬ (Builtin.divisionGoesByPylong x y) = true := by
 rw [PyProof.noPylong_of_log2]
 ·simp
 ·exact Nat.lt_trans ((Nat.log2_lt (Int.natAbs_ne_zero.mpr (Int.ne_of_gt h0))).mpr (Int.natAbs_lt_natAbs_of_nonneg_of_lt (Int.le_of_lt h0) h1)) (by decide : 30 < 9000)
set_option tactic.hygienic true in
theorem pow_ok {x y : Int} (h0 : 0 ≤ x) (h1 : x < 2 ^ 31) (h2 : 0 < y) (h3 : y ≤ 300) : ¬ Builtin.Int.intTooBig (((Builtin.Int.intBits x : Nat) : Int) * y) = true := by
 have hb : Builtin.Int.intBits x ≤ 31 := by
  unfold Builtin.Int.intBits
  split
  ·lia
  ·rename_i z
   have z : x.natAbs ≠ 0 := by simp at z; lia
   have : x.natAbs.log2 < 31 := (Nat.log2_lt z).mpr (by lia)
   lia
 have h : ((Builtin.Int.intBits x : Nat) : Int) * y ≤ 31 * 300 := Int.mul_le_mul (by lia) h3 (by lia) (by lia)
 unfold Builtin.Int.intTooBig
 simp only [decide_eq_true_eq]
 have := bitsLine_eq
 lia
theorem JB {h : Heap} (I : Rp X Z U h) {l : Nat} {p : Addr × Option Addr} {xs : List PV} (hp : Z[l]? = some p) (hl : U[l]? = some (.list xs)) : ∃ items, h.PlainList p.1 items /\ VReps h Z xs items.toList := by
 have r := I.objs _ _ _ hp hl
 cases r with
 | list h1 h2 => exact ⟨_, h1, h2⟩
theorem Ok.optR {α β γ : Type} {rel : Heap -> Rho -> β -> γ -> Prop} {t : Sem γ} {o : Option α} {f : α -> R β} (h : ∀ a, o = some a -> Ok X A [] fs Z s rel t (f a)) : Ok X A [] fs Z s rel t (optR o f) := by
 cases o with
 | none => exact .stuck
 | some a => exact h a rfl
theorem Zw {a b : PV} {u v : Value} {t : Sem Value} {f : Int -> Int -> R PV} (ra : VRep s.heap Z a u) (rb : VRep s.heap Z b v) (h : ∀ x y tx ty, u = .int x tx -> v = .int y ty -> Ok X A [] fs Z s VRep t (f x y)) : Ok X A [] fs Z s VRep t (int2 a b f) :=
 .optR fun x hx => .optR fun y hy => by
  obtain ⟨tx, e1⟩ := (YH hx ▸ ra).inv
  obtain ⟨ty, e2⟩ := (YH hy ▸ rb).inv
  exact h x y tx ty e1 e2
theorem add_tup {xs ys : List PV} {a b : Addr} {items items' : Array Value} (I : Rp X Z U s.heap) (hz : Jp (xs.length + ys.length) = true) (ht : s.heap.IsTuple a items) (n : a ∉ Je Z) (r : VReps s.heap Z xs items.toList)
  (ht' : s.heap.IsTuple b items') (n' : b ∉ Je Z) (r' : VReps s.heap Z ys items'.toList) : Ok X A [] fs Z s VRep (binaryOp .Add (.ref a) (.ref b)) (.ok (.tup (xs ++ ys)) U) := by
 have e1 : xs.length = items.size := r.length
 have e2 : ys.length = items'.size := r'.length
 obtain ⟨⟨cls, dd, data, sl⟩, ho, hc, k, hd⟩ := id ht
 obtain ⟨⟨cls2, dd2, data2, sl2⟩, ho2, hc2, k2, hd2⟩ := id ht'
 cases hc; cases hd; cases hc2; cases hd2
 by_cases hv : items.isEmpty = true
 ·cases xs with
  | cons x r => rw [Array.isEmpty_iff_size_eq_zero.mp hv] at e1; cases e1
  | nil =>
   exact Ym I (.tup ht' n' r') fun Q E q => concat_meets ⟨_, ho, rfl⟩ ⟨_, ho2, rfl⟩ noFill_tuple_add seq_tuple_add PySem.F.slot_tuple_add PySem.F.entry_tuple_add (PySem.F.args_tuple_add_2 _ _)
    (tuple_addW0 a b items items' k k2 dd dd2 sl sl2 hv) ⟨ho, ho2, q _⟩
 ·by_cases hw : items'.isEmpty = true
  ·cases ys with
   | cons x r => rw [Array.isEmpty_iff_size_eq_zero.mp hw] at e2; cases e2
   | nil =>
    rw [List.append_nil]
    exact Ym I (.tup ht n r) fun Q E q => concat_meets ⟨_, ho, rfl⟩ ⟨_, ho2, rfl⟩ noFill_tuple_add seq_tuple_add PySem.F.slot_tuple_add PySem.F.entry_tuple_add (PySem.F.args_tuple_add_2 _ _)
     (tuple_addW1 a b items items' k k2 dd dd2 sl sl2 hv hw) ⟨ho, ho2, q _⟩
  ·have e : items ++ items' = (items.toList ++ items'.toList).toArray := by rw [← Array.toList_append, Array.toArray_toList]
   have hz := of_decide_eq_true hz
   refine ok_tup I (r.append r') fun Q E q => concat_meets ⟨_, ho, rfl⟩ ⟨_, ho2, rfl⟩ noFill_tuple_add seq_tuple_add PySem.F.slot_tuple_add PySem.F.entry_tuple_add (PySem.F.args_tuple_add_2 _ _)
    (tuple_addW2 a b items items' k k2 dd dd2 sl sl2 hv hw ?_) ⟨ho, ho2, ?_⟩
   ·rw [sizeLine_eq]; lia
   ·rw [e]; exact q _
theorem add_lst {l m : Nat} {a b : Addr} {d d' : Option Addr} (I : Rp X Z U s.heap) (hp : Z[l]? = some (a, d)) (hq : Z[m]? = some (b, d')) : Ok X A [] fs Z s VRep (binaryOp .Add (.ref a) (.ref b)) (addLs U[l]? U[m]? U) := by
 refine .optR fun xs hl => .optR fun ys hm => ?_
 refine .guard fun hz => ?_
 obtain ⟨items, ⟨k, ho⟩, r⟩ := JB I hp (On hl)
 obtain ⟨items', ⟨k2, ho2⟩, r'⟩ := JB I hq (On hm)
 have e : items ++ items' = (items.toList ++ items'.toList).toArray := by rw [← Array.toList_append, Array.toArray_toList]
 have e1 := r.length
 have e2 := r'.length
 have hz := of_decide_eq_true hz
 refine ok_list I (r.append r') fun Q E q => concat_meets ⟨_, ho, rfl⟩ ⟨_, ho2, rfl⟩ noFill_list_add seq_list_add PySem.F.slot_list_add PySem.F.entry_list_add (PySem.F.args_list_add_2 _ _)
  (AutoSeq1.list___add___list_list_0 _ items k _ items' k2 ?_) ⟨ho, ho2, ?_⟩
 ·rw [sizeLine_eq, ← Array.length_toList, ← Array.length_toList]; lia
 ·rw [e]; exact q _
theorem pow_case {x y : Int} {tx ty : Tok} (I : Rp X Z U s.heap) (h0 : 0 ≤ x) (h1 : x < 2 ^ 31) (h2 : 0 < y) (h3 : y ≤ 300) : Ok X A [] fs Z s VRep (binaryOp .Pow (.int x tx) (.int y ty)) (.ok (.int (x ^ y.toNat)) U) := by
 have hy : ¬ y < 0 := by lia
 have hy0 : ¬ y = 0 := by lia
 by_cases hx : x = 0 \/ x = 1
 ·have e : x ^ y.toNat = x := by
   have : y.toNat ≠ 0 := by lia
   rcases hx with rfl | rfl
   ·exact Int.zero_pow this
   ·exact Int.one_pow
  rw [e]
  exact JQ I fun Q E k => AutoIntOps.pow_1 (by lia) (by simp; lia) (by rcases hx with rfl | rfl <;> rfl) (k _ _)
 ·refine JQ I fun Q E k => AutoIntOps.pow_4 (by lia) (by simp; lia) ?_ ?_ (pow_ok h0 h1 h2 h3) (k _ _)
  ·simp only [not_or] at hx
   simp [hx.1, hx.2]
  ·simp; lia
theorem add_ok {a b : PV} {u v : Value} (I : Rp X Z U s.heap) (ra : VRep s.heap Z a u) (rb : VRep s.heap Z b v) : Ok X A [] fs Z s VRep (binaryOp .Add u v) (binAdd a b U) := by
 cases a with
 | int i =>
  refine Zw ra rb fun x y tx ty e1 e2 => ?_
  rw [e1, e2]
  exact JQ I fun Q E k => P.add_int (k _ _)
 | str x =>
  refine .optR fun y hy => .guard fun hz => ?_
  obtain ⟨t, rfl⟩ := ra.inv
  obtain ⟨t', rfl⟩ := (YG hy ▸ rb).inv
  exact ZT I fun Q E k => add_str k (by have := of_decide_eq_true hz; rw [sizeLine_eq]; lia)
 | tup x =>
  refine .optR fun y hy => .guard fun hz => ?_
  obtain ⟨_, _, rfl, ht, n, r⟩ := ra.inv
  obtain ⟨_, _, rfl, ht', n', r'⟩ := (UC hy ▸ rb).inv
  exact add_tup I hz ht n r ht' n' r'
 | loc l =>
  refine .optR fun m hm => ?_
  obtain ⟨_, rfl, hp⟩ := ra.inv
  obtain ⟨_, rfl, hq⟩ := (Oc hm ▸ rb).inv
  exact add_lst I hp hq
 | _ => exact .stuck
theorem binop_ok {op : Operator} {a b : PV} {u v : Value} (I : Rp X Z U s.heap) (ra : VRep s.heap Z a u) (rb : VRep s.heap Z b v) : Ok X A [] fs Z s VRep (binaryOp op u v) (binop op a b U) := by
 cases op <;> first | exact .stuck | skip
 ·exact add_ok I ra rb
 ·refine Zw ra rb fun x y tx ty e1 e2 => ?_
  rw [e1, e2]
  exact JQ I fun Q E k => P.sub_int (k _ _)
 ·refine Zw ra rb fun x y tx ty e1 e2 => .guard fun h => ?_
  rw [e1, e2]
  exact JQ I fun Q E k => P.mul_int (k _ _) (mul_ok h.1)
 ·refine Zw ra rb fun x y tx ty e1 e2 => .guard fun h => ?_
  rw [e1, e2]
  exact JQ I fun Q E k => mod_int' h (k _ _)
 ·refine Zw ra rb fun x y tx ty e1 e2 => .guard fun h => ?_
  rw [e1, e2]
  exact pow_case I h.1 h.2.1 h.2.2.1 h.2.2.2
 ·refine Zw ra rb fun x y tx ty e1 e2 => .guard fun h => ?_
  rw [e1, e2]
  exact JQ I fun Q E k => AutoIntOps.floordiv_1 (by have := h.1; simp; lia) (div_ok h.1 h.2) (k _ _)
end
end Mine
namespace Mine
open PySem PySem.W PyProof.Rows PySem.SeqAt
section
variable {A : Around} {s : Shared}
theorem bytes_beq (a b : Array UInt8) : (a.toList == b.toList) = (a == b) := by
 rw [Bool.eq_iff_iff, beq_iff_eq, beq_iff_eq]
 exact Array.toList_inj
theorem RcAt.bytes_bytes (a : Array UInt8) (t : Tok) (b : Array UInt8) (u : Tok) : RcAt A s (.bytes a t) (.bytes b u) (a == b) := fun prog w E Q h =>
 richCompare_gives (T := "bytes") rfl rfl FB.slot_bytes_eq FB.entry_bytes_eq (FB.args_bytes_eq_2 _ _) (gives_bytes_eq a b t u) (fun x => nomatch x) (by rw [bytes_beq]; exact h)
theorem EqAt.bytes_bytes (a : Array UInt8) (t : Tok) (b : Array UInt8) (u : Tok) : EqAt A s (.bytes a t) (.bytes b u) (a == b) := fun prog w E Q h => by
 unfold eqBool
 refine wpAny_holding ?_
 refine wpAny_ite_split (fun hab => ?_) (fun _ => ?_)
 ·cases eq_of_beq hab
  exact wpAny_bind (wpAny_rule (wpAny_pure (by rw [beq_self_eq_true] at h; exact h)))
 ·exact wpAny_bind (RcAt.bytes_bytes a t b u prog w E _ (wpAny_truthy_bool h))
end
theorem isTuple_inj {h : Heap} {a : Addr} {x y : Array Value} (p : h.IsTuple a x) (q : h.IsTuple a y) : x = y := by
 obtain ⟨o, ho, _, n, hd⟩ := p
 obtain ⟨o', ho', _, n', hd'⟩ := q
 rw [ho] at ho'; cases ho'
 rw [hd] at hd'; cases hd'; rfl
theorem ne_of_fst {Z : Rho} (n : (Je Z).Nodup) {i j : Nat} {p q : Addr × Option Addr} (hi : Z[i]? = some p) (hj : Z[j]? = some q) (e : p.1 = q.1) : i = j :=
 Ou n hi hj (a := p.1) (by simp [Jk]) (by simp [Jk, e])
section
variable {X : Cx} {Z : Rho} {U : St} {h : Heap}
theorem isLs_ex {o : Option PO} (h : isLs o = true) : ∃ xs, o = some (.list xs) := by
 obtain ⟨xs, h⟩ := Option.isSome_iff_exists.mp h
 exact ⟨xs, On h⟩
theorem VRep.uniq_ {h : Heap} (n : (Je Z).Nodup) {v : PV} {u : Value} (a : VRep h Z v u) : ∀ v', VRep h Z v' u -> v = v' := by
 refine VRep.rec (motive_1 := fun v u _ => ∀ v', VRep h Z v' u -> v = v') (motive_2 := fun v u _ => ∀ v', VReps h Z v' u -> v = v') (fun _ b => Eq.symm b.invU) (fun _ _ b => Eq.symm b.invU) (fun _ _ _ b => Eq.symm b.invU) (fun _ _ _ b => Eq.symm b.invU) (fun _ _ _ b => Eq.symm b.invU) ?_ ?_ ?_ ?_ a
 ·intro a items l ht no r ih v' b
  rcases b.invU with ⟨l', items', rfl, ht', _, r'⟩ | ⟨i, p, _, hp, e⟩
  ·exact congrArg _ (ih _ (isTuple_inj ht ht' ▸ r'))
  ·exact absurd (e ▸ Ov hp) no
 ·intro i p hp v' b
  rcases b.invU with ⟨_, _, _, _, no, _⟩ | ⟨j, q, rfl, hq, e⟩
  ·exact absurd (Ov hp) no
  ·rw [ne_of_fst n hp hq e.symm]
 ·intro _ b; cases b; rfl
 ·intro v u vs us a r i1 i2 v' b
  cases b with
  | cons a' r' => rw [i1 _ a', i2 _ r']
theorem eqvz_cons {f : PV -> PV -> Option Bool} {x y : PV} {xs ys : List PV} {r : Bool} (h : ZH f (x :: xs) (y :: ys) = some r) : ∃ a b, f x y = some a /\ ZH f xs ys = some b /\ r = (a && b) := by
 obtain ⟨a, ha, h⟩ := Option.bind_eq_some_iff.mp h
 obtain ⟨b, hb, h⟩ := Option.map_eq_some_iff.mp h
 exact ⟨a, b, ha, hb, h.symm⟩
theorem eqvz_at {f : PV -> PV -> Option Bool} {xs : List PV} : ∀ {ys : List PV} {r : Bool}, ZH f xs ys = some r ->
  ∃ e : Nat -> Bool, r = (List.range (min xs.length ys.length)).all e /\ ∀ i x y, xs[i]? = some x -> ys[i]? = some y -> f x y = some (e i) := by
 induction xs with
 | nil =>
  intro ys r h
  cases h
  exact ⟨fun _ => true, by rw [List.length_nil, Nat.zero_min]; rfl, fun i x y hx => nomatch hx⟩
 | cons x xs ih =>
  intro ys r h
  cases ys with
  | nil =>
   cases h
   exact ⟨fun _ => true, by rw [List.length_nil, Nat.min_zero]; rfl, fun i x y _ hy => nomatch hy⟩
  | cons y ys =>
   obtain ⟨a, b, ha, hb, rfl⟩ := eqvz_cons h
   obtain ⟨e, rfl, k⟩ := ih hb
   refine ⟨fun i => @Nat.rec (fun _ => Bool) a (fun i _ => e i) i, ?_, fun i u v hu hv => ?_⟩
   ·rw [List.length_cons, List.length_cons, Nat.succ_min_succ, List.range_succ_eq_map, List.all_cons, List.all_map]
    rfl
   ·cases i with
    | zero => cases hu; cases hv; exact ha
    | succ i => exact k i u v hu hv
theorem eqvz_refl {f : PV -> PV -> Option Bool} (k : ∀ x r, f x x = some r -> r = true) (xs : List PV) : ∀ r, ZH f xs xs = some r -> r = true := by
 induction xs with
 | nil => exact fun r e => (Option.some.inj e).symm
 | cons x xs ih =>
  intro r e
  obtain ⟨a, b, ha, hb, rfl⟩ := eqvz_cons e
  rw [k _ _ ha, ih _ hb]; rfl
theorem Ow {α β : Type} {o : Option α} {f : α -> β} {b : β} (h : o.map f = some b) : ∃ a, o = some a /\ f a = b := Option.map_eq_some_iff.mp h
theorem YO {α β : Type} {o : Option α} {f : α -> Option β} {b : β} (h : o.bind f = some b) : ∃ a, o = some a /\ f a = some b := Option.bind_eq_some_iff.mp h
theorem eqv_refl (U : St) (n : Nat) : ∀ v r, eqv U n v v = some r -> r = true := by
 induction n with
 | zero => exact fun v r e => nomatch e
 | succ n ih =>
  intro v r e
  cases v with
  | none => cases e
  | bool x => exact (Option.some.inj e).symm.trans (beq_self_eq_true x)
  | int x => exact (Option.some.inj e).symm.trans (beq_self_eq_true x)
  | str x => exact (Option.some.inj e).symm.trans (beq_self_eq_true x)
  | bytes x => exact (Option.some.inj e).symm.trans (beq_self_eq_true x)
  | tup l =>
   obtain ⟨c, hc, q⟩ := Ow (o := ZH (eqv U n) l l) e
   rw [← q, eqvz_refl ih _ _ hc]; exact beq_self_eq_true _
  | loc l =>
   obtain ⟨xs, hx, e⟩ := YO (o := Ul U[l]?) e
   obtain ⟨ys, hy, e⟩ := YO e
   cases hx.symm.trans hy
   rw [if_pos (beq_self_eq_true _)] at e
   exact eqvz_refl ih _ _ e
theorem eqv_same (I : Rp X Z U h) (n : Nat) (v v' : PV) (u : Value) (r : Bool) (a : VRep h Z v u) (b : VRep h Z v' u) (e : eqv U n v v' = some r) : r = true := eqv_refl U n v r (VRep.uniq_ I.nodup a v' b ▸ e)
theorem Jg {a : Addr} {items : Array Value} (p : h.PlainList a items) : h.IsList a items := by
 obtain ⟨n, e⟩ := p
 exact ⟨_, e, rfl, n, rfl⟩
end
theorem units_in1 (A : Around) : A.in1.units = A.units + 1 := rfl
theorem items_at {X : Cx} {Z : Rho} {U : St} {s : Shared} {A : Around} {f : PV -> PV -> Option Bool} {xs ys : List PV} {items items2 : Array Value} {r : Bool} (r1 : VReps s.heap Z xs items.toList) (r2 : VReps s.heap Z ys items2.toList)
  (k : ∀ x y u u' r, VRep s.heap Z x u -> VRep s.heap Z y u' -> f x y = some r -> EqAt A.in1 s u u' r) (h : ZH f xs ys = some r) :
  ∃ e : Nat -> Bool, r = (List.range (min items.size items2.size)).all e /\ ∀ j (h1 : j < items.size) (h2 : j < items2.size), EqAt A.in1 s items[j] items2[j] (e j) := by
 obtain ⟨e, rfl, q⟩ := eqvz_at h
 have l1 : xs.length = items.size := r1.length
 have l2 : ys.length = items2.size := r2.length
 refine ⟨e, by rw [l1, l2], fun j h1 h2 => ?_⟩
 obtain ⟨x, hx, vx⟩ := r1.getU (List.getElem?_eq_getElem h1)
 obtain ⟨y, hy, vy⟩ := r2.getU (List.getElem?_eq_getElem h2)
 exact k x y _ _ _ vx vy (q j x y hx hy)
set_option tactic.hygienic true in
theorem eqls_at {X : Cx} {Z : Rho} {U : St} {s : Shared} (I : Rp X Z U s.heap) {A : Around} {f : PV -> PV -> Option Bool} {l m : Nat} {p q : Addr × Option Addr} {r : Bool} (hu1 : A.units < cLine) (hp : Z[l]? = some p) (hq : Z[m]? = some q)
  (k : ∀ x y u u' r, VRep s.heap Z x u -> VRep s.heap Z y u' -> f x y = some r -> EqAt A.in1 s u u' r) (e : eqLs f U[l]? U[m]? = some r) : RcAt A s (.ref p.1) (.ref q.1) r /\ RcNeAt A s (.ref p.1) (.ref q.1) (!r) := by
 obtain ⟨xs, hx, e⟩ := YO e
 obtain ⟨ys, hy, e⟩ := YO e
 obtain ⟨items, pl, r1⟩ := JB I hp (On hx)
 obtain ⟨items2, pl2, r2⟩ := JB I hq (On hy)
 have l1 : xs.length = items.size := r1.length
 have l2 : ys.length = items2.size := r2.length
 have p1 := Jg pl
 have p2 := Jg pl2
 by_cases hz : (xs.length == ys.length) = true
 ·rw [if_pos hz] at e
  have hz' : items.size = items2.size := by rw [← l1, ← l2]; exact beq_iff_eq.mp hz
  obtain ⟨g, rfl, he⟩ := items_at (X := X) (U := U) r1 r2 k e
  rw [← hz', Nat.min_self]
  exact ⟨RcAt.lists p1 p2 hz' hu1 he, RcNeAt.lists p1 p2 hz' hu1 he⟩
 ·rw [if_neg hz] at e
  cases e
  have hz' : (items.size != items2.size) = true := by rw [← l1, ← l2]; exact bne_iff_ne.mpr fun q => hz (beq_iff_eq.mpr q)
  exact ⟨RcAt.lists_lengths p1 p2 hz' hu1, RcNeAt.lists_lengths p1 p2 hz' hu1⟩
structure Eqs (A : Around) (s : Shared) (v : PV) (u u' : Value) (r : Bool) : Prop where
 rc : RcAt A s u u' r
 eq : EqAt A s u u' r
 ne : isBytes v = false -> RcNeAt A s u u' (!r)
theorem eqv_at {X : Cx} {Z : Rho} {U : St} {s : Shared} (I : Rp X Z U s.heap) : ∀ (n : Nat) (A : Around) (v v' : PV) (u u' : Value) (r : Bool), A.units + n < cLine -> VRep s.heap Z v u -> VRep s.heap Z v' u' -> eqv U n v v' = some r -> Eqs A s v u u' r := by
 intro n
 induction n with
 | zero => exact fun A v v' u u' r _ _ _ e => nomatch e
 | succ n ih =>
  intro A v v' u u' r hu a b e
  have hu1 : A.units < cLine := Nat.lt_of_le_of_lt (Nat.le_add_right _ _) hu
  have hk : ∀ x y u u' r, VRep s.heap Z x u -> VRep s.heap Z y u' -> eqv U n x y = some r -> EqAt A.in1 s u u' r := fun x y u u' r va vb e => (ih A.in1 x y u u' r (by rw [units_in1]; lia) va vb e).eq
  have e0 := e
  have ib := b.inv
  cases v' with
  | none => cases e
  | bytes y =>
   obtain ⟨t, rfl⟩ := ib
   obtain ⟨x, hx, rfl⟩ := Ow (o := asBytes v) e
   obtain ⟨t', rfl⟩ := (asBytes_eq hx ▸ a).inv
   exact ⟨Mine.RcAt.bytes_bytes _ _ _ _, Mine.EqAt.bytes_bytes _ _ _ _, fun k => by rw [asBytes_eq hx] at k; cases k⟩
  | str y =>
   obtain ⟨t, rfl⟩ := ib
   obtain ⟨x, hx, rfl⟩ := Ow (o := Oq v) e
   obtain ⟨t', rfl⟩ := (YG hx ▸ a).inv
   exact ⟨.str_str _ _ _ _, .str_str _ _ _ _, fun _ => .str_str _ _ _ _⟩
  | bool y =>
   cases ib
   obtain ⟨x, hx, rfl⟩ := Ow (o := asBool v) e
   cases (asBool_eq hx ▸ a).inv
   exact ⟨.bool_bool _ _, .bool_bool _ _, fun _ => .bool_bool _ _⟩
  | int y =>
   obtain ⟨t, rfl⟩ := ib
   obtain ⟨x, hx, rfl⟩ := Ow (o := Za v) e
   obtain ⟨t', rfl⟩ := (YH hx ▸ a).inv
   exact ⟨.int_int _ _ _ _, .int_int _ _ _ _, fun _ => .int_int _ _ _ _⟩
  | loc m =>
   obtain ⟨q, rfl, hq⟩ := ib
   obtain ⟨l, hl, e⟩ := YO (o := UD v) e
   obtain ⟨p, rfl, hp⟩ := (Oc hl ▸ a).inv
   have key := eqls_at I hu1 hp hq hk e
   refine ⟨key.1, ?_, fun _ => key.2⟩
   by_cases hne : p.1 = q.1
   ·rw [eqv_same I _ _ _ _ _ (hne ▸ a) b e0, hne]
    exact EqAt.same _
   ·exact EqAt.of_refs hne key.1
  | tup ys =>
   obtain ⟨lb, items2, rfl, ht', n2, r2⟩ := ib
   obtain ⟨xs, hx, e⟩ := YO (o := asTup v) e
   obtain ⟨la, items, rfl, ht, n1, r1⟩ := (UC hx ▸ a).inv
   obtain ⟨r0, hr0, rfl⟩ := Ow e
   obtain ⟨g, rfl, he⟩ := items_at (X := X) (U := U) r1 r2 (A := A) hk hr0
   have l1 : xs.length = items.size := r1.length
   have l2 : ys.length = items2.size := r2.length
   rw [l1, l2] at e0 ⊢
   have q := RcAt.tuples ht ht' hu1 he
   refine ⟨q, ?_, fun _ => RcNeAt.tuples ht ht' hu1 he⟩
   by_cases hne : la = lb
   ·rw [eqv_same I _ _ _ _ _ (hne ▸ a) b e0, hne]
    exact EqAt.same _
   ·exact EqAt.of_refs hne q
section
variable {X : Cx} {Z : Rho} {U : St} {h : Heap}
theorem dictOf_nil {prog : Program} {w : World} {K K' : Type} [DecidableEq K] [DecidableEq K'] {knd : KeyKind prog w K} {knd' : KeyKind prog w K'} {a : Addr} (d : h.DictOf knd a []) : h.DictOf knd' a [] := by
 obtain ⟨o, es, ep, ho, hc, hd, hk, hp, hn⟩ := d
 have e : es = #[] := Array.eq_empty_of_size_eq_zero hp.length
 subst e
 exact ⟨o, _, ep, ho, hc, hd, fun _ q => absurd q (by simp), .nil, .nil⟩
section
variable {prog : Program} {w : World} {K : Type} {dec : DecidableEq K} {knd : KeyKind prog w K} {f : K -> PV}
theorem KG.eq (g : KG prog w K dec knd f) (a b : K) : keyEq (f a) (f b) = decide (a = b) := by
 have k : ∀ {T : Type} [DecidableEq T] [BEq T] [LawfulBEq T] (a b : T), (a == b) = decide (a = b) := fun a b => by
  by_cases e : a = b
  ·rw [e, beq_self_eq_true, decide_eq_true rfl]
  ·rw [beq_eq_false_iff_ne.mpr e, decide_eq_false e]
 cases g
 ·exact k a b
 ·exact k a b
theorem KG.is {x : K} {u : Value} (g : KG prog w K dec knd f) (r : VRep h Z (f x) u) : knd.is x u = true := by
 cases g
 ·obtain ⟨t, rfl⟩ := r.inv; exact strKind_is _ _ _ _
 ·obtain ⟨t, rfl⟩ := r.inv; exact intKind_is _ _ _ _
end
section
variable {K : Type} [DecidableEq K] {f : K -> PV} (hf : ∀ a b, keyEq (f a) (f b) = decide (a = b))
include hf
set_option tactic.hygienic true in
theorem KVs.get (k : K) {es : List (PV × PV)} {kvs : List (K × Value)} (r : KVs h Z f es kvs) : (∀ v, dget (f k) es = some v -> ∃ u, valueAt kvs k = some u /\ VRep h Z v u) /\ (dget (f k) es = none -> valueAt kvs k = none) := by
 induction r with
 | nil => exact ⟨fun _ e => (nomatch e), fun _ => rfl⟩
 | cons a _ ih =>
  rename_i k' v u es kvs _
  have e1 : dget (f k) ((f k', v) :: es) = if decide (k' = k) = true then some v else dget (f k) es := by rw [← hf]; rfl
  rw [e1]
  by_cases e : k' = k
  ·subst e
   rw [if_pos (decide_eq_true rfl)]
   exact ⟨fun w hw => by cases hw; exact ⟨u, by simp [valueAt], a⟩, fun hw => (nomatch hw)⟩
  ·rw [if_neg (by simp [e])]
   have ev : valueAt ((k', u) :: kvs) k = valueAt kvs k := by simp [valueAt, e]
   rw [ev]
   exact ih
theorem KVs.isSome (k : K) {es : List (PV × PV)} {kvs : List (K × Value)} (r : KVs h Z f es kvs) : (valueAt kvs k).isSome = (dget (f k) es).isSome := by
 have g := r.get hf k
 cases q : dget (f k) es with
 | none => rw [g.2 q]; rfl
 | some v => obtain ⟨u, e, _⟩ := g.1 v q; rw [e]; rfl
set_option tactic.hygienic true in
theorem KVs.set (k : K) {v : PV} {u : Value} (q : VRep h Z v u) {es : List (PV × PV)} {kvs : List (K × Value)} (r : KVs h Z f es kvs) (n : (kvs.map (·.1)).Nodup) : KVs h Z f (Ob (f k) v es) (stored kvs k u) := by
 induction r with
 | nil => exact KVs.cons q .nil
 | cons a r ih =>
  rename_i k' v' u' es kvs
  obtain ⟨n1, n2⟩ := List.nodup_cons.mp n
  have e0 : Ob (f k) v ((f k', v') :: es) = if decide (k' = k) = true then (f k', v) :: es else (f k', v') :: Ob (f k) v es := by rw [← hf]; rfl
  rw [e0]
  by_cases e : k' = k
  ·subst e
   rw [if_pos (decide_eq_true rfl)]
   have e1 : stored ((k', u') :: kvs) k' u = (k', u) :: kvs := by
    unfold stored
    rw [if_pos (by simp), List.map_cons, map_store_of_not_mem _ _ _ n1]
    simp
   rw [e1]
   exact .cons q r
  ·rw [if_neg (by simp [e])]
   have e1 : stored ((k', u') :: kvs) k u = (k', u') :: stored kvs k u := by
    unfold stored
    simp only [List.any_cons, e, decide_false, Bool.false_or]
    split <;> simp [e]
   rw [e1]
   exact .cons a (ih n2)
omit hf
omit [DecidableEq K] in
theorem KVs.length {es : List (PV × PV)} {kvs : List (K × Value)} (r : KVs h Z f es kvs) : es.length = kvs.length := by
 induction r with
 | nil => rfl
 | cons _ _ ih => exact congrArg (· + 1) ih
omit [DecidableEq K] in
theorem KVs.keys {es : List (PV × PV)} {kvs : List (K × Value)} (r : KVs h Z f es kvs) : es.map (·.1) = kvs.map fun p => f p.1 := by
 induction r with
 | nil => rfl
 | cons _ _ ih => exact congrArg (_ :: ·) ih
end
inductive DKey (X : Cx) (h : Heap) (Z : Rho) (es : List (PV × PV)) (a : Addr) (k : PV) : Prop
 | mk {K : Type} [dec : DecidableEq K] {knd : KeyKind X.prog X.w K} {f : K -> PV} (g : KG X.prog X.w K dec knd f) (x : K) (kvs : List (K × Value)) (e : k = f x) (d : h.DictOf knd a kvs) (r : KVs h Z f es kvs)
theorem Uy {es : List (PV × PV)} {a : Addr} {k : PV} (D : DRep X h Z es a) (hk : Jt k es = true) : DKey X h Z es a k := by
 obtain ⟨ns, g, kvs, d, r⟩ := D
 cases k <;> first | (cases hk; done) | skip
 ·cases g with
  | int => exact ⟨.int, _, kvs, rfl, d, r⟩
  | str => cases r with
   | nil => exact ⟨.int, _, [], rfl, dictOf_nil d, .nil⟩
   | cons _ _ => cases hk
 ·cases g with
  | str => exact ⟨.str, _, kvs, rfl, d, r⟩
  | int => cases r with
   | nil => exact ⟨.str, _, [], rfl, dictOf_nil d, .nil⟩
   | cons _ _ => cases hk
theorem DRep.ns_ {es : List (PV × PV)} {a : Addr} (D : DRep X h Z es a) : a ≠ sysModules := by obtain ⟨ns, _⟩ := D; exact ns
theorem ZB (I : Rp X Z U h) {l : Nat} {p : Addr × Option Addr} {es : List (PV × PV)} (hp : Z[l]? = some p) (hl : U[l]? = some (.dict es)) : DRep X h Z es p.1 := by
 have r := I.objs _ _ _ hp hl
 cases r with
 | dict d => exact d
theorem notSys' (I : Rp X Z U h) {l : Nat} {p : Addr × Option Addr} {es : List (PV × PV)} (hp : Z[l]? = some p) (hl : U[l]? = some (.dict es)) : (p.1 == sysModules) = false := by
 obtain ⟨ns, _⟩ := ZB I hp hl
 exact beq_eq_false_iff_ne.mpr ns
end
section
variable {X : Cx} {A : Around} {Z : Rho} {U : St} {s : Shared}
noncomputable def Gv (X : Cx) (A : Around) (s : Shared) {β : Type} (t : Sem β) (b : β) : Prop := ∀ (Q : β -> Shared -> Prop) (E : Value -> Shared -> Prop), (∀ k, Q b { s with toks := k }) -> wpAny (model X.prog X.w) A t Q E s
theorem tk (s : Shared) {P : Shared -> Prop} (h : ∀ k, P { s with toks := k }) : P s := h s.toks
theorem isEmpty_eq {xs : List PV} {items : Array Value} (e1 : xs.length = items.size) : xs.isEmpty = items.isEmpty := by
 cases xs with
 | nil => exact (Array.isEmpty_iff_size_eq_zero.mpr e1.symm).symm
 | cons x r =>
  cases hi : items.isEmpty with
  | false => rfl
  | true => rw [Array.isEmpty_iff_size_eq_zero.mp hi] at e1; cases e1
set_option tactic.hygienic true in
theorem truthy_ok {v : PV} {u : Value} {b : Bool} (I : Rp X Z U s.heap) (r : VRep s.heap Z v u) (e : truthy U v = some b) : Gv X A s (PySem.truthy u) b := fun Q E k => by
 have ir := r.inv
 cases v with
 | none => cases e; cases ir; exact truthy_none (k s.toks)
 | bool x => cases e; cases ir; exact wpAny_truthy_bool (k s.toks)
 | loc l =>
  obtain ⟨p, rfl, hp⟩ := ir
  cases ho : U[l]? with
  | none => rw [show truthy U (.loc l) = none by show (match U[l]? with | some (.list xs) => _ | _ => _) = _; rw [ho]] at e; cases e
  | some o =>
   rw [show truthy U (.loc l) = (match some o with | some (.list xs) => if Jp xs.length then some (!xs.isEmpty) else none | _ => none) by rw [← ho]; rfl] at e
   cases o with
   | list xs =>
    obtain ⟨items, pl, rr⟩ := JB I hp ho
    have e1 : xs.length = items.size := rr.length
    by_cases hz : Jp xs.length = true
    ·have e : (if Jp xs.length = true then some (!xs.isEmpty) else none) = some b := e
     rw [if_pos hz] at e
     cases e
     rw [isEmpty_eq e1] at k
     exact wpAny_truthy_list (Jg pl) (by have := of_decide_eq_true hz; lia) (k _)
    ·have e : (if Jp xs.length = true then some (!xs.isEmpty) else none) = some b := e
     rw [if_neg hz] at e; cases e
   | _ => cases e
 | _ => cases e
theorem VReps.memU {h : Heap} {l : List PV} {us : List Value} (r : VReps h Z l us) : ∀ u, u ∈ us -> ∃ v, v ∈ l /\ VRep h Z v u := by
 induction r using VReps.ind with
 | nil => exact fun u q => nomatch q
 | cons a r ih =>
  intro u q
  rcases List.mem_cons.mp q with rfl | q
  ·exact ⟨_, List.mem_cons_self, a⟩
  ·obtain ⟨v, h1, h2⟩ := ih u q
   exact ⟨v, List.mem_cons_of_mem _ h1, h2⟩
theorem anyEq_at {us : List Value} {u : Value} {x : PV} {ys : List PV} (I : Rp X Z U s.heap) (hu : A.units + 32 < cLine) (rx : VRep s.heap Z x u) (rs : VReps s.heap Z ys us) : ∀ {r : Bool}, Od U x ys = some r ->
  ∃ e : Value -> Bool, us.any e = r /\ ∀ y, y ∈ us -> EqAt A.in1 s y u (e y) := by
 classical
 have key : ∀ y w c, VRep s.heap Z y w -> eqv U JL y x = some c -> (eqv U JL y x).getD false = c /\ EqAt A.in1 s w u c := fun y w c ry ec =>
  ⟨by rw [ec]; rfl, (eqv_at I JL A.in1 y x w u c (by rw [units_in1]; unfold JL; lia) ry rx ec).eq⟩
 let g : Value -> Bool := fun w => decide (∃ y, VRep s.heap Z y w /\ eqv U JL y x = some true)
 have gg : ∀ y w c, VRep s.heap Z y w -> eqv U JL y x = some c -> g w = c := fun y w c ry ec => by
  cases c with
  | true => exact decide_eq_true ⟨y, ry, ec⟩
  | false =>
   refine decide_eq_false fun ⟨z, rz, ez⟩ => ?_
   rw [VRep.uniq_ I.nodup rz _ ry, ec] at ez; cases ez
 intro r e
 refine ⟨g, ?_⟩
 induction rs using VReps.ind generalizing r with
 | nil => cases e; exact ⟨rfl, fun _ q => nomatch q⟩
 | cons a rs ih =>
  obtain ⟨c, hc, e⟩ := Option.bind_eq_some_iff.mp e
  obtain ⟨d, hd, rfl⟩ := Option.map_eq_some_iff.mp e
  obtain ⟨i1, i2⟩ := ih hd
  have e1 := gg _ _ _ a hc
  refine ⟨by rw [List.any_cons, i1, e1], fun y hy => ?_⟩
  rcases List.mem_cons.mp hy with rfl | hy
  ·rw [e1]; exact (key _ _ _ a hc).2
  ·exact i2 y hy
set_option tactic.hygienic true in
theorem isIn_ok {a b : PV} {u v : Value} {r : Bool} (I : Rp X Z U s.heap) (hu : A.units + 32 < cLine) (ra : VRep s.heap Z a u) (rb : VRep s.heap Z b v) (e : isIn a b U = some r) :
  Gv X A s (compareOp .In u v) (.bool r) /\ Gv X A s (compareOp .NotIn u v) (.bool (!r)) := by
 have ib := rb.inv
 cases b with
 | str y =>
  obtain ⟨t, rfl⟩ := ib
  obtain ⟨x, hx, rfl⟩ := Ow (o := Oq a) e
  obtain ⟨t', rfl⟩ := (YG hx ▸ ra).inv
  exact ⟨fun Q E k => P.in_str (k s.toks), fun Q E k => P.notIn_str (k s.toks)⟩
 | tup l =>
  obtain ⟨b, items, rfl, ht, n, rr⟩ := ib
  obtain ⟨g, e1, e2⟩ := anyEq_at I hu ra rr e
  rw [Array.any_toList] at e1
  subst e1
  exact ⟨fun Q E k => in_tupleAt g ht (fun y hy => e2 y hy.val) (k s.toks), fun Q E k => notIn_tupleAt g ht (fun y hy => e2 y hy.val) (k s.toks)⟩
 | loc l =>
  obtain ⟨p, rfl, hp⟩ := ib
  have e : inObj U a U[l]? = some r := e
  cases ho : U[l]? with
  | none => rw [ho] at e; cases e
  | some o =>
  rw [ho] at e
  cases o <;> first | (cases e; done) | skip
  ·obtain ⟨items, pl, rr⟩ := JB I hp ho
   have ht := Jg pl
   obtain ⟨g, e1, e2⟩ := anyEq_at I hu ra rr e
   rw [Array.any_toList] at e1
   subst e1
   exact ⟨fun Q E k => in_listAt g ht (fun y hy => e2 y hy.val) (k s.toks), fun Q E k => notIn_listAt g ht (fun y hy => e2 y hy.val) (k s.toks)⟩
  ·rename_i es
   have e : (if Jt a es = true then some (dget a es).isSome else none) = some r := e
   by_cases hk : Jt a es = true
   ·rw [if_pos hk] at e
    cases e
    obtain ⟨g, x, kvs, rfl, d, q⟩ := Uy (ZB I hp ho) hk
    have ns := notSys' I hp ho
    rw [← q.isSome g.eq]
    exact ⟨fun Q E k => wpAny_in_of (k := x) (g.is ra) ns d.mapOf (k _), fun Q E k => wpAny_notIn_of (k := x) (g.is ra) ns d.mapOf (k _)⟩
   ·rw [if_neg hk] at e; cases e
 | _ => cases e
theorem vnone {v : PV} {u : Value} {h : Heap} (r : VRep h Z v u) : (u == Value.none) = isNone v := by
 cases r <;> rfl
theorem none_of {v : PV} {u : Value} {h : Heap} (r : VRep h Z v u) (e : isNone v = true) : u = .none := by
 cases r <;> first | rfl | cases e
theorem KO {a b : PV} {u v : Value} {r : Bool} {t : Sem Value} {f : Int -> Int -> Bool} (ra : VRep s.heap Z a u) (rb : VRep s.heap Z b v) (e : cmp2 a b f = some r) (h : ∀ x y tx ty, u = .int x tx -> v = .int y ty -> Gv X A s t (.bool (f x y))) : Gv X A s t (.bool r) := by
 obtain ⟨x, hx, e⟩ := YO e
 obtain ⟨y, hy, rfl⟩ := Ow e
 obtain ⟨tx, e1⟩ := (YH hx ▸ ra).inv
 obtain ⟨ty, e2⟩ := (YH hy ▸ rb).inv
 exact h x y tx ty e1 e2
theorem le_ok {a b : PV} {u v : Value} {r : Bool} (ra : VRep s.heap Z a u) (rb : VRep s.heap Z b v) (e : leOf a b = some r) : Gv X A s (compareOp .LtE u v) (.bool r) := by
 cases a with
 | str x =>
  obtain ⟨y, hy, rfl⟩ := Ow (o := Oq b) e
  obtain ⟨t, rfl⟩ := ra.inv
  obtain ⟨t', rfl⟩ := (YG hy ▸ rb).inv
  exact fun Q E k => P.le_str (k s.toks)
 | int i => exact KO (f := fun x y => decide (x ≤ y)) ra rb e fun x y tx ty e1 e2 Q E k => by rw [e1, e2]; exact P.le_int (k s.toks)
 | _ => cases e
theorem cmpop_ok {op : CmpOp} {a b : PV} {u v : Value} {r : Bool} (I : Rp X Z U s.heap) (hu : A.units + 32 < cLine) (ra : VRep s.heap Z a u) (rb : VRep s.heap Z b v) (e : cmpop op a b U = some r) : Gv X A s (compareOp op u v) (.bool r) := by
 have hu' : A.units + JL < cLine := by unfold JL; lia
 cases op <;> first | (cases e; done) | skip
 ·exact fun Q E k => (eqv_at I JL A a b u v r hu' ra rb e).rc _ _ _ _ (k s.toks)
 ·have e : (if isBytes a = true then none else (eqv U JL a b).map (! ·)) = some r := e
  cases hb : isBytes a with
  | true => rw [hb] at e; cases e
  | false =>
   rw [hb] at e
   obtain ⟨c, e1, rfl⟩ := Option.map_eq_some_iff.mp e
   exact fun Q E k => (eqv_at I JL A a b u v c hu' ra rb e1).ne hb _ _ _ _ (k s.toks)
 ·exact KO ra rb e fun x y tx ty e1 e2 Q E k => by rw [e1, e2]; exact P.lt_int (k s.toks)
 ·exact le_ok ra rb e
 ·exact KO ra rb e fun x y tx ty e1 e2 Q E k => by rw [e1, e2]; exact P.gt_int (k s.toks)
 ·exact KO ra rb e fun x y tx ty e1 e2 Q E k => by rw [e1, e2]; exact P.ge_int (k s.toks)
 ·have e : (if isNone b = true then some (isNone a) else none) = some r := e
  by_cases hb : isNone b = true
  ·rw [if_pos hb] at e
   cases e
   rw [none_of rb hb]
   exact fun Q E k => is_none_gen (by rw [vnone ra]; exact k s.toks)
  ·rw [if_neg hb] at e; cases e
 ·have e : (if isNone b = true then some (!isNone a) else none) = some r := e
  by_cases hb : isNone b = true
  ·rw [if_pos hb] at e
   cases e
   rw [none_of rb hb]
   exact fun Q E k => isnot_none_gen (by rw [vnone ra]; exact k s.toks)
  ·rw [if_neg hb] at e; cases e
 ·exact (isIn_ok I hu ra rb e).1
 ·obtain ⟨c, e1, rfl⟩ := Option.map_eq_some_iff.mp e
  exact (isIn_ok I hu ra rb e1).2
end
section
variable {α : Type} {lt : α -> α -> Bool}
theorem insG_perm (x : α) (l : List α) : (Gy lt x l).Perm (x :: l) := by
 induction l with
 | nil => exact .refl _
 | cons y r ih =>
  show (if lt x y = true then x :: y :: r else y :: Gy lt x r).Perm _
  by_cases h : lt x y = true
  ·rw [if_pos h]
  ·rw [if_neg h]; exact (ih.cons y).trans (.swap _ _ _)
theorem sortG_perm (l : List α) : (YJ lt l).Perm l := by
 induction l with
 | nil => exact .refl _
 | cons x r ih => exact (insG_perm x _).trans (ih.cons x)
theorem insG_up (ht : ∀ a b c : α, lt b a = false -> lt c b = false -> lt c a = false) (ha : ∀ a b : α, lt a b = true -> lt b a = false) (x : α) (l : List α) (h : l.Pairwise (fun a b => lt b a = false)) : (Gy lt x l).Pairwise (fun a b => lt b a = false) := by
 induction l with
 | nil => exact List.pairwise_singleton _ _
 | cons y r ih =>
  obtain ⟨h1, h2⟩ := List.pairwise_cons.mp h
  show (if lt x y = true then x :: y :: r else y :: Gy lt x r).Pairwise _
  by_cases hx : lt x y = true
  ·rw [if_pos hx]
   refine List.pairwise_cons.mpr ⟨fun z hz => ?_, h⟩
   rcases List.mem_cons.mp hz with e | hz
   ·rw [e]; exact ha _ _ hx
   ·exact ht x y z (ha _ _ hx) (h1 z hz)
  ·rw [if_neg hx]
   refine List.pairwise_cons.mpr ⟨fun z hz => ?_, ih h2⟩
   rcases List.mem_cons.mp ((insG_perm x r).mem_iff.mp hz) with e | hz
   ·rw [e]; exact Bool.eq_false_iff.mpr hx
   ·exact h1 z hz
theorem sortG_up (ht : ∀ a b c : α, lt b a = false -> lt c b = false -> lt c a = false) (ha : ∀ a b : α, lt a b = true -> lt b a = false) (l : List α) : (YJ lt l).Pairwise (fun a b => lt b a = false) := by
 induction l with
 | nil => exact .nil
 | cons x r ih => exact insG_up ht ha x _ ih
theorem KW (ht : ∀ a b c : α, lt b a = false -> lt c b = false -> lt c a = false) (ha : ∀ a b : α, lt a b = true -> lt b a = false) (he : ∀ a b : α, lt a b = false -> lt b a = false -> a = b)
  {l l' : List α} (hp : l'.Perm l) (hs : l'.Pairwise (fun a b => lt b a = false)) : l' = YJ lt l :=
 List.Perm.eq_of_pairwise (fun a b _ _ h1 h2 => he a b h2 h1) hs (sortG_up ht ha l) (hp.trans (sortG_perm l).symm)
end
theorem sltS_tr (a b c : Str) (h1 : Of b a = false) (h2 : Of c b = false) : Of c a = false := by
 simp only [Of, decide_eq_false_iff_not] at *
 exact fun h => by
  have h1' : a.cps.toList ≤ b.cps.toList := h1
  have h2' : b.cps.toList ≤ c.cps.toList := h2
  exact (List.le_trans h1' h2') h
theorem sltS_as (a b : Str) (h1 : Of a b = true) : Of b a = false := by
 simp only [Of, decide_eq_false_iff_not, decide_eq_true_eq] at *
 exact fun h => List.lt_asymm h1 h
theorem sltS_eq (a b : Str) (h1 : Of a b = false) (h2 : Of b a = false) : a = b := by
 simp only [Of, decide_eq_false_iff_not] at *
 have : a.cps.toList = b.cps.toList := List.le_antisymm (by exact h2) (by exact h1)
 cases a; cases b
 simp only [Str.mk.injEq]
 exact Array.toList_inj.mp this
theorem rising_pw (l : List Str) : ∀ x : Str, risingS x l = true -> l.Pairwise (fun a b => Of b a = false) /\ ∀ y, y ∈ l -> Of y x = false := by
 induction l with
 | nil => exact fun x _ => ⟨.nil, fun y h => nomatch h⟩
 | cons y r ih =>
  intro x h
  simp only [risingS, Bool.and_eq_true, Bool.not_eq_true', ltCps_eq] at h
  have h2 := h.2
  have h1 : Of y x = false := h.1
  obtain ⟨i1, i2⟩ := ih y h2
  refine ⟨List.pairwise_cons.mpr ⟨i2, i1⟩, fun z hz => ?_⟩
  rcases List.mem_cons.mp hz with e | hz
  ·rw [e]; exact h1
  ·exact sltS_tr x y z h1 (i2 z hz)
theorem sortS_eq {l l' : List Str} (hp : l'.Perm l) (hs : sortedS l' = true) : l' = YJ Of l := by
 refine KW sltS_tr sltS_as sltS_eq hp ?_
 cases l' with
 | nil => exact .nil
 | cons x r =>
  obtain ⟨i1, i2⟩ := rising_pw r x hs
  exact List.pairwise_cons.mpr ⟨i2, i1⟩
theorem sortI_eq {l l' : List Int} (hp : l'.Perm l) (hs : l'.Pairwise (· ≤ ·)) : l' = YJ sltI l := by
 refine KW (fun a b c h1 h2 => decide_eq_false ?_) (fun a b h => decide_eq_false ?_) (fun a b h1 h2 => ?_) hp (hs.imp fun {a b} h => decide_eq_false (Int.not_lt.mpr h))
 ·exact Int.not_lt.mpr (Int.le_trans (Int.not_lt.mp (of_decide_eq_false h1)) (Int.not_lt.mp (of_decide_eq_false h2)))
 ·exact Int.not_lt.mpr (Int.le_of_lt (of_decide_eq_true h))
 ·exact Int.le_antisymm (Int.not_lt.mp (of_decide_eq_false h2)) (Int.not_lt.mp (of_decide_eq_false h1))
section
variable {h : Heap} {Z : Rho}
theorem VReps.one {v : PV} {us : List Value} (r : VReps h Z [v] us) : ∃ u, us = [u] /\ VRep h Z v u := by
 cases r with | cons a r => cases r; exact ⟨_, rfl, a⟩
theorem Go {β : Type} {f : PV -> Option β} {P : List Value -> List β -> Prop} (nil : P [] []) (cons : ∀ v u x us xs, VRep h Z v u -> f v = some x -> P us xs -> P (u :: us) (x :: xs)) {xs : List PV} {us : List Value} (r : VReps h Z xs us) : ∀ {ns : List β}, mapO f xs = some ns -> P us ns := by
 induction r using VReps.ind with
 | nil => exact fun e => Option.some.inj e ▸ nil
 | cons a r ih =>
  intro ns e
  obtain ⟨x, hx, e⟩ := YO e
  obtain ⟨m, hm, rfl⟩ := Ow e
  exact cons _ _ _ _ _ a hx (ih hm)
theorem Kd {xs : List PV} {us : List Value} (r : VReps h Z xs us) {ns : List Str} (e : OM xs = some ns) : StrsAre us ns := Go (P := StrsAre) .nil (fun v u x us xs a e r => by
 obtain ⟨t, rfl⟩ := (YG e ▸ a).inv
 exact .cons x t r) r e
theorem intKeys_are {xs : List PV} {us : List Value} (r : VReps h Z xs us) {ns : List Int} (e : Ur xs = some ns) : IntsAre us ns := Go (P := IntsAre) .nil (fun v u x us xs a e r => by
 obtain ⟨t, rfl⟩ := (YH e ▸ a).inv
 exact .cons x t r) r e
theorem Kr {xs : List PV} {us : List Value} (r : VReps h Z xs us) {ns : List Bool} (e : YN xs = some ns) : LSm.BoolsAre us ns := Go (P := LSm.BoolsAre) .nil (fun v u x us xs a e r => by
 cases (asBool_eq e ▸ a).inv
 exact .cons x r) r e
theorem ints_rep {us : List Value} {ns : List Int} (r : IntsAre us ns) : VReps h Z (ns.map .int) us := by
 induction r with
 | nil => exact .nil
 | cons n t _ ih => exact .cons (.int n t) ih
theorem strs_rep {us : List Value} {ns : List Str} (r : StrsAre us ns) : VReps h Z (ns.map .str) us := by
 induction r with
 | nil => exact .nil
 | cons n t _ ih => exact .cons (.str n t) ih
end
section
variable {X : Cx} {A : Around} {W fs : List Addr} {Z : Rho} {U : St} {s : Shared}
theorem get?_oob {h : Heap} {a : Addr} (e : h.objs.size ≤ a) : h.get? a = none := by
 cases q : h.get? a with
 | none => rfl
 | some o => exact absurd (Heap.lt_size q) (Nat.not_lt.mpr e)
theorem YW {t : Sem Value} {l : List PV} (I : Rp X Z U s.heap)
  (h : ∀ Q E, (∀ a h' k items, (∀ b o, s.heap.get? b = some o -> h'.get? b = some o) -> s.heap.get? a = none -> h'.PlainList a items -> VReps s.heap Z l items.toList -> Q (.ref a) { s with heap := h', toks := k }) -> wpAny (model X.prog X.w) A t Q E s) :
  Ok X A [] fs Z s VRep t (JT (.list l) U) :=
 Ok.to fun Q E k => h Q E fun a h' j items kp ha hp r => by
  have hn : ∀ b, b ∈ Jk (a, (none : Option Addr)) -> s.heap.get? b = none := fun b q => by simp [Jk] at q; subst q; exact ha
  have S : Step (W := []) (fs := fs) Z (Z ++ [(a, none)]) s.heap h' := Step.grow kp fun b q => hn b (by simpa [Je] using q)
  refine k _ (Z ++ [(a, none)]) _ ⟨_, j, rfl⟩ (I.grow kp hn (by simp [Jk]) fun S' => ?_) ?_ S
  ·exact .list hp (r.step S' Ja)
  ·have : (Z ++ [(a, (none : Option Addr))])[U.length]? = some (a, none) := by rw [← I.len]; simp
   exact .loc this
theorem ok_newtup {t : Sem Value} {l : List PV} (I : Rp X Z U s.heap)
  (h : ∀ Q E, (∀ a h' k items, (∀ b o, s.heap.get? b = some o -> h'.get? b = some o) -> s.heap.get? a = none -> h'.IsTuple a items -> VReps s.heap Z l items.toList -> Q (.ref a) { s with heap := h', toks := k }) -> wpAny (model X.prog X.w) A t Q E s) :
  Ok X A [] fs Z s VRep t (.ok (.tup l) U) :=
 Ok.to fun Q E k => h Q E fun a h' j items kp ha hp r => by
  have S : Step (W := []) (fs := fs) Z Z s.heap h' := Step.of_keeps kp
  have S' : Step (W := []) (fs := fs) Z Z s.heap h' := Step.of_keeps kp
  exact k _ Z _ ⟨_, j, rfl⟩ (I.keeps kp) (.tup hp (I.offNew ha) (r.step S' Ja)) S
theorem ok_grown {t : Sem Value} {v : PV} {u : Value} (I : Rp X Z U s.heap) (r : VRep s.heap Z v u)
  (h : ∀ Q E, (∀ h' k, (∀ b o, s.heap.get? b = some o -> h'.get? b = some o) -> Q u { s with heap := h', toks := k }) -> wpAny (model X.prog X.w) A t Q E s) : Ok X A [] fs Z s VRep t (.ok v U) :=
 Ok.to fun Q E k => h Q E fun h' j kp => by
  have S : Step (W := []) (fs := fs) Z Z s.heap h' := Step.of_keeps kp
  have S' : Step (W := []) (fs := fs) Z Z s.heap h' := Step.of_keeps kp
  exact k _ Z _ ⟨_, j, rfl⟩ (I.keeps kp) (r.step S' Ja) S
noncomputable def biCall : Bi -> List Value -> Value × List Value
 | .len, us => (.builtin "len", us)
 | .sorted, us => (.builtin "sorted", us)
 | .list, us => (.type "list", us)
 | .tuple, us => (.type "tuple", us)
 | .all, us => (.builtin "all", us)
 | .any, us => (.builtin "any", us)
 | .ord, us => (.builtin "ord", us)
 | .chr, us => (.builtin "chr", us)
 | .str, us => (.type "str", us)
 | .abs, us => (.builtin "abs", us)
 | .int, us => (.type "int", us)
 | .isStr, us => (.builtin "isinstance", us ++ [.type "str"])
 | .isInt, us => (.builtin "isinstance", us ++ [.type "int"])
 | .isBool, us => (.builtin "isinstance", us ++ [.type "bool"])
 | .isBytes, us => (.builtin "isinstance", us ++ [.type "bytes"])
 | .isTuple, us => (.builtin "isinstance", us ++ [.type "tuple"])
theorem YL {T : String} {b : Array UInt8} {t : Tok} (hne : (Value.type "bytes" == Value.type T) = false) (hty : typeOf (.type T) = pure (.type "type")) (hsub : isSubtype (.type "bytes") (.type T) = pure false) {E : Value -> Shared -> Prop} {Q : Value -> Shared -> Prop}
  (h : Q (.bool false) { s with toks := s.toks + 1 }) : wpAny (model X.prog X.w) A (call (.builtin "isinstance") [.bytes b t, .type T]) Q E s :=
 call_isinstance (S := fun _ R s => R (.ok (.ret (.bool false))) { s with toks := s.toks + 1 }) (fun _ _ _ _ s hs => by
  obtain ⟨h, g, d, tt, os⟩ := s
  exact isinstance_outer (isinstance_nested_false_bytes hne hty hsub hs)) h
theorem Gu (I : Rp X Z U s.heap) {v : PV} {u : Value} (r : VRep s.heap Z v u) (hp : JO U v = true) :
  Gv X A s (call (.builtin "isinstance") [u, .type "str"]) (.bool (Mine.isStr v)) /\
  Gv X A s (call (.builtin "isinstance") [u, .type "int"]) (.bool (Mine.isInt v)) /\
  Gv X A s (call (.builtin "isinstance") [u, .type "bool"]) (.bool (Mine.isBool v)) /\
  Gv X A s (call (.builtin "isinstance") [u, .type "bytes"]) (.bool (Mine.isBytes v)) /\
  Gv X A s (call (.builtin "isinstance") [u, .type "tuple"]) (.bool (Mine.isTuple v)) := by
 have i := r.inv
 cases v with
 | none => cases i; exact ⟨fun Q E k => IsiPair.NoneType_str (k _), fun Q E k => IsiPair.NoneType_int (k _), fun Q E k => IsiPair.NoneType_bool (k _), fun Q E k => IsiPair.NoneType_bytes (k _), fun Q E k => IsiPair.NoneType_tuple (k _)⟩
 | bool b => cases i; exact ⟨fun Q E k => IsiPair.bool_str (k _), fun Q E k => IsiPair.bool_int (k s.toks), fun Q E k => IsiPair.bool_bool (k s.toks), fun Q E k => IsiPair.bool_bytes (k _), fun Q E k => IsiPair.bool_tuple (k _)⟩
 | int b => obtain ⟨t, rfl⟩ := i; exact ⟨fun Q E k => IsiPair.int_str (k _), fun Q E k => IsiPair.int_int (k s.toks), fun Q E k => IsiPair.int_bool (k _), fun Q E k => IsiPair.int_bytes (k _), fun Q E k => IsiPair.int_tuple (k _)⟩
 | str b => obtain ⟨t, rfl⟩ := i; exact ⟨fun Q E k => IsiPair.str_str (k s.toks), fun Q E k => IsiPair.str_int (k _), fun Q E k => IsiPair.str_bool (k _), fun Q E k => IsiPair.str_bytes (k _), fun Q E k => IsiPair.str_tuple (k _)⟩
 | bytes b =>
  obtain ⟨t, rfl⟩ := i
  exact ⟨fun Q E k => YL (by decide +kernel) F.isi_meta_str F.sub_bytes_str (k _), fun Q E k => YL (by decide +kernel) F.isi_meta_int F.sub_bytes_int (k _), fun Q E k => YL (by decide +kernel) F.isi_meta_bool F.sub_bytes_bool (k _),
   fun Q E k => call_isinstance (isinstance_true (Tx := "bytes") F.isi_meta_bytes F.sub_bytes_bytes) ⟨rfl, k s.toks⟩, fun Q E k => YL (by decide +kernel) F.isi_meta_tuple F.sub_bytes_tuple (k _)⟩
 | tup xs =>
  obtain ⟨_, _, rfl, ⟨o, ho, hc, _⟩, _⟩ := i
  exact ⟨fun Q E k => IsiPair.tuple_str ho hc (k _), fun Q E k => IsiPair.tuple_int ho hc (k _), fun Q E k => IsiPair.tuple_bool ho hc (k _), fun Q E k => IsiPair.tuple_bytes ho hc (k _), fun Q E k => IsiPair.tuple_tuple ho hc (k s.toks)⟩
 | loc l =>
  obtain ⟨_, rfl, hq⟩ := i
  obtain ⟨xs, hx⟩ := isLs_ex hp
  obtain ⟨items, ⟨n, ho⟩, _⟩ := JB I hq hx
  exact ⟨fun Q E k => IsiPair.list_str ho rfl (k _), fun Q E k => IsiPair.list_int ho rfl (k _), fun Q E k => IsiPair.list_bool ho rfl (k _), fun Q E k => IsiPair.list_bytes ho rfl (k _), fun Q E k => IsiPair.list_tuple ho rfl (k _)⟩
theorem JU {xs : List PV} {items : Array Value} (r : VReps s.heap Z xs items.toList) : items.size = xs.length :=
 r.length.symm
theorem JD {n : Nat} (h : Jp n = true) : n ≤ 1000000 := of_decide_eq_true h
theorem Gq {h' : Heap} {o : Obj} (hk : ∀ b x, b ∉ [s.heap.objs.size] -> (s.heap.push o).get? b = some x -> h'.get? b = some x) : ∀ b x, s.heap.get? b = some x -> h'.get? b = some x :=
 fun b x e => hk b x (fun hm => by rw [List.mem_singleton.mp hm] at e; exact Nat.lt_irrefl _ (Heap.lt_size e)) (Heap.get?_push_of_some _ e)
theorem sorted_at (h : Heap) (vs : List Value) (out : Array Value) : (∀ b o, h.get? b = some o -> (sortedAll h vs out).get? b = some o) /\ (sortedAll h vs out).PlainList (h.objs.size + 1) out := by
 obtain ⟨e, he⟩ := sortedAll_at h vs out
 exact ⟨fun _ _ => sortedAll_old, ⟨e, by simpa [seqObj] using he⟩⟩
theorem KG.reps {prog : Program} {w : World} {K : Type} {dec : DecidableEq K} {knd : KeyKind prog w K} {f : K -> PV} {h : Heap} {Z : Rho} (g : KG prog w K dec knd f) {x : K} {v : Value} (e : knd.is x v = true) : VRep h Z (f x) v := by
 cases g
 ·obtain ⟨t, rfl⟩ := Value.isStrOf_shape e; exact .str _ _
 ·obtain ⟨t, rfl⟩ := Value.isInt_shape e; exact .int _ _
theorem reps_of {h : Heap} {Z : Rho} {l : List PV} : ∀ {us : List Value}, us.length = l.length -> (∀ (i : Nat) (x : PV), l[i]? = some x -> ∃ u, us[i]? = some u /\ VRep h Z x u) -> VReps h Z l us := by
 induction l with
 | nil => intro us e _; cases us with
  | nil => exact .nil
  | cons _ _ => cases e
 | cons x l ih => intro us e k; cases us with
  | nil => cases e
  | cons u us =>
   obtain ⟨u', q, r⟩ := k 0 x rfl
   cases q
   exact .cons r (ih (Nat.succ.inj e) fun i y hy => k (i + 1) y hy)
theorem dlist {es : List (PV × PV)} {d : Addr} (I : Rp X Z U s.heap) (hh : A.handled = none) (D : DRep X s.heap Z es d) (ns : (d == sysModules) = false) (hz : es.length ≤ 1000000) : Ok X A [] fs Z s VRep (call (.type "list") [.ref d]) (JT (.list (es.map (·.1))) U) :=
 YW I fun Q E k => by
  obtain ⟨_, g, kvs, d, r⟩ := D
  obtain ⟨ep, hat⟩ := d.dictAt
  refine kdl_call (kdl_dict (ep := ep) ns) hh hat (by rw [sizeLine_eq, ← r.length]; lia) fun h' tk acc' c' hk hD hacc => ?_
  refine k _ h' tk acc' hk (get?_size _) ⟨c', hD⟩ ?_
  rw [r.keys]
  refine reps_of (by rw [List.length_map]; exact hacc.1) fun i x hx => ?_
  obtain ⟨⟨k', v'⟩, e1, e0⟩ := Option.map_eq_some_iff.mp (List.getElem?_map .. ▸ hx)
  cases e0
  have hi : i < acc'.size := by rw [hacc.1]; exact (List.getElem?_eq_some_iff.mp e1).1
  obtain ⟨k2, x2, e2, e3⟩ := hacc.2 i acc'[i] (Array.getElem?_eq_getElem hi)
  rw [e1] at e2
  cases e2
  exact ⟨_, by rw [Array.getElem?_toList, Array.getElem?_eq_getElem hi], g.reps e3⟩
theorem Gg {t : Value -> Sem Value} {v : PV} {u : Value} {f : List PV -> R PV} (I : Rp X Z U s.heap) (r : VRep s.heap Z v u) (h : ∀ a items xs, s.heap.PlainList a items -> VReps s.heap Z xs items.toList -> Ok X A [] fs Z s VRep (t (.ref a)) (f xs)) : Ok X A [] fs Z s VRep (t u) (lstR U v f) :=
 .optR fun l hl => .optR fun xs hx => by
  obtain ⟨p, rfl, hp⟩ := (Oc hl ▸ r).inv
  obtain ⟨items, pl, rr⟩ := JB I hp (On hx)
  exact h _ _ _ pl rr
theorem YX {t : Value -> Sem Value} {v : PV} {u : Value} {f : Int -> R PV} (r : VRep s.heap Z v u) (h : ∀ i k, Ok X A [] fs Z s VRep (t (.int i k)) (f i)) : Ok X A [] fs Z s VRep (t u) (UB v f) :=
 .optR fun i hi => by
  obtain ⟨k, rfl⟩ := (YH hi ▸ r).inv
  exact h i k
theorem ok_strR {t : Value -> Sem Value} {f : Str -> R PV} {v : PV} {u : Value} (r : VRep s.heap Z v u) (k : ∀ y w, Ok X A [] fs Z s VRep (t (.str y w)) (f y)) : Ok X A [] fs Z s VRep (t u) (strR v f) :=
 .optR fun i hi => by
  obtain ⟨w, rfl⟩ := (YG hi ▸ r).inv
  exact k i w
theorem lenO_ok {l : Nat} {p : Addr × Option Addr} {o : Option PO} (I : Rp X Z U s.heap) (hp : Z[l]? = some p) (ho : U[l]? = o) : Ok X A [] fs Z s VRep (call (.builtin "len") [.ref p.1]) (lenO U o) := by
 rcases o with _ | o
 ·exact .stuck
 cases o <;> first | exact .stuck | refine .guard fun hz => ?_
 ·obtain ⟨items, pl, rr⟩ := JB I hp ho
  have := JD hz
  have e := JU rr
  rw [← e]
  exact JQ I fun Q E k => Calls.call_len_list (Jg pl) (by lia) (k _ _)
 ·obtain ⟨_, g, kvs, d, r⟩ := ZB I hp ho
  have := JD hz
  rw [r.length] at this ⊢
  exact JQ I fun Q E k => call_len_dict (notSys' I hp ho) d (by lia) (k _ _)
theorem len_ok {v : PV} {u : Value} (I : Rp X Z U s.heap) (r : VRep s.heap Z v u) : Ok X A [] fs Z s VRep (call (.builtin "len") [u]) (biLen U v) := by
 have i := r.inv
 cases v with
 | str x =>
  obtain ⟨t, rfl⟩ := i
  exact .guard fun hz => JQ I fun Q E k => PyProof.Rows.len_str (by have := JD hz; lia) (k _ _)
 | tup xs =>
  obtain ⟨a, items, rfl, ht, n, rr⟩ := i
  refine .guard fun hz => ?_
  have := JD hz
  have e := JU rr
  rw [← e]
  exact JQ I fun Q E k => len_tuple ht (by lia) (k _ _)
 | loc l =>
  obtain ⟨p, rfl, hp⟩ := i
  exact lenO_ok I hp rfl
 | _ => exact .stuck
theorem list_ok {v : PV} {u : Value} (I : Rp X Z U s.heap) (hh : A.handled = none) (r : VRep s.heap Z v u) : Ok X A [] fs Z s VRep (call (.type "list") [u]) (biList U v) := by
 have i := r.inv
 cases v with
 | tup xs =>
  obtain ⟨a, items, rfl, ht, n, rr⟩ := i
  refine .guard fun hz => ?_
  have := JD hz
  have e := JU rr
  refine YW I fun Q E k => ?_
  obtain ⟨o, ho, hc, m, hd⟩ := ht
  exact call_list_seq _ (.inr rfl) ho hc hd (fun h' c' hk hl => k _ h' s.toks _ hk (get?_size _) ⟨c', hl⟩ rr) (by rw [sizeLine_eq]; lia)
 | loc l =>
  obtain ⟨p, rfl, hp⟩ := i
  exact .optR fun es he => .guard fun hz => dlist I hh (ZB I hp (dictOf_eq he)) (notSys' I hp (dictOf_eq he)) (JD hz)
 | _ => exact .stuck
theorem blt_all {a : Addr} {items : Array Value} {bs : List Bool} (I : Rp X Z U s.heap) (hh : A.handled = none) (pl : s.heap.PlainList a items) (hb : LSm.BoolsAre items.toList bs) : Ok X A [] fs Z s VRep (call (.builtin "all") [.ref a]) (.ok (.bool (bs.all id)) U) := by
 have hl := Jg pl
 refine ok_grown I (.bool _) fun Q E k => ?_
 have hlt := (Exists.elim hl fun _ e => Heap.lt_size e.1 : _ < s.heap.objs.size)
 refine call_all_walk (wpAny_pyIter_list hl ?_)
 refine ⟨s.heap.objs.size, [s.heap.objs.size, _], [s.heap.objs.size], items.size, _, _, fun i => (bs[i]?).getD true, rfl, Walks.list (A := A.in1) hh _ _ (Nat.ne_of_lt hlt) items,
  ⟨⟨_, Heap.get?_push_size _ rfl, rfl, rfl⟩, hl.push _⟩, fun i v s' Q' E' hP hQ => ?_, fun h' tk hk => ?_⟩
 ·obtain ⟨b, e, rfl⟩ := hb.get i v (by rw [Array.getElem?_toList]; exact hP)
  have hQ : Q' ((bs[i]?).getD true) s' := hQ
  rw [e] at hQ
  exact wpAny_truthy_bool hQ
 ·have e : ((List.range items.size).all fun i => (bs[i]?).getD true) = bs.all id := by
   rw [show items.size = bs.length from hb.length]; exact LSm.range_all bs
  rw [e]
  exact k h' tk (Gq hk)
theorem blt_any {a : Addr} {items : Array Value} {bs : List Bool} (I : Rp X Z U s.heap) (hh : A.handled = none) (pl : s.heap.PlainList a items) (hb : LSm.BoolsAre items.toList bs) : Ok X A [] fs Z s VRep (call (.builtin "any") [.ref a]) (.ok (.bool (bs.any id)) U) := by
 have hl := Jg pl
 refine ok_grown I (.bool _) fun Q E k => ?_
 have hlt := (Exists.elim hl fun _ e => Heap.lt_size e.1 : _ < s.heap.objs.size)
 refine call_any_walk (wpAny_pyIter_list hl ?_)
 refine ⟨s.heap.objs.size, [s.heap.objs.size, _], [s.heap.objs.size], items.size, _, _, fun i => (bs[i]?).getD false, rfl, Walks.list (A := A.in1) hh _ _ (Nat.ne_of_lt hlt) items,
  ⟨⟨_, Heap.get?_push_size _ rfl, rfl, rfl⟩, hl.push _⟩, fun i v s' Q' E' hP hQ => ?_, fun h' tk hk => ?_⟩
 ·obtain ⟨b, e, rfl⟩ := hb.get i v (by rw [Array.getElem?_toList]; exact hP)
  have hQ : Q' ((bs[i]?).getD false) s' := hQ
  rw [e] at hQ
  exact wpAny_truthy_bool hQ
 ·have e : ((List.range items.size).any fun i => (bs[i]?).getD false) = bs.any id := by
   rw [show items.size = bs.length from hb.length]; exact LSm.range_any bs
  rw [e]
  exact k h' tk (Gq hk)
theorem tupR_ok {v : PV} {u : Value} (I : Rp X Z U s.heap) (r : VRep s.heap Z v u) (h : ∀ {v : PV} {u : Value}, VRep s.heap Z v u -> Ok X A [] fs Z s VRep (call (.type "tuple") [u]) (lstR U v fun xs => if Jp xs.length then .ok (.tup xs) U else .stuck)) : Ok X A [] fs Z s VRep (call (.type "tuple") [u]) (tupR U v) := by
 have i := r.inv
 cases v with
 | tup xs =>
  obtain ⟨a, items, rfl, ht, n, rr⟩ := i
  exact Ym I r fun Q E k => call_tuple_same ht (k s.toks)
 | loc l => exact h r
 | _ => exact .stuck
theorem ord_ok {v : PV} {u : Value} (I : Rp X Z U s.heap) (r : VRep s.heap Z v u) : Ok X A [] fs Z s VRep (call (.builtin "ord") [u]) (ordR v U) := by
 refine ok_strR (t := fun u => call (.builtin "ord") [u]) r fun x t => ?_
 obtain ⟨⟨l⟩⟩ := x
 cases l with
 | nil => exact .stuck
 | cons c r => cases r with
  | nil => exact JQ I fun Q E k => P.ord_of_char (k _ _)
  | cons _ _ => exact .stuck
theorem KU {i : Int} (h0 : 0 ≤ i) (h1 : i < 10000) : i.natAbs.log2 < 1920 := by
 by_cases z : i.natAbs = 0
 ·rw [z]; decide
 ·exact Nat.lt_trans ((Nat.log2_lt z).mpr (Nat.lt_trans ((Int.natAbs_lt_natAbs_of_nonneg_of_lt h0 h1 :)) (by decide))) (by decide : 14 < 1920)
theorem tuple_ok {a : Addr} {items : Array Value} {xs : List PV} (I : Rp X Z U s.heap) (pl : s.heap.PlainList a items) (rr : VReps s.heap Z xs items.toList) (hz : Jp xs.length = true) : Ok X A [] fs Z s VRep (call (.type "tuple") [.ref a]) (.ok (.tup xs) U) := by
 have := JD hz
 have e := JU rr
 refine ok_newtup I fun Q E k => call_tuple_list (Jg pl) (fun h' hk => k _ _ s.toks items (fun b o eo => Heap.get?_push_of_some _ (hk b o eo)) ?_ ⟨_, Heap.get?_push_size _ rfl, rfl, 0, rfl⟩ rr) (by rw [sizeLine_eq]; lia)
 cases q : s.heap.get? h'.objs.size with
 | none => rfl
 | some o => exact absurd (Heap.lt_size (hk _ _ q)) (Nat.lt_irrefl _)
theorem sorted_ok {a : Addr} {items : Array Value} {xs ys : List PV} (I : Rp X Z U s.heap) (pl : s.heap.PlainList a items) (rr : VReps s.heap Z xs items.toList) (hz : xs.length ≤ 60) (hy : JY xs = some ys) : Ok X A [] fs Z s VRep (call (.builtin "sorted") [.ref a]) (JT (.list ys) U) := by
 have e : xs.length = items.size := rr.length
 refine YW I fun Q E k => ?_
 have il := Jg pl
 rw [← Array.toArray_toList (xs := items)] at il
 have hz' : items.toList.length ≤ 60 := by show items.size ≤ 60; lia
 unfold JY at hy
 cases hi : Ur xs with
 | some ns =>
  rw [hi] at hy
  cases hy
  refine sorted_ints il (intKeys_are rr hi) (by lia) fun out ns' a1 a2 a3 => ?_
  obtain ⟨b1, b2⟩ := sorted_at s.heap items.toList out
  rw [← sortI_eq a2 a3] at k
  exact k _ _ s.toks out b1 (get?_oob (Nat.le_succ _)) b2 (ints_rep a1)
 | none =>
  rw [hi] at hy
  obtain ⟨ss, hs, rfl⟩ := Option.map_eq_some_iff.mp hy
  refine sorted_strs il (Kd rr hs) (by lia) fun out ns' a1 a2 a3 => ?_
  obtain ⟨b1, b2⟩ := sorted_at s.heap items.toList out
  rw [← sortS_eq a2 a3] at k
  exact k _ _ s.toks out b1 (get?_oob (Nat.le_succ _)) b2 (strs_rep a1)
set_option tactic.hygienic true in
theorem builtin_ok {b : Bi} {args : List PV} {us : List Value} (I : Rp X Z U s.heap) (hh : A.handled = none) (r : VReps s.heap Z args us) :
  Ok X A [] fs Z s VRep (call (biCall b us).1 (biCall b us).2) (builtin b args U) := by
 cases r with
 | nil => exact .stuck
 | cons a r =>
  cases r with
  | cons _ _ => exact .stuck
  | nil =>
   rename_i v u
   show Ok X A [] fs Z s VRep _ (bi1 b v U)
   cases b with
   | len => exact len_ok I a
   | sorted => exact Gg (t := fun u => call (.builtin "sorted") [u]) I a fun _ _ _ pl rr => .guard fun hz => .optR fun ys hy => sorted_ok I pl rr hz hy
   | list => exact list_ok I hh a
   | tuple => exact tupR_ok I a fun a => Gg (t := fun u => call (.type "tuple") [u]) I a fun _ _ _ pl rr => .guard fun hz => tuple_ok I pl rr hz
   | any => exact Gg (t := fun u => call (.builtin "any") [u]) I a fun _ _ _ pl rr => .guard fun hz => .optR fun bs hbs => blt_any I hh pl (Kr rr hbs)
   | ord => exact ord_ok I a
   | chr => exact YX (t := fun u => call (.builtin "chr") [u]) a fun i t => .guard fun hz => ZT I fun Q E k => P.chr_of_int (by simp; lia) (k _ _)
   | str => exact YX (t := fun u => call (.type "str") [u]) a fun i t => .guard fun hz => ZT I fun Q E k => P.str_of_int (KU hz.1 hz.2) (k _ _)
   | all => exact Gg (t := fun u => call (.builtin "all") [u]) I a fun _ _ _ pl rr => .guard fun hz => .optR fun bs hbs => blt_all I hh pl (Kr rr hbs)
   | abs =>
    refine YX (t := fun u => call (.builtin "abs") [u]) a fun i t => ?_
    have e : ((i.natAbs : Nat) : Int) = if i < 0 then -i else i := by
     by_cases h : i < 0
     ·rw [if_pos h]; exact Int.ofNat_natAbs_of_nonpos (Int.le_of_lt h)
     ·rw [if_neg h]; exact Int.natAbs_of_nonneg (Int.not_lt.mp h)
    rw [e]
    exact JQ I fun Q E k => call_abs_int fun u j => k u j
   | int => exact YX (t := fun u => call (.type "int") [u]) a fun i t => JQ I fun Q E k => call_int_int (k _ _)
   | isStr => exact .guard fun hp => Zx I fun Q E k => (Gu I a hp).1 Q E k
   | isInt => exact .guard fun hp => Zx I fun Q E k => (Gu I a hp).2.1 Q E k
   | isBool => exact .guard fun hp => Zx I fun Q E k => (Gu I a hp).2.2.1 Q E k
   | isBytes => exact .guard fun hp => Zx I fun Q E k => (Gu I a hp).2.2.2.1 Q E k
   | isTuple => exact .guard fun hp => Zx I fun Q E k => (Gu I a hp).2.2.2.2 Q E k
end
section
variable {X : Cx} {A : Around} {W fs : List Addr} {Z : Rho} {U : St} {s : Shared}
noncomputable def miId : Mi -> String
 | .split => "str.split"
 | .lower => "str.lower"
 | .find => "str.find"
 | .join => "str.join"
 | .append => "list.append"
theorem are_strValues {us : List Value} {ss : List Str} (r : StrsAre us ss) : ∃ l : List (Str × Tok), us = strValues l /\ l.map (·.1) = ss := by
 induction r with
 | nil => exact ⟨[], rfl, rfl⟩
 | cons x t _ ih =>
  obtain ⟨l, e1, e2⟩ := ih
  exact ⟨(x, t) :: l, by rw [e1]; rfl, by rw [List.map_cons, e2]⟩
theorem strVals_rep {h : Heap} (l : List (Str × Tok)) : VReps h Z ((l.map (·.1)).map PV.str) (strValues l) := by
 induction l with
 | nil => exact .nil
 | cons p r ih => exact .cons (.str p.1 p.2) ih
theorem KD {α β : Type} {rel : Heap -> Rho -> α -> β -> Prop} {t : Sem β} {a : α} {b : β} (I : Rp X Z U s.heap) {l : Nat} {p : Addr × Option Addr} {po : PO} (hl : Z[l]? = some p) (nf : ∀ xs, U[l]? ≠ some (.frz xs)) {d : Addr} (ha : d ∈ Jk p)
  (hrel : ∀ h', Step [] [] Z Z s.heap h' -> rel h' Z a b)
  (h : ∀ Q E, (∀ h' k, Heap.SameBut d s.heap h' -> (∃ o, h'.get? d = some o) -> (Step [] [] Z Z s.heap h' -> ORep X h' Z po p) -> Q b { s with heap := h', toks := k }) -> wpAny (model X.prog X.w) A t Q E s) :
  Ok X A [] fs Z s rel t (.ok a (U.set l po)) :=
 Ok.to fun Q E k => h Q E fun h' j hs ht hr => by
  have S : ∀ fs, Step [] fs Z Z s.heap h' := fun fs => Step.turn (.inl (List.mem_flatMap.mpr ⟨p, List.mem_of_getElem? hl, ha⟩)) hs ht
  have S0 : Step [] [] Z Z s.heap h' := Step.turn (.inl (List.mem_flatMap.mpr ⟨p, List.mem_of_getElem? hl, ha⟩)) hs ht
  exact k _ Z _ ⟨h', j, rfl⟩ (I.turn hl nf ha hs ht hr) (hrel h' S0) (S fs)
theorem list_set {xs : List PV} {l : Nat} {p : Addr × Option Addr} (I : Rp X Z U s.heap) (hp : Z[l]? = some p) (hx : U[l]? = some (.list xs)) : ∃ a items, p = (a, none) /\ s.heap.PlainList a items /\ VReps s.heap Z xs items.toList := by
 have r := I.objs _ _ _ hp hx
 cases r with
 | list h1 h2 => exact ⟨_, _, rfl, h1, h2⟩
theorem split_ok {x y : Str} {t u : Tok} (I : Rp X Z U s.heap) (hy : (y.length == 0) = false) (hx : Jp x.length = true) (hn : Jp (Txt.split x y).length = true) :
  Ok X A [] fs Z s VRep (call (.builtin "str.split") [.str x t, .str y u]) (JT (.list ((Txt.split x y).map .str)) U) := by
 have hx := JD hx
 have hn := JD hn
 refine YW I fun Q E k => ?_
 have push : ∀ (l : List (Str × Tok)) j, l.map (·.1) = Txt.split x y -> Q (.ref s.heap.objs.size) { s with heap := s.heap.push { cls := .type "list", data := .seq (strValues l).toArray }, toks := j } := fun l j e => by
  refine k _ _ j (strValues l).toArray (Jx _ _) (get?_size _) ⟨0, Heap.get?_push_size _ rfl⟩ ?_
  rw [← e]
  exact strVals_rep l
 clear k
 cases h1 : (decide (x.length < y.length) || decide (Builtin.Str.strKind x < Builtin.Str.strKind y))
 ·cases hf : (Builtin.Str.occurrences x y 0 x.length (x.length + 1)).isEmpty
  ·have e : Txt.split x y = Builtin.Str.partsBetween x (Builtin.Str.occurrences x y 0 x.length (x.length + 1)) y.length := (if_neg (ne_true_of_eq_false h1)).trans (if_neg (ne_true_of_eq_false hf))
   refine call_meets F.slot_str_split (typeIs_str _ _ _) F.entry_str_split (F.args_str_split_2 _ _) (meets_str_split_sep x y t u h1 hy hf (by rw [sizeLine_eq]; lia) (by rw [sizeLine_eq, ← e]; lia)) ?_
   show wants Q E _ { s with toks := _, heap := s.heap.push { cls := .type "list", data := .seq (strsFrom s.toks (Builtin.Str.partsBetween x (Builtin.Str.occurrences x y 0 x.length (x.length + 1)) y.length)).toArray } }
   rw [strsFrom_eq]
   exact push _ _ ((numbered_texts _ _).trans e.symm)
  ·exact call_meets F.slot_str_split (typeIs_str _ _ _) F.entry_str_split (F.args_str_split_2 _ _) (meets_str_split_not_found x y t u h1 hy hf) (push [(x, t)] s.toks ((if_neg (ne_true_of_eq_false h1)).trans (if_pos hf)).symm)
 ·exact call_meets F.slot_str_split (typeIs_str _ _ _) F.entry_str_split (F.args_str_split_2 _ _) (meets_str_split_cannot_occur x y t u h1) (push [(x, t)] s.toks (if_pos h1).symm)
theorem KF {t : List Value -> Sem Value} {f : PV -> R PV} {args : List PV} {us : List Value} (r : VReps s.heap Z args us) (k : ∀ {v : PV} {u : Value}, VRep s.heap Z v u -> Ok X A [] fs Z s VRep (t [u]) (f v)) : Ok X A [] fs Z s VRep (t us) (oneR args f) := by
 cases r with
 | nil => exact .stuck
 | cons a r => cases r with
  | nil => exact k a
  | cons _ _ => exact .stuck
theorem ok_nilR {t : List Value -> Sem Value} {m : R PV} {args : List PV} {us : List Value} (r : VReps s.heap Z args us) (k : Ok X A [] fs Z s VRep (t []) m) : Ok X A [] fs Z s VRep (t us) (nilR args m) := by
 cases r with
 | nil => exact k
 | cons _ _ => exact .stuck
theorem join_ok {a : Addr} {items : Array Value} {x : Str} {t : Tok} {ss : List Str} (I : Rp X Z U s.heap) (pl : s.heap.PlainList a items) (r : StrsAre items.toList ss) (hok : JoinOk x ss = true) : Ok X A [] fs Z s VRep (call (.builtin "str.join") [.str x t, .ref a]) (.ok (.str (Txt.join x ss)) U) := by
 obtain ⟨l, e1, rfl⟩ := are_strValues r
 have il := Jg pl
 rw [← Array.toArray_toList (xs := items), e1] at il
 refine ZT I fun Q E k => ?_
 have hok' := hok
 unfold JoinOk at hok
 rw [Bool.not_eq_true'] at hok
 exact call_meets F.slot_str_join (typeIs_str _ _ _) F.entry_str_join (F.args_str_join_2 _ _) (meets_str_join_list _ _ _ l hok) ⟨il, post_join l ⟨joinFit_length hok, fun t' j => k t' j⟩⟩
theorem append_ok {l : Nat} {p : Addr × Option Addr} {xs : List PV} {v : PV} {u : Value} (I : Rp X Z U s.heap) (hp : Z[l]? = some p) (hx : U[l]? = some (.list xs)) (a : VRep s.heap Z v u) (hz : Jp xs.length = true) : Ok X A [] fs Z s VRep (call (.builtin "list.append") [.ref p.1, u]) (.ok .none (U.set l (.list (xs ++ [v])))) := by
 obtain ⟨d, items, rfl, ho, rr⟩ := list_set I hp hx
 have sz := JU rr
 have := JD hz
 refine KD I hp (by simp [hx]) (d := d) (by simp [Jk]) (fun _ _ => .none) fun Q E k => ?_
 refine wpAny_list_append_plain ho (fun h' hl hs => k h' s.toks hs (Exists.elim hl fun _ e => ⟨_, e⟩) fun S => ?_) (by rw [sizeLine_eq]; lia)
 refine .list hl ?_
 rw [Array.toList_push]
 exact (rr.step S Ja).append (.cons (a.step S Ja) .nil)
theorem methS_ok {m : Mi} {x : Str} {t : Tok} {args : List PV} {us : List Value} (I : Rp X Z U s.heap) (r : VReps s.heap Z args us) :
  Ok X A [] fs Z s VRep (call (.builtin (miId m)) (.str x t :: us)) (methS m x args U) := by
 cases m with
 | split => exact KF (t := fun us => call (.builtin "str.split") (.str x t :: us)) r fun a => ok_strR (t := fun u => call (.builtin "str.split") [.str x t, u]) a fun y w => .guard fun h => split_ok I h.1 h.2.1 h.2.2
 | lower => exact ok_nilR (t := fun us => call (.builtin "str.lower") (.str x t :: us)) r (.guard fun hx => ZT I fun Q E k => PyProof.Rows.SCL.lower (by have := JD hx; lia) fun _ => k _ _)
 | find => exact KF (t := fun us => call (.builtin "str.find") (.str x t :: us)) r fun a => ok_strR (t := fun u => call (.builtin "str.find") [.str x t, u]) a fun y w => JQ I fun Q E k => SC.find (k _ _)
 | join => exact KF (t := fun us => call (.builtin "str.join") (.str x t :: us)) r fun a => Gg (t := fun u => call (.builtin "str.join") [.str x t, u]) I a fun _ _ _ pl rr => .optR fun ss hss => .guard fun hok => join_ok I pl (Kd rr hss) hok
 | append => exact .stuck
theorem method_ok {m : Mi} {o : PV} {u : Value} {args : List PV} {us : List Value} (I : Rp X Z U s.heap) (ro : VRep s.heap Z o u) (r : VReps s.heap Z args us) :
  Ok X A [] fs Z s VRep (call (.builtin (miId m)) (u :: us)) (Gm m o args U) := by
 have i := ro.inv
 cases o with
 | str x =>
  obtain ⟨t, rfl⟩ := i
  exact methS_ok I r
 | loc l =>
  obtain ⟨p, rfl, hp⟩ := i
  cases m with
  | append => exact .optR fun xs hx => KF (t := fun us => call (.builtin "list.append") (.ref p.1 :: us)) r fun a => .guard fun hz => append_ok I hp (On hx) a hz
  | _ => exact .stuck
 | _ => exact .stuck
end
section
variable {X : Cx} {A : Around} {W fs : List Addr} {Z : Rho} {U : St} {s : Shared}
theorem subObj_ok {o : Option PO} {l : Nat} {p : Addr × Option Addr} {i : PV} {v : Value} (I : Rp X Z U s.heap) (hp : Z[l]? = some p) (ho : U[l]? = o) (ri : VRep s.heap Z i v) : Ok X A [] fs Z s VRep (getItem (.ref p.1) v) (subObj o i U) := by
 cases o with
 | none => exact .stuck
 | some o =>
  cases o with
  | list xs =>
   refine YX (t := fun v => getItem (.ref p.1) v) ri fun k t => .guard fun hz => .optR fun x hk => ?_
   obtain ⟨items, pl, rr⟩ := JB I hp ho
   obtain ⟨w, hw, rw'⟩ := rr.get hk
   have hlt : k.toNat < items.size := (List.getElem?_eq_some_iff.mp hw).1
   rw [Array.getElem?_toList] at hw
   exact Ym I rw' fun Q E q => wpAny_getItem_list (Jg pl) hz.1 (by lia) hw (q s.toks)
  | dict es =>
   refine .guard fun hk => .optR fun x hx => ?_
   obtain ⟨g, y, kvs, rfl, dd, kk⟩ := Uy (ZB I hp ho) hk
   obtain ⟨w, g1, g2⟩ := (kk.get g.eq y).1 _ hx
   exact Ym I g2 fun Q E q => wpAny_getItem_of (k := y) (g.is ri) dd.mapOf g1 (q _)
  | _ => exact .stuck
theorem subscr_ok {o i : PV} {u v : Value} (I : Rp X Z U s.heap) (ro : VRep s.heap Z o u) (ri : VRep s.heap Z i v) : Ok X A [] fs Z s VRep (getItem u v) (KV o i U) := by
 have io := ro.inv
 cases o with
 | str x =>
  obtain ⟨t, rfl⟩ := io
  exact YX (t := fun v => getItem (.str x t) v) ri fun k t => .guard fun hz => .optR fun c hc => ZT I fun Q E k => PyProof.Rows.getItem_str (by simp; lia) hc (k _ _)
 | tup xs =>
  obtain ⟨a, items, rfl, ht, n, rr⟩ := io
  refine YX (t := fun v => getItem (.ref a) v) ri fun k t => .guard fun hz => .optR fun x hx => ?_
  have e := JU rr
  obtain ⟨j, hj, hx⟩ := YO hx
  obtain ⟨w, hw, rw'⟩ := rr.get hx
  rw [Array.getElem?_toList] at hw
  exact Ym I rw' fun Q E q => PyProof.Rows.getItem_tuple ht (by lia) (by lia) (by rw [e]; exact hj) hw (q s.toks)
 | loc l =>
  obtain ⟨p, rfl, hp⟩ := io
  exact subObj_ok I hp rfl ri
 | _ => exact .stuck
theorem clip_eq (x : Int) (n : Nat) : (if x < 0 then max (x + (n : Int)) 0 else min x (n : Int)) = ((if x < 0 then n - (-x).toNat else min x.toNat n : Nat) : Int) := by
 by_cases h : x < 0
 ·rw [if_pos h, if_pos h]
  obtain ⟨m, hm⟩ := Int.eq_ofNat_of_zero_le (Int.neg_nonneg_of_nonpos (Int.le_of_lt h))
  rw [hm, ← Int.neg_neg x, hm, Int.add_comm, ← Int.sub_eq_add_neg, ← Int.toNat_eq_max]
  exact congrArg Int.ofNat (Int.toNat_sub n m)
 ·rw [if_neg h, if_neg h]
  obtain ⟨m, rfl⟩ := Int.eq_ofNat_of_zero_le (Int.not_lt.mp h)
  rcases Nat.le_total m n with q | q
  ·rw [Int.toNat_natCast, Nat.min_eq_left q, Int.min_eq_left (Int.ofNat_le.mpr q)]
  ·rw [Int.toNat_natCast, Nat.min_eq_right q, Int.min_eq_right (Int.ofNat_le.mpr q)]
theorem places_eq (lo hi : Option Int) (n : Nat) : Builtin.Slice.sliceAdjust lo hi 1 (n : Int) = (((kms_lo lo n : Nat) : Int), ((kms_hi hi n : Nat) : Int)) := by
 refine Prod.ext ?_ ?_
 ·cases lo with
  | none => rfl
  | some x => exact clip_eq x n
 ·cases hi with
  | none => rfl
  | some x => exact clip_eq x n
theorem count_eq (a b : Nat) : Builtin.Slice.slicePlaces (a : Int) (b : Int) 1 = b - a := by
 show (if (a : Int) < (b : Int) then ((b : Int) - a - 1) / 1 + 1 else 0).toNat = b - a
 by_cases h : (a : Int) < (b : Int)
 ·rw [if_pos h, Int.ediv_one, Int.sub_add_cancel, Int.toNat_sub]
 ·rw [if_neg h]; exact (Nat.sub_eq_zero_of_le (Int.ofNat_le.mp (Int.not_lt.mp h))).symm
theorem part_of {v : Value} {k : Option Int} (h : IsPart v k) {E : Value -> Shared -> Prop} {Q : Option Int -> Shared -> Prop} (q : Q k s) : wpAny (model X.prog X.w) A (Builtin.Slice.slicePartIndex v) Q E s := by
 cases h with
 | none => exact slicePart_none q
 | int i t => exact slicePart_int q
theorem applied_of {sl : Addr} {vl vu : Value} {lo hi : Option Int} {n : Nat} (hs : s.heap.IsSliceOf sl vl vu .none) (pl : IsPart vl lo) (pu : IsPart vu hi) {E : Value -> Shared -> Prop} {Q : Int × Int × Nat -> Shared -> Prop}
  (h : Q ((kms_lo lo n : Nat), 1, kms_hi hi n - kms_lo lo n) s) : wpAny (model X.prog X.w) A (Builtin.Slice.sliceApplied (.ref sl) (pure (n : Int))) Q E s := by
 obtain ⟨os, hos, hcs, hds⟩ := id hs
 unfold Builtin.Slice.sliceApplied Builtin.Slice.sliceFields
 refine wpAny_bind (wpAny_bind (wpAny_field hos hds (x := vl) rfl (wpAny_bind (wpAny_field hos hds (x := vu) rfl (wpAny_bind (wpAny_field hos hds (x := .none) rfl (wpAny_pure ?_)))))))
 refine wpAny_bind (slicePart_none ?_)
 show wpAny _ _ (if ((1 : Int) == 0) = true then _ else _) _ _ s
 rw [if_neg (by decide)]
 refine wpAny_bind (part_of pl (wpAny_bind (part_of pu (wpAny_bind (wpAny_pure ?_)))))
 show wpAny _ _ (match Builtin.Slice.sliceAdjust lo hi 1 (n : Int) with | (lo, hi) => pure (lo, (1 : Int), Builtin.Slice.slicePlaces lo hi 1)) _ _ s
 rw [places_eq]
 show wpAny _ _ (pure (((kms_lo lo n : Nat) : Int), (1 : Int), Builtin.Slice.slicePlaces (kms_lo lo n : Nat) (kms_hi hi n : Nat) 1)) _ _ s
 rw [count_eq]
 exact wpAny_pure h
theorem ite_le {c : Prop} [Decidable c] {a b n : Nat} (h : a ≤ n) (k : b ≤ n) : (if c then a else b) ≤ n := by
 by_cases q : c
 ·rw [if_pos q]; exact h
 ·rw [if_neg q]; exact k
theorem lo_le (lo : Option Int) (n : Nat) : kms_lo lo n ≤ n := by
 cases lo with
 | none => exact Nat.zero_le _
 | some x => exact ite_le (Nat.sub_le ..) (Nat.min_le_right ..)
theorem hi_le (hi : Option Int) (n : Nat) : kms_hi hi n ≤ n := by
 cases hi with
 | none => exact Nat.le_refl _
 | some x => exact ite_le (Nat.sub_le ..) (Nat.min_le_right ..)
theorem picked_eq (xs : Array Value) (a k : Nat) : ((List.range k).filterMap fun (j : Nat) => xs[((a : Int) + (j : Int) * 1).toNat]?).toArray = ((xs.toList.drop a).take k).toArray := by
 have e : (fun (j : Nat) => xs[((a : Int) + (j : Int) * 1).toNat]?) = (fun x => xs[x]?) ∘ fun x => a + x := by
  funext j
  have : ((a : Int) + (j : Int) * 1).toNat = a + j := by rw [Int.mul_one]; rfl
  rw [this]; rfl
 rw [e, ← List.filterMap_map, pick_run]
set_option tactic.hygienic true in
theorem tupSlice_ok {xs : List PV} {t : Addr} {items : Array Value} (I : Rp X Z U s.heap) (ht : s.heap.IsTuple t items) (no : t ∉ Je Z) (rr : VReps s.heap Z xs items.toList) (hz : xs.length ≤ 1000000)
  {sl : Addr} {vl vu : Value} {lo hi : Option Int} (hs : s.heap.IsSliceOf sl vl vu .none) (pl : IsPart vl lo) (pu : IsPart vu hi) : Ok X A [] fs Z s VRep (getItem (.ref t) (.ref sl)) (.ok (.tup (OP xs lo hi)) U) := by
 have e := JU rr
 obtain ⟨os, hos, hcs, hds⟩ := id hs
 have hTs : s.TypeIs (.ref sl) "slice" := ⟨os, hos, hcs⟩
 have main : ∀ (Q : Value -> Shared -> Prop) (E : Value -> Shared -> Prop),
   (((kms_lo lo items.size : Int) == 0 && (1 : Int) == 1 && (kms_hi hi items.size - kms_lo lo items.size) == items.size) = true -> Q (.ref t) s) ->
   Q (.ref s.heap.objs.size) { s with heap := s.heap.push { cls := .type "tuple", data := .seq ((items.toList.drop (kms_lo lo items.size)).take (kms_hi hi items.size - kms_lo lo items.size)).toArray } } ->
   wpAny (model X.prog X.w) A (getItem (.ref t) (.ref sl)) Q E s := fun Q E h1 h2 => by
  unfold getItem
  try with_reducible refine wpAny_holding ?_
  refine wpAny_bind (wpAny_sequenceKey ht.typeIs (by decide) ?_)
  refine wpAny_bind (wpAny_callSpecial?_slot (name := Str.ofString "__getitem__") ht.typeIs slot_tuple_getitem
   (wpAny_call_entry slot_tuple_getitem ht.typeIs entry_tuple_getitem ?_ (args_tuple_getitem _ _)))
  show wpAny _ _ (Builtin.Tuple.tupleItemsOf (.ref t) >>= _) _ _ s
  refine wpAny_bind (tupleItemsOf_ ht ?_)
  refine wpAny_bind (wpAny_typeOf hTs ?_)
  rw [if_pos (by decide)]
  refine wpAny_bind (applied_of hs pl pu ?_)
  show wpAny _ _ (if ((kms_lo lo items.size : Int) == 0 && (1 : Int) == 1 && (kms_hi hi items.size - kms_lo lo items.size) == items.size) = true then _ else _) _ _ s
  split
  ·rename_i hc
   refine wpAny_bind ?_
   unfold Builtin.Tuple.tupleIsExact
   refine wpAny_bind (wpAny_typeOf ht.typeIs ?_)
   refine wpAny_pure ?_
   rw [if_pos (by decide)]
   exact wpAny_bind (wpAny_rule (wpAny_bind (wpAny_pure (wpAny_pure ⟨_, rfl, wpAny_pure (h1 hc)⟩))))
  ·rw [picked_eq items]
   have hsz : sizeOk (.seq ((items.toList.drop (kms_lo lo items.size)).take (kms_hi hi items.size - kms_lo lo items.size)).toArray) := by
    show (_ : List Value).toArray.size ≤ sizeLine
    rw [List.size_toArray, sizeLine_eq]
    exact Nat.le_trans (List.length_take_le ..) (Nat.le_trans (Nat.sub_le ..) (Nat.le_trans (hi_le hi items.size) (e ▸ Nat.le_trans hz (by decide))))
   first
    | exact wpAny_bind (m := Builtin.Tuple.tupleExact _) (wpAny_newObj_type (wpAny_pure ⟨_, rfl, wpAny_pure h2⟩) hsz)
    | exact wpAny_bind (m := Builtin.Tuple.tupleExact _) (wpAny_newObj_type (wpAny_bind (wpAny_pure (wpAny_pure ⟨_, rfl, wpAny_pure h2⟩))) hsz)
    | exact wpAny_bind (wpAny_bind (m := Builtin.Tuple.tupleExact _) (wpAny_newObj_type (wpAny_pure (wpAny_pure ⟨_, rfl, wpAny_pure h2⟩)) hsz))
 have hp : OP xs lo hi = (xs.drop (kms_lo lo items.size)).take (kms_hi hi items.size - kms_lo lo items.size) := by unfold OP; rw [e]
 by_cases hc : ((kms_lo lo items.size : Int) == 0 && (1 : Int) == 1 && (kms_hi hi items.size - kms_lo lo items.size) == items.size) = true
 ·refine Ok.to fun Q E k => ?_
  have same : OP xs lo hi = xs := by
   simp at hc
   rw [hp, hc.2, hc.1, e]; simp
  refine main Q E (fun _ => ?_) ?_
  ·rw [same] at k
   exact k _ Z s (.refl s) I (.tup ht no rr) Step.refl
  ·have kp := Jx s.heap { cls := .type "tuple", data := .seq ((items.toList.drop (kms_lo lo items.size)).take (kms_hi hi items.size - kms_lo lo items.size)).toArray }
   have S' : Step (W := []) (fs := fs) Z Z s.heap _ := Step.of_keeps kp
   refine k _ Z _ ⟨_, s.toks, rfl⟩ (I.keeps kp) (.tup ⟨_, Heap.get?_push_size _ rfl, rfl, 0, rfl⟩ I.size_off ?_) (Step.of_keeps kp)
   rw [hp]
   simpa using ((rr.drop _).take _).step S' Ja
 ·refine ok_newtup I fun Q E k => main Q E (fun h => absurd h hc) ?_
  refine k _ _ s.toks _ (Jx _ _) (get?_size _) ⟨_, Heap.get?_push_size _ rfl, rfl, 0, rfl⟩ ?_
  rw [hp]
  simpa using (rr.drop _).take _
theorem Kg {xs : List PV} {t : Addr} {items : Array Value} (I : Rp X Z U s.heap) (ht : s.heap.IsList t items) (rr : VReps s.heap Z xs items.toList) (hz : xs.length ≤ 1000000)
  {sl : Addr} {vl vu : Value} {lo hi : Option Int} (hs : s.heap.IsSliceOf sl vl vu .none) (pl : IsPart vl lo) (pu : IsPart vu hi) : Ok X A [] fs Z s VRep (getItem (.ref t) (.ref sl)) (JT (.list (OP xs lo hi)) U) := by
 have e := JU rr
 refine YW I fun Q E k => ?_
 refine wpAny_getItem_list_slice ht hs pl pu .none (by simp) ?_ (by rw [sizeLine_eq]; lia)
 rw [kms_pick_eq]
 refine k _ _ s.toks _ (Jx _ _) (get?_size _) ⟨0, Heap.get?_push_size _ rfl⟩ ?_
 have hp : OP xs lo hi = (xs.drop (kms_lo lo items.toList.length)).take (kms_hi hi items.toList.length - kms_lo lo items.toList.length) := by
  have e' : items.toList.length = xs.length := by simpa using e
  unfold OP; rw [e']
 rw [hp]
 simpa [kms_pick] using (rr.drop _).take _
noncomputable def OptRep (h : Heap) (Z : Rho) (v : Option PV) (u : Value) : Prop := match v with | none => u = .none | some v => VRep h Z v u
theorem part_rep {v : Option PV} {u : Value} {k : Option Int} (h : ZS v = some k) (r : OptRep s.heap Z v u) : IsPart u k := by
 cases v with
 | none => cases h; cases r; exact .none
 | some v =>
  have r : VRep s.heap Z v u := r
  cases r with
  | int i t =>
   have h : (if i.natAbs ≤ 1000000 then some (some i) else none) = some k := h
   by_cases hi : i.natAbs ≤ 1000000
   ·rw [if_pos hi] at h; cases h; exact .int _ _
   ·rw [if_neg hi] at h; cases h
  | _ => cases h
theorem sliO_ok {l : Nat} {p : Addr × Option Addr} {a b : Option Int} {vl vu : Value} (I : Rp X Z U s.heap) (hp : Z[l]? = some p) {sl : Addr} (hs : s.heap.IsSliceOf sl vl vu .none) (pl : IsPart vl a) (pu : IsPart vu b) {o : Option PO} (ho : U[l]? = o) : Ok X A [] fs Z s VRep (getItem (.ref p.1) (.ref sl)) (sliO o a b U) := by
 cases o with
 | none => exact .stuck
 | some o =>
  cases o with
  | frz xs =>
   refine .guard fun hz => ?_
   have r := I.objs _ _ _ hp ho
   cases r with
   | frz h1 h2 h3 rr => exact Kg I ⟨_, h1, h2, _, h3⟩ rr (JD hz) hs pl pu
  | list xs =>
   refine .guard fun hz => ?_
   obtain ⟨items, q, rr⟩ := JB I hp ho
   exact Kg I (Jg q) rr (JD hz) hs pl pu
  | _ => exact .stuck
theorem sliced_ok {o : PV} {u vl vu : Value} {lo hi : Option PV} (I : Rp X Z U s.heap) (ro : VRep s.heap Z o u) (rl : OptRep s.heap Z lo vl) (rh : OptRep s.heap Z hi vu)
  {sl : Addr} (hs : s.heap.IsSliceOf sl vl vu .none) : Ok X A [] fs Z s VRep (getItem u (.ref sl)) (UM o lo hi U) := by
 refine .optR fun a ha => .optR fun b hb => ?_
 have pl := part_rep ha rl
 have pu := part_rep hb rh
 cases ro with
 | tup ht n rr => exact .guard fun hz => tupSlice_ok I ht n rr (JD hz) hs pl pu
 | loc hp => exact sliO_ok I hp hs pl pu rfl
 | _ => exact .stuck
end
theorem look_of_ns {h : Heap} {dx : Addr} {m : Str -> Option Value} (n : h.Ns dx m) : ∃ od, h.get? dx = some od /\ ∀ name, lookIn name od = some (m name) := by
 obtain ⟨o, es, ep, ho, hd, hk, hf⟩ := n
 refine ⟨o, ho, fun name => ?_⟩
 unfold lookIn
 rw [hd]
 have e : nsFind es name = (es.toList.find? (·.key.isStr name)).map (·.val) := by
  unfold nsFind
  obtain ⟨l⟩ := es
  simp [findBy]
 simp only
 rw [← hf name, e]
 cases q : es.toList.find? (·.key.isStr name) with
 | some en => rfl
 | none =>
  have : es.toList.any (·.refKey) = false := by
   rw [List.any_eq_false]
   intro x hx
   obtain ⟨n, t, e⟩ := hk x (by simpa using hx)
   simp [DictEntry.refKey, e]
  simp [this]
section
variable {X : Cx} {A : Around} {W fs : List Addr} {Z : Rho} {U : St} {s : Shared}
theorem Rp.kin (I : Rp X Z U s.heap) : X.K.In s.heap := X.kin.keeps I.base
structure InstR (X : Cx) (h : Heap) (Z : Rho) (c : Nat) (fs : List (Nat × PV)) (a dx : Addr) (ox od : Obj) (m : Str -> Option Value) : Prop where
 lt : c < NC
 at_ : InstAt h a ox (X.cls c) (some od)
 dict : ox.dict = some dx
 dget : h.get? dx = some od
 ns : h.Ns1 dx m
 within : Within m X.attrs
 look : ∀ name, lookIn name od = some (m name)
 rep : FsRep X h Z fs m
 raw : h.get? a = some ox
 plain : ox.data = .plain
set_option tactic.hygienic true in
theorem inst_of {l : Nat} {p : Addr × Option Addr} {c : Nat} {fs : List (Nat × PV)} (I : Rp X Z U s.heap) (hp : Z[l]? = some p) (hl : U[l]? = some (.inst c fs)) : ∃ a dx ox od m, p = (a, some dx) /\ InstR X s.heap Z c fs a dx ox od m := by
 have r := I.objs _ _ _ hp hl
 cases r with
 | inst h0 h1 h2 h3 h4 h5 hw h6 =>
  rename_i a dx ox m
  obtain ⟨od, hod, hl⟩ := look_of_ns h5.ns
  refine ⟨a, dx, ox, od, m, rfl, h0, ⟨h1, h2, ?_, ?_⟩, h3, hod, h5, hw, hl, h6, h1, h4⟩
  ·unfold notCls
   rw [h4]
  ·rw [h3]; exact hod
theorem handedIn_rep {v : PV} {u : Value} {h : Heap} (r : VRep h Z v u) : handedIn u = true := by cases r <;> rfl
theorem getattr_ok {o : PV} {u : Value} {a : Nat} {n : Str} (I : Rp X Z U s.heap) (ro : VRep s.heap Z o u) (hn : X.attrs[a]? = some n) : Ok X A [] fs Z s VRep (getAttr u n true) (KJ o a U) :=
 .optR fun l hl => .optR fun q hc => .guard fun ha => .optR fun v hv => by
  obtain ⟨p, rfl, hp⟩ := (Oc hl ▸ ro).inv
  obtain ⟨x, dx, ox, od, m, rfl, R⟩ := inst_of I hp (UW hc)
  have q := R.rep a n hn
  rw [hv] at q
  obtain ⟨w, e1, e2⟩ := q
  obtain ⟨g1, g2, attr, g3, g4⟩ := X.getOk _ a n R.lt ha hn
  exact Ym I e2 fun Q E k => get_value I.kin R.at_ (plainGet_of g1).1 (findObj_own g2 g3 g4 (by rw [R.look, e1])) (handedIn_rep e2) (k _)
theorem osa_ns {R : Result -> Shared -> Prop} {x C dx : Addr} {ox od : Obj} {m : Str -> Option Value} {name : Str} {tk : Tok} {v : Value} (X' : X.K.In s.heap) (I : InstAt s.heap x ox C (some od)) (hd : ox.dict = some dx) (hn : s.heap.Ns1 dx m) (hw : Within m X.attrs)
  (hp : plainOver X.K C = true) (ht : takerIn X.K C name = some none) (hh : hasDictIn X.K C = true)
  (h : ∀ h', h'.Ns1 dx (fun x => if x = name then some v else m x) -> Heap.SameBut dx s.heap h' -> R (.ok (.ret .none)) { s with heap := h', toks := s.toks + 1 }) :
  codeAny (model X.prog X.w) A (.call (.builtin "object.__setattr__") ⟨[.ref x, .str name tk, v], []⟩) R s := by
 refine osa_open X' I hp ht fun b => ?_
 obtain ⟨cd, hc, hd'⟩ := any_some hh
 obtain ⟨hx, hcl, hn', -⟩ := I
 obtain ⟨oc, odi, oda, osl⟩ := ox
 dsimp only at hcl hd
 subst hcl hd
 refine wpAny_bind (wpAny_pure (wpAny_bind (wpAny_bind (wpAny_loadPart hx (wpAny_bind ((looks_clsIn X' hc).here ?_))))))
 rw [hd']
 refine wpAny_pure (a := some dx) (wpAny_bind (wpAny_pure (wpAny_bind ?_)))
 refine wpAny_nsSet1 hn fun h' n' s' => ?_
 obtain ⟨oD, esD, epD, hoD, hdD, hcD⟩ := n'.count (Within.cons name v hw)
 refine wpAny_bind (wpAny_lookBehind hoD (by rw [hdD]; exact pastItsLine_dict (Nat.le_trans hcD (by rw [List.length_cons, sizeLine_eq]; have := X.attrShort; lia))) ?_)
 exact wpAny_pure (h h' n' s')
theorem lookup_putF {a b : Nat} {v : PV} (l : List (Nat × PV)) : (putF a v l).lookup b = if b = a then some v else l.lookup b := by
 have hd : ∀ (k : Nat) (w : PV) (r : List (Nat × PV)), ((k, w) :: r).lookup b = if b = k then some w else r.lookup b := fun k w r => by
  rw [List.lookup_cons]
  by_cases e : b = k
  ·rw [e, beq_self_eq_true, if_pos rfl]
  ·rw [beq_eq_false_iff_ne.mpr e, if_neg e]
 induction l with
 | nil => exact hd _ _ _
 | cons e r ih =>
  obtain ⟨k, w⟩ := e
  show (if (k == a) = true then (k, v) :: r else (k, w) :: putF a v r).lookup b = _
  by_cases h : k = a
  ·rw [if_pos (beq_iff_eq.mpr h), hd, hd, h]
   by_cases e' : b = a
   ·rw [if_pos e', if_pos e']
   ·rw [if_neg e', if_neg e', if_neg e']
  ·rw [if_neg (fun q => h (beq_iff_eq.mp q)), hd, hd, ih]
   by_cases e' : b = k
   ·rw [if_pos e', if_pos e', if_neg (e' ▸ h)]
   ·rw [if_neg e', if_neg e']
theorem attr_inj {i j : Nat} {n : Str} (hi : X.attrs[i]? = some n) (hj : X.attrs[j]? = some n) : i = j := by
 obtain ⟨h1, e1⟩ := List.getElem?_eq_some_iff.mp hi
 obtain ⟨h2, e2⟩ := List.getElem?_eq_some_iff.mp hj
 have nd := List.pairwise_iff_getElem.mp X.attrNodup
 rcases Nat.lt_trichotomy i j with l | l | l
 ·exact absurd (e1.trans e2.symm) (nd i j h1 h2 l)
 ·exact l
 ·exact absurd (e2.trans e1.symm) (nd j i h2 h1 l)
theorem inst_ne {c : Nat} {fs : List (Nat × PV)} {h : Heap} {a dx : Addr} {ox od : Obj} {m : Str -> Option Value} (R : InstR X h Z c fs a dx ox od m) : a ≠ dx := fun e => by
 obtain ⟨o, es, ep, ho, hd, _⟩ := R.ns.ns
 rw [← e, R.raw] at ho
 cases ho
 rw [R.plain] at hd
 cases hd
theorem inst_put {c a : Nat} {fs' : List (Nat × PV)} {h h' : Heap} {x dx : Addr} {ox od : Obj} {m : Str -> Option Value} {v : PV} {w : Value} {n : Str} (R : InstR X h Z c fs' x dx ox od m) (hn : X.attrs[a]? = some n) (rv : VRep h Z v w)
  (n' : h'.Ns1 dx (fun x => if x = n then some w else m x)) (s' : Heap.SameBut dx h h') (S : Step [] [] Z Z h h') : ORep X h' Z (.inst c (putF a v fs')) (x, some dx) := by
 refine .inst R.lt ((s'.2 x (inst_ne R)).trans R.raw) R.at_.cls R.dict R.plain n' (fun y hy => ?_) fun j nj hj => ?_
 ·by_cases e : y = n
  ·rw [e]; exact List.mem_of_getElem? hn
  ·rw [if_neg e] at hy; exact R.within y hy
 rw [lookup_putF]
 by_cases e : j = a
 ·subst e
  rw [if_pos rfl]
  rw [hn] at hj
  cases hj
  exact ⟨w, if_pos rfl, rv.step S Ja⟩
 ·rw [if_neg e, if_neg (fun q : nj = n => e (attr_inj hj (by rw [q]; exact hn)))]
  exact (R.rep.step S Ja) j nj hj
theorem setattr_ok {o v : PV} {u w : Value} {a : Nat} {n : Str} (I : Rp X Z U s.heap) (ro : VRep s.heap Z o u) (rv : VRep s.heap Z v w) (hn : X.attrs[a]? = some n) :
  Ok X A [] fs Z s (fun _ _ (_ : Unit) (_ : Unit) => True) (setAttr u n w) (KB o a v U) :=
 .optR fun l hl => .optR fun q hc => .guard fun ha => by
  obtain ⟨p, rfl, hp⟩ := (Oc hl ▸ ro).inv
  have hc := UW hc
  obtain ⟨x, dx, ox, od, m, rfl, R⟩ := inst_of I hp hc
  obtain ⟨g1, g2, _⟩ := X.getOk _ a n R.lt ha hn
  obtain ⟨k1, k2, k3⟩ := X.setOk _ a n R.lt ha hn
  refine KD (b := ()) I hp (by rw [hc]; exact fun _ q => nomatch q) (d := dx) own2 (fun _ _ => trivial) fun Q E k => ?_
  refine set_plain I.kin R.at_ k1 ?_
  exact osa_ns (s := { s with toks := s.toks + 1 }) I.kin R.at_ R.dict R.ns R.within k2 k3 g2 fun h' n' s' => k h' _ s' (Exists.elim n' fun o e => Exists.elim e fun _ e => Exists.elim e fun _ e => ⟨o, e.1⟩) fun S => inst_put R hn rv n' s' S
theorem ZG {l : Addr} {items : Array Value} {k : Int} {t : Tok} {v : Value} {E : Value -> Shared -> Prop} {Q : Unit -> Shared -> Prop} (hl : s.heap.PlainList l items) (h0 : 0 ≤ k) (hfit : k < 2 ^ 63) (hn : k < items.size)
  (hQ : ∀ h', h'.PlainList l (items.setIfInBounds k.toNat v) -> Heap.SameBut l s.heap h' -> Q () { s with heap := h' }) : wpAny (model X.prog X.w) A (setItem (.ref l) (.int k t) v) Q E s := by
 obtain ⟨n, ho⟩ := hl
 have il : s.heap.IsList l items := ⟨_, ho, rfl, n, rfl⟩
 unfold setItem
 try with_reducible refine wpAny_holding ?_
 refine wpAny_bind (wpAny_sequenceKey il.typeIs (by decide) ?_)
 refine wpAny_bind (wpAny_callSpecial?_slot (name := Str.ofString "__setitem__") il.typeIs slot_list_setitem
  (wpAny_call_entry slot_list_setitem il.typeIs entry_list_setitem ?_ (args_list_setitem _ _ _)))
 show wpAny _ _ (Builtin.List.listSubscript? (.int k t) >>= _) _ _ s
 refine wpAny_bind (wpAny_listSubscript_int (fitsIndex_of h0 hfit) ?_)
 clear hfit
 obtain ⟨j, rfl⟩ := Int.eq_ofNat_of_zero_le h0
 have hj : j < items.size := by lia
 have hx' : items[j]? = some items[j] := Array.getElem?_eq_getElem hj
 show wpAny _ _ ((seqItemAt l j >>= fun r => pure (r.map (j, ·))) >>= _) _ _ s
 refine wpAny_bind (wpAny_bind (wpAny_seqItemAt ho rfl (wpAny_pure ?_)))
 rw [hx']
 show wpAny _ _ (setSeqItemAt l j v >>= _) _ _ s
 have hfin : (s.heap.update l (Obj.mapSeq (·.setIfInBounds j v))).PlainList l (items.setIfInBounds j v) := ⟨_, IsL.update ho _⟩
 refine wpAny_bind (wpAny_setSeqItemAt ho rfl ?_)
 first
  | exact wpAny_bind (wpAny_pure (wpAny_pure ⟨.none, rfl, wpAny_pure (hQ _ hfin (Heap.SameBut.update ..))⟩))
  | exact wpAny_pure ⟨.none, rfl, wpAny_pure (hQ _ hfin (Heap.SameBut.update ..))⟩
theorem setdict_ok {l : Nat} {p : Addr × Option Addr} {es : List (PV × PV)} {i v : PV} {y w : Value} (I : Rp X Z U s.heap) (hp : Z[l]? = some p) (hes : U[l]? = some (.dict es)) (ri : VRep s.heap Z i y) (rv : VRep s.heap Z v w) (hk : Jt i es = true) (hz : es.length ≤ 100000) :
  Ok X A [] fs Z s (fun _ _ (_ : Unit) (_ : Unit) => True) (setItem (.ref p.1) y w) (.ok () (U.set l (.dict (Ob i v es)))) := by
 have r := I.objs _ _ _ hp hes
 cases r with
 | dict D =>
  have ns := D.ns_
  obtain ⟨g, x, kvs, rfl, dd, kk⟩ := Uy D hk
  refine KD (b := ()) I hp (by rw [hes]; exact fun _ q => nomatch q) own1 (fun _ _ => trivial) fun Q E q => ?_
  refine wpAny_setItem_pairs (k := x) (g.is ri) dd (fun h' hd hs => ?_) (by rw [sizeLine_eq, ← kk.length]; lia)
  refine q h' _ hs (Exists.elim hd fun o e => Exists.elim e fun _ e => Exists.elim e fun _ e => ⟨o, e.1⟩) fun S => .dict ⟨ns, g, _, hd, ?_⟩
  exact (kk.step S Ja).set g.eq x (rv.step S Ja) (Exists.elim dd fun _ e => Exists.elim e fun _ e => Exists.elim e fun _ e => e.2.2.2.2.2)
theorem setitem_ok {o i v : PV} {u y w : Value} (I : Rp X Z U s.heap) (ro : VRep s.heap Z o u) (ri : VRep s.heap Z i y) (rv : VRep s.heap Z v w) :
  Ok X A [] fs Z s (fun _ _ (_ : Unit) (_ : Unit) => True) (setItem u y w) (KA o i v U) :=
 .optR fun l hl => by
  obtain ⟨p, rfl, hp⟩ := (Oc hl ▸ ro).inv
  rcases hx : U[l]? with _ | o
  ·exact .stuck
  cases o with
  | list xs =>
   refine .optR fun k hk => .guard fun hz => ?_
   obtain ⟨t, rfl⟩ := (YH hk ▸ ri).inv
   obtain ⟨d, items, rfl, ⟨n, hl⟩, rr⟩ := list_set I hp hx
   have sz := JU rr
   refine KD (b := ()) I hp (by rw [hx]; exact fun _ q => nomatch q) (d := d) own1 (fun _ _ => trivial) fun Q E q => ?_
   refine ZG ⟨n, hl⟩ hz.1 (Int.lt_of_le_of_lt hz.2.2 (by decide)) ((Int.toNat_lt hz.1).mp (sz ▸ hz.2.1)) fun h' hl' hs => ?_
   refine q h' s.toks hs (Exists.elim hl' fun _ e => ⟨_, e⟩) fun S => ?_
   refine .list hl' ?_
   rw [Array.toList_setIfInBounds]
   exact (rr.step S Ja).set (rv.step S Ja) _
  | dict es => exact .guard fun h => setdict_ok I hp hx ri rv h.1 h.2
  | _ => exact .stuck
end
inductive GV where
 | fn (k : Nat)
 | cls (c : Nat)
 | cst (v : PV)
deriving Inhabited
structure SX where
 glob : List (Str × GV)
 bnames : List Str
 attrs : List Str
structure SC where
 names : List (Str × NameKind)
 Γ : List (Str × Nat)
 base : Nat
 code : Option Value
structure SOk (X : Cx) (S : SX) : Prop where
 attrs : X.attrs = S.attrs
 fn : ∀ n k, S.glob.lookup n = some (.fn k) -> X.mg n = some (.ref (X.fa k)) /\ keepIn X.K (.ref (X.fa k)) = true
 cls : ∀ n c, S.glob.lookup n = some (.cls c) -> X.mg n = some (.ref (X.cls c)) /\ keepIn X.K (.ref (X.cls c)) = true
 cst : ∀ n v, S.glob.lookup n = some (.cst v) -> ∃ u, X.mg n = some u /\ ∀ h Z, VRep h Z v u
 none : ∀ n, n ∈ S.bnames -> X.mg n = none
noncomputable def Rm (A : Around) (n : Nat) : Prop := A.depth + n < recursionLimit /\ A.units + 3 * n + 100 < cLine
structure At (X : Cx) (C : SC) (lvl : Nat) (A : Around) (fs : List Addr) (env : Env) (fr : Fr) (Z : Rho) (U : St) (s : Shared) : Prop where
 I : Rp X Z U s.heap
 F : FrR X C.Γ env fr Z s.heap
 names : env.scope.names = C.names
 ar : AOK X A fs Z s.heap
 rm : Rm A lvl
 cd : ∀ v, C.code = some v -> env.code = v
noncomputable def EOk (X : Cx) (C : SC) (lvl : Nat) (e : Expr) (f : Fr -> St -> R PV) : Prop :=
 ∀ A fs env fr Z U s, At X C lvl A fs env fr Z U s -> Ok X A [] fs Z s VRep (eval e env) (f fr U)
noncomputable def Gb {α : Type} : Heap -> Rho -> α -> α -> Prop := fun _ _ a b => a = b
noncomputable def BOk (X : Cx) (C : SC) (lvl : Nat) (e : Expr) (f : Fr -> St -> R Bool) : Prop :=
 ∀ A fs env fr Z U s, At X C lvl A fs env fr Z U s -> Ok X A [] fs Z s Gb (isTrue e env (eval e env)) (f fr U)
section
variable {X : Cx} {S : SX} {C : SC} {lvl : Nat} {A : Around} {W fs : List Addr} {env : Env} {fr : Fr} {Z Z' : Rho} {U U' : St} {s s' : Shared}
theorem At.next (a : At X C lvl A fs env fr Z U s) (I : Rp X Z' U' s'.heap) (T : Step [] fs Z Z' s.heap s'.heap) : At X C lvl A fs env fr Z' U' s' :=
 ⟨I, a.F.step T, a.names, a.ar.step0 T, a.rm, a.cd⟩
theorem At.kind (a : At X C lvl A fs env fr Z U s) (n : Str) : env.kindOf n = C.names.lookup n := by unfold Env.kindOf; rw [a.names]
theorem At.units (a : At X C lvl A fs env fr Z U s) : A.units + 32 < cLine := by have := a.rm.2; lia
theorem Gv.ok {α β : Type} {rel : Heap -> Rho -> α -> β -> Prop} {t : Sem β} {a : α} {b : β} (g : Gv X A s t b) (I : Rp X Z U s.heap) (r : rel s.heap Z a b) : Ok X A [] fs Z s rel t (.ok a U) :=
 Ok.to fun Q E k => g Q E fun j => k b Z _ ⟨s.heap, j, rfl⟩ I r Step.refl
theorem Ok.pure' {α β : Type} {rel : Heap -> Rho -> α -> β -> Prop} {a : α} {b : β} (I : Rp X Z U s.heap) (r : rel s.heap Z a b) : Ok X A [] fs Z s rel (pure b : Sem β) (.ok a U) := Ok.ret I r
theorem Ok.release {γ δ : Type} {vs keep : List Value} {k : Sem δ} {r : R γ} {rel' : Heap -> Rho -> γ -> δ -> Prop} (h : Ok X A [] fs Z s rel' k r) : Ok X A [] fs Z s rel' (release vs keep >>= fun _ => k) r :=
 fun ns => wpAny_bind (wpAny_release (h ns))
theorem Ok.via {α β : Type} {rel : Heap -> Rho -> α -> β -> Prop} {t t' : Sem β} {r : R α} (h : ∀ Q E, wpAny (model X.prog X.w) A t' Q E s -> wpAny (model X.prog X.w) A t Q E s) (k : Ok X A [] fs Z s rel t' r) : Ok X A [] fs Z s rel t r :=
 fun ns => h _ _ (k ns)
theorem e_int (i : Int) (k : Nat) (pos : Pos) : EOk X C lvl (.Constant (.int i) k pos) fun _ U => .ok (.int i) U := fun A fs env fr Z U s a => JQ a.I fun Q E k => wpAny_Constant_int (k _ _)
theorem e_str (x : Str) (k : Nat) (pos : Pos) : EOk X C lvl (.Constant (.str x) k pos) fun _ U => .ok (.str x) U := fun A fs env fr Z U s a => ZT a.I fun Q E k => wpAny_Constant_str (k _ _)
theorem e_bool (b : Bool) (k : Nat) (pos : Pos) : EOk X C lvl (.Constant (.bool b) k pos) fun _ U => .ok (.bool b) U := fun A fs env fr Z U s a => Zx a.I fun Q E k => Constant_bool (k s.toks)
theorem e_none (k : Nat) (pos : Pos) : EOk X C lvl (.Constant .none k pos) fun _ U => .ok .none U := fun A fs env fr Z U s a => Ym a.I .none fun Q E k => Constant_none (k s.toks)
theorem e_bytes (l : List UInt8) (k : Nat) (pos : Pos) : EOk X C lvl (.Constant (.bytes l) k pos) fun _ U => .ok (.bytes l.toArray) U := fun A fs env fr Z U s a =>
 Ok.to fun Q E k => Constant_bytes (k _ Z _ ⟨s.heap, _, rfl⟩ a.I (.bytes _ _) Step.refl)
theorem e_var {n : Str} {i : Nat} {pos : Pos} (hd : (n == ("__debug__" : Str)) = false) (hcd : (n == ("__classdict__" : Str)) = false) (hΓ : C.Γ.lookup n = some i) :
  EOk X C lvl (.Name n pos) fun fr U => match fr[i]? with | some (some v) => .ok v U | _ => .stuck := fun A fs env fr Z U s a => by
 have hm := Ji hΓ
 have e : ∀ o, fr[i]? = o -> Ok X A [] fs Z s VRep (eval (.Name n pos) env) (match o with | some (some v) => .ok v U | _ => .stuck) := fun o hv => by
  cases o with
  | none => exact .stuck
  | some o =>
   cases o with
   | none => exact .stuck
   | some v =>
    rcases a.F.kinds n i hm with hk | hk | hk
    ·obtain ⟨m, hn, r⟩ := a.F.ns
     obtain ⟨u, e1, e2⟩ := r n i hm hk v hv
     exact Ym a.I e2 fun Q E k => wpAny_Name (wpAny_loadName_local a.F.kind hk hn e1 (k s.toks)) hd
    ·obtain ⟨c, cur, hc, hcell, r⟩ := a.F.cells n i hm (.inl hk)
     obtain ⟨u, rfl, e2⟩ := r v hv
     exact Ym a.I e2 fun Q E k => wpAny_Name (wpAny_loadName_cell a.F.kind hk hc hcell (k s.toks)) hd
    ·obtain ⟨c, cur, hc, hcell, r⟩ := a.F.cells n i hm (.inr hk)
     obtain ⟨u, rfl, e2⟩ := r v hv
     exact Ym a.I e2 fun Q E k => wpAny_Name (wpAny_loadName_free a.F.kind hk hc hcell (k s.toks) hcd) hd
 exact e _ rfl
theorem At.mg (a : At X C lvl A fs env fr Z U s) : s.heap.Ns env.globals X.mg := by rw [a.F.glob]; exact X.gns.keeps a.I.base
theorem At.mb (a : At X C lvl A fs env fr Z U s) : s.heap.Ns env.builtins X.mb := by rw [a.F.bi]; exact X.bns.keeps a.I.base
theorem KI (a : At X C lvl A fs env fr Z U s) {n : Str} {pos : Pos} {u : Value} (hd : (n == ("__debug__" : Str)) = false) (hk : C.names.lookup n = some .globalImplicit) (hu : X.mg n = some u) : Gv X A s (eval (.Name n pos) env) u := fun Q E k =>
 Calls.Name_function_global a.F.kind ((a.kind n).trans hk) (Calls.loadGlobal_global a.mg hu (k s.toks)) hd
theorem UA (a : At X C lvl A fs env fr Z U s) {n : Str} {pos : Pos} {u : Value} (hd : (n == ("__debug__" : Str)) = false) (hk : C.names.lookup n = some .globalImplicit) (hm : X.mg n = none) (hu : bootBuiltins n = some u) (hn : n ≠ "__name__") : Gv X A s (eval (.Name n pos) env) u := fun Q E k =>
 Calls.Name_function_global a.F.kind ((a.kind n).trans hk) (Calls.loadGlobal_builtin a.mg hm a.mb (X.boot n u hu hn) (k s.toks)) hd
theorem e_gcst (O : SOk X S) {n : Str} {v : PV} {pos : Pos} (hd : (n == ("__debug__" : Str)) = false) (hk : C.names.lookup n = some .globalImplicit) (hg : S.glob.lookup n = some (.cst v)) : EOk X C lvl (.Name n pos) fun _ U => .ok v U := fun A fs env fr Z U s a => by
 obtain ⟨u, e1, e2⟩ := O.cst n v hg
 exact (KI a hd hk e1).ok a.I (e2 _ _)
theorem KT {u : Value} {v : PV} (I : Rp X Z U s.heap) (r : VRep s.heap Z v u) : Ok X A [] fs Z s Gb (PySem.truthy u) (Kt v U) := by
 unfold Kt
 cases hb : truthy U v with
 | none => exact .stuck
 | some b => exact (truthy_ok I r hb).ok I rfl
theorem e_neg {e : Expr} {f : Fr -> St -> R PV} {pos : Pos} (h : EOk X C lvl e f) : EOk X C lvl (.UnaryOp .USub e pos) fun fr U => (f fr U).bind fun v U => match v with | .int i => .ok (.int (-i)) U | _ => .stuck := fun A fs env fr Z U s a => by
 rw [arm_eval_UnaryOp]
 refine (h A fs env fr Z U s a).bind fun v U' Z' b s' _ _ I' r T => Ok.standAt (Ok.holding ?_)
 cases r with
 | int i t => exact JQ I' fun Q E k => P.neg_int (k _ _)
 | _ => exact .stuck
theorem e_not {e : Expr} {f : Fr -> St -> R PV} {pos : Pos} (h : EOk X C lvl e f) : EOk X C lvl (.UnaryOp .Not e pos) fun fr U => (f fr U).bind fun v U => (Kt v U).bind fun b U => .ok (.bool (!b)) U := fun A fs env fr Z U s a => by
 rw [arm_eval_UnaryOp]
 refine (h A fs env fr Z U s a).bind fun v U' Z' b s' _ _ I' r T => Ok.standAt (Ok.holding ?_)
 intro ns
 unfold Kt at ns ⊢
 cases ht : truthy U' v with
 | none => rw [ht] at ns; exact absurd rfl ns
 | some c => exact not_of (truthy_ok I' r ht _ _ fun j => ⟨_, _, Z', rfl, ⟨_, j, rfl⟩, I', .bool _, Step.refl⟩)
theorem e_ite {c t e : Expr} {g : Fr -> St -> R Bool} {f1 f2 : Fr -> St -> R PV} {pos : Pos} (hc : BOk X C lvl c g) (h1 : EOk X C lvl t f1) (h2 : EOk X C lvl e f2) : EOk X C lvl (.IfExp c t e pos) fun fr U => (g fr U).bind fun b U => if b then f1 fr U else f2 fr U := fun A fs env fr Z U s a => by
 rw [arm_eval_IfExp]
 refine (hc A fs env fr Z U s a).bind fun v U' Z' b s' _ _ I' r T => ?_
 cases r
 cases v
 ·exact h2 _ _ _ _ _ _ _ (a.next I' T)
 ·exact h1 _ _ _ _ _ _ _ (a.next I' T)
theorem e_bin {l r : Expr} {op : Operator} {f g : Fr -> St -> R PV} {pos : Pos} (hl : EOk X C lvl l f) (hr : EOk X C lvl r g) : EOk X C lvl (.BinOp l op r pos) fun fr U => (f fr U).bind fun x U => (g fr U).bind fun y U => binop op x y U := fun A fs env fr Z U s a => by
 rw [arm_eval_BinOp]
 refine (hl A fs env fr Z U s a).bind fun v U' Z' b s' _ _ I' r T => ?_
 refine Ok.bind (Ok.holding (hr _ _ _ _ _ _ _ (a.next I' T))) fun w U'' Z'' c s'' _ _ I'' r' T' => Ok.standAt (Ok.operate ?_)
 exact binop_ok I'' (r.step T' Ja) r'
inductive All2 {α β : Type} (P : α -> β -> Prop) : List α -> List β -> Prop
 | nil : All2 P [] []
 | cons {a : α} {b : β} {as : List α} {bs : List β} : P a b -> All2 P as bs -> All2 P (a :: as) (b :: bs)
theorem All2.length {α β : Type} {P : α -> β -> Prop} {as : List α} {bs : List β} (h : All2 P as bs) : as.length = bs.length := by
 induction h with
 | nil => rfl
 | cons _ _ ih => exact congrArg (· + 1) ih
theorem OQ (es : List Expr) (env : Env) : evalEach es env = es.map fun e => eval e env := by
 induction es with
 | nil => rfl
 | cons e es ih => rw [arm_evalEach_cons, ih]; rfl
theorem bop_ok {op : BoolOp} {pos : Pos} {ev : Fr -> IE -> St -> R PV} {es : List Expr} {ies : List IE} (hs : All2 (fun e ie => EOk X C lvl e fun fr U => ev fr ie U) es ies) : ∀ {A fs env fr Z U s}, At X C lvl A fs env fr Z U s ->
  Ok X A [] fs Z s VRep (boolOp pos op (es.map fun e => eval e env)) (evBop (ev fr) (op == .And) ies U) := by
 induction hs with
 | nil => intro A fs env fr Z U s a; exact .stuck
 | cons h r ih =>
  intro A fs env fr Z U s a
  cases r with
  | nil => exact h _ _ _ _ _ _ _ a
  | cons h' r =>
   refine Ok.bind (h _ _ _ _ _ _ _ a) fun v U' Z' b s' _ _ I' rv T => Ok.standAt ?_
   refine Ok.bind (Ok.holding (KT I' rv)) fun t U'' Z'' t' s'' _ _ I'' rt T' => ?_
   cases rt
   have hr := ih (a.next I'' (T.trans T'))
   cases op <;> cases t
   ·exact Ok.ret I'' (rv.step T' Ja)
   ·exact hr
   ·exact hr
   ·exact Ok.ret I'' (rv.step T' Ja)
theorem e_bop {op : BoolOp} {pos : Pos} {ev : Fr -> IE -> St -> R PV} {es : List Expr} {ies : List IE} (h : All2 (fun e ie => EOk X C lvl e fun fr U => ev fr ie U) es ies) : EOk X C lvl (.BoolOp op es pos) fun fr U => evBop (ev fr) (op == .And) ies U := fun A fs env fr Z U s a => by
 rw [arm_eval_BoolOp]
 have e1 : evalEach es env = es.map fun e => eval e env := OQ es env
 rw [e1]
 exact bop_ok h a
end
section
variable {X : Cx} {S : SX} {C : SC} {lvl : Nat} {A : Around} {W fs : List Addr} {env : Env} {fr : Fr} {Z Z' : Rho} {U U' : St} {s s' : Shared}
theorem UI (t : Bool) : Gv X A s (PySem.truthy (.bool t)) t := fun Q E k => wpAny_truthy_bool (k s.toks)
theorem KN {op : CmpOp} {a b : PV} {u v : Value} (I : Rp X Z U s.heap) (hu : A.units + 32 < cLine) (ra : VRep s.heap Z a u) (rb : VRep s.heap Z b v) : Ok X A [] fs Z s (fun h Z (r : Bool) (w : Value) => w = .bool r) (compareOp op u v) (cmpR op a b U) := by
 unfold cmpR
 cases hr : cmpop op a b U with
 | none => exact .stuck
 | some r => exact (cmpop_ok I hu ra rb hr).ok I rfl
noncomputable def JX (e : Expr) : Bool := e.ctorIdx != 7
theorem behind_of {op : CmpOp} {e : Expr} (h : JX e = true) : behindInMarks op e = false := by
 cases e <;> first | rfl | cases h
theorem marked_of (es : List Expr) : ∀ (ops : List CmpOp) (ts : List (Sem Value)), (∀ e, e ∈ es -> JX e = true) -> markedEach ops es ts = ts := by
 induction es with
 | nil => intro ops ts h; cases ops <;> first | rfl | (cases ‹List CmpOp› <;> rfl)
 | cons e es ih =>
  intro ops ts h
  have he := h e List.mem_cons_self
  have ht := fun ops ts => ih ops ts fun x hx => h x (List.mem_cons_of_mem _ hx)
  cases ops with
  | nil => rfl
  | cons op ops =>
   cases ts with
   | nil => cases ops <;> cases es <;> rfl
   | cons t ts =>
    cases ops with
    | nil => cases es with
     | nil => cases ts with
      | nil => exact congrArg (fun x => [x]) (markedBehindIn_of_false (behind_of he))
      | cons _ _ => exact congrArg (t :: ·) (ht _ _)
     | cons _ _ => cases ts <;> exact congrArg (t :: ·) (ht _ _)
    | cons _ _ => cases es <;> cases ts <;> exact congrArg (t :: ·) (ht _ _)
theorem test_ok {pos : Pos} {ev : Fr -> IE -> St -> R PV} {es : List Expr} {ies : List IE} (hs : All2 (fun e ie => EOk X C lvl e fun fr U => ev fr ie U) es ies) : ∀ {ops : List CmpOp}, ops.length = es.length ->
  ∀ {A fs env fr Z U s} {x : PV} {u : Value}, At X C lvl A fs env fr Z U s -> VRep s.heap Z x u ->
  Ok X A [] fs Z s Gb (testChain pos u ops (es.map fun e => eval e env)) (Yo (ev fr) x (ops.zip ies) U) := by
 induction hs with
 | nil => intro ops hl A fs env fr Z U s x u a rx; cases ops with
  | nil => exact .stuck
  | cons _ _ => cases hl
 | cons h r ih =>
  intro ops hl A fs env fr Z U s x u a rx
  cases ops with
  | nil => cases hl
  | cons op ops =>
  cases r with
  | nil =>
   cases ops with
   | cons _ _ => cases hl
   | nil =>
    refine Ok.bind (Ok.holding (h _ _ _ _ _ _ _ a)) fun v U' Z' b s' _ _ I' rv T => Ok.standAt ?_
    rw [← R.bind_ret (cmpR op x v U')]
    refine Ok.bind (Ok.operate (KN I' (a.next I' T).units (rx.step T Ja) rv)) fun t U'' Z'' w s'' _ _ I'' rt T' => ?_
    subst rt
    exact Ok.holding ((UI t).ok I'' rfl)
  | cons h' r =>
   cases ops with
   | nil => cases hl
   | cons op' ops =>
    refine Ok.bind (Ok.holding (h _ _ _ _ _ _ _ a)) fun v U' Z' b s' _ _ I' rv T => Ok.standAt ?_
    refine Ok.bind (Ok.holding (KN I' (a.next I' T).units (rx.step T Ja) rv)) fun t U'' Z'' w s'' _ _ I'' rt T' => Ok.release ?_
    subst rt
    refine Ok.bind (m := .ok t U'') (f := fun t U => if t then Yo (ev fr) v ((op' :: ops).zip (_ :: _)) U else .ok false U) (rel := Gb) (Ok.holding ((UI t).ok I'' rfl)) fun t' U3 Z3 w' s3 e3 _ I3 rt3 T3 => ?_
    cases e3
    cases rt3
    cases t
    ·exact Ok.ret I3 rfl
    ·exact ih (Nat.succ.inj hl) (a.next I3 (T.trans (T'.trans T3))) ((rv.step T' Ja).step T3 Ja)
theorem chain_ok {pos : Pos} {ev : Fr -> IE -> St -> R PV} {es : List Expr} {ies : List IE} (hs : All2 (fun e ie => EOk X C lvl e fun fr U => ev fr ie U) es ies) : ∀ {ops : List CmpOp}, ops.length = es.length ->
  ∀ {A fs env fr Z U s} {x : PV} {u : Value}, At X C lvl A fs env fr Z U s -> VRep s.heap Z x u ->
  Ok X A [] fs Z s VRep (compareChain pos u ops (es.map fun e => eval e env)) ((Yo (ev fr) x (ops.zip ies) U).bind fun b U => .ok (.bool b) U) := by
 induction hs with
 | nil => intro ops hl A fs env fr Z U s x u a rx; cases ops with
  | nil => exact .stuck
  | cons _ _ => cases hl
 | cons h r ih =>
  intro ops hl A fs env fr Z U s x u a rx
  cases ops with
  | nil => cases hl
  | cons op ops =>
  cases r with
  | nil =>
   cases ops with
   | cons _ _ => cases hl
   | nil =>
    refine Ok.of_res (R.bind_assoc (ev fr _ U) (fun b U => cmpR op x b U) _) ?_
    refine Ok.bind (Ok.holding (h _ _ _ _ _ _ _ a)) fun v U' Z' b s' _ _ I' rv T => Ok.standAt ?_
    exact Ok.map (Ok.operate (KN I' (a.next I' T).units (rx.step T Ja) rv)) fun h Z b w e => by rw [e]; exact .bool b
  | cons h' r =>
   cases ops with
   | nil => cases hl
   | cons op' ops =>
    refine Ok.of_res (R.bind_assoc (ev fr _ U) (fun b U => (cmpR op x b U).bind fun t U => if t then Yo (ev fr) b ((op' :: ops).zip (_ :: _)) U else .ok false U) _) ?_
    refine Ok.bind (Ok.holding (h _ _ _ _ _ _ _ a)) fun v U' Z' b s' _ _ I' rv T => Ok.standAt ?_
    refine Ok.of_res (R.bind_assoc (cmpR op x v U') _ _) ?_
    refine Ok.bind (Ok.holding (KN I' (a.next I' T).units (rx.step T Ja) rv)) fun t U'' Z'' w s'' _ _ I'' rt T' => Ok.release ?_
    subst rt
    refine Ok.bind (m := .ok t U'') (f := fun t U => (if t then Yo (ev fr) v ((op' :: ops).zip (_ :: _)) U else .ok false U : R Bool).bind fun b U => .ok (PV.bool b) U) (rel := Gb) (Ok.holding ((UI t).ok I'' rfl)) fun t' U3 Z3 w' s3 e3 _ I3 rt3 T3 => ?_
    cases e3
    cases rt3
    cases t
    ·exact Ok.ret I3 (.bool _)
    ·exact ih (Nat.succ.inj hl) (a.next I3 (T.trans (T'.trans T3))) ((rv.step T' Ja).step T3 Ja)
theorem e_cmp {l : Expr} {ops : List CmpOp} {cs : List Expr} {pos : Pos} {f : Fr -> St -> R PV} {ev : Fr -> IE -> St -> R PV} {ies : List IE} (hl : ops.length = cs.length) (hs : ∀ e, e ∈ cs -> JX e = true) (h : EOk X C lvl l f) (hr : All2 (fun e ie => EOk X C lvl e fun fr U => ev fr ie U) cs ies) :
  EOk X C lvl (.Compare l ops cs pos) fun fr U => (f fr U).bind fun x U => (Yo (ev fr) x (ops.zip ies) U).bind fun b U => .ok (.bool b) U := fun A fs env fr Z U s a => by
 rw [arm_eval_Compare, marked_of _ _ _ hs, OQ]
 exact (h _ _ _ _ _ _ _ a).bind fun v U' Z' b s' _ _ I' rv T => chain_ok hr hl (a.next I' T) rv
theorem b_cmp {l : Expr} {ops : List CmpOp} {cs : List Expr} {pos : Pos} {f : Fr -> St -> R PV} {ev : Fr -> IE -> St -> R PV} {ies : List IE} (hl : ops.length = cs.length) (hs : ∀ e, e ∈ cs -> JX e = true) (h : EOk X C lvl l f) (hr : All2 (fun e ie => EOk X C lvl e fun fr U => ev fr ie U) cs ies) :
  BOk X C lvl (.Compare l ops cs pos) fun fr U => (f fr U).bind fun x U => Yo (ev fr) x (ops.zip ies) U := fun A fs env fr Z U s a => by
 rw [arm_isTrue_Compare, marked_of _ _ _ hs, OQ]
 exact (h _ _ _ _ _ _ _ a).bind fun v U' Z' b s' _ _ I' rv T => test_ok hr hl (a.next I' T) rv
theorem b_not {e : Expr} {g : Fr -> St -> R Bool} {pos : Pos} (h : BOk X C lvl e g) : BOk X C lvl (.UnaryOp .Not e pos) fun fr U => (g fr U).bind fun b U => .ok (!b) U := fun A fs env fr Z U s a => by
 rw [arm_isTrue_UnaryOp]
 refine (h _ _ _ _ _ _ _ a).bind fun v U' Z' b s' _ _ I' rv T => ?_
 cases rv
 exact Ok.ret I' rfl
theorem b_ite {c t e : Expr} {g g1 g2 : Fr -> St -> R Bool} {pos : Pos} (hc : BOk X C lvl c g) (h1 : BOk X C lvl t g1) (h2 : BOk X C lvl e g2) : BOk X C lvl (.IfExp c t e pos) fun fr U => (g fr U).bind fun b U => if b then g1 fr U else g2 fr U := fun A fs env fr Z U s a => by
 rw [arm_isTrue_IfExp]
 refine (hc A fs env fr Z U s a).bind fun v U' Z' b s' _ _ I' r T => ?_
 cases r
 cases v
 ·exact h2 _ _ _ _ _ _ _ (a.next I' T)
 ·exact h1 _ _ _ _ _ _ _ (a.next I' T)
theorem all_ok {op : BoolOp} {ec : Fr -> IE -> St -> R Bool} {es : List Expr} {ies : List IE} (hs : All2 (fun e ie => BOk X C lvl e fun fr U => ec fr ie U) es ies) : ∀ {A fs env fr Z U s}, At X C lvl A fs env fr Z U s ->
  Ok X A [] fs Z s Gb (allTrue op es env) (evAll (ec fr) (op == .And) ies U) := by
 induction hs with
 | nil => intro A fs env fr Z U s a; exact Ok.ret a.I rfl
 | cons h r ih =>
  intro A fs env fr Z U s a
  rw [arm_allTrue_cons]
  refine Ok.bind (h _ _ _ _ _ _ _ a) fun t U' Z' t' s' _ _ I' rt T => ?_
  cases rt
  have hr := ih (a.next I' T)
  cases op <;> cases t
  ·exact Ok.ret I' rfl
  ·exact hr
  ·exact hr
  ·exact Ok.ret I' rfl
theorem b_bop {op : BoolOp} {pos : Pos} {ec : Fr -> IE -> St -> R Bool} {es : List Expr} {ies : List IE} (h : All2 (fun e ie => BOk X C lvl e fun fr U => ec fr ie U) es ies) : BOk X C lvl (.BoolOp op es pos) fun fr U => evAll (ec fr) (op == .And) ies U := fun A fs env fr Z U s a => by
 rw [arm_isTrue_BoolOp]
 exact all_ok h a
theorem b_plain {e : Expr} {f : Fr -> St -> R PV} (he : ∀ env whole, isTrue e env whole = (whole >>= fun v => standAt e.pos >>= fun _ => holding [v] (PySem.truthy v))) (h : EOk X C lvl e f) : BOk X C lvl e fun fr U => (f fr U).bind fun v U => Kt v U := fun A fs env fr Z U s a => by
 rw [he]
 exact (h _ _ _ _ _ _ _ a).bind fun v U' Z' b s' _ _ I' rv T => Ok.standAt (Ok.holding (KT I' rv))
theorem Ot (x : Sem Value) (rest : List (Bool × Sem Value)) : spliced ((false, x) :: rest) = (x >>= fun v => holding [v] (spliced rest) >>= fun vs => pure (v :: vs)) := by
 rw [spliced]
 simp
theorem YV {ev : Fr -> IE -> St -> R PV} {es : List Expr} {ies : List IE} (hs : All2 (fun e ie => EOk X C lvl e fun fr U => ev fr ie U) es ies) : ∀ {A fs env fr Z U s}, At X C lvl A fs env fr Z U s ->
  Ok X A [] fs Z s VReps (spliced (es.map fun e => (false, eval e env))) (Jo (ev fr) ies U) := by
 induction hs with
 | nil => intro A fs env fr Z U s a; exact Ok.ret a.I .nil
 | cons h r ih =>
  intro A fs env fr Z U s a
  rw [List.map_cons, Ot]
  refine Ok.bind (h _ _ _ _ _ _ _ a) fun v U' Z' b s' _ _ I' rv T => ?_
  refine Ok.bind (Ok.holding (ih (a.next I' T))) fun vs U'' Z'' us s'' _ _ I'' rs T' => ?_
  exact Ok.ret I'' (.cons (rv.step T' Ja) rs)
noncomputable def Jl (e : Expr) : Bool := e.ctorIdx != 22
theorem Oi (es : List Expr) (env : Env) (pos : Pos) (h : ∀ e, e ∈ es -> Jl e = true) : backTo pos (starEach es env) = es.map fun e => (false, eval e env) := by
 induction es with
 | nil => rfl
 | cons e es ih =>
  have h1 := h e List.mem_cons_self
  have e1 : starEach (e :: es) env = (false, eval e env) :: starEach es env := by
   cases e <;> first | rfl | cases h1
  rw [e1, List.map_cons, ← ih fun x hx => h x (List.mem_cons_of_mem _ hx)]
  rfl
theorem newList_ok {us : List Value} {vs : List PV} (I : Rp X Z U s.heap) (r : VReps s.heap Z vs us) : Ok X A [] fs Z s VRep (newList us) (if Jp vs.length then JT (.list vs) U else .stuck) := by
 refine .guard fun hz => ?_
 have := JD hz
 exact ok_list I r fun Q E k => wpAny_newList (k s.toks) (by rw [sizeLine_eq, ← r.length]; lia)
theorem newTuple_ok {us : List Value} {vs : List PV} (I : Rp X Z U s.heap) (r : VReps s.heap Z vs us) : Ok X A [] fs Z s VRep (newTuple us) (if Jp vs.length then .ok (.tup vs) U else .stuck) := by
 refine .guard fun hz => ?_
 have := JD hz
 exact ok_tup I r fun Q E k => wpAny_newTuple (k s.toks) (by rw [sizeLine_eq, ← r.length]; lia)
theorem e_list {es : List Expr} {ies : List IE} {pos : Pos} {ev : Fr -> IE -> St -> R PV} (hs : ∀ e, e ∈ es -> Jl e = true) (h : All2 (fun e ie => EOk X C lvl e fun fr U => ev fr ie U) es ies) :
  EOk X C lvl (.List es pos) fun fr U => (Jo (ev fr) ies U).bind fun vs U => if Jp vs.length then JT (.list vs) U else .stuck := fun A fs env fr Z U s a => by
 rw [arm_eval_List, Oi _ _ _ hs]
 exact Ok.standAt ((YV h a).bind fun vs U' Z' us s' _ _ I' rs T => newList_ok I' rs)
theorem e_tup {es : List Expr} {ies : List IE} {k : Nat} {pos : Pos} {ev : Fr -> IE -> St -> R PV} (hs : ∀ e, e ∈ es -> Jl e = true) (h : All2 (fun e ie => EOk X C lvl e fun fr U => ev fr ie U) es ies) :
  EOk X C lvl (.Tuple es k pos) fun fr U => (Jo (ev fr) ies U).bind fun vs U => if Jp vs.length then .ok (.tup vs) U else .stuck := fun A fs env fr Z U s a => by
 rw [arm_eval_Tuple, Oi _ _ _ hs]
 exact Ok.standAt ((YV h a).bind fun vs U' Z' us s' _ _ I' rs T => newTuple_ok I' rs)
noncomputable def YF (e : Expr) : Bool := e.ctorIdx != 16
set_option tactic.hygienic true in
theorem base_of {o : Expr} {n : Str} {env : Env} {whole : Sem Value} (h : YF o = true) : attributeBase o n env whole = whole := by
 cases o <;> first | rfl | cases h
theorem e_attr {o : Expr} {n : Str} {i : Nat} {pos : Pos} {f : Fr -> St -> R PV} (hn : X.attrs[i]? = some n) (hs : YF o = true) (h : EOk X C lvl o f) : EOk X C lvl (.Attribute o n pos) fun fr U => (f fr U).bind fun x U => KJ x i U := fun A fs env fr Z U s a => by
 rw [arm_eval_Attribute, base_of hs]
 refine (h _ _ _ _ _ _ _ a).bind fun v U' Z' b s' _ _ I' rv T => Ok.standAt ?_
 intro ns
 refine wpAny_bind (wpAny_holding (wpAny_mono (getattr_ok (fs := fs) I' rv hn ns) (fun w s'' p => ?_) fun e s'' p => p))
 exact wpAny_bind (wpAny_letTemporaryGo (wpAny_pure p))
noncomputable def isSlice (e : Expr) : Bool := e.ctorIdx == 26
theorem gi_list {u : Value} (ht : s.TypeIs u "list") : Gv X A s (getitemInPython u) false := fun Q E k => wpAny_bind (wpAny_specialOf ht slot_list_getitem.lookup (wpAny_pure (k s.toks)))
theorem gi_tup {a : Addr} {items : Array Value} (ht : s.heap.IsTuple a items) : Gv X A s (getitemInPython (.ref a)) false := fun Q E k => wpAny_bind (wpAny_specialOf ht.typeIs F.slot_tuple_getitem.lookup (wpAny_pure (k s.toks)))
set_option tactic.hygienic true in
theorem subscr_typed {o i : PV} {u : Value} (I : Rp X Z U s.heap) (ro : VRep s.heap Z o u) (h : KV o i U ≠ .stuck) : Gv X A s (getitemInPython u) false := by
 cases ro with
 | str x t => exact fun Q E k => wpAny_bind (wpAny_specialOf (T := "str") rfl F.slot_str_getitem.lookup (wpAny_pure (k s.toks)))
 | tup ht _ _ => exact gi_tup ht
 | loc hp =>
  rename_i l p
  have h : subObj U[l]? i U ≠ .stuck := h
  cases ho : U[l]? with
  | none => rw [ho] at h; exact absurd rfl h
  | some o =>
   rw [ho] at h
   cases o with
   | list xs =>
    obtain ⟨items, pl, _⟩ := JB I hp ho
    exact gi_list (Jg pl).typeIs
   | dict es =>
    obtain ⟨_, _, _, d, _⟩ := ZB I hp ho
    exact fun Q E k => wpAny_bind (wpAny_specialOf d.typeIs slot_dict_getitem.lookup (wpAny_pure (k s.toks)))
   | _ => exact absurd rfl h
 | _ => exact absurd rfl h
set_option tactic.hygienic true in
theorem sliced_typed {o : PV} {u : Value} {lo hi : Option PV} (I : Rp X Z U s.heap) (ro : VRep s.heap Z o u) (h : UM o lo hi U ≠ .stuck) : Gv X A s (getitemInPython u) false := by
 unfold UM at h
 cases ha : ZS lo with
 | none => rw [ha] at h; exact absurd rfl h
 | some a =>
 cases hb : ZS hi with
 | none => rw [ha, hb] at h; exact absurd rfl h
 | some b =>
 rw [ha, hb] at h
 cases ro with
 | tup ht _ _ => exact gi_tup ht
 | loc hp =>
  rename_i l p
  have h : sliO U[l]? a b U ≠ .stuck := h
  cases ho : U[l]? with
  | none => rw [ho] at h; exact absurd rfl h
  | some o =>
   rw [ho] at h
   cases o with
   | frz xs =>
    have r := I.objs _ _ _ hp ho
    cases r with
    | frz h1 h2 h3 _ => exact gi_list ⟨_, h1, h2⟩
   | list xs =>
    obtain ⟨items, pl, _⟩ := JB I hp ho
    exact gi_list (Jg pl).typeIs
   | _ => exact absurd rfl h
 | _ => exact absurd rfl h
theorem e_sub {o i : Expr} {pos : Pos} {f g : Fr -> St -> R PV} (hi : isSlice i = false) (ho : EOk X C lvl o f) (hg : EOk X C lvl i g) : EOk X C lvl (.Subscript o i pos) fun fr U => (f fr U).bind fun x U => (g fr U).bind fun y U => KV x y U := fun A fs env fr Z U s a => by
 rw [arm_eval_Subscript]
 refine (ho _ _ _ _ _ _ _ a).bind fun x U' Z' u s' _ _ I' rx T => ?_
 refine Ok.bind (Ok.holding (hg _ _ _ _ _ _ _ (a.next I' T))) fun y U'' Z'' v s'' _ _ I'' ry T' => Ok.standAt ?_
 have rx' := rx.step T' Ja
 intro ns
 refine wpAny_bind (subscr_typed I'' rx' ns _ _ fun j => ?_)
 have e1 : subscripted i false u v = operate [u, v] (getItem u v) := by
  cases i <;> first | rfl | cases hi
 rw [e1]
 refine wpAny_bind (wpAny_mono (Ok.operate (X := X) (fs := fs) (s := { s'' with toks := j }) (subscr_ok I'' rx' ry) ns) (fun w s3 p => ?_) fun e s3 p => ?_)
 ·refine wpAny_bind (wpAny_letTemporaryGo (wpAny_pure ?_))
  exact p.from ⟨_, j, rfl⟩ Step.refl
 ·exact p.from ⟨_, j, rfl⟩ Step.refl
noncomputable def OptOk (X : Cx) (C : SC) (lvl : Nat) (ev : Fr -> IE -> St -> R PV) (e : Option Expr) (ie : Option IE) : Prop := match e, ie with
 | none, none => True
 | some e, some ie => EOk X C lvl e fun fr U => ev fr ie U
 | _, _ => False
set_option tactic.hygienic true in
theorem opt_ok {ev : Fr -> IE -> St -> R PV} {e : Option Expr} {ie : Option IE} (h : OptOk X C lvl ev e ie) (a : At X C lvl A fs env fr Z U s) : Ok X A [] fs Z s OptRep (valueOrNone (evalOpt e env)) (Kn (ev fr) ie U) := by
 cases e <;> cases ie
 ·exact Ok.ret a.I rfl
 ·exact h.elim
 ·exact h.elim
 ·rename_i e ie
  have h' : Ok X A [] fs Z s VRep (eval e env) (ev fr ie U) := h _ _ _ _ _ _ _ a
  exact Ok.map (g := some) h' fun _ _ _ _ r => r
theorem OptRep.step {h h' : Heap} {v : Option PV} {u : Value} (r : OptRep h Z v u) (T : Step [] fs Z Z' h h') : OptRep h' Z' v u := by
 cases v with
 | none => exact r
 | some v => exact VRep.step T Ja r
set_option tactic.hygienic true in
theorem e_slice {o : Expr} {lo hi : Option Expr} {p pos : Pos} {ilo ihi : Option IE} {f : Fr -> St -> R PV} {ev : Fr -> IE -> St -> R PV} (ho : EOk X C lvl o f) (hl : OptOk X C lvl ev lo ilo) (hh : OptOk X C lvl ev hi ihi) :
  EOk X C lvl (.Subscript o (.Slice lo hi none p) pos) fun fr U => (f fr U).bind fun x U => (Kn (ev fr) ilo U).bind fun a U => (Kn (ev fr) ihi U).bind fun b U => UM x a b U := fun A fs env fr Z U s a => by
 rw [arm_eval_Subscript, arm_eval_Slice]
 refine (ho _ _ _ _ _ _ _ a).bind fun x U' Z' u s' _ _ I' rx T => ?_
 have e1 : (holding [u] (valueOrNone (evalOpt lo env) >>= fun l => holding [l] (valueOrNone (evalOpt hi env)) >>= fun u => holding [l, u] (valueOrNone (evalOpt none env)) >>= fun s => newFields "slice" [l, u, s]) >>= fun i => standAt pos >>= fun _ => getitemInPython u >>= fun b => subscripted (.Slice lo hi none p) b u i >>= fun r => letTemporaryGo o u r >>= fun _ => pure r)
   = holding [u] (valueOrNone (evalOpt lo env) >>= fun l => holding [l] (valueOrNone (evalOpt hi env)) >>= fun u => holding [l, u] (valueOrNone (evalOpt none env)) >>= fun s => newFields "slice" [l, u, s]) >>= fun i => standAt pos >>= fun _ => getitemInPython u >>= fun b => subscripted (.Slice lo hi none p) b u i >>= fun r => letTemporaryGo o u r >>= fun _ => pure r := rfl
 intro ns
 have n1 : Kn (ev fr) ilo U' ≠ .stuck := fun q => by rw [q] at ns; exact ns rfl
 refine wpAny_bind (wpAny_holding (wpAny_bind (wpAny_mono (opt_ok hl (a.next I' T) n1) (fun l s1 p1 => ?_) fun e s1 p1 => ?_)))
 ·obtain ⟨va, U1, Z1, q1, q2, q3, q4, q5⟩ := p1
  rw [q1] at ns ⊢
  simp only [R.bind_ok] at ns ⊢
  have n2 : Kn (ev fr) ihi U1 ≠ .stuck := fun q => by rw [q] at ns; exact ns rfl
  refine wpAny_bind (wpAny_holding (wpAny_mono (opt_ok hh (a.next q3 (T.trans q5)) n2) (fun h2 s2 p2 => ?_) fun e s2 p2 => ?_))
  ·obtain ⟨vb, U2, Z2, w1, w2, w3, w4, w5⟩ := p2
   rw [w1] at ns ⊢
   simp only [R.bind_ok] at ns ⊢
   refine wpAny_bind (wpAny_holding (wpAny_pure ?_))
   refine wpAny_newObj_type ?_ (by show _ ≤ _; simp [sizeLine_eq])
   refine wpAny_bind (wpAny_standAt ?_)
   have kp := Jx s2.heap { cls := .type "slice", data := .fields #[l, h2, .none] }
   have I3 : Rp X Z2 U2 (s2.heap.push { cls := .type "slice", data := .fields #[l, h2, .none] }) := w3.keeps kp
   have T3 : Step [] fs Z2 Z2 s2.heap (s2.heap.push { cls := .type "slice", data := .fields #[l, h2, .none] }) := Step.of_keeps kp
   have rx3 := ((rx.step q5 Ja).step w5 Ja).step T3 Ja
   refine wpAny_bind (sliced_typed (s := { s2 with heap := s2.heap.push { cls := .type "slice", data := .fields #[l, h2, .none] } }) I3 rx3 ns _ _ fun j => ?_)
   have e2 : subscripted (.Slice lo hi none p) false u (.ref s2.heap.objs.size) = operate [.ref s2.heap.objs.size, u] (getItem u (.ref s2.heap.objs.size)) := rfl
   rw [e2]
   have fin := Ok.operate (vs := [.ref s2.heap.objs.size, u]) (sliced_ok (X := X) (A := A) (fs := fs) (s := { s2 with heap := s2.heap.push { cls := .type "slice", data := .fields #[l, h2, .none] }, toks := j }) I3 rx3 ((q4.step w5).step T3) (w4.step T3) (Heap.IsSliceOf.new ..)) ns
   have E3 : Ext s' { s2 with heap := s2.heap.push { cls := .type "slice", data := .fields #[l, h2, .none] }, toks := j } := (q2.trans w2).trans ⟨_, j, rfl⟩
   refine wpAny_bind (wpAny_mono fin (fun w s3 p => ?_) fun e s3 p => ?_)
   ·exact wpAny_bind (wpAny_letTemporaryGo (wpAny_pure (p.from E3 (q5.trans (w5.trans T3)))))
   ·exact p.from E3 (q5.trans (w5.trans T3))
  ·obtain ⟨c, U2, Z2, h₁, x2, w1, w2, w3, w4, w5, w6⟩ := p2
   exact ⟨c, U2, Z2, h₁, x2, by rw [w1]; rfl, w2, q2.trans w3, w4, q5.trans w5, w6⟩
 ·exact p1.res fun _ _ q1 => by rw [q1]; rfl
end
noncomputable def FOk (X : Cx) (lvl : Nat) (f : Value) (g : List PV -> St -> R PV) : Prop :=
 ∀ A fs Z U s vs us, Rp X Z U s.heap -> AOK X A fs Z s.heap -> Rm A lvl -> VReps s.heap Z vs us -> g vs U ≠ .stuck ->
  codeAny (model X.prog X.w) A (.call f ⟨us, []⟩) (fun r s' => match r with | .ok (.ret v) => Post X [] fs Z s VRep (g vs U) v s' | .ok _ => False | .error e => PostX X A [] fs Z s (g vs U) e s') s
theorem FOk.ok {X : Cx} {lvl : Nat} {f : Value} {g : List PV -> St -> R PV} (h : FOk X lvl f g) {A : Around} {fs : List Addr} {Z : Rho} {U : St} {s : Shared} {vs : List PV} {us : List Value} (I : Rp X Z U s.heap) (ar : AOK X A fs Z s.heap) (rm : Rm A lvl) (rs : VReps s.heap Z vs us) :
  Ok X A [] fs Z s VRep (call f us) (g vs U) := fun ns => wpAny_call (h A fs Z U s vs us I ar rm rs ns)
noncomputable def newSem (T : Tb) (c f : Nat) (vs : List PV) (U : St) : R PV := (JT (.inst c []) U).bind fun o U => (T.F f (o :: vs) U).bind fun r U => noneR r (.ok o U)
structure TbOk (X : Cx) (lvl : Nat) (T : Tb) : Prop where
 fn : ∀ k, FOk X lvl (.ref (X.fa k)) (T.F k)
 meth : ∀ c m n f, c < NC -> T.ME c m = some f -> X.attrs[m]? = some n -> plainGet X.K (X.cls c) n = true /\ findIn X.K (.ref (X.cls c)) n = some (some (.ref (X.fa f))) /\ isFn X.K (.ref (X.fa f)) = true /\ keepIn X.K (.ref (X.fa f)) = true
 new : ∀ c f, c < NC -> T.IN c = some f -> FOk X lvl (.ref (X.cls c)) (newSem T c f)
section
variable {X : Cx} {S : SX} {C : SC} {lvl : Nat} {A : Around} {W fs : List Addr} {env : Env} {fr : Fr} {Z Z' : Rho} {U U' : St} {s s' : Shared} {T : Tb}
noncomputable def Keeps (X : Cx) (f : Value) : Prop := ∀ h, X.K.In h -> ∃ k, (k = Keeper.frame \/ k = Keeper.machine \/ k = Keeper.boundFrame) /\ Looks (model X.prog X.w) h (keeperOf f) k
theorem ZN (id : String) : Keeps X (.builtin id) := fun h _ => ⟨.machine, .inr (.inl rfl), Looks.of_pure rfl⟩
theorem keeps_type (id : String) : Keeps X (.type id) := fun h _ => ⟨.machine, .inr (.inl rfl), Looks.of_pure rfl⟩
theorem Zz {a : Addr} (h : keepIn X.K (.ref a) = true) : Keeps X (.ref a) := keeps_K h
theorem Zo {f : Value} {first : List Value} {pos : Pos} {es : List Expr} {ies : List IE} {ev : Fr -> IE -> St -> R PV} {g : List PV -> St -> R PV} (hk : Keeps X f) (h : All2 (fun e ie => EOk X C lvl e fun fr U => ev fr ie U) es ies)
  (a : At X C lvl A fs env fr Z U s)
  (cont : ∀ vs U' Z' us s', Rp X Z' U' s'.heap -> VReps s'.heap Z' vs us -> Step [] fs Z Z' s.heap s'.heap -> Ok X A [] fs Z' s' VRep (call f (first ++ us)) (g vs U')) :
  Ok X A [] fs Z s VRep (callWith pos f first (es.map fun e => (false, eval e env)) []) ((Jo (ev fr) ies U).bind g) := by
 have hs := (YV (ev := ev) h a).bind (rel' := fun h Z v w => VRep h Z v w) (k := fun us => call f (first ++ us)) (f := g) fun vs U' Z' us s' _ _ I' rs T => cont vs U' Z' us s' I' rs T
 intro ns
 have n1 : Jo (ev fr) ies U ≠ .stuck := fun q => by rw [q] at ns; exact ns rfl
 have key : wpAny (model X.prog X.w) A (spliced (es.map fun e => (false, eval e env))) (fun vs s₁ => X.K.In s₁.heap /\ wpAny (model X.prog X.w) A (call f (first ++ vs)) (Post X [] fs Z s VRep ((Jo (ev fr) ies U).bind g)) (PostX X A [] fs Z s ((Jo (ev fr) ies U).bind g)) s₁) (PostX X A [] fs Z s ((Jo (ev fr) ies U).bind g)) s := by
  refine wpAny_mono (YV h a n1) (fun us s1 p => ?_) fun e s1 p => ?_
  ·obtain ⟨vs, U1, Z1, q1, q2, q3, q4, q5⟩ := p
   refine ⟨q3.kin, ?_⟩
   rw [q1] at ns ⊢
   exact wpAny_mono (cont vs U1 Z1 us s1 q3 q4 q5 ns) (fun _ _ p => p.from q2 q5) fun _ _ p => p.from q2 q5
  ·exact p.res fun _ _ q1 => by rw [q1]; rfl
 refine callWith_of (P := X.K.In) (by simp) hk ?_
 cases es with
 | nil =>
  refine evalArgs_nil3 ?_
  have := n1
  cases h
  have c0 := cont [] U Z [] s a.I .nil Step.refl
  exact ⟨a.I.kin, c0 ns⟩
 | cons e es => exact Calls.evalArgs_plain key
theorem JS {id : Str} {np pos : Pos} {es : List Expr} (hs : ∀ e, e ∈ es -> Jl e = true) : eval (.Call (.Name id np) es [] pos) env = (eval (.Name id np) env >>= fun f => callWith pos f [] (es.map fun e => (false, eval e env)) []) := by
 show (eval (.Name id np) env >>= fun f => callWith pos f [] (backTo pos (starEach es env)) (backToKw pos (keywordEach [] env))) = _
 rw [Oi es env pos hs]
 rfl
theorem e_named {id : Str} {np pos : Pos} {u : Value} {es : List Expr} {ies : List IE} {ev : Fr -> IE -> St -> R PV} {g : List PV -> St -> R PV} (hs : ∀ e, e ∈ es -> Jl e = true)
  (hu : ∀ A fs env fr Z U s, At X C lvl A fs env fr Z U s -> Gv X A s (eval (.Name id np) env) u) (hk : Keeps X u) (h : All2 (fun e ie => EOk X C lvl e fun fr U => ev fr ie U) es ies)
  (hg : ∀ A fs Z U s vs us, Rp X Z U s.heap -> AOK X A fs Z s.heap -> Rm A lvl -> VReps s.heap Z vs us -> Ok X A [] fs Z s VRep (call u us) (g vs U)) :
  EOk X C lvl (.Call (.Name id np) es [] pos) fun fr U => (Jo (ev fr) ies U).bind g := fun A fs env fr Z U s a => by
 rw [JS hs]
 intro ns
 refine wpAny_bind (hu _ _ _ _ _ _ _ a _ _ fun j => ?_)
 have a' : At X C lvl A fs env fr Z U { s with toks := j } := a.next (s' := { s with toks := j }) a.I Step.refl
 exact wpAny_mono (Zo hk h a' (fun vs U' Z' us s' I' rs T => hg A fs Z' U' s' vs us I' (a'.ar.step0 T) a.rm rs) ns) (fun _ _ p => p.from ⟨_, j, rfl⟩ Step.refl) fun _ _ p => p.from ⟨_, j, rfl⟩ Step.refl
theorem e_call (O : SOk X S) (B : TbOk X lvl T) {id : Str} {np pos : Pos} {k : Nat} {es : List Expr} {ies : List IE} {ev : Fr -> IE -> St -> R PV} (hs : ∀ e, e ∈ es -> Jl e = true) (hd : (id == ("__debug__" : Str)) = false) (hk : C.names.lookup id = some .globalImplicit) (hg : S.glob.lookup id = some (.fn k))
  (h : All2 (fun e ie => EOk X C lvl e fun fr U => ev fr ie U) es ies) : EOk X C lvl (.Call (.Name id np) es [] pos) fun fr U => (Jo (ev fr) ies U).bind fun vs U => T.F k vs U := by
 obtain ⟨e1, e2⟩ := O.fn _ _ hg
 exact e_named hs (fun A fs env fr Z U s a => KI a hd hk e1) (Zz e2) h fun A fs Z U s vs us I ar rm rs => (B.fn k).ok I ar rm rs
theorem e_new (O : SOk X S) (B : TbOk X lvl T) {id : Str} {np pos : Pos} {c : Nat} {es : List Expr} {ies : List IE} {ev : Fr -> IE -> St -> R PV} (hs : ∀ e, e ∈ es -> Jl e = true) (hd : (id == ("__debug__" : Str)) = false) (hk : C.names.lookup id = some .globalImplicit) (hg : S.glob.lookup id = some (.cls c))
  (h : All2 (fun e ie => EOk X C lvl e fun fr U => ev fr ie U) es ies) : EOk X C lvl (.Call (.Name id np) es [] pos) fun fr U => (Jo (ev fr) ies U).bind fun vs U => match (if c < NC then T.IN c else .none) with
    | some f => (JT (.inst c []) U).bind fun o U => (T.F f (o :: vs) U).bind fun r U => noneR r (.ok o U)
    | .none => .stuck := by
 obtain ⟨e1, e2⟩ := O.cls _ _ hg
 refine e_named hs (fun A fs env fr Z U s a => KI a hd hk e1) (Zz e2) h ?_
 intro A fs Z U s vs us I ar rm rs
 by_cases hc : c < NC
 ·rw [if_pos hc]
  cases hf : T.IN c with
  | none => exact .stuck
  | some f => exact (B.new c f hc hf).ok I ar rm rs
 ·rw [if_neg hc]; exact .stuck
noncomputable def biTable : List (Str × Bi) := [("len", .len), ("sorted", .sorted), ("list", .list), ("tuple", .tuple), ("all", .all), ("any", .any), ("ord", .ord), ("chr", .chr), ("str", .str), ("abs", .abs), ("int", .int)]
noncomputable def biVal : Bi -> Value
 | .len => .builtin "len"
 | .sorted => .builtin "sorted"
 | .list => .type "list"
 | .tuple => .type "tuple"
 | .all => .builtin "all"
 | .any => .builtin "any"
 | .ord => .builtin "ord"
 | .chr => .builtin "chr"
 | .str => .type "str"
 | .abs => .builtin "abs"
 | .int => .type "int"
 | _ => .builtin "isinstance"
noncomputable def plainBi : Bi -> Bool
 | .isStr => false
 | .isInt => false
 | .isBool => false
 | .isBytes => false
 | .isTuple => false
 | _ => true
theorem bi_plain {b : Bi} (h : plainBi b = true) (us : List Value) : biCall b us = (biVal b, us) := by cases b <;> first | rfl | cases h
theorem bi_boot : ∀ n b, biTable.lookup n = some b -> bootBuiltins n = some (biVal b) /\ n ≠ "__name__" /\ (n == ("__debug__" : Str)) = false /\ (∀ us, biCall b us = (biVal b, us)) /\ Keeps X (biVal b) := by
 intro n b h
 have h1 : biTable.all (fun p => decide (bootBuiltins p.1 = some (biVal p.2)) && (decide (p.1 ≠ "__name__") && ((p.1 == ("__debug__" : Str)) == false && plainBi p.2))) = true := by decide +kernel
 have h2 := List.all_eq_true.mp h1 _ (Ji h)
 obtain ⟨q1, q2⟩ := Bool.and_eq_true_iff.mp h2
 obtain ⟨q2, q3⟩ := Bool.and_eq_true_iff.mp q2
 obtain ⟨q3, q4⟩ := Bool.and_eq_true_iff.mp q3
 have key : ∀ b : Bi, Keeps X (biVal b) := fun b => by cases b <;> first | exact ZN _ | exact keeps_type _
 exact ⟨of_decide_eq_true q1, of_decide_eq_true q2, beq_iff_eq.mp q3, bi_plain q4, key b⟩
theorem e_blt (O : SOk X S) {id : Str} {np pos : Pos} {b : Bi} {es : List Expr} {ies : List IE} {ev : Fr -> IE -> St -> R PV} (hs : ∀ e, e ∈ es -> Jl e = true) (hb : biTable.lookup id = some b) (hk : C.names.lookup id = some .globalImplicit) (hn : id ∈ S.bnames)
  (h : All2 (fun e ie => EOk X C lvl e fun fr U => ev fr ie U) es ies) : EOk X C lvl (.Call (.Name id np) es [] pos) fun fr U => (Jo (ev fr) ies U).bind fun vs U => builtin b vs U := by
 obtain ⟨q1, q2, q3, q4, q5⟩ := bi_boot (X := X) id b hb
 refine e_named hs (fun A fs env fr Z U s a => UA a q3 hk (O.none _ hn) q1 q2) q5 h ?_
 intro A fs Z U s vs us I ar rm rs
 have := builtin_ok (fs := fs) (b := b) I ar.hd rs
 rw [q4] at this
 exact this
theorem Yv {ev : IE -> St -> R PV} {e : IE} {U : St} : Jo ev [e] U = (ev e U).bind fun v U => .ok [v] U := by
 show ((ev e U).bind fun v U => (R.ok [] U : R (List PV)).bind fun vs U => .ok (v :: vs) U) = _
 cases ev e U <;> rfl
noncomputable def isTable : List (Str × Bi) := [("str", .isStr), ("int", .isInt), ("bool", .isBool), ("bytes", .isBytes), ("tuple", .isTuple)]
theorem is_boot : ∀ n b, isTable.lookup n = some b -> ∃ t, bootBuiltins n = some (.type t) /\ n ≠ "__name__" /\ (n == ("__debug__" : Str)) = false /\ ∀ us, biCall b us = (.builtin "isinstance", us ++ [.type t]) := by
 intro n b h
 have hm : (n, b) ∈ isTable := Ji h
 rcases List.mem_cons.mp hm with e | hm
 ·cases e; exact ⟨"str", by kernel_rfl, by decide, by decide, fun _ => rfl⟩
 rcases List.mem_cons.mp hm with e | hm
 ·cases e; exact ⟨"int", by kernel_rfl, by decide, by decide, fun _ => rfl⟩
 rcases List.mem_cons.mp hm with e | hm
 ·cases e; exact ⟨"bool", by kernel_rfl, by decide, by decide, fun _ => rfl⟩
 rcases List.mem_cons.mp hm with e | hm
 ·cases e; exact ⟨"bytes", by kernel_rfl, by decide, by decide, fun _ => rfl⟩
 cases List.mem_singleton.mp hm; exact ⟨"tuple", by kernel_rfl, by decide, by decide, fun _ => rfl⟩
theorem isi_boot : bootBuiltins "isinstance" = some (.builtin "isinstance") := by kernel_rfl
set_option tactic.hygienic true in
theorem e_isi (O : SOk X S) {np pos tp : Pos} {tn : Str} {b : Bi} {e : Expr} {ie : IE} {ev : Fr -> IE -> St -> R PV} (hs : Jl e = true) (hb : isTable.lookup tn = some b) (hk : C.names.lookup ("isinstance" : Str) = some .globalImplicit) (hn : ("isinstance" : Str) ∈ S.bnames)
  (hk' : C.names.lookup tn = some .globalImplicit) (hn' : tn ∈ S.bnames) (h : EOk X C lvl e fun fr U => ev fr ie U) :
  EOk X C lvl (.Call (.Name "isinstance" np) [e, .Name tn tp] [] pos) fun fr U => (Jo (ev fr) [ie] U).bind fun vs U => builtin b vs U := fun A fs env fr Z U s a => by
 obtain ⟨t, q1, q2, q3, q4⟩ := is_boot tn b hb
 rw [JS (by intro x hx; simp at hx; rcases hx with rfl | rfl; exact hs; rfl)]
 intro ns
 refine wpAny_bind (UA a (by decide) hk (O.none _ hn) isi_boot (by decide) _ _ fun j => ?_)
 refine callWith_of (P := fun _ => True) (by simp) (fun h _ => ⟨.machine, .inr (.inl rfl), Looks.of_pure rfl⟩) ?_
 have a' : At X C lvl A fs env fr Z U { s with toks := j } := a.next (s' := { s with toks := j }) a.I Step.refl
 refine Calls.evalArgs_plain ?_
 have n1 : ev fr ie U ≠ .stuck := fun q => by simp only [Yv, q] at ns; exact ns rfl
 rw [Ot]
 refine wpAny_bind (wpAny_mono (h _ _ _ _ _ _ _ a' n1) (fun u s1 p => ?_) fun e s1 p => ?_)
 ·obtain ⟨v, U1, Z1, w1, w2, w3, w4, w5⟩ := p
  change ev fr ie U = _ at w1
  have a1 := a'.next w3 w5
  show wpAny _ _ (holding [u] (spliced [(false, eval (.Name tn tp) env)]) >>= _) _ _ _
  refine wpAny_bind (wpAny_holding ?_)
  rw [Ot]
  refine wpAny_bind (UA a1 q3 hk' (O.none _ hn') q1 q2 _ _ fun j' => ?_)
  refine wpAny_bind (wpAny_holding (Calls.spliced_nil (wpAny_pure (wpAny_pure ⟨trivial, ?_⟩))))
  have fin := builtin_ok (X := X) (A := A) (fs := fs) (b := b) (s := { s1 with toks := j' }) w3 a1.ar.hd (.cons w4 .nil)
  rw [q4] at fin
  have e0 : (Jo (ev fr) [ie] U).bind (fun vs U => builtin b vs U) = builtin b [v] U1 := by rw [Yv, w1]; rfl
  simp only [e0] at ns ⊢
  exact wpAny_mono (fin ns) (fun _ _ p => p.from (w2.trans ⟨_, j', rfl⟩) w5) fun _ _ p => p.from (w2.trans ⟨_, j', rfl⟩) w5
 ·exact (p.res fun _ _ w1 => by change ev fr ie U = _ at w1; simp only [Yv, w1]; rfl).from ⟨_, j, rfl⟩ Step.refl
noncomputable def miTable : List (Str × Mi) := [("split", .split), ("lower", .lower), ("find", .find), ("join", .join), ("append", .append)]
noncomputable def miNm : Mi -> Str
 | .split => "split"
 | .lower => "lower"
 | .find => "find"
 | .join => "join"
 | .append => "append"
theorem miNm_of {n : Str} {m : Mi} (h : miTable.lookup n = some m) : n = miNm m := by
 have h1 : miTable.all (fun p => p.1 == miNm p.2) = true := by decide +kernel
 exact beq_iff_eq.mp (List.all_eq_true.mp h1 _ (Ji h))
theorem getMeth {m : Mi} {x : PV} {u : Value} (I : Rp X Z U s.heap) (r : VRep s.heap Z x u) (ht : Gn m x U = true) {pl : Sem Bool} {Q : Value × List Value -> Shared -> Prop} {E : Value -> Shared -> Prop} (q : Q (.builtin (miId m), [u]) s) : wpAny (model X.prog X.w) A (getMethod u (miNm m) pl) Q E s := by
 have i := r.inv
 cases x with
 | str x =>
  obtain ⟨t, rfl⟩ := i
  cases m with
  | split =>
   have q : Q (.builtin "str.split", [_]) s := q
   show wpAny _ _ (getMethod _ (Str.ofString "split") pl) Q E s
   with_reducible exact getMethod_builtin (typeIs_str _ _ _) F.plainAttrs_str F.slot_str_split F.type_str_split (fun _ e => nomatch e) q
  | lower =>
   have q : Q (.builtin "str.lower", [_]) s := q
   show wpAny _ _ (getMethod _ (Str.ofString "lower") pl) Q E s
   with_reducible exact getMethod_builtin (typeIs_str _ _ _) F.plainAttrs_str F.slot_str_lower F.type_str_lower (fun _ e => nomatch e) q
  | find =>
   have q : Q (.builtin "str.find", [_]) s := q
   show wpAny _ _ (getMethod _ (Str.ofString "find") pl) Q E s
   with_reducible exact getMethod_builtin (typeIs_str _ _ _) F.plainAttrs_str F.slot_str_find F.type_str_find (fun _ e => nomatch e) q
  | join =>
   have q : Q (.builtin "str.join", [_]) s := q
   show wpAny _ _ (getMethod _ (Str.ofString "join") pl) Q E s
   with_reducible exact getMethod_builtin (typeIs_str _ _ _) F.plainAttrs_str F.slot_str_join F.type_str_join (fun _ e => nomatch e) q
  | append => cases ht
 | loc l =>
  obtain ⟨p, rfl, hp⟩ := i
  obtain ⟨h1, h2⟩ := Bool.and_eq_true_iff.mp ht
  cases m <;> first | (cases h1; done) | skip
  obtain ⟨xs, hx⟩ := isLs_ex h2
  obtain ⟨items, ⟨n, e⟩, _⟩ := JB I hp hx
  exact Calls.getMethod_list_append e rfl rfl q
 | _ => cases ht
theorem ZL {o : Expr} {name : Str} {apos pos : Pos} {ov f : Value} {n : Nat} {args : List (Sem Value)} {first : List Value} {Q E} (hn : n < 30) (hline : (apos.endLine == pos.line) = true)
  (hm : ∀ pl (Q : Value × List Value -> Shared -> Prop), Q (f, first) s -> wpAny (model X.prog X.w) A (getMethod ov name pl) Q E s)
  (h : wpAny (model X.prog X.w) A (callWith pos f first (args.map fun t => (false, t)) []) Q E s) : wpAny (model X.prog X.w) A (methodCall o name apos pos env ov n (args.map fun t => (false, t)) []) Q E s := by
 have hform : methodCallForm n (args.map fun t => (false, t)) [] = true := by
  unfold methodCallForm
  simp [hn]
 have hpos : methodCallPos true o env apos pos = pure pos := by unfold methodCallPos; simp [hline]
 unfold methodCall
 rw [hform]
 refine wpAny_bind (wpAny_holding (hm _ _ ?_))
 exact wpAny_bind (wpAny_of_eq hpos h)
theorem Oa {o : Expr} {m : Str} {apos pos : Pos} {es : List Expr} (hs : ∀ e, e ∈ es -> Jl e = true) (hb : YF o = true) : eval (.Call (.Attribute o m apos) es [] pos) env = (eval o env >>= fun ov => standAt apos.atName >>= fun _ => methodCall o m apos pos env ov es.length ((es.map fun e => eval e env).map fun t => (false, t)) []) := by
 rw [arm_eval_Call, base_of hb, Oi es env pos hs, List.map_map]
 rfl
theorem e_meth {o : Expr} {mn : Str} {m : Mi} {apos pos : Pos} {f : Fr -> St -> R PV} {es : List Expr} {ies : List IE} {ev : Fr -> IE -> St -> R PV} (hs : ∀ e, e ∈ es -> Jl e = true) (hb : YF o = true) (hl : es.length < 30) (hline : (apos.endLine == pos.line) = true)
  (hm : miTable.lookup mn = some m) (ho : EOk X C lvl o f) (h : All2 (fun e ie => EOk X C lvl e fun fr U => ev fr ie U) es ies) :
  EOk X C lvl (.Call (.Attribute o mn apos) es [] pos) fun fr U => (f fr U).bind fun x U => if Gn m x U then (Jo (ev fr) ies U).bind fun vs U => Gm m x vs U else .stuck := fun A fs env fr Z U s a => by
 cases miNm_of hm
 rw [Oa hs hb]
 refine (ho _ _ _ _ _ _ _ a).bind fun x U' Z' u s' _ _ I' rx T => Ok.standAt ?_
 have a' := a.next I' T
 refine .guard fun ht => ?_
 have fin : Ok X A [] fs Z' s' VRep (callWith pos (.builtin (miId m)) [u] ((es.map fun e => eval e env).map fun t => (false, t)) []) ((Jo (ev fr) ies U').bind fun vs U => Gm m x vs U) := by
  rw [List.map_map]
  exact Zo (ZN _) h a' fun vs U'' Z'' us s'' I'' rs T' => method_ok I'' (rx.step T' Ja) rs
 intro ns
 exact ZL hl hline (fun pl Q q => getMeth I' rx ht q) (fin ns)
theorem e_umeth {TT : Tb} (B : TbOk X lvl TT) {o : Expr} {mn : Str} {m : Nat} {apos pos : Pos} {f : Fr -> St -> R PV} {es : List Expr} {ies : List IE} {ev : Fr -> IE -> St -> R PV} (hs : ∀ e, e ∈ es -> Jl e = true) (hb : YF o = true) (hl' : es.length < 30) (hline : (apos.endLine == pos.line) = true)
  (hm : X.attrs[m]? = some mn) (ho : EOk X C lvl o f) (h : All2 (fun e ie => EOk X C lvl e fun fr U => ev fr ie U) es ies) :
  EOk X C lvl (.Call (.Attribute o mn apos) es [] pos) fun fr U => (f fr U).bind fun x U => umE TT (Jo (ev fr) ies) m x U := fun A fs env fr Z U s a => by
 rw [Oa hs hb]
 refine (ho _ _ _ _ _ _ _ a).bind fun x U' Z' u s' _ _ I' rx T => Ok.standAt ?_
 have a' := a.next I' T
 refine .optR fun l hl => .optR fun p hc => .optR fun k hme => .guard fun hno => ?_
 have hlk := Option.isNone_iff_eq_none.mp hno
 obtain ⟨_, rfl, hp⟩ := (Oc hl ▸ rx).inv
 obtain ⟨xa, dx, ox, od, mm, rfl, R⟩ := inst_of I' hp (UW hc)
 obtain ⟨g1, g2, g3, g4⟩ := B.meth p.1 m mn k R.lt hme hm
 have q := R.rep m mn hm
 rw [hlk] at q
 have fin : Ok X A [] fs Z' s' VRep (callWith pos (.ref (X.fa k)) [.ref xa] ((es.map fun e => eval e env).map fun t => (false, t)) []) ((Jo (ev fr) ies U').bind fun vs U => TT.F k (x :: vs) U) := by
  rw [List.map_map]
  exact Zo (Zz g4) h a' fun vs U'' Z'' us s'' I'' rs T' => (B.fn k).ok (vs := x :: vs) (us := .ref xa :: us) I'' (a'.ar.step0 T') a.rm (.cons (rx.step T' Ja) rs)
 intro ns
 refine ZL hl' hline (fun pl Q qq => ?_) (fin ns)
 exact method_fn I'.kin R.at_ (plainGet_of g1).1 (plainGet_of g1).2 g2 (beq_iff_eq.mp g3) (by show (lookIn mn od).map _ = _; rw [R.look, q]; rfl) qq
end
section
variable {W fs : List Addr} {Z Z' τ : Rho} {h h1 h2 h3 : Heap}
theorem Step.loc (k : ∀ b o, h.get? b = some o -> h1.get? b = some o) (S : Step W fs Z Z' h1 h3) (hW : ∀ w, w ∈ W -> h.get? w = none) : Step [] fs Z Z' h h3 := by
 refine ⟨S.pre, fun a o e n _ => S.keep a o (k a o e) n fun q => (by rw [hW a q] at e; cases e), fun a o e _ => S.there a o (k a o e) fun q => (by rw [hW a q] at e; cases e), fun a q => ?_, fun _ w => nomatch w⟩
 rcases S.fresh a q with q | q
 ·exact .inl q
 ·right
  cases e : h.get? a with
  | none => rfl
  | some o => rw [k a o e] at q; cases q
theorem Step.adopt (S : Step [] fs Z Z' h h3) {d : Addr} (hd : h.get? d = none) : Step [] fs Z (Z' ++ [(d, none)]) h h3 := by
 refine ⟨?_, S.keep, S.there, fun a q => ?_, fun _ w => nomatch w⟩
 ·obtain ⟨τ, rfl⟩ := S.pre
  exact ⟨τ ++ [(d, none)], by simp⟩
 ·rw [Yl] at q
  rcases List.mem_append.mp q with q | q
  ·exact S.fresh a q
  ·have : a = d := by simpa [Je, Jk] using q
   subst this
   exact .inr hd
theorem more_off (no : ∀ a, a ∈ Je τ -> ∀ items, ¬ h.IsTuple a items) {a : Addr} {items : Array Value} (ht : h.IsTuple a items) (n : a ∉ Je Z) : a ∉ Je (Z ++ τ) := fun q => by
 rw [Yl] at q
 rcases List.mem_append.mp q with q | q
 ·exact n q
 ·exact no _ q _ ht
theorem more_at {i : Nat} {p : Addr × Option Addr} (hi : Z[i]? = some p) : (Z ++ τ)[i]? = some p := by
 rw [List.getElem?_append_left (List.getElem?_eq_some_iff.mp hi).1]; exact hi
theorem VRep.more (no : ∀ a, a ∈ Je τ -> ∀ items, ¬ h.IsTuple a items) {v : PV} {u : Value} (r : VRep h Z v u) : VRep h (Z ++ τ) v u :=
 VRep.rec (motive_1 := fun v u _ => VRep h (Z ++ τ) v u) (motive_2 := fun v u _ => VReps h (Z ++ τ) v u) .none .bool .int .str .bytes (fun ht n _ r => .tup ht (more_off no ht n) r) (fun hi => .loc (more_at hi)) .nil (fun _ _ a r => .cons a r) r
theorem VReps.more (no : ∀ a, a ∈ Je τ -> ∀ items, ¬ h.IsTuple a items) {v : List PV} {u : List Value} (r : VReps h Z v u) : VReps h (Z ++ τ) v u := by
 induction r using VReps.ind with
 | nil => exact .nil
 | cons a r ih => exact .cons (a.more no) ih
theorem KVs.more (no : ∀ a, a ∈ Je τ -> ∀ items, ¬ h.IsTuple a items) {K : Type} {f : K -> PV} {es : List (PV × PV)} {kvs : List (K × Value)} (r : KVs h Z f es kvs) : KVs h (Z ++ τ) f es kvs := by
 induction r with
 | nil => exact .nil
 | cons a _ ih => exact .cons (a.more no) ih
set_option tactic.hygienic true in
theorem FsRep.more {X : Cx} (no : ∀ a, a ∈ Je τ -> ∀ items, ¬ h.IsTuple a items) {l : List (Nat × PV)} {m : Str -> Option Value} (r : FsRep X h Z l m) : FsRep X h (Z ++ τ) l m := fun k n e => by
 have q := r k n e
 split
 ·rename_i v hv
  rw [hv] at q
  obtain ⟨u, a, b⟩ := q
  exact ⟨u, a, b.more no⟩
 ·rename_i hv
  rw [hv] at q
  exact q
theorem ORep.more {X : Cx} (no : ∀ a, a ∈ Je τ -> ∀ items, ¬ h.IsTuple a items) {o : PO} {p : Addr × Option Addr} (r : ORep X h Z o p) : ORep X h (Z ++ τ) o p := by
 cases r with
 | list hl r => exact .list hl (r.more no)
 | frz h1 h2 h3 r => exact .frz h1 h2 h3 (r.more no)
 | junk h1 => exact .junk h1
 | tab h1 h2 h3 => exact .tab h1 h2 h3
 | dict d => obtain ⟨ns, g, kvs, d, r⟩ := d; exact .dict ⟨ns, g, kvs, d, r.more no⟩
 | inst h0 h1 h2 h3 h4 h5 hw h6 => exact .inst h0 h1 h2 h3 h4 h5 hw (h6.more no)
theorem Rp.adopt {X : Cx} {U : St} (I : Rp X Z U h) {d : Addr} {po : PO} (hd : ∃ o, h.get? d = some o) (no : d ∉ Je Z) (nb : X.base.get? d = none) (nt : ∀ items, ¬ h.IsTuple d items) (nt' : ∀ items, ¬ h3.IsTuple d items) (hs : Heap.SameBut d h h3)
  (ht : ∃ o, h3.get? d = some o) (hr : ORep X h3 (Z ++ [(d, none)]) po (d, none)) : Rp X (Z ++ [(d, none)]) (U ++ [po]) h3 := by
 have S : Step [d] [] Z Z h h3 := Step.turn (.inr (by simp)) hs ht
 have N : JI [d] h := fun a q items => by simp at q; subst q; exact nt items
 have e1 : Je (Z ++ [(d, (none : Option Addr))]) = Je Z ++ [d] := by simp [Je, Jk]
 have NO : ∀ a, a ∈ Je [(d, (none : Option Addr))] -> ∀ items, ¬ h3.IsTuple a items := fun a q items => by simp [Je, Jk] at q; subst q; exact nt' items
 refine ⟨fun b o e => ?_, by simp [I.len], ?_, fun a q => ?_, ?_, fun i q o hi ho => ?_⟩
 ·have : b ≠ d := fun z => by subst z; rw [nb] at e; cases e
  exact (hs.2 b this).trans (I.base b o e)
 ·rw [e1, List.nodup_append]
  exact ⟨I.nodup, by simp, fun a ha b hb e => by simp at hb; subst hb; subst e; exact no ha⟩
 ·rw [e1] at q
  rcases List.mem_append.mp q with q | q
  ·exact I.off a q
  ·simp at q; subst q; exact nb
 ·obtain ⟨xs, e⟩ := I.fz
  exact ⟨xs, by rw [List.getElem?_append_left (List.getElem?_eq_some_iff.mp e).1]; exact e⟩
 ·rcases Nat.lt_or_ge i Z.length with hlt | hge
  ·rw [List.getElem?_append_left hlt] at hi
   rw [List.getElem?_append_left (I.len ▸ hlt)] at ho
   refine ((I.objs i q o hi ho).step S N fun x hx ob e => ?_).more NO
   have : x ≠ d := fun z => by subst z; exact no (List.mem_flatMap.mpr ⟨q, List.mem_of_getElem? hi, hx⟩)
   exact (hs.2 x this).trans e
  ·rw [List.getElem?_append_right hge] at hi
   rw [List.getElem?_append_right (I.len ▸ hge)] at ho
   have z : i - Z.length = 0 := by
    cases q : i - Z.length with
    | zero => rfl
    | succ n => rw [q] at hi; simp at hi
   have z' : i - U.length = 0 := by rw [← I.len]; exact z
   rw [z] at hi
   rw [z'] at ho
   simp at hi ho
   subst hi
   subst ho
   exact hr
end
section
variable {X : Cx} {S : SX} {C : SC} {lvl : Nat} {A : Around} {W fs : List Addr} {env : Env} {fr : Fr} {Z Z' : Rho} {U U' : St} {s s' : Shared}
theorem Yc {h : Heap} {a : Addr} {o : Obj} (e : h.get? a = some o) (hc : o.cls ≠ .type "tuple") : ∀ items, ¬ h.IsTuple a items := fun items ⟨o', e', c, _⟩ => by
 rw [e] at e'; cases e'; exact hc c
theorem JC {h : Heap} (I : X.base.StaysIn h) {a : Addr} (e : h.get? a = none) : X.base.get? a = none := by
 cases q : X.base.get? a with
 | none => rfl
 | some o => rw [I a o q] at e; cases e
inductive PReps (h : Heap) (Z : Rho) : List (PV × PV) -> List (Value × Value) -> Prop
 | nil : PReps h Z [] []
 | cons {k v : PV} {a b : Value} {ps : List (PV × PV)} {us : List (Value × Value)} : VRep h Z k a -> VRep h Z v b -> PReps h Z ps us -> PReps h Z ((k, v) :: ps) ((a, b) :: us)
theorem PReps.step {h h' : Heap} (T : Step W fs Z Z' h h') (N : JI W h) {ps : List (PV × PV)} {us : List (Value × Value)} (r : PReps h Z ps us) : PReps h' Z' ps us := by
 induction r with
 | nil => exact .nil
 | cons a b _ ih => exact .cons (a.step T N) (b.step T N) ih
set_option tactic.hygienic true in
theorem evPairs_ok {ev : Fr -> IE -> St -> R PV} {pos : Pos} {kvs : List (Expr × Expr)} {ikvs : List (IE × IE)} (hs : All2 (fun e ie => EOk X C lvl e.1 (fun fr U => ev fr ie.1 U) /\ EOk X C lvl e.2 (fun fr U => ev fr ie.2 U)) kvs ikvs) :
  ∀ {A fs env fr Z U s}, At X C lvl A fs env fr Z U s -> Ok X A [] fs Z s PReps (PySem.evalPairs (kvs.map fun e => (eval e.1 env, eval e.2 env >>= fun x => standAt pos >>= fun _ => pure x))) (OR (ev fr) ikvs U) := by
 induction hs with
 | nil => intro A fs env fr Z U s a; exact Ok.ret a.I .nil
 | cons h r ih =>
  rename_i e ie es ies
  intro A fs env fr Z U s a
  rw [List.map_cons, PySem.evalPairs]
  refine Ok.bind (h.1 _ _ _ _ _ _ _ a) fun k U1 Z1 u s1 _ _ I1 rk T1 => ?_
  have a1 := a.next I1 T1
  have e2 : Ok X A [] fs Z1 s1 VRep (eval e.2 env >>= fun x => standAt pos >>= fun _ => pure x) (ev fr ie.2 U1) := by
   intro ns
   exact wpAny_bind (wpAny_mono (h.2 _ _ _ _ _ _ _ a1 ns) (fun _ _ p => wpAny_bind (wpAny_standAt (wpAny_pure p))) fun _ _ p => p)
  refine Ok.bind (Ok.holding e2) fun v U2 Z2 w s2 _ _ I2 rv T2 => ?_
  have a2 := a1.next I2 T2
  refine Ok.bind (Ok.holding (ih a2)) fun ps U3 Z3 us s3 _ _ I3 rp T3 => ?_
  exact Ok.ret I3 (.cons ((rk.step T2 Ja).step T3 Ja) (rv.step T3 Ja) rp)
theorem Ju {h : Heap} {es : List (PV × PV)} {d : Addr} (D : DRep X h Z es d) : (∃ o, h.get? d = some o) /\ ∀ items, ¬ h.IsTuple d items := by
 obtain ⟨_, _, _, ⟨o, _, _, e, c, _⟩, _⟩ := D
 exact ⟨⟨o, e⟩, Yc e (by rw [c.1]; decide)⟩
theorem drep_noSeq {h : Heap} {es : List (PV × PV)} {d : Addr} (D : DRep X h Z es d) : JI [d] h := fun a q items => by rw [List.mem_singleton.mp q]; exact (Ju D).2 items
theorem dictSet_ok {d : Addr} {es : List (PV × PV)} {k v : PV} {a b : Value} (D : DRep X s.heap Z es d) (hk : Jt k es = true) (hz : es.length ≤ 100000) (rk : VRep s.heap Z k a) (rv : VRep s.heap Z v b) {Q : Unit -> Shared -> Prop} {E : Value -> Shared -> Prop}
  (h : ∀ h' j, DRep X h' Z (Ob k v es) d -> Heap.SameBut d s.heap h' -> Q () { s with heap := h', toks := j }) : wpAny (model X.prog X.w) A (dictSet d a b) Q E s := by
 have N := drep_noSeq D
 have ns := D.ns_
 obtain ⟨g, x, kvs, rfl, dd, kk⟩ := Uy D hk
 refine wpAny_dictSet_pairs (k := x) (g.is rk) dd (fun h' hd hs => h h' _ ⟨ns, g, _, hd, ?_⟩ hs) (by rw [sizeLine_eq, ← kk.length]; lia)
 have T : Step [d] [] Z Z s.heap h' := Step.turn (.inr List.mem_cons_self) hs (Exists.elim hd fun o e => Exists.elim e fun _ e => Exists.elim e fun _ e => ⟨o, e.1⟩)
 exact (kk.step T N).set g.eq x (rv.step T N) (Exists.elim dd fun _ e => Exists.elim e fun _ e => Exists.elim e fun _ e => e.2.2.2.2.2)
theorem dset_len (k v : PV) (es : List (PV × PV)) : (Ob k v es).length ≤ es.length + 1 := by
 induction es with
 | nil => exact Nat.le_refl _
 | cons e r ih =>
  show (if keyEq e.1 k = true then (e.1, v) :: r else e :: Ob k v r).length ≤ _
  by_cases h : keyEq e.1 k = true
  ·rw [if_pos h]; exact Nat.le_succ _
  ·rw [if_neg h]; exact Nat.succ_le_succ ih
set_option tactic.hygienic true in
theorem storeAll_ok {d : Addr} {ps : List (PV × PV)} : ∀ {us : List (Value × Value)} {acc es : List (PV × PV)} {s : Shared} {Q : PUnit -> Shared -> Prop} {E : Value -> Shared -> Prop}, PReps s.heap Z ps us -> DRep X s.heap Z acc d -> Oo acc ps = some es -> acc.length + ps.length ≤ 100000 ->
  (∀ h' j, DRep X h' Z es d -> Heap.SameBut d s.heap h' -> Q PUnit.unit { s with heap := h', toks := j }) ->
  wpAny (model X.prog X.w) A (forIn us PUnit.unit fun (x : Value × Value) (_ : PUnit) => (do dictSet d x.1 x.2; pure (ForInStep.yield PUnit.unit) : Sem (ForInStep PUnit))) Q E s := by
 induction ps with
 | nil =>
  intro us acc es s Q E r D e _ h
  cases r
  cases e
  rw [List.forIn_nil]
  exact wpAny_pure (h s.heap s.toks D (Heap.SameBut.refl _ _))
 | cons p ps ih =>
  intro us acc es s Q E r D e hz h
  cases r with
  | cons rk rv r =>
  rename_i k v a b us
  have e : (if Jt k acc = true then Oo (Ob k v acc) ps else none) = some es := e
  by_cases hk : Jt k acc = true
  ·rw [if_pos hk] at e
   rw [List.length_cons] at hz
   rw [List.forIn_cons]
   refine wpAny_bind (wpAny_bind (dictSet_ok D hk (by lia) rk rv fun h' j D' hs => wpAny_pure ?_))
   have T : Step [d] [] Z Z s.heap h' := Step.turn (.inr List.mem_cons_self) hs (Ju D').1
   exact ih (r.step T (drep_noSeq D)) D' e (by have := dset_len k v acc; lia) fun h'' j' D'' hs' => h h'' j' D'' (hs.trans hs')
  ·rw [if_neg hk] at e; cases e
theorem evPairs_len {ev : Fr -> IE -> St -> R PV} {ikvs : List (IE × IE)} : ∀ {U U2 : St} {ps : List (PV × PV)}, OR (ev fr) ikvs U = .ok ps U2 -> ps.length = ikvs.length := by
 induction ikvs with
 | nil => intro U U2 ps e; cases e; rfl
 | cons x r ih =>
  intro U U2 ps e
  obtain ⟨k, Ua, _, e⟩ := R.bind_inv e
  obtain ⟨v, Ub, _, e⟩ := R.bind_inv e
  obtain ⟨rs, Uc, e3, e⟩ := R.bind_inv e
  cases e
  exact congrArg (· + 1) (ih e3)
theorem e_dict0 {pos : Pos} : EOk X C lvl (.Dict [] [] pos) fun _ U => JT (.dict []) U := fun A fs env fr Z U s a =>
 Ok.to fun Q E k => wpAny_Dict_empty (by
  have kp := Jx s.heap { cls := .type "dict", data := .dict #[] }
  have hn : ∀ b, b ∈ Jk (s.heap.objs.size, (none : Option Addr)) -> s.heap.get? b = none := fun b q => by rw [List.mem_singleton.mp q]; exact get?_size _
  refine k _ (Z ++ [(s.heap.objs.size, none)]) { s with heap := s.heap.push { cls := .type "dict", data := .dict #[] } } ⟨_, _, rfl⟩ (a.I.grow kp hn (by simp [Jk]) fun S' => .dict ⟨a.I.size_ne, .str, [], Heap.DictOf.new _, .nil⟩) ?_ (Step.grow kp fun b q => hn b (by simpa [Je] using q))
  have : (Z ++ [(s.heap.objs.size, (none : Option Addr))])[U.length]? = some (s.heap.objs.size, none) := by rw [← a.I.len, List.getElem?_append_right (Nat.le_refl _), Nat.sub_self]; rfl
  exact .loc this)
theorem e_dict {ev : Fr -> IE -> St -> R PV} {kvs : List (Expr × Expr)} {ikvs : List (IE × IE)} {pos : Pos} (h0 : kvs ≠ []) (hl : kvs.length ≤ 15)
  (h : All2 (fun e ie => EOk X C lvl e.1 (fun fr U => ev fr ie.1 U) /\ EOk X C lvl e.2 (fun fr U => ev fr ie.2 U)) kvs ikvs) :
  EOk X C lvl (.Dict (kvs.map fun e => some e.1) (kvs.map (·.2)) pos) fun fr U => (OR (ev fr) ikvs U).bind fun ps U => match Oo [] ps with
    | some es => JT (.dict es) U
    | .none => .stuck := fun A fs env fr Z U s a => by
 have shape : (evalEachOpt (kvs.map fun e => some e.1) env).zip ((evalEach (kvs.map (·.2)) env).map fun v => (do let x ← v; standAt pos; pure x)) = (kvs.map fun e => (eval e.1 env, eval e.2 env >>= fun x => standAt pos >>= fun _ => pure x)).map fun p => (some p.1, p.2) := by
  clear h0 hl h
  induction kvs with
  | nil => rfl
  | cons e r ih =>
   rw [List.map_cons, List.map_cons, arm_evalEachOpt_cons, arm_evalEach_cons, List.map_cons, List.zip_cons_cons, ih]
   rfl
 rw [arm_eval_Dict, shape, dictDisplay_pairs _ (by simpa using h0) (by simp; lia)]
 intro ns
 refine wpAny_bind (wpAny_standAt (wpAny_bind ?_))
 unfold subDict
 refine wpAny_bind (wpAny_alloc (wpAny_bind (wpAny_holding ?_)))
 rw [if_pos (by simpa using hl)]
 let s1 : Shared := { s with heap := s.heap.push { cls := .type "dict", data := .dict #[] } }
 have kp := Jx s.heap { cls := .type "dict", data := .dict #[] }
 have T1 : Step [] fs Z Z s.heap s1.heap := Step.of_keeps kp
 have a1 : At X C lvl A fs env fr Z U s1 := a.next (a.I.keeps kp) T1
 have n1 : OR (ev fr) ikvs U ≠ .stuck := fun q => by simp only [q] at ns; exact ns rfl
 refine wpAny_bind (wpAny_mono (evPairs_ok h a1 n1) (fun us s2 p => ?_) fun e s2 p => ?_)
 ·obtain ⟨ps, U2, Z2, q1, q2, q3, q4, q5⟩ := p
  simp only [q1, R.bind_ok] at ns ⊢
  cases hd : Oo [] ps with
  | none => rw [hd] at ns; exact absurd rfl ns
  | some es =>
   have hd1 : s1.heap.get? s.heap.objs.size = some { cls := .type "dict", data := .dict #[] } := Heap.get?_push_size _ rfl
   have no : s.heap.objs.size ∉ Je Z2 := q5.offNew hd1 a.I.size_off
   obtain ⟨_, sl, hd2⟩ := q5.keep _ _ hd1 a.I.size_off (by simp)
   have hd3 : s2.heap.get? s.heap.objs.size = some { cls := .type "dict", data := .dict #[] } := (q5.keep _ _ hd1 a.I.size_off (by simp)).1 fun hm => by
    obtain ⟨l, e1, e2, e3⟩ := a.ar.fr
    subst e2
    obtain ⟨_, o, ho, _⟩ := e3.mem hm
    rw [get?_size] at ho; cases ho
   have D0 : DRep X s2.heap Z2 [] s.heap.objs.size := ⟨a.I.size_ne, .str, [], ⟨_, #[], 0, hd3, ⟨rfl, rfl, rfl⟩, rfl, fun _ he => by simp at he, .nil, List.nodup_nil⟩, .nil⟩
   have hlen : ps.length ≤ 15 := by rw [evPairs_len q1, ← h.length]; exact hl
   refine wpAny_holding (wpAny_bind (storeAll_ok q4 D0 hd (by simpa using Nat.le_trans hlen (by decide)) fun h' j D' hs => wpAny_pure (wpAny_pure (wpAny_pure ?_))))
   have ND := Ju D'
   have N2 := Ju D0
   have T3 : Step [s.heap.objs.size] fs Z2 Z2 s2.heap h' := Step.turn (.inr (by simp)) hs ND.1
   have T4 : Step [] fs Z Z2 s.heap h' := Step.loc kp ((q5.mono (W' := [s.heap.objs.size]) (by simp) (by simp; exact ⟨_, hd1⟩)).trans T3) fun w hw => by simp at hw; subst hw; exact get?_size _
   refine ⟨.loc U2.length, U2 ++ [.dict es], Z2 ++ [(s.heap.objs.size, none)], rfl, ?_, ?_, ?_, T4.adopt (get?_size _)⟩
   ·obtain ⟨hh, tt, rfl⟩ := q2
    exact ⟨h', j, rfl⟩
   ·refine q3.adopt ⟨_, hd3⟩ no (JC a.I.base (get?_size _)) N2.2 ND.2 hs ND.1 (.dict ?_)
    have NO : ∀ a, a ∈ Je [(s.heap.objs.size, (none : Option Addr))] -> ∀ items, ¬ h'.IsTuple a items := fun a q items => by simp [Je, Jk] at q; subst q; exact ND.2 items
    obtain ⟨ns, g, kvs, d, r⟩ := D'
    exact ⟨ns, g, kvs, d, r.more NO⟩
   ·have : (Z2 ++ [(s.heap.objs.size, (none : Option Addr))])[U2.length]? = some (s.heap.objs.size, none) := by rw [← q3.len]; simp
    exact .loc this
 ·obtain ⟨c, U2, Z2, h₁, x2, w1, w2, w3, w4, w5, w6⟩ := p
  have E1 : Ext s s1 := ⟨_, s.toks, rfl⟩
  exact ⟨c, U2, Z2, h₁, x2, by simp only [w1]; rfl, w2, E1.trans w3, w4, T1.trans w5, w6⟩
end
noncomputable def Src.at (src : Src) (i : Nat) (U : St) : Option (Option PV) := match src with
 | .imm xs => some xs[i]?
 | .lst l => match U[l]? with
  | some (.list xs) => some xs[i]?
  | _ => none
 | .zip xs k => match U[k]? with
  | some .junk => some xs[i]?
  | _ => none
structure Wk (X : Cx) (A : Around) (src : Src) (it : Value) (own : List Addr) (ok : Expr -> Bool) (J : Nat -> Heap -> Rho -> Prop) : Prop where
 next : ∀ {i Z U s v}, J i s.heap Z -> Rp X Z U s.heap -> src.at i U = some (some v) -> ∀ tgt (Q : Value -> Shared -> Prop) E, ok tgt = true ->
  (∀ u h' k, Rp X Z U h' -> J (i + 1) h' Z -> (∀ fs, Step own fs Z Z s.heap h') -> VRep h' Z v u -> Q u { s with heap := h', toks := k }) ->
  wpAny (model X.prog X.w) A (pyNext it) (fun r s1 => match r with
   | some u => wpAny (model X.prog X.w) A (letOwnedTupleGo tgt it u) (fun _ s2 => Q u s2) E s1
   | none => False) E s
 fin : ∀ {i Z U s}, J i s.heap Z -> Rp X Z U s.heap -> src.at i U = some none -> ∀ (Q : Option Value -> Shared -> Prop) E, (∀ h' k, Rp X Z U h' -> (∀ fs, Step own fs Z Z s.heap h') -> Q none { s with heap := h', toks := k }) -> wpAny (model X.prog X.w) A (pyNext it) Q E s
 self : ∀ {i Z s}, J i s.heap Z -> ∀ (Q : Value -> Shared -> Prop) E, Q it s -> wpAny (model X.prog X.w) A (pyIter it) Q E s
 step : ∀ {i Z Z' h h' W fs}, J i h Z -> Step W fs Z Z' h h' -> JI W h -> (∀ a, a ∈ own -> a ∉ W /\ a ∉ fs) -> J i h' Z'
 off : ∀ {i h Z}, J i h Z -> ∀ a, a ∈ own -> a ∉ Je Z /\ (∃ o, h.get? a = some o) /\ ∀ items, ¬ h.IsTuple a items
section
variable {X : Cx} {A : Around} {fs : List Addr} {Z Z' : Rho} {U U' : St} {s s' : Shared}
noncomputable def Ze (X : Cx) (Z : Rho) (I : Addr) : Prop := I ∉ Je Z /\ X.base.get? I = none
theorem Rp.extBut {h h' : Heap} {I : Addr} (R : Rp X Z U h) (fr : Ze X Z I) (nt : ∀ items, ¬ h.IsTuple I items) (hs : Heap.ExtBut I h h') : Rp X Z U h' := by
 refine ⟨fun b o e => ?_, R.len, R.nodup, R.off, R.fz, fun i q o hi ho => ?_⟩
 ·have : b ≠ I := fun z => by subst z; rw [fr.2] at e; cases e
  exact hs b o this (R.base b o e)
 ·exact (R.objs i q o hi ho).step (W := [I]) (fs := []) (Step.extBut (by simp) hs) (fun a q items => by simp at q; subst q; exact nt items) fun x hx ob e => hs x ob (fun z => by subst z; exact fr.1 (List.mem_flatMap.mpr ⟨q, List.mem_of_getElem? hi, hx⟩)) e
noncomputable def zipNames : List String := ["enumerate", "zip", "dict_itemiterator", "dict_reverseitemiterator", "odict_iterator", "itertools.zip_longest", "itertools.pairwise"]
theorem Yn {tgt : Expr} {r : Addr} {v : Value} {o : Obj} {n : String} {Q : Unit -> Shared -> Prop} {E : Value -> Shared -> Prop} (ho : s.heap.get? r = some o) (hc : o.cls = .type n) (hn : zipNames.contains n = false) (h : Q () s) :
  wpAny (model X.prog X.w) A (letOwnedTupleGo tgt (.ref r) v) Q E s := by
 have body : wpAny (model X.prog X.w) A (do
   let (.ref r, .ref a) := (Value.ref r, v) | return
   let o ← load r
   match o.cls, o.data with
   | .type n, .fields vs =>
    if ["enumerate", "zip", "dict_itemiterator", "dict_reverseitemiterator", "odict_iterator", "itertools.zip_longest", "itertools.pairwise"].contains n && vs[0]? == some (rawInt a) then
     rule "for.unpacks-the-owned-tuple"
     updateField r 0 .none
   | _, _ => pure () : Sem Unit) Q E s := by
  cases v with
  | ref a =>
   refine wpAny_bind (wpAny_load ho ?_)
   obtain ⟨oc, od, oda, osl⟩ := o
   simp only at hc
   subst hc
   cases oda with
   | fields vs =>
    unfold zipNames at hn
    simp only [hn, Bool.false_and, Bool.false_eq_true, if_false]
    exact wpAny_pure h
   | _ => exact wpAny_pure h
  | _ => exact wpAny_pure h
 unfold letOwnedTupleGo
 cases tgt <;> first | exact wpAny_pure h | exact body
noncomputable def OC : Expr -> Bool := fun _ => true
theorem Zv {own : List Addr} {I : Addr} {h h' : Heap} (hI : I ∈ own) (hs : Heap.SameBut I h h') (ht : ∃ o, h'.get? I = some o) : ∀ fs, Step own fs Z Z h h' := fun fs => Step.turn (.inr hI) hs ht
theorem JW {h : Heap} {I : Addr} {T : String} {d : Data} (j : ∃ o, h.get? I = some o /\ o.cls = .type T /\ o.data = d) (hT : T ≠ "tuple" := by decide) : ∀ items, ¬ h.IsTuple I items := by
 obtain ⟨o, e1, e2, _⟩ := j
 exact Yc e1 (by rw [e2]; simpa using hT)
theorem nt_of {h : Heap} {I : Addr} {T : String} {d : Data} (j : ∃ o, h.get? I = some o /\ o.cls = .type T /\ o.data = d) (hT : T ≠ "tuple" := by decide) : JI [I] h := fun a q items => by rw [List.mem_singleton.mp q]; exact JW j hT items
theorem it_keep {own W fs : List Addr} {I : Addr} {h h' : Heap} {T : String} {d : Data} (j : ∃ o, h.get? I = some o /\ o.cls = .type T /\ o.data = d) (f : Ze X Z I) (S : Step W fs Z Z' h h') (hW : ∀ a, a ∈ [I] -> a ∉ W /\ a ∉ fs) : (∃ o, h'.get? I = some o /\ o.cls = .type T /\ o.data = d) /\ Ze X Z' I := by
 obtain ⟨o, e1, e2, e3⟩ := j
 have w := hW I List.mem_cons_self
 exact ⟨⟨o, (S.keep I o e1 f.1 w.1).1 w.2, e2, e3⟩, S.offNew e1 f.1, f.2⟩
theorem it_off {I : Addr} {h : Heap} {T : String} {d : Data} (j : ∃ o, h.get? I = some o /\ o.cls = .type T /\ o.data = d) (f : Ze X Z I) (hT : T ≠ "tuple" := by decide) : ∀ a, a ∈ [I] -> a ∉ Je Z /\ (∃ o, h.get? a = some o) /\ ∀ items, ¬ h.IsTuple a items := fun a ha => by
 rw [List.mem_singleton.mp ha]
 exact ⟨f.1, (Exists.elim j fun o e => ⟨o, e.1⟩), JW j hT⟩
theorem it_ext {I : Addr} {h h' : Heap} (hs : Heap.ExtBut I h h') : ∀ fs, Step [I] fs Z Z h h' := fun fs => Step.extBut List.mem_cons_self hs
theorem at_lst {l i : Nat} {r : Option PV} (h : Src.at (.lst l) i U = some r) : ∃ xs, U[l]? = some (.list xs) /\ xs[i]? = r := by
 have h : (match U[l]? with
  | some (.list xs) => some xs[i]?
  | _ => none) = some r := h
 cases ho : U[l]? with
 | none => rw [ho] at h; cases h
 | some o =>
  rw [ho] at h
  cases o with
  | list xs => cases h; exact ⟨xs, rfl, rfl⟩
  | _ => cases h
theorem wk_tuple (hh : A.handled = none) {xs : List PV} {t I : Addr} {items : Array Value} : Wk X A (.imm xs) (.ref I) [I] OC (fun i h Z => h.IsTupleIter I t i /\ h.IsTuple t items /\ t ∉ Je Z /\ VReps h Z xs items.toList /\ Ze X Z I) where
 next := by
  intro i Z U s v ⟨j1, j2, j3, j4, j5⟩ Ir hv tgt Q E _ k
  have hne : t ≠ I := fun e => JW j1 (by decide) items (by rw [← e]; exact j2)
  obtain ⟨u, hu, ru⟩ := j4.get (Option.some.inj hv)
  rw [Array.getElem?_toList] at hu
  refine wpAny_pyNext_tuple_item j1 j2 hu fun h' it' hs => ?_
  have N := nt_of j1
  have St := fun fs => Zv (Z := Z) (own := [I]) List.mem_cons_self hs (Exists.elim it' fun o e => ⟨o, e.1⟩) fs
  obtain ⟨o, e1, e2, e3⟩ := id it'
  exact Yn (s := { s with heap := h' }) e1 e2 (by decide) (k u h' s.toks (Ir.extBut j5 (JW j1) hs.extBut) ⟨it', (let ⟨o', f1, f2⟩ := j2; ⟨o', (hs.2 _ hne).trans f1, f2⟩), j3, j4.step (St []) N, j5⟩ St (ru.step (St []) N))
 fin := by
  intro i Z U s ⟨j1, j2, j3, j4, j5⟩ Ir hv Q E k
  have e : items[i]? = none := by
   have h1 : xs.length = items.size := j4.length
   have h2 := List.getElem?_eq_none_iff.mp (Option.some.inj hv)
   exact Array.getElem?_eq_none (by lia)
  exact wpAny_pyNext_tuple_end hh j1 j2 e fun h' hs => k h' s.toks (Ir.extBut j5 (JW j1) hs) (it_ext hs)
 self := fun j Q E k => wpAny_pyIter_tupleiter j.1 k
 step := by
  intro i Z Z' h h' W fs ⟨j1, j2, j3, j4, j5⟩ T N hW
  have kp := it_keep (own := []) j1 j5 T hW
  exact ⟨kp.1, JF T j3 (JR N j2) j2, (Exists.elim j2 fun _ e => T.offNew e.1 j3), j4.step T N, kp.2⟩
 off := fun j => it_off j.1 j.2.2.2.2
theorem wk_list (hh : A.handled = none) {l : Nat} {p : Addr × Option Addr} {I : Addr} : Wk X A (.lst l) (.ref I) [I] OC (fun i h Z => h.IsListIter I p.1 i /\ Z[l]? = some p /\ Ze X Z I) where
 next := by
  intro i Z U s v ⟨j1, j2, j5⟩ Ir hv tgt Q E _ k
  obtain ⟨xs, hx, hv⟩ := at_lst hv
  obtain ⟨items, pl, rr⟩ := JB Ir j2 hx
  obtain ⟨u, hu, ru⟩ := rr.get hv
  rw [Array.getElem?_toList] at hu
  refine wpAny_pyNext_list_item j1 (Jg pl) hu fun h' it' hs => ?_
  have St := fun fs => Zv (Z := Z) (own := [I]) List.mem_cons_self hs (Exists.elim it' fun o e => ⟨o, e.1⟩) fs
  obtain ⟨o, e1, e2, e3⟩ := id it'
  exact Yn (s := { s with heap := h' }) e1 e2 (by decide) (k u h' s.toks (Ir.extBut j5 (JW j1) hs.extBut) ⟨it', j2, j5⟩ St (ru.step (St []) (nt_of j1)))
 fin := by
  intro i Z U s ⟨j1, j2, j5⟩ Ir hv Q E k
  obtain ⟨xs, hx, hv⟩ := at_lst hv
  obtain ⟨items, pl, rr⟩ := JB Ir j2 hx
  have e : items[i]? = none := by
   have h1 : xs.length = items.size := rr.length
   have h2 := List.getElem?_eq_none_iff.mp hv
   exact Array.getElem?_eq_none (by lia)
  exact wpAny_pyNext_list_end hh j1 (Jg pl) e fun h' hs => k h' s.toks (Ir.extBut j5 (JW j1) hs) (it_ext hs)
 self := fun j Q E k => wpAny_pyIter_listiter j.1 k
 step := by
  intro i Z Z' h h' W fs ⟨j1, j2, j5⟩ T N hW
  have kp := it_keep (own := []) j1 j5 T hW
  exact ⟨kp.1, Uo T j2, kp.2⟩
 off := fun j => it_off j.1 j.2.2
theorem signs_get {x : Str} {i : Nat} {v : PV} (h : (YD x)[i]? = some v) : ∃ c, x.cps[i]? = some c /\ v = .str ⟨#[c]⟩ := by
 unfold YD at h
 rw [List.getElem?_map, Option.map_eq_some_iff] at h
 obtain ⟨c, e, rfl⟩ := h
 exact ⟨c, by rw [Array.getElem?_toList] at e; exact e, rfl⟩
theorem signs_none {x : Str} {i : Nat} (h : (YD x)[i]? = none) : x.cps[i]? = none := by
 unfold YD at h
 rw [List.getElem?_eq_none_iff, List.length_map, Array.length_toList] at h
 exact Array.getElem?_eq_none h
theorem wk_str (hh : A.handled = none) {x : Str} {t : Tok} {I : Addr} : Wk X A (.imm (YD x)) (.ref I) [I] OC (fun i h Z => h.IsStrIter I "str_ascii_iterator" x t i /\ Ze X Z I) where
 next := by
  intro i Z U s v ⟨j1, j5⟩ Ir hv tgt Q E _ k
  obtain ⟨c, hc, rfl⟩ := signs_get (Option.some.inj hv)
  refine wpAny_pyNext_ascii_item j1 hc fun h' it' hs => ?_
  have St := fun fs => Zv (Z := Z) (own := [I]) List.mem_cons_self hs (Exists.elim it' fun o e => ⟨o, e.1⟩) fs
  obtain ⟨o, e1, e2, e3⟩ := id it'
  exact Yn (s := { s with heap := h', toks := s.toks + 1 }) e1 e2 (by decide) (k _ h' _ (Ir.extBut j5 (JW j1) hs.extBut) ⟨it', j5⟩ St (.str _ _))
 fin := by
  intro i Z U s ⟨j1, j5⟩ Ir hv Q E k
  exact wpAny_pyNext_ascii_end hh j1 (signs_none (Option.some.inj hv)) fun h' hs => k h' s.toks (Ir.extBut j5 (JW j1) hs) (it_ext hs)
 self := fun j Q E k => wpAny_pyIter_striter_ascii j.1 k
 step := by
  intro i Z Z' h h' W fs ⟨j1, j5⟩ T N hW
  exact it_keep (own := []) j1 j5 T hW
 off := fun j => it_off j.1 j.2
noncomputable def OB (n : Int) : List PV := (List.range n.toNat).map fun (i : Nat) => PV.int i
theorem range_get {n : Int} {i : Nat} : (OB n)[i]? = if i < n.toNat then some (.int i) else none := by
 unfold OB
 rw [List.getElem?_map]
 by_cases h : i < n.toNat
 ·rw [if_pos h, List.getElem?_range h]; rfl
 ·rw [if_neg h, List.getElem?_eq_none (by rw [List.length_range]; exact Nat.le_of_not_lt h)]; rfl
theorem rng_some {n : Int} {i : Nat} {v : PV} (h : (OB n)[i]? = some v) : 0 < n - (i : Int) /\ v = .int i := by
 rw [range_get] at h
 by_cases q : i < n.toNat
 ·rw [if_pos q] at h; exact ⟨by lia, (Option.some.inj h).symm⟩
 ·rw [if_neg q] at h; cases h
theorem rng_none {n : Int} {i : Nat} (h : (OB n)[i]? = none) : n - (i : Int) ≤ 0 := by
 rw [range_get] at h
 by_cases q : i < n.toNat
 ·rw [if_pos q] at h; cases h
 ·lia
theorem rng_step {h : Heap} {I : Addr} {n : Int} {i : Nat} (j : IsRangeIter h I (i + 1) (n - i - 1) 1) : IsRangeIter h I ((i + 1 : Nat) : Int) (n - ((i + 1 : Nat) : Int)) 1 := by
 rw [show n - ((i + 1 : Nat) : Int) = n - i - 1 by lia]; exact j
theorem wk_range (hh : A.handled = none) {n : Int} {I : Addr} : Wk X A (.imm (OB n)) (.ref I) [I] OC (fun i h Z => IsRangeIter h I i (n - i) 1 /\ Ze X Z I) where
 next := by
  intro i Z U s v ⟨j1, j5⟩ Ir hv tgt Q E _ k
  obtain ⟨hlt, rfl⟩ := rng_some (Option.some.inj hv)
  refine wpAny_pyNext_range_item j1 hlt fun h' it' hs => ?_
  exact Yn (s := { s with heap := h', toks := s.toks + 1 }) it' rfl (by decide) (k _ h' _ (Ir.extBut j5 (JW ⟨_, j1, rfl, rfl⟩) hs.extBut) ⟨rng_step it', j5⟩ (fun fs => Zv List.mem_cons_self hs ⟨_, it'⟩ fs) (.int _ _))
 fin := by
  intro i Z U s ⟨j1, j5⟩ Ir hv Q E k
  exact wpAny_pyNext_range_end hh j1 (rng_none (Option.some.inj hv)) fun h' hs => k h' s.toks (Ir.extBut j5 (JW ⟨_, j1, rfl, rfl⟩) hs) (it_ext hs)
 self := fun j Q E k => wpAny_pyIter_rangeiter j.1 k
 step := by
  intro i Z Z' h h' W fs ⟨j1, j5⟩ T N hW
  have w := hW I List.mem_cons_self
  exact ⟨(T.keep I _ j1 j5.1 w.1).1 w.2, T.offNew j1 j5.1, j5.2⟩
 off := fun j => it_off ⟨_, j.1, rfl, rfl⟩ j.2
noncomputable def ItRel (X : Cx) (A : Around) (ok : Expr -> Bool) (h0 : Heap) : Heap -> Rho -> Src -> Value -> Prop := fun h Z src it => ∃ own J, Wk X A src it own ok J /\ J 0 h Z /\ ∀ a, a ∈ own -> h0.get? a = none
theorem pyIter_ok (hh : A.handled = none) {v : PV} {u : Value} (I : Rp X Z U s.heap) (r : VRep s.heap Z v u) : Ok X A [] fs Z s (ItRel X A OC s.heap) (pyIter u) (src0 v U) := by
 have fresh : ∀ a, a ∈ [s.heap.objs.size] -> s.heap.get? a = none := fun a q => by rw [List.mem_singleton.mp q]; exact get?_size _
 have fr : Ze X Z s.heap.objs.size := ⟨I.size_off, JC I.base (get?_size _)⟩
 have i := r.inv
 cases v with
 | tup xs =>
  obtain ⟨t, items, rfl, ht, no, rr⟩ := i
  refine Ok.to fun Q E k => wpAny_pyIter_tuple ht ?_
  have kp := Jx s.heap { cls := .type "tuple_iterator", data := .fields #[.ref t, .int 0 0] }
  have S' : Step (W := []) (fs := fs) Z Z s.heap _ := Step.of_keeps kp
  exact k _ Z { s with heap := s.heap.push { cls := .type "tuple_iterator", data := .fields #[.ref t, .int 0 0] } } ⟨_, _, rfl⟩ (I.keeps kp) ⟨[s.heap.objs.size], _, wk_tuple hh, ⟨⟨_, Heap.get?_push_size _ rfl, rfl, rfl⟩, JF S' no List.not_mem_nil ht, no, rr.step S' Ja, fr⟩, fresh⟩ S'
 | loc l =>
  obtain ⟨p, rfl, hp⟩ := i
  refine .guard fun hl => ?_
  obtain ⟨xs, hx⟩ := isLs_ex hl
  obtain ⟨items, pl, rr⟩ := JB I hp hx
  refine Ok.to fun Q E k => wpAny_pyIter_list (Jg pl) ?_
  have kp := Jx s.heap { cls := .type "list_iterator", data := .fields #[.ref p.1, .int 0 0] }
  have S' : Step (W := []) (fs := fs) Z Z s.heap _ := Step.of_keeps kp
  exact k _ Z { s with heap := s.heap.push { cls := .type "list_iterator", data := .fields #[.ref p.1, .int 0 0] } } ⟨_, _, rfl⟩ (I.keeps kp) ⟨[s.heap.objs.size], _, wk_list (l := l) (p := p) hh, ⟨⟨_, Heap.get?_push_size _ rfl, rfl, rfl⟩, hp, fr⟩, fresh⟩ S'
 | str x =>
  obtain ⟨t, rfl⟩ := i
  refine .guard fun ha => Ok.to fun Q E k => wpAny_pyIter_ascii ha ?_
  have kp := Jx s.heap { cls := .type "str_ascii_iterator", data := .fields #[.str x t, .int 0 0] }
  exact k _ Z { s with heap := s.heap.push { cls := .type "str_ascii_iterator", data := .fields #[.str x t, .int 0 0] } } ⟨_, _, rfl⟩ (I.keeps kp) ⟨[s.heap.objs.size], _, wk_str (x := x) (t := t) hh, ⟨⟨_, Heap.get?_push_size _ rfl, rfl, rfl⟩, fr⟩, fresh⟩ (Step.of_keeps kp)
 | _ => exact .stuck
end
section
variable {X : Cx} {A : Around} {fs : List Addr} {Z Z' : Rho} {U U' : St} {s s' : Shared} {E : Value -> Shared -> Prop}
theorem OW {it t : Addr} {i : Nat} {items : Array Value} {x : Value} {Q : Value -> Shared -> Prop} (hit : s.heap.IsTupleIter it t i) (ht : s.heap.IsTuple t items) (hx : items[i]? = some x)
  (hQ : ∀ h', h'.IsTupleIter it t (i + 1) -> Heap.SameBut it s.heap h' -> Q x { s with heap := h' }) : wpAny (model X.prog X.w) A (Builtin.SmallTypes.nextOf (.ref it)) Q E s := by
 obtain ⟨o, ho, hc, hd⟩ := id hit
 obtain ⟨ol, hol, _, nl, hdl⟩ := ht
 unfold Builtin.SmallTypes.nextOf
 refine wpAny_bind (wpAny_callSpecial?_slot (name := Str.ofString "__next__") hit.typeIs F.slot_tuple_iterator_next
  (wpAny_call_entry F.slot_tuple_iterator_next hit.typeIs F.entry_tuple_iterator_next ?_ (F.args_tuple_iterator_next_1 _)))
 show wpAny _ _ (field (.ref it) 0 >>= _) _ _ s
 refine wpAny_bind (wpAny_field ho hd (x := .ref t) rfl ?_)
 show wpAny _ _ (if (Value.ref t == Value.none) = true then _ else _) _ _ s
 rw [if_neg (show ¬ ((Value.ref t == Value.none) = true) from Bool.false_ne_true)]
 show wpAny _ _ (field (.ref it) 1 >>= _) _ _ s
 refine wpAny_bind (wpAny_field ho hd (x := .int i 0) rfl ?_)
 show wpAny _ _ (seqItems? (.ref t) >>= _) _ _ s
 refine wpAny_bind (wpAny_seqItems hol hdl ?_)
 simp only [Int.toNat_natCast, hx]
 refine wpAny_bind (wpAny_setField ho hd (by simp) (wpAny_pure ⟨x, rfl, wpAny_pure (hQ _ ?_ (Heap.SameBut.update ..))⟩))
 exact ⟨_, Heap.get?_update_self _ ho (Obj.isFreed_of_fields (Obj.data_mapFields hd _)), (Obj.cls_mapFields ..).trans hc, by
  rw [Obj.data_mapFields hd]; simp [rawInt]⟩
theorem Gj {it t : Addr} {i : Nat} {items : Array Value} {Q : Value -> Shared -> Prop} (hh : A.handled = none) (hit : s.heap.IsTupleIter it t i) (ht : s.heap.IsTuple t items) (hx : items[i]? = none)
  (hE : ∀ h' e, Heap.ExtBut it s.heap h' -> (∃ o, h'.get? e = some o /\ o.cls = .type "StopIteration") -> E (.ref e) { s with heap := h' }) : wpAny (model X.prog X.w) A (Builtin.SmallTypes.nextOf (.ref it)) Q E s := by
 obtain ⟨o, ho, hc, hd⟩ := id hit
 obtain ⟨ol, hol, _, nl, hdl⟩ := ht
 unfold Builtin.SmallTypes.nextOf
 refine wpAny_bind (wpAny_callSpecial?_slot (name := Str.ofString "__next__") hit.typeIs F.slot_tuple_iterator_next
  (wpAny_call_entry F.slot_tuple_iterator_next hit.typeIs F.entry_tuple_iterator_next ?_ (F.args_tuple_iterator_next_1 _)))
 show wpAny _ _ (field (.ref it) 0 >>= _) _ _ s
 refine wpAny_bind (wpAny_field ho hd (x := .ref t) rfl ?_)
 show wpAny _ _ (if (Value.ref t == Value.none) = true then _ else _) _ _ s
 rw [if_neg (show ¬ ((Value.ref t == Value.none) = true) from Bool.false_ne_true)]
 show wpAny _ _ (field (.ref it) 1 >>= _) _ _ s
 refine wpAny_bind (wpAny_field ho hd (x := .int i 0) rfl ?_)
 show wpAny _ _ (seqItems? (.ref t) >>= _) _ _ s
 refine wpAny_bind (wpAny_seqItems hol hdl ?_)
 simp only [Int.toNat_natCast, hx]
 refine wpAny_bind (wpAny_rule (wpAny_bind (wpAny_setField ho hd (by simp) ?_)))
 show wpAny _ _ (newExc (.type "StopIteration") [] >>= _) _ _ _
 refine wpAny_bind ?_
 simp only [newExc, newTuple]
 refine wpAny_bind (wpAny_newObj_type ?_ (by size_fits))
 refine wpAny_bind (m := firstArgMember _ _) (wpAny_of_eq (a := Value.none) (by first | rfl | (simp only [firstArgMember]; rfl)) ?_)
 refine wpAny_newObj_type ?_ (by size_fits)
 simp only [raiseNew]
 refine wpAny_bind (wpAny_handled ?_)
 first | rw [show A.in1.handled = none from hh] | rw [hh]
 refine wpAny_bind (wpAny_pure (wpAny_throw ?_))
 exact hE _ _ (((Heap.SameBut.update ..).extBut.push _).push _) ⟨_, Heap.get?_push_size _ rfl, rfl⟩
structure Ap (z TI TO i1 i2 t : Addr) : Prop where
 TIz : TI ≠ z
 TOz : TO ≠ z
 i1z : i1 ≠ z
 i2z : i2 ≠ z
 TITO : TI ≠ TO
 TIi1 : TI ≠ i1
 TIi2 : TI ≠ i2
 TOi1 : TO ≠ i1
 TOi2 : TO ≠ i2
 i12 : i1 ≠ i2
 tz : t ≠ z
 tTO : t ≠ TO
 ti1 : t ≠ i1
 ti2 : t ≠ i2
abbrev Os (h : Heap) (i : Addr) (y : Str) (u : Tok) (k : Nat) : Prop := h.IsStrIter i "str_ascii_iterator" y u k
theorem Op {h h' : Heap} {i b : Addr} {y : Str} {u : Tok} {k : Nat} (x : Os h i y u k) (hs : Heap.ExtBut b h h') (n : i ≠ b) : Os h' i y u k := x.extBut hs n
theorem zip_item {z TI TO i1 i2 t : Addr} {k1 k2 : Nat} {xs : Array Value} {ys : Str} {ut : Tok} {x a b : Value} {c : Nat} {Q : Value -> Shared -> Prop} (D : Ap z TI TO i1 i2 t)
  (hz : IsZip s.heap z TI TO .none) (hTI : s.heap.IsTuple TI #[.ref i1, .ref i2]) (hTO : IsPair s.heap TO a b)
  (h1 : s.heap.IsTupleIter i1 t k1) (h2 : Os s.heap i2 ys ut k2) (hl1 : s.heap.IsTuple t xs) (hx : xs[k1]? = some x) (hy : ys.cps[k2]? = some c)
  (hQ : ∀ h' j y, (∃ u, y = Value.str ⟨#[c]⟩ u) -> IsZip h' z TI TO (rawInt s.heap.objs.size) -> IsPair h' TO x y -> h'.IsTupleIter i1 t (k1 + 1) -> Os h' i2 ys ut (k2 + 1) -> IsPair h' s.heap.objs.size x y ->
   (∀ c o, c ≠ z -> c ≠ TO -> c ≠ i1 -> c ≠ i2 -> s.heap.get? c = some o -> h'.get? c = some o) -> Q (.ref s.heap.objs.size) { s with heap := h', toks := j }) :
  wpAny (model X.prog X.w) A (Builtin.«zip.__next__» ⟨[.ref z], []⟩) (fun fin s' => ∃ v, fin = .done (.ret v) /\ Q v s') E s := by
 obtain ⟨oTI, hoTI, _, nTI, hdTI⟩ := id hTI
 show wpAny _ _ (field (.ref z) 2 >>= _) _ _ _
 refine wpAny_bind (wpAny_field hz rfl (x := .bool false) rfl ?_)
 show wpAny _ _ (field (.ref z) 3 >>= _) _ _ _
 refine wpAny_bind (wpAny_field hz rfl (x := .ref TI) rfl ?_)
 refine wpAny_bind (wpAny_seqItems hoTI hdTI ?_)
 show wpAny _ _ (Builtin.SmallTypes.ownedTupleIsFree (.ref z) >>= _) _ _ _
 refine wpAny_bind ?_
 unfold Builtin.SmallTypes.ownedTupleIsFree
 refine wpAny_bind (wpAny_field hz rfl (x := .none) rfl (wpAny_pure ?_))
 simp only [if_true]
 refine wpAny_bind (wpAny_rule ?_)
 refine wpAny_bind (wpAny_field hz rfl (x := .ref TO) rfl ?_)
 refine wpAny_bind (wpAny_setField_rec hz (by simp) fun h₁ hz₁ hs₁ => ?_)
 replace hz₁ : IsZip h₁ z TI TO .ellipsis := hz₁
 refine wpAny_bind ?_
 simp only [List.zipIdx_cons, List.zipIdx_nil, List.forIn_cons, List.forIn_nil]
 refine wpAny_bind (wpAny_bind (wpAny_onRaise ?_))
 show wpAny _ _ (Builtin.SmallTypes.nextOf (.ref i1) >>= _) _ _ _
 refine wpAny_bind (OW (h1.extBut hs₁.extBut D.i1z) (hl1.extBut hs₁.extBut D.tz) hx fun h₂ h1₂ hs₂ => wpAny_pure ?_)
 have hTO₂ : IsPair h₂ TO a b := hs₂.extBut _ _ D.TOi1 (hs₁.extBut _ _ D.TOz hTO)
 refine wpAny_bind (wpAny_seqItems hTO₂ rfl ?_)
 refine wpAny_bind (wpAny_updateSeq_pair hTO₂ fun h₃ hTO₃ hs₃ => ?_)
 replace hTO₃ : IsPair h₃ TO x b := hTO₃
 refine wpAny_bind (wpAny_letGo (wpAny_pure ?_))
 refine wpAny_bind (wpAny_bind (wpAny_onRaise ?_))
 show wpAny _ _ (Builtin.SmallTypes.nextOf (.ref i2) >>= _) _ _ _
 refine wpAny_bind (wpAny_nextOf_ascii_item (Op (Op (Op h2 hs₁.extBut D.i2z) hs₂.extBut D.i12.symm) hs₃.extBut D.TOi2.symm) hy fun h₄ h2₄ hs₄ => wpAny_pure ?_)
 have hTO₄ : IsPair h₄ TO x b := hs₄.extBut _ _ D.TOi2 hTO₃
 refine wpAny_bind (wpAny_seqItems hTO₄ rfl ?_)
 refine wpAny_bind (wpAny_updateSeq_pair hTO₄ fun h₅ hTO₅ hs₅ => ?_)
 replace hTO₅ : IsPair h₅ TO x (Value.str ⟨#[c]⟩ s.toks) := hTO₅
 refine wpAny_bind (wpAny_letGo (wpAny_pure (wpAny_pure ?_)))
 refine wpAny_bind (wpAny_seqItems hTO₅ rfl ?_)
 refine wpAny_bind (wpAny_newTuple ?_)
 have hsz : h₅.objs.size = s.heap.objs.size := by rw [hs₅.1, hs₄.1, hs₃.1, hs₂.1, hs₁.1]
 have hz₅ : IsZip h₅ z TI TO .ellipsis := hs₅.extBut _ _ D.TOz.symm (hs₄.extBut _ _ D.i2z.symm (hs₃.extBut _ _ D.TOz.symm (hs₂.extBut _ _ D.i1z.symm hz₁)))
 have hk₅ : ∀ c o, c ≠ z -> c ≠ TO -> c ≠ i1 -> c ≠ i2 -> s.heap.get? c = some o -> h₅.get? c = some o := fun c o c1 c2 c3 c4 e =>
  hs₅.extBut _ _ c2 (hs₄.extBut _ _ c4 (hs₃.extBut _ _ c2 (hs₂.extBut _ _ c3 (hs₁.extBut _ _ c1 e))))
 have h1₅ : h₅.IsTupleIter i1 t (k1 + 1) := ((h1₂.extBut hs₃.extBut D.TOi1.symm).extBut hs₄.extBut D.i12).extBut hs₅.extBut D.TOi1.symm
 have h2₅ : Os h₅ i2 ys ut (k2 + 1) := Op h2₄ hs₅.extBut D.TOi2.symm
 have hzlt : z < h₅.objs.size := Heap.lt_size hz₅
 show wpAny _ _ (Builtin.SmallTypes.ownedTupleHandOut (.ref z) (.ref h₅.objs.size) >>= _) _ _ _
 refine wpAny_bind ?_
 unfold Builtin.SmallTypes.ownedTupleHandOut
 have hz₆ : IsZip (h₅.push { cls := .type "tuple", data := .seq #[x, Value.str ⟨#[c]⟩ s.toks] }) z TI TO .ellipsis := Heap.get?_push_of_some _ hz₅
 refine wpAny_bind (wpAny_setField_rec hz₆ (by simp) fun h₇ hz₇ hs₇ => ?_)
 replace hz₇ : IsZip h₇ z TI TO (rawInt h₅.objs.size) := hz₇
 refine wpAny_setField_rec hz₇ (by simp) fun h₈ hz₈ hs₈ => ?_
 replace hz₈ : IsZip h₈ z TI TO (rawInt h₅.objs.size) := hz₈
 have up : ∀ c o, c ≠ z -> h₅.get? c = some o -> h₈.get? c = some o := fun c o c1 e => hs₈.extBut _ _ c1 (hs₇.extBut _ _ c1 (Heap.get?_push_of_some _ e))
 have hT₈ : IsPair h₈ h₅.objs.size x (Value.str ⟨#[c]⟩ s.toks) := hs₈.extBut _ _ (Nat.ne_of_gt hzlt) (hs₇.extBut _ _ (Nat.ne_of_gt hzlt) (Heap.get?_push_size _ rfl))
 rw [hsz] at hz₈ hT₈
 refine wpAny_pure ⟨_, rfl, ?_⟩
 show Q (.ref h₅.objs.size) _
 rw [hsz]
 refine hQ h₈ _ _ ⟨_, rfl⟩ hz₈ (up _ _ D.TOz hTO₅) ?_ ?_ hT₈ fun c o c1 c2 c3 c4 e => up c o c1 (hk₅ c o c1 c2 c3 c4 e)
 ·obtain ⟨o, e, r⟩ := h1₅; exact ⟨o, up _ o D.i1z e, r⟩
 ·obtain ⟨o, e, r⟩ := h2₅; exact ⟨o, up _ o D.i2z e, r⟩
theorem zip_end {z TI TO i1 i2 t : Addr} {k1 k2 : Nat} {xs : Array Value} {ys : Str} {ut : Tok} {a b : Value} {Q : Fin -> Shared -> Prop} (hh : A.handled = none) (D : Ap z TI TO i1 i2 t)
  (hz : IsZip s.heap z TI TO .none) (hTI : s.heap.IsTuple TI #[.ref i1, .ref i2]) (hTO : IsPair s.heap TO a b)
  (h1 : s.heap.IsTupleIter i1 t k1) (h2 : Os s.heap i2 ys ut k2) (hl1 : s.heap.IsTuple t xs) (hend : xs[k1]? = none \/ ys.cps[k2]? = none)
  (hE : ∀ h' e j, (∀ c o, c ≠ z -> c ≠ TO -> c ≠ i1 -> c ≠ i2 -> s.heap.get? c = some o -> h'.get? c = some o) -> (∃ a b, IsPair h' TO a b) -> (∃ o, h'.get? e = some o /\ o.cls = .type "StopIteration") -> E (.ref e) { s with heap := h', toks := j }) :
  wpAny (model X.prog X.w) A (Builtin.«zip.__next__» ⟨[.ref z], []⟩) Q E s := by
 obtain ⟨oTI, hoTI, _, nTI, hdTI⟩ := id hTI
 show wpAny _ _ (field (.ref z) 2 >>= _) _ _ _
 refine wpAny_bind (wpAny_field hz rfl (x := .bool false) rfl ?_)
 show wpAny _ _ (field (.ref z) 3 >>= _) _ _ _
 refine wpAny_bind (wpAny_field hz rfl (x := .ref TI) rfl ?_)
 refine wpAny_bind (wpAny_seqItems hoTI hdTI ?_)
 show wpAny _ _ (Builtin.SmallTypes.ownedTupleIsFree (.ref z) >>= _) _ _ _
 refine wpAny_bind ?_
 unfold Builtin.SmallTypes.ownedTupleIsFree
 refine wpAny_bind (wpAny_field hz rfl (x := .none) rfl (wpAny_pure ?_))
 simp only [if_true]
 refine wpAny_bind (wpAny_rule ?_)
 refine wpAny_bind (wpAny_field hz rfl (x := .ref TO) rfl ?_)
 refine wpAny_bind (wpAny_setField_rec hz (by simp) fun h₁ hz₁ hs₁ => ?_)
 replace hz₁ : IsZip h₁ z TI TO .ellipsis := hz₁
 refine wpAny_bind ?_
 simp only [List.zipIdx_cons, List.zipIdx_nil, List.forIn_cons, List.forIn_nil]
 refine wpAny_bind (wpAny_bind (wpAny_onRaise ?_))
 show wpAny _ _ (Builtin.SmallTypes.nextOf (.ref i1) >>= _) _ _ _
 cases hx : xs[k1]? with
 | none =>
  refine wpAny_bind (Gj hh (h1.extBut hs₁.extBut D.i1z) (hl1.extBut hs₁.extBut D.tz) hx fun h₂ e hs₂ he => ?_)
  obtain ⟨oe, hoe, hce⟩ := he
  have hz₂ : IsZip h₂ z TI TO .ellipsis := hs₂ _ _ D.i1z.symm hz₁
  have hez : e ≠ z := fun x => by subst x; rw [hz₂] at hoe; cases hoe; simp at hce
  refine wpAny_setField_rec hz₂ (by simp) fun h₃ _ hs₃ => hE h₃ e _ (fun c o c1 _ c3 _ x => hs₃.extBut _ _ c1 (hs₂ _ _ c3 (hs₁.extBut _ _ c1 x))) ⟨a, b, hs₃.extBut _ _ D.TOz (hs₂ _ _ D.TOi1 (hs₁.extBut _ _ D.TOz hTO))⟩ ⟨oe, hs₃.extBut _ _ hez hoe, hce⟩
 | some x =>
  have hy : ys.cps[k2]? = none := by rcases hend with h | h; rw [hx] at h; cases h; exact h
  refine wpAny_bind (OW (h1.extBut hs₁.extBut D.i1z) (hl1.extBut hs₁.extBut D.tz) hx fun h₂ h1₂ hs₂ => wpAny_pure ?_)
  have hTO₂ : IsPair h₂ TO a b := hs₂.extBut _ _ D.TOi1 (hs₁.extBut _ _ D.TOz hTO)
  refine wpAny_bind (wpAny_seqItems hTO₂ rfl ?_)
  refine wpAny_bind (wpAny_updateSeq_pair hTO₂ fun h₃ hTO₃ hs₃ => ?_)
  replace hTO₃ : IsPair h₃ TO x b := hTO₃
  refine wpAny_bind (wpAny_letGo (wpAny_pure ?_))
  refine wpAny_bind (wpAny_bind (wpAny_onRaise ?_))
  show wpAny _ _ (Builtin.SmallTypes.nextOf (.ref i2) >>= _) _ _ _
  refine wpAny_bind (wpAny_nextOf_ascii_end hh (Op (Op (Op h2 hs₁.extBut D.i2z) hs₂.extBut D.i12.symm) hs₃.extBut D.TOi2.symm) hy fun h₄ e hs₄ he => ?_)
  obtain ⟨oe, hoe, hce⟩ := he
  have hz₄ : IsZip h₄ z TI TO .ellipsis := hs₄ _ _ D.i2z.symm (hs₃.extBut _ _ D.TOz.symm (hs₂.extBut _ _ D.i1z.symm hz₁))
  have hez : e ≠ z := fun x => by subst x; rw [hz₄] at hoe; cases hoe; simp at hce
  refine wpAny_setField_rec hz₄ (by simp) fun h₅ _ hs₅ => hE h₅ e _ (fun c o c1 c2 c3 c4 x => hs₅.extBut _ _ c1 (hs₄ _ _ c4 (hs₃.extBut _ _ c2 (hs₂.extBut _ _ c3 (hs₁.extBut _ _ c1 x))))) ⟨x, b, hs₅.extBut _ _ D.TOz (hs₄ _ _ D.TOi2 hTO₃)⟩ ⟨oe, hs₅.extBut _ _ hez hoe, hce⟩
noncomputable abbrev zH1 (h : Heap) (t : Addr) : Heap := h.push { cls := .type "tuple_iterator", data := .fields #[.ref t, .int 0 0] }
noncomputable abbrev zH2 (h : Heap) (t : Addr) (y : Str) (u : Tok) : Heap := (zH1 h t).push { cls := .type "str_ascii_iterator", data := .fields #[.str y u, .int 0 0] }
noncomputable abbrev zH3 (h : Heap) (t : Addr) (y : Str) (u : Tok) : Heap := (zH2 h t y u).push { cls := .type "tuple", data := .seq #[.ref h.objs.size, .ref (zH1 h t).objs.size] }
noncomputable abbrev zH4 (h : Heap) (t : Addr) (y : Str) (u : Tok) : Heap := (zH3 h t y u).push { cls := .type "tuple", data := .seq #[.none, .none] }
noncomputable abbrev zH5 (h : Heap) (t : Addr) (y : Str) (u : Tok) : Heap := (zH4 h t y u).push { cls := .type "zip", data := .fields #[.none, .bool false, .bool false, .ref (zH2 h t y u).objs.size, .ref (zH3 h t y u).objs.size] }
set_option maxHeartbeats 4000000 in
theorem meets_zip' (t : Addr) (items : Array Value) (y : Str) (u : Tok) (ha : y.cps.all (· < 128) = true) :
  Meets (Builtin.«zip.__new__» ⟨[.type "zip", .ref t, .str y u], []⟩) (fun _ R s => s.heap.IsTuple t items /\
   R (.ok (.ret (.ref (zH4 s.heap t y u).objs.size))) { s with heap := zH5 s.heap t y u }) :=
 .of_wp fun prog w A R s h => by
  obtain ⟨hp, g, d, tk, os⟩ := s; obtain ⟨hl1, h⟩ := h
  have hsub := sub_zip
  have hL1 : Heap.IsTuple (Shared.heap ⟨hp, g, d, tk, os⟩) t items := hl1
  wp_walk using wpAny_pyIter_tuple hL1, wpAny_pyIter_ascii ha
  exact ⟨_, rfl, h⟩
theorem call_zip' {t : Addr} {items : Array Value} {y : Str} {u : Tok} {Q : Value -> Shared -> Prop} (ht : s.heap.IsTuple t items) (ha : y.cps.all (· < 128) = true)
  (h : ∀ h', IsZip h' (s.heap.objs.size + 4) (s.heap.objs.size + 2) (s.heap.objs.size + 3) .none -> IsPair h' (s.heap.objs.size + 2) (.ref s.heap.objs.size) (.ref (s.heap.objs.size + 1)) ->
   IsPair h' (s.heap.objs.size + 3) .none .none -> h'.IsTupleIter s.heap.objs.size t 0 -> Os h' (s.heap.objs.size + 1) y u 0 ->
   (∀ c o, s.heap.get? c = some o -> h'.get? c = some o) -> Q (.ref (s.heap.objs.size + 4)) { s with heap := h' }) :
  wpAny (model X.prog X.w) A (call (.type "zip") [.ref t, .str y u]) Q E s := by
 refine callType_new F.called_zip (by decide) (F.typeCall_zip_2 _ _) (F.newCall_zip_2 _ _) (fun obj => F.args_object_init_3 obj _ _) F.entry_zip_new
  (meets_zip' t items y u ha) ⟨ht, ?_⟩
 have z1 : (zH1 s.heap t).objs.size = s.heap.objs.size + 1 := Heap.size_push ..
 have z2 : (zH2 s.heap t y u).objs.size = s.heap.objs.size + 2 := by rw [Heap.size_push, z1]
 have z3 : (zH3 s.heap t y u).objs.size = s.heap.objs.size + 3 := by rw [Heap.size_push, z2]
 have z4 : (zH4 s.heap t y u).objs.size = s.heap.objs.size + 4 := by rw [Heap.size_push, z3]
 have g5 : (zH5 s.heap t y u).get? (zH4 s.heap t y u).objs.size = some _ := Heap.get?_push_size _ rfl
 have g4 : (zH5 s.heap t y u).get? (zH3 s.heap t y u).objs.size = some _ := Heap.get?_push_of_some _ (Heap.get?_push_size _ rfl)
 have g3 : (zH5 s.heap t y u).get? (zH2 s.heap t y u).objs.size = some _ := Heap.get?_push_of_some _ (Heap.get?_push_of_some _ (Heap.get?_push_size _ rfl))
 have g2 : (zH5 s.heap t y u).get? (zH1 s.heap t).objs.size = some _ := Heap.get?_push_of_some _ (Heap.get?_push_of_some _ (Heap.get?_push_of_some _ (Heap.get?_push_size _ rfl)))
 have g1 : (zH5 s.heap t y u).get? s.heap.objs.size = some _ := Heap.get?_push_of_some _ (Heap.get?_push_of_some _ (Heap.get?_push_of_some _ (Heap.get?_push_of_some _ (Heap.get?_push_size _ rfl))))
 show _ /\ _
 rw [z2, z3, z4] at g5
 rw [z1, z2] at g3
 rw [z3] at g4
 rw [z1] at g2
 rw [z4]
 exact ⟨⟨_, g5, rfl⟩, h _ g5 g3 g4 ⟨_, g1, rfl, rfl⟩ ⟨_, g2, rfl, rfl⟩ fun c o x =>
  Heap.get?_push_of_some _ (Heap.get?_push_of_some _ (Heap.get?_push_of_some _ (Heap.get?_push_of_some _ (Heap.get?_push_of_some _ x))))⟩
end
section
variable {X : Cx} {S : SX} {C : SC} {lvl : Nat} {A : Around} {fs : List Addr} {env : Env} {fr : Fr} {Z Z' : Rho} {U U' : St} {s s' : Shared} {E : Value -> Shared -> Prop}
theorem chg {own : List Addr} {k : Nat} {TO : Addr} {h h' : Heap} (R : Rp X Z U h) (free : ∀ a, a ∈ own -> Ze X Z a) (N : JI own h) (hk : U[k]? = some .junk) (hp : Z[k]? = some (TO, none))
  (keep : ∀ c o, c ∉ own -> c ≠ TO -> h.get? c = some o -> h'.get? c = some o) (hTO : ∃ x y, IsPair h' TO x y) : Rp X Z U h' /\ ∀ fs, Step own fs Z Z h h' := by
 have ho : TO ∈ Je Z := Ov hp
 have St : ∀ fs, Step own fs Z Z h h' := fun fs => by
  refine ⟨⟨[], by simp⟩, fun a o e n nw => ?_, fun a o e nw => ?_, fun _ q => .inl q, fun _ _ q => q⟩
  ·have : a ≠ TO := fun z => by subst z; exact n ho
   exact ⟨fun _ => keep a o nw this e, o.slots, keep a o nw this e⟩
  ·by_cases z : a = TO
   ·subst z; obtain ⟨x, y, e⟩ := hTO; exact ⟨_, e⟩
   ·exact ⟨o, keep a o nw z e⟩
 refine ⟨⟨fun b o e => ?_, R.len, R.nodup, R.off, R.fz, fun i q o hi ho' => ?_⟩, St⟩
 ·refine keep b o (fun z => ?_) (fun z => ?_) (R.base b o e)
  ·rw [(free b z).2] at e; cases e
  ·subst z; rw [R.off _ ho] at e; cases e
 ·by_cases e : i = k
  ·subst e
   rw [hp] at hi
   rw [hk] at ho'
   cases hi
   cases ho'
   obtain ⟨x, y, e⟩ := hTO
   exact .junk e
  ·refine (R.objs i q o hi ho').step (St []) N fun x hx ob ex => keep x ob (fun z => (free x z).1 (List.mem_flatMap.mpr ⟨q, List.mem_of_getElem? hi, hx⟩)) (fun z => ?_) ex
   subst z
   exact e (Ou R.nodup hi hp hx (by simp [Jk]))
noncomputable def Ox (e : Expr) : Bool := e.ctorIdx == 25
theorem tupE_of {t : Expr} (h : Ox t = true) : ∃ es k p, t = .Tuple es k p := Expr.Tuple.elim (motive_1 := fun t => ∃ es k p, t = .Tuple es k p) t (beq_iff_eq.mp h) fun es k p => ⟨es, k, p, rfl⟩
theorem zipT_at {xs : List PV} {y : Str} {i : Nat} {v : PV} (h : (((xs.zip (YD y)).map fun p => PV.tup [p.1, p.2]))[i]? = some v) : ∃ x c, xs[i]? = some x /\ y.cps[i]? = some c /\ v = .tup [x, .str ⟨#[c]⟩] := by
 rw [List.getElem?_map, Option.map_eq_some_iff] at h
 obtain ⟨p, e, rfl⟩ := h
 rw [List.getElem?_zip_eq_some] at e
 obtain ⟨c, h1, h2⟩ := signs_get e.2
 exact ⟨p.1, c, e.1, h1, by rw [h2]⟩
theorem zipT_none {xs : List PV} {y : Str} {i : Nat} (h : (((xs.zip (YD y)).map fun p => PV.tup [p.1, p.2]))[i]? = none) : xs[i]? = none \/ y.cps[i]? = none := by
 rw [List.getElem?_eq_none_iff, List.length_map, List.length_zip] at h
 have e : (YD y).length = y.cps.size := by simp [YD]
 rw [e] at h
 rcases Nat.lt_or_ge i xs.length with q | q
 ·right
  rw [Array.getElem?_eq_none_iff]
  lia
 ·left; simp [q]
structure JZ (X : Cx) (xs : List PV) (y : Str) (u : Tok) (z TI TO i1 i2 t : Addr) (items : Array Value) (k : Nat) (i : Nat) (h : Heap) (Z : Rho) : Prop where
 j1 : IsZip h z TI TO .none
 j2 : h.IsTuple TI #[.ref i1, .ref i2]
 j3 : h.IsTupleIter i1 t i
 j4 : Os h i2 y u i
 j5 : h.IsTuple t items
 j6 : t ∉ Je Z
 j7 : VReps h Z xs items.toList
 j8 : Z[k]? = some (TO, none)
 j9 : ∀ a, a ∈ [z, i1, i2] -> Ze X Z a
 j10 : TI ∉ Je Z
theorem mem3 {a x y z : Addr} (h : a ∈ [x, y, z]) : a = x \/ a = y \/ a = z := by
 rcases List.mem_cons.mp h with e | h
 ·exact .inl e
 rcases List.mem_cons.mp h with e | h
 ·exact .inr (.inl e)
 ·exact .inr (.inr (List.mem_singleton.mp h))
theorem jz_own {xs : List PV} {y : Str} {u : Tok} {z TI TO i1 i2 t : Addr} {items : Array Value} {k i : Nat} {h : Heap} (j : JZ X xs y u z TI TO i1 i2 t items k i h Z) : ∀ a, a ∈ [z, i1, i2] -> (∃ o, h.get? a = some o) /\ ∀ its, ¬ h.IsTuple a its := fun a ha => by
 obtain ⟨j1, j2, j3, j4, _⟩ := j
 rcases mem3 ha with e | e | e
 ·rw [e]; exact ⟨⟨_, j1⟩, Yc j1 (show Value.type "zip" ≠ Value.type "tuple" by decide)⟩
 ·rw [e]; exact ⟨(Exists.elim j3 fun o e => ⟨o, e.1⟩), JW j3 (by decide)⟩
 ·rw [e]; exact ⟨(Exists.elim j4 fun o e => ⟨o, e.1⟩), JW j4 (by decide)⟩
theorem not3 {c z i1 i2 : Addr} (h : c ∉ [z, i1, i2]) : c ≠ z /\ c ≠ i1 /\ c ≠ i2 := ⟨fun e => h (e ▸ List.mem_cons_self), fun e => h (e ▸ List.mem_cons_of_mem _ List.mem_cons_self), fun e => h (e ▸ List.mem_cons_of_mem _ (List.mem_cons_of_mem _ List.mem_cons_self))⟩
theorem at_zip {xs : List PV} {k i : Nat} {r : Option PV} (h : Src.at (.zip xs k) i U = some r) : U[k]? = some .junk /\ xs[i]? = r := by
 have h : (match U[k]? with
  | some .junk => some xs[i]?
  | _ => none) = some r := h
 cases ho : U[k]? with
 | none => rw [ho] at h; cases h
 | some o =>
  rw [ho] at h
  cases o with
  | junk => cases h; exact ⟨rfl, rfl⟩
  | _ => cases h
theorem wk_zip (hh : A.handled = none) {xs : List PV} {y : Str} {u : Tok} {z TI TO i1 i2 t : Addr} {items : Array Value} {k : Nat} (D : Ap z TI TO i1 i2 t) :
  Wk X A (.zip ((xs.zip (YD y)).map fun p => .tup [p.1, p.2]) k) (.ref z) [z, i1, i2] Ox (JZ X xs y u z TI TO i1 i2 t items k) where
 next := by
  intro i Z U s v jj Ir hv tgt Q E htgt kk
  obtain ⟨hj, hv⟩ := at_zip hv
  have N : JI [z, i1, i2] s.heap := fun a ha => (jz_own jj a ha).2
  obtain ⟨j1, j2, j3, j4, j5, j6, j7, j8, j9, j10⟩ := jj
  obtain ⟨x, c, hx, hc, rfl⟩ := zipT_at hv
  obtain ⟨w, hw, rw'⟩ := j7.get hx
  rw [Array.getElem?_toList] at hw
  have jk := Ir.objs _ _ _ j8 hj
  cases jk with
  | junk hTO =>
  have hT : s.TypeIs (.ref z) "zip" := ⟨_, j1, rfl⟩
  unfold pyNext
  refine wpAny_bind (wpAny_attempt (wpAny_callSpecial?_slot (name := Str.ofString "__next__") hT F.slot_zip_next
   (wpAny_call_entry F.slot_zip_next hT F.entry_zip_next (zip_item D j1 j2 hTO j3 j4 j5 hw hc fun h' j yv hyv a1 a2 a3 a4 a5 a6 => wpAny_pure ?_) (F.args_zip_next_1 _))))
  obtain ⟨yt, rfl⟩ := hyv
  show wpAny _ _ (letOwnedTupleGo tgt (.ref z) (.ref s.heap.objs.size)) _ _ _
  obtain ⟨es, kx, px, rfl⟩ := tupE_of htgt
  refine wpAny_letOwnedTupleGo_zip (s := { s with heap := h', toks := j }) a1 fun h2 b1 b2 => ?_
  have ku : ∀ c o, c ∉ [z, i1, i2] -> c ≠ TO -> s.heap.get? c = some o -> h2.get? c = some o := fun c o n1 n2 e =>
   b2.extBut _ _ (not3 n1).1 (a6 c o (not3 n1).1 n2 (not3 n1).2.1 (not3 n1).2.2 e)
  obtain ⟨R', St⟩ := chg Ir j9 N hj j8 ku ⟨w, .str ⟨#[c]⟩ yt, b2.extBut _ _ D.TOz a2⟩
  have hT2 : h2.IsTuple s.heap.objs.size #[w, .str ⟨#[c]⟩ yt] := ⟨_, b2.extBut _ _ (Nat.ne_of_gt (Heap.lt_size j1)) a5, rfl, 0, rfl⟩
  exact kk _ h2 j R' ⟨b1, JF (St []) j10 (JR N j2) j2, a3.extBut b2.extBut D.i1z, Op a4 b2.extBut D.i2z, JF (St []) j6 (JR N j5) j5, j6, j7.step (St []) N, j8, j9, j10⟩ St (.tup hT2 Ir.size_off (.cons (rw'.step (St []) N) (.cons (.str _ _) .nil)))
 fin := by
  intro i Z U s jj Ir hv Q E kk
  obtain ⟨hj, hv⟩ := at_zip hv
  have N : JI [z, i1, i2] s.heap := fun a ha => (jz_own jj a ha).2
  obtain ⟨j1, j2, j3, j4, j5, j6, j7, j8, j9, j10⟩ := jj
  have jk := Ir.objs _ _ _ j8 hj
  cases jk with
  | junk hTO =>
  have hend : items[i]? = none \/ y.cps[i]? = none := by
   rcases zipT_none hv with q | q
   ·exact .inl (Array.getElem?_eq_none (by rw [JU j7]; exact List.getElem?_eq_none_iff.mp q))
   ·exact .inr q
  have hT : s.TypeIs (.ref z) "zip" := ⟨_, j1, rfl⟩
  unfold pyNext
  refine wpAny_bind (wpAny_attempt (wpAny_callSpecial?_slot (name := Str.ofString "__next__") hT F.slot_zip_next
   (wpAny_call_entry F.slot_zip_next hT F.entry_zip_next (zip_end hh D j1 j2 hTO j3 j4 j5 hend fun h' e j a1 a2 a3 => ?_) (F.args_zip_next_1 _))))
  obtain ⟨o, ho, hc⟩ := a3
  refine wpAny_bind (wpAny_isInstance (T := "StopIteration") (b := true) ⟨o, ho, hc⟩ isSubtype_stop ?_)
  obtain ⟨R', St⟩ := chg Ir j9 N hj j8 (fun c o n1 n2 e => a1 c o (not3 n1).1 n2 (not3 n1).2.1 (not3 n1).2.2 e) a2
  exact wpAny_pure (kk h' j R' St)
 self := fun j Q E k => wpAny_pyIter_zip j.j1 k
 step := by
  intro i Z Z' h h' W fs jj T N hW
  obtain ⟨j1, j2, j3, j4, j5, j6, j7, j8, j9, j10⟩ := jj
  have kp : ∀ a o, a ∈ [z, i1, i2] -> h.get? a = some o -> h'.get? a = some o /\ Ze X Z' a := fun a o ha e => ⟨(T.keep a _ e (j9 a ha).1 (hW a ha).1).1 (hW a ha).2, T.offNew e (j9 a ha).1, (j9 a ha).2⟩
  have m2 : i1 ∈ [z, i1, i2] := List.mem_cons_of_mem _ List.mem_cons_self
  have m3 : i2 ∈ [z, i1, i2] := List.mem_cons_of_mem _ (List.mem_cons_of_mem _ List.mem_cons_self)
  have kz := kp z _ List.mem_cons_self j1
  obtain ⟨o1, e1, r1⟩ := j3
  obtain ⟨o2, e2, r2⟩ := j4
  have k1 := kp i1 _ m2 e1
  have k2 := kp i2 _ m3 e2
  refine ⟨kz.1, JF T j10 (JR N j2) j2, ⟨o1, k1.1, r1⟩, ⟨o2, k2.1, r2⟩, JF T j6 (JR N j5) j5, (Exists.elim j5 fun _ e => T.offNew e.1 j6), j7.step T N, Uo T j8, fun a ha => ?_, (Exists.elim j2 fun _ e => T.offNew e.1 j10)⟩
  rcases mem3 ha with e | e | e
  ·rw [e]; exact kz.2
  ·rw [e]; exact k1.2
  ·rw [e]; exact k2.2
 off := fun j a ha => ⟨(j.j9 a ha).1, jz_own j a ha⟩
noncomputable def YK (X : Cx) (C : SC) (lvl : Nat) (e : Expr) (ok : Expr -> Bool) (f : Fr -> St -> R Src) : Prop :=
 ∀ A fs env fr Z U s, At X C lvl A fs env fr Z U s -> f fr U ≠ .stuck ->
  wpAny (model X.prog X.w) A (eval e env) (fun x s1 => wpAny (model X.prog X.w) A (pyIter x) (Post X [] fs Z s (ItRel X A ok s.heap) (f fr U)) (PostX X A [] fs Z s (f fr U)) s1) (PostX X A [] fs Z s (f fr U)) s
theorem ItRel.mono {ok : Expr -> Bool} {h0 h1 h : Heap} {src : Src} {it : Value} (r : ItRel X A ok h1 h Z src it) (k : ∀ a, h1.get? a = none -> h0.get? a = none) : ItRel X A ok h0 h Z src it := by
 obtain ⟨own, J, w, j, f⟩ := r
 exact ⟨own, J, w, j, fun a ha => k a (f a ha)⟩
set_option tactic.hygienic true in
theorem src_any {e : Expr} {ie : IE} {ev : Fr -> IE -> St -> R PV} (h : EOk X C lvl e fun fr U => ev fr ie U) : YK X C lvl e OC fun fr U => (Jo (ev fr) [ie] U).bind fun vs U => Zd 0 vs U := fun A fs env fr Z U s a ns => by
 change (Jo (ev fr) [ie] U).bind _ ≠ _ at ns
 show wpAny _ _ _ (fun x s1 => wpAny _ _ (pyIter x) (Post X [] fs Z s (ItRel X A OC s.heap) ((Jo (ev fr) [ie] U).bind _)) (PostX X A [] fs Z s ((Jo (ev fr) [ie] U).bind _)) s1) (PostX X A [] fs Z s ((Jo (ev fr) [ie] U).bind _)) s
 rw [Yv] at ns ⊢
 have n1 : ev fr ie U ≠ .stuck := fun q => by rw [q] at ns; exact ns rfl
 refine wpAny_mono (h _ _ _ _ _ _ _ a n1) (fun u s1 p => ?_) fun x s1 p => ?_
 ·obtain ⟨v, U1, Z1, q1, q2, q3, q4, q5⟩ := p
  change ev fr ie U = _ at q1
  rw [q1] at ns ⊢
  have e0 : (((R.ok v U1).bind fun v U => R.ok [v] U).bind fun vs U => Zd 0 vs U) = src0 v U1 := rfl
  rw [e0] at ns ⊢
  refine wpAny_mono (pyIter_ok (fs := fs) (a.next q3 q5).ar.hd q3 q4 ns) (fun it s2 p => ?_) fun x s2 p => p.from q2 q5
  obtain ⟨src, U2, Z2, w1, w2, w3, w4, w5⟩ := p
  refine ⟨src, U2, Z2, w1, q2.trans w2, w3, w4.mono fun b hb => ?_, q5.trans w5⟩
  cases e : s.heap.get? b with
  | none => rfl
  | some o => obtain ⟨o', e'⟩ := q5.there b o e (by simp); rw [e'] at hb; cases hb
 ·exact p.res fun _ _ w1 => by change ev fr ie U = _ at w1; rw [w1]; rfl
theorem zip_boot : bootBuiltins "zip" = some (.type "zip") := by kernel_rfl
theorem range_boot : bootBuiltins "range" = some (.type "range") := by kernel_rfl
theorem rng_new {n : Int} (h0 : 0 ≤ n) : Builtin.Range.rangeSize 0 n 1 = n - (0 : Nat) := by
 rw [rangeSize_one]; split <;> lia
theorem range_it {n : Int} {t : Tok} {r : R Src} (hh : A.handled = none) (I : Rp X Z U s.heap) (hr : (if 0 ≤ n /\ n ≤ 100000 then .ok (.imm (OB n)) U else .stuck) = r) (ns : r ≠ .stuck) :
  wpAny (model X.prog X.w) A (call (.type "range") [.int n t]) (fun x s1 => wpAny (model X.prog X.w) A (pyIter x) (Post X [] fs Z s (ItRel X A OC s.heap) r) (PostX X A [] fs Z s r) s1) (PostX X A [] fs Z s r) s := by
 by_cases hz : 0 ≤ n /\ n ≤ 100000
 ·rw [if_pos hz] at hr
  subst hr
  refine call_range_1 ?_
  have kp := Jx s.heap { cls := .type "range", data := .fields #[.int 0 s.toks, .int n t, .int 1 (s.toks + 1)] }
  refine wpAny_pyIter_range (s := { s with heap := s.heap.push { cls := .type "range", data := .fields #[.int 0 s.toks, .int n t, .int 1 (s.toks + 1)] }, toks := s.toks + 1 + 1 }) (IsRange.new _ _ _ _ _ _ _) (small_one (by lia) (by lia) (by lia) (by lia)) ?_
  have kp2 := Jx (s.heap.push { cls := .type "range", data := .fields #[.int 0 s.toks, .int n t, .int 1 (s.toks + 1)] }) { cls := .type "range_iterator", data := .fields #[rawInt 0, rawInt (Builtin.Range.rangeSize 0 n 1), rawInt 1] }
  have kk := fun b o e => kp2 b o (kp b o e)
  have no : s.heap.get? (s.heap.push { cls := .type "range", data := .fields #[.int 0 s.toks, .int n t, .int 1 (s.toks + 1)] }).objs.size = none := get?_oob (Nat.le_trans (Nat.le_succ _) (Nat.le_of_eq (Heap.size_push ..).symm))
  refine ⟨_, _, Z, rfl, ⟨_, _, rfl⟩, I.keeps kk, ⟨[_], _, wk_range hh, ⟨?_, I.offNew no, JC I.base no⟩, fun b hb => by rw [List.mem_singleton.mp hb]; exact no⟩, Step.of_keeps kk⟩
  show Heap.get? _ _ = _
  rw [Heap.get?_push_size _ rfl, rng_new hz.1]
  rfl
 ·rw [if_neg hz] at hr; exact absurd hr.symm ns
set_option tactic.hygienic true in
theorem src_range (O : SOk X S) {np pos : Pos} {e : Expr} {ie : IE} {ev : Fr -> IE -> St -> R PV} (hs : Jl e = true) (hk : C.names.lookup ("range" : Str) = some .globalImplicit) (hn : ("range" : Str) ∈ S.bnames) (h : EOk X C lvl e fun fr U => ev fr ie U) :
  YK X C lvl (.Call (.Name "range" np) [e] [] pos) OC fun fr U => (Jo (ev fr) [ie] U).bind fun vs U => Zd 1 vs U := fun A fs env fr Z U s a ns => by
 change (Jo (ev fr) [ie] U).bind _ ≠ _ at ns
 show wpAny _ _ _ (fun x s1 => wpAny _ _ (pyIter x) (Post X [] fs Z s (ItRel X A OC s.heap) ((Jo (ev fr) [ie] U).bind _)) (PostX X A [] fs Z s ((Jo (ev fr) [ie] U).bind _)) s1) (PostX X A [] fs Z s ((Jo (ev fr) [ie] U).bind _)) s
 rw [Yv] at ns ⊢
 have n1 : ev fr ie U ≠ .stuck := fun q => by rw [q] at ns; exact ns rfl
 rw [JS (by intro x hx; rw [List.mem_singleton.mp hx]; exact hs)]
 refine wpAny_bind (UA a (by decide) hk (O.none _ hn) range_boot (by decide) _ _ fun j => ?_)
 have a' : At X C lvl A fs env fr Z U { s with toks := j } := a.next (s' := { s with toks := j }) a.I Step.refl
 refine callWith_of (P := fun _ => True) (by simp) (fun h _ => ⟨.machine, .inr (.inl rfl), Looks.of_pure rfl⟩) ?_
 refine Calls.evalArgs_plain (Calls.spliced_cons (wpAny_mono (h _ _ _ _ _ _ _ a' n1) (fun u s1 p => Calls.spliced_nil ⟨trivial, ?_⟩) fun x s1 p => ?_))
 ·obtain ⟨v, U1, Z1, q1, q2, q3, q4, q5⟩ := p
  change ev fr ie U = _ at q1
  rw [q1] at ns ⊢
  cases q4 with
  | int n t =>
   have q2 : Ext s s1 := Ext.trans (s' := { s with toks := j }) ⟨s.heap, j, rfl⟩ q2
   have ns : Zd 1 [.int n] U1 ≠ .stuck := ns
   show wpAny _ _ _ (fun x s1 => wpAny _ _ (pyIter x) (Post X [] fs Z s (ItRel X A OC s.heap) (Zd 1 [.int n] U1)) (PostX X A [] fs Z s (Zd 1 [.int n] U1)) s1) (PostX X A [] fs Z s (Zd 1 [.int n] U1)) s1
   refine wpAny_mono (range_it (fs := fs) (a'.next q3 q5).ar.hd q3 rfl ns) (fun it s2 p => wpAny_mono p (fun x s3 p => ?_) fun x s3 p => p.from q2 q5) fun x s2 p => p.from q2 q5
   obtain ⟨src, U2, Z2, w1, w2, w3, w4, w5⟩ := p
   refine ⟨src, U2, Z2, w1, q2.trans w2, w3, w4.mono fun b hb => ?_, q5.trans w5⟩
   cases e : s.heap.get? b with
   | none => rfl
   | some o => obtain ⟨o', e'⟩ := q5.there b o e List.not_mem_nil; rw [e'] at hb; cases hb
  | _ => exact absurd rfl ns
 ·exact (p.res fun _ _ w1 => by change ev fr ie U = _ at w1; rw [w1]; rfl).from ⟨_, j, rfl⟩ Step.refl
theorem ap_new {n t : Addr} (h : t < n) : Ap (n + 4) (n + 2) (n + 3) n (n + 1) t where
 TIz := Nat.ne_of_lt (Nat.add_lt_add_left (by decide) n)
 TOz := Nat.ne_of_lt (Nat.add_lt_add_left (by decide) n)
 i1z := Nat.ne_of_lt (Nat.lt_add_of_pos_right (by decide))
 i2z := Nat.ne_of_lt (Nat.add_lt_add_left (by decide) n)
 TITO := Nat.ne_of_lt (Nat.add_lt_add_left (by decide) n)
 TIi1 := Nat.ne_of_gt (Nat.lt_add_of_pos_right (by decide))
 TIi2 := Nat.ne_of_gt (Nat.add_lt_add_left (by decide) n)
 TOi1 := Nat.ne_of_gt (Nat.lt_add_of_pos_right (by decide))
 TOi2 := Nat.ne_of_gt (Nat.add_lt_add_left (by decide) n)
 i12 := Nat.ne_of_lt (Nat.lt_add_of_pos_right (by decide))
 tz := Nat.ne_of_lt (Nat.lt_of_lt_of_le h (Nat.le_add_right n 4))
 tTO := Nat.ne_of_lt (Nat.lt_of_lt_of_le h (Nat.le_add_right n 3))
 ti1 := Nat.ne_of_lt h
 ti2 := Nat.ne_of_lt (Nat.lt_of_lt_of_le h (Nat.le_add_right n 1))
set_option tactic.hygienic true in
theorem zip_args {vs : List PV} {us : List Value} (r : VReps s.heap Z vs us) (ns : Zd 2 vs U ≠ .stuck) : ∃ xs y t items u, vs = [.tup xs, .str y] /\ us = [.ref t, .str y u] /\ s.heap.IsTuple t items /\ t ∉ Je Z /\ VReps s.heap Z xs items.toList /\ ZP y = true := by
 cases r with
 | nil => exact absurd rfl ns
 | cons r1 r =>
 cases r with
 | nil => exact absurd rfl ns
 | cons r2 r =>
 cases r with
 | cons _ _ => exact absurd rfl ns
 | nil =>
  rename_i v u1 w u2
  have ns : src2 v w U ≠ .stuck := ns
  unfold src2 at ns
  cases hv : asTup v with
  | none => rw [hv] at ns; exact absurd rfl ns
  | some xs =>
  cases hw : Oq w with
  | none => rw [hv, hw] at ns; exact absurd rfl ns
  | some y =>
  rw [hv, hw] at ns
  obtain ⟨t, items, rfl, ht, no, rr⟩ := (UC hv ▸ r1).inv
  obtain ⟨u, rfl⟩ := (YG hw ▸ r2).inv
  refine ⟨xs, y, t, items, u, by rw [UC hv, YG hw], rfl, ht, no, rr, ?_⟩
  by_cases ha : ZP y = true
  ·exact ha
  ·exact absurd (if_neg ha) ns
set_option tactic.hygienic true in
theorem src_zip (O : SOk X S) {np pos : Pos} {e1 e2 : Expr} {i1 i2 : IE} {ev : Fr -> IE -> St -> R PV} (hs1 : Jl e1 = true) (hs2 : Jl e2 = true) (hk : C.names.lookup ("zip" : Str) = some .globalImplicit) (hn : ("zip" : Str) ∈ S.bnames)
  (h1 : EOk X C lvl e1 fun fr U => ev fr i1 U) (h2 : EOk X C lvl e2 fun fr U => ev fr i2 U) :
  YK X C lvl (.Call (.Name "zip" np) [e1, e2] [] pos) Ox fun fr U => (Jo (ev fr) [i1, i2] U).bind fun vs U => Zd 2 vs U := fun A fs env fr Z U s a ns => by
 change ((Jo (ev fr) [i1, i2] U).bind fun vs U => Zd 2 vs U) ≠ .stuck at ns
 show wpAny _ _ _ (fun x s1 => wpAny _ _ (pyIter x) (Post X [] fs Z s (ItRel X A Ox s.heap) ((Jo (ev fr) [i1, i2] U).bind fun vs U => Zd 2 vs U)) (PostX X A [] fs Z s ((Jo (ev fr) [i1, i2] U).bind fun vs U => Zd 2 vs U)) s1) (PostX X A [] fs Z s ((Jo (ev fr) [i1, i2] U).bind fun vs U => Zd 2 vs U)) _
 have n1 : Jo (ev fr) [i1, i2] U ≠ .stuck := fun q => by rw [q] at ns; exact ns rfl
 rw [JS (by intro x hx; simp at hx; rcases hx with rfl | rfl; exact hs1; exact hs2)]
 refine wpAny_bind (UA a (by decide) hk (O.none _ hn) zip_boot (by decide) _ _ fun j => ?_)
 have a' : At X C lvl A fs env fr Z U { s with toks := j } := a.next (s' := { s with toks := j }) a.I Step.refl
 refine callWith_of (P := fun _ => True) (by simp) (fun h _ => ⟨.machine, .inr (.inl rfl), Looks.of_pure rfl⟩) ?_
 refine Calls.evalArgs_plain (wpAny_mono (YV (.cons h1 (.cons h2 .nil)) a' n1) (fun us s1 p => ⟨trivial, ?_⟩) fun x s1 p => ?_)
 ·obtain ⟨vs, U1, Z1, q1, q2, q3, q4, q5⟩ := p
  rw [q1] at ns ⊢
  have e0 : ((R.ok vs U1).bind fun vs U => Zd 2 vs U) = Zd 2 vs U1 := rfl
  rw [e0] at ns ⊢
  obtain ⟨xs, y, t, items, u, rfl, rfl, ht, no, rr, ha⟩ := zip_args q4 ns
  rw [show Zd 2 [.tup xs, .str y] U1 = _ from if_pos ha]
  refine call_zip' ht ha fun h' z1 z2 z3 z4 z5 kk => ?_
  refine wpAny_pyIter_zip (s := { s1 with heap := h' }) z1 ?_
  have nn : ∀ n, s1.heap.get? (s1.heap.objs.size + n) = none := fun n => get?_oob (Nat.le_add_right _ _)
  have tl : t < s1.heap.objs.size := by obtain ⟨o, e, _⟩ := ht; exact Heap.lt_size e
  have D : Ap (s1.heap.objs.size + 4) (s1.heap.objs.size + 2) (s1.heap.objs.size + 3) s1.heap.objs.size (s1.heap.objs.size + 1) t := ap_new tl
  have hn3 : ∀ b, b ∈ Jk (s1.heap.objs.size + 3, (none : Option Addr)) -> s1.heap.get? b = none := fun b q => by simp [Jk] at q; subst q; exact nn 3
  have I2 : Rp X (Z1 ++ [(s1.heap.objs.size + 3, none)]) (U1 ++ [.junk]) h' := q3.grow kk hn3 (by simp [Jk]) fun S' => .junk z3
  have T2 : Step [] fs Z1 (Z1 ++ [(s1.heap.objs.size + 3, none)]) s1.heap h' := Step.grow kk fun b q => hn3 b (by simpa [Je] using q)
  have free : ∀ n, n ≠ 3 -> Ze X (Z1 ++ [(s1.heap.objs.size + 3, none)]) (s1.heap.objs.size + n) := fun n hne => by
   refine ⟨fun q => ?_, JC q3.base (nn n)⟩
   rw [Yl] at q
   rcases List.mem_append.mp q with q | q
   ·exact q3.offNew (nn n) q
   ·have q' : s1.heap.objs.size + n = s1.heap.objs.size + 3 := List.mem_singleton.mp q
    exact hne (Nat.add_left_cancel q')
  refine ⟨_, U1 ++ [.junk], Z1 ++ [(s1.heap.objs.size + 3, none)], rfl, ?_, I2, ⟨[s1.heap.objs.size + 4, s1.heap.objs.size, s1.heap.objs.size + 1], _, wk_zip (a'.next q3 q5).ar.hd D, ⟨z1, ⟨_, z2, rfl, 0, rfl⟩, z4, z5, ?_, ?_, rr.step T2 Ja, ?_, ?_, (free 2 (by decide)).1⟩, ?_⟩, q5.trans T2⟩
  ·obtain ⟨hh, tt, rfl⟩ := q2
   exact ⟨_, _, rfl⟩
  ·obtain ⟨o, e, r⟩ := ht; exact ⟨o, kk _ o e, r⟩
  ·obtain ⟨o, e, r⟩ := ht; exact T2.offNew e no
  ·rw [← q3.len]; simp
  ·intro b hb
   simp at hb
   rcases hb with rfl | rfl | rfl
   ·exact free 4 (by decide)
   ·exact free 0 (by decide)
   ·exact free 1 (by decide)
  ·intro b hb
   have hb1 : s1.heap.get? b = none := by
    simp at hb
    rcases hb with rfl | rfl | rfl
    ·exact nn 4
    ·exact nn 0
    ·exact nn 1
   cases e : s.heap.get? b with
   | none => rfl
   | some o => obtain ⟨o', e'⟩ := q5.there _ o e (by simp); rw [hb1] at e'; cases e'
 ·exact (p.res fun _ _ w1 => by rw [w1]; rfl).from ⟨_, j, rfl⟩ Step.refl
end
section
variable {X : Cx} {S : SX} {C : SC} {lvl : Nat} {A : Around} {W fs : List Addr} {env : Env} {Γ : List (Str × Nat)} {fr : Fr} {Z Z' : Rho} {U U' : St} {s s' : Shared}
theorem FrR.free (F : FrR X Γ env fr Z s.heap) {a : Addr} (ha : a ∈ Jb env) : Ze X Z a := ⟨(F.off a ha).1, (F.off a ha).2.1⟩
theorem Zh {fr : Fr} {i j : Nat} {v v' : PV} (h : (fr.set i (some v))[j]? = some (some v')) : (j = i /\ v' = v) \/ (j ≠ i /\ fr[j]? = some (some v')) := by
 by_cases e : j = i
 ·have hl : j < fr.length := by
   have := (List.getElem?_eq_some_iff.mp h).1
   rw [List.length_set] at this
   exact this
  rw [e] at h hl
  rw [List.getElem?_set_self hl] at h
  cases h
  exact .inl ⟨e, rfl⟩
 ·rw [List.getElem?_set_ne (Ne.symm e)] at h
  exact .inr ⟨e, h⟩
theorem Om {h : Heap} {a : Addr} {m : Str -> Option Value} (hn : h.Ns a m) : ∃ o, h.get? a = some o /\ (∀ xs n, o.data ≠ .seq xs n) /\ ∀ vs, o.data ≠ .fields vs := by
 obtain ⟨o, es, ep, ho, hd, r⟩ := hn
 exact ⟨o, ho, fun _ _ => (by rw [hd]; simp), fun _ => (by rw [hd]; simp)⟩
theorem cell_data {h : Heap} {a : Addr} {m : Option Value} (hn : h.IsCell a m) : ∃ o, h.get? a = some o /\ (∀ xs n, o.data ≠ .seq xs n) /\ ∀ vs, o.data ≠ .fields vs := by
 obtain ⟨o, ho, hd⟩ := hn
 exact ⟨o, ho, fun _ _ => (by rw [hd]; simp), fun _ => (by rw [hd]; simp)⟩
theorem Yg (I : Rp X Z U s.heap) (F : FrR X Γ env fr Z s.heap) {n : Str} {i : Nat} (hm : (n, i) ∈ Γ) (nf : env.kindOf n ≠ some .free) {v : PV} {u : Value} (r : VRep s.heap Z v u) {Q : Unit -> Shared -> Prop} {E : Value -> Shared -> Prop}
  (h : ∀ h' k a, a ∈ Jb env -> (env.kindOf n = some .local -> a = env.locals) -> Rp X Z U h' -> FrR X Γ env (fr.set i (some v)) Z h' -> (∀ W fs, a ∈ W -> Step W fs Z Z s.heap h') -> Q () { s with heap := h', toks := k }) :
  wpAny (model X.prog X.w) A (bindName env n u) Q E s := by
 have same : ∀ a, a ∈ Jb env -> ∀ h', Heap.SameBut a s.heap h' -> (∃ o, h'.get? a = some o /\ (∀ xs n, o.data ≠ .seq xs n) /\ ∀ vs, o.data ≠ .fields vs) ->
   (∀ W fs, a ∈ W -> Step W fs Z Z s.heap h') /\ JI [a] s.heap /\ Rp X Z U h' /\ (∀ b, b ∈ Jb env -> b ∉ Je Z /\ X.base.get? b = none /\ ∃ o, h'.get? b = some o /\ (∀ xs n, o.data ≠ .seq xs n) /\ ∀ vs, o.data ≠ .fields vs) := fun a ha h' hs ht => by
  have nt : ∀ items, ¬ s.heap.IsTuple a items := F.noSeq a ha
  refine ⟨fun W fs hW => Step.turn (.inr hW) hs (Exists.elim ht fun o e => ⟨o, e.1⟩), fun b hb => by simp at hb; subst hb; exact nt, I.extBut (F.free ha) nt hs.extBut, fun b hb => ?_⟩
  obtain ⟨q1, q2, o, q3, q4⟩ := F.off b hb
  refine ⟨q1, q2, ?_⟩
  by_cases e : b = a
  ·subst e; exact ht
  ·exact ⟨o, (hs.2 b e).trans q3, q4⟩
 refine wpAny_bindName ?_
 rcases F.kinds n i hm with hk | hk | hk
 ·obtain ⟨m, hn, r1⟩ := F.ns
  refine wpAny_storeName_local hk hn (fun h' hn' hs => ?_) (by rw [F.kind]; rfl)
  obtain ⟨S1, N1, I1, O1⟩ := same env.locals (by simp [Jb]) h' hs (Om hn')
  have St := S1 [env.locals] [] (by simp)
  refine h h' _ env.locals (by simp [Jb]) (fun _ => rfl) I1 ⟨F.kind, F.glob, F.bi, F.kinds, F.inj, F.one, ⟨_, hn', fun n' i' hi hk' v' hv => ?_⟩, fun n' i' hi hk' => ?_, O1, F.apart, F.once⟩ S1
  ·rcases Zh hv with ⟨rfl, rfl⟩ | ⟨ne, hv⟩
   ·cases F.inj _ _ _ hi hm
    exact ⟨u, by simp, r.step St N1⟩
   ·have : n' ≠ n := fun e => by subst e; exact ne (F.one _ _ _ hi hm)
    obtain ⟨u', e1, e2⟩ := r1 n' i' hi hk' v' hv
    exact ⟨u', by rw [if_neg this]; exact e1, e2.step St N1⟩
  ·obtain ⟨c, cur, hc, hcell, r2⟩ := F.cells n' i' hi hk'
   have hca : c ≠ env.locals := fun e => F.apart (e ▸ List.mem_map.mpr ⟨_, Ji hc, rfl⟩)
   refine ⟨c, cur, hc, hcell.sameBut hs hca, fun v' hv => ?_⟩
   rcases Zh hv with ⟨rfl, rfl⟩ | ⟨ne, hv⟩
   ·cases F.inj _ _ _ hi hm
    rw [hk] at hk'
    rcases hk' with hk' | hk' <;> cases hk'
   ·obtain ⟨u', e1, e2⟩ := r2 v' hv
    exact ⟨u', e1, e2.step St N1⟩
 ·obtain ⟨c, cur, hc, hcell, r0⟩ := F.cells n i hm (.inl hk)
  have hcm : c ∈ Jb env := by simp [Jb]; exact .inr ⟨n, Ji hc⟩
  have hcl : env.locals ≠ c := fun e => F.apart (e ▸ List.mem_map.mpr ⟨_, Ji hc, rfl⟩)
  refine wpAny_storeName_cell F.kind hk hc hcell fun h' hc' hs => ?_
  obtain ⟨S1, N1, I1, O1⟩ := same c hcm h' hs (cell_data hc')
  have St := S1 [c] [] (by simp)
  refine h h' s.toks c hcm (fun e => by rw [hk] at e; cases e) I1 ⟨F.kind, F.glob, F.bi, F.kinds, F.inj, F.one, ?_, fun n' i' hi hk' => ?_, O1, F.apart, F.once⟩ S1
  ·obtain ⟨m, hn, r1⟩ := F.ns
   refine ⟨m, Gh hn fun o ho => ⟨o.slots, (hs.2 _ hcl).trans ho⟩, fun n' i' hi hk' v' hv => ?_⟩
   rcases Zh hv with ⟨rfl, rfl⟩ | ⟨ne, hv⟩
   ·cases F.inj _ _ _ hi hm
    rw [hk] at hk'; cases hk'
   ·obtain ⟨u', e1, e2⟩ := r1 n' i' hi hk' v' hv
    exact ⟨u', e1, e2.step St N1⟩
  ·obtain ⟨c', cur', hcc, hcell', r2⟩ := F.cells n' i' hi hk'
   by_cases e : n' = n
   ·subst e
    rw [hc] at hcc
    cases hcc
    cases F.one _ _ _ hi hm
    refine ⟨c, _, hc, hc', fun v' hv => ?_⟩
    rcases Zh hv with ⟨_, rfl⟩ | ⟨ne, hv⟩
    ·exact ⟨u, rfl, r.step St N1⟩
    ·exact absurd rfl ne
   ·have hne : c' ≠ c := fun q => e (F.once n' n c (q ▸ Ji hcc) (Ji hc))
    refine ⟨c', cur', hcc, hcell'.sameBut hs hne, fun v' hv => ?_⟩
    rcases Zh hv with ⟨rfl, rfl⟩ | ⟨ne, hv⟩
    ·exact absurd (F.inj _ _ _ hi hm) e
    ·obtain ⟨u', e1, e2⟩ := r2 v' hv
     exact ⟨u', e1, e2.step St N1⟩
 ·exact absurd hk nf
theorem draw_list {it t : Addr} {items : Array Value} (hne : t ≠ it) : ∀ (n i : Nat) (s : Shared) (Q : List Value -> Shared -> Prop) (E : Value -> Shared -> Prop), s.heap.IsListIter it t i -> s.heap.IsList t items -> i + n ≤ items.size ->
  (∀ h', h'.IsListIter it t (i + n) -> Heap.SameBut it s.heap h' -> Q ((items.toList.drop i).take n) { s with heap := h' }) -> wpAny (model X.prog X.w) A (draw (.ref it) n) Q E s := by
 intro n
 induction n with
 | zero => intro i s Q E hit _ _ hQ; exact wpAny_pure (hQ s.heap hit (Heap.SameBut.refl ..))
 | succ n ih =>
  intro i s Q E hit ht hle hQ
  have hlt : i < items.size := by lia
  show wpAny _ _ (pyNext (.ref it) >>= _) Q E s
  refine wpAny_bind (wpAny_pyNext_list_item hit ht (x := items[i]) (Array.getElem?_eq_getElem hlt) fun h₁ hit₁ hs₁ => ?_)
  refine wpAny_bind (wpAny_holding (ih (i + 1) _ _ _ hit₁ (ht.extBut hs₁.extBut hne) (by lia) fun h₂ hit₂ hs₂ => wpAny_pure ?_))
  have hd : items.toList.drop i = items[i] :: items.toList.drop (i + 1) := List.drop_eq_getElem_cons (by rw [Array.length_toList]; exact hlt)
  have := hQ h₂ (by rw [show i + (n + 1) = i + 1 + n by lia]; exact hit₂) (hs₁.trans hs₂)
  rw [hd, List.take_succ_cons] at this
  exact this
theorem UH {t : Addr} {items : Array Value} {Q : List Value -> Shared -> Prop} {E : Value -> Shared -> Prop} (hh : A.handled = none) (ht : s.heap.IsList t items)
  (hQ : ∀ h', Heap.ExtBut s.heap.objs.size s.heap h' -> Q items.toList { s with heap := h' }) : wpAny (model X.prog X.w) A (unpackItems (.ref t) items.size none) Q E s := by
 have hlt : t ≠ s.heap.objs.size := by obtain ⟨o, ho, _⟩ := ht; exact Nat.ne_of_lt (Heap.lt_size ho)
 unfold unpackItems
 refine wpAny_bind ?_
 ·unfold notIterableAtAll
  refine wpAny_bind (wpAny_specialOf ht.typeIs slot_list_iter.lookup ?_)
  refine wpAny_pure ?_
  simp only [Bool.false_eq_true, if_false]
  refine wpAny_bind (wpAny_holding (wpAny_pyIter_list ht ?_))
  refine wpAny_bind (wpAny_holding (draw_list hlt items.size 0 _ _ _ ⟨_, Heap.get?_push_size _ rfl, rfl, rfl⟩ (ht.push _) (by lia) fun h₁ hit₁ hs₁ => ?_))
  have hall : List.take items.size (List.drop 0 items.toList) = items.toList := by
   rw [List.drop_zero]; exact List.take_of_length_le (by simp)
  rw [hall]
  rw [if_neg (by simp)]
  have ht₁ : h₁.IsList t items := (ht.push _).extBut hs₁.extBut hlt
  refine wpAny_bind (wpAny_holding (wpAny_pyNext_list_end hh hit₁ ht₁ (by simp) fun h₂ he₂ => ?_))
  simp only [Option.isSome_none, Bool.false_eq_true, if_false]
  refine wpAny_pure (hQ h₂ fun b o hb e => he₂ b o hb (hs₁.extBut b o hb (Heap.get?_push_of_some _ e)))
set_option tactic.hygienic true in
theorem YU (hh : A.handled = none) (I : Rp X Z U s.heap) {v : PV} {u : Value} (r : VRep s.heap Z v u) {vs : List PV} (hv : Yy U v = some vs) {Q : List Value -> Shared -> Prop} {E : Value -> Shared -> Prop}
  (h : ∀ us h', us.length = vs.length -> Rp X Z U h' -> (∀ W fs, Step W fs Z Z s.heap h') -> VReps h' Z vs us -> Q us { s with heap := h' }) : wpAny (model X.prog X.w) A (unpackItems u vs.length none) Q E s := by
 have kp : ∀ h', Heap.ExtBut s.heap.objs.size s.heap h' -> ∀ b o, s.heap.get? b = some o -> h'.get? b = some o := fun h' hs b o e => hs b o (Nat.ne_of_lt (Heap.lt_size e)) e
 have St : ∀ h', Heap.ExtBut s.heap.objs.size s.heap h' -> ∀ W fs, Step W fs Z Z s.heap h' := fun h' hs W fs => Step.of_keeps (kp h' hs)
 have i := r.inv
 cases v with
 | tup xs =>
  obtain ⟨_, _, rfl, ht, no, rr⟩ := i
  cases hv
  rw [← JU rr]
  exact wpAny_unpackItems_tuple hh ht fun h' hs => h _ h' (by rw [rr.length]) (I.keeps (kp h' hs)) (St h' hs) (rr.step (St h' hs [] []) Ja)
 | loc l =>
  obtain ⟨p, rfl, hp⟩ := i
  obtain ⟨items, pl, rr⟩ := JB I hp (On hv)
  rw [← JU rr]
  exact UH hh (Jg pl) fun h' hs => h _ h' (by rw [rr.length]) (I.keeps (kp h' hs)) (St h' hs) (rr.step (St h' hs [] []) Ja)
 | _ => cases hv
noncomputable def TRel (X : Cx) (C : SC) (env : Env) : Heap -> Rho -> Fr -> Unit -> Prop := fun h Z fr' _ => FrR X C.Γ env fr' Z h
noncomputable def TOk (X : Cx) (C : SC) (lvl : Nat) (t : Expr) (f : Fr -> PV -> St -> R Fr) : Prop :=
 ∀ A fs env fr Z U s v u, At X C lvl A fs env fr Z U s -> VRep s.heap Z v u -> Ok X A (Jb env) fs Z s (TRel X C env) (assign t env u) (f fr v U)
theorem At.nextW {fr' : Fr} (a : At X C lvl A fs env fr Z U s) (I : Rp X Z' U' s'.heap) (F : FrR X C.Γ env fr' Z' s'.heap) (T : Step (Jb env) fs Z Z' s.heap s'.heap) : At X C lvl A fs env fr' Z' U' s' :=
 ⟨I, F, a.names, a.ar.step T fun L _ hW => (Exists.elim (F.off L hW).2.2 fun o e => ⟨o, e.1, e.2.2, e.2.1⟩), a.rm, a.cd⟩
theorem At.noSeq (a : At X C lvl A fs env fr Z U s) : JI (Jb env) s.heap := a.F.noSeq
theorem At.thereW (a : At X C lvl A fs env fr Z U s) : ∀ b, b ∈ Jb env -> ∃ o, s.heap.get? b = some o := fun b hb => Exists.elim (a.F.off b hb).2.2 fun o e => ⟨o, e.1⟩
theorem Ok.widen {α β : Type} {rel : Heap -> Rho -> α -> β -> Prop} {t : Sem β} {r : R α} (ht : ∀ a, a ∈ W -> ∃ o, s.heap.get? a = some o) (h : Ok X A [] fs Z s rel t r) : Ok X A W fs Z s rel t r := fun ns =>
 wpAny_mono (h ns) (fun b s' p => by obtain ⟨a, U', Z', h1, h2, h3, h4, h5⟩ := p; exact ⟨a, U', Z', h1, h2, h3, h4, h5.mono (fun _ q => nomatch q) ht⟩)
  fun e s' p => by obtain ⟨c, U', Z', h₁, a, h1, h2, h3, h4, h5, h6⟩ := p; exact ⟨c, U', Z', h₁, a, h1, h2, h3, h4, h5.mono (fun _ q => nomatch q) ht, h6⟩
theorem Ok.bind_ {α β γ δ : Type} {t : Sem β} {k : β -> Sem δ} {m : R α} {f : α -> St -> R γ} {rel : Heap -> Rho -> α -> β -> Prop} {rel' : Heap -> Rho -> γ -> δ -> Prop} (h1 : Ok X A [] fs Z s rel t m) (ht : ∀ a, a ∈ W -> ∃ o, s.heap.get? a = some o)
  (h2 : ∀ a U' Z' b s', m = .ok a U' -> Ext s s' -> Rp X Z' U' s'.heap -> rel s'.heap Z' a b -> Step [] fs Z Z' s.heap s'.heap -> Ok X A W fs Z' s' rel' (k b) (f a U')) :
  Ok X A W fs Z s rel' (t >>= k) (m.bind f) := by
 cases m with
 | stuck => exact .stuck
 | ok a U' =>
  intro ns
  refine wpAny_bind (wpAny_mono (h1 (fun q => nomatch q)) (fun b s' p => ?_) fun e s' p => ?_)
  ·obtain ⟨a', U'', Z', e1, e2, e3, e4, e5⟩ := p
   cases e1
   have e6 := e5.mono (fun _ q => nomatch q) ht
   exact wpAny_mono (h2 a U' Z' b s' rfl e2 e3 e4 e5 ns) (fun _ _ q => q.from e2 e6) fun _ _ q => q.from e2 e6
  ·obtain ⟨c, U'', _, _, _, e1, _⟩ := p
   cases e1
 | exc c U' =>
  intro _
  refine wpAny_bind (wpAny_mono (h1 (fun q => nomatch q)) (fun b s' p => ?_) fun e s' p => ?_)
  ·obtain ⟨a', U'', Z', e1, _⟩ := p
   cases e1
  ·obtain ⟨c', U'', Z', h₁, a, e1, e2, e3, e4, e5, e6⟩ := p
   cases e1
   exact ⟨c, U', Z', h₁, a, rfl, e2, e3, e4, e5.mono (fun _ q => nomatch q) ht, e6⟩
theorem bind_ok {n : Str} {i : Nat} {v : PV} {u : Value} (a : At X C lvl A fs env fr Z U s) (hm : (n, i) ∈ C.Γ) (nf : C.names.lookup n ≠ some .free) (r : VRep s.heap Z v u) : Ok X A (Jb env) fs Z s (TRel X C env) (bindName env n u) (if i < fr.length then .ok (fr.set i (some v)) U else .stuck) := by
 exact .guard fun _ => Ok.to fun Q E k => Yg a.I a.F hm (by rw [a.kind]; exact nf) r fun h' j b hb _ I' F' T => k () Z _ ⟨h', j, rfl⟩ I' F' (T _ _ hb)
theorem t_name {n : Str} {i : Nat} {pos : Pos} (hΓ : C.Γ.lookup n = some i) (nf : C.names.lookup n ≠ some .free) : TOk X C lvl (.Name n pos) fun fr v U => if i < fr.length then .ok (fr.set i (some v)) U else .stuck := fun A fs env fr Z U s v u a r => by
 rw [arm_assign_Name]
 exact Ok.standAt (bind_ok a (Ji hΓ) nf r)
theorem Oz (es : List Expr) (env : Env) (hs : ∀ e, e ∈ es -> Jl e = true) : assignEach es env = es.map fun e => (false, assign e env) := by
 induction es with
 | nil => rfl
 | cons e es ih =>
  have h0 := hs e List.mem_cons_self
  rw [List.map_cons, ← ih fun e h => hs e (List.mem_cons_of_mem _ h)]
  cases e <;> first | rfl | cases h0
theorem no_star : ∀ (es : List Expr) (env : Env), (es.map fun e => (false, assign e env)).findIdx? (·.1) = none := fun es env => by
 rw [List.findIdx?_eq_none_iff]
 intro x hx
 obtain ⟨e, _, rfl⟩ := List.mem_map.mp hx
 rfl
theorem t_attr {o : Expr} {n : Str} {i : Nat} {pos : Pos} {f : Fr -> St -> R PV} (hn : X.attrs[i]? = some n) (h : EOk X C lvl o f) : TOk X C lvl (.Attribute o n pos) fun fr v U => (f fr U).bind fun x U => (KB x i v U).bind fun _ U => .ok fr U := fun A fs env fr Z U s v u a r => by
 rw [arm_assign_Attribute]
 refine Ok.bind_ (Ok.holding (h _ _ _ _ _ _ _ a)) a.thereW fun x U1 Z1 b s1 _ _ I1 r1 T1 => Ok.standAt ?_
 have a1 := a.next I1 T1
 refine Ok.bind_ (Ok.holding (setattr_ok I1 r1 (r.step T1 Ja) hn)) a1.thereW fun _ U2 Z2 _ s2 _ _ I2 _ T2 => ?_
 have a2 := a1.next I2 T2
 refine Ok.widen a2.thereW fun _ => wpAny_release ⟨fr, U2, Z2, rfl, .refl _, I2, a2.F, Step.refl⟩
theorem t_sub {o i : Expr} {pos : Pos} {f g : Fr -> St -> R PV} (h : EOk X C lvl o f) (hi : EOk X C lvl i g) : TOk X C lvl (.Subscript o i pos) fun fr v U => (f fr U).bind fun x U => (g fr U).bind fun y U => (KA x y v U).bind fun _ U => .ok fr U := fun A fs env fr Z U s v u a r => by
 rw [arm_assign_Subscript]
 refine Ok.bind_ (Ok.holding (h _ _ _ _ _ _ _ a)) a.thereW fun x U1 Z1 b s1 _ _ I1 r1 T1 => ?_
 have a1 := a.next I1 T1
 refine Ok.bind_ (Ok.holding (hi _ _ _ _ _ _ _ a1)) a1.thereW fun y U2 Z2 c s2 _ _ I2 r2 T2 => Ok.standAt ?_
 have a2 := a1.next I2 T2
 refine Ok.bind_ (Ok.holding (setitem_ok I2 (r1.step T2 Ja) r2 ((r.step T1 Ja).step T2 Ja))) a2.thereW fun _ U3 Z3 _ s3 _ _ I3 _ T3 => ?_
 have a3 := a2.next I3 T3
 refine Ok.widen a3.thereW fun _ => wpAny_release ⟨fr, U3, Z3, rfl, .refl _, I3, a3.F, Step.refl⟩
end
inductive Run {α : Type} (body : PV -> α -> St -> R (Sum α PV)) (src : Src) : Nat -> Nat -> α -> St -> R (Sum α PV) -> Prop
 | fin {n i : Nat} {a : α} {U : St} : src.at i U = some none -> Run body src n i a U (.ok (.inl a) U)
 | turn {n i : Nat} {a a' : α} {U U' : St} {x : PV} {r : R (Sum α PV)} : src.at i U = some (some x) -> body x a U = .ok (.inl a') U' -> Run body src n (i + 1) a' U' r -> Run body src (n + 1) i a U r
 | out {n i : Nat} {a : α} {U U' : St} {x v : PV} : src.at i U = some (some x) -> body x a U = .ok (.inr v) U' -> Run body src n i a U (.ok (.inr v) U')
 | exc {n i c : Nat} {a : α} {U U' : St} {x : PV} : src.at i U = some (some x) -> body x a U = .exc c U' -> Run body src n i a U (.exc c U')
section
variable {α : Type} {body : PV -> α -> St -> R (Sum α PV)}
theorem KM {xs l : List PV} {x : PV} {i : Nat} (h : x :: l = xs.drop i) : xs[i]? = some x /\ l = xs.drop (i + 1) := by
 refine ⟨?_, ?_⟩
 ·have : (xs.drop i)[0]? = some x := by rw [← h]; rfl
  rw [List.getElem?_drop] at this; exact this
 ·have := congrArg List.tail h
  rw [List.tail_drop] at this; exact this
theorem drop_end {xs : List PV} {i : Nat} (h : [] = xs.drop i) : xs[i]? = none := List.getElem?_eq_none_iff.mpr (List.drop_eq_nil_iff.mp h.symm)
theorem Ga {src : Src} {n i : Nat} {a : α} {U : St} {x : PV} {f : α -> St -> R (Sum α PV)} (hx : src.at i U = some (some x)) (ns : (body x a U).bind (fun r U => match r with
   | .inl a => f a U
   | .inr v => .ok (.inr v) U) ≠ .stuck) (ih : ∀ a U, f a U ≠ .stuck -> Run body src n (i + 1) a U (f a U)) :
  Run body src (n + 1) i a U ((body x a U).bind fun r U => match r with
   | .inl a => f a U
   | .inr v => .ok (.inr v) U) := by
 cases e : body x a U with
 | stuck => rw [e] at ns; exact absurd rfl ns
 | exc c U' => exact .exc hx e
 | ok r U' =>
  rw [e] at ns
  cases r with
  | inl a' => exact .turn hx e (ih _ _ ns)
  | inr v => exact .out hx e
theorem run_imm {xs l : List PV} : ∀ {i : Nat} {a : α} {U : St}, l = xs.drop i -> loopI body l a U ≠ .stuck -> Run body (.imm xs) l.length i a U (loopI body l a U) := by
 induction l with
 | nil => intro i a U h ns; exact .fin (congrArg some (drop_end h))
 | cons x l ih => intro i a U h ns; exact Ga (congrArg some (KM h).1) ns fun a U ns => ih (KM h).2 ns
theorem junk_of {β : Type} {o : Option PO} {r : R β} (ns : Gr o r ≠ .stuck) : o = some .junk := by
 cases o with
 | none => exact absurd rfl ns
 | some o =>
  cases o with
  | junk => rfl
  | _ => exact absurd rfl ns
theorem lst_of {β : Type} {o : Option PO} {f : List PV -> R β} (ns : lstO o f ≠ .stuck) : ∃ xs, o = some (.list xs) := by
 cases o with
 | none => exact absurd rfl ns
 | some o =>
  cases o with
  | list xs => exact ⟨_, rfl⟩
  | _ => exact absurd rfl ns
theorem zip_junk {l : List PV} {k : Nat} {a : α} {U : St} (ns : Kh body k l a U ≠ .stuck) : U[k]? = some .junk := by
 cases l with
 | nil => exact junk_of (r := (.ok (.inl a) U : R (Sum α PV))) ns
 | cons x l => exact junk_of (r := (body x a U).bind _) ns
theorem loopZ_nil {k : Nat} {a : α} {U : St} (h : U[k]? = some .junk) : Kh body k [] a U = .ok (.inl a) U := by
 show Gr U[k]? _ = _
 rw [h]; rfl
theorem loopZ_cons {k : Nat} {a : α} {U : St} {x : PV} {xs : List PV} (h : U[k]? = some .junk) : Kh body k (x :: xs) a U = (body x a U).bind fun r U => match r with
       | .inl a => Kh body k xs a U
       | .inr v => .ok (.inr v) U := by
 show Gr U[k]? _ = _
 rw [h]; rfl
theorem run_zip {xs l : List PV} {k : Nat} : ∀ {i : Nat} {a : α} {U : St}, l = xs.drop i -> Kh body k l a U ≠ .stuck -> Run body (.zip xs k) l.length i a U (Kh body k l a U) := by
 induction l with
 | nil =>
  intro i a U h ns
  have hj := zip_junk ns
  rw [loopZ_nil hj]
  refine .fin ?_
  show (match U[k]? with | some .junk => some xs[i]? | _ => none) = _
  rw [hj, drop_end h]
 | cons x l ih =>
  intro i a U h ns
  have hj := zip_junk ns
  rw [loopZ_cons hj] at ns ⊢
  refine Ga ?_ ns fun a U ns => ih (KM h).2 ns
  show (match U[k]? with | some .junk => some xs[i]? | _ => none) = _
  rw [hj, (KM h).1]
theorem lst_at {l i : Nat} {xs : List PV} {U : St} (h : U[l]? = some (.list xs)) : Src.at (.lst l) i U = some xs[i]? := by
 show (match U[l]? with | some (.list xs) => some xs[i]? | _ => none) = _
 rw [h]
theorem loopL_end {l k i : Nat} {a : α} {U : St} {xs : List PV} (h : U[l]? = some (.list xs)) (hi : xs[i]? = none) : Kj body l (k + 1) i a U = .ok (.inl a) U := by
 show lstO U[l]? _ = _
 rw [h]
 show endO xs[i]? _ _ = _
 rw [hi]; rfl
theorem loopL_item {l k i : Nat} {a : α} {U : St} {xs : List PV} {x : PV} (h : U[l]? = some (.list xs)) (hi : xs[i]? = some x) : Kj body l (k + 1) i a U = (body x a U).bind fun r U => match r with
       | .inl a => Kj body l k (i + 1) a U
       | .inr v => .ok (.inr v) U := by
 show lstO U[l]? _ = _
 rw [h]
 show endO xs[i]? _ _ = _
 rw [hi]; rfl
theorem run_lst {l k : Nat} : ∀ {i : Nat} {a : α} {U : St}, Kj body l k i a U ≠ .stuck -> Run body (.lst l) k i a U (Kj body l k i a U) := by
 induction k with
 | zero => intro i a U ns; exact absurd rfl ns
 | succ k ih =>
  intro i a U ns
  obtain ⟨xs, hx⟩ := lst_of (o := U[l]?) ns
  cases hi : xs[i]? with
  | none => rw [loopL_end hx hi]; exact .fin (by rw [lst_at hx, hi])
  | some x =>
   rw [loopL_item hx hi] at ns ⊢
   exact Ga (by rw [lst_at hx, hi]) ns fun a U ns => ih ns
theorem run_of {src : Src} {a : α} {U : St} (ns : Jy body src a U ≠ .stuck) : ∃ n, Run body src n 0 a U (Jy body src a U) := by
 cases src with
 | imm xs => exact ⟨_, run_imm (xs := xs) rfl ns⟩
 | lst l => exact ⟨_, run_lst ns⟩
 | zip xs k => exact ⟨_, run_zip (xs := xs) rfl ns⟩
theorem run_cases {src : Src} {n i : Nat} {a : α} {U : St} {lr : R (Sum α PV)} (hr : Run body src n i a U lr) : (src.at i U = some none /\ lr = .ok (.inl a) U) \/ ∃ x r', src.at i U = some (some x) /\ body x a U = r' /\ r' ≠ .stuck /\ (∀ c U', r' = .exc c U' -> lr = .exc c U') /\
  (∀ a' U', r' = .ok (.inl a') U' -> ∃ m, m < n /\ Run body src m (i + 1) a' U' lr) /\ ∀ v U', r' = .ok (.inr v) U' -> lr = .ok (.inr v) U' := by
 cases hr with
 | fin hat => exact .inl ⟨hat, rfl⟩
 | turn hat hb hr' => exact .inr ⟨_, _, hat, hb, (fun q => by cases q), (fun _ _ q => by cases q), (fun _ _ q => by cases q; exact ⟨_, Nat.lt_succ_self _, hr'⟩), fun _ _ q => by cases q⟩
 | out hat hb => exact .inr ⟨_, _, hat, hb, (fun q => by cases q), (fun _ _ q => by cases q), (fun _ _ q => by cases q), fun _ _ q => by cases q; rfl⟩
 | exc hat hb => exact .inr ⟨_, _, hat, hb, (fun q => by cases q), (fun _ _ q => by cases q; rfl), (fun _ _ q => by cases q), fun _ _ q => by cases q⟩
end
noncomputable def Yp (env : Env) : List (Str × NameKind) -> List (Str × Addr) -> List (Str × Addr)
 | [], acc => acc
 | (n, k) :: r, acc => if (k == .free) = true then (match env.cells.lookup n with
   | some a => Yp env r ((n, a) :: acc)
   | none => Yp env r acc) else Yp env r acc
theorem Kb {env : Env} {n : Str} {k : NameKind} {r : List (Str × NameKind)} {acc : List (Str × Addr)} : (k = .free /\ ∃ a, env.cells.lookup n = some a /\ Yp env ((n, k) :: r) acc = Yp env r ((n, a) :: acc)) \/ ((k ≠ .free \/ env.cells.lookup n = none) /\ Yp env ((n, k) :: r) acc = Yp env r acc) := by
 have e : Yp env ((n, k) :: r) acc = if (k == .free) = true then (match env.cells.lookup n with
   | some a => Yp env r ((n, a) :: acc)
   | none => Yp env r acc) else Yp env r acc := rfl
 rw [e]
 by_cases hk : (k == .free) = true
 ·rw [if_pos hk]
  cases hc : env.cells.lookup n with
  | none => exact .inr ⟨.inr rfl, rfl⟩
  | some a => exact .inl ⟨beq_iff_eq.mp hk, a, rfl, rfl⟩
 ·rw [if_neg hk]; exact .inr ⟨.inl fun q => hk (beq_iff_eq.mpr q), rfl⟩
theorem Zn {env : Env} {n : Str} {c : Addr} {l : List (Str × NameKind)} : ∀ {acc : List (Str × Addr)}, (n, c) ∈ Yp env l acc -> (n, c) ∈ acc \/ ((n, .free) ∈ l /\ env.cells.lookup n = some c) := by
 induction l with
 | nil => intro acc h; exact .inl h
 | cons p r ih =>
  intro acc h
  obtain ⟨m, k⟩ := p
  rcases Kb (env := env) (n := m) (k := k) (r := r) (acc := acc) with ⟨hk, a, ha, e⟩ | ⟨_, e⟩
  ·rw [e] at h
   rcases ih h with q | ⟨q, q'⟩
   ·rcases List.mem_cons.mp q with q | q
    ·cases q; rw [hk]; exact .inr ⟨List.mem_cons_self, ha⟩
    ·exact .inl q
   ·exact .inr ⟨List.mem_cons_of_mem _ q, q'⟩
  ·rw [e] at h
   rcases ih h with q | ⟨q, q'⟩
   ·exact .inl q
   ·exact .inr ⟨List.mem_cons_of_mem _ q, q'⟩
theorem capt_keeps {env : Env} {n : Str} {c : Addr} {l : List (Str × NameKind)} : ∀ {acc : List (Str × Addr)}, (n, c) ∈ acc -> (n, c) ∈ Yp env l acc := by
 induction l with
 | nil => intro acc h; exact h
 | cons p r ih =>
  intro acc h
  obtain ⟨m, k⟩ := p
  rcases Kb (env := env) (n := m) (k := k) (r := r) (acc := acc) with ⟨hk, a, ha, e⟩ | ⟨_, e⟩
  ·rw [e]; exact ih (List.mem_cons_of_mem _ h)
  ·rw [e]; exact ih h
theorem capt_has {env : Env} {n : Str} {c : Addr} (hc : env.cells.lookup n = some c) {l : List (Str × NameKind)} : ∀ {acc : List (Str × Addr)}, (n, .free) ∈ l -> (n, c) ∈ Yp env l acc := by
 induction l with
 | nil => intro acc h; cases h
 | cons p r ih =>
  intro acc h
  obtain ⟨m, k⟩ := p
  rcases Kb (env := env) (n := m) (k := k) (r := r) (acc := acc) with ⟨hk, a, ha, e⟩ | ⟨hk, e⟩
  ·rw [e]
   rcases List.mem_cons.mp h with q | q
   ·cases q; rw [hc] at ha; cases ha; exact capt_keeps List.mem_cons_self
   ·exact ih q
  ·rw [e]
   rcases List.mem_cons.mp h with q | q
   ·cases q
    rcases hk with hk | hk
    ·exact absurd rfl hk
    ·rw [hc] at hk; cases hk
   ·exact ih q
theorem ZM {n : Str} {c : Addr} {l : List (Str × Addr)} (h : (n, c) ∈ l) (u : ∀ c', (n, c') ∈ l -> c' = c) : l.lookup n = some c := by
 induction l with
 | nil => cases h
 | cons p l ih =>
  obtain ⟨m, d⟩ := p
  rw [List.lookup_cons]
  cases e : n == m with
  | true =>
   cases beq_iff_eq.mp e
   rw [u d List.mem_cons_self]
  | false =>
   refine ih ?_ fun c' hc' => u c' (List.mem_cons_of_mem _ hc')
   rcases List.mem_cons.mp h with q | q
   ·cases q; rw [beq_self_eq_true] at e; cases e
   ·exact q
theorem capt_lookup {env : Env} {n : Str} {c : Addr} {l : List (Str × NameKind)} (hc : env.cells.lookup n = some c) (h : (n, .free) ∈ l) : (Yp env l []).lookup n = some c :=
 ZM (capt_has hc h) fun c' h' => by
  rcases Zn h' with q | ⟨_, q⟩
  ·cases q
  ·rw [hc] at q; cases q; rfl
theorem Kx {env : Env} {scope : Scope} (h : ∀ n, (n, NameKind.free) ∈ scope.names -> ∃ c, env.cells.lookup n = some c) : closureFor scope env = pure (Yp env scope.names []) := by
 unfold closureFor
 have key : ∀ (l : List (Str × NameKind)) (acc : List (Str × Addr)), (∀ n, (n, NameKind.free) ∈ l -> ∃ c, env.cells.lookup n = some c) ->
   (forIn l acc fun (x : Str × NameKind) (r : List (Str × Addr)) => (match x with | (name, kind) => if (kind == NameKind.free) = true then (do let c ← cellOf env name; pure (ForInStep.yield ((name, c) :: r))) else pure (ForInStep.yield r) : Sem (ForInStep (List (Str × Addr))))) = pure (Yp env l acc) := by
  intro l
  induction l with
  | nil => intro acc _; rfl
  | cons x l ih =>
   intro acc hl
   obtain ⟨n, k⟩ := x
   rw [List.forIn_cons]
   dsimp only
   by_cases hk : (k == NameKind.free) = true
   ·cases beq_iff_eq.mp hk
    obtain ⟨c, hc⟩ := hl n List.mem_cons_self
    rw [if_pos (show (NameKind.free == NameKind.free) = true from rfl), show Yp env ((n, .free) :: l) acc = Yp env l ((n, c) :: acc) by show (match env.cells.lookup n with | some a => Yp env l ((n, a) :: acc) | none => _) = _; rw [hc]]
    simp only [cellOf, hc, pure_bind]
    exact ih _ fun m hm => hl m (List.mem_cons_of_mem _ hm)
   ·rw [if_neg hk, show Yp env ((n, k) :: l) acc = Yp env l acc from if_neg hk]
    simp only [pure_bind]
    exact ih _ fun m hm => hl m (List.mem_cons_of_mem _ hm)
 have := key scope.names [] h
 simp only [bind_pure]
 exact this
structure UF (C : SC) (scope : Scope) (C' : SC) : Prop where
 code : C'.code = C.code
 kind : scope.kind = .function
 nocell : ∀ y ∈ scope.names, y.2 ≠ .cell
 locals : ∀ y ∈ scope.names, y.2 = .local -> scope.names.lookup y.1 = some .local
 names : C'.names = scope.names.map fun (n, k) => if (k == .free && C.names.lookup n == some .cell) then (n, .cell) else (n, k)
 frees : ∀ n, (n, .free) ∈ scope.names -> (C.names.lookup n = some .cell \/ C.names.lookup n = some .free) /\ ∃ i, (n, i) ∈ C.Γ
 gam : ∀ n i, (n, i) ∈ C'.Γ -> (C'.names.lookup n = some .local /\ C.base ≤ i) \/ ((n, .free) ∈ scope.names /\ (n, i) ∈ C.Γ /\ (C'.names.lookup n = some .cell \/ C'.names.lookup n = some .free))
 inj : ∀ n n' i, (n, i) ∈ C'.Γ -> (n', i) ∈ C'.Γ -> n = n'
 one : ∀ n i i', (n, i) ∈ C'.Γ -> (n, i') ∈ C'.Γ -> i = i'
theorem rep_none {n i : Nat} {v : PV} : (List.replicate n (none : Option PV))[i]? ≠ some (some v) := by
 rw [List.getElem?_replicate]
 by_cases h : i < n
 ·rw [if_pos h]; exact fun q => nomatch q
 ·rw [if_neg h]; exact fun q => nomatch q
theorem app_none {fr : Fr} {n i : Nat} {v : PV} (h : (fr ++ List.replicate n none)[i]? = some (some v)) : fr[i]? = some (some v) := by
 rcases Nat.lt_or_ge i fr.length with q | q
 ·rwa [List.getElem?_append_left q] at h
 ·rw [List.getElem?_append_right q] at h
  exact absurd h rep_none
section
variable {X : Cx} {S : SX} {C C' : SC} {lvl : Nat} {A : Around} {W fs : List Addr} {env : Env} {fr : Fr} {Z Z' : Rho} {U U' : St} {s s' : Shared}
theorem comp_names {scope : Scope} (cc : UF C scope C') (hk : env.scope.kind = .function) (hn : env.scope.names = C.names) : (relabel scope env).names = C'.names := by
 rw [cc.names]
 show scope.names.map _ = _
 apply List.map_congr_left
 intro x _
 obtain ⟨n, k⟩ := x
 have : env.kindOf n = C.names.lookup n := by unfold Env.kindOf; rw [hn]
 simp only [hk, this, beq_self_eq_true, Bool.and_true]
theorem comp_frame {scope : Scope} (cc : UF C scope C') (F : FrR X C.Γ env fr Z s.heap) (hn : env.scope.names = C.names) (I : Rp X Z U s.heap) (hl : fr.length = C.base) {L : Addr} {width : Nat} {h1 : Heap} (hL : s.heap.get? L = none) (kp : ∀ b o, s.heap.get? b = some o -> h1.get? b = some o)
  (hns : h1.Ns L fun _ => none) : FrR X C'.Γ (compEnvC scope (Yp env scope.names []) L env) (fr ++ List.replicate width none) Z h1 := by
 have kd : ∀ n, (compEnvC scope (Yp env scope.names []) L env).kindOf n = C'.names.lookup n := fun n => by
  show List.lookup n (relabel scope env).names = _
  rw [comp_names cc F.kind hn]
 have ke : ∀ n, env.kindOf n = C.names.lookup n := fun n => by unfold Env.kindOf; rw [hn]
 have T : ∀ fs, Step [] fs Z Z s.heap h1 := fun fs => Step.of_keeps kp
 have cm : ∀ c, c ∈ (Yp env scope.names []).map (·.2) -> c ∈ Jb env := fun c hc => by
  obtain ⟨⟨n, c'⟩, hm, rfl⟩ := List.mem_map.mp hc
  rcases Zn hm with q | ⟨_, q⟩
  ·cases q
  ·simp [Jb]; exact .inr ⟨n, Ji q⟩
 refine ⟨cc.kind, F.glob, F.bi, fun n i h => ?_, cc.inj, cc.one, ⟨_, hns, fun n i h hk v hv => ?_⟩, fun n i h hk => ?_, fun a ha => ?_, fun q => ?_, fun n n' c h h' => ?_⟩
 ·rw [kd]
  rcases cc.gam n i h with ⟨q, _⟩ | ⟨_, _, q⟩
  ·exact .inl q
  ·exact .inr q
 ·exfalso
  rw [kd] at hk
  rcases cc.gam n i h with ⟨_, q⟩ | ⟨_, _, q⟩
  ·rw [List.getElem?_append_right (by lia)] at hv
   exact rep_none hv
  ·rw [hk] at q; rcases q with q | q <;> cases q
 ·rw [kd] at hk
  rcases cc.gam n i h with ⟨q, _⟩ | ⟨q1, q2, q3⟩
  ·rw [q] at hk; rcases hk with hk | hk <;> cases hk
  ·obtain ⟨c, cur, hc, hcell, r⟩ := F.cells n i q2 (by rw [ke]; exact (cc.frees n q1).1)
   refine ⟨c, cur, capt_lookup hc q1, hcell.keeps kp, fun v hv => ?_⟩
   obtain ⟨u, e1, e2⟩ := r v (app_none hv)
   exact ⟨u, e1, e2.step (T []) Ja⟩
 ·rcases List.mem_cons.mp ha with rfl | ha
  ·exact ⟨I.offNew hL, JC I.base hL, Om hns⟩
  ·obtain ⟨a1, a2, o, e, a3⟩ := F.off a (cm a ha)
   exact ⟨a1, a2, o, kp _ _ e, a3⟩
 ·obtain ⟨_, _, o, e, _⟩ := F.off _ (cm _ q)
  have e : s.heap.get? L = some o := e
  rw [hL] at e; cases e
 ·rcases Zn h with q | ⟨_, q⟩
  ·cases q
  ·rcases Zn h' with q' | ⟨_, q'⟩
   ·cases q'
   ·exact F.once n n' c (Ji q) (Ji q')
noncomputable def YA (C : SC) (e : Expr) (i : Nat) : Prop := ∃ n pos, e = .Name n pos /\ (n, i) ∈ C.Γ /\ C.names.lookup n = some .local
noncomputable def ZQ (C : SC) (t : Expr) (tgt : List Nat) (isTup : Bool) : Prop :=
 (isTup = false /\ ∃ i, tgt = [i] /\ YA C t i) \/ (isTup = true /\ ∃ es k pos, t = .Tuple es k pos /\ All2 (YA C) es tgt)
theorem local_ok {e : Expr} {i : Nat} (hi : YA C e i) (I : Rp X Z U s.heap) (F : FrR X C.Γ env fr Z s.heap) (hn : env.scope.names = C.names) {v : PV} {u : Value} (r : VRep s.heap Z v u) {Q : Unit -> Shared -> Prop} {E : Value -> Shared -> Prop}
  (h : ∀ h' k, Rp X Z U h' -> FrR X C.Γ env (fr.set i (some v)) Z h' -> (∀ fs, Step [env.locals] fs Z Z s.heap h') -> Q () { s with heap := h', toks := k }) : wpAny (model X.prog X.w) A (assign e env u) Q E s := by
 obtain ⟨n, pos, rfl, hm, hk⟩ := hi
 have hk' : env.kindOf n = some .local := by unfold Env.kindOf; rw [hn]; exact hk
 rw [arm_assign_Name]
 refine wpAny_bind (wpAny_standAt (Yg I F hm (by rw [hk']; simp) r fun h' k a _ ha I' F' T => h h' k I' F' fun fs => T _ _ ?_))
 rw [ha hk']; simp
theorem Zi {fr fr' : Fr} {i : Nat} {is : List Nat} {v : PV} {vs : List PV} (h : OO fr (i :: is) (v :: vs) = some fr') : i < fr.length /\ OO (fr.set i (some v)) is vs = some fr' := by
 have h : (if i < fr.length then OO (fr.set i (some v)) is vs else none) = some fr' := h
 by_cases hi : i < fr.length
 ·rw [if_pos hi] at h; exact ⟨hi, h⟩
 ·rw [if_neg hi] at h; cases h
set_option tactic.hygienic true in
theorem locals_ok {es : List Expr} {is : List Nat} (hs : All2 (YA C) es is) : ∀ {fr fr' : Fr} {s : Shared} {vs : List PV} {us : List Value} {Q : Unit -> Shared -> Prop} {E : Value -> Shared -> Prop}, Rp X Z U s.heap -> FrR X C.Γ env fr Z s.heap -> env.scope.names = C.names -> VReps s.heap Z vs us ->
  OO fr is vs = some fr' -> (∀ h' k, Rp X Z U h' -> FrR X C.Γ env fr' Z h' -> (∀ fs, Step [env.locals] fs Z Z s.heap h') -> Q () { s with heap := h', toks := k }) -> wpAny (model X.prog X.w) A (assignInOrder (es.map fun e => assign e env) us) Q E s := by
 induction hs with
 | nil =>
  intro fr fr' s vs us Q E I F hn r e h
  cases r with
  | nil => cases e; exact wpAny_pure (h s.heap s.toks I F fun _ => Step.refl)
  | cons => cases e
 | cons q qs ih =>
  intro fr fr' s vs us Q E I F hn r e h
  cases r with
  | nil => cases e
  | cons r rs =>
   rename_i i _ is _ v us
   obtain ⟨hi, e⟩ := Zi e
   refine wpAny_bind (wpAny_holding (local_ok q I F hn r fun h1 k1 I1 F1 T1 => ?_))
   have N : JI [env.locals] s.heap := fun a ha => by rw [List.mem_singleton.mp ha]; exact F.noSeq _ List.mem_cons_self
   exact ih I1 F1 hn (rs.step (T1 []) N) e fun h2 k2 I2 F2 T2 => h h2 k2 I2 F2 fun fs => (T1 fs).trans (T2 fs)
theorem notStar_local {e : Expr} {i : Nat} (h : YA C e i) : Jl e = true := by obtain ⟨n, pos, rfl, _⟩ := h; rfl
theorem Gi {es : List Expr} {is : List Nat} (hs : All2 (YA C) es is) : ∀ e, e ∈ es -> Jl e = true := by
 induction hs with
 | nil => exact fun _ h => nomatch h
 | cons q _ ih =>
  intro e h
  rcases List.mem_cons.mp h with h | h
  ·rw [h]; exact notStar_local q
  ·exact ih e h
theorem setAll_len {is : List Nat} : ∀ {vs : List PV} {fr fr' : Fr}, OO fr is vs = some fr' -> is.length = vs.length := by
 induction is with
 | nil => intro vs fr fr' e; cases vs <;> first | rfl | cases e
 | cons i is ih =>
  intro vs fr fr' e
  cases vs with
  | nil => cases e
  | cons v vs => exact congrArg (· + 1) (ih (Zi e).2)
theorem bindT_ok {t : Expr} {tgt : List Nat} {isTup : Bool} (ht : ZQ C t tgt isTup) (hh : A.handled = none) (I : Rp X Z U s.heap) (F : FrR X C.Γ env fr Z s.heap) (hn : env.scope.names = C.names) {v : PV} {u : Value} (r : VRep s.heap Z v u) {fr' : Fr} (e : Zp fr tgt isTup v = some fr')
  {Q : Unit -> Shared -> Prop} {E : Value -> Shared -> Prop} (h : ∀ h' k, Rp X Z U h' -> FrR X C.Γ env fr' Z h' -> (∀ fs, Step [env.locals] fs Z Z s.heap h') -> Q () { s with heap := h', toks := k }) : wpAny (model X.prog X.w) A (assign t env u) Q E s := by
 rcases ht with ⟨rfl, i, rfl, hi⟩ | ⟨rfl, es, k, pos, rfl, hi⟩
 ·obtain ⟨_, e⟩ := Zi (is := []) (vs := []) e
  cases e
  exact local_ok hi I F hn r h
 ·cases v with
  | tup vs =>
   have e : OO fr tgt vs = some fr' := e
   rw [arm_assign_Tuple, Oz es env (Gi hi)]
   refine wpAny_bind (wpAny_standAt ?_)
   unfold unpack
   rw [no_star, List.map_map, List.length_map, hi.length, setAll_len e]
   refine wpAny_bind (wpAny_holding (YU hh I r rfl fun us h' hu I' T rr => ?_))
   exact locals_ok hi I' (F.step (T [] [])) hn rr e fun h2 k2 I2 F2 T2 => h h2 k2 I2 F2 fun fs => (T _ fs).trans (T2 fs)
  | _ => cases e
noncomputable def OL (ifs : List Expr) (env : Env) (b : Bool) : Sem Bool := forIn ifs b fun c r => if r = true then do let ok ← isTrue c env (eval c env); pure (ForInStep.yield ok) else pure (ForInStep.yield r)
theorem tests_false (ifs : List Expr) (env : Env) : OL ifs env false = pure false := by
 induction ifs with
 | nil => rfl
 | cons e r ih =>
  unfold OL at ih ⊢
  rw [List.forIn_cons, if_neg Bool.false_ne_true, pure_bind]
  exact ih
theorem tests_cons (e : Expr) (r : List Expr) (env : Env) : OL (e :: r) env true = (isTrue e env (eval e env) >>= fun b => OL r env b) := by
 unfold OL
 rw [List.forIn_cons]
 simp only [if_true, bind_assoc, pure_bind]
theorem tests_ok {ec : Fr -> IE -> St -> R Bool} {es : List Expr} {ies : List IE} (hs : All2 (fun e ie => BOk X C lvl e fun fr U => ec fr ie U) es ies) : ∀ {A fs env fr Z U s}, At X C lvl A fs env fr Z U s ->
  Ok X A [] fs Z s Gb (OL es env true) (evIfs (ec fr) ies U) := by
 induction hs with
 | nil => intro A fs env fr Z U s a; exact Ok.ret a.I rfl
 | cons h r ih =>
  intro A fs env fr Z U s a
  rw [tests_cons]
  refine Ok.bind (h _ _ _ _ _ _ _ a) fun t U' Z' b s' _ _ I' rt T => ?_
  cases rt
  cases t
  ·rw [tests_false]; exact Ok.ret I' rfl
  ·exact ih (a.next I' T)
theorem Step.loc' {h h1 h3 : Heap} {Z Z1 Z2 : Rho} (T : Step [] fs Z Z1 h h1) (S : Step W fs Z1 Z2 h1 h3) (hW : ∀ w, w ∈ W -> h.get? w = none) : Step [] fs Z Z2 h h3 := by
 have nw : ∀ a o, h.get? a = some o -> a ∉ W := fun a o e q => by rw [hW a q] at e; cases e
 refine ⟨?_, fun a o e n _ => ?_, fun a o e _ => ?_, fun a q => ?_, fun _ w => nomatch w⟩
 ·obtain ⟨τ, rfl⟩ := T.pre
  obtain ⟨τ', rfl⟩ := S.pre
  exact ⟨τ ++ τ', by simp⟩
 ·have n1 := T.offNew e n
  obtain ⟨k1, sl, k2⟩ := T.keep a o e n (by simp)
  refine ⟨fun nf => (S.keep a o (k1 nf) n1 (nw a o e)).1 nf, ?_⟩
  obtain ⟨_, sl', k3⟩ := S.keep a _ k2 n1 (nw a o e)
  exact ⟨sl', k3⟩
 ·obtain ⟨o', e'⟩ := T.there a o e (by simp)
  exact S.there a o' e' (nw a o e)
 ·rcases S.fresh a q with q | q
  ·exact T.fresh a q
  ·right
   cases e : h.get? a with
   | none => rfl
   | some o => obtain ⟨o', e'⟩ := T.there a o e (by simp); rw [e'] at q; cases q
end
noncomputable def KS (iter target : Expr) (ifs : List Expr) (emit : Sem Unit) (code : Code) (it : Value) (env : Env) : Sem Fin := do
 standAt iter.pos
 match ← pyNext it with
 | none => pure (.done .next)
 | some v =>
  letOwnedTupleGo target it v
  assign target env v
  let mut ok := true
  for c in ifs do
   if ok then ok ← isTrue c env (eval c env)
  if ok then emit
  again code
noncomputable def restOf (target : Expr) (ifs : List Expr) (emit : Sem Unit) (code : Code) (env : Env) (u : Value) : Sem Fin := assign target env u >>= fun _ => OL ifs env true >>= fun ok => if ok = true then emit >>= fun _ => again code else again code
theorem turn_eq (iter target : Expr) (ifs : List Expr) (emit : Sem Unit) (code : Code) (it : Value) (env : Env) : KS iter target ifs emit code it env = (standAt iter.pos >>= fun _ => pyNext it >>= fun r => match r with
  | none => pure (.done .next)
  | some v => letOwnedTupleGo target it v >>= fun _ => restOf target ifs emit code env v) := rfl
theorem turn_some {M : Model} {A : Around} {iter target : Expr} {ifs : List Expr} {emit : Sem Unit} {code : Code} {it : Value} {env : Env} {Q : Fin -> Shared -> Prop} {E : Value -> Shared -> Prop} {s : Shared}
  (h : wpAny M A (pyNext it) (fun r s1 => match r with
   | some u => wpAny M A (letOwnedTupleGo target it u) (fun _ s2 => wpAny M A (restOf target ifs emit code env u) Q E s2) E s1
   | none => False) E s) : wpAny M A (KS iter target ifs emit code it env) Q E s := by
 rw [turn_eq]
 refine wpAny_bind (wpAny_standAt (wpAny_bind (wpAny_mono h (fun r s1 h1 => ?_) fun _ _ q => q)))
 cases r with
 | none => exact h1.elim
 | some u => exact wpAny_bind h1
theorem turn_none {M : Model} {A : Around} {iter target : Expr} {ifs : List Expr} {emit : Sem Unit} {code : Code} {it : Value} {env : Env} {Q : Fin -> Shared -> Prop} {E : Value -> Shared -> Prop} {s : Shared}
  (h : wpAny M A (pyNext it) (fun r s1 => r = none /\ Q (.done .next) s1) E s) : wpAny M A (KS iter target ifs emit code it env) Q E s := by
 rw [turn_eq]
 refine wpAny_bind (wpAny_standAt (wpAny_bind (wpAny_mono h (fun r s1 h1 => ?_) fun _ _ q => q)))
 obtain ⟨rfl, h1⟩ := h1
 exact wpAny_pure h1
structure Acc {α : Type} (X : Cx) (AR : Heap -> Rho -> α -> Addr -> Prop) (po : α -> PO) : Prop where
 step : ∀ {W fs Z Z' h h' a D}, Step W fs Z Z' h h' -> JI W h -> D ∉ W -> D ∉ fs -> D ∉ Je Z -> AR h Z a D -> AR h' Z' a D
 nt : ∀ {h Z a D}, AR h Z a D -> ∀ items, ¬ h.IsTuple D items
 th : ∀ {h Z a D}, AR h Z a D -> ∃ o, h.get? D = some o
 ad : ∀ {h Z a D}, AR h Z a D -> ORep X h (Z ++ [(D, none)]) (po a) (D, none)
section
variable {X : Cx} {S : SX} {C C' : SC} {lvl : Nat} {A : Around} {W fs : List Addr} {env : Env} {fr : Fr} {Z Z' : Rho} {U U' : St} {s s' : Shared}
structure CInv {α : Type} (X : Cx) (C' : SC) (fs W : List Addr) (cenv : Env) (J : Nat -> Heap -> Rho -> Prop) (AR : Heap -> Rho -> α -> Addr -> Prop) (D : Addr) (Z1 : Rho) (s1 : Shared) (i : Nat) (a : Fr × α) (U : St) (Z : Rho) (s : Shared) : Prop where
 I : Rp X Z U s.heap
 j : J i s.heap Z
 F : FrR X C'.Γ cenv a.1 Z s.heap
 ac : AR s.heap Z a.2 D
 off : D ∉ Je Z
 T : Step W fs Z1 Z s1.heap s.heap
 E : Ext s1 s
structure CW (cenv : Env) (fs own W : List Addr) (D : Addr) : Prop where
 ow : ∀ x, x ∈ own -> x ∈ W
 d : D ∈ W
 l : cenv.locals ∈ W
 all : ∀ x, x ∈ W -> x ∈ own \/ x = D \/ x = cenv.locals
 off : ∀ x, x ∈ own -> x ≠ D /\ x ∉ Jb cenv
 dfs : ∀ x, x ∈ W -> x ∉ fs
 dD : D ∉ Jb cenv
section
variable {α : Type} {it : Value} {D : Addr} {own : List Addr} {src : Src} {J : Nat -> Heap -> Rho -> Prop} {AR : Heap -> Rho -> α -> Addr -> Prop} {po : α -> PO} {ok : Expr -> Bool} {Z1 : Rho} {s1 : Shared} {i : Nat} {a : Fr × α}
theorem CInv.th (V : CInv X C' fs W env J AR D Z1 s1 i a U Z s) (K : Acc X AR po) (wk : Wk X A src it own ok J) (w : CW env fs own W D) : ∀ x, x ∈ W -> ∃ o, s.heap.get? x = some o := fun x hx => by
 rcases w.all x hx with q | q | q
 ·exact (wk.off V.j x q).2.1
 ·rw [q]; exact K.th V.ac
 ·rw [q]; exact (Exists.elim (V.F.off _ List.mem_cons_self).2.2 fun o e => ⟨o, e.1⟩)
theorem CInv.nxt (V : CInv X C' fs W env J AR D Z1 s1 i a U Z s) (K : Acc X AR po) (wk : Wk X A src it own ok J) (w : CW env fs own W D) {h' : Heap} {k j : Nat} (I' : Rp X Z U h') (j' : J j h' Z) (T' : ∀ fs, Step own fs Z Z s.heap h') : CInv X C' fs W env J AR D Z1 s1 j a U Z { s with heap := h', toks := k } :=
 have NO : JI own s.heap := fun b hb => (wk.off V.j b hb).2.2
 ⟨I', j', V.F.stepW (T' fs) (fun x hx q => (w.off x q).2 hx) NO, K.step (T' fs) NO (fun q => (w.off _ q).1 rfl) (w.dfs D w.d) V.off V.ac, V.off, V.T.trans ((T' fs).mono w.ow (V.th K wk w)), V.E.trans ⟨h', k, rfl⟩⟩
theorem CInv.go {V' : List Addr} (V : CInv X C' fs W env J AR D Z1 s1 i a U Z s) (K : Acc X AR po) (wk : Wk X A src it own ok J) (w : CW env fs own W D) {a' : Fr × α} (T : Step V' fs Z Z' s.heap s'.heap) (N : JI V' s.heap) (hV : ∀ x, x ∈ V' -> x ∈ W /\ x ∉ own)
  (E : Ext s s') (I : Rp X Z' U' s'.heap) (F : FrR X C'.Γ env a'.1 Z' s'.heap) (ac : AR s'.heap Z' a'.2 D) : CInv X C' fs W env J AR D Z1 s1 i a' U' Z' s' :=
 ⟨I, wk.step V.j T N (fun b hb => ⟨fun q => (hV b q).2 hb, w.dfs b (w.ow b hb)⟩), F, ac, (Exists.elim (K.th V.ac) fun _ e => T.offNew e V.off), V.T.trans (T.mono (fun x hx => (hV x hx).1) (V.th K wk w)), V.E.trans E⟩
theorem comp_turn {target : Expr} {ifs : List Expr} {iifs : List IE} {emit : Sem Unit} {code : Code} {tgt : List Nat} {isTup : Bool} {ec : Fr -> IE -> St -> R Bool} {em : Fr -> α -> St -> R α} {P : Fin -> Shared -> Prop} {E : Value -> Shared -> Prop} {x : PV} {u : Value} {q : Fr × α} {U1 : St}
  (K : Acc X AR po) (wk : Wk X A src it own ok J) (w : CW env fs own W D) (ht : ZQ C' target tgt isTup) (hc : All2 (fun e ie => BOk X C' lvl e fun fr U => ec fr ie U) ifs iifs)
  (hem : ∀ fr a Z U s, At X C' lvl A fs env fr Z U s -> AR s.heap Z a D -> D ∉ Je Z -> D ∉ fs -> X.base.get? D = none -> Ok X A [D] fs Z s (fun h Z a (_ : Unit) => AR h Z a D) emit (em fr a U))
  (hn : env.scope.names = C'.names) (hcd : ∀ v, C'.code = some v -> env.code = v) (rm : Rm A lvl) (ar : ∀ {Z : Rho} {s : Shared}, Step W fs Z1 Z s1.heap s.heap -> AOK X A fs Z s.heap) (dB : X.base.get? D = none)
  (V : CInv X C' fs W env J AR D Z1 s1 i a U Z s) (ru : VRep s.heap Z x u) (hb : Jq ec em tgt isTup iifs x a U = .ok (.inl q) U1)
  (hnext : ∀ Z' s', CInv X C' fs W env J AR D Z1 s1 i q U1 Z' s' -> wpAny (model X.prog X.w) A (again code) P E s') :
  wpAny (model X.prog X.w) A (restOf target ifs emit code env u) P E s := by
 unfold restOf
 unfold Jq at hb
 have N1 : JI [env.locals] s.heap := fun b hb => by rw [List.mem_singleton.mp hb]; exact V.F.noSeq _ List.mem_cons_self
 cases hfr : Zp a.1 tgt isTup x with
 | none => rw [hfr] at hb; cases hb
 | some fr' =>
 rw [hfr] at hb
 refine wpAny_bind (bindT_ok ht (ar V.T).hd V.I V.F hn ru hfr fun h3 k3 I3 F3 T3 => ?_)
 have V2 : CInv X C' fs W env J AR D Z1 s1 i (fr', a.2) U Z { s with heap := h3, toks := k3 } :=
  V.go K wk w (T3 fs) N1 (fun x hx => by rw [List.mem_singleton.mp hx]; exact ⟨w.l, fun q => (w.off _ q).2 List.mem_cons_self⟩) ⟨h3, k3, rfl⟩ I3 F3 (K.step (T3 fs) N1 (fun q => w.dD (List.mem_singleton.mp q ▸ List.mem_cons_self)) (w.dfs D w.d) V.off V.ac)
 generalize ({ s with heap := h3, toks := k3 } : Shared) = s3 at V2
 clear V ru N1
 obtain ⟨t, U4, e4, hb⟩ := R.bind_inv hb
 refine wpAny_bind (wpAny_mono (tests_ok hc ⟨V2.I, V2.F, hn, ar V2.T, rm, hcd⟩ (fun z => by rw [z] at e4; cases e4)) (fun t' s4 p => ?_) fun x s4 p => ?_)
 rotate_left
 ·obtain ⟨c, _, _, _, _, w1, _⟩ := p
  rw [w1] at e4; cases e4
 obtain ⟨t'', U4', Z4, q1, q2, q3, q4, q5⟩ := p
 rw [q1] at e4
 cases e4
 cases q4
 have V4 : CInv X C' fs W env J AR D Z1 s1 i (fr', a.2) U4 Z4 s4 := V2.go K wk w q5 Ja (fun _ q => nomatch q) q2 q3 (V2.F.step q5) (K.step q5 Ja (fun q => nomatch q) (w.dfs D w.d) V2.off V2.ac)
 clear V2 q1 q2 q3 q5
 cases t with
 | false =>
  cases hb
  exact hnext Z4 s4 V4
 | true =>
  obtain ⟨a5, U5, e5, hb⟩ := R.bind_inv hb
  cases hb
  refine wpAny_bind (wpAny_mono (hem fr' a.2 Z4 U4 s4 ⟨V4.I, V4.F, hn, ar V4.T, rm, hcd⟩ V4.ac V4.off (w.dfs D w.d) dB (fun z => by rw [z] at e5; cases e5)) (fun _ s5 p => ?_) fun x s5 p => ?_)
  ·obtain ⟨a5', U5', Z5, w1, w2, w3, w4, w5⟩ := p
   rw [w1] at e5
   cases e5
   have ND5 : JI [D] s4.heap := fun b hb => by rw [List.mem_singleton.mp hb]; exact K.nt V4.ac
   exact hnext Z5 s5 (V4.go K wk w w5 ND5 (fun x hx => by rw [List.mem_singleton.mp hx]; exact ⟨w.d, fun q => (w.off _ q).1 rfl⟩) w2 w3 (V4.F.stepW w5 (fun b hb q => w.dD (List.mem_singleton.mp q ▸ hb)) ND5) w4)
  ·obtain ⟨c, _, _, _, _, w1, _⟩ := p
   rw [w1] at e5; cases e5
noncomputable def CLoop (X : Cx) (C' : SC) (fs W : List Addr) (cenv : Env) (J : Nat -> Heap -> Rho -> Prop) (AR : Heap -> Rho -> α -> Addr -> Prop) (D : Addr) (Z1 : Rho) (s1 : Shared) (src : Src) (body : PV -> Fr × α -> St -> Mine.R (Sum (Fr × α) PV)) (lr : Mine.R (Sum (Fr × α) PV)) (n : Nat) (s : Shared) : Prop :=
 ∃ i a U Z, Run body src n i a U lr /\ CInv X C' fs W cenv J AR D Z1 s1 i a U Z s
theorem comp_loop {code : Code} {target iter : Expr} {ifs : List Expr} {iifs : List IE} {emit : Sem Unit} {tgt : List Nat} {isTup : Bool} {ec : Fr -> IE -> St -> R Bool} {em : Fr -> α -> St -> R α} {R : Result -> Shared -> Prop} {p : Fr × α} {Uf : St}
  (hq : code.quiet = true) (hund : A.under code = A) (hturn : (model X.prog X.w).den code = (KS iter target ifs emit code it env).onRaise fun x => do noteFrame x env; theTreesLotGoes x) (K : Acc X AR po) (wk : Wk X A src it own ok J) (w : CW env fs own W D) (hok : ok target = true) (ht : ZQ C' target tgt isTup)
  (hc : All2 (fun e ie => BOk X C' lvl e fun fr U => ec fr ie U) ifs iifs)
  (hem : ∀ fr a Z U s, At X C' lvl A fs env fr Z U s -> AR s.heap Z a D -> D ∉ Je Z -> D ∉ fs -> X.base.get? D = none -> Ok X A [D] fs Z s (fun h Z a (_ : Unit) => AR h Z a D) emit (em fr a U))
  (hn : env.scope.names = C'.names) (hcd : ∀ v, C'.code = some v -> env.code = v) (rm : Rm A lvl) (ar : ∀ {Z : Rho} {s : Shared}, Step W fs Z1 Z s1.heap s.heap -> AOK X A fs Z s.heap) (dB : X.base.get? D = none)
  (fin : ∀ Z s, Rp X Z Uf s.heap -> AR s.heap Z p.2 D -> D ∉ Je Z -> Step W fs Z1 Z s1.heap s.heap -> Ext s1 s -> FrR X C'.Γ env p.1 Z s.heap -> R (.ok .next) s)
  {n : Nat} (hr : Run (Jq ec em tgt isTup iifs) src n i a U (.ok (.inl p) Uf)) (V : CInv X C' fs W env J AR D Z1 s1 i a U Z s) : codeAny (model X.prog X.w) A code R s := by
 refine codeAny_loop hq (CLoop X C' fs W env J AR D Z1 s1 src (Jq ec em tgt isTup iifs) (.ok (.inl p) Uf)) (fun n s hI => ?_) n ⟨i, a, U, Z, hr, V⟩
 clear hr V
 obtain ⟨i, a, U, Z, hr, V⟩ := hI
 rw [hund, hturn]
 refine wpAny_noted ?_
 rcases run_cases hr with ⟨hat, e⟩ | ⟨x, r', hat, hbody, nn, hx, hs, hv⟩
 ·cases e
  refine turn_none (wk.fin V.j V.I hat _ _ fun h' k I' T' => ⟨rfl, ?_⟩)
  have NO : JI own s.heap := fun b hb => (wk.off V.j b hb).2.2
  exact fin Z { s with heap := h', toks := k } I' (K.step (T' fs) NO (fun q => (w.off _ q).1 rfl) (w.dfs D w.d) V.off V.ac) V.off (V.T.trans ((T' fs).mono w.ow (V.th K wk w))) (V.E.trans ⟨h', k, rfl⟩) (V.F.stepW (T' fs) (fun x hx q => (w.off x q).2 hx) NO)
 ·cases r' with
  | stuck => exact absurd rfl nn
  | exc c U' => cases hx _ _ rfl
  | ok z U' =>
   cases z with
   | inr v => cases hv _ _ rfl
   | inl a' =>
    obtain ⟨m, h1, h2⟩ := hs _ _ rfl
    exact turn_some (wk.next V.j V.I hat target _ _ hok fun u h' k I' j' T' ru => comp_turn K wk w ht hc hem hn hcd rm ar dB (V.nxt K wk w I' j' T') ru hbody fun Z' s' V' => wpAny_pure ⟨rfl, m, h1, _, _, _, _, h2, V'⟩)
end
end
section
variable {X : Cx} {S : SX} {C C' : SC} {lvl : Nat} {A : Around} {W fs : List Addr} {env : Env} {fr : Fr} {Z Z' : Rho} {U U' : St} {s s' : Shared}
structure CParts {α : Type} (X : Cx) (C C' : SC) (lvl : Nat) (e target iter : Expr) (ifs : List Expr) (iifs : List IE) (scope : Scope) (newAcc : Sem Value) (emit : Addr -> Env -> Sem Unit) (o0 : Obj) (AR : Heap -> Rho -> α -> Addr -> Prop) (po : α -> PO) (a0 : α) (ok : Expr -> Bool)
  (tgt : List Nat) (isTup : Bool) (ec : Fr -> IE -> St -> R Bool) (em : Fr -> α -> St -> R α) (fsrc : Fr -> St -> R Src) : Prop where
 cl : clausesOf e = [⟨target, iter, ifs, 0⟩]
 hs : ∀ env x, foldedSetIterable iter env x = pure x
 new : ∀ {A s} {Q : Value -> Shared -> Prop} {E : Value -> Shared -> Prop}, Q (.ref s.heap.objs.size) { s with heap := s.heap.push o0 } -> wpAny (model X.prog X.w) A newAcc Q E s
 start : ∀ {A D it cenv s} {R : Result -> Shared -> Prop}, codeAny (model X.prog X.w) A (.compLoop e 0 it (.ref D) cenv) R s -> wpAny (model X.prog X.w) A (pyIter it) (fun it' s' => codeAny (model X.prog X.w) A (.compLoop e 0 it' (.ref D) cenv) R s') (notedBy (model X.prog X.w) A cenv fun x s' => R (.error x) s') s -> codeAny (model X.prog X.w) A (.compStart e 0 it (.ref D) cenv) R s
 fresh : o0.isFreed = false
 quiet : ∀ it D cenv, (Code.compLoop e 0 it (.ref D) cenv).quiet = true
 under : ∀ (A : Around) it D cenv, A.under (.compLoop e 0 it (.ref D) cenv) = A
 turn : ∀ it D cenv, (model X.prog X.w).den (.compLoop e 0 it (.ref D) cenv) = (KS iter target ifs (emit D cenv) (.compLoop e 0 it (.ref D) cenv) it cenv).onRaise fun x => do noteFrame x cenv; theTreesLotGoes x
 K : Acc X AR po
 z : ∀ {h Z D}, D ≠ sysModules -> h.get? D = some o0 -> AR h Z a0 D
 src : YK X C lvl iter ok fsrc
 okT : ok target = true
 tg : ZQ C' target tgt isTup
 tests : All2 (fun e ie => BOk X C' lvl e fun fr U => ec fr ie U) ifs iifs
 em : ∀ D A fs env fr a Z U s, At X C' lvl A fs env fr Z U s -> AR s.heap Z a D -> D ∉ Je Z -> D ∉ fs -> X.base.get? D = none -> Ok X A [D] fs Z s (fun h Z a (_ : Unit) => AR h Z a D) (emit D env) (em fr a U)
 cc : UF C scope C'
theorem Uk {α : Type} {r : R α} (h : OD r ≠ .stuck) : ∃ a U, r = .ok a U := by
 cases r with
 | ok a U => exact ⟨a, U, rfl⟩
 | exc c U => exact absurd rfl h
 | stuck => exact absurd rfl h
set_option tactic.hygienic true in
theorem comp_core {α : Type} {e target iter : Expr} {ifs : List Expr} {iifs : List IE} {scope : Scope} {pos : Pos} {newAcc : Sem Value} {emit : Addr -> Env -> Sem Unit} {o0 : Obj} {AR : Heap -> Rho -> α -> Addr -> Prop} {po : α -> PO} {a0 : α} {ok : Expr -> Bool}
  {tgt : List Nat} {isTup : Bool} {ec : Fr -> IE -> St -> R Bool} {em : Fr -> α -> St -> R α} {fsrc : Fr -> St -> R Src} {use : Option (Value -> Sem Unit)} {Q : Value -> Shared -> Prop} {E : Value -> Shared -> Prop} {width : Nat}
  (P : CParts X C C' lvl e target iter ifs iifs scope newAcc emit o0 AR po a0 ok tgt isTup ec em fsrc) (a : At X C lvl A fs env fr Z U s)
  (ns : OZ ec em po a0 tgt isTup iifs fsrc C.base width fr U ≠ .stuck)
  (fin : ∀ l U' Z' s' D L m, OZ ec em po a0 tgt isTup iifs fsrc C.base width fr U = .ok (.loc l) U' -> Ext s s' -> Rp X Z' U' s'.heap -> VRep s'.heap Z' (.loc l) (.ref D) -> Step [] fs Z Z' s.heap s'.heap -> s'.heap.Ns L m -> Ze X Z' L -> s.heap.get? L = none ->
   compPost (model X.prog X.w) A E use Q (.ref D) L (.ok .next) s') :
  wpAny (model X.prog X.w) A (comprehension e scope env pos newAcc false (eval iter env) use) Q E s := by
 have cc := P.cc
 have ke : ∀ n, env.kindOf n = C.names.lookup n := a.kind
 obtain ⟨rv, Uv, hrv⟩ := Uk ns
 have hl : fr.length = C.base := by
  by_cases q : fr.length = C.base
  ·exact q
  ·rw [if_neg q] at hrv; cases hrv
 rw [if_pos hl] at hrv
 have hrR : OZ ec em po a0 tgt isTup iifs fsrc C.base width fr U = .ok rv Uv := by unfold OZ; rw [if_pos hl, hrv]; rfl
 have n1 : fsrc fr U ≠ .stuck := fun q => by rw [q] at hrv; cases hrv
 have hclos : ∀ n, (n, NameKind.free) ∈ scope.names -> ∃ c, env.cells.lookup n = some c := fun n hn => by
  obtain ⟨hk, i, hi⟩ := cc.frees n hn
  obtain ⟨c, _, hc, _⟩ := a.F.cells n i hi (by rw [ke]; exact hk)
  exact ⟨c, hc⟩
 refine wpAny_comprehension_free P.cl (P.hs env) (Kx hclos) cc.kind cc.locals ?_
 refine wpAny_mono (P.src A fs env fr Z U s a n1) (fun x s1 hx => wpAny_mono hx (fun it s2 q => ?_) fun x s2 q => ?_) fun x s1 q => ?_
 rotate_left
 ·obtain ⟨c, _, _, _, _, w1, _⟩ := q
  rw [w1] at hrv; cases hrv
 ·obtain ⟨c, _, _, _, _, w1, _⟩ := q
  rw [w1] at hrv; cases hrv
 obtain ⟨src, U2, Z2, q1, q2, q3, ⟨own, J, wk, j0, ofr⟩, q5⟩ := q
 rw [q1] at hrv
 obtain ⟨r, Uf, hlr, hrv⟩ := R.bind_inv (m := Jy (Jq ec em tgt isTup iifs) src (fr ++ List.replicate width none, a0) U2) hrv
 obtain ⟨n, hrun⟩ := run_of (body := Jq ec em tgt isTup iifs) (src := src) (a := (fr ++ List.replicate width none, a0)) (U := U2) (by rw [hlr]; exact fun q => nomatch q)
 rw [hlr] at hrun
 cases r with
 | inr v => cases hrv
 | inl p =>
 cases hrv
 clear hlr n1
 refine P.new (wpAny_newFunctionEnv cc.nocell (by intro y hy; simp at hy) (fun h₁ hns₁ hsb₁ => ?_) cc.kind)
 dsimp only at hns₁ hsb₁ ⊢
 generalize hH2 : s2.heap.push o0 = H2 at hns₁ hsb₁ ⊢
 have hC : H2.objs.size = s2.heap.objs.size + 1 := by rw [← hH2, Heap.size_push]
 have D2 : s2.heap.get? s2.heap.objs.size = none := get?_size _
 have L2 : s2.heap.get? H2.objs.size = none := get?_oob (by rw [hC]; exact Nat.le_succ _)
 have DL : s2.heap.objs.size ≠ H2.objs.size := by rw [hC]; exact Nat.ne_of_lt (Nat.lt_succ_self _)
 have kp : ∀ b o, s2.heap.get? b = some o -> h₁.get? b = some o := fun b o e => hsb₁.extBut b o (by rw [hC]; exact Nat.ne_of_lt (Nat.lt_succ_of_lt (Heap.lt_size e))) (Heap.get?_push_of_some _ (hH2 ▸ Heap.get?_push_of_some _ e))
 have hD1 : h₁.get? s2.heap.objs.size = some o0 := hsb₁.extBut _ _ DL (Heap.get?_push_of_some _ (hH2 ▸ Heap.get?_push_size _ P.fresh))
 have up : ∀ {b o}, s.heap.get? b = some o -> ∃ o', s2.heap.get? b = some o' := fun e => q5.there _ _ e (by simp)
 have dn : ∀ {b}, s2.heap.get? b = none -> s.heap.get? b = none := fun {b} e => by
  cases q : s.heap.get? b with
  | none => rfl
  | some o => obtain ⟨o', e'⟩ := up q; rw [e] at e'; cases e'
 have T1 : Step [] fs Z2 Z2 s2.heap h₁ := Step.of_keeps kp
 have I1 : Rp X Z2 U2 h₁ := q3.keeps kp
 have fD : s2.heap.objs.size ∉ Je Z2 := q3.offNew D2
 have a2 : At X C lvl A fs env fr Z2 U2 s2 := a.next q3 q5
 have F1 : FrR X C'.Γ (compEnvC scope (Yp env scope.names []) H2.objs.size env) (fr ++ List.replicate width none) Z2 h₁ := comp_frame (s := s2) cc a2.F a.names q3 hl L2 kp hns₁
 have envx : ∀ b, b ∈ Jb (compEnvC scope (Yp env scope.names []) H2.objs.size env) -> b = H2.objs.size \/ ∃ o, s.heap.get? b = some o := fun b hb => by
  rcases List.mem_cons.mp hb with q | q
  ·exact .inl q
  ·right
   obtain ⟨⟨n, c'⟩, hm, rfl⟩ := List.mem_map.mp q
   rcases Zn hm with q | ⟨_, q⟩
   ·cases q
   ·obtain ⟨_, _, o, e, _⟩ := a.F.off c' (by simp [Jb]; exact .inr ⟨n, Ji q⟩)
    exact ⟨o, e⟩
 have fsx : ∀ b, b ∈ fs -> ∃ o, s.heap.get? b = some o := fun b hb => by
  obtain ⟨l, e1, e2, e3⟩ := a.ar.fr
  subst e2
  obtain ⟨_, o, ho, _⟩ := e3.mem hb
  exact ⟨o, ho⟩
 have ownx : ∀ b, b ∈ own -> ∃ o, s2.heap.get? b = some o := fun b hb => (wk.off j0 b hb).2.1
 have Wf : ∀ b, b ∈ own ++ [s2.heap.objs.size, H2.objs.size] -> s.heap.get? b = none := fun b hb => by
  rcases List.mem_append.mp hb with q | q
  ·exact ofr b q
  ·rcases List.mem_cons.mp q with q | q
   ·rw [q]; exact dn D2
   ·rw [List.mem_singleton.mp q]; exact dn L2
 have w : CW (compEnvC scope (Yp env scope.names []) H2.objs.size env) fs own (own ++ [s2.heap.objs.size, H2.objs.size]) s2.heap.objs.size := by
  refine ⟨fun x h => List.mem_append.mpr (.inl h), List.mem_append.mpr (.inr List.mem_cons_self), List.mem_append.mpr (.inr (List.mem_cons_of_mem _ List.mem_cons_self)), fun x h => ?_, fun b hb => ?_, fun b hb q => ?_, fun q => ?_⟩
  ·rcases List.mem_append.mp h with q | q
   ·exact .inl q
   ·rcases List.mem_cons.mp q with q | q
    ·exact .inr (.inl q)
    ·exact .inr (.inr (List.mem_singleton.mp q))
  ·obtain ⟨o, e⟩ := ownx b hb
   refine ⟨fun q => (by rw [q, D2] at e; cases e), fun q => ?_⟩
   rcases envx _ q with q | ⟨o, e'⟩
   ·rw [q, L2] at e; cases e
   ·rw [ofr b hb] at e'; cases e'
  ·obtain ⟨o, e⟩ := fsx b q
   rw [Wf b hb] at e; cases e
  ·rcases envx _ q with q | ⟨o, e⟩
   ·exact DL q
   ·rw [dn D2] at e; cases e
 have loop : ∀ s₃ : Shared, s₃ = { s2 with heap := h₁, toks := s2.toks + ([] : List (Str × Value)).length } ->
   codeAny (model X.prog X.w) A (.compLoop e 0 it (.ref s2.heap.objs.size) (compEnvC scope (Yp env scope.names []) H2.objs.size env)) (compPost (model X.prog X.w) A E use Q (.ref s2.heap.objs.size) H2.objs.size) s₃ := by
  rintro s₃ rfl
  refine comp_loop (Z1 := Z2) (s1 := { s2 with heap := h₁, toks := s2.toks + ([] : List (Str × Value)).length }) (P.quiet _ _ _) (P.under _ _ _ _) (P.turn _ _ _) P.K wk w P.okT P.tg P.tests (fun fr a Z U s at_ => P.em _ _ _ _ _ _ _ _ _ at_) (comp_names cc a.F.kind a.names) (by rw [cc.code]; exact a.cd) a.rm
   (fun {Z' s'} T => ?_) (JC a.I.base (dn D2)) (fun Z' s' I' ac off T E1 F' => ?_) hrun ⟨I1, wk.step j0 T1 Ja fun b hb => ⟨fun q => (nomatch q), w.dfs b (w.ow b hb)⟩, F1, P.z q3.size_ne hD1, fD, Step.refl, Ext.refl _⟩
  ·exact (a2.ar.step0 T1).step T fun b hb hW => absurd hb (w.dfs b hW)
  ·have T3 : Step [] fs Z Z' s.heap s'.heap := Step.loc' (q5.trans T1) T Wf
   have nf : Ze X Z' H2.objs.size := F'.free (s := s') List.mem_cons_self
   obtain ⟨m, hm, _⟩ := F'.ns
   refine fin Uf.length (Uf ++ [po p.2]) (Z' ++ [(s2.heap.objs.size, none)]) s' s2.heap.objs.size H2.objs.size m hrR ?_ (I'.adopt (P.K.th ac) off (JC a.I.base (dn D2)) (P.K.nt ac) (P.K.nt ac) (Heap.SameBut.refl _ _) (P.K.th ac) (P.K.ad ac)) ?_ (T3.adopt (dn D2)) hm ⟨fun q => ?_, nf.2⟩ (dn L2)
   ·refine Ext.trans q2 (Ext.trans ?_ E1)
    exact ⟨_, _, rfl⟩
   ·have : (Z' ++ [(s2.heap.objs.size, (none : Option Addr))])[Uf.length]? = some (s2.heap.objs.size, none) := by rw [← I'.len]; simp
    exact .loc this
   ·rw [Yl] at q
    rcases List.mem_append.mp q with q | q
    ·exact nf.1 q
    ·simp [Je, Jk] at q
     exact DL q.symm
 exact P.start (loop _ rfl) (wk.self (s := { s2 with heap := h₁, toks := s2.toks + ([] : List (Str × Value)).length }) (wk.step j0 T1 Ja fun b hb => ⟨fun q => (nomatch q), w.dfs b (w.ow b hb)⟩) _ _ (loop _ rfl))
end
theorem evE_compL {T : Tb} {n : Nat} {fr : Fr} {elt : IE} {tgt : List Nat} {isTup : Bool} {kind : Nat} {its ifs : List IE} {base width : Nat} {U : St} :
  evE T (n + 1) fr (.comp elt none tgt isTup kind its ifs base width) U = OZ (evC T n) (emL (evE T n) elt) .list [] tgt isTup ifs (YC (evE T n) kind its) base width fr U := rfl
theorem evE_compD {T : Tb} {n : Nat} {fr : Fr} {elt val : IE} {tgt : List Nat} {isTup : Bool} {kind : Nat} {its ifs : List IE} {base width : Nat} {U : St} :
  evE T (n + 1) fr (.comp elt (some val) tgt isTup kind its ifs base width) U = OZ (evC T n) (emD (evE T n) elt val) .dict [] tgt isTup ifs (YC (evE T n) kind its) base width fr U := rfl
section
variable {X : Cx} {S : SX} {C C' : SC} {lvl : Nat} {A : Around} {W fs : List Addr} {env : Env} {fr : Fr} {Z Z' : Rho} {U U' : St} {s s' : Shared}
noncomputable def ARL (h : Heap) (Z : Rho) (xs : List PV) (D : Addr) : Prop := ∃ items, h.PlainList D items /\ VReps h Z xs items.toList
theorem own_one {b D : Addr} (h : b ∈ Je [(D, (none : Option Addr))]) : b = D := List.mem_singleton.mp h
theorem arl_nt {h : Heap} {Z : Rho} {xs : List PV} {D : Addr} (r : ARL h Z xs D) : ∀ items, ¬ h.IsTuple D items := by
 obtain ⟨items, ⟨n, e⟩, r⟩ := r
 exact Yc e (show Value.type "list" ≠ Value.type "tuple" by decide)
theorem acc_list : Acc X ARL PO.list where
 step := by
  intro W fs Z Z' h h' a D T N dW df dO r
  obtain ⟨items, ⟨n, e⟩, r⟩ := r
  exact ⟨items, ⟨n, (T.keep D _ e dO dW).1 df⟩, r.step T N⟩
 nt := arl_nt
 th := fun r => (let ⟨_, ⟨_, e⟩, _⟩ := r; ⟨_, e⟩)
 ad := by
  intro h Z a D r
  have nt := arl_nt r
  obtain ⟨items, pl, r⟩ := r
  exact .list pl (r.more fun b q its => by rw [own_one q]; exact nt its)
theorem acc_dict : Acc X (DRep X) PO.dict where
 step := by
  intro W fs Z Z' h h' a D T N dW df dO r
  obtain ⟨ns, g, kvs, d, r⟩ := r
  exact ⟨ns, g, kvs, d.at fun o e => (T.keep D o e dO dW).1 df, r.step T N⟩
 nt := fun r => (Ju r).2
 th := fun r => (Ju r).1
 ad := by
  intro h Z a D r
  have nt := (Ju r).2
  obtain ⟨ns, g, kvs, d, r⟩ := r
  exact .dict ⟨ns, g, kvs, d, r.more fun b q its => by rw [own_one q]; exact nt its⟩
noncomputable def emitL (elt : Expr) (D : Addr) (env : Env) : Sem Unit := do let _ ← call (.builtin "list.append") [.ref D, ← eval elt env]
theorem em_list {elt : Expr} {ielt : IE} {ev : Fr -> IE -> St -> R PV} (h : EOk X C' lvl elt fun fr U => ev fr ielt U) : ∀ D A fs env fr a Z U s, At X C' lvl A fs env fr Z U s -> ARL s.heap Z a D -> D ∉ Je Z -> D ∉ fs -> X.base.get? D = none ->
  Ok X A [D] fs Z s (fun h Z a (_ : Unit) => ARL h Z a D) (emitL elt D env) (emL ev ielt fr a U) := fun D A fs env fr acc Z U s a R0 no nf nb => by
 have th : ∀ b, b ∈ [D] -> ∃ o, s.heap.get? b = some o := fun b hb => by rw [List.mem_singleton.mp hb]; exact acc_list.th (X := X) R0
 refine Ok.bind_ (h _ _ _ _ _ _ _ a) th fun v U' Z' u s' _ _ I' rv T => ?_
 obtain ⟨items, pl, r⟩ := acc_list.step (X := X) T Ja (by simp) nf no R0
 refine .guard fun hz => ?_
 have hz := JD hz
 have sz := JU (s := s') r
 have no' : D ∉ Je Z' := (Exists.elim (acc_list.th (X := X) R0) fun _ e => T.offNew e no)
 have nt := arl_nt (xs := acc) (h := s'.heap) (Z := Z') (D := D) ⟨items, pl, r⟩
 refine Ok.to fun Q E k => wpAny_bind (wpAny_list_append_plain pl (fun h' hl hs => wpAny_pure ?_) (by rw [sizeLine_eq]; lia))
 have N : JI [D] s'.heap := fun b hb => by rw [List.mem_singleton.mp hb]; exact nt
 have T2 : Step [D] fs Z' Z' s'.heap h' := Step.turn (.inr List.mem_cons_self) hs (Exists.elim hl fun _ e => ⟨_, e⟩)
 refine k () Z' { s' with heap := h' } ⟨h', s'.toks, rfl⟩ (I'.extBut ⟨no', nb⟩ nt hs.extBut) ⟨_, hl, ?_⟩ T2
 rw [Array.toList_push]
 exact (r.step T2 N).append (.cons (rv.step T2 N) .nil)
noncomputable def emitD (kx vx : Expr) (D : Addr) (env : Env) : Sem Unit := do
 let kv ← eval kx env
 let vv ← holding [kv] (eval vx env)
 standAt { kx.pos with endLine := vx.pos.endLine, endCol := vx.pos.endCol }
 holding [kv, vv] (dictSet D kv vv)
theorem em_dict {kx vx : Expr} {ik iv : IE} {ev : Fr -> IE -> St -> R PV} (hk : EOk X C' lvl kx fun fr U => ev fr ik U) (hv : EOk X C' lvl vx fun fr U => ev fr iv U) : ∀ D A fs env fr a Z U s, At X C' lvl A fs env fr Z U s -> DRep X s.heap Z a D -> D ∉ Je Z -> D ∉ fs -> X.base.get? D = none ->
  Ok X A [D] fs Z s (fun h Z a (_ : Unit) => DRep X h Z a D) (emitD kx vx D env) (emD ev ik iv fr a U) := fun D A fs env fr acc Z U s a R0 no nf nb => by
 have th : ∀ {h : Heap} {Z : Rho}, DRep X h Z acc D -> ∀ b, b ∈ [D] -> ∃ o, h.get? b = some o := fun r b hb => by rw [List.mem_singleton.mp hb]; exact (Ju r).1
 refine Ok.bind_ (hk _ _ _ _ _ _ _ a) (th R0) fun v U1 Z1 u s1 _ _ I1 rv T1 => ?_
 have R1 := acc_dict.step T1 Ja List.not_mem_nil nf no R0
 have no1 : D ∉ Je Z1 := (Exists.elim ((Ju R0).1) fun _ e => T1.offNew e no)
 refine Ok.bind_ (Ok.holding (hv _ _ _ _ _ _ _ (a.next I1 T1))) (th R1) fun w U2 Z2 x s2 _ _ I2 rw2 T2 => Ok.standAt (Ok.holding ?_)
 have R2 := acc_dict.step T2 Ja List.not_mem_nil nf no1 R1
 have no2 : D ∉ Je Z2 := (Exists.elim ((Ju R1).1) fun _ e => T2.offNew e no1)
 refine .guard fun hz => Ok.to fun Q E k => dictSet_ok R2 hz.1 hz.2 (rv.step T2 Ja) rw2 fun h' j D' hs => ?_
 exact k () Z2 { s2 with heap := h', toks := j } ⟨h', j, rfl⟩ (I2.extBut ⟨no2, nb⟩ (Ju R2).2 hs.extBut) D' (Step.turn (.inr List.mem_cons_self) hs (Ju D').1)
theorem Gf {elt target iter : Expr} {ifs : List Expr} {ielt : IE} {iifs its : List IE} {kind : Nat} {scope : Scope} {pos : Pos} {ok : Expr -> Bool} {tgt : List Nat} {isTup : Bool} {ev : Fr -> IE -> St -> R PV} {ec : Fr -> IE -> St -> R Bool}
  (hs : JX iter = true) (src : YK X C lvl iter ok (YC ev kind its)) (okT : ok target = true) (tg : ZQ C' target tgt isTup) (tests : All2 (fun e ie => BOk X C' lvl e fun fr U => ec fr ie U) ifs iifs) (h : EOk X C' lvl elt fun fr U => ev fr ielt U) (cc : UF C scope C') :
  CParts X C C' lvl (.ListComp elt [⟨target, iter, ifs, 0⟩] scope pos) target iter ifs iifs scope (newList []) (emitL elt) { cls := .type "list", data := .seq #[] } ARL PO.list [] ok tgt isTup ec (emL ev ielt) (YC ev kind its) where
 cl := rfl
 hs := fun env x => by cases iter <;> first | rfl | cases hs
 new := fun h => wpAny_newObj_type h
 start := fun h1 h2 => codeAny_compStart_list h1 h2
 fresh := rfl
 quiet := fun _ _ _ => rfl
 under := fun _ _ _ _ => rfl
 turn := fun _ _ _ => rfl
 K := acc_list
 z := fun _ e => ⟨#[], ⟨0, e⟩, .nil⟩
 src := src
 okT := okT
 tg := tg
 tests := tests
 em := em_list h
 cc := cc
theorem parts_dict {kx vx target iter : Expr} {ifs : List Expr} {ik iv : IE} {iifs its : List IE} {kind : Nat} {scope : Scope} {pos : Pos} {ok : Expr -> Bool} {tgt : List Nat} {isTup : Bool} {ev : Fr -> IE -> St -> R PV} {ec : Fr -> IE -> St -> R Bool}
  (hs : JX iter = true) (src : YK X C lvl iter ok (YC ev kind its)) (okT : ok target = true) (tg : ZQ C' target tgt isTup) (tests : All2 (fun e ie => BOk X C' lvl e fun fr U => ec fr ie U) ifs iifs) (hk : EOk X C' lvl kx fun fr U => ev fr ik U) (hv : EOk X C' lvl vx fun fr U => ev fr iv U) (cc : UF C scope C') :
  CParts X C C' lvl (.DictComp kx vx [⟨target, iter, ifs, 0⟩] scope pos) target iter ifs iifs scope newDict (emitD kx vx) { cls := .type "dict", data := .dict #[] } (DRep X) PO.dict [] ok tgt isTup ec (emD ev ik iv) (YC ev kind its) where
 cl := rfl
 hs := fun env x => by cases iter <;> first | rfl | cases hs
 new := fun h => wpAny_newObj_type h
 start := fun h1 h2 => codeAny_compStart_dict h1 h2
 fresh := rfl
 quiet := fun _ _ _ => rfl
 under := fun _ _ _ _ => rfl
 turn := fun _ _ _ => rfl
 K := acc_dict
 z := fun ns e => ⟨ns, .str, [], ⟨_, #[], 0, e, ⟨rfl, rfl, rfl⟩, rfl, fun _ he => absurd he (by simp), .nil, List.nodup_nil⟩, .nil⟩
 src := src
 okT := okT
 tg := tg
 tests := tests
 em := em_dict hk hv
 cc := cc
theorem comp_value {α : Type} {e target iter : Expr} {ifs : List Expr} {iifs : List IE} {scope : Scope} {pos : Pos} {newAcc : Sem Value} {emit : Addr -> Env -> Sem Unit} {o0 : Obj} {AR : Heap -> Rho -> α -> Addr -> Prop} {po : α -> PO} {a0 : α} {ok : Expr -> Bool}
  {tgt : List Nat} {isTup : Bool} {ec : Fr -> IE -> St -> R Bool} {em : Fr -> α -> St -> R α} {fsrc : Fr -> St -> R Src} {width : Nat}
  (P : CParts X C C' lvl e target iter ifs iifs scope newAcc emit o0 AR po a0 ok tgt isTup ec em fsrc) (a : At X C lvl A fs env fr Z U s) :
  Ok X A [] fs Z s VRep (comprehension e scope env pos newAcc false (eval iter env)) (OZ ec em po a0 tgt isTup iifs fsrc C.base width fr U) := fun ns => by
 refine comp_core P a ns fun l U' Z' s' D L m hr E I' r T hm fr' hL => ⟨m, hm, fun h' hs => ?_⟩
 have nd := Om hm
 have nt : ∀ items, ¬ s'.heap.IsTuple L items := fun items ⟨o, e, _, n, hd⟩ => by
  obtain ⟨o', e', q, _⟩ := nd
  rw [e] at e'; cases e'; exact q _ _ hd
 have S2 : Step [L] fs Z' Z' s'.heap h' := Step.extBut (by simp) hs.extBut
 refine ⟨.loc l, U', Z', hr, E.trans ⟨h', s'.toks, rfl⟩, I'.extBut fr' nt hs.extBut, ?_, Step.loc' T S2 (by simp; exact hL)⟩
 obtain ⟨p, e, hp⟩ := r.inv
 exact e ▸ .loc hp
theorem e_lcomp {T : Tb} {n : Nat} {elt target iter : Expr} {ifs : List Expr} {ielt : IE} {iifs its : List IE} {kind width : Nat} {scope : Scope} {pos : Pos} {ok : Expr -> Bool} {tgt : List Nat} {isTup : Bool}
  (hs : JX iter = true) (src : YK X C lvl iter ok (YC (evE T n) kind its)) (okT : ok target = true) (tg : ZQ C' target tgt isTup) (tests : All2 (fun e ie => BOk X C' lvl e fun fr U => evC T n fr ie U) ifs iifs) (h : EOk X C' lvl elt fun fr U => evE T n fr ielt U) (cc : UF C scope C') :
  EOk X C lvl (.ListComp elt [⟨target, iter, ifs, 0⟩] scope pos) fun fr U => evE T (n + 1) fr (.comp ielt none tgt isTup kind its iifs C.base width) U := fun A fs env fr Z U s a => by
 show Ok X A [] fs Z s VRep _ (evE T (n + 1) fr (.comp ielt none tgt isTup kind its iifs C.base width) U)
 rw [evE_compL, eval_ListComp]
 exact comp_value (Gf hs src okT tg tests h cc) a
theorem e_dcomp {T : Tb} {n : Nat} {kx vx target iter : Expr} {ifs : List Expr} {ik iv : IE} {iifs its : List IE} {kind width : Nat} {scope : Scope} {pos : Pos} {ok : Expr -> Bool} {tgt : List Nat} {isTup : Bool}
  (hs : JX iter = true) (src : YK X C lvl iter ok (YC (evE T n) kind its)) (okT : ok target = true) (tg : ZQ C' target tgt isTup) (tests : All2 (fun e ie => BOk X C' lvl e fun fr U => evC T n fr ie U) ifs iifs) (hk : EOk X C' lvl kx fun fr U => evE T n fr ik U) (hv : EOk X C' lvl vx fun fr U => evE T n fr iv U) (cc : UF C scope C') :
  EOk X C lvl (.DictComp kx vx [⟨target, iter, ifs, 0⟩] scope pos) fun fr U => evE T (n + 1) fr (.comp ik (some iv) tgt isTup kind its iifs C.base width) U := fun A fs env fr Z U s a => by
 show Ok X A [] fs Z s VRep (comprehension (.DictComp kx vx [⟨target, iter, ifs, 0⟩] scope pos) scope env (firstIterPos [⟨target, iter, ifs, 0⟩] pos) newDict (firstAsync [⟨target, iter, ifs, 0⟩]) (firstIter [⟨target, iter, ifs, 0⟩] env)) (evE T (n + 1) fr (.comp ik (some iv) tgt isTup kind its iifs C.base width) U)
 rw [evE_compD]
 exact comp_value (parts_dict hs src okT tg tests hk hv cc) a
end
section
variable {X : Cx} {S : SX} {C C' : SC} {lvl : Nat} {A : Around} {W fs : List Addr} {env : Env} {fr : Fr} {Z Z' : Rho} {U U' : St} {s s' : Shared}
theorem air_note {B : Heap} {outer : List Env} {a L : Addr} {cls a0 : Value} {Q : Unit -> Shared -> Prop} {E : Value -> Shared -> Prop} {M : Model} (hfr : A.frames = some (env :: outer)) (hf : env.frame = some L) (x : AirX B (env :: outer) a cls a0 s.heap)
  (h : ∀ h', Heap.HeldW B (env :: outer) a cls a0 L h' -> s.heap.UpToSlots h' -> Q () { s with heap := h' }) : wpAny M A (noteFrame (.ref a) env) Q E s := by
 rcases x with x | ⟨env', outer', L', e, hf', x⟩ | ⟨x1, x2, x3, oe, vs, x4, x5, x6, x7, x8⟩
 ·exact wpAny_looks_onW hfr hf x h
 ·cases e
  rw [hf] at hf'; cases hf'
  exact wpAny_noteFrame_againW hf x.2.2.2 (h s.heap x (.refl _))
 ·subst x5
  unfold noteFrame
  simp only [hf]
  refine wpAny_bind (wpAny_field x4 x6 x7 ?_)
  rw [if_neg (by decide)]
  refine wpAny_entryW (oe := oe) hfr x3 hf x4 x1 x2 x6 (Array.getElem?_eq_some_iff.mp x7).1 x8 fun h' k => h h' ⟨k.1, x2, k.2.1, k.2.2.1⟩ k.2.2.2
theorem air_leave {B : Heap} {outer : List Env} {a L : Addr} {cls a0 : Value} {Q : Unit -> Shared -> Prop} {E : Value -> Shared -> Prop} {M : Model} (hfr : A.frames = some (env :: outer)) (hf : env.frame = some L) (x : AirX B (env :: outer) a cls a0 s.heap)
  (h : ∀ h', Heap.FlyingW B outer a cls a0 h' -> s.heap.UpToSlots h' -> Q () { s with heap := h' }) : wpAny M A (leaving env (.ref a)) Q E s := by
 rcases x with x | ⟨env', outer', L', e, hf', x⟩ | ⟨x1, x2, x3, oe, vs, x4, x5, x6, x7, x8⟩
 ·exact wpAny_leaves_onW hfr hf x h
 ·cases e
  rw [hf] at hf'; cases hf'
  unfold leaving
  refine wpAny_bind (wpAny_noteFrame_againW hf x.2.2.2 ?_)
  refine wpAny_landsW x fun h' hfl hu => ?_
  obtain ⟨k1, k2, ⟨_, _, k3⟩, k4⟩ := hfl
  exact h h' ⟨k1, k2, k3, k4⟩ hu
 ·subst x5
  exact wpAny_leaving_firstW hfr x3 hf x4 x1 x2 x6 x7 x8 fun h' k => h h' ⟨k.1, x2, k.2.1.2.2, k.2.2.1⟩ k.2.2.2
theorem held_set {B : Heap} {l : List Env} {a L : Addr} {cls a0 : Value} {Q : Unit -> Shared -> Prop} {E : Value -> Shared -> Prop} {M : Model} (x : Heap.HeldW B l a cls a0 L s.heap)
  (h : ∀ h', Heap.HeldW B l a cls a0 L h' -> s.heap.UpToSlots h' -> Q () { s with heap := h' }) : wpAny M A (setFlight (.ref a) (some L)) Q E s := by
 obtain ⟨hkb, hen, hl, oe, vs, T, oT, ts, he, hcls, hd, h1, hnT, hTe, hT, hdT, h3⟩ := x
 have hsz3 : 3 < ts.size := (Array.getElem?_eq_some_iff.mp h3).1
 have other : ∀ b, b ≠ T -> (s.heap.update T (Obj.mapFields (·.setIfInBounds 3 ((some L).elim Value.none fun f => rawInt f)))).get? b = s.heap.get? b :=
  fun b hb => Heap.get?_update_other _ _ (Ne.symm hb)
 have noRecord : ∀ b o, s.heap.get? b = some o -> (∀ vs, o.data ≠ .fields vs) -> b ≠ T := fun b o hb hnf q => by
  rw [q, hT] at hb; injection hb with hb; subst hb; exact hnf ts hdT
 unfold setFlight
 refine wpAny_bind (wpAny_field he hd h1 ?_)
 rw [if_pos (show (Value.ref T != Value.none) = true from by simp)]
 refine wpAny_setField hT hdT hsz3 (h _ ⟨fun b o hbo => (other b fun q => by rw [q, hnT] at hbo; cases hbo).trans (hkb b o hbo), hen,
  hl.of_keeps fun b o hb hnf => ⟨o, (other b (noRecord b o hb hnf)).trans hb, rfl⟩, ?_⟩ fun b o hb hnf => ⟨o.slots, (other b (noRecord b o hb hnf)).trans hb⟩)
 exact ⟨oe, vs, T, _, _, (other a (Ne.symm hTe)).trans he, hcls, hd, h1, hnT, hTe, Heap.get?_update_self _ hT (Obj.isFreed_of_fields (Obj.data_mapFields hdT _)), Obj.data_mapFields hdT _, by simp [hsz3]⟩
noncomputable def Top (A : Around) (env : Env) : Prop := ∃ outer L, A.frames = some (env :: outer) /\ env.frame = some L
inductive PostH {α : Type} (X : Cx) (A : Around) (env : Env) (W fs : List Addr) (Z : Rho) (s : Shared) (r : R α) (e : Value) (s' : Shared) : Prop
 | mk (c : Nat) (U' : St) (Z' : Rho) (h₁ : Heap) (a : Addr) (l : List Env) (Bx : Heap) (a0 : Value) (L : Addr) (q : r = .exc c U') (w : e = .ref a) (x : Ext s s') (i : Rp X Z' U' h₁) (st : Step W fs Z Z' s.heap h₁) (fr : A.frames = some l) (k : ∀ b o, h₁.get? b = some o -> b ∉ fs -> Bx.get? b = some o)
  (el : env.frame = some L) (hw : Heap.HeldW Bx l a (.ref (X.cls c)) a0 L s'.heap) (u : h₁.UpToSlots s'.heap) (n : NsqF (l.filterMap (·.frame)) s'.heap)
theorem noted_ok {α : Type} {r : R α} (t : Top A env) {e : Value} (p : PostX X A W fs Z s r e s') : notedBy (model X.prog X.w) A env (PostH X A env W fs Z s r) e s' := by
 obtain ⟨c, U', Z', h₁, a, e1, e2, ⟨h', t', rfl⟩, e4, e5, l, Bx, a0, f1, f2, f3, f4, f5⟩ := p
 obtain ⟨outer, L, t1, t2⟩ := t
 rw [t1] at f1
 cases f1
 subst e2
 have fr3 := air_frames f3
 exact air_note t1 t2 f3 fun h'' hh hu => ⟨c, U', Z', h₁, a, _, Bx, a0, L, e1, rfl, ⟨h'', t', rfl⟩, e4, e5, t1, f2, t2, hh, f4.trans hu, f5.slots fr3 hu⟩
theorem back_ok {α : Type} {r : R α} (t : Top A env) {e : Value} (p : PostH X A env W fs Z s r e s') : cameBackBy (model X.prog X.w) A env (PostX X A W fs Z s r) e s' := by
 obtain ⟨c, U', Z', h₁, a, l, Bx, a0, L, e1, rfl, ⟨h0, t0, rfl⟩, e4, e5, f1, f2, hf, hh, f4, f5⟩ := p
 obtain ⟨outer, L', t1, t2⟩ := t
 rw [t1] at f1
 cases f1
 unfold cameBackBy
 have hh' := hh
 obtain ⟨_, _, _, oe, vs, T', oT, ts, he, _, hd, h1, _⟩ := hh'
 refine wpAny_bind (wpAny_field he hd h1 ?_)
 rw [if_neg (show ¬ ((Value.ref T' == Value.none) = true) from by simp)]
 rw [hf]
 exact held_set hh fun h'' hh'' hu => ⟨c, U', Z', h₁, a, e1, rfl, ⟨h'', t0, rfl⟩, e4, e5, _, Bx, a0, t1, f2, .inr (.inl ⟨env, outer, L, rfl, hf, hh''⟩), f4.trans hu, f5.slots hh.2.2.1 hu⟩
end
set_option tactic.hygienic true in
noncomputable def UE (X : Cx) (C : SC) (env : Env) : Heap -> Rho -> Fl -> Flow -> Prop := fun h Z fl flow => match fl with
 | .next fr' => (match flow with
  | .next => FrR X C.Γ env fr' Z h
  | _ => False)
 | .ret v => (match flow with
  | .ret u => VRep h Z v u
  | _ => False)
noncomputable def SOkS (X : Cx) (C : SC) (lvl : Nat) (st : Stmt) (f : Fr -> St -> R Fl) : Prop :=
 ∀ A fs env fr Z U s, At X C lvl A fs env fr Z U s -> Top A env -> Ok X A (Jb env) fs Z s (UE X C env) (exec st env) (f fr U)
noncomputable def Zq (X : Cx) (C : SC) (lvl : Nat) (sts : List Stmt) (f : Fr -> St -> R Fl) : Prop :=
 ∀ A fs env fr Z U s, At X C lvl A fs env fr Z U s -> Top A env -> Ok X A (Jb env) fs Z s (UE X C env) (execs sts env) (f fr U)
section
variable {X : Cx} {S : SX} {C C' : SC} {lvl : Nat} {A : Around} {W W1 fs : List Addr} {env : Env} {fr : Fr} {Z Z' : Rho} {U U' : St} {s s' : Shared}
theorem Step.locW {h h1 h3 : Heap} {Z Z1 Z2 : Rho} (T : Step W1 fs Z Z1 h h1) (S : Step W fs Z1 Z2 h1 h3) (hW : ∀ w, w ∈ W -> w ∈ W1 \/ h.get? w = none) (h1x : ∀ a, a ∈ W1 -> ∃ o, h1.get? a = some o) : Step W1 fs Z Z2 h h3 := by
 have nw : ∀ a o, h.get? a = some o -> a ∉ W1 -> a ∉ W := fun a o e n q => by
  rcases hW a q with q | q
  ·exact n q
  ·rw [q] at e; cases e
 refine ⟨?_, fun a o e n m => ?_, fun a o e m => ?_, fun a q => ?_, fun a w q => ?_⟩
 ·obtain ⟨τ, rfl⟩ := T.pre
  obtain ⟨τ', rfl⟩ := S.pre
  exact ⟨τ ++ τ', by simp⟩
 ·have n1 := T.offNew e n
  obtain ⟨k1, sl, k2⟩ := T.keep a o e n m
  refine ⟨fun nf => (S.keep a o (k1 nf) n1 (nw a o e m)).1 nf, ?_⟩
  obtain ⟨_, sl', k3⟩ := S.keep a _ k2 n1 (nw a o e m)
  exact ⟨sl', k3⟩
 ·obtain ⟨o', e'⟩ := T.there a o e m
  exact S.there a o' e' (nw a o e m)
 ·rcases S.fresh a q with q1 | q1
  ·exact T.fresh a q1
  ·right
   cases e : h.get? a with
   | none => rfl
   | some o =>
    exfalso
    by_cases m : a ∈ W1
    ·obtain ⟨o', e'⟩ := h1x a m; rw [e'] at q1; cases q1
    ·obtain ⟨o', e'⟩ := T.there a o e m; rw [e'] at q1; cases q1
 ·rcases S.fresh a q with q1 | q1
  ·exact T.apart a w q1
  ·obtain ⟨o', e'⟩ := h1x a w; rw [e'] at q1; cases q1
theorem PostX.from' {α β : Type} {r : R α} {r' : R β} {e : Value} {Zc : Rho} {sc : Shared} (p : PostX X A W fs Zc sc r' e s') (hr : ∀ c U', r' = .exc c U' -> r = .exc c U') (E : Ext s sc) (T : ∀ Z' h', Step W fs Zc Z' sc.heap h' -> Step W1 fs Z Z' s.heap h') : PostX X A W1 fs Z s r e s' := by
 obtain ⟨c, U', Z', h₁, a, e1, e2, e3, e4, e5, e6⟩ := p
 exact ⟨c, U', Z', h₁, a, hr _ _ e1, e2, E.trans e3, e4, T _ _ e5, e6⟩
noncomputable def YY (e : Expr) : Bool := e.ctorIdx == 8 || e.ctorIdx == 9 || e.ctorIdx == 10
theorem Zt {e : Expr} {t : Option Expr} {line : Nat} {env : Env} (h : YY e = false) : swapsWith e t line env = pure false := by
 cases e <;> first | rfl | cases h
noncomputable def isName (e : Expr) : Bool := e.ctorIdx == 23
theorem ZZ {e t : Expr} {line : Nat} {env : Env} (h : t.ctorIdx = 20) : swapsWith e (some t) line env = pure false :=
 Expr.Attribute.elim (motive_1 := fun t => swapsWith e (some t) line env = pure false) t h fun _ _ _ => by cases e <;> rfl
theorem inter_no (F : FrR X C.Γ env fr Z s.heap) : interactive env = false := by unfold interactive; rw [F.kind]; rfl
set_option tactic.hygienic true in
theorem s_expr {e : Expr} {pos : Pos} {f : Fr -> St -> R PV} (hc : YY e = false) (h : EOk X C lvl e f) : SOkS X C lvl (.Expr e pos) fun fr U => (f fr U).bind fun _ U => .ok (.next fr) U := fun A fs env fr Z U s a t => by
 show Ok X A _ fs Z s _ _ ((f fr U).bind fun _ U => .ok (Fl.next fr) U)
 rw [exec_Expr env e pos (inter_no a.F) (Zt hc)]
 refine Ok.standAt (Ok.bind_ (h _ _ _ _ _ _ _ a) a.thereW fun v U' Z' u s' _ _ I' r T => ?_)
 exact fun _ => wpAny_dropValue ⟨.next fr, U', Z', rfl, .refl _, I', a.F.step T, Step.refl⟩
theorem s_ret {e : Expr} {pos : Pos} {f : Fr -> St -> R PV} (h : EOk X C lvl e f) : SOkS X C lvl (.Return (some e) pos) fun fr U => (f fr U).bind fun v U => .ok (.ret v) U := fun A fs env fr Z U s a t => by
 show Ok X A _ fs Z s _ _ ((f fr U).bind fun v U => .ok (Fl.ret v) U)
 rw [arm_exec_Return]
 refine Ok.standAt (Ok.bind_ (h _ _ _ _ _ _ _ a) a.thereW fun v U' Z' u s' _ _ I' r T => ?_)
 exact Ok.ret I' r
theorem s_ret0 {pos : Pos} : SOkS X C lvl (.Return none pos) fun _ U => .ok (.ret .none) U := fun A fs env fr Z U s a t => by
 rw [arm_exec_Return]
 exact Ok.standAt (Ok.ret a.I .none)
theorem s_if {c : Expr} {b1 b2 : List Stmt} {pos : Pos} {g : Fr -> St -> R Bool} {f1 f2 : Fr -> St -> R Fl} (hc : BOk X C lvl c g) (h1 : Zq X C lvl b1 f1) (h2 : Zq X C lvl b2 f2) : SOkS X C lvl (.If c b1 b2 pos) fun fr U => (g fr U).bind fun b U => if b then f1 fr U else f2 fr U := fun A fs env fr Z U s a t => by
 show Ok X A _ fs Z s _ _ ((g fr U).bind fun b U => if b then f1 fr U else f2 fr U)
 rw [arm_exec_If]
 refine Ok.standAt (Ok.bind_ (hc _ _ _ _ _ _ _ a) a.thereW fun v U' Z' u s' _ _ I' r T => ?_)
 cases r
 cases v
 ·exact h2 _ _ _ _ _ _ _ (a.next I' T) t
 ·exact h1 _ _ _ _ _ _ _ (a.next I' T) t
set_option tactic.hygienic true in
theorem bl_nil : Zq X C lvl [] fun fr U => .ok (.next fr) U := fun A fs env fr Z U s a t => fun _ => wpAny_execs_nil ⟨.next fr, U, Z, rfl, .refl _, a.I, a.F, Step.refl⟩
set_option tactic.hygienic true in
theorem bl_cons {st : Stmt} {rest : List Stmt} {f g : Fr -> St -> R Fl} (h : SOkS X C lvl st f) (hr : Zq X C lvl rest g) : Zq X C lvl (st :: rest) fun fr U => (f fr U).bind fun fl U => match fl with
  | .next fr => g fr U
  | .ret v => .ok (.ret v) U := fun A fs env fr Z U s a t => by
 show Ok X A _ fs Z s _ _ ((f fr U).bind fun fl U => match fl with
  | .next fr => g fr U
  | .ret v => .ok (.ret v) U)
 rw [execs_cons]
 refine Ok.bind (h _ _ _ _ _ _ _ a t) fun fl U' Z' flow s' _ _ I' r T => ?_
 cases fl with
 | next fr' =>
  cases flow <;> first | exact r.elim | skip
  exact hr _ _ _ _ _ _ _ (a.nextW I' r T) t
 | ret v =>
  cases flow <;> first | exact r.elim | skip
  exact Ok.ret I' r
theorem ZF {t value : Expr} {pos : Pos} {env : Env} (hs : swapsWith value (some t) pos.line env = pure false) (hw : swappedStores [t] value env = pure none) (hn : Jl t = true) :
  exec (.Assign [t] value pos) env = (standAt pos >>= fun _ => eval value env >>= fun v => assign t env v >>= fun _ => pure .next) := by
 rw [arm_exec_Assign, show swapsWithSole [t] value pos.line env = swapsWith value (some t) pos.line env from rfl, hs, hw]
 have e1 : (assignEach [t] env).map (·.2) = [assign t env] := by rw [Oz [t] env (by simpa using hn)]; rfl
 rw [e1]
 rfl
set_option tactic.hygienic true in
theorem s_asg {t value : Expr} {pos : Pos} {f : Fr -> St -> R PV} {g : Fr -> PV -> St -> R Fr} (hs : ∀ env, env.scope.kind = .function -> env.scope.names = C.names -> swapsWith value (some t) pos.line env = pure false) (hw : ∀ env, env.scope.kind = .function -> env.scope.names = C.names -> swappedStores [t] value env = pure none) (hn : Jl t = true)
  (h : EOk X C lvl value f) (ht : TOk X C lvl t g) : SOkS X C lvl (.Assign [t] value pos) fun fr U => (f fr U).bind fun v U => (g fr v U).bind fun fr U => .ok (.next fr) U := fun A fs env fr Z U s a tp => by
 show Ok X A _ fs Z s _ _ ((f fr U).bind fun v U => (g fr v U).bind fun fr U => .ok (Fl.next fr) U)
 rw [ZF (hs env a.F.kind a.names) (hw env a.F.kind a.names) hn]
 refine Ok.standAt (Ok.bind_ (h _ _ _ _ _ _ _ a) a.thereW fun v U' Z' u s' _ _ I' r T => ?_)
 have a1 := a.next I' T
 refine Ok.bind (ht _ _ _ _ _ _ _ _ _ a1 r) fun fr' U2 Z2 _ s2 _ _ I2 F2 T2 => ?_
 exact Ok.ret I2 F2
theorem swap_eq {n1 n2 : Str} {ts : List Expr} {value : Expr} {k : Nat} {tp pos : Pos} {env : Env} (hs : swapsWith value (some (.Tuple ts k tp)) pos.line env = pure false) (hw : swappedStores [.Tuple ts k tp] value env = pure (some [n1, n2])) :
  exec (.Assign [.Tuple ts k tp] value pos) env = (standAt pos >>= fun _ => eval value env >>= fun v => rule "assign.swapped-stores" >>= fun _ => unpackItems v 2 none >>= fun us => assignInOrder [bindName env n2, bindName env n1] us.reverse >>= fun _ => pure .next) := by
 rw [arm_exec_Assign, show swapsWithSole [.Tuple ts k tp] value pos.line env = swapsWith value (some (.Tuple ts k tp)) pos.line env from rfl, hs, hw]
 rfl
theorem s_swap2 {n1 n2 : Str} {ts : List Expr} {value : Expr} {tp pos : Pos} {k i1 i2 : Nat} {f : Fr -> St -> R PV} (h1 : C.Γ.lookup n1 = some i1) (h2 : C.Γ.lookup n2 = some i2) (hk1 : C.names.lookup n1 = some .local) (hk2 : C.names.lookup n2 = some .local) (hi : i1 ≠ i2)
  (hs : ∀ env, env.scope.kind = .function -> env.scope.names = C.names -> swapsWith value (some (.Tuple ts k tp)) pos.line env = pure false) (hw : ∀ env, env.scope.kind = .function -> env.scope.names = C.names -> swappedStores [.Tuple ts k tp] value env = pure (some [n1, n2]))
  (h : EOk X C lvl value f) : SOkS X C lvl (.Assign [.Tuple ts k tp] value pos) fun fr U => (f fr U).bind fun v U => twoR (Yy U v) (setTwo fr i1 i2 U) := fun A fs env fr Z U s a tp' => by
 show Ok X A _ fs Z s _ _ ((f fr U).bind fun v U => twoR (Yy U v) (setTwo fr i1 i2 U))
 rw [swap_eq (hs env a.F.kind a.names) (hw env a.F.kind a.names)]
 refine Ok.standAt (Ok.bind_ (h _ _ _ _ _ _ _ a) a.thereW fun v U1 Z1 u s1 _ _ I1 r1 T1 => ?_)
 have a1 := a.next I1 T1
 have nf : ∀ n, C.names.lookup n = some .local -> env.kindOf n ≠ some .free := fun n hn => by rw [a.kind, hn]; exact fun q => nomatch q
 cases hv : Yy U1 v with
 | none => exact .stuck
 | some vs =>
 cases vs with
 | nil => exact .stuck
 | cons v1 vs =>
 cases vs with
 | nil => exact .stuck
 | cons v2 vs =>
 cases vs with
 | cons _ _ => exact .stuck
 | nil =>
  refine .guard fun hl _ => wpAny_bind (wpAny_rule (wpAny_bind (YU (vs := [v1, v2]) a1.ar.hd I1 r1 hv fun us h' hu I' T rr => ?_)))
  cases rr with
  | cons r1 rr =>
  cases rr with
  | cons r2 rr =>
  cases rr
  have a2 := a1.next (s' := { s1 with heap := h' }) I' (T [] fs)
  refine wpAny_bind (wpAny_bind (wpAny_holding (Yg a2.I a2.F (Ji h2) (nf _ hk2) r2 fun h3 k3 b3 hb3 _ I3 F3 T3 => ?_)))
  have S3 : Step (Jb env) fs Z1 Z1 h' h3 := T3 _ _ hb3
  refine wpAny_bind (wpAny_holding (Yg (s := { heap := h3, gens := s1.gens, drawn := s1.drawn, toks := k3, os := s1.os }) I3 F3 (Ji h1) (nf _ hk1) (r1.step S3 a2.noSeq) fun h4 k4 b4 hb4 _ I4 F4 T4 => wpAny_pure (wpAny_pure ?_)))
  refine ⟨_, U1, Z1, rfl, ⟨_, _, rfl⟩, I4, ?_, (T _ fs).trans (S3.trans (T4 _ _ hb4))⟩
  show FrR X C.Γ env ((fr.set i1 (some v1)).set i2 (some v2)) Z1 h4
  rw [List.set_comm _ _ hi]; exact F4
set_option tactic.hygienic true in
theorem comp_store {α : Type} {e target iter : Expr} {ifs : List Expr} {iifs : List IE} {scope : Scope} {pos : Pos} {newAcc : Sem Value} {emit : Addr -> Env -> Sem Unit} {o0 : Obj} {AR : Heap -> Rho -> α -> Addr -> Prop} {po : α -> PO} {a0 : α} {ok : Expr -> Bool}
  {tgt : List Nat} {isTup : Bool} {ec : Fr -> IE -> St -> R Bool} {em : Fr -> α -> St -> R α} {fsrc : Fr -> St -> R Src} {width : Nat} {n : Str} {i : Nat} {np : Pos}
  (P : CParts X C C' lvl e target iter ifs iifs scope newAcc emit o0 AR po a0 ok tgt isTup ec em fsrc) (hm : (n, i) ∈ C.Γ) (hk : C.names.lookup n = some .local) (a : At X C lvl A fs env fr Z U s) :
  Ok X A (Jb env) fs Z s (UE X C env) (comprehension e scope env pos newAcc false (eval iter env) (some (assign (.Name n np) env)) >>= fun _ => pure .next)
   ((OZ ec em po a0 tgt isTup iifs fsrc C.base width fr U).bind fun v U => (if i < fr.length then .ok (fr.set i (some v)) U else .stuck : R Fr).bind fun fr U => .ok (.next fr) U) := fun ns => by
 have n1 : OZ ec em po a0 tgt isTup iifs fsrc C.base width fr U ≠ .stuck := fun q => by rw [q] at ns; exact ns rfl
 refine wpAny_bind (comp_core P a n1 fun l U' Z' s' D L m hr E I' r T hn fr' hL => ?_)
 rw [hr] at ns
 simp only [R.bind_ok] at ns
 have hlt : i < fr.length := by
  by_cases q : i < fr.length
  ·exact q
  ·rw [if_neg q] at ns; exact absurd rfl ns
 have a1 : At X C lvl A fs env fr Z' U' s' := a.next I' T
 have hk' : env.kindOf n ≠ some .free := by rw [a.kind, hk]; simp
 show wpAny _ _ (assign (.Name n np) env (.ref D)) _ _ s'
 rw [arm_assign_Name]
 refine wpAny_bind (wpAny_standAt (Yg a1.I a1.F hm hk' r fun h2 k2 b hb _ I2 F2 T2 => ⟨m, ?_, fun h3 hs => wpAny_pure ?_⟩))
 ·have hne : L ≠ b := fun q => by subst q; obtain ⟨o, e⟩ := a.thereW L hb; rw [hL] at e; cases e
  obtain ⟨o, es, ep, ho, r⟩ := hn
  have S2 := T2 [b] [] (by simp)
  exact Gh ⟨o, es, ep, ho, r⟩ fun o ho => (S2.keep L o ho fr'.1 (by simpa using hne)).2
 ·have nd := Om hn
  have hne : ∀ b, b ∈ Jb env -> b ≠ L := fun b hb q => by subst q; obtain ⟨o, e⟩ := a.thereW b hb; rw [hL] at e; cases e
  have nt : ∀ items, ¬ h2.IsTuple L items := fun items ⟨o, e, c, n, hd⟩ => by
   obtain ⟨o', e', q, _⟩ := nd
   have := (T2 [b] [] (by simp)).keep L o' e' fr'.1 (by simpa using (hne b hb).symm)
   have := this.1 (by simp)
   rw [this] at e
   cases e
   exact q _ _ hd
  have N : JI [L] h2 := fun x hx => by simp at hx; subst hx; exact nt
  have S3 : Step [L] fs Z' Z' h2 h3 := Step.extBut (by simp) hs.extBut
  have f2 : Ze X Z' L := fr'
  have TT : Step (Jb env) fs Z Z' s.heap h2 := (T.mono (by simp) a.thereW).trans (T2 _ _ hb)
  refine ⟨.next (fr.set i (some (.loc l))), U', Z', ?_, ?_, I2.extBut f2 nt hs.extBut, F2.stepW S3 (fun x hx q => by simp at q; exact hne x hx q) N, Step.locW TT S3 (by simp; exact .inr hL) fun x hx => ?_⟩
  ·rw [hr]; simp only [R.bind_ok]; rw [if_pos hlt]; rfl
  ·obtain ⟨hh, tt, rfl⟩ := E
   exact ⟨_, _, rfl⟩
  ·obtain ⟨_, _, o, e, _⟩ := F2.off x hx; exact ⟨o, e⟩
end
section
variable {X : Cx} {S : SX} {C C' : SC} {lvl : Nat} {A : Around} {W W1 fs : List Addr} {env : Env} {fr : Fr} {Z Z' : Rho} {U U' : St} {s s' : Shared}
noncomputable def WInv (X : Cx) (C : SC) (lvl : Nat) (A : Around) (fs : List Addr) (env : Env) (Z : Rho) (s : Shared) (g : Fr -> St -> R Bool) (f : Fr -> St -> R Fl) (r : R Fl) (n : Nat) (s' : Shared) : Prop := ∃ fr' U' Z', Ki g f n fr' U' = r /\ At X C lvl A fs env fr' Z' U' s' /\ Ext s s' /\ Step (Jb env) fs Z Z' s.heap s'.heap
set_option tactic.hygienic true in
theorem s_while {c : Expr} {b : List Stmt} {pos : Pos} {g : Fr -> St -> R Bool} {f : Fr -> St -> R Fl} {k : Nat} (hc : BOk X C lvl c g) (hb : Zq X C lvl b f) : SOkS X C lvl (.While c b [] pos) fun fr U => OD (Ki g f k fr U) := fun A fs env fr Z U s a t => by
 show Ok X A _ fs Z s (UE X C env) _ (OD (Ki g f k fr U))
 intro ns
 obtain ⟨fl, Uf, hrun⟩ := Uk ns
 rw [show OD (Ki g f k fr U) = .ok fl Uf by rw [hrun]; rfl]
 clear ns
 refine wpAny_While (codeAny_whileLoop (WInv X C lvl A fs env Z s g f (.ok fl Uf)) (fun n s1 hI => ?_) k ⟨fr, U, Z, hrun, a, .refl _, Step.refl⟩)
 obtain ⟨fr1, U1, Z1, hr, a1, E1, T1⟩ := hI
 cases n with
 | zero => cases hr
 | succ n =>
  obtain ⟨v, U2, hg, hr⟩ := R.bind_inv hr
  refine wpAny_mono (hc _ _ _ _ _ _ _ a1 (by rw [hg]; exact fun q => nomatch q)) (fun u s2 p => ?_) fun e s2 p => ?_
  ·obtain ⟨_, _, Z2, q1, q2, q3, q4, q5⟩ := p
   cases hg.symm.trans q1
   cases q4
   have a2 := a1.next q3 q5
   have T2 := T1.trans (q5.mono (fun _ q => nomatch q) a1.thereW)
   cases v with
   | false =>
    cases hr
    exact wpAny_execs_nil ⟨_, _, _, rfl, E1.trans q2, q3, a2.F, T2⟩
   | true =>
    obtain ⟨fl3, U3, hf, hr⟩ := R.bind_inv hr
    refine wpAny_mono (hb _ _ _ _ _ _ _ a2 t (by rw [hf]; exact fun q => nomatch q)) (fun flow s3 p => ?_) fun e s3 p => ?_
    ·obtain ⟨_, _, Z3, w1, w2, w3, w4, w5⟩ := p
     cases hf.symm.trans w1
     cases fl3 with
     | next fr3 =>
      cases flow <;> first | exact w4.elim | skip
      exact ⟨n, Nat.lt_succ_self _, fr3, U3, Z3, hr, a2.nextW w3 w4 w5, (E1.trans q2).trans w2, T2.trans w5⟩
     | ret v =>
      cases flow <;> first | exact w4.elim | skip
      cases hr
      exact ⟨_, _, _, rfl, (E1.trans q2).trans w2, w3, w4, T2.trans w5⟩
    ·obtain ⟨c, _, _, _, _, w1, _⟩ := p
     cases hf.symm.trans w1
  ·obtain ⟨c, _, _, _, _, w1, _⟩ := p
   cases hg.symm.trans w1
theorem fsThere (a : AOK X A fs Z s.heap) : ∀ b, b ∈ fs -> ∃ o, s.heap.get? b = some o := fun b hb => by
 obtain ⟨l, e1, e2, e3⟩ := a.fr
 subst e2
 obtain ⟨_, o, ho, _⟩ := e3.mem hb
 exact ⟨o, ho⟩
structure FInv (X : Cx) (C : SC) (lvl : Nat) (A : Around) (fs : List Addr) (env : Env) (J : Nat -> Heap -> Rho -> Prop) (W : List Addr) (Z2 : Rho) (s2 : Shared) (i : Nat) (fr : Fr) (U : St) (Z : Rho) (s : Shared) : Prop where
 a : At X C lvl A fs env fr Z U s
 j : J i s.heap Z
 E : Ext s2 s
 T : Step W fs Z2 Z s2.heap s.heap
structure FW (env : Env) (fs own W : List Addr) : Prop where
 ow : ∀ x, x ∈ own -> x ∈ W
 frm : ∀ x, x ∈ Jb env -> x ∈ W
 all : ∀ x, x ∈ W -> x ∈ own \/ x ∈ Jb env
 off : ∀ x, x ∈ own -> x ∉ Jb env /\ x ∉ fs
section
variable {src : Src} {it : Value} {own : List Addr} {ok : Expr -> Bool} {J : Nat -> Heap -> Rho -> Prop} {Z2 : Rho} {s2 : Shared} {i : Nat}
theorem FInv.th (V : FInv X C lvl A fs env J W Z2 s2 i fr U Z s) (wk : Wk X A src it own ok J) (w : FW env fs own W) : ∀ x, x ∈ W -> ∃ o, s.heap.get? x = some o := fun x hx => by
 rcases w.all x hx with q | q
 ·exact (wk.off V.j x q).2.1
 ·exact V.a.thereW x q
theorem FInv.next (V : FInv X C lvl A fs env J W Z2 s2 i fr U Z s) (wk : Wk X A src it own ok J) (w : FW env fs own W) {h' : Heap} {k : Nat} (I' : Rp X Z U h') (j' : J (i + 1) h' Z) (T' : ∀ fs, Step own fs Z Z s.heap h') : FInv X C lvl A fs env J W Z2 s2 (i + 1) fr U Z { s with heap := h', toks := k } :=
 ⟨⟨I', V.a.F.stepW (T' fs) (fun x hx q => (w.off x q).1 hx) (fun b hb => (wk.off V.j b hb).2.2), V.a.names, V.a.ar.step (T' fs) fun L hL q => absurd hL (w.off L q).2, V.a.rm, V.a.cd⟩, j', V.E.trans ⟨h', k, rfl⟩, V.T.trans ((T' fs).mono w.ow (V.th wk w))⟩
theorem FInv.go (V : FInv X C lvl A fs env J W Z2 s2 i fr U Z s) (wk : Wk X A src it own ok J) (w : FW env fs own W) {fr' : Fr} (E : Ext s s') (I : Rp X Z' U' s'.heap) (F : FrR X C.Γ env fr' Z' s'.heap) (T : Step (Jb env) fs Z Z' s.heap s'.heap) : FInv X C lvl A fs env J W Z2 s2 i fr' U' Z' s' :=
 ⟨V.a.nextW I F T, wk.step V.j T V.a.noSeq (fun x hx => w.off x hx), V.E.trans E, V.T.trans (T.mono w.frm (V.th wk w))⟩
noncomputable def turnQ (X : Cx) (A : Around) (env : Env) (target : Expr) (body : List Stmt) (P : Shared -> Prop) (R : Result -> Shared -> Prop) (u : Value) (s4 : Shared) : Prop :=
 wpAny (model X.prog X.w) A (assign target env u) (fun _ s₂ => wpAny (model X.prog X.w) A (execs body env) (fun f s₃ => match f with
  | .next | .cont => P s₃
  | .brk => R (.ok .next) s₃
  | .ret v => R (.ok (.ret v)) s₃) (notedBy (model X.prog X.w) A env fun e s' => R (.error e) s') s₂) (notedBy (model X.prog X.w) A env fun e s' => R (.error e) s') s4
set_option tactic.hygienic true in
theorem for_turn {target : Expr} {body : List Stmt} {evT : Fr -> IT -> PV -> St -> R Fr} {evSs : Fr -> List IS -> St -> R Fl} {t : IT} {b : List IS} {P : Shared -> Prop} {R : Result -> Shared -> Prop} {x : PV} {u : Value} {r' : Mine.R (Sum Fr PV)}
  (wk : Wk X A src it own ok J) (w : FW env fs own W) (tp : Top A env) (ht : TOk X C lvl target fun fr v U => evT fr t v U) (hb : Zq X C lvl body fun fr U => evSs fr b U)
  (V : FInv X C lvl A fs env J W Z2 s2 i fr U Z s) (ru : VRep s.heap Z x u) (hbody : JK evT evSs t b x fr U = r') (nn : r' ≠ .stuck)
  (hnext : ∀ fr' U' Z' s', r' = .ok (.inl fr') U' -> FInv X C lvl A fs env J W Z2 s2 i fr' U' Z' s' -> P s')
  (hret : ∀ v u U' Z' s', r' = .ok (.inr v) U' -> Ext s2 s' -> Rp X Z' U' s'.heap -> VRep s'.heap Z' v u -> Step W fs Z2 Z' s2.heap s'.heap -> R (.ok (.ret u)) s')
  (hexc : ∀ {β : Type} (q : Mine.R β) e fr' U' Zc sc s', PostX X A (Jb env) fs Zc sc q e s' -> (∀ c U', q = .exc c U' -> r' = .exc c U') -> FInv X C lvl A fs env J W Z2 s2 i fr' U' Zc sc -> notedBy (model X.prog X.w) A env (fun e s' => R (.error e) s') e s') :
  turnQ X A env target body P R u s := by
 subst hbody
 have m1 : evT fr t x U ≠ .stuck := fun q => nn (congrArg (fun m => Mine.R.bind m _) q)
 refine wpAny_mono (ht _ _ _ _ _ _ _ _ _ V.a ru m1) (fun _ s5 p => ?_) fun e s5 p => hexc _ e fr U Z s s5 p (fun c U' q => congrArg (fun m => Mine.R.bind m _) q) V
 obtain ⟨fr5, U5, Z5, w1, w2, w3, w4, w5⟩ := p
 have V5 := V.go wk w w2 w3 w4 w5
 have e0 : JK evT evSs t b x fr U = (evSs fr5 b U5).bind fun fl U => match fl with
  | .next fr => .ok (.inl fr) U
  | .ret v => .ok (.inr v) U := congrArg (fun m => Mine.R.bind m _) w1
 rw [e0] at nn hnext hret hexc
 have m2 : evSs fr5 b U5 ≠ .stuck := fun q => nn (congrArg (fun m => Mine.R.bind m _) q)
 refine wpAny_mono (hb _ _ _ _ _ _ _ V5.a tp m2) (fun flow s6 p => ?_) fun e s6 p => hexc _ e fr5 U5 Z5 s5 s6 p (fun c U' q => congrArg (fun m => Mine.R.bind m _) q) V5
 obtain ⟨fl6, U6, Z6, z1, z2, z3, z4, z5⟩ := p
 cases fl6 with
 | next fr6 =>
  cases flow <;> first | exact z4.elim | skip
  exact hnext fr6 U6 Z6 s6 (congrArg (fun m => Mine.R.bind m _) z1) (V5.go wk w z2 z3 z4 z5)
 | ret v =>
  cases flow <;> first | exact z4.elim | skip
  exact hret v _ U6 Z6 s6 (congrArg (fun m => Mine.R.bind m _) z1) (V5.E.trans z2) z3 z4 (V5.T.trans (z5.mono w.frm (V5.th wk w)))
noncomputable def FLoop (X : Cx) (C : SC) (lvl : Nat) (A : Around) (fs : List Addr) (env : Env) (J : Nat -> Heap -> Rho -> Prop) (W : List Addr) (Z2 : Rho) (s2 : Shared) (src : Src) (body : PV -> Fr -> St -> Mine.R (Sum Fr PV)) (lr : Mine.R (Sum Fr PV)) (n : Nat) (s' : Shared) : Prop :=
 ∃ i fr' U' Z', Run body src n i fr' U' lr /\ FInv X C lvl A fs env J W Z2 s2 i fr' U' Z' s'
set_option tactic.hygienic true in
theorem for_go {target : Expr} {body : List Stmt} {evT : Fr -> IT -> PV -> St -> R Fr} {evSs : Fr -> List IS -> St -> R Fl} {t : IT} {b : List IS} {R : Result -> Shared -> Prop} {lr : Mine.R (Sum Fr PV)} {n : Nat}
  (wk : Wk X A src it own ok J) (w : FW env fs own W) (tp : Top A env) (okT : ok target = true) (ht : TOk X C lvl target fun fr v U => evT fr t v U) (hb : Zq X C lvl body fun fr U => evSs fr b U)
  (hr : Run (JK evT evSs t b) src n i fr U lr) (V : FInv X C lvl A fs env J W Z2 s2 i fr U Z s)
  (hnext : ∀ fr' U' Z' s', lr = .ok (.inl fr') U' -> Ext s2 s' -> Rp X Z' U' s'.heap -> FrR X C.Γ env fr' Z' s'.heap -> Step W fs Z2 Z' s2.heap s'.heap -> R (.ok .next) s')
  (hret : ∀ v u U' Z' s', lr = .ok (.inr v) U' -> Ext s2 s' -> Rp X Z' U' s'.heap -> VRep s'.heap Z' v u -> Step W fs Z2 Z' s2.heap s'.heap -> R (.ok (.ret u)) s')
  (hexc : ∀ {β : Type} (q : Mine.R β) e Zc sc s', PostX X A (Jb env) fs Zc sc q e s' -> (∀ c U', q = .exc c U' -> lr = .exc c U') -> Ext s2 sc -> (∀ x, x ∈ W -> ∃ o, sc.heap.get? x = some o) -> Step W fs Z2 Zc s2.heap sc.heap -> notedBy (model X.prog X.w) A env (fun e s' => R (.error e) s') e s') :
  codeAny (model X.prog X.w) A (.forLoop target it body [] env) R s := by
 refine codeAny_forLoop_any (FLoop X C lvl A fs env J W Z2 s2 src (JK evT evSs t b) lr) (fun n s3 hI => ?_) n ⟨i, fr, U, Z, hr, V⟩
 clear hr V
 obtain ⟨i, fr3, U3, Z3, hr, V⟩ := hI
 rcases run_cases hr with ⟨hat, e⟩ | ⟨x, r', hat, hbody, nn, hx, hn, hv⟩
 ·refine wk.fin V.j V.a.I hat _ _ fun h' k I' T' => wpAny_execs_nil ?_
  exact hnext fr3 U3 Z3 { s3 with heap := h', toks := k } e (V.E.trans ⟨h', k, rfl⟩) I' (V.a.F.stepW (T' fs) (fun x hx q => (w.off x q).1 hx) fun b hb => (wk.off V.j b hb).2.2) (V.T.trans ((T' fs).mono w.ow (V.th wk w)))
 ·refine wpAny_mono (wk.next V.j V.a.I hat target (turnQ X A env target body (fun s₃ => ∃ m, m < n /\ FLoop X C lvl A fs env J W Z2 s2 src (JK evT evSs t b) lr m s₃) R) (notedBy (model X.prog X.w) A env fun e s' => R (.error e) s') okT fun u h' k I' j' T' ru =>
   for_turn wk w tp ht hb (V.next wk w I' j' T') ru hbody nn (fun fr' U' Z' s' q V' => (let ⟨m, h1, h2⟩ := hn _ _ q; ⟨m, h1, _, _, _, _, h2, V'⟩))
    (fun v u U' Z' s' q => hret v u U' Z' s' (hv v U' q)) fun q e fr' U' Zc sc s' p hq V' => hexc q e Zc sc s' p (fun c U' z => hx c U' (hq c U' z)) V'.E (V'.th wk w) V'.T) (fun r s1 h => ?_) fun _ _ q => q
  cases r with
  | none => exact h.elim
  | some v => exact h
end
set_option tactic.hygienic true in
theorem s_for {target iter : Expr} {body : List Stmt} {pos : Pos} {ev : Fr -> IE -> St -> R PV} {evT : Fr -> IT -> PV -> St -> R Fr} {evSs : Fr -> List IS -> St -> R Fl} {t : IT} {b : List IS} {its : List IE} {kind : Nat} {ok : Expr -> Bool}
  (hs : JX iter = true) (src : YK X C lvl iter ok (YC ev kind its)) (okT : ok target = true) (ht : TOk X C lvl target fun fr v U => evT fr t v U) (hb : Zq X C lvl body fun fr U => evSs fr b U) :
  SOkS X C lvl (.For target iter body [] pos) fun fr U => (YC ev kind its fr U).bind fun src U => (Jy (JK evT evSs t b) src fr U).bind forEnd := fun A fs env fr Z U s a tp => by
 show Ok X A (Jb env) fs Z s (UE X C env) _ ((YC ev kind its fr U).bind fun src U => (Jy (JK evT evSs t b) src fr U).bind forEnd)
 intro ns
 refine wpAny_For ?_ (fun x => by cases iter <;> first | rfl | cases hs)
 have n1 : YC ev kind its fr U ≠ .stuck := fun q => ns (by rw [q]; rfl)
 generalize hres : ((YC ev kind its fr U).bind fun src U => (Jy (JK evT evSs t b) src fr U).bind forEnd : R Fl) = res at ns ⊢
 have up : ∀ {c U'}, YC ev kind its fr U = .exc c U' -> res = .exc c U' := fun q => by rw [← hres, q]; rfl
 refine wpAny_mono (src A fs env fr Z U s a n1) (fun x s1 hx => wpAny_mono hx (fun it s2 q => ?_) fun x s2 q => ?_) fun x s1 q => ?_
 rotate_left
 ·exact q.from' (fun c U' q => up q) (.refl _) fun _ _ T => T.mono (fun _ q => nomatch q) a.thereW
 ·exact q.from' (fun c U' q => up q) (.refl _) fun _ _ T => T.mono (fun _ q => nomatch q) a.thereW
 clear up
 obtain ⟨sr, U2, Z2, q1, q2, q3, ⟨own, J, wk, j0, ofr⟩, q5⟩ := q
 have hres : (Jy (JK evT evSs t b) sr fr U2).bind forEnd = res := by rw [← hres, q1]; rfl
 have n2 : Jy (JK evT evSs t b) sr fr U2 ≠ .stuck := fun q => ns (by rw [← hres, q]; rfl)
 obtain ⟨n, hrun⟩ := run_of n2
 generalize Jy (JK evT evSs t b) sr fr U2 = lr at hres hrun
 have w : FW env fs own (own ++ Jb env) := ⟨fun x h => List.mem_append.mpr (.inl h), fun x h => List.mem_append.mpr (.inr h), fun x h => List.mem_append.mp h,
  fun x hx => ⟨fun q => (by obtain ⟨o, e⟩ := a.thereW x q; rw [ofr x hx] at e; cases e), fun q => (by obtain ⟨o, e⟩ := fsThere a.ar x q; rw [ofr x hx] at e; cases e)⟩⟩
 have T2 : Step (Jb env) fs Z Z2 s.heap s2.heap := q5.mono (fun _ q => nomatch q) a.thereW
 have a2 : At X C lvl A fs env fr Z2 U2 s2 := a.next q3 q5
 have lift : ∀ {Z' : Rho} {h' : Heap}, Step (own ++ Jb env) fs Z2 Z' s2.heap h' -> Step (Jb env) fs Z Z' s.heap h' := fun T => Step.locW T2 T (fun x hw => (w.all x hw).elim (fun q => .inr (ofr x q)) .inl) a2.thereW
 refine for_go (Z2 := Z2) (s2 := s2) wk w tp okT ht hb hrun ⟨a2, j0, .refl _, Step.refl⟩ (fun fr' U' Z' s' e E I F T => ?_) (fun v u U' Z' s' e E I r T => ?_) fun q e Zc sc s' p hq E th T => ?_
 ·exact ⟨.next fr', U', Z', by rw [← hres, e]; rfl, q2.trans E, I, F, lift T⟩
 ·exact ⟨.ret v, U', Z', by rw [← hres, e]; rfl, q2.trans E, I, r, lift T⟩
 ·have p2 : PostX X A (Jb env) fs Z s res _ _ := p.from' (fun c U' z => by rw [← hres, hq c U' z]; rfl) (q2.trans E) fun _ _ T' => lift (T.trans (T'.mono w.frm th))
  exact wpAny_mono (noted_ok tp p2) (fun _ _ q => back_ok tp q) fun _ _ q => back_ok tp q
end
theorem bindL_get {kd : Str -> Option NameKind} {n : Str} {v : Value} : ∀ {ns : List Str} {us : List Value} {m : Str -> Option Value} {i : Nat}, ns.Nodup -> ns[i]? = some n -> us[i]? = some v -> kd n = some .local -> bindL kd (ns.zip us) m n = some v := by
 intro ns
 have keep : ∀ (ns : List Str) (us : List Value) (m : Str -> Option Value), n ∉ ns -> bindL kd (ns.zip us) m n = m n := by
  intro ns
  induction ns with
  | nil => intros; rfl
  | cons x ns ih =>
   intro us m hn
   cases us with
   | nil => rfl
   | cons u us =>
    rw [List.zip_cons_cons]
    unfold bindL
    rw [ih us _ (fun h => hn (List.mem_cons_of_mem _ h))]
    have : n ≠ x := fun e => hn (e ▸ List.mem_cons_self)
    split <;> simp [this]
 induction ns with
 | nil => intro us m i _ h; simp at h
 | cons x ns ih =>
  intro us m i nd h1 h2 hl
  cases us with
  | nil => simp at h2
  | cons u us =>
   rw [List.zip_cons_cons]
   unfold bindL
   obtain ⟨nx, nd⟩ := List.nodup_cons.mp nd
   cases i with
   | zero =>
    simp at h1 h2
    subst h1 h2
    rw [keep ns us _ nx, if_pos hl]
    simp
   | succ i => exact ih nd (by simpa using h1) (by simpa using h2) hl
theorem bindC_get {kd : Str -> Option NameKind} {n : Str} {v : Value} : ∀ {ns : List Str} {us : List Value} {m : Str -> Option Value} {i : Nat}, ns.Nodup -> ns[i]? = some n -> us[i]? = some v -> kd n ≠ some .local -> bindC kd (ns.zip us) m n = some v := by
 intro ns
 have keep : ∀ (ns : List Str) (us : List Value) (m : Str -> Option Value), n ∉ ns -> bindC kd (ns.zip us) m n = m n := by
  intro ns
  induction ns with
  | nil => intros; rfl
  | cons x ns ih =>
   intro us m hn
   cases us with
   | nil => rfl
   | cons u us =>
    rw [List.zip_cons_cons]
    unfold bindC
    rw [ih us _ (fun h => hn (List.mem_cons_of_mem _ h))]
    have : n ≠ x := fun e => hn (e ▸ List.mem_cons_self)
    split <;> simp [this]
 induction ns with
 | nil => intro us m i _ h; simp at h
 | cons x ns ih =>
  intro us m i nd h1 h2 hl
  cases us with
  | nil => simp at h2
  | cons u us =>
   rw [List.zip_cons_cons]
   unfold bindC
   obtain ⟨nx, nd⟩ := List.nodup_cons.mp nd
   cases i with
   | zero =>
    simp at h1 h2
    subst h1 h2
    rw [keep ns us _ nx, if_neg hl]
    simp
   | succ i => exact ih nd (by simpa using h1) (by simpa using h2) hl
theorem notTup_of_seqless {h : Heap} {a : Addr} {o : Obj} (e : h.get? a = some o) (q : ∀ xs n, o.data ≠ .seq xs n) (items : Array Value) : ¬ h.IsTuple a items := fun ⟨o', e', _, n, hd⟩ => by
 rw [e] at e'; cases e'; exact q _ _ hd
section
variable {X : Cx} {S : SX} {C C' : SC} {lvl : Nat} {A : Around} {W W1 fs : List Addr} {env : Env} {fr : Fr} {Z Z' : Rho} {U U' : St} {s s' : Shared}
theorem Step.callS {h h1 h3 : Heap} {Z Z2 : Rho} {L : Addr} (k : ∀ b o, h.get? b = some o -> h1.get? b = some o) (S : Step W (L :: fs) Z Z2 h1 h3) (hW : ∀ w, w ∈ W -> h.get? w = none) (hL : h.get? L = none) : Step [] fs Z Z2 h h3 := by
 have nw : ∀ a o, h.get? a = some o -> a ∉ W := fun a o e q => by rw [hW a q] at e; cases e
 have nl : ∀ a o, h.get? a = some o -> a ≠ L := fun a o e q => by rw [q, hL] at e; cases e
 refine ⟨S.pre, fun a o e n _ => ?_, fun a o e _ => S.there a o (k a o e) (nw a o e), fun a q => ?_, fun _ w => nomatch w⟩
 ·obtain ⟨k1, k2⟩ := S.keep a o (k a o e) n (nw a o e)
  exact ⟨fun nf => k1 fun q => (by
   rcases List.mem_cons.mp q with q | q
   ·exact nl a o e q
   ·exact nf q), k2⟩
 ·rcases S.fresh a q with q | q
  ·exact .inl q
  ·right
   cases e : h.get? a with
   | none => rfl
   | some o => rw [k a o e] at q; cases q
theorem Step.hide {h h3 : Heap} {Z Z2 : Rho} {L : Addr} (S : Step [] fs Z Z2 h h3) (hL : h.get? L = none) : Step [] fs Z Z2 h (h3.hide L) := by
 have nl : ∀ a o, h.get? a = some o -> a ≠ L := fun a o e q => by rw [q, hL] at e; cases e
 refine ⟨S.pre, fun a o e n m => ?_, fun a o e m => ?_, S.fresh, S.apart⟩
 ·rw [Heap.hide_ne h3 (nl a o e)]; exact S.keep a o e n m
 ·rw [Heap.hide_ne h3 (nl a o e)]; exact S.there a o e m
structure FnFacts (X : Cx) (k : Nat) (fd : FuncData) (body : List Stmt) (params : List Str) (C : SC) : Prop where
 obj : ∃ oc od osl, X.K.lookup (X.fa k) = some ⟨oc, od, .func fd, osl⟩
 code : codeIn X.K fd.code fd.qualname = true
 body : fd.body = .stmts body
 clo : fd.closure = []
 glob : fd.globals = mainGlobals
 bi : fd.builtins = builtinsNs
 co : fd.scope.isCoroutine = false
 gen : fd.scope.isGenerator = false
 kind : fd.scope.kind = .function
 bind : ∀ us : List Value, us.length = params.length -> ∀ S, peek X.K S (bindArgs fd ⟨us, []⟩) = some (params.zip us)
 nodup : params.Nodup
 names : C.names = fd.scope.names
 ccode : ∀ v, C.code = some v -> fd.code = v
 par : ∀ i n, params[i]? = some n -> (n, i) ∈ C.Γ
 kinds : ∀ n i, (n, i) ∈ C.Γ -> C.names.lookup n = some .local \/ C.names.lookup n = some .cell
 cells : ∀ n lo, C.names.lookup n = some .cell -> ((cellsFrom lo fd.scope.names []).lookup n).isSome = true
 cellNodup : (fd.scope.names.map (·.1)).Nodup
 inj : ∀ n n' i, (n, i) ∈ C.Γ -> (n', i) ∈ C.Γ -> n = n'
 one : ∀ n i i', (n, i) ∈ C.Γ -> (n, i') ∈ C.Γ -> i = i'
theorem YI : ∀ {names : List (Str × NameKind)} {lo : Nat} {acc : List (Str × Addr)}, (acc.map (·.1) ++ names.map (·.1)).Nodup -> ((cellsFrom lo names acc).map (·.1)).Nodup
 | [], lo, acc, h => by simpa [cellsFrom] using h
 | (n, k) :: r, lo, acc, h => by
  unfold cellsFrom
  have h' : (n :: (acc.map (·.1) ++ r.map (·.1))).Nodup := (List.perm_middle.nodup_iff).mp h
  split
  ·exact YI (by simpa using h')
  ·exact YI (List.nodup_cons.mp h').2
theorem Uu {n : Str} {c c' : Addr} : ∀ {l : List (Str × Addr)}, (l.map (·.1)).Nodup -> (n, c) ∈ l -> (n, c') ∈ l -> c = c'
 | (m, d) :: l, nd, h, h' => by
  obtain ⟨nx, nd⟩ := List.nodup_cons.mp nd
  rcases List.mem_cons.mp h with q | q <;> rcases List.mem_cons.mp h' with q' | q'
  ·cases q; cases q'; rfl
  ·cases q; exact absurd (List.mem_map.mpr ⟨_, q', rfl⟩) nx
  ·cases q'; exact absurd (List.mem_map.mpr ⟨_, q, rfl⟩) nx
  ·exact Uu nd q q'
theorem cells_fun {names : List (Str × NameKind)} {lo : Nat} {n : Str} {c c' : Addr} (nd : (names.map (·.1)).Nodup) (h : (n, c) ∈ cellsFrom lo names []) (h' : (n, c') ∈ cellsFrom lo names []) : c = c' :=
 Uu (YI (by simpa using nd)) h h'
theorem fr_start {vs : List PV} {w i : Nat} {v : PV} (h : (vs.map some ++ List.replicate w (none : Option PV))[i]? = some (some v)) : vs[i]? = some v := by
 have := app_none h
 rw [List.getElem?_map] at this
 cases e : vs[i]? with
 | none => rw [e] at this; cases this
 | some x => rw [e] at this; cases this; rfl
theorem Fly.leave {L c a : Nat} {h₁ : Heap} {outer : List Env} {Q : Unit -> Shared -> Prop} {E : Value -> Shared -> Prop} {M : Model} (F : Fly X (A.deeper env) (L :: fs) a c h₁ s'.heap) (hA : A.frames = some outer) (hf : env.frame = some L) (hout : fs = outer.filterMap (·.frame))
  (q : ∀ h'', Fly X A fs a c (h₁.hide L) h'' -> (∀ items, ¬ h₁.IsTuple L items) -> Q () { s' with heap := h'' }) : wpAny M (A.deeper env) (leaving env (.ref a)) Q E s' := by
 obtain ⟨l, Bx, a0, f1, f2, f3, f4, f5⟩ := F
 have f1' : some (env :: outer) = some l := by
  have : (A.deeper env).frames = some (env :: outer) := by show A.frames.map _ = _; rw [hA]; rfl
  rw [this] at f1; exact f1
 cases f1'
 have fr := air_frames f3
 have hl : (env :: outer).filterMap (·.frame) = L :: outer.filterMap (·.frame) := by rw [List.filterMap_cons, hf]
 have nt : ∀ items, ¬ h₁.IsTuple L items := fun items ⟨o, e, _, n, hd⟩ => by
  obtain ⟨sl, e'⟩ := f4 L o e (fun vs => (by rw [hd]; simp))
  exact f5 L (by rw [hl]; exact List.mem_cons_self) _ e' _ _ hd
 refine air_leave (s := s') f1 hf f3 fun h'' x u => q h'' ⟨outer, Bx, a0, hA, fun b o e nf => ?_, .inl x, ?_, ?_⟩ nt
 ·have hb : b ≠ L := fun z => by subst z; rw [Heap.hide_self] at e; cases e
  exact f2 b o (Heap.of_hide e) fun m => by
   rcases List.mem_cons.mp m with m | m
   ·exact hb m
   ·exact nf m
 ·have u2 := f4.trans u
  exact fun b o e nd => u2 b o (Heap.of_hide e) nd
 ·have f6 : NsqF (outer.filterMap (·.frame)) s'.heap := fun b hb => f5 b (by rw [hl]; exact List.mem_cons_of_mem _ hb)
  exact f6.slots fr.2.2 u
set_option tactic.hygienic true in
theorem fn_ok {f : Fn} {k : Nat} {fd : FuncData} {body : List Stmt} {params : List Str} {T : Tb} (lim : X.base.NoLimit) (P : FnFacts X k fd body params C) (hn : params.length = f.nargs) (hb : Zq X C lvl body fun fr U => evSs T OY fr f.body U) :
  FOk X (lvl + 1) (.ref (X.fa k)) fun vs U => Yj T f vs U := fun A fs Z U s vs us I ar rm rs ns => by
 change Yj T f vs U ≠ .stuck at ns
 unfold Yj at ns
 by_cases hw : vs.length = f.nargs /\ f.nargs ≤ f.width
 case neg => rw [if_neg hw] at ns; exact absurd rfl ns
 rw [if_pos hw] at ns
 have hrun : Yj T f vs U = match evSs T OY (vs.map some ++ List.replicate (f.width - f.nargs) .none) f.body U with
  | .ok (.ret v) U => .ok v U
  | .ok (.next _) U => .ok .none U
  | .exc c U => .exc c U
  | .stuck => .stuck := by unfold Yj; rw [if_pos hw]; try rfl
 simp only [hrun]
 clear hrun
 have n1 : evSs T OY (vs.map some ++ List.replicate (f.width - f.nargs) .none) f.body U ≠ .stuck := fun q => by rw [q] at ns; exact ns rfl
 generalize hres : evSs T OY (vs.map some ++ List.replicate (f.width - f.nargs) .none) f.body U = res at ns n1 ⊢
 obtain ⟨oc, od, osl, hobj⟩ := P.obj
 have hlen : us.length = params.length := by rw [← rs.length, hw.1, hn]
 have hbt : BindsTo s fd ⟨us, []⟩ (params.zip us) := kp_binds I.kin (P.bind us hlen)
 obtain ⟨outer, hA, hfs, hff⟩ := ar.fr
 have kd : ∀ env' : Env, env'.scope = fd.scope -> ∀ n, env'.kindOf n = C.names.lookup n := fun env' e n => by unfold Env.kindOf; rw [e, P.names]
 refine codeAny_call_function (by have := rm.1; lia) (I.kin _ _ hobj) rfl P.co P.gen P.body (codeRec_of I.kin P.code) (hbt _ _ _ _ ?_)
 rw [P.clo]
 refine wpAny_newFunctionEnv_cells P.kind (fun x hx => ?_) fun env he s1 x => ?_
 ·obtain ⟨i, hi⟩ := List.getElem?_of_mem hx
  rw [List.getElem?_zip_eq_some] at hi
  have h1 := P.par i _ hi.1
  rcases P.kinds _ _ h1 with q | q
  ·exact .inl (P.names ▸ q)
  ·exact .inr ⟨P.names ▸ q, P.cells _ _ q⟩
 have hL : env.locals = s.heap.objs.size := by subst he; rfl
 have hfrm : env.frame = some s.heap.objs.size := by subst he; rfl
 have hsc : env.scope = fd.scope := by subst he; rfl
 have hgl : env.globals = mainGlobals := by subst he; exact P.glob
 have hbi : env.builtins = builtinsNs := by subst he; exact P.bi
 have hcdv : env.code = fd.code := by subst he; rfl
 have hcl : env.cells = cellsFrom (s.heap.objs.size + 1) fd.scope.names [] := by subst he; rfl
 clear he
 obtain ⟨⟨⟨h1, tk1, rfl⟩, hns, kp, _⟩, hcell, hap, hab⟩ := x
 dsimp only at hns kp hcell
 refine ⟨(lim.keeps (fun b o e => kp b o (I.base b o e))), codeAny_func ?_⟩
 have Lnone : s.heap.get? s.heap.objs.size = none := get?_size s.heap
 have fresh : ∀ a, a ∈ Jb env -> s.heap.get? a = none := fun a ha => by
  rcases List.mem_cons.mp ha with q | q
  ·rw [q, hL]; exact Lnone
  ·obtain ⟨⟨n, c⟩, hm, rfl⟩ := List.mem_map.mp q
   have := hab n c hm
   rw [hL] at this
   exact get?_oob (Nat.le_of_lt this)
 have T1 : Step [] fs Z Z s.heap h1 := Step.of_keeps kp
 have I1 : Rp X Z U h1 := I.keeps kp
 have rs1 : VReps h1 Z vs us := rs.step T1 Ja
 have F1 : FrR X C.Γ env (vs.map some ++ List.replicate (f.width - f.nargs) .none) Z h1 := by
  refine ⟨by rw [hsc]; exact P.kind, hgl, hbi, fun n i h => ?_, P.inj, P.one, ⟨_, hns, fun n i h hk v hv => ?_⟩, fun n i h hk => ?_, fun a ha => ?_, fun q => ?_, fun n n' c h h' => name_of_addr hap h h'⟩
  ·rw [kd env hsc]
   rcases P.kinds n i h with q | q
   ·exact .inl q
   ·exact .inr (.inl q)
  ·have hv := fr_start hv
   have hi : i < params.length := by rw [← hlen, ← rs.length]; exact (List.getElem?_eq_some_iff.mp hv).1
   have hp : params[i]? = some params[i] := List.getElem?_eq_getElem hi
   have en : params[i] = n := P.inj _ _ i (P.par i _ hp) h
   rw [en] at hp
   obtain ⟨u, hu, ru⟩ := rs1.get hv
   exact ⟨u, bindL_get P.nodup hp hu hk, ru⟩
  ·have hk' : C.names.lookup n = some .cell := by
    rw [kd env hsc] at hk
    rcases P.kinds n i h with q | q
    ·rw [q] at hk; rcases hk with hk | hk <;> cases hk
    ·exact q
   obtain ⟨c, hc⟩ := Option.isSome_iff_exists.mp (P.cells n (s.heap.objs.size + 1) hk')
   rw [← hcl] at hc
   refine ⟨c, _, hc, hcell n c hc, fun v hv => ?_⟩
   have hv := fr_start hv
   have hi : i < params.length := by rw [← hlen, ← rs.length]; exact (List.getElem?_eq_some_iff.mp hv).1
   have hp : params[i]? = some params[i] := List.getElem?_eq_getElem hi
   have en : params[i] = n := P.inj _ _ i (P.par i _ hp) h
   rw [en] at hp
   obtain ⟨u, hu, ru⟩ := rs1.get hv
   exact ⟨u, bindC_get P.nodup hp hu (by rw [kd env hsc, hk']; simp), ru⟩
  ·have hn0 := fresh a ha
   refine ⟨I.offNew hn0, JC I.base hn0, ?_⟩
   rcases List.mem_cons.mp ha with q | q
   ·rw [q]; exact Om hns
   ·obtain ⟨⟨n, c⟩, hm, rfl⟩ := List.mem_map.mp q
    have hc : env.cells.lookup n = some c := ZM hm fun c' hc' => by
     rw [hcl] at hm hc'
     exact cells_fun P.cellNodup hc' hm
    exact cell_data (hcell n c hc)
  ·obtain ⟨⟨n, c⟩, hm, e⟩ := List.mem_map.mp q
   have := hab n c hm
   dsimp only at e
   rw [e] at this
   exact Nat.lt_irrefl _ this
 have rm1 : Rm (A.deeper env) lvl := by
  obtain ⟨r1, r2⟩ := rm
  refine ⟨?_, ?_⟩
  ·show A.depth + 1 + lvl < _; lia
  ·show A.units + 3 + 3 * lvl + 100 < _; lia
 have frs1 : (A.deeper env).frames = some (env :: outer) := by show A.frames.map _ = _; rw [hA]; rfl
 have nsq1 : NsqF (s.heap.objs.size :: fs) h1 := fun b hb o ho => by
  rcases List.mem_cons.mp hb with q | q
  ·obtain ⟨o', e, q1, _⟩ := Om hns
   rw [q, ← hL, e] at ho; cases ho; exact q1
  ·obtain ⟨_, o', e, _⟩ := hff.mem (hfs ▸ q)
   rw [kp _ _ e] at ho; cases ho
   exact ar.nsq b q _ e
 have ar1 : AOK X (A.deeper env) (s.heap.objs.size :: fs) Z h1 := by
  refine ⟨ar.hd, ⟨env :: outer, frs1, by rw [List.filterMap_cons, hfrm, hfs], ?_⟩, fun b hb => ?_, nsq1⟩
  ·obtain ⟨o', e, _, q2⟩ := Om hns
   refine ⟨by rw [hsc, P.kind]; simp, ⟨s.heap.objs.size, o', hfrm, JC I.base Lnone, by rw [← hL]; exact e, q2⟩, Uw hff fun b hb => ?_⟩
   obtain ⟨_, o, e, q⟩ := hff.mem hb
   exact ⟨o, kp _ _ e, q⟩
  ·rcases List.mem_cons.mp hb with q | q
   ·rw [q]; exact I.offNew Lnone
   ·exact ar.off b q
 have hat : At X C lvl (A.deeper env) (s.heap.objs.size :: fs) env (vs.map some ++ List.replicate (f.width - f.nargs) .none) Z U { s with heap := h1, toks := tk1 } := ⟨I1, F1, by rw [hsc, P.names], ar1, rm1, fun v hv => hcdv.trans (P.ccode v hv)⟩
 have top1 : Top (A.deeper env) env := ⟨outer, _, frs1, hfrm⟩
 have key := hb _ _ _ _ _ _ _ hat top1 (by show evSs T OY _ f.body U ≠ _; rw [hres]; exact n1)
 change wpAny _ _ _ (Post X (Jb env) _ Z _ (UE X C env) (evSs T OY _ f.body U)) (PostX X _ (Jb env) _ Z _ (evSs T OY _ f.body U)) _ at key
 rw [hres] at key
 refine wpAny_mono key (fun flow s2 p => ?_) fun e s2 p => ?_
 ·obtain ⟨fl, U2, Z2, e1, e2, e3, e4, e5⟩ := p
  subst e1
  have T2 : Step [] fs Z Z2 s.heap s2.heap := Step.callS kp e5 fresh Lnone
  have E2 : Ext s s2 := Ext.trans ⟨h1, tk1, rfl⟩ e2
  cases fl with
  | next fr' =>
   cases flow <;> first | exact e4.elim | skip
   exact ⟨.none, U2, Z2, rfl, E2, e3, .none, T2⟩
  | ret v =>
   cases flow <;> first | exact e4.elim | skip
   exact ⟨v, U2, Z2, rfl, E2, e3, e4, T2⟩
 ·obtain ⟨c, U2, Z2, h₁, a, e1, rfl, e3, e4, e5, e6⟩ := p
  subst e1
  refine Fly.leave (fs := fs) e6 hA hfrm hfs fun h'' F' nt => ?_
  have T2 : Step [] fs Z Z2 s.heap h₁ := Step.callS kp e5 fresh Lnone
  have fL : Ze X Z2 s.heap.objs.size := ⟨(let ⟨o, e, _⟩ := Om hns; e5.offNew (by rw [← hL]; exact e) (I.offNew Lnone)), JC I.base Lnone⟩
  ·refine ⟨c, U2, Z2, h₁.hide s.heap.objs.size, a, rfl, rfl, ?_, ?_, T2.hide Lnone, F'⟩
   ·obtain ⟨hh, tt, rfl⟩ := e3; exact ⟨_, _, rfl⟩
   ·exact e4.extBut fL nt fun b o hb e => by rw [Heap.hide_ne _ hb]; exact e
end
section
variable {X : Cx} {S : SX} {C C' : SC} {lvl : Nat} {A : Around} {W W1 fs : List Addr} {env : Env} {fr : Fr} {Z Z' : Rho} {U U' : St} {s s' : Shared}
structure NewFacts (X : Cx) (c f : Nat) : Prop where
 makes : makesIn X.K (X.cls c) = true
 init : findIn X.K (.ref (X.cls c)) "__init__" = some (some (.ref (X.fa f)))
 fn : typeIn X.K (.ref (X.fa f)) = some (.type "function")
theorem under_frames (A : Around) {a : Addr} {rest : List Value} {kw : List (Str × Value)} : (A.under (.builtin "type.__call__" ⟨.ref a :: rest, kw⟩)).frames = A.frames := rfl
theorem under_handled (A : Around) (c : Code) : (A.under c).handled = A.handled := rfl
theorem under_rm {a : Addr} {rest : List Value} {kw : List (Str × Value)} (rm : Rm A (lvl + 1)) : Rm (A.under (.builtin "type.__call__" ⟨.ref a :: rest, kw⟩)) lvl := by
 obtain ⟨r1, r2⟩ := rm
 have e1 : (Code.builtin "type.__call__" ⟨.ref a :: rest, kw⟩).weight = 1 := by
  unfold Code.weight
  rw [show (Code.builtin "type.__call__" ⟨.ref a :: rest, kw⟩).isCreation = true from rfl, show (Code.builtin "type.__call__" ⟨.ref a :: rest, kw⟩).isGuard = false from (by show guardIds.contains "type.__call__" = false; decide +kernel), show (Code.builtin "type.__call__" ⟨.ref a :: rest, kw⟩).isCaller = false from rfl, show (Code.builtin "type.__call__" ⟨.ref a :: rest, kw⟩).frames = 0 from (by rfl)]
  rfl
 have e2 : (Code.builtin "type.__call__" ⟨.ref a :: rest, kw⟩).cUnits ≤ 1 := by
  show 1 + 3 * (Code.builtin "type.__call__" ⟨.ref a :: rest, kw⟩).frames ≤ 1
  rw [show (Code.builtin "type.__call__" ⟨.ref a :: rest, kw⟩).frames = 0 from (by rfl)]
  exact Nat.le_refl _
 refine ⟨?_, ?_⟩
 ·show A.depth + (Code.builtin "type.__call__" ⟨.ref a :: rest, kw⟩).weight + lvl < _
  lia
 ·show A.units + (Code.builtin "type.__call__" ⟨.ref a :: rest, kw⟩).cUnits + 3 * lvl + 100 < _
  lia
theorem new_ok {c f : Nat} {T : Tb} (hc : c < NC) (N : NewFacts X c f) (h : FOk X lvl (.ref (X.fa f)) (T.F f)) : FOk X (lvl + 1) (.ref (X.cls c)) (newSem T c f) := fun A fs Z U s vs us I ar rm rs ns => by
 have e0 : newSem T c f vs U = (T.F f (.loc U.length :: vs) (U ++ [.inst c []])).bind fun r U' => noneR r (.ok (.loc U.length) U') := by unfold newSem; rfl
 simp only [e0] at ns ⊢
 have n1 : T.F f (.loc U.length :: vs) (U ++ [.inst c []]) ≠ .stuck := fun q => by rw [q] at ns; exact ns rfl
 obtain ⟨hh, g, d, t, os⟩ := s
 refine make_core (makes_of I.kin N.makes) (looks_findIn I.kin N.init) (fun self => bind_fn I.kin self N.fn) (.inl rfl) ?_
 have kp : ∀ b o, hh.get? b = some o -> ((hh.push emptyDict).push (instObj (X.cls c) hh.objs.size)).get? b = some o := fun b o e => Heap.get?_push_of_some _ (Heap.get?_push_of_some _ e)
 have gd : ((hh.push emptyDict).push (instObj (X.cls c) hh.objs.size)).get? hh.objs.size = some emptyDict := Heap.get?_push_of_some _ (Heap.get?_push_size _ rfl)
 have gx : ((hh.push emptyDict).push (instObj (X.cls c) hh.objs.size)).get? (hh.objs.size + 1) = some (instObj (X.cls c) hh.objs.size) := by heap_get
 generalize hH : (hh.push emptyDict).push (instObj (X.cls c) hh.objs.size) = H at kp gd gx ⊢
 have n0 : ∀ a, a ∈ Jk (hh.objs.size + 1, some hh.objs.size) -> hh.get? a = none := fun a ha => by
  simp [Jk] at ha
  rcases ha with rfl | rfl
  ·exact get?_oob (Nat.le_succ _)
  ·exact get?_size _
 have I1 : Rp X (Z ++ [(hh.objs.size + 1, some hh.objs.size)]) (U ++ [.inst c []]) H := by
  refine Rp.grow I kp n0 (by simp [Jk]) fun T => ?_
  refine .inst hc gx rfl rfl rfl (Heap.Ns1.of_empty ⟨_, #[], _, gd, rfl, fun e he => absurd he (by simp), fun _ => rfl⟩) (fun y hy => absurd rfl hy) fun k n hk => ?_
  simp
 have T1 : Step [] fs Z (Z ++ [(hh.objs.size + 1, some hh.objs.size)]) hh H := Step.grow kp fun a q => n0 a (by simpa [Je] using q)
 have ar1 : AOK X (A.under (.builtin "type.__call__" ⟨.ref (X.cls c) :: us, []⟩)) fs (Z ++ [(hh.objs.size + 1, some hh.objs.size)]) H := (ar.step0 T1).around rfl rfl
 have r0 : VRep H (Z ++ [(hh.objs.size + 1, some hh.objs.size)]) (.loc U.length) (.ref (hh.objs.size + 1)) := by
  have : (Z ++ [(hh.objs.size + 1, some hh.objs.size)])[U.length]? = some (hh.objs.size + 1, some hh.objs.size) := by rw [← I.len]; simp
  exact .loc this
 have key := h _ fs _ _ ⟨H, g, d, t, os⟩ (.loc U.length :: vs) (.ref (hh.objs.size + 1) :: us) I1 ar1 (under_rm rm) (.cons r0 (rs.step T1 Ja)) n1
 refine codeAny_mono key fun r s' z => ?_
 rcases r with e | (v | _ | _ | _) <;> first | exact z.elim | skip
 ·obtain ⟨c', U2, Z2, h₁, a, e1, e2, ⟨h2, t2, rfl⟩, e4, e5, e6⟩ := z
  refine ⟨c', U2, Z2, h₁, a, by rw [e1]; rfl, e2, ⟨h2, t2, rfl⟩, e4, T1.trans e5, ?_⟩
  obtain ⟨l, Bx, a0, f1, f2, f3, f4, f5⟩ := e6
  exact ⟨l, Bx, a0, f1, f2, f3, f4, f5⟩
 ·obtain ⟨v', U2, Z2, e1, ⟨h2, t2, rfl⟩, e3, e4, e5⟩ := z
  rw [e1] at ns ⊢
  have i := e4.inv
  cases v' <;> first | exact absurd rfl ns | skip
  cases i
  exact ⟨rfl, .loc U.length, U2, Z2, rfl, ⟨h2, t2, rfl⟩, e3, r0.step e5 Ja, T1.trans e5⟩
end
noncomputable def exTail : List Value := [.type "Exception", .type "BaseException", .type "object"]
noncomputable def isRefV : Value -> Bool
 | .ref _ => true
 | _ => false
noncomputable def YZ : List Value -> Bool
 | [] => false
 | v :: r => decide (v :: r = exTail) || (isRefV v && YZ r)
theorem isRefV_ex {v : Value} (h : isRefV v = true) : ∃ c, v = .ref c := by
 cases v <;> first | exact ⟨_, rfl⟩ | cases h
theorem Km {v : Value} {r : List Value} (h : YZ (v :: r) = true) : v :: r = exTail \/ (∃ c, v = .ref c) /\ YZ r = true := by
 rcases Bool.or_eq_true_iff.mp (show (decide (v :: r = exTail) || (isRefV v && YZ r)) = true from h) with e | e
 ·exact .inl (of_decide_eq_true e)
 ·exact .inr ⟨isRefV_ex (Bool.and_eq_true_iff.mp e).1, (Bool.and_eq_true_iff.mp e).2⟩
theorem exOnly_refuse (self : Value) {l : List Value} (h : YZ l = true) : refuseLoop self "__setattr__" l = pure () := by
 induction l with
 | nil => cases h
 | cons v r ih =>
  rcases Km h with e | ⟨⟨c, e⟩, h⟩
  ·rw [e]; exact PySem.F.store_Exception.passes self
  ·rw [e, refuseLoop_ref]; exact ih h
theorem Yu {l : List Value} (h : YZ l = true) : l.contains (.type "Exception") = true /\ l.contains (.type "BaseException") = true /\ l.contains (.type "object") = true /\ l.contains (.type "AttributeError") = false /\ l.contains (.type "NameError") = false := by
 induction l with
 | nil => cases h
 | cons v r ih =>
  rcases Km h with e | ⟨⟨c, e⟩, h⟩
  ·rw [e]; decide +kernel
  ·obtain ⟨h1, h2, h3, h4, h5⟩ := ih h
   rw [e]
   refine ⟨?_, ?_, ?_, ?_, ?_⟩ <;> rw [List.contains_cons]
   ·rw [h1, Bool.or_true]
   ·rw [h2, Bool.or_true]
   ·rw [h3, Bool.or_true]
   ·rw [h4]; rfl
   ·rw [h5]; rfl
structure XC where
 nm : Str
 q : Str
 N : Addr
 bs : List Value
 sn : List Str
 sub : List Value
 ab : Bool
 col : Option Bool
 dd : Option Addr
 k0 : Option Value
 k1 : Option Value
 k2 : Option Value
 k3 : Option Value
 k5 : Option Value
noncomputable abbrev exObj (x : XC) (C : Addr) (bm : List Value) : Obj := excClassObj x.nm x.q C x.N x.bs bm true x.sn x.sub x.ab x.col x.dd x.k0 x.k1 x.k2 x.k3 x.k5 "Exception.__new__"
noncomputable def excV (C : Addr) (o : Obj) : Option {p : XC × List Value // o = exObj p.1 C p.2 /\ YZ p.2 = true} := match o with
 | ⟨cl, dd, .cls ⟨nm, bs, v :: bm, ns, qn, true, sn, sub, ab, col, false⟩, ⟨[k0, k1, k2, k3, k4, k5]⟩⟩ =>
  if h : cl = .type "type" /\ v = .ref C /\ k4 = some (.builtin "Exception.__new__") /\ YZ bm = true then some ⟨(⟨nm, qn, ns, bs, sn, sub, ab, col, dd, k0, k1, k2, k3, k5⟩, bm), by
   obtain ⟨rfl, rfl, rfl, h⟩ := h
   exact ⟨rfl, h⟩⟩ else none
 | _ => none
structure ZR (K : Frag) (C : Addr) (bm : List Value) : Prop where
 obj : ∃ x : XC, K.lookup C = some (exObj x C bm)
 only : YZ bm = true
 call : specialIn K (.ref C) "__call__" = some (some (.builtin "type.__call__"))
 typ : instIn K (.ref C) (.type "type") = some true
theorem excAt_of {K : Frag} {C : Addr} (e : ((K.lookup C).any fun o => (excV C o).isSome) = true) (e1 : specialIn K (.ref C) "__call__" = some (some (.builtin "type.__call__"))) (e2 : instIn K (.ref C) (.type "type") = some true) : ∃ bm, ZR K C bm := by
 cases ho : K.lookup C with
 | none => rw [ho] at e; cases e
 | some o =>
  rw [ho] at e
  obtain ⟨p, _⟩ := Option.isSome_iff_exists.mp e
  exact ⟨p.1.2, ⟨p.1.1, p.2.1 ▸ ho⟩, p.2.2, e1, e2⟩
section
variable {K : Frag} {prog : Program} {w : World} {A : Around} {R : Result -> Shared -> Prop} {h : Heap} {g : Array GenState} {d : Drawn} {t : Nat} {os : OsState} {C : Addr} {bm : List Value}
variable {xc : XC}
theorem exc_check_new {M : Model} {E : Value -> Shared -> Prop} {rest : List Value} {Q : Unit -> Shared -> Prop} (ho : YZ bm = true) (hC : h.get? C = some (exObj xc C bm))
  (hq : Q () ⟨h, g, d, t, os⟩) : wpAny M A (checkBuiltinCall "Exception.__new__" ⟨.ref C :: rest, []⟩) Q E ⟨h, g, d, t, os⟩ := by
 have F := PySem.F.excBase_Exception
 have hcont : (Value.ref C :: bm).contains (.type "Exception") = true := by rw [List.contains_cons, (Yu ho).1, Bool.or_true]
 have hstar := F.noStar
 simp only [checkBuiltinCall, F.newKind, F.newSplit, F.newRow]
 repeat (first | refine wpAny_loadPart_at hC ?_ | (refine wpAny_isSubtype_exc hC ?_; rw [hcont]) | refine wpAny_staticBase_exc hC ?_ | refine wpAny_madeBy_exc hC ?_ | simp only [bne_self_eq_false, Bool.false_eq_true, if_false] | wp_step)
 exact hq
theorem exc_new {rest : List Value} (ho : YZ bm = true) (hC : h.get? C = some (exObj xc C bm))
  (hq : R (.ok (.ret (.ref (h.objs.size + 1)))) ⟨(h.push { cls := .type "tuple", data := .seq rest.toArray }).push
   { cls := .ref C, data := .fields #[.ref h.objs.size, .none, .none, .none, .bool false, .none] }, g, d, t, os⟩) (hrest : rest.length ≤ sizeLine) :
  codeAny (model prog w) A (.builtin "Exception.__new__" ⟨.ref C :: rest, []⟩) R ⟨h, g, d, t, os⟩ := by
 have F := PySem.F.excBase_Exception
 obtain ⟨o1, o2, o3, o4, o5⟩ := Yu ho
 have hends := F.ends
 have hcB : (Value.ref C :: bm).contains (.type "Exception") = true := by rw [List.contains_cons, o1, Bool.or_true]
 have hcA : (Value.ref C :: bm).contains (.type "AttributeError") = false := by rw [List.contains_cons, o4]; rfl
 have hcN : (Value.ref C :: bm).contains (.type "NameError") = false := by rw [List.contains_cons, o5]; rfl
 refine codeAny_builtinAt F.entry ?_
 unfold Builtin.«BaseException.__new__»
 refine PySem.wpAt_bind ?_
 show PySem.wpAt _ _ _ (stack >>= _) _ _ _
 refine PySem.wpAt_bind (PySem.wpAt_stack fun p below => PySem.wpAt_of_wpAny ?_)
 wp_walk
 refine PySem.wpAt_of_wpAny ?_
 rw [F.owner]
 repeat (first | with_reducible refine wpAny_madeHere_exc F.canon hC ?_ | with_reducible refine wpAny_loadPart_at hC ?_ | (with_reducible refine wpAny_isSubtype_exc hC ?_; first | rw [hcB] | rw [hcA] | rw [hcN]) | wp_step)
 show R _ _
 rw [Heap.size_push]
 exact hq
noncomputable abbrev Yd (C t : Addr) : Obj := { cls := .ref C, data := .fields #[.ref t, .none, .none, .none, .bool false, .none] }
theorem exc_make {rest : List Value} {fi : Addr} (X : K.In h) (P : ZR K C bm) (hi : findIn K (.ref C) "__init__" = some (some (.ref fi))) (hf : typeIn K (.ref fi) = some (.type "function")) (hrest : rest.length ≤ sizeLine)
  (hq : codeAny (model prog w) (A.under (.builtin "type.__call__" ⟨.ref C :: rest, []⟩)) (.call (.ref fi) ⟨.ref (h.objs.size + 1) :: rest, []⟩) (InitBack (h.objs.size + 1) R) ⟨(h.push { cls := .type "tuple", data := .seq rest.toArray }).push (Yd C h.objs.size), g, d, t, os⟩) :
  codeAny (model prog w) A (.call (.ref C) ⟨rest, []⟩) R ⟨h, g, d, t, os⟩ := by
 obtain ⟨⟨xc, hK⟩, ho, hcall, htyp⟩ := P
 have F := PySem.F.excBase_Exception
 have hC := X _ _ hK
 have call : Looks (model prog w) h (specialOf (.ref C) "__call__") (some (.builtin "type.__call__")) := looks_specialIn X hcall
 have typ : Looks (model prog w) h (isInstance (.ref C) (.type "type")) true := looks_instIn X htyp
 refine codeAny_of_tree ?_
 show wpAny _ _ (callAny (.ref C) _) _ _ _
 refine nd_load hC ?_
 show wpAny _ _ (callAny.viaDunder (.ref C) _) _ _ _
 unfold callAny.viaDunder
 refine wpAny_bind (call.at ?_)
 dsimp only
 rw [tc_bind]
 refine wpAny_bind (wpAny_pure (wpAny_bind (wpAny_pure ?_)))
 refine wpAny_pure (a := Fin.again (.call (.builtin "type.__call__") ⟨.ref C :: rest, []⟩)) (And.intro rfl ?_)
 refine codeAny_call_builtin_at (Code.quiet_builtin _ (by decide +kernel)) entry_typeCall (check_slot tc_kind tc_split typ (tc_args _ _ _) ?_)
 unfold Builtin.«type.__call__»
 have e4 : (Value.ref C :: bm).isEmpty = false := rfl
 have hm : Looks (model prog w) h (mroOf (.ref C)) (.ref C :: bm) := ((Looks.ld (part := none) hC).andThen .now).andThen .now
 have made : Looks (model prog w) h (Bind.madeBy (.ref C)) (some "Exception.__new__") := fun A Q E s k q' => wpAny_madeBy_exc (k _ _ hC) q'
 have self : Looks (model prog w) h (isSubtype (.ref C) (.ref C)) true := fun A Q E s k q' => wpAny_isSubtype_exc (k _ _ hC) (by rw [show (Value.ref C :: bm).contains (.ref C) = true from by simp]; exact q')
 repeat (first | simp only [e4, Bool.false_eq_true, if_false] | with_reducible refine wpAny_call ?_ | lk)
 refine codeAny_call_builtin_code (Code.quiet_builtin _ F.quiet) (exc_check_new ho hC ?_)
 refine exc_new ho hC ?_ hrest
 have k : ∀ b o, h.get? b = some o -> ((h.push { cls := .type "tuple", data := .seq rest.toArray }).push (Yd C h.objs.size)).get? b = some o := fun b o e => Heap.get?_push_of_some _ (Heap.get?_push_of_some _ e)
 have hx : ((h.push { cls := .type "tuple", data := .seq rest.toArray }).push (Yd C h.objs.size)).get? (h.objs.size + 1) = some (Yd C h.objs.size) := by heap_get
 have t1 : Looks (model prog w) ((h.push { cls := .type "tuple", data := .seq rest.toArray }).push (Yd C h.objs.size)) (typeOf (.ref (h.objs.size + 1))) (.ref C) := (Looks.ld hx).andThen .now
 have s1 := self.keeps k
 have i1 := (looks_findIn (M := model prog w) X hi).keeps k
 have b1 := (bind_fn (M := model prog w) X (.ref (h.objs.size + 1)) hf).keeps k
 show wpAny _ _ _ _ _ _
 unfold isInstance callSpecial? specialOf
 repeat (first | with_reducible refine wpAny_call ?_ | lk)
 refine codeAny_mono hq fun r s' z => ?_
 rcases r with e | (v | _ | _ | _) <;> first | exact z | exact z.elim | skip
 obtain ⟨rfl, z⟩ := z
 exact wpAny_pure (wpAny_pure z)
end
end Mine
namespace Mine
open PySem PySem.W PyProof.Rows PySem.SeqAt Builtin Builtin.ObjectAttr
section
variable {K : Frag} {prog : Program} {w : World} {A : Around} {R : Result -> Shared -> Prop} {h : Heap} {g : Array GenState} {d : Drawn} {t : Nat} {os : OsState} {C : Addr} {bm : List Value} {x : Addr} {mA : Str -> Option Value} {name : Str} {v : Value}
set_option tactic.hygienic true in
theorem inst_at {h : Heap} {x C : Addr} {mA : Str -> Option Value} (I : h.Inst x C mA) : ∃ ox od, InstAt h x ox C od /\ h.get? x = some ox := by
 obtain ⟨o, hx, hc, hn, hd⟩ := I
 have nc : notCls o = true := by
  unfold notCls
  split
  ·rename_i c e; exact absurd e (hn c)
  ·rfl
 rcases hd with ⟨hd, _⟩ | ⟨dx, hd, _, hns⟩
 ·exact ⟨o, none, ⟨hx, hc, nc, by rw [hd]; trivial⟩, hx⟩
 ·obtain ⟨od, _, _, ho, _⟩ := hns
  exact ⟨o, some od, ⟨hx, hc, nc, by rw [hd]; exact ho⟩, hx⟩
structure OsaPost (h : Heap) (x C : Addr) (mA : Str -> Option Value) (name : Str) (v : Value) (h' : Heap) : Prop where
 inst : h'.Inst x C (fun y => if y = name then some v else mA y)
 keep : ∀ b o, b ≠ x -> (∀ o₀ dx, h.get? x = some o₀ -> o₀.dict = some dx -> b ≠ dx) -> h.get? b = some o -> h'.get? b = some o
 self : ∀ o₀, h.get? x = some o₀ -> ∃ o₁, h'.get? x = some o₁ /\ o₁.cls = o₀.cls /\ o₁.data = o₀.data /\ ∀ dx, o₀.dict = some dx -> o₁.dict = some dx
 dict : ∀ o₁ dx, h'.get? x = some o₁ -> o₁.dict = some dx -> (∃ o₀, h.get? x = some o₀ /\ o₀.dict = some dx) \/ h.get? dx = none
theorem freed_dict {o : Obj} {d : Option Addr} (h : o.isFreed = false) : (Obj.mk o.cls d o.data o.slots).isFreed = false := by
 obtain ⟨oc, od, odt, osl⟩ := o
 cases odt <;> first | rfl | exact h
theorem id_none {M : Model} {E : Value -> Shared -> Prop} {Q : Option Addr -> Shared -> Prop} {ox : Obj} {xc : XC} (hx : h.get? x = some ox) (hc : ox.cls = .ref C) (hC : h.get? C = some (exObj xc C bm)) (hd : ox.dict = none) (hnc : ∀ c, ox.data ≠ .cls c)
  (k : Q (some h.objs.size) ⟨(h.push { cls := .type "dict", data := .dict #[] }).update x fun o => { cls := o.cls, dict := some h.objs.size, data := o.data, slots := o.slots }, g, d, t, os⟩) : wpAny M A (instanceDict x true) Q E ⟨h, g, d, t, os⟩ := by
 have hx₁ : (h.push { cls := .type "dict", data := .dict #[] }).get? x = some ox := Heap.get?_push_of_some _ hx
 obtain ⟨oc, od, odt, osl⟩ := ox
 cases hc
 cases hd
 refine wpAny_bind (wpAny_loadPart hx (wpAny_bind (wpAny_bind (wpAny_load hC (wpAny_pure ?_)))))
 cases odt with
 | cls c => exact absurd rfl (hnc c)
 | _ => exact wpAny_bind (wpAny_alloc' (wpAny_bind (wpAny_update' hx₁ (wpAny_pure k))))
theorem id_some {M : Model} {E : Value -> Shared -> Prop} {Q : Option Addr -> Shared -> Prop} {ox : Obj} {xc : XC} {dx : Addr} (hx : h.get? x = some ox) (hc : ox.cls = .ref C) (hC : h.get? C = some (exObj xc C bm)) (hd : ox.dict = some dx)
  (k : Q (some dx) ⟨h, g, d, t, os⟩) : wpAny M A (instanceDict x true) Q E ⟨h, g, d, t, os⟩ := by
 obtain ⟨oc, od, odt, osl⟩ := ox
 cases hc
 cases hd
 exact wpAny_bind (wpAny_loadPart hx (wpAny_bind (wpAny_bind (wpAny_load hC (wpAny_pure (wpAny_pure k))))))
theorem dict_put {M : Model} {E : Value -> Shared -> Prop} {Q : Fin -> Shared -> Prop} {dx : Addr} {m : Str -> Option Value} {tk : Tok} {ns : List Str} (hns : h.Ns1 dx m) (hw : Within m ns) (hsz : ns.length ≤ 100)
  (k : ∀ h' tk', h'.Ns1 dx (fun y => if y = name then some v else m y) -> Heap.SameBut dx h h' -> wpAny M A (ret .none) Q E ⟨h', g, d, tk', os⟩) : wpAny M A (storeInDict dx (.str name tk) name v) Q E ⟨h, g, d, t, os⟩ := by
 unfold storeInDict newKeyGuard
 refine wpAny_bind (wpAny_pure (wpAny_bind (wpAny_nsSet1 hns fun h' hn' hs => ?_)))
 obtain ⟨oD, esD, epD, hoD, hdD, hcD⟩ := hn'.count (Within.cons name v hw)
 exact wpAny_bind (wpAny_lookBehind hoD (by rw [hdD]; exact pastItsLine_dict (Nat.le_trans hcD (by rw [List.length_cons, sizeLine_eq]; lia))) (k h' _ hn' hs))
set_option tactic.hygienic true in
theorem exc_osa {tk : Tok} {ns : List Str} (X : K.In h) (P : ZR K C bm) (ht : takerIn K C name = some none) (I : h.Inst x C mA) (hw : Within mA ns) (hsz : ns.length ≤ 100)
  (hq : ∀ h' tk', OsaPost h x C mA name v h' -> R (.ok (.ret .none)) ⟨h', g, d, tk', os⟩) :
  codeAny (model prog w) A (.call (.builtin "object.__setattr__") ⟨[.ref x, .str name tk, v], []⟩) R ⟨h, g, d, t, os⟩ := by
 have SF := PySem.F.store_object
 obtain ⟨⟨xc, hK⟩, ho, hcall, htyp⟩ := P
 have hC := X _ _ hK
 obtain ⟨ox, od, IA, hx⟩ := inst_at I
 obtain ⟨o1, o2, o3, o4, o5⟩ := Yu ho
 have sub' : Looks (model prog w) h (isSubtype (.ref C) (.type "object")) true := fun A Q E s k q' => wpAny_isSubtype_exc (k _ _ hC) (by rw [List.contains_cons, o3, Bool.or_true]; exact q')
 have sub : Looks (model prog w) h (isInstance (.ref x) (.type "object")) true := IA.type.andThen sub'
 refine codeAny_call_builtin SF.slot.plain SF.entry (@check_slot (model prog w) _ _ _ "object.__setattr__" "object" "__setattr__" (.ref x) [.str name tk, v] [] _ SF.kind SF.split sub (SF.args (.ref x) (.str name tk) v) ?_)
 obtain ⟨attr, ha, hr⟩ := Option.bind_eq_some_iff.mp ht
 have hm : Looks (model prog w) h (mroOf (.ref C)) (.ref C :: bm) := ((Looks.ld (part := none) hC).andThen .now).andThen .now
 have L3 : Looks (model prog w) h (storeTaker? attr) none := by
  cases attr with
  | none => exact .now
  | some a =>
   obtain ⟨b, hb, hbb⟩ := Option.map_eq_some_iff.mp hr
   refine (looks_takesIn X hb).andThen ?_
   cases b
   ·exact .now
   ·cases hbb
 rw [osa_eq, refuse_eq]
 refine wpAny_bind (wpAny_bind (IA.type.here (s := ⟨h, g, d, t, os⟩) (wpAny_bind (hm.here ?_))))
 rw [refuseLoop_ref, exOnly_refuse _ ho]
 refine wpAny_pure (wpAny_bind (IA.type.here (s := ⟨h, g, d, t, os⟩) (wpAny_bind ((looks_findIn X ha).here (s := ⟨h, g, d, t, os⟩) (wpAny_bind (L3.here (s := ⟨h, g, d, t, os⟩) ?_))))))
 show wpAny _ _ (storeInOwnDict (.ref x) (.ref C) (.str name tk) name v _) _ _ _
 obtain ⟨o, hx', hc, hnc, hd⟩ := I
 rw [hx] at hx'
 cases hx'
 refine wpAny_bind (wpAny_pure (wpAny_bind ?_))
 clear L3 sub sub' IA hm SF ha hr hcall htyp
 rcases hd with ⟨hdn, hmA⟩ | ⟨dx, hdx, hne, hns⟩
 ·refine id_none hx hc hC hdn hnc ?_
  have hx₁ : (h.push { cls := .type "dict", data := .dict #[] }).get? x = some ox := Heap.get?_push_of_some _ hx
  have hxs : x ≠ h.objs.size := Nat.ne_of_lt (Heap.lt_size hx)
  refine dict_put (m := fun _ => none) (ns := []) (Heap.Ns1.of_empty ⟨_, #[], _, (Heap.get?_update_ne _ _ _ _ hxs.symm).trans (Heap.get?_push_at rfl rfl), rfl, fun e he => absurd he (by simp), fun _ => rfl⟩) Within.nil (Nat.zero_le _) fun h' tk' hn' hs => wpAny_pure (hq h' _ ?_)
  have hx' : h'.get? x = some { cls := ox.cls, dict := some h.objs.size, data := ox.data, slots := ox.slots } := by
   exact (hs.2 x hxs).trans (Heap.get?_update_self _ hx₁ (freed_dict (Heap.get?_some_iff.mp hx).2))
  refine ⟨⟨_, hx', hc, hnc, .inr ⟨h.objs.size, rfl, hxs.symm, ?_⟩⟩, fun b ob hbx _ hb => ?_,
   fun o₀ h₀ => by obtain rfl : ox = o₀ := Option.some.inj (hx.symm.trans h₀); exact ⟨_, hx', rfl, rfl, fun dx e => by rw [hdn] at e; cases e⟩, fun o₁ dx e1 e2 => ?_⟩
  ·obtain ⟨o', es, ep, e1, e2, e3, eu, e4⟩ := hn'
   exact ⟨o', es, ep, e1, e2, e3, eu, fun y => by rw [e4 y]; by_cases hy : y = name <;> simp [hy, hmA]⟩
  ·exact (hs.2 b (Nat.ne_of_lt (Heap.lt_size hb))).trans ((Heap.get?_update_ne _ _ _ _ hbx).trans (Heap.get?_push_of_some _ hb))
  ·rw [hx'] at e1; cases e1; cases e2
   exact .inr (get?_size _)
 ·refine id_some hx hc hC hdx ?_
  refine dict_put hns hw hsz fun h' tk' hn' hs => wpAny_pure (hq h' _ ?_)
  exact ⟨⟨ox, (hs.2 x hne.symm).trans hx, hc, hnc, .inr ⟨dx, hdx, hne, hn'⟩⟩, fun b ob _ hbd hb => (hs.2 b (hbd ox dx hx hdx)).trans hb, fun o₀ h₀ => ⟨o₀, (hs.2 x hne.symm).trans h₀, rfl, rfl, fun _ e => e⟩, fun o₁ dx' e1 e2 => .inl ⟨o₁, (hs.2 x hne.symm).symm.trans e1, e2⟩⟩
theorem exc_set {E : Value -> Shared -> Prop} {ns : List Str} {Q : Unit -> Shared -> Prop} (X : K.In h) (P : ZR K C bm) (hs : findIn K (.ref C) "__setattr__" = some (some (.builtin "object.__setattr__"))) (ht : takerIn K C name = some none) (I : h.Inst x C mA) (hw : Within mA ns) (hsz : ns.length ≤ 100)
  (hq : ∀ h' tk', OsaPost h x C mA name v h' -> Q () ⟨h', g, d, tk', os⟩) :
  wpAny (model prog w) A (setAttr (.ref x) name v) Q E ⟨h, g, d, t, os⟩ := by
 obtain ⟨ox, od, IA, hx⟩ := inst_at I
 refine set_plain X IA hs (exc_osa X P ht I hw hsz hq)
end
section
variable {K : Frag} {prog : Program} {w : World} {A : Around} {R : Result -> Shared -> Prop} {h : Heap} {g : Array GenState} {d : Drawn} {t : Nat} {os : OsState} {C : Addr} {bm : List Value} {x : Addr} {mA : Str -> Option Value} {name : Str} {v : Value}
theorem exc_init_check {M : Model} {E : Value -> Shared -> Prop} {Q : Unit -> Shared -> Prop} {oe : Obj} {rest : List Value} (X : K.In h) (P : ZR K C bm) (he : h.get? x = some oe) (hcls : oe.cls = .ref C) (hq : Q () ⟨h, g, d, t, os⟩) :
  wpAny M A (checkBuiltinCall "Exception.__init__" ⟨.ref x :: rest, []⟩) Q E ⟨h, g, d, t, os⟩ := by
 have F := PySem.F.excBase_Exception
 obtain ⟨⟨xc, hK⟩, ho, hcall, htyp⟩ := P
 have hC := X _ _ hK
 obtain ⟨o1, o2, o3, o4, o5⟩ := Yu ho
 have hcB : (Value.ref C :: bm).contains (.type "Exception") = true := by rw [List.contains_cons, o1, Bool.or_true]
 have hshort := F.noStar
 simp only [checkBuiltinCall, F.initKind, F.initSplit, F.initRow]
 repeat (first | (with_reducible refine wpAny_loadPart_at he ?_; rw [hcls]) | with_reducible refine wpAny_loadPart_at hC ?_ | (with_reducible refine wpAny_isSubtype_exc hC ?_; rw [hcB]) | wp_step)
 refine wpAny_onRaise ?_
 rw [show ∀ (a b : String) (n : Nat), Bind.check ⟨.positional, "*", "Exception", .self, [⟨"args", .varPos, false⟩]⟩ a b n (List.map (fun x => x.fst) ({ pos := Value.ref x :: rest } : Args).kw) = pure () from
  fun a b n => check_star_args _ _ _ _ _ _]
 exact wpAny_pure hq
theorem exc_base_init {E : Value -> Shared -> Prop} {Q : Value -> Shared -> Prop} {t0 : Addr} {dct : Option Addr} {sl : Array (Option Value)} {a : Value} (X : K.In h) (P : ZR K C bm)
  (hx : h.get? x = some ⟨.ref C, dct, .fields #[.ref t0, .none, .none, .none, .bool false, .none], sl⟩)
  (hq : ∀ h', h'.get? x = some ⟨.ref C, dct, .fields #[.ref h.objs.size, .none, .none, .none, .bool false, .none], sl⟩ -> (∀ b o, b ≠ x -> h.get? b = some o -> h'.get? b = some o) -> Q .none ⟨h', g, d, t, os⟩) :
  wpAny (model prog w) A (call (.builtin "Exception.__init__") [.ref x, a]) Q E ⟨h, g, d, t, os⟩ := by
 have F := PySem.F.excBase_Exception
 refine wpAny_call (codeAny_call_builtin F.init.plain F.initEntry (exc_init_check X P hx rfl ?_))
 clear F P X
 have hne : x ≠ h.objs.size := Nat.ne_of_lt (Heap.lt_size hx)
 have hx1 := Heap.get?_push_of_some { cls := .type "tuple", data := .seq #[a] } hx
 wp_walk
 refine hq _ ?_ fun b o hb e => ?_
 ·rw [Heap.get?_update_self _ hx1 rfl]
  rfl
 ·rw [Heap.get?_update_other _ _ hb.symm]
  exact Heap.get?_push_of_some _ e
end
structure IPos where
 p1 : Pos
 p2 : Pos
 p3 : Pos
 p4 : Pos
 p5 : Pos
 p6 : Pos
 q1 : Pos
 q2 : Pos
 q3 : Pos
 q4 : Pos
 r1 : Pos
 r2 : Pos
 r3 : Pos
 r4 : Pos
noncomputable def initBody (p : IPos) : List Stmt :=
 [.Expr (.Call (.Attribute (.Name "Exception" p.p1) "__init__" p.p2) [.Name "self" p.p3, .Name "what" p.p4] [] p.p5) p.p6,
  .Assign [.Attribute (.Name "self" p.q1) "what" p.q2] (.Name "what" p.q3) p.q4,
  .Assign [.Attribute (.Name "self" p.r1) "at" p.r2] (.Name "at" p.r3) p.r4]
noncomputable def eLoc (e : Addr) (a dv : Value) : List (Str × Value) := [(("self" : Str), .ref e), (("what" : Str), a), (("at" : Str), dv)]
structure ExcFn (X : Cx) (fi : Addr) (fd : FuncData) (p : IPos) : Prop where
 obj : ∃ oc od osl, X.K.lookup fi = some ⟨oc, od, .func fd, osl⟩
 code : codeIn X.K fd.code fd.qualname = true
 body : fd.body = .stmts (initBody p)
 bind : ∀ e a : Value, ∃ dv, ∀ S, peek X.K S (bindArgs fd ⟨[e, a], []⟩) = some [(("self" : Str), e), (("what" : Str), a), (("at" : Str), dv)]
 clo : fd.closure = []
 glob : fd.globals = mainGlobals
 bi : fd.builtins = builtinsNs
 co : fd.scope.isCoroutine = false
 gen : fd.scope.isGenerator = false
 kind : fd.scope.kind = .function
 cell : ∀ y ∈ fd.scope.names, y.2 ≠ .cell
 n1 : fd.scope.names.lookup ("self" : Str) = some .local
 n2 : fd.scope.names.lookup ("what" : Str) = some .local
 n3 : fd.scope.names.lookup ("at" : Str) = some .local
 n4 : fd.scope.names.lookup ("Exception" : Str) = some .globalImplicit
 line : (p.p2.endLine == p.p5.line) = true
structure ExcInit (X : Cx) (fi : Addr) (C : Addr) : Prop where
 fn : ∃ fd p, ExcFn X fi fd p
 none_ : X.mg "Exception" = none
 set_ : findIn X.K (.ref C) "__setattr__" = some (some (.builtin "object.__setattr__"))
 what_ : takerIn X.K C "what" = some none
 at_ : takerIn X.K C "at" = some none
theorem ei_boot : bootBuiltins "Exception" = some (.type "Exception") := by kernel_rfl
theorem ei_find : findCls [] (.type "Exception") (.type "type") "__init__" = some (.val (.builtin "Exception.__init__")) := by kernel_rfl
theorem ei_type : typeOf (.type "Exception") = pure (.type "type") := by kernel_rfl
theorem K_nil {h : Heap} : Frag.In [] h := fun _ _ e => by cases e
theorem Ku {M : Model} {A : Around} {s : Shared} {env : Env} {o : Expr} {name : Str} {apos pos : Pos} {ov : Value} {n : Nat} {args : List (Sem Value)} {Q : Value -> Shared -> Prop} {E : Value -> Shared -> Prop} (hn : n < 30) (hline : (apos.endLine == pos.line) = true)
  (hm : ∀ pl, wpAny M A (getMethod ov name pl) (fun fx s1 => wpAny M A (callWith pos fx.1 fx.2 (args.map fun t => (false, t)) []) Q E s1) E s) : wpAny M A (methodCall o name apos pos env ov n (args.map fun t => (false, t)) []) Q E s := by
 have hform : methodCallForm n (args.map fun t => (false, t)) [] = true := by
  unfold methodCallForm
  simp [hn]
 have hpos : methodCallPos true o env apos pos = pure pos := by unfold methodCallPos; simp [hline]
 unfold methodCall
 rw [hform]
 refine wpAny_bind (wpAny_holding (wpAny_mono (hm _) (fun fx s1 h1 => ?_) fun _ _ q => q))
 exact wpAny_bind (wpAny_of_eq hpos h1)
section
variable {X : Cx} {A : Around} {R : Result -> Shared -> Prop} {H : Heap} {g : Array GenState} {d : Drawn} {t : Nat} {os : OsState} {C : Addr} {bm : List Value} {fi e : Addr} {a : Value}
theorem KL {fd : FuncData} {L : Addr} {dv : Value} {h₀ h' : Heap} {tk : Nat} {n : Str} {v : Value} {pos : Pos} {Q : Value -> Shared -> Prop} {E : Value -> Shared -> Prop} {t0 : Addr} (hk : fd.scope.kind = .function) (hLn : H.get? L = none) (he : H.get? e = some (Yd C t0))
  (hns : h₀.Ns L (fun x => (eLoc e a dv).reverse.lookup x)) (hk' : ∀ b o, b ≠ e -> h₀.get? b = some o -> h'.get? b = some o) (hn : fd.scope.names.lookup n = some .local) (hv : (eLoc e a dv).reverse.lookup n = some v) (hdbg : (n == ("__debug__" : Str)) = false)
  (hQ : Q v ⟨h', g, d, tk, os⟩) : wpAny (model X.prog X.w) A (eval (.Name n pos) (callEnv fd L fi)) Q E ⟨h', g, d, tk, os⟩ := by
 have hLe : L ≠ e := fun q => by rw [q, he] at hLn; cases hLn
 exact wpAny_Name (wpAny_loadName_local hk hn (hns.at fun o ho => hk' L o hLe ho) hv hQ) hdbg
theorem ei_set {fd : FuncData} {L : Addr} {dv : Value} {h₀ h' : Heap} {tk : Nat} {n m : Str} {v : Value} {sp ap vp pos : Pos} {rest : List Stmt} {Q : Flow -> Shared -> Prop} {E : Value -> Shared -> Prop} {t0 : Addr} {mA : Str -> Option Value} {ns : List Str} (P : ZR X.K C bm) (XK : X.K.In h') (hset : findIn X.K (.ref C) "__setattr__" = some (some (.builtin "object.__setattr__"))) (hw : takerIn X.K C m = some none)
  (hk : fd.scope.kind = .function) (hLn : H.get? L = none) (he : H.get? e = some (Yd C t0)) (hns : h₀.Ns L (fun x => (eLoc e a dv).reverse.lookup x)) (hk' : ∀ b o, b ≠ e -> h₀.get? b = some o -> h'.get? b = some o) (hs : fd.scope.names.lookup ("self" : Str) = some .local) (hn : fd.scope.names.lookup n = some .local) (hv : (eLoc e a dv).reverse.lookup n = some v) (hdbg : (n == ("__debug__" : Str)) = false)
  (I : h'.Inst e C mA) (hm : Within mA ns) (hsz : ns.length ≤ 100)
  (hq : ∀ h2 tk2, OsaPost h' e C mA m v h2 -> wpAny (model X.prog X.w) A (execs rest (callEnv fd L fi)) Q E ⟨h2, g, d, tk2, os⟩) :
  wpAny (model X.prog X.w) A (execs (.Assign [.Attribute (.Name "self" sp) m ap] (.Name n vp) pos :: rest) (callEnv fd L fi)) Q E ⟨h', g, d, tk, os⟩ := by
 rw [execs_cons]
 refine wpAny_bind ?_
 rw [ZF (ZZ rfl) rfl rfl]
 refine wpAny_bind (wpAny_standAt (wpAny_bind (KL hk hLn he hns hk' hn hv hdbg (wpAny_bind ?_))))
 rw [arm_assign_Attribute]
 refine wpAny_bind (wpAny_holding (KL hk hLn he hns hk' hs rfl (by decide) (wpAny_bind (wpAny_standAt (wpAny_bind (wpAny_holding ?_))))))
 exact exc_set XK P hset hw I hm hsz fun h2 tk2 k => wpAny_release (wpAny_pure (hq h2 tk2 k))
theorem exc_init (lim : X.base.NoLimit) (P : ZR X.K C bm) (F : ExcInit X fi C) (B : X.base.StaysIn H) {t0 : Addr} (he : H.get? e = some (Yd C t0)) (hb : X.base.get? e = none) (hroom : A.depth < recursionLimit)
  (hq : ∀ h' tk' dct sl t2, h'.get? e = some ⟨.ref C, dct, .fields #[.ref t2, .none, .none, .none, .bool false, .none], sl⟩ -> (∀ b o, b ≠ e -> H.get? b = some o -> h'.get? b = some o) -> R (.ok (.ret .none)) ⟨h', g, d, tk', os⟩) :
  codeAny (model X.prog X.w) A (.call (.ref fi) ⟨[.ref e, a], []⟩) R ⟨H, g, d, t, os⟩ := by
 obtain ⟨⟨fd, p, F⟩, hmg, hset, hw, hat⟩ := F
 have XH : X.K.In H := X.kin.keeps B
 obtain ⟨dv, hbd⟩ := F.bind (.ref e) a
 obtain ⟨oc, od, osl, hobj⟩ := F.obj
 refine codeAny_call_def hroom (XH _ _ hobj) rfl (lim.keeps B) (codeRec_of XH F.code) F.body (kp_binds XH hbd) F.cell (fun x hx => ?_) (fun h₀ hns kp => ?_) F.co F.gen F.kind
 ·simp only [List.mem_cons, List.not_mem_nil, or_false] at hx
  rcases hx with rfl | rfl | rfl
  ·exact F.n1
  ·exact F.n2
  ·exact F.n3
 replace hns : h₀.Ns H.objs.size (fun x => (eLoc e a dv).reverse.lookup x) := hns
 have hLn : H.get? H.objs.size = none := get?_size _
 have hbL : X.base.get? H.objs.size = none := JC B hLn
 have B0 : X.base.StaysIn h₀ := fun b o e => kp b o (B b o e)
 have he0 : h₀.get? e = some (Yd C t0) := kp _ _ he
 have stay : ∀ {h1 : Heap}, (∀ b o, b ≠ e -> h₀.get? b = some o -> h1.get? b = some o) -> X.base.StaysIn h1 := fun k b o e' => k b o (fun q => by rw [q, hb] at e'; cases e') (B0 b o e')
 have hin : interactive (callEnv fd H.objs.size fi) = false := by unfold interactive; rw [show (callEnv fd H.objs.size fi).scope.kind = .function from F.kind]; rfl
 show wpAny _ _ (execs (_ :: _) _) _ _ _
 rw [execs_cons]
 refine wpAny_bind ?_
 rw [exec_Expr _ _ _ hin (Zt rfl)]
 refine wpAny_bind (wpAny_standAt (wpAny_bind ?_))
 rw [Oa (fun x hx => by rcases List.mem_cons.mp hx with rfl | hx; rfl; rw [List.mem_singleton.mp hx]; rfl) rfl]
 have mg0 : h₀.Ns (callEnv fd H.objs.size fi).globals X.mg := by rw [show (callEnv fd H.objs.size fi).globals = mainGlobals from F.glob]; exact X.gns.keeps B0
 have mb0 : h₀.Ns (callEnv fd H.objs.size fi).builtins X.mb := by rw [show (callEnv fd H.objs.size fi).builtins = builtinsNs from F.bi]; exact X.bns.keeps B0
 refine wpAny_bind (Calls.Name_function_global F.kind F.n4 (Calls.loadGlobal_builtin mg0 hmg mb0 (X.boot _ _ ei_boot (by decide)) ?_) (by decide))
 refine wpAny_bind (wpAny_standAt ?_)
 refine Ku (args := [eval (.Name "self" p.p3) (callEnv fd H.objs.size fi), eval (.Name "what" p.p4) (callEnv fd H.objs.size fi)]) (by show 2 < 30; decide) F.line fun pl => ?_
 refine method_type (m := fun x => (eLoc e a dv).reverse.lookup x) (L := H.objs.size) (h₀ := H) ⟨hns, kp, Nat.le_refl _⟩ K_nil ei_type (by decide +kernel) ei_find rfl ?_
 refine Calls.callWith_builtin rfl (Calls.evalArgs_plain ?_)
 refine Calls.spliced_cons (KL F.kind hLn he hns (fun b o _ e' => e') F.n1 rfl (by decide) ?_)
 refine Calls.spliced_cons (KL F.kind hLn he hns (fun b o _ e' => e') F.n2 rfl (by decide) ?_)
 refine Calls.spliced_nil ?_
 refine exc_base_init (X.kin.keeps B0) P he0 fun h1 he1 hk1 => ?_
 refine wpAny_dropValue ?_
 have I1 : h1.Inst e C fun _ => none := ⟨_, he1, rfl, fun _ => by simp, .inl ⟨rfl, fun _ => rfl⟩⟩
 refine ei_set P (X.kin.keeps (stay hk1)) hset hw F.kind hLn he hns hk1 F.n1 F.n2 rfl (by decide) I1 Within.nil (Nat.zero_le _) fun h2 tk2 k2 => ?_
 have d1 : ∀ o₁ dx, h1.get? e = some o₁ -> o₁.dict = some dx -> False := fun o₁ dx e1 e2 => by rw [he1] at e1; cases e1; cases e2
 have hk2 : ∀ b o, b ≠ e -> h₀.get? b = some o -> h2.get? b = some o := fun b o nb e' => k2.keep b o nb (fun o₀ dx e1 e2 => (d1 _ _ e1 e2).elim) (hk1 b o nb e')
 refine ei_set P (X.kin.keeps (stay hk2)) hset hat F.kind hLn he hns hk2 F.n1 F.n3 rfl (by decide) k2.inst (Within.cons _ _ Within.nil) (Nat.succ_le_succ (Nat.zero_le _)) fun h3 tk3 k3 => ?_
 refine wpAny_execs_nil ?_
 obtain ⟨oe2, e21, e22, e23, _⟩ := k2.self _ he1
 obtain ⟨⟨c3, dct3, dat3, sl3⟩, e31, e32, e33, _⟩ := k3.self _ e21
 cases e32.trans e22
 cases e33.trans e23
 refine hq h3 tk3 dct3 sl3 _ e31 fun b o nb e' => k3.keep b o nb (fun o₀ dx e1 e2 => ?_) (hk2 b o nb (kp b o e'))
 rcases k2.dict o₀ dx e1 e2 with ⟨o', e3, e4⟩ | z
 ·exact (d1 _ _ e3 e4).elim
 ·intro q
  rw [← q, hk1 b o nb (kp b o e')] at z
  cases z
end
end Mine
namespace Mine
open PySem PySem.W PyProof.Rows PySem.SeqAt
theorem funFrames_new {h h' base B : Heap} {l : List Env} (hl : h.FunFrames base l) (hB : ∀ L, L ∈ l.filterMap (·.frame) -> B.get? L = none) (k : ∀ b o, h.get? b = some o -> h'.get? b = some o) : h'.FunFrames B l := by
 induction l with
 | nil => trivial
 | cons env r ih =>
  obtain ⟨hk, ⟨L, o, hf, hn, e, q⟩, hr⟩ := hl
  refine ⟨hk, ⟨L, o, hf, hB L (by simp [hf]), k _ _ e, q⟩, ih hr fun L' hL' => hB L' ?_⟩
  rw [List.filterMap_cons, hf]; exact List.mem_cons_of_mem _ hL'
structure OH (X : Cx) (c : Nat) : Prop where
 ex : ∃ bm, ZR X.K (X.cls c) bm
 init : ∃ fi, findIn X.K (.ref (X.cls c)) "__init__" = some (some (.ref fi)) /\ typeIn X.K (.ref fi) = some (.type "function") /\ ExcInit X fi (X.cls c)
section
variable {X : Cx} {S : SX} {C C' : SC} {lvl : Nat} {A : Around} {W W1 fs : List Addr} {env : Env} {fr : Fr} {Z Z' : Rho} {U U' : St} {s s' : Shared}
theorem raise_made {M : Model} {E : Value -> Shared -> Prop} {K : Frag} {CC : Addr} {bm : List Value} {x : Sem Value} {Q : Flow -> Shared -> Prop} (P : ZR K CC bm) (hh : A.handled = none)
  (h : wpAny M A x (fun v s₁ => ∃ e t dct sl, v = .ref e /\ K.In s₁.heap /\ s₁.heap.get? e = some ⟨.ref CC, dct, .fields #[.ref t, .none, .none, .none, .bool false, .none], sl⟩ /\ E (.ref e) s₁) E s) :
  wpAny M A (raiseStmt env (some x) none) Q E s := by
 obtain ⟨⟨xc, hK⟩, ho, hcall, htyp⟩ := P
 have hcB : (Value.ref CC :: bm).contains (.type "BaseException") = true := by rw [List.contains_cons, (Yu ho).2.1, Bool.or_true]
 unfold raiseStmt
 refine wpAny_bind (wpAny_mono h (fun v s₁ h₁ => ?_) fun _ _ x => x)
 obtain ⟨e, t, dct, sl, rfl, X, he, hE⟩ := h₁
 have hC := X _ _ hK
 obtain ⟨hp, g, d, tk, os⟩ := s₁
 repeat (first | with_reducible refine wpAny_loadPart_at he ?_ | with_reducible refine wpAny_loadPart_at hC ?_ | (with_reducible refine wpAny_isSubtype_exc hC ?_; rw [hcB]) | wp_step)
 exact wpAny_raiseNew_none hh hE
theorem s_raise (O : SOk X S) (lim : X.base.NoLimit) {id x : Str} {k c : Nat} {np cp cpos pos : Pos} (F : OH X c) (hl : 1 ≤ lvl) (hd : (id == ("__debug__" : Str)) = false) (hk : C.names.lookup id = some .globalImplicit) (hg : S.glob.lookup id = some (.cls c)) :
  SOkS X C lvl (.Raise (some (.Call (.Name id np) [.Constant (.str x) k cp] [] cpos)) none pos) fun _ U => .exc c U := fun A fs env fr Z U s a tp ns => by
 obtain ⟨⟨bm, P⟩, fi, hi, hf, FI⟩ := F
 obtain ⟨e1, e2⟩ := O.cls _ _ hg
 rw [arm_exec_Raise]
 show wpAny _ _ (standAt pos >>= fun _ => raiseStmt env (some (eval (.Call (.Name id np) [.Constant (.str x) k cp] [] cpos) env >>= fun v => standAt pos >>= fun _ => pure v)) none) _ _ s
 refine wpAny_bind (wpAny_standAt (raise_made P a.ar.hd ?_))
 rw [JS (by intro y hy; simp at hy; subst hy; rfl)]
 refine wpAny_bind (wpAny_bind (KI a hd hk e1 _ _ fun j => ?_))
 have a1 : At X C lvl A fs env fr Z U { s with toks := j } := a.next (s' := { s with toks := j }) a.I Step.refl
 refine callWith_of (P := X.K.In) (by simp) (Zz e2) (Calls.evalArgs_plain (Calls.spliced_cons (wpAny_Constant_str (Calls.spliced_nil ⟨a.I.kin, ?_⟩))))
 obtain ⟨hh, g, d, tk, os⟩ := s
 dsimp only
 refine wpAny_call (exc_make (w := X.w) a.I.kin P hi hf (by rw [sizeLine_eq]; show 1 ≤ 16777216; decide) ?_)
 have hnew : hh.get? (hh.objs.size + 1) = none := get?_oob (Nat.le_succ _)
 have kp : ∀ b o, hh.get? b = some o -> ((hh.push { cls := .type "tuple", data := .seq #[.str x j] }).push (Yd (X.cls c) hh.objs.size)).get? b = some o := fun b o e => Heap.get?_push_of_some _ (Heap.get?_push_of_some _ e)
 have he : ((hh.push { cls := .type "tuple", data := .seq #[.str x j] }).push (Yd (X.cls c) hh.objs.size)).get? (hh.objs.size + 1) = some (Yd (X.cls c) hh.objs.size) := by heap_get
 refine exc_init lim P FI (fun b o e => kp b o (a.I.base b o e)) he (JC a.I.base hnew) ?_ fun h' tk' dct sl t2 he' k' => ⟨rfl, ?_⟩
 ·have := (under_rm (lvl := lvl - 1) (a := X.cls c) (rest := [.str x j]) (kw := []) (A := A) (by rw [Nat.sub_add_cancel hl]; exact a.rm)).1
  exact Nat.lt_of_le_of_lt (Nat.le_add_right _ _) this
 have kk : ∀ b o, hh.get? b = some o -> h'.get? b = some o := fun b o e => k' b o (fun q => by rw [q, hnew] at e; cases e) (kp b o e)
 refine wpAny_bind (wpAny_standAt (wpAny_pure ⟨_, t2, dct, sl, rfl, a.I.kin.keeps kk, he', ?_⟩))
 obtain ⟨l, f1, f2, f3⟩ := a.ar.fr
 have hB : ∀ b o, (hideAll hh fs).get? b = some o -> h'.get? b = some o := fun b o e => kk b o (of_hideAll fs e)
 refine ⟨c, U, Z, hh, hh.objs.size + 1, rfl, rfl, ⟨h', tk', rfl⟩, a.I, Step.refl, l, hideAll hh fs, .ref t2, f1, fun b o e nf => hideAll_get fs e nf, .inr (.inr ⟨hB, ?_, ?_, _, _, he', rfl, rfl, rfl, rfl⟩), fun b ob e _ => ⟨ob.slots, kk b ob e⟩, fun L hL o' ho' => ?_⟩
 ·cases e : (hideAll hh fs).get? (hh.objs.size + 1) with
  | none => rfl
  | some o => have := of_hideAll fs e; rw [hnew] at this; cases this
 ·exact funFrames_new f3 (fun L hL => hideAll_none fs (f2 ▸ hL)) kk
 ·obtain ⟨_, o1, e, _⟩ := f3.mem hL
  rw [kk _ _ e] at ho'; cases ho'
  exact a.ar.nsq L (f2 ▸ hL) _ e
end
section
variable {X : Cx} {S : SX} {C C' : SC} {lvl : Nat} {A : Around} {W W1 fs : List Addr} {env : Env} {fr : Fr} {Z Z' : Rho} {U U' : St} {s s' : Shared}
theorem Rp.land {h h' : Heap} (I : Rp X Z U h) (T : Step [] fs Z Z h h') (k : ∀ a, a ∈ Je Z -> ∀ o, h.get? a = some o -> h'.get? a = some o) (b : X.base.StaysIn h') : Rp X Z U h' :=
 ⟨b, I.len, I.nodup, I.off, I.fz, fun i p o hi ho => (I.objs i p o hi ho).step T Ja fun a ha ob e => k a (List.mem_flatMap.mpr ⟨p, List.mem_of_getElem? hi, ha⟩) ob e⟩
theorem landed {h h₁ h₄ : Heap} {l : List Env} {Bx : Heap} {a : Addr} {cls a0 : Value} (ar : AOK X A fs Z h) (I : Rp X Z' U' h₁) (T : Step [] fs Z Z' h h₁) (hA : A.frames = some l) (hB : ∀ b o, h₁.get? b = some o -> b ∉ fs -> Bx.get? b = some o)
  (u : h₁.UpToSlots h₄) (x : Heap.FlyingW Bx l a cls a0 h₄) : Rp X Z' U' h₄ /\ Step [] fs Z Z' h h₄ := by
 have ar1 := ar.step0 T
 obtain ⟨l', e1, e2, e3⟩ := ar1.fr
 rw [hA] at e1
 cases e1
 have kk : ∀ b o, h₁.get? b = some o -> b ∉ fs -> h₄.get? b = some o := fun b o e n => x.1 b o (hB b o e n)
 have T4 : Step [] fs Z' Z' h₁ h₄ := by
  refine ⟨⟨[], by simp⟩, fun b o e _ _ => ⟨fun nf => kk b o e nf, ?_⟩, fun b o e _ => ?_, fun _ q => .inl q, fun _ _ q => q⟩
  ·by_cases m : b ∈ fs
   ·obtain ⟨_, o', e', q⟩ := e3.mem (e2 ▸ m)
    rw [e] at e'; cases e'
    exact u b o e q
   ·exact ⟨o.slots, kk b o e m⟩
  ·by_cases m : b ∈ fs
   ·obtain ⟨_, o', e', q⟩ := e3.mem (e2 ▸ m)
    rw [e] at e'; cases e'
    obtain ⟨sl, z⟩ := u b o e q
    exact ⟨_, z⟩
   ·exact ⟨o, kk b o e m⟩
 have bs : X.base.StaysIn h₄ := fun b o e => kk b o (I.base b o e) fun m => by
  obtain ⟨hn, _⟩ := e3.mem (e2 ▸ m)
  rw [hn] at e; cases e
 exact ⟨I.land T4 (fun b hb o e => kk b o e fun m => ar1.off b m hb) bs, T.trans T4⟩
set_option tactic.hygienic true in
theorem s_tryn {body : List Stmt} {h0 : ExceptHandler} {hs : List ExceptHandler} {pos : Pos} {g : Fr -> St -> R Fl} (h : Zq X C lvl body g) :
  SOkS X C lvl (.Try body (h0 :: hs) [] [] pos) fun fr U => OD (g fr U) := fun A fs env fr Z U s a tp => by
 show Ok X A _ fs Z s (UE X C env) _ (OD (g fr U))
 intro ns
 obtain ⟨fl, U2, q⟩ := Uk ns
 rw [show OD (g fr U) = .ok fl U2 by rw [q]; rfl]
 refine wpAny_Try_except (wpAny_mono (h _ _ _ _ _ _ _ a tp (by rw [q]; exact fun q => nomatch q)) (fun flow s2 p => ?_) fun e s2 p => ?_)
 ·obtain ⟨_, _, Z2, g1, g2, g3, g4, g5⟩ := p
  cases q.symm.trans g1
  cases fl with
  | ret v =>
   cases flow <;> first | exact g4.elim | skip
   exact ⟨.ret v, U2, Z2, rfl, g2, g3, g4, g5⟩
  | next fr2 =>
   cases flow <;> first | exact g4.elim | skip
   exact wpAny_execs_nil ⟨.next fr2, U2, Z2, rfl, g2, g3, g4, g5⟩
 ·obtain ⟨c', _, _, _, _, g1, _⟩ := p
  cases q.symm.trans g1
theorem putFr_inv {fr : Fr} {i : Nat} {v : PV} {f : Fr -> St -> R Fl} {U : St} (h : Yk fr i v f U ≠ .stuck) : Yk fr i v f U = f (fr.set i (some v)) U /\ (if i < fr.length then .ok (fr.set i (some v)) U else .stuck : R Fr) = .ok (fr.set i (some v)) U := by
 by_cases hi : i < fr.length
 ·exact ⟨if_pos hi, if_pos hi⟩
 ·exact absurd (if_neg hi) h
set_option tactic.hygienic true in
theorem caught {n : Str} {j : Nat} {b : Bool} {k : Nat} {np cp pos : Pos} (hΓ : C.Γ.lookup n = some j) (nf : env.kindOf n ≠ some .free) (I : Rp X Z U s.heap) (F : FrR X C.Γ env fr Z s.heap) {E : Value -> Shared -> Prop} {Q : Flow -> Shared -> Prop}
  (h : ∀ s', Ext s s' -> Rp X Z U s'.heap -> FrR X C.Γ env (fr.set j (some (.bool b))) Z s'.heap -> Step (Jb env) fs Z Z s.heap s'.heap -> Q .next s') :
  wpAny (model X.prog X.w) A (execs [.Assign [.Name n np] (.Constant (.bool b) k cp) pos] env) Q E s := by
 rw [execs_cons]
 refine wpAny_bind ?_
 rw [ZF rfl rfl rfl]
 refine wpAny_bind (wpAny_standAt (wpAny_bind (Constant_bool (wpAny_bind ?_))))
 rw [arm_assign_Name]
 refine wpAny_bind (wpAny_standAt (Yg I F (Ji hΓ) nf (.bool b) fun h5 j b' hb' _ I5 F5 T5 => wpAny_pure ?_))
 exact wpAny_execs_nil (h _ ⟨_, _, rfl⟩ I5 F5 (T5 _ _ hb'))
set_option tactic.hygienic true in
theorem try_body {n : Str} {i : Nat} {np apos : Pos} {e : Expr} {rest : List Stmt} {f : Fr -> St -> R PV} {g : Fr -> St -> R Fl} {Q : Flow -> Shared -> Prop} {E : Value -> Shared -> Prop}
  (hc : YY e = false) (hΓ : C.Γ.lookup n = some i) (nf : C.names.lookup n ≠ some .free) (hw : ∀ env : Env, swappedStores [.Name n np] e env = pure none) (h1 : EOk X C lvl e f) (h2 : Zq X C lvl rest g) (a : At X C lvl A fs env fr Z U s) (tp : Top A env) (n1 : f fr U ≠ .stuck)
  (n2 : ∀ v U1, f fr U = .ok v U1 -> ∃ fl U2, Yk fr i v g U1 = .ok fl U2)
  (kn : ∀ v U1 fl U2 flow Z2 s2, f fr U = .ok v U1 -> Yk fr i v g U1 = .ok fl U2 -> Ext s s2 -> Rp X Z2 U2 s2.heap -> UE X C env s2.heap Z2 fl flow -> Step (Jb env) fs Z Z2 s.heap s2.heap -> Q flow s2)
  (ke : ∀ x s1, PostX X A [] fs Z s (f fr U) x s1 -> E x s1) : wpAny (model X.prog X.w) A (execs (.Assign [.Name n np] e apos :: rest) env) Q E s := by
 rw [execs_cons]
 refine wpAny_bind ?_
 rw [ZF (Zt hc) (hw env) rfl]
 refine wpAny_bind (wpAny_standAt (wpAny_bind (wpAny_mono (h1 _ _ _ _ _ _ _ a n1) (fun u s1 p => ?_) ke)))
 obtain ⟨v, U1, Z1, e1, e2, e3, e4, e5⟩ := p
 obtain ⟨fl, U2, q⟩ := n2 v U1 e1
 obtain ⟨p1, p2⟩ := putFr_inv (show Yk fr i v g U1 ≠ .stuck by rw [q]; exact fun q => nomatch q)
 have a1 := a.next e3 e5
 refine wpAny_bind ?_
 rw [arm_assign_Name]
 refine wpAny_bind (wpAny_standAt (Yg a1.I a1.F (Ji hΓ) (by rw [a.kind]; exact nf) e4 fun h5 j b' hb' _ I5 F5 T5 => wpAny_pure ?_))
 have a2 : At X C lvl A fs env (fr.set i (some v)) Z1 U1 { s1 with heap := h5, toks := j } := a1.nextW (s' := { s1 with heap := h5, toks := j }) I5 F5 (T5 _ _ hb')
 have E2 : Ext s { s1 with heap := h5, toks := j } := e2.trans ⟨_, _, rfl⟩
 have T2 : Step (Jb env) fs Z Z1 s.heap h5 := (e5.mono (fun _ q => nomatch q) a.thereW).trans (T5 _ _ hb')
 have q' := p1.symm.trans q
 refine wpAny_mono (h2 _ _ _ _ _ _ _ a2 tp (by rw [q']; exact fun q => nomatch q)) (fun flow2 s2 p2 => ?_) fun e s2 p2 => ?_
 ·obtain ⟨_, _, Z2, g1, g2, g3, g4, g5⟩ := p2
  cases q'.symm.trans g1
  exact kn v U1 fl U2 flow2 Z2 s2 e1 q (E2.trans g2) g3 g4 (T2.trans g5)
 ·obtain ⟨c', _, _, _, _, g1, _⟩ := p2
  cases q'.symm.trans g1
theorem try_catch (O : SOk X S) {id : Str} {c j k : Nat} {b : Bool} {np2 cp ip hp ap2 : Pos} {n2 : Str} {Q : Flow -> Shared -> Prop} {E : Value -> Shared -> Prop} {x : Value} {s1 : Shared} {U1 : St} (hd : (id == ("__debug__" : Str)) = false) (hk : C.names.lookup id = some .globalImplicit) (hg : S.glob.lookup id = some (.cls c)) (F : OH X c)
  (hΓ2 : C.Γ.lookup n2 = some j) (nf2 : C.names.lookup n2 ≠ some .free) (a : At X C lvl A fs env fr Z U s) (tp : Top A env) (p : PostX X A [] fs Z s (.exc c U1 : R PV) x s1)
  (kn : ∀ Z1 s', Ext s s' -> Rp X Z1 U1 s'.heap -> FrR X C.Γ env (fr.set j (some (.bool b))) Z1 s'.heap -> Step (Jb env) fs Z Z1 s.heap s'.heap -> Q .next s') :
  wpAny (model X.prog X.w) A (noteFrame x env) (fun _ s2 => wpAny (model X.prog X.w) A (setFlight x none) (fun _ s3 => wpAny (model X.prog X.w) A (handleBy x env [.ExceptHandler (some (.Name id ip)) none [.Assign [.Name n2 np2] (.Constant (.bool b) k cp) ap2] hp]) Q E s3) E s2) E s1 := by
 obtain ⟨c', U1', Z1, h₁, ea, e1, rfl, ⟨hh1, tt1, rfl⟩, e3, e4, l, Bx, a0, f1, f2, f3, f4, f5⟩ := p
 cases e1
 obtain ⟨outer, L, t1, t2⟩ := tp
 rw [t1] at f1
 cases f1
 refine air_note t1 t2 f3 fun h2 hheld u2 => ?_
 refine wpAny_landsW hheld fun h3 hfl u3 => ?_
 have u3' : h₁.UpToSlots h3 := (f4.trans u2).trans u3
 obtain ⟨I3, T3⟩ := landed a.ar e3 e4 t1 f2 u3' hfl
 obtain ⟨⟨bm, P⟩, _⟩ := F
 obtain ⟨⟨xc, hK⟩, ho, hcall, htyp⟩ := P
 obtain ⟨g1, g2⟩ := O.cls _ _ hg
 have hx3 := hfl.there
 refine wpAny_handleBy_cons (codeAny_handlers_test (Calls.Name_function_global a.F.kind ((a.kind id).trans hk) (Calls.loadGlobal_global (mg := X.mg) (by rw [a.F.glob]; exact X.gns.keeps I3.base) g1 ?_) hd)) (fun q => nomatch q)
 obtain ⟨oe, he, hcls⟩ := hx3
 refine wpAny_excMatches_sub_self ((X.kin.keeps I3.base) _ _ hK) he hcls (Yu ho).2.1 ?_
 dsimp only [if_true]
 refine codeAny_handlers_suite (lands_againW hfl fun h4 hfl4 u4 => ?_)
 obtain ⟨I4, T4⟩ := landed a.ar e3 e4 t1 f2 (u3'.trans u4) hfl4
 refine caught (fs := fs) hΓ2 (by rw [a.kind]; exact nf2) I4 (a.F.step T4) fun s' E5 I5 F5 T5 => ?_
 exact kn Z1 _ (Ext.trans (s' := { s with heap := h4, toks := tt1 }) ⟨_, _, rfl⟩ E5) I5 F5 ((T4.mono (fun _ q => nomatch q) a.thereW).trans T5)
theorem s_try (O : SOk X S) {id n : Str} {c i j k : Nat} {b : Bool} {np np2 cp ip hp pos apos ap2 : Pos} {n2 : Str} {e : Expr} {rest : List Stmt} {f : Fr -> St -> R PV} {g : Fr -> St -> R Fl} (hd : (id == ("__debug__" : Str)) = false) (hk : C.names.lookup id = some .globalImplicit) (hg : S.glob.lookup id = some (.cls c)) (F : OH X c)
  (hc : YY e = false) (hΓ : C.Γ.lookup n = some i) (nf : C.names.lookup n ≠ some .free) (hΓ2 : C.Γ.lookup n2 = some j) (nf2 : C.names.lookup n2 ≠ some .free) (hw : ∀ env : Env, swappedStores [.Name n np] e env = pure none)
  (h1 : EOk X C lvl e f) (h2 : Zq X C lvl rest g) :
  SOkS X C lvl (.Try (.Assign [.Name n np] e apos :: rest) [.ExceptHandler (some (.Name id ip)) none [.Assign [.Name n2 np2] (.Constant (.bool b) k cp) ap2] hp] [] [] pos) fun fr U =>
   tryR (f fr U) (fun x U => Yk fr i x g U) c fun U => Yk fr j (.bool b) (fun fr U => .ok (.next fr) U) U := fun A fs env fr Z U s a tp => by
 show Ok X A _ fs Z s (UE X C env) _ (tryR (f fr U) (fun x U => Yk fr i x g U) c fun U => Yk fr j (.bool b) (fun fr U => .ok (.next fr) U) U)
 intro ns
 have n1 : f fr U ≠ .stuck := fun q => by rw [q] at ns; exact ns rfl
 have nn : ∀ v U1, f fr U = .ok v U1 -> ∃ fl U2, Yk fr i v g U1 = .ok fl U2 := fun v U1 e1 => by
  rw [e1] at ns
  exact Uk (r := Yk fr i v g U1) ns
 refine wpAny_Try_except (try_body hc hΓ nf hw h1 h2 a tp n1 nn (fun v U1 fl U2 flow Z2 s2 e1 q g2 g3 g4 g5 => ?_) fun e s1 p => ?_)
 ·have q' : tryR (f fr U) (fun x U => Yk fr i x g U) c (fun U => Yk fr j (.bool b) (fun fr U => .ok (.next fr) U) U) = .ok fl U2 := by
   rw [e1]
   show OD (Yk fr i v g U1) = _
   rw [q]; rfl
  cases fl with
  | ret v =>
   cases flow <;> first | exact g4.elim | skip
   exact ⟨.ret v, U2, Z2, q', g2, g3, g4, g5⟩
  | next fr2 =>
   cases flow <;> first | exact g4.elim | skip
   exact wpAny_execs_nil ⟨.next fr2, U2, Z2, q', g2, g3, g4, g5⟩
 ·obtain ⟨c', U1, e1⟩ : ∃ c' U1, f fr U = .exc c' U1 := by
   obtain ⟨c', U1, _, _, _, e1, _⟩ := p
   exact ⟨c', U1, e1⟩
  rw [e1] at p
  have q : tryR (f fr U) (fun x U => Yk fr i x g U) c (fun U => Yk fr j (.bool b) (fun fr U => .ok (.next fr) U) U) = (if c = c' then Yk fr j (.bool b) (fun fr U => .ok (.next fr) U) U1 else .stuck) := by rw [e1]; rfl
  by_cases hcc : c = c'
  ·subst hcc
   rw [if_pos rfl] at q
   rw [q] at ns
   exact try_catch O hd hk hg F hΓ2 nf2 a tp p fun Z1 s' E5 I5 F5 T5 => ⟨_, _, Z1, q.trans (putFr_inv ns).1, E5, I5, F5, T5⟩
  ·rw [if_neg hcc] at q
   exact absurd q ns
end
noncomputable def v1 {α : Type} {P : α -> Prop} (o : Option {a : α // P a}) : Option α := o.map (·.1)
theorem YB {α : Type} {P : α -> Prop} {o : Option {a : α // P a}} {a : α} (h : v1 o = some a) : P a := by
 cases o with
 | none => cases h
 | some x => exact Option.some.inj h ▸ x.2
section
variable {M : Expr -> Type}
@[elab_as_elim] noncomputable def onName (e : Expr) (d : M e) (k : ∀ id p, M (.Name id p)) : M e := if h : e.ctorIdx = 23 then Expr.Name.elim (motive_1 := M) e h k else d
@[elab_as_elim] noncomputable def onCall (e : Expr) (d : M e) (k : ∀ f a w p, M (.Call f a w p)) : M e := if h : e.ctorIdx = 16 then Expr.Call.elim (motive_1 := M) e h k else d
@[elab_as_elim] noncomputable def onTup (e : Expr) (d : M e) (k : ∀ es n p, M (.Tuple es n p)) : M e := if h : e.ctorIdx = 25 then Expr.Tuple.elim (motive_1 := M) e h k else d
@[elab_as_elim] noncomputable def onCst (e : Expr) (d : M e) (k : ∀ c n p, M (.Constant c n p)) : M e := if h : e.ctorIdx = 19 then Expr.Constant.elim (motive_1 := M) e h k else d
@[elab_as_elim] noncomputable def onSl (e : Expr) (d : M e) (k : ∀ lo hi st p, M (.Slice lo hi st p)) : M e := if h : e.ctorIdx = 26 then Expr.Slice.elim (motive_1 := M) e h k else d
@[elab_as_elim] noncomputable def onLc (e : Expr) (d : M e) (k : ∀ x g s p, M (.ListComp x g s p)) : M e := if h : e.ctorIdx = 8 then Expr.ListComp.elim (motive_1 := M) e h k else d
@[elab_as_elim] noncomputable def onAt (e : Expr) (d : M e) (k : ∀ o a p, M (.Attribute o a p)) : M e := if h : e.ctorIdx = 20 then Expr.Attribute.elim (motive_1 := M) e h k else d
@[elab_as_elim] noncomputable def onSub (e : Expr) (d : M e) (k : ∀ o a p, M (.Subscript o a p)) : M e := if h : e.ctorIdx = 21 then Expr.Subscript.elim (motive_1 := M) e h k else d
end
@[elab_as_elim] noncomputable def onStr {M : Const -> Type} (c : Const) (d : M c) (k : ∀ x, M (.str x)) : M c := if h : c.ctorIdx = 5 then Const.str.elim (motive := M) c h k else d
@[elab_as_elim] noncomputable def onBool {M : Const -> Type} (c : Const) (d : M c) (k : ∀ x, M (.bool x)) : M c := if h : c.ctorIdx = 1 then Const.bool.elim (motive := M) c h k else d
@[elab_as_elim] noncomputable def onAsg {M : Stmt -> Type} (c : Stmt) (d : M c) (k : ∀ ts v p, M (.Assign ts v p)) : M c := if h : c.ctorIdx = 5 then Stmt.Assign.elim (motive_2 := M) c h k else d
section
variable {α : Type}
@[elab_as_elim] noncomputable def onNil {M : List α -> Type} (l : List α) (d : ∀ l, M l) (k : M []) : M l := List.casesOn (motive := M) l k fun _ _ => d _
@[elab_as_elim] noncomputable def onCons {M : List α -> Type} (l : List α) (d : ∀ l, M l) (k : ∀ a r, M (a :: r)) : M l := List.casesOn (motive := M) l (d _) k
@[elab_as_elim] noncomputable def onOne {M : List α -> Type} (l : List α) (d : ∀ l, M l) (k : ∀ a, M [a]) : M l := onCons (M := M) l d fun a r => onNil (M := fun r => M (a :: r)) r (fun _ => d _) (k a)
@[elab_as_elim] noncomputable def onTwo {M : List α -> Type} (l : List α) (d : ∀ l, M l) (k : ∀ a b, M [a, b]) : M l := onCons (M := M) l d fun a r => onOne (M := fun r => M (a :: r)) r (fun _ => d _) (k a)
@[elab_as_elim] noncomputable def onNone {M : Option α -> Type} (o : Option α) (d : ∀ o, M o) (k : M none) : M o := Option.casesOn (motive := M) o k fun _ => d _
@[elab_as_elim] noncomputable def onSome {M : Option α -> Type} (o : Option α) (d : ∀ o, M o) (k : ∀ a, M (some a)) : M o := Option.casesOn (motive := M) o (d _) k
noncomputable def oneOf (l : List α) : Option α := v1 (P := fun a => l = [a]) (onOne l (fun _ => none) fun a => some ⟨a, rfl⟩)
theorem oneOf_eq {l : List α} {a : α} (h : oneOf l = some a) : l = [a] := (YB h :)
end
theorem Kw {α β : Type} {f : α -> Option β} {l : List α} (h : ∃ x ∈ l, f x = none) : (l.filterMap f).length < l.length := by
 induction l with
 | nil => exact (let ⟨_, h, _⟩ := h; nomatch h)
 | cons a l ih =>
  obtain ⟨x, h, e⟩ := h
  rw [List.filterMap_cons]
  rcases List.mem_cons.mp h with h | h
  ·rw [h] at e; rw [e]; exact Nat.lt_succ_of_le (List.length_filterMap_le f l)
  ·have ih := ih ⟨x, h, e⟩
   cases f a with
   | none => exact Nat.lt_succ_of_lt ih
   | some b => exact Nat.succ_lt_succ ih
theorem ite3 {α : Type} {c1 c2 c3 : Bool} {a b : α} (h : c3 = true) : (if c1 = true then a else if c2 = true then a else if c3 = true then a else b) = a := by
 cases c1 <;> cases c2 <;> cases h <;> rfl
theorem noSwap_tup {ts vs : List Expr} {k kv : Nat} {tp vp : Pos} {env : Env} (h : (ts.any fun t => !isName t) = true) : swappedStores [.Tuple ts k tp] (.Tuple vs kv vp) env = pure none := by
 obtain ⟨x, hx, hn⟩ := List.any_eq_true.mp h
 refine ite3 (Bool.or_eq_true _ _ ▸ Or.inl (bne_iff_ne.mpr (Nat.ne_of_lt (Kw ⟨x, hx, ?_⟩))))
 cases x <;> first | rfl | cases hn
noncomputable def noSwapV (t v : Expr) : Option {u : Unit // ∀ env, swappedStores [t] v env = pure none} :=
 onName t (onAt t (onSub t (onTup t none fun ts k p => onCall v (onTup v none fun vs kv vp => if h : (ts.any fun t => !isName t) = true then some ⟨(), fun env => noSwap_tup h⟩ else none) fun _ _ _ _ => some ⟨(), fun _ => rfl⟩)
  fun _ _ _ => some ⟨(), fun _ => rfl⟩) fun _ _ _ => some ⟨(), fun _ => rfl⟩) fun _ _ => some ⟨(), fun _ => rfl⟩
noncomputable def noSwap (t v : Expr) : Bool := (noSwapV t v).isSome
theorem Ke {t v : Expr} {env : Env} (h : noSwap t v = true) : swappedStores [t] v env = pure none := by
 obtain ⟨u, _⟩ := Option.isSome_iff_exists.mp h
 exact u.2 env
theorem star_no {e : Expr} (h : Jl e = true) : (match (generalizing := false) e with | .Starred .. => true | _ => false) = false := by cases e <;> first | rfl | cases h
noncomputable def KH (e : Expr) : Option (Str × Pos) := v1 (P := fun a => e = .Name a.1 a.2) (onName e none fun n p => some ⟨(n, p), rfl⟩)
noncomputable def elts2 (e : Expr) : Option (Expr × Expr) := v1 (P := fun q => ∃ k p, e = .Tuple [q.1, q.2] k p) (onTup e none fun es k p => onTwo es (fun _ => none) fun a b => some ⟨(a, b), k, p, rfl⟩)
noncomputable def swap2 (t v : Expr) (names : List (Str × NameKind)) : Option (Str × Str) := (elts2 t).bind fun q => (KH q.1).bind fun a => (KH q.2).bind fun b => (elts2 v).bind fun e =>
 cond (a.2.line == b.2.line && names.lookup a.1 == some .local && names.lookup b.1 == some .local && !(a.1 == b.1) && Jl e.1 && Jl e.2 && !([e.1, e.2].all (foldedForSure 8)) && !([e.1, e.2].all (constantsAlone 8))) (some (a.1, b.1)) none
set_option tactic.hygienic true in
theorem elts2_eq {e a b : Expr} (h : elts2 e = some (a, b)) : ∃ k p, e = .Tuple [a, b] k p := (YB h :)
theorem ZV {e : Expr} {n : Str} {p : Pos} (h : KH e = some (n, p)) : e = .Name n p := (YB h :)
theorem cond_some {α : Type} {b : Bool} {a x : α} (h : cond b (some a) none = some x) : b = true /\ a = x := by
 cases b
 ·cases h
 ·exact ⟨rfl, Option.some.inj h⟩
theorem ite5 {α : Type} {c1 c2 c3 c4 c5 : Bool} {a b d : α} (h1 : c1 = false) (h2 : c2 = false) (h3 : c3 = false) (h4 : c4 = false) (h5 : c5 = false) :
  (if c1 = true then a else if c2 = true then a else if c3 = true then a else if c4 = true then a else if c5 = true then b else d) = d := by
 cases h1 <;> cases h2 <;> cases h3 <;> cases h4 <;> cases h5 <;> rfl
theorem fm2 {f : Expr -> Option Str} {a b : Expr} {m n : Str} (h1 : f a = some m) (h2 : f b = some n) : [a, b].filterMap f = [m, n] := by
 rw [List.filterMap_cons, h1, List.filterMap_cons, h2]; rfl
theorem any2 {f : Expr -> Bool} {a b : Expr} (h1 : f a = false) (h2 : f b = false) : [a, b].any f = false := by
 rw [List.any_cons, List.any_cons, h1, h2]; rfl
theorem c3_ok {l : List Str} {m n : Str} (h : l = [m, n]) (e : m ≠ n) : (l.length != 2 || l.eraseDups.length != l.length) = false := by
 have e2 : (n == m) = false := beq_eq_false_iff_ne.mpr e.symm
 have ed : [m, n].eraseDups = [m, n] := by simp [List.eraseDups_cons, e2]
 rw [h, ed]; rfl
theorem swap2_some {t v : Expr} {n1 n2 : Str} {names : List (Str × NameKind)} (h : swap2 t v names = some (n1, n2)) :
  (∃ ts k tp, t = .Tuple ts k tp) /\ YY v = false /\ names.lookup n1 = some .local /\ names.lookup n2 = some .local /\ ∀ env : Env, env.scope.kind = .function -> env.scope.names = names -> swappedStores [t] v env = pure (some [n1, n2]) := by
 obtain ⟨⟨t1, t2⟩, ht, j1⟩ := Option.bind_eq_some_iff.mp h
 obtain ⟨⟨m1, p1⟩, g1, j2⟩ := Option.bind_eq_some_iff.mp j1
 obtain ⟨⟨m2, p2⟩, g2, j3⟩ := Option.bind_eq_some_iff.mp j2
 obtain ⟨⟨e1, e2⟩, hv, j4⟩ := Option.bind_eq_some_iff.mp j3
 obtain ⟨hc, e⟩ := cond_some j4
 have f1 := ZV g1
 have f2 := ZV g2
 clear h j1 j2 j3 j4
 obtain ⟨k, tp, rfl⟩ := elts2_eq ht
 obtain ⟨kv, vp, rfl⟩ := elts2_eq hv
 cases e
 clear g1 g2
 dsimp only at f1 f2 hc ⊢
 subst f1 f2
 simp only [Bool.and_eq_true, beq_iff_eq, Bool.not_eq_true'] at hc
 obtain ⟨⟨⟨⟨⟨⟨⟨h1, h2⟩, h3⟩, h4⟩, h5⟩, h6⟩, h7⟩, h8⟩ := hc
 refine ⟨⟨_, _, _, rfl⟩, rfl, h2, h3, fun env hk hn => ?_⟩
 have k1 : env.kindOf m1 = some .local := by unfold Env.kindOf; rw [hn]; exact h2
 have k2 : env.kindOf m2 = some .local := by unfold Env.kindOf; rw [hn]; exact h3
 have hb : env.blockKind = .function := by unfold Env.blockKind; rw [hk]; rfl
 have hne : m1 ≠ m2 := fun q => by rw [q, beq_self_eq_true] at h4; cases h4
 have hf := fm2 (f := fun x => match x with | .Name id pos => if (env.kindOf id == some .local && pos.line == p1.line) = true then some id else none | _ => none) (a := .Name m1 p1) (b := .Name m2 p2)
  (if_pos (by rw [k1, beq_self_eq_true, beq_self_eq_true]; rfl)) (if_pos (by rw [k2, h1, beq_self_eq_true, beq_self_eq_true]; rfl))
 exact (ite5 (bne_eq_false_iff_eq.mpr hb) (any2 (star_no h5) (star_no h6)) (c3_ok hf hne) h7 h8).trans (congrArg (fun l => pure (some l)) hf)
section
variable {X : Cx} {S : SX} {C C' : SC} {lvl : Nat} {A : Around} {W W1 fs : List Addr} {env : Env} {fr : Fr} {Z Z' : Rho} {U U' : St} {s s' : Shared}
noncomputable def Uz (nm : Str) (np cpos : Pos) (scope : Scope) : Bool := np.line == cpos.line && !(scope.names.any fun (n, k) => n == nm && (k == .local || k == .cell))
theorem swaps_comp {elt : Expr} {gens : List Comprehension} {scope : Scope} {nm : Str} {np cpos : Pos} {l : Nat} (hc : Uz nm np cpos scope = true) (hk : env.scope.kind = .function) (hl : env.kindOf nm = some .local) :
  swapsWith (.ListComp elt gens scope cpos) (some (.Name nm np)) l env = pure true := by
 simp only [Uz, Bool.and_eq_true, beq_iff_eq, Bool.not_eq_true'] at hc
 have hb : env.blockKind = .function := by unfold Env.blockKind; rw [hk]; rfl
 unfold swapsWith
 dsimp only [Expr.pos]
 rw [hb, hl, hc.1, hc.2]
 simp
set_option tactic.hygienic true in
theorem s_lcomp {T : Tb} {n : Nat} {elt target iter : Expr} {ifs : List Expr} {ielt : IE} {iifs its : List IE} {kind width : Nat} {scope : Scope} {np cpos pos : Pos} {ok : Expr -> Bool} {tgt : List Nat} {isTup : Bool} {nm : Str} {i : Nat}
  (hΓ : C.Γ.lookup nm = some i) (hk : C.names.lookup nm = some .local) (hcn : Uz nm np cpos scope = true)
  (hs : JX iter = true) (src : YK X C lvl iter ok (YC (evE T n) kind its)) (okT : ok target = true) (tg : ZQ C' target tgt isTup) (tests : All2 (fun e ie => BOk X C' lvl e fun fr U => evC T n fr ie U) ifs iifs) (h : EOk X C' lvl elt fun fr U => evE T n fr ielt U) (cc : UF C scope C') :
  SOkS X C lvl (.Assign [.Name nm np] (.ListComp elt [⟨target, iter, ifs, 0⟩] scope cpos) pos) fun fr U => (evE T (n + 1) fr (.comp ielt none tgt isTup kind its iifs C.base width) U).bind fun v U => (if i < fr.length then .ok (fr.set i (some v)) U else .stuck : R Fr).bind fun fr U => .ok (.next fr) U := fun A fs env fr Z U s a t => by
 show Ok X A _ fs Z s _ _ ((evE T (n + 1) fr (.comp ielt none tgt isTup kind its iifs C.base width) U).bind fun v U => (if i < fr.length then .ok (fr.set i (some v)) U else .stuck : R Fr).bind fun fr U => .ok (Fl.next fr) U)
 rw [evE_compL]
 rw [exec_Assign_Name_used _ _ _ _ (swaps_comp (scope := scope) hcn a.F.kind ((a.kind nm).trans hk))]
 refine Ok.standAt ?_
 refine Ok.of_eq (bind_assoc _ _ _) ?_
 exact comp_store (np := np) (Gf hs src okT tg tests h cc) (Ji hΓ) hk a
end
structure SY extends SX where
 excs : List Nat
noncomputable def stuckE : IE := .neg (.cst .none)
noncomputable def Ux (a : Str) : List Str -> Nat -> Option Nat
 | [], _ => none
 | x :: r, i => if x == a then some i else Ux a r (i + 1)
noncomputable def dbg (id : Str) : Bool := id == ("__debug__" : Str) || id == ("__classdict__" : Str)
noncomputable def isGl (C : SC) (id : Str) : Bool := C.names.lookup id == some .globalImplicit
noncomputable def cConst : Const -> IE
 | .none => .cst .none
 | .bool b => .cst (.bool b)
 | .int i => .cst (.int i)
 | .str x => .cst (.str x)
 | .bytes l => .cst (.bytes l.toArray)
 | _ => stuckE
noncomputable def ifE (b : Bool) (t : IE) : IE := cond b t stuckE
noncomputable def opE {α : Type} (o : Option α) (f : α -> IE) : IE := o.elim stuckE f
noncomputable def cGlob : Option GV -> IE
 | some (.cst v) => .cst v
 | _ => stuckE
noncomputable def cName (S : SY) (C : SC) (id : Str) : IE := ifE (!dbg id) (match C.Γ.lookup id with
  | some i => .var i
  | none => ifE (isGl C id) (cGlob (S.glob.lookup id)))
noncomputable def nameOf (e : Expr) : Option Str := v1 (P := fun n => ∃ pos, e = .Name n pos) (onName e none fun id p => some ⟨id, p, rfl⟩)
noncomputable def zipArgs (iter : Expr) : Option (Str × Expr × Expr) := v1 (P := fun p => ∃ np pos, iter = .Call (.Name p.1 np) [p.2.1, p.2.2] [] pos) (onCall iter none fun f as ks pos => onName f none fun id np => onTwo as (fun _ => none) fun a b => onNil ks (fun _ => none) (some ⟨(id, a, b), np, pos, rfl⟩))
noncomputable def rngArg (iter : Expr) : Option (Str × Expr) := v1 (P := fun p => ∃ np pos, iter = .Call (.Name p.1 np) [p.2] [] pos) (onCall iter none fun f as ks pos => onName f none fun id np => onOne as (fun _ => none) fun a => onNil ks (fun _ => none) (some ⟨(id, a), np, pos, rfl⟩))
noncomputable def cSrc1 (S : SY) (C : SC) (f : Expr -> IE) (iter : Expr) : Nat × List IE := match rngArg iter with
 | some p => cond (p.1 == ("range" : Str)) (cond (isGl C p.1 && S.bnames.contains p.1 && Jl p.2) (1, [f p.2]) (0, [stuckE])) (0, [f iter])
 | none => (0, [f iter])
noncomputable def ZI (S : SY) (C : SC) (f : Expr -> IE) (iter : Expr) : Nat × List IE := match zipArgs iter with
 | some p => cond (p.1 == ("zip" : Str)) (cond (isGl C p.1 && S.bnames.contains p.1 && Jl p.2.1 && Jl p.2.2) (2, [f p.2.1, f p.2.2]) (0, [stuckE])) (0, [f iter])
 | none => cSrc1 S C f iter
noncomputable def lkV {α : Type} {P : α -> Prop} (o : Option α) (k : ∀ i, o = some i -> P i) : Option {i : α // P i} := onSome (M := fun o => (∀ i, o = some i -> P i) -> Option {i : α // P i}) o (fun _ _ => none) (fun i k => some ⟨i, k i rfl⟩) k
noncomputable def Gp (C : SC) (e : Expr) : Option Nat := v1 (P := fun i => YA C e i) (onName e none fun id p => if h : C.names.lookup id = some .local then lkV (P := YA C (.Name id p)) (C.Γ.lookup id) fun i q => ⟨id, p, rfl, Ji q, h⟩ else none)
noncomputable def UV (C : SC) : List Expr -> Option (List Nat)
 | [] => some []
 | e :: r => (Gp C e).bind fun i => (UV C r).map (i :: ·)
noncomputable def tupOf (t : Expr) : Option (List Expr) := v1 (P := fun es => ∃ k p, t = .Tuple es k p) (onTup t none fun es k p => some ⟨es, k, p, rfl⟩)
noncomputable def cTgt (C : SC) (t : Expr) : Option (List Nat × Bool) := match tupOf t with
 | some es => (UV C es).map fun l => (l, true)
 | none => (Gp C t).map fun i => ([i], false)
noncomputable def freeΓ (C : SC) (scope : Scope) : List (Str × Nat) := scope.names.filterMap fun p => if p.2 == .free then (C.Γ.lookup p.1).map fun i => (p.1, i) else none
noncomputable def Un (scope : Scope) : List Str := scope.names.filterMap fun p => if p.2 == .local then some p.1 else none
noncomputable def Yw (C : SC) (scope : Scope) : SC where
 names := scope.names.map fun (n, k) => if (k == .free && C.names.lookup n == some .cell) then (n, .cell) else (n, k)
 Γ := freeΓ C scope ++ (Un scope).zipIdx C.base
 base := C.base + (Un scope).length
 code := C.code
noncomputable def injΓ (Γ : List (Str × Nat)) : Bool := Γ.all fun p => Γ.all fun q => (p.1 == q.1) == (p.2 == q.2)
noncomputable def compOk (C : SC) (scope : Scope) : Bool :=
 scope.kind == .function && scope.names.all (fun y => y.2 != .cell) && scope.names.all (fun y => y.2 != .local || scope.names.lookup y.1 == some .local) &&
 scope.names.all (fun y => y.2 != .free || ((C.names.lookup y.1 == some .cell || C.names.lookup y.1 == some .free) && (C.Γ.lookup y.1).isSome)) &&
 (Yw C scope).Γ.all (fun p => ((Yw C scope).names.lookup p.1 == some .local && decide (C.base ≤ p.2)) || (scope.names.contains (p.1, .free) && C.Γ.contains p && ((Yw C scope).names.lookup p.1 == some .cell || (Yw C scope).names.lookup p.1 == some .free))) &&
 injΓ (Yw C scope).Γ
noncomputable def cKeys : List (Option Expr) -> List Expr -> Option (List (Expr × Expr))
 | [], vs => cond vs.isEmpty (some []) none
 | k :: ks, vs => k.bind fun k => vs.head?.bind fun v => (cKeys ks vs.tail).map ((k, v) :: ·)
noncomputable def isiArgs (args : List Expr) : Option (Expr × Str) := v1 (P := fun p => ∃ tp, args = [p.1, .Name p.2 tp]) (onTwo args (fun _ => none) fun e t => onName t none fun tn tp => some ⟨(e, tn), tp, rfl⟩)
noncomputable def cIsi (S : SY) (C : SC) (id : Str) (args : List Expr) (f : Expr -> IE) : IE := opE (isiArgs args) fun p => opE (isTable.lookup p.2) fun b => ifE (S.bnames.contains id && isGl C p.2 && S.bnames.contains p.2) (.blt b [f p.1])
noncomputable def cGCall (S : SY) (id : Str) (args : List Expr) (f : Expr -> IE) (o : Option GV) : IE := match o with
 | some g => (match g with
  | .fn k => .call k (args.map f)
  | .cls c => .new c (args.map f)
  | .cst _ => stuckE)
 | none => opE (biTable.lookup id) fun b => ifE (S.bnames.contains id) (.blt b (args.map f))
noncomputable def cCall (S : SY) (C : SC) (id : Str) (args : List Expr) (f : Expr -> IE) : IE :=
 ifE (args.all Jl && !dbg id && isGl C id) (cond (id == ("isinstance" : Str)) (cIsi S C id args f) (cGCall S id args f (S.glob.lookup id)))
noncomputable def cMeth (S : SY) (o : Expr) (mn : Str) (apos pos : Pos) (args : List Expr) (f : Expr -> IE) : IE :=
 ifE (args.all Jl && YF o && decide (args.length < 30) && (apos.endLine == pos.line)) (match miTable.lookup mn with
  | some m => .meth m (f o) (args.map f)
  | none => opE (Ux mn S.attrs 0) fun m => .umeth m (f o) (args.map f))
noncomputable def Ug (i : Expr) : Option (Option Expr × Option Expr × Option Expr) := v1 (P := fun p => ∃ q, i = .Slice p.1 p.2.1 p.2.2 q) (onSl i none fun lo hi st q => some ⟨(lo, hi, st), q, rfl⟩)
noncomputable def GB (gens : List Comprehension) : Option (Expr × Expr × List Expr) := v1 (P := fun p => gens = [⟨p.1, p.2.1, p.2.2, 0⟩]) (onOne gens (fun _ => none) fun g => if h : g.is_async = 0 then some ⟨(g.target, g.iter, g.ifs), by obtain ⟨t, i, l, a⟩ := g; cases h; rfl⟩ else none)
noncomputable def ZO (S : SY) (C : SC) (f : SC -> Expr -> IE) (elt : Expr) (val : Option Expr) (scope : Scope) (p : Expr × Expr × List Expr) : IE := ifE (JX p.2.1 && compOk C scope) (opE (cTgt (Yw C scope) p.1) fun q =>
 ifE ((ZI S C (f C) p.2.1).1 != 2 || Ox p.1) (.comp (f (Yw C scope) elt) (val.map (f (Yw C scope))) q.1 q.2 (ZI S C (f C) p.2.1).1 (ZI S C (f C) p.2.1).2 (p.2.2.map (f (Yw C scope))) C.base (Un scope).length))
noncomputable def cSl (f : Expr -> IE) (o : Expr) (lo hi st : Option Expr) : IE := match st with
 | none => .slice (f o) (lo.map f) (hi.map f)
 | some _ => stuckE
noncomputable def cSubS (f : Expr -> IE) (o i : Expr) (s : Option (Option Expr × Option Expr × Option Expr)) : IE := match s with
 | some p => cSl f o p.1 p.2.1 p.2.2
 | none => ifE (!isSlice i) (.sub (f o) (f i))
noncomputable def cFn (S : SY) (C : SC) (f : Expr -> IE) (fe : Expr) (args : List Expr) (pos : Pos) : IE := match fe with
 | .Name id _ => cCall S C id args f
 | .Attribute o mn apos => cMeth S o mn apos pos args f
 | _ => stuckE
noncomputable def cE (S : SY) : Nat -> SC -> Expr -> IE
 | 0, _, _ => stuckE
 | n + 1, C, e => match e with
  | .Constant c _ _ => cConst c
  | .Name id _ => cName S C id
  | .UnaryOp op x _ => (match op with
   | .Not => .not (cE S n C x)
   | .USub => .neg (cE S n C x)
   | _ => stuckE)
  | .BoolOp op es _ => .bop (op == .And) (es.map (cE S n C))
  | .IfExp c t e _ => .ite (cE S n C c) (cE S n C t) (cE S n C e)
  | .BinOp l op r _ => .bin op (cE S n C l) (cE S n C r)
  | .Compare l ops cs _ => ifE (ops.length == cs.length && cs.all JX) (.cmp (cE S n C l) (ops.zip (cs.map (cE S n C))))
  | .List es _ => ifE (es.all Jl) (.list (es.map (cE S n C)))
  | .Tuple es _ _ => ifE (es.all Jl) (.tup (es.map (cE S n C)))
  | .Dict ks vs _ => opE (cKeys ks vs) fun kvs => ifE (decide (kvs.length ≤ 15)) (.dict (kvs.map fun p => (cE S n C p.1, cE S n C p.2)))
  | .Attribute o a _ => opE (Ux a S.attrs 0) fun i => ifE (YF o) (.attr (cE S n C o) i)
  | .Subscript o i _ => cSubS (cE S n C) o i (Ug i)
  | .Call f args kws pos => ifE kws.isEmpty (cFn S C (cE S n C) f args pos)
  | .ListComp elt gens scope _ => opE (GB gens) fun p => ZO S C (cE S n) elt none scope p
  | .DictComp kx vx gens scope _ => opE (GB gens) fun p => ZO S C (cE S n) kx (some vx) scope p
  | _ => stuckE
structure ZJ (X : Cx) (S : SY) : Prop where
 base : SOk X S.toSX
 lim : X.base.NoLimit
 excs : ∀ c, c ∈ S.excs -> OH X c
theorem Rm.mono {A : Around} {m n : Nat} (r : Rm A m) (h : n ≤ m) : Rm A n := ⟨by have := r.1; lia, by have := r.2; lia⟩
section
variable {X : Cx} {S : SY} {C C' : SC} {lvl L : Nat} {T : Tb} {A : Around} {W W1 fs : List Addr} {env : Env} {fr : Fr} {Z Z' : Rho} {U U' : St} {s s' : Shared}
theorem FOk.mono {m n : Nat} {f : Value} {g : List PV -> St -> R PV} (h : FOk X n f g) (hl : n ≤ m) : FOk X m f g := fun A fs Z U s vs us I ar rm rs ns => h A fs Z U s vs us I ar (rm.mono hl) rs ns
theorem TbOk.mono {m n : Nat} (h : TbOk X n T) (hl : n ≤ m) : TbOk X m T := ⟨fun k => (h.fn k).mono hl, h.meth, fun c f hc hf => (h.new c f hc hf).mono hl⟩
theorem EOk.congr {e : Expr} {f g : Fr -> St -> R PV} (h : EOk X C L e f) (q : ∀ fr U, g fr U = f fr U) : EOk X C L e g := by
 have : g = f := funext fun fr => funext fun U => q fr U
 rw [this]; exact h
theorem BOk.congr {e : Expr} {f g : Fr -> St -> R Bool} (h : BOk X C L e f) (q : ∀ fr U, g fr U = f fr U) : BOk X C L e g := by
 have : g = f := funext fun fr => funext fun U => q fr U
 rw [this]; exact h
theorem e_stuck {e : Expr} {f : Fr -> St -> R PV} (h : ∀ fr U, f fr U = .stuck) : EOk X C L e f := fun A fs env fr Z U s a => by rw [h]; exact .stuck
theorem b_stuck {e : Expr} {f : Fr -> St -> R Bool} (h : ∀ fr U, f fr U = .stuck) : BOk X C L e f := fun A fs env fr Z U s a => by rw [h]; exact .stuck
theorem evE_0 {ie : IE} : evE T 0 fr ie U = .stuck := rfl
theorem evC_0 {ie : IE} : evC T 0 fr ie U = .stuck := rfl
theorem YS (m : Nat) : evE T m fr stuckE U = .stuck := by
 cases m with
 | zero => rfl
 | succ m => cases m <;> rfl
theorem evC_stuck (m : Nat) : evC T m fr stuckE U = .stuck := by
 cases m with
 | zero => rfl
 | succ m => exact congrArg (fun r => R.bind r _) (YS m)
noncomputable def plainIE : IE -> Bool
 | .not _ => false
 | .bop _ _ => false
 | .ite _ _ _ => false
 | .cmp _ _ => false
 | _ => true
theorem evC_plain {ie : IE} (h : plainIE ie = true) (m : Nat) : evC T (m + 1) fr ie U = (evE T m fr ie U).bind fun v U => Kt v U := by
 cases ie <;> first | rfl | cases h
noncomputable def Yq (X : Cx) (T : Tb) (C : SC) (L : Nat) (e : Expr) (ie : IE) : Prop := (∀ m, EOk X C L e fun fr U => evE T m fr ie U) /\ ∀ m, BOk X C L e fun fr U => evC T m fr ie U
theorem JA {e : Expr} : Yq X T C L e stuckE := ⟨fun m => e_stuck fun _ _ => YS m, fun m => b_stuck fun _ _ => evC_stuck m⟩
theorem JH {e : Expr} {b : Bool} {t : IE} (h : b = true -> Yq X T C L e t) : Yq X T C L e (ifE b t) := by
 cases b
 ·exact JA
 ·exact h rfl
theorem Yz {α : Type} {e : Expr} {o : Option α} {f : α -> IE} (h : ∀ a, o = some a -> Yq X T C L e (f a)) : Yq X T C L e (opE o f) := by
 cases o
 ·exact JA
 ·exact h _ rfl
noncomputable def plainE (e : Expr) : Bool := e.ctorIdx != 0 && e.ctorIdx != 1 && e.ctorIdx != 3 && e.ctorIdx != 5 && e.ctorIdx != 15
theorem isTrue_plain {e : Expr} (h : plainE e = true) : ∀ env whole, isTrue e env whole = (whole >>= fun v => standAt e.pos >>= fun _ => holding [v] (PySem.truthy v)) := by
 intro env whole
 cases e <;> first | rfl | cases h
theorem get_E {e : Expr} {ie : IE} (h : ∀ m, EOk X C L e fun fr U => evE T (m + 1) fr ie U) (m : Nat) : EOk X C L e fun fr U => evE T m fr ie U := by
 cases m with
 | zero => exact e_stuck fun _ _ => rfl
 | succ m => exact h m
theorem get_B {e : Expr} {ie : IE} (h : ∀ m, BOk X C L e fun fr U => evC T (m + 1) fr ie U) (m : Nat) : BOk X C L e fun fr U => evC T m fr ie U := by
 cases m with
 | zero => exact b_stuck fun _ _ => rfl
 | succ m => exact h m
theorem Kq {e : Expr} {ie : IE} (he : ∀ env whole, isTrue e env whole = (whole >>= fun v => standAt e.pos >>= fun _ => holding [v] (PySem.truthy v))) (hi : plainIE ie = true) (h : ∀ m, EOk X C L e fun fr U => evE T (m + 1) fr ie U) : Yq X T C L e ie :=
 ⟨get_E h, get_B fun m => (b_plain he (get_E h m)).congr fun fr U => evC_plain hi m⟩
theorem Jn {e : Expr} {ie : IE} (he : plainE e = true) (hi : plainIE ie = true) (h : ∀ m, EOk X C L e fun fr U => evE T (m + 1) fr ie U) : Yq X T C L e ie := Kq (isTrue_plain he) hi h
theorem findA_get {a : Str} {l : List Str} : ∀ {k i : Nat}, Ux a l k = some i -> k ≤ i /\ l[i - k]? = some a := by
 induction l with
 | nil => intro k i h; cases h
 | cons x r ih =>
  intro k i h
  have h : (if (x == a) = true then some k else Ux a r (k + 1)) = some i := h
  by_cases hx : (x == a) = true
  ·rw [if_pos hx] at h
   cases h
   exact ⟨Nat.le_refl _, by rw [Nat.sub_self, beq_iff_eq.mp hx]; rfl⟩
  ·rw [if_neg hx] at h
   obtain ⟨h1, h2⟩ := ih h
   refine ⟨Nat.le_of_succ_le h1, ?_⟩
   rw [← Nat.sub_add_cancel (Nat.sub_pos_of_lt h1), Nat.sub_sub]
   exact h2
theorem attr_of (O : SOk X S.toSX) {a : Str} {i : Nat} (h : Ux a S.attrs 0 = some i) : X.attrs[i]? = some a := by
 rw [O.attrs]
 exact (findA_get h).2
theorem Oe {α β : Type} {P : α -> β -> Prop} {g : α -> β} {l : List α} (h : ∀ x, x ∈ l -> P x (g x)) : All2 P l (l.map g) := by
 induction l with
 | nil => exact .nil
 | cons x l ih => exact .cons (h x List.mem_cons_self) (ih fun y hy => h y (List.mem_cons_of_mem _ hy))
theorem ZA {id : Str} (h : isGl C id = true) : C.names.lookup id = some .globalImplicit := beq_iff_eq.mp h
theorem dbg_no {id : Str} (h : dbg id = false) : (id == ("__debug__" : Str)) = false /\ (id == ("__classdict__" : Str)) = false := by
 unfold dbg at h
 exact Bool.or_eq_false_iff.mp h
theorem dbg_no' {id : Str} (h : (!dbg id) = true) : (id == ("__debug__" : Str)) = false /\ (id == ("__classdict__" : Str)) = false := dbg_no (by rw [Bool.not_eq_true'] at h; exact h)
theorem Ys {a b : Bool} (h : (a && b) = true) : a = true /\ b = true := Bool.and_eq_true_iff.mp h
theorem cConst_ok {c : Const} {k : Nat} {pos : Pos} : Yq X T C L (.Constant c k pos) (cConst c) := by
 cases c <;> first | exact JA | skip
 ·exact Jn rfl rfl fun m => e_none k pos
 ·exact Jn rfl rfl fun m => e_bool _ k pos
 ·exact Jn rfl rfl fun m => e_int _ k pos
 ·exact Jn rfl rfl fun m => e_str _ k pos
 ·exact Jn rfl rfl fun m => e_bytes _ k pos
theorem cName_ok (O : ZJ X S) {id : Str} {pos : Pos} : Yq X T C L (.Name id pos) (cName S C id) := by
 refine JH fun hd => ?_
 obtain ⟨d1, d2⟩ := dbg_no' hd
 cases hi : C.Γ.lookup id with
 | some i => exact Jn rfl rfl fun m => e_var d1 d2 hi
 | none =>
  refine JH fun hg => ?_
  cases hv : S.glob.lookup id with
  | none => exact JA
  | some g =>
   cases g with
   | cst v => exact Jn rfl rfl fun m => e_gcst O.base d1 (ZA hg) hv
   | _ => exact JA
theorem src_stuck {iter : Expr} {m : Nat} : YK X C L iter OC (YC (evE T m) 0 [stuckE]) := fun A fs env fr Z U s a ns => by
 refine absurd ?_ ns
 unfold YC
 rw [Yv, YS]; rfl
theorem nameOf_eq {e : Expr} {id : Str} (h : nameOf e = some id) : ∃ pos, e = .Name id pos := (YB h :)
theorem zipArgs_eq {iter : Expr} {p : Str × Expr × Expr} (h : zipArgs iter = some p) : ∃ np pos, iter = .Call (.Name p.1 np) [p.2.1, p.2.2] [] pos := (YB h :)
theorem rngArg_eq {iter : Expr} {p : Str × Expr} (h : rngArg iter = some p) : ∃ np pos, iter = .Call (.Name p.1 np) [p.2] [] pos := (YB h :)
noncomputable def ZU (k : Nat) : Expr -> Bool := if k = 2 then Ox else OC
theorem cSrc1_ok (O : ZJ X S) {f : Expr -> IE} (hf : ∀ e m, EOk X C L e fun fr U => evE T m fr (f e) U) (iter : Expr) (m : Nat) :
  YK X C L iter (ZU (cSrc1 S C f iter).1) (YC (evE T m) (cSrc1 S C f iter).1 (cSrc1 S C f iter).2) := by
 have any : YK X C L iter (ZU ((0, [f iter]) : Nat × List IE).1) (YC (evE T m) ((0, [f iter]) : Nat × List IE).1 ((0, [f iter]) : Nat × List IE).2) := src_any (hf iter m)
 unfold cSrc1
 cases hz : rngArg iter with
 | none => exact any
 | some p =>
  dsimp only
  cases hid : (p.1 == ("range" : Str)) with
  | false => exact any
  | true =>
   cases hc : (isGl C p.1 && S.bnames.contains p.1 && Jl p.2) with
   | false => exact src_stuck
   | true =>
    obtain ⟨hc, h3⟩ := Ys hc
    obtain ⟨h1, h2⟩ := Ys hc
    obtain ⟨np, pos, rfl⟩ := rngArg_eq hz
    rw [beq_iff_eq.mp hid] at h1 h2 ⊢
    exact src_range O.base h3 (ZA h1) (List.contains_iff_mem.mp h2) (hf _ m)
theorem KP (O : ZJ X S) {f : Expr -> IE} (hf : ∀ e m, EOk X C L e fun fr U => evE T m fr (f e) U) (iter : Expr) (m : Nat) :
  YK X C L iter (ZU (ZI S C f iter).1) (YC (evE T m) (ZI S C f iter).1 (ZI S C f iter).2) := by
 have any : YK X C L iter (ZU ((0, [f iter]) : Nat × List IE).1) (YC (evE T m) ((0, [f iter]) : Nat × List IE).1 ((0, [f iter]) : Nat × List IE).2) := src_any (hf iter m)
 have stk : YK X C L iter (ZU ((0, [stuckE]) : Nat × List IE).1) (YC (evE T m) ((0, [stuckE]) : Nat × List IE).1 ((0, [stuckE]) : Nat × List IE).2) := src_stuck
 unfold ZI
 cases hz : zipArgs iter with
 | none => exact cSrc1_ok O hf iter m
 | some p =>
  dsimp only
  cases hid : (p.1 == ("zip" : Str)) with
  | false => exact any
  | true =>
   cases hc : (isGl C p.1 && S.bnames.contains p.1 && Jl p.2.1 && Jl p.2.2) with
   | false => exact stk
   | true =>
    obtain ⟨hc, h4⟩ := Ys hc
    obtain ⟨hc, h3⟩ := Ys hc
    obtain ⟨h1, h2⟩ := Ys hc
    obtain ⟨np, pos, rfl⟩ := zipArgs_eq hz
    rw [beq_iff_eq.mp hid] at h1 h2 ⊢
    exact src_zip O.base h3 h4 (ZA h1) (List.contains_iff_mem.mp h2) (hf _ m) (hf _ m)
end
section
variable {X : Cx} {S : SY} {C C' : SC} {lvl L : Nat} {T : Tb} {A : Around} {W W1 fs : List Addr} {env : Env} {fr : Fr} {Z Z' : Rho} {U U' : St} {s s' : Shared}
theorem Kk {e : Expr} {i : Nat} (h : Gp C e = some i) : YA C e i := (YB h :)
theorem localIdxs_ok {es : List Expr} : ∀ {is : List Nat}, UV C es = some is -> All2 (YA C) es is := by
 induction es with
 | nil => intro is h; cases h; exact .nil
 | cons e r ih =>
  intro is h
  obtain ⟨i, hi, h⟩ := Option.bind_eq_some_iff.mp h
  obtain ⟨is', his, h⟩ := Option.map_eq_some_iff.mp h
  cases h
  exact .cons (Kk hi) (ih his)
theorem cTgt_ok {t : Expr} {tgt : List Nat} {isTup : Bool} (h : cTgt C t = some (tgt, isTup)) : ZQ C t tgt isTup := by
 unfold cTgt at h
 cases ht : tupOf t with
 | none =>
  rw [ht] at h
  obtain ⟨i, hi, he⟩ := Option.map_eq_some_iff.mp h
  cases he
  exact .inl ⟨rfl, i, rfl, Kk hi⟩
 | some es =>
  rw [ht] at h
  obtain ⟨l, hl, he⟩ := Option.map_eq_some_iff.mp h
  cases he
  obtain ⟨k, p, hp⟩ := (YB ht :)
  exact .inr ⟨rfl, _, _, _, hp, localIdxs_ok hl⟩
theorem injΓ_ok {Γ : List (Str × Nat)} (h : injΓ Γ = true) : (∀ n n' i, (n, i) ∈ Γ -> (n', i) ∈ Γ -> n = n') /\ ∀ n i i', (n, i) ∈ Γ -> (n, i') ∈ Γ -> i = i' := by
 unfold injΓ at h
 rw [List.all_eq_true] at h
 refine ⟨fun n n' i a b => ?_, fun n i i' a b => ?_⟩
 ·have := List.all_eq_true.mp (h _ a) _ b
  simp only [beq_self_eq_true, beq_iff_eq] at this
  exact this
 ·have := List.all_eq_true.mp (h _ a) _ b
  simp only [beq_self_eq_true] at this
  have := beq_iff_eq.mp this
  exact (beq_iff_eq.mp this.symm)
theorem free_ok {scope : Scope} (h : scope.names.all (fun y => y.2 != .free || ((C.names.lookup y.1 == some .cell || C.names.lookup y.1 == some .free) && (C.Γ.lookup y.1).isSome)) = true) :
  ∀ n, (n, NameKind.free) ∈ scope.names -> (C.names.lookup n = some .cell \/ C.names.lookup n = some .free) /\ ∃ i, (n, i) ∈ C.Γ := fun n hn => by
 have := List.all_eq_true.mp h _ hn
 simp only [bne_self_eq_false, Bool.false_or, Bool.and_eq_true, Bool.or_eq_true, beq_iff_eq] at this
 obtain ⟨i, hi⟩ := Option.isSome_iff_exists.mp this.2
 exact ⟨this.1, i, Ji hi⟩
theorem nocell_ok {scope : Scope} (h : scope.names.all (fun y => y.2 != .cell) = true) : ∀ y ∈ scope.names, y.2 ≠ .cell := fun y hy => by
 simpa using List.all_eq_true.mp h y hy
theorem Ka {scope : Scope} (h : compOk C scope = true) : UF C scope (Yw C scope) := by
 unfold compOk at h
 simp only [Bool.and_eq_true] at h
 obtain ⟨⟨⟨⟨⟨h1, h2⟩, h3⟩, h4⟩, h5⟩, h6⟩ := h
 obtain ⟨j1, j2⟩ := injΓ_ok h6
 refine ⟨rfl, beq_iff_eq.mp h1, nocell_ok h2, fun y hy e => ?_, rfl, free_ok h4, fun n i hi => ?_, j1, j2⟩
 ·have := List.all_eq_true.mp h3 y hy
  simpa [e] using this
 ·have := List.all_eq_true.mp h5 _ hi
  simp only [Bool.or_eq_true, Bool.and_eq_true, beq_iff_eq, decide_eq_true_eq] at this
  rcases this with q | ⟨⟨q1, q2⟩, q3⟩
  ·exact .inl q
  ·exact .inr ⟨List.contains_iff_mem.mp q1, List.contains_iff_mem.mp q2, q3⟩
theorem cKeys_ok {ks : List (Option Expr)} : ∀ {vs : List Expr} {kvs : List (Expr × Expr)}, cKeys ks vs = some kvs -> ks = kvs.map (fun e => some e.1) /\ vs = kvs.map (·.2) := by
 induction ks with
 | nil =>
  intro vs kvs h
  cases vs with
  | nil => cases h; exact ⟨rfl, rfl⟩
  | cons _ _ => cases h
 | cons k ks ih =>
  intro vs kvs h
  obtain ⟨k, rfl, h1⟩ := Option.bind_eq_some_iff.mp h
  obtain ⟨v, hv, h2⟩ := Option.bind_eq_some_iff.mp h1
  obtain ⟨r, hr, he⟩ := Option.map_eq_some_iff.mp h2
  cases he
  cases vs with
  | nil => cases hv
  | cons w vs =>
   cases hv
   obtain ⟨e1, e2⟩ := ih hr
   exact ⟨congrArg (List.cons (some k)) e1, congrArg (List.cons _) e2⟩
theorem OS {α : Type} {p : α -> Bool} {l : List α} (h : l.all p = true) : ∀ e, e ∈ l -> p e = true := fun e he => List.all_eq_true.mp h e he
theorem isiArgs_eq {args : List Expr} {p : Expr × Str} (h : isiArgs args = some p) : ∃ tp, args = [p.1, .Name p.2 tp] := (YB h :)
theorem cCall_ok (O : ZJ X S) (B : TbOk X L T) {f : Expr -> IE} (hf : ∀ e m, EOk X C L e fun fr U => evE T m fr (f e) U) {id : Str} {np pos : Pos} {args : List Expr} : Yq X T C L (.Call (.Name id np) args [] pos) (cCall S C id args f) := by
 refine JH fun h0 => ?_
 obtain ⟨h0, hg⟩ := Ys h0
 obtain ⟨hs, hd⟩ := Ys h0
 have hs := OS hs
 have hd := (dbg_no' hd).1
 have hg := ZA hg
 have ha : ∀ m, All2 (fun e ie => EOk X C L e fun fr U => evE T m fr ie U) args (args.map f) := fun m => Oe fun e _ => hf e m
 cases hid : (id == ("isinstance" : Str)) with
 | true =>
  cases beq_iff_eq.mp hid
  refine Yz fun p hp => Yz fun b hb => JH fun hc => ?_
  obtain ⟨tp, rfl⟩ := isiArgs_eq hp
  obtain ⟨hc, h3⟩ := Ys hc
  obtain ⟨h1, h2⟩ := Ys hc
  exact Jn rfl rfl fun m => e_isi O.base (hs _ List.mem_cons_self) hb hg (List.contains_iff_mem.mp h1) (ZA h2) (List.contains_iff_mem.mp h3) (hf _ m)
 | false =>
  show Yq X T C L _ (cGCall S id args f (S.glob.lookup id))
  cases hk : S.glob.lookup id with
  | none => exact Yz fun b hb => JH fun hc => Jn rfl rfl fun m => e_blt O.base hs hb hg (List.contains_iff_mem.mp hc) (ha m)
  | some g =>
   cases g with
   | fn k => exact Jn rfl rfl fun m => e_call O.base B hs hd hg hk (ha m)
   | cls c => exact Jn rfl rfl fun m => e_new O.base B hs hd hg hk (ha m)
   | cst _ => exact JA
theorem cMeth_ok (O : ZJ X S) (B : TbOk X L T) {f : Expr -> IE} (hf : ∀ e m, EOk X C L e fun fr U => evE T m fr (f e) U) {o : Expr} {mn : Str} {apos pos : Pos} {args : List Expr} : Yq X T C L (.Call (.Attribute o mn apos) args [] pos) (cMeth S o mn apos pos args f) := by
 refine JH fun h0 => ?_
 obtain ⟨h0, hline⟩ := Ys h0
 obtain ⟨h0, hl⟩ := Ys h0
 obtain ⟨hs, hb⟩ := Ys h0
 have hl := of_decide_eq_true hl
 have hs := OS hs
 have ha : ∀ m, All2 (fun e ie => EOk X C L e fun fr U => evE T m fr ie U) args (args.map f) := fun m => Oe fun e _ => hf e m
 cases hk : miTable.lookup mn with
 | some k => exact Jn rfl rfl fun m => e_meth hs hb hl hline hk (hf o m) (ha m)
 | none => exact Yz fun k hk => Jn rfl rfl fun m => e_umeth B hs hb hl hline (attr_of O.base hk) (hf o m) (ha m)
end
section
variable {X : Cx} {S : SY} {C C' : SC} {lvl L : Nat} {T : Tb} {A : Around} {W W1 fs : List Addr} {env : Env} {fr : Fr} {Z Z' : Rho} {U U' : St} {s s' : Shared} {f : Expr -> IE}
theorem sliceOf_eq {i : Expr} {p : Option Expr × Option Expr × Option Expr} (h : Ug i = some p) : ∃ q, i = .Slice p.1 p.2.1 p.2.2 q := (YB h :)
theorem cSub_ok {o i : Expr} {pos : Pos} (hE : ∀ e m, EOk X C L e fun fr U => evE T m fr (f e) U) : Yq X T C L (.Subscript o i pos) (cSubS f o i (Ug i)) := by
 cases h : Ug i with
 | none => exact JH fun hs => Jn rfl rfl fun m => e_sub ((Bool.not_eq_true' _).mp hs) (hE o m) (hE i m)
 | some p =>
  obtain ⟨lo, up, st⟩ := p
  obtain ⟨q, rfl⟩ := sliceOf_eq h
  cases st with
  | some st => exact JA
  | none =>
   refine Jn rfl rfl fun m => e_slice (ev := fun fr ie U => evE T m fr ie U) (ilo := lo.map f) (ihi := up.map f) (hE o m) ?_ ?_
   ·cases lo with
    | none => trivial
    | some e => exact hE e m
   ·cases up with
    | none => trivial
    | some e => exact hE e m
theorem GA {gens : List Comprehension} {p : Expr × Expr × List Expr} (h : GB gens = some p) : gens = [⟨p.1, p.2.1, p.2.2, 0⟩] := (YB h :)
theorem Zy {k : Nat} {t : Expr} (h : (k != 2 || Ox t) = true) : ZU k t = true := by
 unfold ZU
 by_cases hk : k = 2
 ·rw [if_pos hk]
  rcases Bool.or_eq_true_iff.mp h with q | q
  ·exact absurd hk (bne_iff_ne.mp q)
  ·exact q
 ·rw [if_neg hk]; rfl
theorem cFn_ok (O : ZJ X S) (B : TbOk X L T) (hE : ∀ e m, EOk X C L e fun fr U => evE T m fr (f e) U) {fe : Expr} {args : List Expr} {pos : Pos} : Yq X T C L (.Call fe args [] pos) (cFn S C f fe args pos) := by
 cases fe with
 | Attribute o mn apos => exact cMeth_ok O B hE
 | Name id np => exact cCall_ok O B hE
 | _ => exact JA
theorem cE_ok (O : ZJ X S) (B : TbOk X lvl T) : ∀ n C e, Yq X T C lvl e (cE S n C e) := by
 intro n
 induction n with
 | zero => intro C e; exact JA
 | succ n ih =>
  intro C e
  have ihE : ∀ C e m, EOk X C lvl e fun fr U => evE T m fr (cE S n C e) U := fun C e m => (ih C e).1 m
  have ihB : ∀ C e m, BOk X C lvl e fun fr U => evC T m fr (cE S n C e) U := fun C e m => (ih C e).2 m
  have all : ∀ C (es : List Expr) m, All2 (fun e ie => EOk X C lvl e fun fr U => evE T m fr ie U) es (es.map (cE S n C)) := fun C es m => Oe fun e _ => ihE C e m
  have allB : ∀ C (es : List Expr) m, All2 (fun e ie => BOk X C lvl e fun fr U => evC T m fr ie U) es (es.map (cE S n C)) := fun C es m => Oe fun e _ => ihB C e m
  cases e with
  | Constant c k pos => exact cConst_ok
  | Name id pos => exact cName_ok O
  | UnaryOp op x pos =>
   cases op with
   | Not =>
    show Yq X T C _ _ (.not (cE S n C x))
    exact ⟨get_E fun m => e_not (ihE C x m), get_B fun m => b_not (ihB C x m)⟩
   | USub =>
    show Yq X T C _ _ (.neg (cE S n C x))
    exact Kq (fun _ _ => rfl) rfl fun m => e_neg (ihE C x m)
   | _ => exact JA
  | BoolOp op es pos =>
   show Yq X T C _ _ (.bop (op == .And) (es.map (cE S n C)))
   exact ⟨get_E fun m => e_bop (ev := fun fr ie U => evE T m fr ie U) (all C es m), get_B fun m => b_bop (ec := fun fr ie U => evC T m fr ie U) (allB C es m)⟩
  | IfExp c t e pos =>
   show Yq X T C _ _ (.ite (cE S n C c) (cE S n C t) (cE S n C e))
   exact ⟨get_E fun m => e_ite (ihB C c m) (ihE C t m) (ihE C e m), get_B fun m => b_ite (ihB C c m) (ihB C t m) (ihB C e m)⟩
  | BinOp l op r pos =>
   show Yq X T C _ _ (.bin op (cE S n C l) (cE S n C r))
   exact Jn rfl rfl fun m => e_bin (ihE C l m) (ihE C r m)
  | Compare l ops cs pos =>
   show Yq X T C _ _ (ifE (ops.length == cs.length && cs.all JX) (.cmp (cE S n C l) (ops.zip (cs.map (cE S n C)))))
   refine JH fun h => ?_
   obtain ⟨h1, h2⟩ := Ys h
   exact ⟨get_E fun m => e_cmp (ev := fun fr ie U => evE T m fr ie U) (beq_iff_eq.mp h1) (OS h2) (ihE C l m) (all C cs m), get_B fun m => b_cmp (ev := fun fr ie U => evE T m fr ie U) (beq_iff_eq.mp h1) (OS h2) (ihE C l m) (all C cs m)⟩
  | List es pos =>
   show Yq X T C _ _ (ifE (es.all Jl) (.list (es.map (cE S n C))))
   exact JH fun h => Jn rfl rfl fun m => e_list (ev := fun fr ie U => evE T m fr ie U) (OS h) (all C es m)
  | Tuple es k pos =>
   show Yq X T C _ _ (ifE (es.all Jl) (.tup (es.map (cE S n C))))
   exact JH fun h => Jn rfl rfl fun m => e_tup (ev := fun fr ie U => evE T m fr ie U) (OS h) (all C es m)
  | Dict ks vs pos =>
   show Yq X T C _ _ (opE (cKeys ks vs) fun kvs => ifE (decide (kvs.length ≤ 15)) (.dict (kvs.map fun p => (cE S n C p.1, cE S n C p.2))))
   refine Yz fun kvs hk => JH fun hl => ?_
   obtain ⟨rfl, rfl⟩ := cKeys_ok hk
   cases kvs with
   | nil => exact Jn rfl rfl fun m => e_dict0
   | cons p r =>
    have hl := of_decide_eq_true hl
    refine Jn rfl rfl fun m => ?_
    refine (e_dict (ev := fun fr ie U => evE T m fr ie U) (kvs := p :: r) (ikvs := (p :: r).map fun p => (cE S n C p.1, cE S n C p.2)) (fun q => by cases q) hl (Oe fun p _ => ⟨ihE C p.1 m, ihE C p.2 m⟩)).congr fun fr U => ?_
    exact if_pos (by rw [List.length_map]; exact hl)
  | Attribute o a pos =>
   show Yq X T C _ _ (opE (Ux a S.attrs 0) fun i => ifE (YF o) (.attr (cE S n C o) i))
   exact Yz fun i hi => JH fun hs => Jn rfl rfl fun m => e_attr (attr_of O.base hi) hs (ihE C o m)
  | Subscript o i pos =>
   show Yq X T C _ _ (cSubS (cE S n C) o i (Ug i))
   exact cSub_ok (ihE C)
  | ListComp elt gens scope pos =>
   show Yq X T C _ _ (opE (GB gens) fun p => ZO S C (cE S n) elt none scope p)
   refine Yz fun p hp => JH fun h0 => Yz fun q hq => JH fun hz => ?_
   cases GA hp
   obtain ⟨hs, hc⟩ := Ys h0
   exact Jn rfl rfl fun m => e_lcomp hs (KP O (ihE C) p.2.1 m) (Zy hz) (cTgt_ok hq) (allB _ p.2.2 m) (ihE _ elt m) (Ka hc)
  | DictComp kx vx gens scope pos =>
   show Yq X T C _ _ (opE (GB gens) fun p => ZO S C (cE S n) kx (some vx) scope p)
   refine Yz fun p hp => JH fun h0 => Yz fun q hq => JH fun hz => ?_
   cases GA hp
   obtain ⟨hs, hc⟩ := Ys h0
   exact Jn rfl rfl fun m => e_dcomp hs (KP O (ihE C) p.2.1 m) (Zy hz) (cTgt_ok hq) (allB _ p.2.2 m) (ihE _ kx m) (ihE _ vx m) (Ka hc)
  | Call fe args kws pos =>
   show Yq X T C _ _ (ifE kws.isEmpty (cFn S C (cE S n C) fe args pos))
   refine JH fun hk => ?_
   cases kws with
   | cons _ _ => cases hk
   | nil => exact cFn_ok O B (ihE C)
  | _ => exact JA
end
noncomputable def stuckT : IT := .attr stuckE 0
noncomputable def stuckS : IS := .expr stuckE
noncomputable def ifT (b : Bool) (t : IT) : IT := cond b t stuckT
noncomputable def opT {α : Type} (o : Option α) (f : α -> IT) : IT := o.elim stuckT f
noncomputable def ifS (b : Bool) (t : IS) : IS := cond b t stuckS
noncomputable def opS {α : Type} (o : Option α) (f : α -> IS) : IS := o.elim stuckS f
noncomputable def cT (C : SC) (f : Expr -> IE) (S : SY) : Nat -> Expr -> IT
 | 0, _ => stuckT
 | k + 1, t => match t with
  | .Name id _ => opT (C.Γ.lookup id) fun i => ifT (C.names.lookup id != some .free) (.name i)
  | .Tuple ts _ _ => ifT (ts.all Jl) (.tup (ts.map (cT C f S k)))
  | .Attribute o a _ => opT (Ux a S.attrs 0) fun i => .attr (f o) i
  | .Subscript o i _ => .sub (f o) (f i)
  | _ => stuckT
noncomputable def lcOf (v : Expr) : Option (Scope × Pos) := v1 (P := fun p => ∃ elt gens, v = .ListComp elt gens p.1 p.2) (onLc v none fun e g s p => some ⟨(s, p), e, g, rfl⟩)
noncomputable def cAsg (C : SC) (f : Expr -> IE) (S : SY) (t v : Expr) : IS :=
 cond (YY v && isName t) (opS (KH t) fun p => opS (lcOf v) fun q => ifS (C.names.lookup p.1 == some .local && Uz p.1 p.2 q.2 q.1) (opS (C.Γ.lookup p.1) fun i => .asg (.name i) (f v)))
  (ifS (!YY v || t.ctorIdx == 20) (match swap2 t v C.names with
   | some p => opS (C.Γ.lookup p.1) fun i => opS (C.Γ.lookup p.2) fun j => ifS (i != j) (.asg2 i j (f v))
   | none => ifS (noSwap t v && Jl t) (.asg (cT C f S 3 t) (f v))))
noncomputable def clsOf : GV -> Option Nat
 | .cls c => some c
 | _ => none
noncomputable def excOf (S : SY) (C : SC) (id : Str) : Option Nat := cond (!dbg id && isGl C id) (((S.glob.lookup id).bind clsOf).bind fun c => cond (S.excs.contains c) (some c) none) none
noncomputable def raiseOf (exc cause : Option Expr) : Option Str := v1 (P := fun id => ∃ np x kk cp cpos, exc = some (.Call (.Name id np) [.Constant (.str x) kk cp] [] cpos) /\ cause = none) (onNone cause (fun _ => none) (onSome exc (fun _ => none) fun e => onCall e none fun f as ks pos => onName f none fun id np => onOne as (fun _ => none) fun a => onCst a none fun c kk cp => onStr c none fun x => onNil ks (fun _ => none) (some ⟨id, np, x, kk, cp, pos, rfl, rfl⟩)))
noncomputable def cRet (f : Expr -> IE) : Option Expr -> IE
 | some e => f e
 | none => .cst .none
noncomputable def boolC (e : Expr) : Option Bool := v1 (P := fun b => ∃ k p, e = .Constant (.bool b) k p) (onCst e none fun c k p => onBool c none fun b => some ⟨b, k, p, rfl⟩)
noncomputable def asgOf (s : Stmt) : Option (Str × Expr) := v1 (P := fun p => ∃ np pos, s = .Assign [.Name p.1 np] p.2 pos) (onAsg s none fun ts v pos => onOne ts (fun _ => none) fun t => onName t none fun n np => some ⟨(n, v), np, pos, rfl⟩)
noncomputable def hdOf (l : List Stmt) : Option (Stmt × List Stmt) := v1 (P := fun p => l = p.1 :: p.2) (onCons l (fun _ => none) fun h r => some ⟨(h, r), rfl⟩)
noncomputable def hPartsV (h : ExceptHandler) : Option {p : Str × Stmt // ∃ np hp, h = .ExceptHandler (some (.Name p.1 np)) none [p.2] hp} := match h with
 | .ExceptHandler ty nm b hp => onNone nm (fun _ => none) (onSome ty (fun _ => none) fun e => onName e none fun id np => onOne b (fun _ => none) fun s => some ⟨(id, s), np, hp, rfl⟩)
noncomputable def hParts (h : ExceptHandler) : Option (Str × Stmt) := v1 (hPartsV h)
noncomputable def cTry (S : SY) (C : SC) (f : Expr -> IE) (g : Stmt -> IS) (b : List Stmt) (hs : List ExceptHandler) : Option IS :=
 (oneOf hs).bind fun h => (hParts h).bind fun p => (asgOf p.2).bind fun a2 => (boolC a2.2).bind fun v => (hdOf b).bind fun q => (asgOf q.1).bind fun a1 => some (
  opS (excOf S C p.1) fun c => opS (C.Γ.lookup a1.1) fun i => opS (C.Γ.lookup a2.1) fun j => ifS (!YY a1.2 && C.names.lookup a1.1 != some .free && C.names.lookup a2.1 != some .free) (.tryx i (f a1.2) (q.2.map g) c j (.bool v)))
noncomputable def cS (S : SY) (n : Nat) (C : SC) : Nat -> Stmt -> IS
 | 0, _ => stuckS
 | k + 1, st => match st with
  | .Expr e _ => ifS (!YY e) (.expr (cE S n C e))
  | .Return v _ => .ret (cRet (cE S n C) v)
  | .If c a b _ => .ife (cE S n C c) (a.map (cS S n C k)) (b.map (cS S n C k))
  | .While c b e _ => ifS e.isEmpty (.whl (cE S n C c) (b.map (cS S n C k)))
  | .For t it b e _ => ifS (e.isEmpty && JX it && ((ZI S C (cE S n C) it).1 != 2 || Ox t)) (.forr (cT C (cE S n C) S 3 t) (ZI S C (cE S n C) it).1 (ZI S C (cE S n C) it).2 (b.map (cS S n C k)))
  | .Assign ts v _ => opS (oneOf ts) fun t => cAsg C (cE S n C) S t v
  | .Raise exc cause _ => opS (raiseOf exc cause) fun id => opS (excOf S C id) fun c => .raise c
  | .Try b hs oe fb _ => ifS (oe.isEmpty && fb.isEmpty && !hs.isEmpty) ((cTry S C (cE S n C) (cS S n C k) b hs).getD (.tryn (b.map (cS S n C k))))
  | _ => stuckS
section
variable {X : Cx} {S : SY} {C C' : SC} {lvl L n : Nat} {T : Tb} {A : Around} {W W1 fs : List Addr} {env : Env} {fr : Fr} {Z Z' : Rho} {U U' : St} {s s' : Shared} {f : Expr -> IE}
theorem Ok.le {α β : Type} {rel : Heap -> Rho -> α -> β -> Prop} {t : Sem β} {r r' : R α} (h : Ok X A W fs Z s rel t r) (q : r' ≠ .stuck -> r' = r) : Ok X A W fs Z s rel t r' := fun ns => by
 have := q ns
 subst this
 exact h ns
theorem SOkS.le {st : Stmt} {f g : Fr -> St -> R Fl} (h : SOkS X C L st f) (q : ∀ fr U, g fr U ≠ .stuck -> g fr U = f fr U) : SOkS X C L st g := fun A fs env fr Z U s a t => (h A fs env fr Z U s a t).le (q fr U)
theorem SOkS.congr {st : Stmt} {f g : Fr -> St -> R Fl} (h : SOkS X C L st f) (q : ∀ fr U, g fr U = f fr U) : SOkS X C L st g := h.le fun fr U _ => q fr U
theorem TOk.congr {t : Expr} {f g : Fr -> PV -> St -> R Fr} (h : TOk X C L t f) (q : ∀ fr v U, g fr v U = f fr v U) : TOk X C L t g := fun A fs env fr Z U s v u a r => by rw [q]; exact h A fs env fr Z U s v u a r
theorem t_stuck {t : Expr} {f : Fr -> PV -> St -> R Fr} (h : ∀ fr v U, f fr v U = .stuck) : TOk X C L t f := fun A fs env fr Z U s v u a r => by rw [h]; exact .stuck
theorem KC {t : Stmt} {f : Fr -> St -> R Fl} (h : ∀ fr U, f fr U = .stuck) : SOkS X C L t f := fun A fs env fr Z U s a tp => by rw [h]; exact .stuck
theorem evT_stuck {v : PV} (m : Nat) : evT T m fr stuckT v U = .stuck := by
 cases m with
 | zero => rfl
 | succ m => exact congrArg (fun r => R.bind r _) (YS m)
theorem evS_stuck (m : Nat) : evS T m fr stuckS U = .stuck := by
 cases m with
 | zero => rfl
 | succ m => exact congrArg (fun r => R.bind r _) (YS m)
theorem t_get {t : Expr} {it : IT} (h : ∀ m, TOk X C L t fun fr v U => evT T (m + 1) fr it v U) (m : Nat) : TOk X C L t fun fr v U => evT T m fr it v U := by
 cases m with
 | zero => exact t_stuck fun _ _ _ => rfl
 | succ m => exact h m
theorem OV {t : Stmt} {it : IS} (h : ∀ m, SOkS X C L t fun fr U => evS T (m + 1) fr it U) (m : Nat) : SOkS X C L t fun fr U => evS T m fr it U := by
 cases m with
 | zero => exact KC fun _ _ => rfl
 | succ m => exact h m
noncomputable def Kc (X : Cx) (T : Tb) (C : SC) (L : Nat) (t : Expr) (it : IT) : Prop := ∀ m, TOk X C L t fun fr v U => evT T m fr it v U
noncomputable def OI (X : Cx) (T : Tb) (C : SC) (L : Nat) (t : Stmt) (it : IS) : Prop := ∀ m, SOkS X C L t fun fr U => evS T m fr it U
theorem t_stk {t : Expr} : Kc X T C L t stuckT := fun m => t_stuck fun _ _ _ => evT_stuck m
theorem s_stk {t : Stmt} : OI X T C L t stuckS := fun m => KC fun _ _ => evS_stuck m
theorem t_if {t : Expr} {b : Bool} {it : IT} (h : b = true -> Kc X T C L t it) : Kc X T C L t (ifT b it) := by
 cases b
 ·exact t_stk
 ·exact h rfl
theorem t_op {α : Type} {t : Expr} {o : Option α} {g : α -> IT} (h : ∀ a, o = some a -> Kc X T C L t (g a)) : Kc X T C L t (opT o g) := by
 cases o
 ·exact t_stk
 ·exact h _ rfl
theorem Ue {t : Stmt} {b : Bool} {it : IS} (h : b = true -> OI X T C L t it) : OI X T C L t (ifS b it) := by
 cases b
 ·exact s_stk
 ·exact h rfl
theorem Zg {α : Type} {t : Stmt} {o : Option α} {g : α -> IS} (h : ∀ a, o = some a -> OI X T C L t (g a)) : OI X T C L t (opS o g) := by
 cases o
 ·exact s_stk
 ·exact h _ rfl
theorem ts_ok {ts : List Expr} {its : List IT} (hs : All2 (Kc X T C L) ts its) : ∀ m {A fs env fr Z U s vs us}, ts.length = vs.length -> At X C L A fs env fr Z U s -> VReps s.heap Z vs us ->
   Ok X A (Jb env) fs Z s (TRel X C env) (assignInOrder (ts.map fun e => assign e env) us) (evTs T m fr its vs U) := by
 induction hs with
 | nil =>
  intro m A fs env fr Z U s vs us hl a r
  cases m with
  | zero => exact .stuck
  | succ m =>
   cases r with
   | nil => exact Ok.ret a.I a.F
   | cons => cases hl
 | cons q qs ih =>
  intro m A fs env fr Z U s vs us hl a r
  cases m with
  | zero => exact .stuck
  | succ m =>
   cases r with
   | nil => cases hl
   | cons r rs =>
    refine Ok.bind (Ok.holding (q m _ _ _ _ _ _ _ _ _ a r)) fun fr' U' Z' _ s' _ _ I' F' T' => ?_
    exact ih m (Nat.succ.inj hl) (a.nextW I' F' T') (rs.step T' a.noSeq)
theorem t_tup {ts : List Expr} {its : List IT} {k : Nat} {pos : Pos} (hs : ∀ e, e ∈ ts -> Jl e = true) (h : All2 (Kc X T C L) ts its) (m : Nat) : TOk X C L (.Tuple ts k pos) fun fr v U => evT T (m + 1) fr (.tup its) v U := fun A fs env fr Z U s v u a r => by
 show Ok X A _ fs Z s _ _ (match Yy U v with
    | some vs => if its.length = vs.length then evTs T m fr its vs U else .stuck
    | .none => .stuck)
 cases hv : Yy U v with
 | none => exact .stuck
 | some vs =>
  refine .guard fun hl => ?_
  rw [arm_assign_Tuple, Oz ts env hs]
  refine Ok.standAt ?_
  unfold unpack
  rw [no_star, List.map_map, List.length_map, h.length, hl]
  intro ns
  refine wpAny_bind (wpAny_holding (YU a.ar.hd a.I r hv fun us h' hu I' T rr => ?_))
  have T0 := T [] fs
  have a' : At X C L A fs env fr Z U { s with heap := h' } := a.next I' T0
  exact wpAny_mono (ts_ok h m (by rw [h.length, hl]) a' rr ns) (fun _ _ p => p.from ⟨h', s.toks, rfl⟩ (T _ _)) fun _ _ p => p.from ⟨h', s.toks, rfl⟩ (T _ _)
theorem cT_ok (O : ZJ X S) (hf : ∀ e m, EOk X C L e fun fr U => evE T m fr (f e) U) : ∀ k t, Kc X T C L t (cT C f S k t) := by
 intro k
 induction k with
 | zero => intro t; exact t_stk
 | succ k ih =>
  intro t
  cases t with
  | Name id pos =>
   show Kc X T C L _ (opT (C.Γ.lookup id) fun i => ifT (C.names.lookup id != some .free) (.name i))
   exact t_op fun i hi => t_if fun hn => t_get fun m => t_name hi (bne_iff_ne.mp hn)
  | Tuple ts k' pos =>
   show Kc X T C L _ (ifT (ts.all Jl) (.tup (ts.map (cT C f S k))))
   exact t_if fun h => t_get fun m => t_tup (OS h) (Oe fun e _ => ih e) m
  | Attribute o a pos =>
   show Kc X T C L _ (opT (Ux a S.attrs 0) fun i => .attr (f o) i)
   exact t_op fun i hi => t_get fun m => t_attr (attr_of O.base hi) (hf o m)
  | Subscript o i pos =>
   show Kc X T C L _ (.sub (f o) (f i))
   exact t_get fun m => t_sub (hf o m) (hf i m)
  | _ => exact t_stk
end
section
variable {X : Cx} {S : SY} {C C' : SC} {lvl L n : Nat} {T : Tb} {A : Around} {W W1 fs : List Addr} {env : Env} {fr : Fr} {Z Z' : Rho} {U U' : St} {s s' : Shared} {f : Expr -> IE}
set_option tactic.hygienic true in
theorem s_compName {t v : Expr} {pos : Pos} {i : Nat} {ie : IE} (h : ∀ m, SOkS X C L (.Assign [t] v pos) fun fr U => (evE T m fr ie U).bind fun v U => (if i < fr.length then .ok (fr.set i (some v)) U else .stuck : R Fr).bind fun fr U => .ok (.next fr) U) :
  OI X T C L (.Assign [t] v pos) (.asg (.name i) ie) := OV fun m => (h m).le fun fr U ns => by
 cases m <;> rfl
theorem s_asgPlain {t v : Expr} {pos : Pos} {ie : IE} {it : IT} (hs : ∀ env, env.scope.kind = .function -> env.scope.names = C.names -> swapsWith v (some t) pos.line env = pure false) (hw : ∀ env, env.scope.kind = .function -> env.scope.names = C.names -> swappedStores [t] v env = pure none) (hn : Jl t = true)
  (h : ∀ m, EOk X C L v fun fr U => evE T m fr ie U) (ht : Kc X T C L t it) : OI X T C L (.Assign [t] v pos) (.asg it ie) :=
 OV fun m => s_asg hs hw hn (h m) (ht m)
theorem lcOf_eq {e : Expr} {p : Scope × Pos} (h : lcOf e = some p) : ∃ elt gens, e = .ListComp elt gens p.1 p.2 := (YB h :)
theorem gone {t v : Expr} {pos : Pos} {i m : Nat} {ie : IE} (q : ie = stuckE) : SOkS X C L (.Assign [t] v pos) fun fr U => (evE T m fr ie U).bind fun v U => (if i < fr.length then .ok (fr.set i (some v)) U else .stuck : R Fr).bind fun fr U => .ok (.next fr) U := KC fun fr U => by rw [q, YS]; rfl
theorem cAsg_ok (O : ZJ X S) (B : TbOk X lvl T) {t v : Expr} {pos : Pos} : OI X T C lvl (.Assign [t] v pos) (cAsg C (cE S n C) S t v) := by
 have hE : ∀ n C e m, EOk X C lvl e fun fr U => evE T m fr (cE S n C e) U := fun n C e m => (cE_ok O B n C e).1 m
 unfold cAsg
 cases hnc : (YY v && isName t) with
 | false =>
  refine Ue fun hq => ?_
  have hs : ∀ env, swapsWith v (some t) pos.line env = pure false := fun env => by
   rcases Bool.or_eq_true_iff.mp hq with q | q
   ·exact Zt ((Bool.not_eq_true' _).mp q)
   ·exact ZZ (beq_iff_eq.mp q)
  show OI X T C lvl _ (match swap2 t v C.names with
   | some p => opS (C.Γ.lookup p.1) fun i => opS (C.Γ.lookup p.2) fun j => ifS (i != j) (.asg2 i j (cE S n C v))
   | none => ifS (noSwap t v && Jl t) (.asg (cT C (cE S n C) S 3 t) (cE S n C v)))
  cases h2 : swap2 t v C.names with
  | none => exact Ue fun h3 => s_asgPlain (fun env _ _ => hs env) (fun env _ _ => Ke (Ys h3).1) (Ys h3).2 (hE n C _) (cT_ok O (hE n C) 3 _)
  | some p =>
   refine Zg fun i hi => Zg fun j hj => Ue fun hne => ?_
   obtain ⟨⟨ts, k, tp, rfl⟩, hv, k1, k2, hw⟩ := swap2_some h2
   exact OV fun m => s_swap2 hi hj k1 k2 (bne_iff_ne.mp hne) (fun env _ _ => hs env) hw (hE n C _ m)
 | true =>
  refine Zg fun p hp => Zg fun q hq => Ue fun h0 => Zg fun i hi => ?_
  obtain ⟨h1, h2⟩ := Ys h0
  cases ZV hp
  obtain ⟨elt, gens, rfl⟩ := lcOf_eq hq
  refine s_compName fun m => ?_
  cases n with
  | zero => exact gone rfl
  | succ n =>
  have e0 : cE S (n + 1) C (.ListComp elt gens q.1 q.2) = opE (GB gens) fun p => ZO S C (cE S n) elt none q.1 p := rfl
  cases hg : GB gens with
  | none => exact gone (by rw [e0, hg]; rfl)
  | some g =>
  have e1 : cE S (n + 1) C (.ListComp elt gens q.1 q.2) = ZO S C (cE S n) elt none q.1 g := by rw [e0, hg]; rfl
  cases hc : (JX g.2.1 && compOk C q.1) with
  | false => exact gone (by rw [e1]; unfold ZO; rw [hc]; rfl)
  | true =>
  cases ht : cTgt (Yw C q.1) g.1 with
  | none => exact gone (by rw [e1]; unfold ZO; rw [hc, ht]; rfl)
  | some tg =>
  cases hz : ((ZI S C (cE S n C) g.2.1).1 != 2 || Ox g.1) with
  | false => exact gone (by rw [e1]; unfold ZO; rw [hc, ht]; show ifE _ _ = _; rw [hz]; rfl)
  | true =>
  have e2 : cE S (n + 1) C (.ListComp elt gens q.1 q.2) = .comp (cE S n (Yw C q.1) elt) none tg.1 tg.2 (ZI S C (cE S n C) g.2.1).1 (ZI S C (cE S n C) g.2.1).2 (g.2.2.map (cE S n (Yw C q.1))) C.base (Un q.1).length := by
   rw [e1]; unfold ZO; rw [hc, ht]; show ifE _ _ = _; rw [hz]; rfl
  rw [e2]
  cases GA hg
  cases m with
  | zero => exact KC fun fr U => rfl
  | succ m => exact s_lcomp hi (beq_iff_eq.mp h1) h2 (Ys hc).1 (KP O (hE n C) g.2.1 m) (Zy hz) (cTgt_ok ht) (Oe fun e _ => (cE_ok O B n _ e).2 m) (hE n _ elt m) (Ka (Ys hc).2)
end
section
variable {X : Cx} {S : SY} {C C' : SC} {lvl L n : Nat} {T : Tb} {A : Around} {W W1 fs : List Addr} {env : Env} {fr : Fr} {Z Z' : Rho} {U U' : St} {s s' : Shared} {f : Expr -> IE}
theorem bl_stuck {t : List Stmt} {f : Fr -> St -> R Fl} (h : ∀ fr U, f fr U = .stuck) : Zq X C L t f := fun A fs env fr Z U s a tp => by rw [h]; exact .stuck
theorem bl_map {g : Stmt -> IS} (h : ∀ st, OI X T C L st (g st)) : ∀ m (sts : List Stmt), Zq X C L sts fun fr U => evSs T m fr (sts.map g) U := by
 intro m
 induction m with
 | zero => intro sts; exact bl_stuck fun _ _ => rfl
 | succ m ih =>
  intro sts
  cases sts with
  | nil => exact bl_nil
  | cons st r => exact bl_cons (h st m) (ih r)
theorem clsOf_eq {o : Option GV} {k : Nat} (h : o.bind clsOf = some k) : o = some (.cls k) := by
 obtain ⟨g, rfl, h⟩ := Option.bind_eq_some_iff.mp h
 cases g <;> first | (cases h; done) | skip
 cases h; rfl
theorem excOf_ok (O : ZJ X S) {id : Str} {c : Nat} (h : excOf S C id = some c) : (id == ("__debug__" : Str)) = false /\ C.names.lookup id = some .globalImplicit /\ S.glob.lookup id = some (.cls c) /\ OH X c := by
 unfold excOf at h
 cases h0 : (!dbg id && isGl C id) with
 | false => rw [h0] at h; cases h
 | true =>
  rw [h0] at h
  obtain ⟨c', hc, h2⟩ := Option.bind_eq_some_iff.mp h
  cases hm : S.excs.contains c' with
  | false => rw [hm] at h2; cases h2
  | true =>
   rw [hm] at h2
   cases h2
   exact ⟨(dbg_no' (Ys h0).1).1, ZA (Ys h0).2, clsOf_eq hc, O.excs _ (List.contains_iff_mem.mp hm)⟩
set_option tactic.hygienic true in
theorem raiseOf_eq {exc cause : Option Expr} {id : Str} (h : raiseOf exc cause = some id) : ∃ np x kk cp cpos, exc = some (.Call (.Name id np) [.Constant (.str x) kk cp] [] cpos) /\ cause = none := (YB h :)
theorem boolC_eq {e : Expr} {b : Bool} (h : boolC e = some b) : ∃ k p, e = .Constant (.bool b) k p := (YB h :)
theorem asgOf_eq {s : Stmt} {p : Str × Expr} (h : asgOf s = some p) : ∃ np pos, s = .Assign [.Name p.1 np] p.2 pos := (YB h :)
theorem hdOf_eq {l : List Stmt} {p : Stmt × List Stmt} (e : hdOf l = some p) : l = p.1 :: p.2 := (YB e :)
theorem hParts_eq {h : ExceptHandler} {p : Str × Stmt} (e : hParts h = some p) : ∃ np hp, h = .ExceptHandler (some (.Name p.1 np)) none [p.2] hp := (YB e :)
theorem cTry_ok (O : ZJ X S) {g : Stmt -> IS} (hE : ∀ e m, EOk X C L e fun fr U => evE T m fr (f e) U) (hg : ∀ m sts, Zq X C L sts fun fr U => evSs T m fr (sts.map g) U) {b : List Stmt} {hs : List ExceptHandler} {pos : Pos} {is : IS} (h : cTry S C f g b hs = some is) : OI X T C L (.Try b hs [] [] pos) is := by
 obtain ⟨h0, e0, h⟩ := Option.bind_eq_some_iff.mp h
 obtain ⟨p, e1, h⟩ := Option.bind_eq_some_iff.mp h
 obtain ⟨a2, e2, h⟩ := Option.bind_eq_some_iff.mp h
 obtain ⟨v, e3, h⟩ := Option.bind_eq_some_iff.mp h
 obtain ⟨q, e4, h⟩ := Option.bind_eq_some_iff.mp h
 obtain ⟨a1, e5, h⟩ := Option.bind_eq_some_iff.mp h
 cases h
 refine Zg fun c hc => Zg fun i hi => Zg fun j hj => Ue fun hq => ?_
 obtain ⟨hq, q3⟩ := Ys hq
 obtain ⟨q1, q2⟩ := Ys hq
 rw [Bool.not_eq_true'] at q1
 obtain ⟨d1, d2, d3, d4⟩ := excOf_ok O hc
 cases oneOf_eq e0
 obtain ⟨np, hp, rfl⟩ := hParts_eq e1
 obtain ⟨k2, p2, w2⟩ := asgOf_eq e2
 obtain ⟨k3, p3, w3⟩ := boolC_eq e3
 cases hdOf_eq e4
 obtain ⟨k5, p5, w5⟩ := asgOf_eq e5
 rw [w2, w3, w5]
 exact OV fun m => s_try O.base d1 d2 d3 d4 q1 hi (bne_iff_ne.mp q2) hj (bne_iff_ne.mp q3) (fun env => Ke rfl) (hE _ m) (hg m _)
theorem cS_ok (O : ZJ X S) (B : TbOk X lvl T) (hl : 1 ≤ lvl) : ∀ k st, OI X T C lvl st (cS S n C k st) := by
 have hE : ∀ C e m, EOk X C lvl e fun fr U => evE T m fr (cE S n C e) U := fun C e m => (cE_ok O B n C e).1 m
 have hB : ∀ C e m, BOk X C lvl e fun fr U => evC T m fr (cE S n C e) U := fun C e m => (cE_ok O B n C e).2 m
 intro k
 induction k with
 | zero => intro st; exact s_stk
 | succ k ih =>
  intro st
  have ihB : ∀ m sts, Zq X C lvl sts fun fr U => evSs T m fr (sts.map (cS S n C k)) U := bl_map ih
  cases st with
  | Expr e pos =>
   show OI X T C _ _ (ifS (!YY e) (.expr (cE S n C e)))
   exact Ue fun hc => OV fun m => s_expr (by rw [Bool.not_eq_true'] at hc; exact hc) (hE C e m)
  | Return v pos =>
   show OI X T C _ _ (.ret (cRet (cE S n C) v))
   cases v with
   | none =>
    refine OV fun m => s_ret0.le fun fr U ns => ?_
    cases m with
    | zero => exact absurd rfl ns
    | succ m => rfl
   | some e => exact OV fun m => s_ret (hE C e m)
  | If c a b pos =>
   show OI X T C _ _ (.ife (cE S n C c) (a.map (cS S n C k)) (b.map (cS S n C k)))
   exact OV fun m => s_if (hB C c m) (ihB m a) (ihB m b)
  | For t it b e pos =>
   show OI X T C _ _ (ifS (e.isEmpty && JX it && ((ZI S C (cE S n C) it).1 != 2 || Ox t)) (.forr (cT C (cE S n C) S 3 t) (ZI S C (cE S n C) it).1 (ZI S C (cE S n C) it).2 (b.map (cS S n C k))))
   refine Ue fun h0 => ?_
   obtain ⟨h0, hz⟩ := Ys h0
   obtain ⟨he, hs⟩ := Ys h0
   cases e with
   | cons _ _ => cases he
   | nil => exact OV fun m => s_for (ev := fun fr ie U => evE T m fr ie U) (evT := fun fr it v U => evT T m fr it v U) (evSs := fun fr b U => evSs T m fr b U) hs (KP O (hE C) it m) (Zy hz) (cT_ok O (hE C) 3 t m) (ihB m b)
  | While c b e pos =>
   show OI X T C _ _ (ifS e.isEmpty (.whl (cE S n C c) (b.map (cS S n C k))))
   refine Ue fun he => ?_
   cases e with
   | cons _ _ => cases he
   | nil => exact OV fun m => s_while (hB C c m) (ihB m b)
  | Try b hs oe fb pos =>
   show OI X T C _ _ (ifS (oe.isEmpty && fb.isEmpty && !hs.isEmpty) ((cTry S C (cE S n C) (cS S n C k) b hs).getD (.tryn (b.map (cS S n C k)))))
   refine Ue fun h0 => ?_
   obtain ⟨h0, h3⟩ := Ys h0
   obtain ⟨h1, h2⟩ := Ys h0
   cases oe with
   | cons _ _ => cases h1
   | nil => cases fb with
    | cons _ _ => cases h2
    | nil =>
     cases ht : cTry S C (cE S n C) (cS S n C k) b hs with
     | some is => exact cTry_ok O (hE C) ihB ht
     | none => cases hs with
      | nil => cases h3
      | cons h hs => exact OV fun m => s_tryn (ihB m b)
  | Assign ts v pos =>
   show OI X T C _ _ (opS (oneOf ts) fun t => cAsg C (cE S n C) S t v)
   refine Zg fun t ht => ?_
   cases oneOf_eq ht
   exact cAsg_ok O B
  | Raise exc cause pos =>
   show OI X T C _ _ (opS (raiseOf exc cause) fun id => opS (excOf S C id) fun c => .raise c)
   refine Zg fun id hid => Zg fun c hc => ?_
   obtain ⟨np, x, kk, cp, cpos, rfl, rfl⟩ := raiseOf_eq hid
   obtain ⟨e1, e2, e3, e4⟩ := excOf_ok O hc
   exact OV fun m => s_raise O.base O.lim e4 hl e1 e2 e3
  | _ => exact s_stk
end
noncomputable def OA (names : List (Str × NameKind)) : List Str := names.filterMap fun p => if p.2 == .local || p.2 == .cell then some p.1 else none
noncomputable def fnSC (names : List (Str × NameKind)) (code : Option Value) : SC where
 names := names
 Γ := (OA names).zipIdx
 base := (OA names).length
 code := code
noncomputable def isStmts : FuncBody -> Bool
 | .stmts _ => true
 | _ => false
noncomputable def Zu : FuncBody -> List Stmt
 | .stmts b => b
 | _ => []
noncomputable def fdAt (K : Frag) (a : Addr) : Option FuncData := match K.lookup a with
 | some ⟨_, _, .func fd, _⟩ => some fd
 | _ => none
noncomputable def GC (K : Frag) (a : Addr) (params : List Str) : Bool := match fdAt K a with
 | some fd => codeIn K fd.code fd.qualname && isStmts fd.body && fd.closure.isEmpty && fd.globals == mainGlobals && fd.builtins == builtinsNs && !fd.scope.isCoroutine && !fd.scope.isGenerator && fd.scope.kind == .function &&
   decide params.Nodup && params.zipIdx.all (fun p => (OA fd.scope.names).zipIdx.contains p) && (OA fd.scope.names).zipIdx.all (fun p => fd.scope.names.lookup p.1 == some .local || fd.scope.names.lookup p.1 == some .cell) &&
   decide ((fd.scope.names.map (·.1)).Nodup) && injΓ ((OA fd.scope.names).zipIdx)
 | none => false
set_option tactic.hygienic true in
theorem ZW {n : Str} : ∀ {names : List (Str × NameKind)} {lo : Nat} {acc : List (Str × Addr)}, ((n, NameKind.cell) ∈ names \/ (acc.lookup n).isSome = true) -> ((cellsFrom lo names acc).lookup n).isSome = true
 | [], lo, acc, h => by
  rcases h with h | h
  ·cases h
  ·exact h
 | (m, k) :: r, lo, acc, h => by
  unfold cellsFrom
  split
  ·rename_i hk
   refine ZW ?_
   rcases h with h | h
   ·rcases List.mem_cons.mp h with q | q
    ·cases q; right; simp
    ·exact .inl q
   ·right
    rw [List.lookup_cons]
    split
    ·rfl
    ·exact h
  ·rename_i hk
   refine ZW ?_
   rcases h with h | h
   ·rcases List.mem_cons.mp h with q | q
    ·cases q; exact absurd rfl hk
    ·exact .inl q
   ·exact .inr h
section
variable {X : Cx} {S : SY} {lvl n : Nat} {T : Tb}
set_option tactic.hygienic true in
theorem fnFacts_of {k : Nat} {params : List Str} (h : GC X.K (X.fa k) params = true) (hb : ∀ fd, fdAt X.K (X.fa k) = some fd -> ∀ us : List Value, us.length = params.length -> ∀ S, peek X.K S (bindArgs fd ⟨us, []⟩) = some (params.zip us)) (code : Bool) :
  ∃ fd, fdAt X.K (X.fa k) = some fd /\ FnFacts X k fd (Zu fd.body) params (fnSC fd.scope.names (if code then some fd.code else none)) := by
 unfold GC at h
 split at h
 case h_2 => cases h
 rename_i fd hfd
 simp only [Bool.and_eq_true, beq_iff_eq, Bool.not_eq_true', List.isEmpty_iff, decide_eq_true_eq] at h
 obtain ⟨⟨⟨⟨⟨⟨⟨⟨⟨⟨⟨⟨h1, h2⟩, h3⟩, h4⟩, h5⟩, h6⟩, h7⟩, h8⟩, h9⟩, h10⟩, h11⟩, h12⟩, h13⟩ := h
 obtain ⟨j1, j2⟩ := injΓ_ok h13
 have hfd0 := hfd
 unfold fdAt at hfd
 split at hfd
 case h_2 => cases hfd
 rename_i oc od fd' osl hK
 cases hfd
 refine ⟨fd, hfd0, ⟨⟨_, _, _, hK⟩, h1, ?_, h3, h4, h5, h6, h7, h8, hb _ hfd0, h9, rfl, fun v hv => ?_, fun i n hi => ?_, fun n i hi => ?_, fun n lo hn => ZW (.inl (Ji hn)), h12, j1, j2⟩⟩
 ·cases hq : fd.body with
  | stmts b => rfl
  | _ => rw [hq] at h2; cases h2
 ·cases code
  ·cases hv
  ·cases hv; rfl
 ·refine List.contains_iff_mem.mp (List.all_eq_true.mp h10 (n, i) ?_)
  exact List.mem_zipIdx_iff_getElem?.mpr hi
 ·have := List.all_eq_true.mp h11 _ hi
  show fd.scope.names.lookup n = _ \/ fd.scope.names.lookup n = _
  simpa [Bool.or_eq_true] using this
structure Prg where
 S : SY
 fns : Nat -> Option Fn
 me : Nat -> Nat -> Option Nat
 ini : Nat -> Option Nat
noncomputable def tb (P : Prg) : Nat -> Tb
 | 0 => ⟨fun _ _ _ => .stuck, P.me, P.ini⟩
 | d + 1 => ⟨fun k vs U => match P.fns k with
   | some f => Yj (tb P d) f vs U
   | none => .stuck, P.me, P.ini⟩
noncomputable def FnIs (X : Cx) (S : SY) (N : Nat) (k : Nat) (f : Fn) : Prop := ∃ fd params C, FnFacts X k fd (Zu fd.body) params C /\ params.length = f.nargs /\ f.body = (Zu fd.body).map (cS S N C N)
structure PrgOk (X : Cx) (P : Prg) (N : Nat) : Prop where
 S : ZJ X P.S
 fns : ∀ k f, P.fns k = some f -> FnIs X P.S N k f
 me : ∀ c m n f, c < NC -> P.me c m = some f -> X.attrs[m]? = some n -> plainGet X.K (X.cls c) n = true /\ findIn X.K (.ref (X.cls c)) n = some (some (.ref (X.fa f))) /\ isFn X.K (.ref (X.fa f)) = true /\ keepIn X.K (.ref (X.fa f)) = true
 ini : ∀ c f, c < NC -> P.ini c = some f -> NewFacts X c f
theorem fn_is {k : Nat} {f : Fn} (O : ZJ X S) {N : Nat} (h : FnIs X S N k f) (B : TbOk X lvl T) (hl : 1 ≤ lvl) : FOk X (lvl + 1) (.ref (X.fa k)) fun vs U => Yj T f vs U := by
 obtain ⟨fd, params, C, F, hn, hb⟩ := h
 refine fn_ok O.lim F hn ?_
 rw [hb]
 exact bl_map (cS_ok O B hl N) _ _
theorem UY {f : Value} {g : List PV -> St -> R PV} (h : ∀ vs U, g vs U = .stuck) : FOk X lvl f g := fun A fs Z U s vs us I ar rm rs ns => absurd (h vs U) ns
theorem tb_ok {P : Prg} {N : Nat} (O : PrgOk X P N) : ∀ d, TbOk X (2 * d + 1) (tb P d)
 | 0 => ⟨fun k => UY fun _ _ => rfl, O.me, fun c f hc hf => UY fun _ _ => rfl⟩
 | d + 1 => by
  have ih := tb_ok O d
  have fn : ∀ k, FOk X (2 * d + 1 + 1) (.ref (X.fa k)) ((tb P (d + 1)).F k) := fun k => by
   show FOk X _ _ fun vs U => match P.fns k with
    | some f => Yj (tb P d) f vs U
    | none => .stuck
   cases hk : P.fns k with
   | none => exact UY fun _ _ => rfl
   | some f => exact fn_is O.S (O.fns k f hk) ih (by lia)
  refine ⟨fun k => (fn k).mono (by lia), O.me, fun c f hc hf => ?_⟩
  exact (new_ok hc (O.ini c f hc hf) (fn f)).mono (by lia)
end
structure Dat where
 attrs : List Str
 cls : List Addr
 fa : List Addr
noncomputable def Dat.clsAt (D : Dat) (c : Nat) : Addr := D.cls.getD c 0
noncomputable def Dat.faAt (D : Dat) (c : Nat) : Addr := D.fa.getD c 0
noncomputable def UX (K : Frag) (D : Dat) : Bool := (List.range NC).all fun c => (D.attrs.take ND).all fun n => plainGet K (D.clsAt c) n && hasDictIn K (D.clsAt c) && (match findIn K (.ref (D.clsAt c)) n with
 | some attr => noGet K attr
 | none => false)
noncomputable def UO (K : Frag) (D : Dat) : Bool := (List.range NC).all fun c => (D.attrs.take ND).all fun n => findIn K (.ref (D.clsAt c)) "__setattr__" == some (some (.builtin "object.__setattr__")) && plainOver K (D.clsAt c) && takerIn K (D.clsAt c) n == some none
noncomputable def fragChk (K : Frag) : Bool := K.all (fun p => p.2.cls != .type "list") && noTabs K
noncomputable def Zm (D : Dat) : Bool := decide (ND ≤ D.attrs.length) && decide (D.attrs.length ≤ 1000) && decide D.attrs.Nodup
structure Yt (s : Shared) (K : Frag) (mg mb : Str -> Option Value) (l : Addr) (ol : Obj) (tabs : List Addr) : Prop where
 g : s.heap.Ns mainGlobals mg
 b : s.heap.Ns builtinsNs mb
 boot : ∀ x : Str, x ≠ "__name__" -> mb x = bootBuiltins x
 lim : s.heap.NoLimit
 kin : K.In s.heap
 lst : s.heap.get? l = some ol
 lcls : ol.cls = .type "list"
 ldat : ∃ items n, ol.data = .seq items n
 tabs : ∀ P, P ∈ tabs -> s.heap.get? P = some (tabObj #[])
 chk : fragChk K = true
 bmain : ∃ bm ob, mg "__builtins__" = some (.ref bm) /\ bm ≠ builtinsNs /\ s.heap.get? bm = some ob /\ ob.cls = .type "module" /\ ob.dict = some builtinsNs /\ ob.data = .plain
section
variable {s : Shared} {K : Frag} {mg mb : Str -> Option Value} {l : Addr} {ol : Obj} {tabs : List Addr}
noncomputable def ZX (s : Shared) (l : Addr) (tabs : List Addr) : Heap := hideAll s.heap (l :: tabs)
theorem base_keep (H : Yt s K mg mb l ol tabs) {b : Addr} {o : Obj} (e : s.heap.get? b = some o) (h1 : o ≠ ol) (h2 : o ≠ tabObj #[]) : (ZX s l tabs).get? b = some o := by
 refine hideAll_get _ e fun m => ?_
 rcases List.mem_cons.mp m with rfl | m
 ·rw [H.lst] at e; cases e; exact h1 rfl
 ·rw [H.tabs _ m] at e; cases e; exact h2 rfl
theorem base_ns (H : Yt s K mg mb l ol tabs) {a : Addr} {m : Str -> Option Value} (n : s.heap.Ns a m) : (ZX s l tabs).Ns a m := by
 obtain ⟨o, es, ep, e, hd, r⟩ := n
 refine ⟨o, es, ep, base_keep H e (fun q => ?_) (fun q => by rw [q] at hd; cases hd), hd, r⟩
 obtain ⟨items, n, hl⟩ := H.ldat
 rw [q, hl] at hd; cases hd
theorem base_K (H : Yt s K mg mb l ol tabs) : K.In (ZX s l tabs) := fun a o e => by
 have hc := H.chk
 unfold fragChk noTabs at hc
 rw [Bool.and_eq_true, List.all_eq_true, List.all_eq_true] at hc
 have m := mem_of_lookupK e
 refine base_keep H (H.kin a o e) (fun q => ?_) (fun q => ?_)
 ·have := hc.1 _ m
  rw [q] at this
  dsimp only at this
  rw [H.lcls] at this
  simp at this
 ·have := hc.2 _ m
  rw [q] at this
  exact absurd (show false = true from this) Bool.false_ne_true
set_option tactic.hygienic true in
theorem getChk_of {D : Dat} (h : UX K D = true) : ∀ c a n, c < NC -> a < ND -> D.attrs[a]? = some n -> plainGet K (D.clsAt c) n = true /\ hasDictIn K (D.clsAt c) = true /\ ∃ attr, findIn K (.ref (D.clsAt c)) n = some attr /\ noGet K attr = true := fun c a n hc ha hn => by
 have h1 := List.all_eq_true.mp h c (List.mem_range.mpr hc)
 have h2 := List.all_eq_true.mp h1 n (by
  refine List.mem_of_getElem? (i := a) ?_
  rw [List.getElem?_take, if_pos ha]; exact hn)
 simp only [Bool.and_eq_true] at h2
 refine ⟨h2.1.1, h2.1.2, ?_⟩
 have h3 := h2.2
 split at h3
 ·rename_i attr e
  exact ⟨attr, e, h3⟩
 ·cases h3
theorem setChk_of {D : Dat} (h : UO K D = true) : ∀ c a n, c < NC -> a < ND -> D.attrs[a]? = some n -> findIn K (.ref (D.clsAt c)) "__setattr__" = some (some (.builtin "object.__setattr__")) /\ plainOver K (D.clsAt c) = true /\ takerIn K (D.clsAt c) n = some none := fun c a n hc ha hn => by
 have h1 := List.all_eq_true.mp h c (List.mem_range.mpr hc)
 have h2 := List.all_eq_true.mp h1 n (by
  refine List.mem_of_getElem? (i := a) ?_
  rw [List.getElem?_take, if_pos ha]; exact hn)
 simp only [Bool.and_eq_true, beq_iff_eq] at h2
 exact ⟨h2.1.1, h2.1.2, h2.2⟩
noncomputable def mkCx (prog : Program) (w : World) (D : Dat) (tabP : Addr) (H : Yt s K mg mb l ol tabs) (hd : Zm D = true) (hg : UX K D = true) (hs : UO K D = true) : Cx where
 prog := prog
 w := w
 base := ZX s l tabs
 attrs := D.attrs
 cls := D.clsAt
 fzo := ol
 fa := D.faAt
 tabP := tabP
 mg := mg
 mb := mb
 gns := base_ns H H.g
 bns := base_ns H H.b
 boot := fun x v e n => (H.boot x n).trans e
 K := K
 kin := base_K H
 attrLen := by simp only [Zm, Bool.and_eq_true, decide_eq_true_eq] at hd; exact hd.1.1
 attrShort := by simp only [Zm, Bool.and_eq_true, decide_eq_true_eq] at hd; exact hd.1.2
 attrNodup := by simp only [Zm, Bool.and_eq_true, decide_eq_true_eq] at hd; exact hd.2
 getOk := getChk_of hg
 setOk := setChk_of hs
theorem base_lim (H : Yt s K mg mb l ol tabs) : (ZX s l tabs).NoLimit := by
 obtain ⟨mc, a, b⟩ := H.lim
 exact ⟨mc, base_ns H a, b⟩
noncomputable def cstV (v : PV) (u : Value) : Option {x : Unit // ∀ hp Z, VRep hp Z v u} := match v, u with
 | .int i, .int j t => if h : i = j then some ⟨(), fun _ _ => h ▸ .int _ _⟩ else none
 | .str x, .str y t => if h : (x == y) = true then some ⟨(), fun _ _ => beq_iff_eq.mp h ▸ .str _ _⟩ else none
 | _, _ => none
noncomputable def cstAt (v : PV) (o : Option (Option Value)) : Option {u : Value // o = some (some u) /\ ∀ hp Z, VRep hp Z v u} := onSome o (fun _ => none) fun p => onSome p (fun _ => none) fun u => (cstV v u).map fun q => ⟨u, rfl, q.2⟩
noncomputable def gvChk (K : Frag) (D : Dat) (p : Str × GV) : Bool := match p.2 with
 | .fn k => nsIn K mainGlobals p.1 == some (some (.ref (D.faAt k))) && keepIn K (.ref (D.faAt k))
 | .cls c => nsIn K mainGlobals p.1 == some (some (.ref (D.clsAt c))) && keepIn K (.ref (D.clsAt c))
 | .cst v => (cstAt v (nsIn K mainGlobals p.1)).isSome
noncomputable def sxChk (K : Frag) (D : Dat) (S : SX) : Bool := S.glob.all (gvChk K D) && S.bnames.all (fun n => nsIn K mainGlobals n == some none) && decide (S.attrs = D.attrs)
theorem mgOf (X : K.In s.heap) (G : s.heap.Ns mainGlobals mg) {n : Str} {v : Value} (e : nsIn K mainGlobals n = some (some v)) : mg n = some v := mg_of X G e
set_option tactic.hygienic true in
theorem sok_of {prog : Program} {w : World} {D : Dat} {tabP : Addr} {S : SX} (H : Yt s K mg mb l ol tabs) (hd : Zm D = true) (hg : UX K D = true) (hs : UO K D = true) (hx : sxChk K D S = true) : SOk (mkCx prog w D tabP H hd hg hs) S := by
 unfold sxChk at hx
 simp only [Bool.and_eq_true, decide_eq_true_eq] at hx
 obtain ⟨⟨h1, h2⟩, h3⟩ := hx
 have gv : ∀ n v, S.glob.lookup n = some v -> gvChk K D (n, v) = true := fun n v h => List.all_eq_true.mp h1 _ (Ji h)
 refine ⟨h3.symm, fun n k h => ?_, fun n k h => ?_, fun n v h => ?_, fun n h => ?_⟩
 ·have := gv _ _ h
  simp only [gvChk, Bool.and_eq_true, beq_iff_eq] at this
  exact ⟨mgOf H.kin H.g this.1, this.2⟩
 ·have := gv _ _ h
  simp only [gvChk, Bool.and_eq_true, beq_iff_eq] at this
  exact ⟨mgOf H.kin H.g this.1, this.2⟩
 ·obtain ⟨u, _⟩ := Option.isSome_iff_exists.mp (show (cstAt v (nsIn K mainGlobals n)).isSome = true from gv _ _ h)
  exact ⟨u.1, mgOf H.kin H.g u.2.1, u.2.2⟩
 ·have := List.all_eq_true.mp h2 n h
  exact ns_none_of H.kin H.g (beq_iff_eq.mp this)
end
section
variable {s : Shared} {K : Frag} {mg mb : Str -> Option Value} {l : Addr} {ol : Obj} {tabs : List Addr}
theorem intsR_rep {h : Heap} {Z : Rho} {vs : List Value} {ns : List Int} (r : IntsAre vs ns) : VReps h Z (ns.map PV.int) vs := ints_rep r
theorem base_off (H : Yt s K mg mb l ol tabs) {a : Addr} (ha : a ∈ l :: tabs) : (ZX s l tabs).get? a = none := hideAll_none _ ha
theorem base_stays : (ZX s l tabs).StaysIn s.heap := fun b o e => of_hideAll _ e
theorem aok0 {X : Cx} {Z : Rho} {h : Heap} : AOK X callerA [] Z h := ⟨rfl, ⟨[], rfl, rfl, trivial⟩, (fun _ h => nomatch h), (fun _ h => nomatch h)⟩
theorem rm0 {n : Nat} (h : n ≤ 200) : Rm callerA n := by
 refine ⟨?_, ?_⟩
 ·show 1 + claimMargin + n < recursionLimit
  have : claimMargin = 300 := rfl
  have : recursionLimit = 1000 := rfl
  lia
 ·show 4 + 3 * n + 100 < cLine
  have : cLine = 9900 := rfl
  lia
theorem rp_one {prog : Program} {w : World} {D : Dat} {tabP : Addr} {vs : List Value} {ns : List Int} {n : Nat} (H : Yt s K mg mb l ol []) (hd : Zm D = true) (hg : UX K D = true) (hs : UO K D = true) (ho : ol.data = .seq vs.toArray n) (hi : IntsAre vs ns) :
  Rp (mkCx prog w D tabP H hd hg hs) [(l, none)] [.frz (ns.map .int)] s.heap := by
 refine ⟨base_stays, rfl, by simp [Je, Jk], fun a ha => base_off H (by simpa [Je, Jk] using ha), ⟨_, rfl⟩, fun i p o hi' ho' => ?_⟩
 cases i with
 | zero =>
  simp at hi' ho'
  subst hi' ho'
  exact .frz H.lst H.lcls ho (by simpa using intsR_rep hi)
 | succ i => simp at hi'
theorem fin_one {prog : Program} {w : World} {D : Dat} {tabP : Addr} {vs : List Value} {ns : List Int} {n L : Nat} (H : Yt s K mg mb l ol []) (hd : Zm D = true) (hg : UX K D = true) (hs : UO K D = true) (ho : ol.data = .seq vs.toArray n) (hi : IntsAre vs ns)
  {f : Value} {g : List PV -> St -> R PV} (F : FOk (mkCx prog w D tabP H hd hg hs) L f g) (hL : L ≤ 200) {U' : St} (hr : g [.loc 0] [.frz (ns.map .int)] = .ok (.bool true) U') (hgens : s.gens = #[])
  {cw : ClaimW} {cl : Str -> Option Addr} {mean : ExcName -> Option Value} {args : List WData} (hnr : ∀ a x, cw.raises a x = false) (hpost : cw.post args (.bool true) args = true) :
  codeAny (model prog w) callerA (.call f ⟨[.ref l], []⟩) (GoodW cw cl mean args s) s := by
 have I := rp_one (prog := prog) (w := w) (tabP := tabP) H hd hg hs ho hi
 have key := F callerA [] [(l, none)] _ s [.loc 0] [.ref l] I aok0 (rm0 hL) (.cons (.loc (p := (l, none)) rfl) .nil) (by rw [hr]; simp)
 refine codeAny_mono key fun r s' z => ?_
 rcases r with e | (v | _ | _ | _) <;> first | exact z.elim | skip
 ·obtain ⟨c, _, _, _, _, q, _⟩ := z
  rw [hr] at q; cases q
 ·obtain ⟨v', U2, Z2, e1, ⟨h', t', rfl⟩, I', r', T⟩ := z
  rw [hr] at e1
  cases e1
  cases (show _ = _ from r'.inv)
  refine ⟨.inl ⟨.bool true, .bool true, [], rfl, fun c => hnr _ _, .bool true, hpost, fun _ => ⟨List.nodup_nil, (fun _ h => nomatch h)⟩⟩, fun b o e => ?_, rfl, hgens⟩
  dsimp only
  obtain ⟨τ, hτ⟩ := T.pre
  by_cases hb : b = l
  ·subst hb
   rw [H.lst] at e; cases e
   obtain ⟨xs, hx⟩ := I'.fz
   have := I'.objs 0 (b, none) _ (by rw [hτ]; rfl) hx
   cases this with
   | frz q _ _ _ => exact q
  ·exact I'.base b o (hideAll_get _ e (by simpa using hb))
end
theorem fnIs_of {X : Cx} {S : SY} {N k a : Nat} {f : Fn} {K : Frag}  (params : List Str) (hK : X.K = K) (ha : X.fa k = a) (h1 : GC K a params = true)
  (h2 : ∀ us : List Value, us.length = params.length -> ∀ S, (fdAt K a).map (fun fd => peek K S (bindArgs fd ⟨us, []⟩)) = some (some (params.zip us)))
  (h3 : (fdAt K a).map (fun fd => (Zu fd.body).map (cS S N (fnSC fd.scope.names none) N)) = some f.body) (hn : params.length = f.nargs) : FnIs X S N k f := by
 subst hK ha
 obtain ⟨fd, e, F⟩ := fnFacts_of h1 (fun fd e us hu S => by
  have := h2 us hu S
  rw [e] at this
  exact Option.some.inj this) false
 rw [e] at h3
 exact ⟨fd, params, _, F, hn, (Option.some.inj h3).symm⟩
noncomputable def FnsIs (X : Cx) (S : SY) (N : Nat) : Nat -> List Fn -> Prop
 | _, [] => True
 | k, f :: r => FnIs X S N k f /\ FnsIs X S N (k + 1) r
theorem FnsIs.at {X : Cx} {S : SY} {N : Nat} {l : List Fn} : ∀ {k0 : Nat}, FnsIs X S N k0 l -> ∀ k f, l[k]? = some f -> FnIs X S N (k0 + k) f := by
 induction l with
 | nil => exact fun _ k f h => nomatch h
 | cons g r ih =>
  intro k0 H k f h
  cases k with
  | zero => exact Option.some.inj h ▸ H.1
  | succ k =>
   have := ih H.2 k f h
   rwa [Nat.add_right_comm, Nat.add_assoc] at this
noncomputable def meOf (l : List ((Nat × Nat) × Nat)) (c m : Nat) : Option Nat := l.lookup (c, m)
noncomputable def iniOf (l : List (Nat × Nat)) (c : Nat) : Option Nat := l.lookup c
noncomputable def meChk (K : Frag) (D : Dat) (l : List ((Nat × Nat) × Nat)) : Bool := l.all fun p => match D.attrs[p.1.2]? with
 | some n => plainGet K (D.clsAt p.1.1) n && findIn K (.ref (D.clsAt p.1.1)) n == some (some (.ref (D.faAt p.2))) && isFn K (.ref (D.faAt p.2)) && keepIn K (.ref (D.faAt p.2))
 | none => true
noncomputable def iniChk (K : Frag) (D : Dat) (l : List (Nat × Nat)) : Bool := l.all fun p => makesIn K (D.clsAt p.1) && findIn K (.ref (D.clsAt p.1)) "__init__" == some (some (.ref (D.faAt p.2))) && typeIn K (.ref (D.faAt p.2)) == some (.type "function")
noncomputable def prgOf (S : SY) (fns : List Fn) (me : List ((Nat × Nat) × Nat)) (ini : List (Nat × Nat)) : Prg := ⟨S, fun k => fns[k]?, meOf me, iniOf ini⟩
theorem prgOk_of {X : Cx} {S : SY} {fns : List Fn} {me : List ((Nat × Nat) × Nat)} {ini : List (Nat × Nat)} {N : Nat} {K : Frag} {D : Dat} (hK : X.K = K) (ha : X.attrs = D.attrs) (hc : X.cls = D.clsAt) (hf : X.fa = D.faAt) (O : ZJ X S) (F : FnsIs X S N 0 fns)
  (hm : meChk K D me = true) (hi : iniChk K D ini = true) : PrgOk X (prgOf S fns me ini) N := by
 subst hK
 refine ⟨O, fun k f h => by have := F.at k f h; rw [Nat.zero_add] at this; exact this, fun c m n f hc' hm' hn => ?_, fun c f hc' h => ?_⟩
 ·have := List.all_eq_true.mp hm _ (Ji hm')
  dsimp only at this
  rw [← ha, hn] at this
  simp only [Bool.and_eq_true, beq_iff_eq] at this
  rw [hc, hf]
  exact ⟨this.1.1.1, this.1.1.2, this.1.2, this.2⟩
 ·have := List.all_eq_true.mp hi _ (Ji h)
  simp only [Bool.and_eq_true, beq_iff_eq] at this
  refine ⟨?_, ?_, ?_⟩
  ·rw [hc]; exact this.1.1
  ·rw [hc, hf]; exact this.1.2
  ·rw [hf]; exact this.2
theorem len1 {us : List Value} (h : us.length = 1) : ∃ a, us = [a] := by
 rcases us with _ | ⟨a, _ | ⟨b, r⟩⟩
 ·cases h
 ·exact ⟨a, rfl⟩
 ·cases h
theorem lenS {us : List Value} {n : Nat} (h : us.length = n + 1) : ∃ a r, us = a :: r /\ r.length = n := by
 cases us with
 | nil => cases h
 | cons a r => exact ⟨a, r, rfl, Nat.succ.inj h⟩
theorem len2 {us : List Value} (h : us.length = 2) : ∃ a b, us = [a, b] := by
 obtain ⟨a, r, rfl, hr⟩ := lenS h
 obtain ⟨b, rfl⟩ := len1 hr
 exact ⟨a, b, rfl⟩
theorem len3 {us : List Value} (h : us.length = 3) : ∃ a b c, us = [a, b, c] := by
 obtain ⟨a, r, rfl, hr⟩ := lenS h
 obtain ⟨b, c, rfl⟩ := len2 hr
 exact ⟨a, b, c, rfl⟩
theorem len4 {us : List Value} (h : us.length = 4) : ∃ a b c d, us = [a, b, c, d] := by
 obtain ⟨a, r, rfl, hr⟩ := lenS h
 obtain ⟨b, c, d, rfl⟩ := len3 hr
 exact ⟨a, b, c, d, rfl⟩
theorem len5 {us : List Value} (h : us.length = 5) : ∃ a b c d e, us = [a, b, c, d, e] := by
 obtain ⟨a, r, rfl, hr⟩ := lenS h
 obtain ⟨b, c, d, e, rfl⟩ := len4 hr
 exact ⟨a, b, c, d, e, rfl⟩
theorem len6 {us : List Value} (h : us.length = 6) : ∃ a b c d e f, us = [a, b, c, d, e, f] := by
 obtain ⟨a, r, rfl, hr⟩ := lenS h
 obtain ⟨b, c, d, e, f, rfl⟩ := len5 hr
 exact ⟨a, b, c, d, e, f, rfl⟩
end Mine
namespace Mine
open PySem
noncomputable def b01_0 : List IS := [.asg (.name 2) (.comp (.blt .int [.var 6]) none [6] false 0 [.slice (.var 0) none (some (.cst (.int 48)))] [] 5 2), .asg (.name 3) (.cst (.int 0)), .ife (.bop true [.var 2, .cmp (.blt .abs [.sub (.var 2) (.cst (.int 0))]) [(.GtE, .bin .Pow (.cst (.int 10)) (.cst (.int 15)))]])
  [.asg (.name 3) (.bin .Mod (.bin .FloorDiv (.blt .abs [.sub (.var 2) (.cst (.int 0))]) (.cst (.int 2))) (.bin .Pow (.cst (.int 10)) (.cst (.int 260))))]
  [], .asg (.name 4) (.cst (.int 1)), .forr (.name 1) 0 [.var 2]
  [.asg (.name 4) (.bin .Mod (.bin .Add (.bin .Add (.bin .Mult (.var 4) (.cst (.int 48271))) (.bin .Mod (.var 1) (.cst (.int 2147483647)))) (.cst (.int 611))) (.cst (.int 2147483647)))], .ret (.list [.var 2, .var 3, .var 4, .cst (.int 0)])]
noncomputable def f01_0 : Fn := ⟨1, 5, b01_0⟩
noncomputable def b01_1 : List IS := [.asg (.name 2) (.sub (.var 0) (.cst (.int 3))), .asg (.sub (.var 0) (.cst (.int 3))) (.bin .Add (.var 2) (.cst (.int 1))), .ife (.cmp (.sub (.var 0) (.cst (.int 1))) [(.Gt, .cst (.int 0))])
  [.asg (.name 3) (.bin .Mod (.sub (.var 0) (.cst (.int 1))) (.var 1)), .asg (.sub (.var 0) (.cst (.int 1))) (.bin .FloorDiv (.sub (.var 0) (.cst (.int 1))) (.var 1)), .ret (.var 3)]
  [], .asg (.sub (.var 0) (.cst (.int 2))) (.bin .Mod (.bin .Add (.bin .Add (.bin .Mult (.sub (.var 0) (.cst (.int 2))) (.cst (.int 16807))) (.bin .Mult (.var 2) (.var 2))) (.cst (.int 29))) (.cst (.int 2147483647))), .ife (.cmp (.var 2) [(.Lt, .blt .len [.sub (.var 0) (.cst (.int 0))])])
  [.ret (.bin .Mod (.sub (.sub (.var 0) (.cst (.int 0))) (.var 2)) (.var 1))]
  [], .ret (.bin .Mod (.bin .Pow (.bin .FloorDiv (.sub (.var 0) (.cst (.int 2))) (.cst (.int 3))) (.cst (.int 3))) (.var 1))]
noncomputable def f01_1 : Fn := ⟨2, 4, b01_1⟩
noncomputable def b01_2 : List IS := [.asg (.name 1) (.list []), .forr (.tup [.name 2, .name 3]) 0 [.tup [.tup [.cst (.str (Str.ofString "INBOX")), .cst (.int 1)], .tup [.cst (.str (Str.ofString "a")), .cst (.int 2)]]]
  [.asg (.name 4) (.bin .Sub (.bin .Add (.cst (.int 4294967295)) (.cst (.int 1))) (.call 1 [.var 0, .cst (.int 4)])), .asg (.name 5) (.bin .Sub (.cst (.int 9223372036854775807)) (.sub (.list [.cst (.int 0), .cst (.int 1), .cst (.int 2), .cst (.int 3), .cst (.int 4), .cst (.int 5), .cst (.int 1000000)]) (.call 1 [.var 0, .cst (.int 7)]))), .asg (.name 6) (.tup [.tup [.cst (.int 1), .cst (.bytes #[120]), .tup [], .cst (.int 0), .cst (.int 2)], .tup [.cst (.int 5), .cst (.bytes #[121]), .tup [.cst (.str (Str.ofString "\\Seen"))], .neg (.cst (.int 7)), .cst (.int 9)]]), .expr (.meth .append (.var 1) [.tup [.var 2, .var 3, .var 4, .var 5, .cst (.int 0), .var 6, .tup []]])], .ret (.tup [.cst (.str (Str.ofString "snapshot")), .bin .Sub (.cst (.int 4294967295)) (.call 1 [.var 0, .cst (.int 3)]), .tup [], .blt .tuple [.var 1]])]
noncomputable def f01_2 : Fn := ⟨1, 7, b01_2⟩
noncomputable def b01_3 : List IS := [.forr (.name 2) 0 [.sub (.var 0) (.cst (.int 2))]
  [.ife (.cmp (.sub (.var 2) (.cst (.int 0))) [(.Eq, .var 1)])
  [.ret (.var 2)]
  []], .ret (.cst .none)]
noncomputable def f01_3 : Fn := ⟨2, 3, b01_3⟩
noncomputable def b01_4 : List IS := [.ret (.blt .tuple [.slice (.var 1) (some (.call 1 [.var 0, .blt .len [.var 1]])) none])]
noncomputable def f01_4 : Fn := ⟨2, 2, b01_4⟩
noncomputable def b01_5 : List IS := [.asg (.name 3) (.call 1 [.var 0, .cst (.int 8)]), .asg (.name 4) (.sub (.list [.cst (.str (Str.ofString "INBOX")), .cst (.str (Str.ofString "a"))]) (.call 1 [.var 0, .cst (.int 2)])), .asg (.name 5) (.comp (.sub (.var 9) (.cst (.int 0))) none [9] false 0 [.sub (.call 3 [.var 1, .var 4]) (.cst (.int 5))] [] 8 2), .ife (.cmp (.var 3) [(.Eq, .cst (.int 6))])
  [.ret (.tup [.cst (.str (Str.ofString "create")), .bin .Add (.cst (.str (Str.ofString "b"))) (.blt .str [.var 2]), .bin .Add (.sub (.var 1) (.cst (.int 0))) (.call 1 [.var 0, .cst (.int 2)])])]
  [], .ife (.cmp (.var 3) [(.Eq, .cst (.int 7))])
  [.ret (.tup [.cst (.str (Str.ofString "rename")), .cst (.str (Str.ofString "INBOX")), .bin .Add (.cst (.str (Str.ofString "r"))) (.blt .str [.var 2])])]
  [], .ife (.bop false [.cmp (.var 3) [(.Lt, .cst (.int 2))], .cmp (.var 5) [(.Eq, .list [])]])
  [.ret (.tup [.cst (.str (Str.ofString "append")), .var 4, .tup [.cst (.str (Str.ofString "k"))], .var 2, .cst (.bytes #[122])])]
  [], .asg (.name 6) (.call 4 [.var 0, .var 5]), .asg (.name 7) (.sub (.list [.tup [], .tup [.cst (.str (Str.ofString "k"))]]) (.call 1 [.var 0, .cst (.int 2)])), .ife (.cmp (.var 3) [(.Eq, .cst (.int 2))])
  [.ret (.tup [.cst (.str (Str.ofString "flags")), .var 4, .sub (.var 6) (.cst (.int 0)), .var 7])]
  [], .ife (.cmp (.var 3) [(.Eq, .cst (.int 3))])
  [.ret (.tup [.cst (.str (Str.ofString "store")), .var 4, .var 6, .sub (.cst (.str (Str.ofString "+-="))) (.call 1 [.var 0, .cst (.int 3)]), .var 7, .neg (.cst (.int 1))])]
  [], .ife (.cmp (.var 3) [(.Eq, .cst (.int 4))])
  [.ret (.tup [.cst (.str (Str.ofString "expunge")), .var 4, .var 6])]
  [], .ret (.tup [.sub (.list [.cst (.str (Str.ofString "copy")), .cst (.str (Str.ofString "move"))]) (.call 1 [.var 0, .cst (.int 2)]), .var 4, .var 6, .sub (.list [.cst (.str (Str.ofString "INBOX")), .cst (.str (Str.ofString "a"))]) (.call 1 [.var 0, .cst (.int 2)])])]
noncomputable def f01_5 : Fn := ⟨3, 8, b01_5⟩
noncomputable def b01_6 : List IS := [.ret (.bop true [.blt .isInt [.var 0], .not (.blt .isBool [.var 0])])]
noncomputable def f01_6 : Fn := ⟨1, 1, b01_6⟩
noncomputable def b01_7 : List IS := [.ret (.bop true [.blt .isTuple [.var 0], .blt .all [.comp (.blt .isStr [.var 2]) none [2] false 0 [.var 0] [] 1 2]])]
noncomputable def f01_7 : Fn := ⟨1, 1, b01_7⟩
noncomputable def b01_8 : List IS := [.ret (.bop true [.blt .isTuple [.var 0], .blt .all [.comp (.call 6 [.var 2]) none [2] false 0 [.var 0] [] 1 2]])]
noncomputable def f01_8 : Fn := ⟨1, 1, b01_8⟩
noncomputable def b01_9 : List IS := [.ife (.bop false [.not (.blt .isTuple [.var 0]), .cmp (.blt .len [.var 0]) [(.Eq, .cst (.int 0))], .not (.blt .isStr [.sub (.var 0) (.cst (.int 0))])])
  [.raise 3]
  [], .forr (.name 1) 0 [.meth .split (.cst (.str (Str.ofString "create:tn delete:t rename:tt append:tfno flags:tnf store:tutfn expunge:tu copy:tut move:tut subscribe:t unsubscribe:t forget:tn snapshot:nfr"))) [.cst (.str (Str.ofString " "))]]
  [.asg (.tup [.name 2, .name 3]) (.meth .split (.var 1) [.cst (.str (Str.ofString ":"))]), .ife (.cmp (.var 2) [(.Eq, .sub (.var 0) (.cst (.int 0)))])
  [.ife (.cmp (.blt .len [.var 0]) [(.NotEq, .bin .Add (.blt .len [.var 3]) (.cst (.int 1)))])
  [.raise 3]
  [], .forr (.tup [.name 4, .name 5]) 2 [.slice (.var 0) (some (.cst (.int 1))) none, .var 3]
  [.ife (.not (.call 10 [.var 4, .var 5]))
  [.raise 3]
  []], .ret (.cst .none)]
  []], .raise 3]
noncomputable def f01_9 : Fn := ⟨1, 6, b01_9⟩
noncomputable def b01_10 : List IS := [.ife (.cmp (.var 1) [(.Eq, .cst (.str (Str.ofString "t")))])
  [.ret (.blt .isStr [.var 0])]
  [], .ife (.cmp (.var 1) [(.Eq, .cst (.str (Str.ofString "n")))])
  [.ret (.call 6 [.var 0])]
  [], .ife (.cmp (.var 1) [(.Eq, .cst (.str (Str.ofString "o")))])
  [.ret (.blt .isBytes [.var 0])]
  [], .ife (.cmp (.var 1) [(.Eq, .cst (.str (Str.ofString "f")))])
  [.ret (.call 7 [.var 0])]
  [], .ife (.cmp (.var 1) [(.Eq, .cst (.str (Str.ofString "u")))])
  [.ret (.call 8 [.var 0])]
  [], .ret (.blt .isTuple [.var 0])]
noncomputable def f01_10 : Fn := ⟨2, 2, b01_10⟩
noncomputable def b01_11 : List IS := [.expr (.call 9 [.var 1]), .asg (.name 2) (.sub (.var 1) (.cst (.int 0))), .ife (.cmp (.var 2) [(.Eq, .cst (.str (Str.ofString "create")))])
  [.ret (.call 54 [.var 0, .sub (.var 1) (.cst (.int 1)), .sub (.var 1) (.cst (.int 2))])]
  [], .ife (.cmp (.var 2) [(.Eq, .cst (.str (Str.ofString "delete")))])
  [.ret stuckE]
  [], .ife (.cmp (.var 2) [(.Eq, .cst (.str (Str.ofString "rename")))])
  [.ret (.call 55 [.var 0, .sub (.var 1) (.cst (.int 1)), .sub (.var 1) (.cst (.int 2))])]
  [], .ife (.cmp (.var 2) [(.Eq, .cst (.str (Str.ofString "append")))])
  [.ret (.call 57 [.var 0, .sub (.var 1) (.cst (.int 1)), .sub (.var 1) (.cst (.int 2)), .sub (.var 1) (.cst (.int 3)), .sub (.var 1) (.cst (.int 4))])]
  [], .ife (.cmp (.var 2) [(.Eq, .cst (.str (Str.ofString "flags")))])
  [.ret (.call 58 [.var 0, .sub (.var 1) (.cst (.int 1)), .sub (.var 1) (.cst (.int 2)), .sub (.var 1) (.cst (.int 3))])]
  [], .ife (.cmp (.var 2) [(.Eq, .cst (.str (Str.ofString "store")))])
  [.ret (.call 59 [.var 0, .sub (.var 1) (.cst (.int 1)), .sub (.var 1) (.cst (.int 2)), .sub (.var 1) (.cst (.int 3)), .sub (.var 1) (.cst (.int 4)), .sub (.var 1) (.cst (.int 5))])]
  [], .ife (.cmp (.var 2) [(.Eq, .cst (.str (Str.ofString "expunge")))])
  [.ret (.call 60 [.var 0, .sub (.var 1) (.cst (.int 1)), .sub (.var 1) (.cst (.int 2))])]
  [], .ife (.bop false [.cmp (.var 2) [(.Eq, .cst (.str (Str.ofString "copy")))], .cmp (.var 2) [(.Eq, .cst (.str (Str.ofString "move")))]])
  [.ret (.call 61 [.var 0, .sub (.var 1) (.cst (.int 1)), .sub (.var 1) (.cst (.int 2)), .sub (.var 1) (.cst (.int 3)), .cmp (.var 2) [(.Eq, .cst (.str (Str.ofString "move")))]])]
  [], .ife (.cmp (.var 2) [(.Eq, .cst (.str (Str.ofString "subscribe")))])
  [.ret stuckE]
  [], .ife (.cmp (.var 2) [(.Eq, .cst (.str (Str.ofString "unsubscribe")))])
  [.ret stuckE]
  [], .ife (.cmp (.var 2) [(.Eq, .cst (.str (Str.ofString "forget")))])
  [.ret stuckE]
  [], .ret (.call 65 [.var 0, .sub (.var 1) (.cst (.int 1)), .sub (.var 1) (.cst (.int 2)), .sub (.var 1) (.cst (.int 3))])]
noncomputable def f01_11 : Fn := ⟨2, 3, b01_11⟩
noncomputable def b01_12 : List IS := [.asg (.attr (.var 0) 12) (.dict [(.cst (.str (Str.ofString "INBOX")), .new 1 [.cst (.str (Str.ofString "INBOX")), .cst (.int 1)])]), .asg (.attr (.var 0) 13) (.list []), .asg (.attr (.var 0) 14) (.cst (.int 2))]
noncomputable def f01_12 : Fn := ⟨1, 1, b01_12⟩
noncomputable def b01_13 : List IS := [.asg (.name 1) (.blt .tuple [.comp (.umeth 15 (.sub (.attr (.var 0) 12) (.var 3)) []) none [3] false 0 [.umeth 19 (.var 0) []] [] 2 2]), .ret (.tup [.attr (.var 0) 14, .blt .tuple [.attr (.var 0) 13], .var 1])]
noncomputable def f01_13 : Fn := ⟨1, 2, b01_13⟩
noncomputable def b01_14 : List IS := [.ret (.blt .sorted [.blt .list [.attr (.var 0) 12]])]
noncomputable def f01_14 : Fn := ⟨1, 1, b01_14⟩
noncomputable def b01_15 : List IS := [.asg (.attr (.var 0) 5) (.var 1), .asg (.attr (.var 0) 6) (.var 2), .asg (.attr (.var 0) 7) (.cst (.int 1)), .asg (.attr (.var 0) 8) (.cst (.int 1)), .asg (.attr (.var 0) 9) (.cst (.int 0)), .asg (.attr (.var 0) 10) (.list []), .asg (.attr (.var 0) 11) (.list [])]
noncomputable def f01_15 : Fn := ⟨3, 3, b01_15⟩
noncomputable def b01_16 : List IS := [.asg (.name 1) (.blt .tuple [.comp (.umeth 15 (.var 3) []) none [3] false 0 [.attr (.var 0) 10] [] 2 2]), .ret (.tup [.attr (.var 0) 5, .attr (.var 0) 6, .attr (.var 0) 7, .attr (.var 0) 8, .attr (.var 0) 9, .var 1, .blt .tuple [.attr (.var 0) 11]])]
noncomputable def f01_16 : Fn := ⟨1, 2, b01_16⟩
noncomputable def b01_17 : List IS := [.ife (.cmp (.sub (.var 1) (.cst (.int 0))) [(.Eq, .cst (.str (Str.ofString "create")))])
  [.ret (.cmp (.sub (.var 1) (.cst (.int 2))) [(.GtE, .cst (.int 4294967295))])]
  [], .asg (.name 2) (.call 3 [.var 0, .sub (.var 1) (.cst (.int 1))]), .ife (.cmp (.sub (.var 1) (.cst (.int 0))) [(.Eq, .cst (.str (Str.ofString "rename")))])
  [.ret (.bop false [.cmp (.sub (.var 0) (.cst (.int 0))) [(.GtE, .cst (.int 4294967295))], .cmp (.bin .Add (.sub (.var 2) (.cst (.int 3))) (.cst (.int 1))) [(.Gt, .cst (.int 9223372036854775807))]])]
  [], .ife (.cmp (.sub (.var 1) (.cst (.int 0))) [(.Eq, .cst (.str (Str.ofString "append")))])
  [.ret (.bop false [.cmp (.sub (.var 2) (.cst (.int 2))) [(.Gt, .cst (.int 4294967295))], .cmp (.bin .Add (.sub (.var 2) (.cst (.int 3))) (.cst (.int 2))) [(.Gt, .cst (.int 9223372036854775807))]])]
  [], .ife (.cmp (.sub (.var 1) (.cst (.int 0))) [(.Eq, .cst (.str (Str.ofString "store")))])
  [.ret (.cmp (.bin .Add (.sub (.var 2) (.cst (.int 3))) (.blt .len [.sub (.var 1) (.cst (.int 2))])) [(.Gt, .cst (.int 9223372036854775807))])]
  [], .ife (.cmp (.bin .Add (.sub (.var 2) (.cst (.int 3))) (.cst (.int 1))) [(.Gt, .cst (.int 9223372036854775807))])
  [.ret (.cst (.bool true))]
  [], .ife (.cmp (.sub (.var 1) (.cst (.int 0))) [(.In, .tup [.cst (.str (Str.ofString "flags")), .cst (.str (Str.ofString "expunge"))])])
  [.ret (.cst (.bool false))]
  [], .asg (.name 3) (.call 3 [.var 0, .sub (.var 1) (.cst (.int 3))]), .ret (.bop false [.cmp (.bin .Add (.bin .Add (.sub (.var 3) (.cst (.int 3))) (.blt .len [.sub (.var 1) (.cst (.int 2))])) (.cst (.int 1))) [(.Gt, .cst (.int 9223372036854775807))], .cmp (.bin .Sub (.bin .Add (.sub (.var 3) (.cst (.int 2))) (.blt .len [.sub (.var 1) (.cst (.int 2))])) (.cst (.int 1))) [(.Gt, .cst (.int 4294967295))]])]
noncomputable def f01_17 : Fn := ⟨2, 4, b01_17⟩
noncomputable def b01_18 : List IS := [.forr (.name 1) 0 [.sub (.var 0) (.cst (.int 2))]
  [.ife (.bop false [.cmp (.sub (.var 1) (.cst (.int 1))) [(.GtE, .sub (.var 0) (.cst (.int 0)))], .cmp (.sub (.var 1) (.cst (.int 2))) [(.Gt, .bin .Add (.cst (.int 4294967295)) (.cst (.int 1)))], .cmp (.sub (.var 1) (.cst (.int 3))) [(.Gt, .cst (.int 9223372036854775807))]])
  [.ret (.cst (.bool false))]
  [], .ife (.blt .any [.comp (.bop false [.cmp (.sub (.var 3) (.cst (.int 0))) [(.GtE, .sub (.var 1) (.cst (.int 2)))], .cmp (.sub (.var 3) (.cst (.int 4))) [(.Gt, .sub (.var 1) (.cst (.int 3)))]]) none [3] false 0 [.sub (.var 1) (.cst (.int 5))] [] 2 2])
  [.ret (.cst (.bool false))]
  []], .ret (.cmp (.sub (.var 0) (.cst (.int 0))) [(.LtE, .cst (.int 4294967295))])]
noncomputable def f01_18 : Fn := ⟨1, 2, b01_18⟩
noncomputable def b01_19 : List IS := [.ife (.cmp (.sub (.var 1) (.cst (.int 0))) [(.Eq, .cst (.str (Str.ofString "append")))])
  [.asg (.name 2) (.call 3 [.var 0, .sub (.var 1) (.cst (.int 1))]), .ret (.tup [.sub (.var 2) (.cst (.int 1)), .sub (.var 2) (.cst (.int 2))])]
  [], .ife (.cmp (.sub (.var 1) (.cst (.int 0))) [(.In, .tup [.cst (.str (Str.ofString "copy")), .cst (.str (Str.ofString "move"))])])
  [.asg (.name 3) (.call 3 [.var 0, .sub (.var 1) (.cst (.int 3))]), .ret (.tup [.sub (.var 3) (.cst (.int 1)), .sub (.var 1) (.cst (.int 2)), .blt .tuple [.comp (.bin .Add (.sub (.var 3) (.cst (.int 2))) (.var 5)) none [5] false 1 [.blt .len [.sub (.var 1) (.cst (.int 2))]] [] 4 2]])]
  [], .ret (.cst .none)]
noncomputable def f01_19 : Fn := ⟨2, 4, b01_19⟩
noncomputable def b01_20 : List IS := [.asg (.name 2) (.call 45 [.var 1]), .ife (.cmp (.var 2) [(.NotIn, .attr (.var 0) 12)])
  [.raise 3]
  [], .ret (.sub (.attr (.var 0) 12) (.var 2))]
noncomputable def f01_20 : Fn := ⟨2, 3, b01_20⟩
noncomputable def b01_21 : List IS := [.asg (.name 2) (.call 30 [.attr (.var 0) 10, .var 1]), .ret (.ite (.cmp (.var 2) [(.GtE, .cst (.int 0))]) (.sub (.attr (.var 0) 10) (.var 2)) (.cst .none))]
noncomputable def f01_21 : Fn := ⟨2, 3, b01_21⟩
noncomputable def b01_22 : List IS := [.ret (.comp (.attr (.var 2) 0) none [2] false 0 [.attr (.var 0) 10] [] 1 2)]
noncomputable def f01_22 : Fn := ⟨1, 1, b01_22⟩
noncomputable def b01_23 : List IS := [.asg (.attr (.var 0) 0) (.var 1), .asg (.attr (.var 0) 1) (.var 2), .asg (.attr (.var 0) 2) (.blt .tuple [.var 3]), .asg (.attr (.var 0) 3) (.var 4), .asg (.attr (.var 0) 4) (.var 5)]
noncomputable def f01_23 : Fn := ⟨6, 6, b01_23⟩
noncomputable def b01_24 : List IS := [.ret (.tup [.attr (.var 0) 0, .attr (.var 0) 1, .attr (.var 0) 2, .attr (.var 0) 3, .attr (.var 0) 4])]
noncomputable def f01_24 : Fn := ⟨1, 1, b01_24⟩
noncomputable def b01_25 : List IS := [.ret (.meth .split (.cst (.str (Str.ofString "\\Seen \\Answered \\Flagged \\Deleted \\Draft"))) [.cst (.str (Str.ofString " "))])]
noncomputable def f01_25 : Fn := ⟨0, 0, b01_25⟩
noncomputable def b01_26 : List IS := [.ife (.not (.cmp (.cst (.int 1)) [(.LtE, .blt .len [.var 0]), (.LtE, .cst (.int 60))]))
  [.ret (.cst (.bool false))]
  [], .forr (.name 1) 0 [.var 0]
  [.ife (.bop false [.not (.cmp (.cst (.int 32)) [(.Lt, .blt .ord [.var 1]), (.Lt, .cst (.int 127))]), .cmp (.var 1) [(.In, .cst (.str (Str.ofString "(){ %*\"\\]")))]])
  [.ret (.cst (.bool false))]
  []], .ret (.cst (.bool true))]
noncomputable def f01_26 : Fn := ⟨1, 2, b01_26⟩
noncomputable def b01_27 : List IS := [.forr (.name 1) 0 [.call 25 []]
  [.ife (.cmp (.meth .lower (.var 0) []) [(.Eq, .meth .lower (.var 1) [])])
  [.ret (.var 1)]
  []], .ife (.not (.call 26 [.var 0]))
  [.raise 3]
  [], .ret (.var 0)]
noncomputable def f01_27 : Fn := ⟨1, 2, b01_27⟩
noncomputable def b01_28 : List IS := [.asg (.name 1) (.list []), .forr (.name 2) 0 [.var 0]
  [.asg (.name 3) (.call 27 [.var 2]), .ife (.cmp (.var 3) [(.NotIn, .var 1)])
  [.expr (.meth .append (.var 1) [.var 3])]
  []], .ret (.blt .tuple [.blt .sorted [.var 1]])]
noncomputable def f01_28 : Fn := ⟨1, 4, b01_28⟩
noncomputable def b01_29 : List IS := [.asg (.name 1) (.new 1 [.sub (.var 0) (.cst (.int 0)), .sub (.var 0) (.cst (.int 1))]), .asg (.tup [.attr (.var 1) 7, .attr (.var 1) 8, .attr (.var 1) 9]) (.tup [.sub (.var 0) (.cst (.int 2)), .sub (.var 0) (.cst (.int 3)), .sub (.var 0) (.cst (.int 4))]), .asg (.attr (.var 1) 10) (.comp (.new 0 [.sub (.var 3) (.cst (.int 0)), .sub (.var 3) (.cst (.int 1)), .sub (.var 3) (.cst (.int 2)), .sub (.var 3) (.cst (.int 3)), .sub (.var 3) (.cst (.int 4))]) none [3] false 0 [.sub (.var 0) (.cst (.int 5))] [] 2 2), .asg (.attr (.var 1) 11) (.comp (.tup [.sub (.var 3) (.cst (.int 0)), .sub (.var 3) (.cst (.int 1))]) none [3] false 0 [.sub (.var 0) (.cst (.int 6))] [] 2 2), .ret (.var 1)]
noncomputable def f01_29 : Fn := ⟨1, 2, b01_29⟩
noncomputable def b01_30 : List IS := [.asg2 2 3 (.tup [.cst (.int 0), .blt .len [.var 0]]), .whl (.cmp (.var 2) [(.Lt, .var 3)])
  [.asg (.name 4) (.bin .FloorDiv (.bin .Add (.var 2) (.var 3)) (.cst (.int 2))), .ife (.cmp (.attr (.sub (.var 0) (.var 4)) 0) [(.Lt, .var 1)])
  [.asg (.name 2) (.bin .Add (.var 4) (.cst (.int 1)))]
  [.asg (.name 3) (.var 4)]], .ife (.bop true [.cmp (.var 2) [(.Lt, .blt .len [.var 0])], .cmp (.attr (.sub (.var 0) (.var 2)) 0) [(.Eq, .var 1)]])
  [.ret (.var 2)]
  [], .ret (.neg (.cst (.int 1)))]
noncomputable def f01_30 : Fn := ⟨2, 5, b01_30⟩
noncomputable def b01_31 : List IS := [.asg (.attr (.var 0) 8) (.bin .Add (.attr (.var 0) 8) (.cst (.int 1))), .ret (.attr (.var 0) 8)]
noncomputable def f01_31 : Fn := ⟨1, 1, b01_31⟩
noncomputable def b01_32 : List IS := [.asg (.name 4) (.call 28 [.var 2]), .asg (.name 5) (.new 0 [.attr (.var 0) 7, .var 1, .var 4, .var 3, .call 31 [.var 0]]), .asg (.attr (.var 0) 7) (.bin .Add (.attr (.var 0) 7) (.cst (.int 1))), .expr (.meth .append (.attr (.var 0) 10) [.var 5]), .ret (.var 5)]
noncomputable def f01_32 : Fn := ⟨4, 6, b01_32⟩
noncomputable def b01_33 : List IS := [.asg (.name 3) (.call 28 [.var 2]), .asg (.name 4) (.call 30 [.attr (.var 0) 10, .var 1]), .ife (.cmp (.var 4) [(.Lt, .cst (.int 0))])
  [.raise 3]
  [], .asg (.name 5) (.sub (.attr (.var 0) 10) (.var 4)), .ife (.cmp (.attr (.var 5) 2) [(.Eq, .var 3)])
  [.ret (.cst (.bool false))]
  [], .asg (.sub (.attr (.var 0) 10) (.var 4)) (.new 0 [.var 1, .attr (.var 5) 1, .var 3, .attr (.var 5) 3, .call 31 [.var 0]]), .ret (.cst (.bool true))]
noncomputable def f01_33 : Fn := ⟨3, 6, b01_33⟩
noncomputable def b01_34 : List IS := [.asg (.name 3) (.call 28 [.var 2]), .ife (.cmp (.var 1) [(.Eq, .cst (.str (Str.ofString "+")))])
  [.ret (.call 28 [.bin .Add (.attr (.var 0) 2) (.var 3)])]
  [], .ife (.cmp (.var 1) [(.Eq, .cst (.str (Str.ofString "-")))])
  [.ret (.blt .tuple [.comp (.var 5) none [5] false 0 [.attr (.var 0) 2] [.cmp (.var 5) [(.NotIn, .var 3)]] 4 2])]
  [], .ife (.cmp (.var 1) [(.Eq, .cst (.str (Str.ofString "=")))])
  [.ret (.var 3)]
  [], .raise 3]
noncomputable def f01_34 : Fn := ⟨3, 4, b01_34⟩
noncomputable def b01_35 : List IS := [.asg (.name 2) (.dict []), .forr (.name 3) 0 [.var 1]
  [.asg (.sub (.var 2) (.var 3)) (.cst (.bool true))], .asg (.name 4) (.comp (.var 7) none [7] false 0 [.umeth 17 (.var 0) []] [.cmp (.var 7) [(.In, .var 2)]] 6 2), .ife (.cmp (.var 4) [(.Eq, .list [])])
  [.ret (.list [])]
  [], .asg (.name 5) (.call 31 [.var 0]), .asg (.attr (.var 0) 10) (.comp (.var 7) none [7] false 0 [.attr (.var 0) 10] [.cmp (.attr (.var 7) 0) [(.NotIn, .var 2)]] 6 2), .asg (.attr (.var 0) 11) (.bin .Add (.attr (.var 0) 11) (.comp (.tup [.var 7, .var 5]) none [7] false 0 [.var 4] [] 6 2)), .ret (.var 4)]
noncomputable def f01_35 : Fn := ⟨2, 6, b01_35⟩
noncomputable def b01_36 : List IS := [.asg (.name 3) (.list []), .forr (.name 4) 0 [.comp (.umeth 16 (.var 0) [.var 7]) none [7] false 0 [.blt .sorted [.var 1]] [] 6 2]
  [.ife (.cmp (.var 4) [(.IsNot, .cst .none)])
  [.asg (.name 5) (.call 32 [.var 2, .attr (.var 4) 1, .attr (.var 4) 2, .attr (.var 4) 3]), .expr (.meth .append (.var 3) [.tup [.attr (.var 4) 0, .attr (.var 5) 0]])]
  []], .ret (.var 3)]
noncomputable def f01_36 : Fn := ⟨3, 6, b01_36⟩
noncomputable def b01_37 : List IS := [.asg (.name 3) (.call 36 [.var 0, .var 1, .var 2]), .expr (.call 35 [.var 0, .comp (.sub (.var 5) (.cst (.int 0))) none [5] false 0 [.var 3] [] 4 2]), .ret (.var 3)]
noncomputable def f01_37 : Fn := ⟨3, 4, b01_37⟩
noncomputable def b01_38 : List IS := [.asg (.name 1) (.umeth 17 (.var 0) []), .ife (.bop false [.cmp (.var 1) [(.NotEq, .blt .sorted [.var 1])], .cmp (.blt .len [.comp (.var 7) (some (.cst (.bool true))) [7] false 0 [.var 1] [] 6 2]) [(.NotEq, .blt .len [.var 1])]])
  [.ret (.cst (.bool false))]
  [], .ife (.cmp (.comp (.var 7) none [7] false 0 [.var 1] [.not (.cmp (.cst (.int 1)) [(.LtE, .var 7), (.Lt, .attr (.var 0) 7)])] 6 2) [(.NotEq, .list [])])
  [.ret (.cst (.bool false))]
  [], .asg (.name 3) (.comp (.attr (.var 7) 4) none [7] false 0 [.attr (.var 0) 10] [] 6 2), .ife (.cmp (.blt .len [.comp (.var 7) (some (.cst (.bool true))) [7] false 0 [.var 3] [] 6 2]) [(.NotEq, .blt .len [.var 3])])
  [.ret (.cst (.bool false))]
  [], .ife (.cmp (.comp (.var 7) none [7] false 0 [.var 3] [.not (.cmp (.cst (.int 1)) [(.Lt, .var 7), (.LtE, .attr (.var 0) 8)])] 6 2) [(.NotEq, .list [])])
  [.ret (.cst (.bool false))]
  [], .asg (.name 5) (.attr (.var 0) 9), .forr (.tup [.name 2, .name 4]) 0 [.attr (.var 0) 11]
  [.ife (.bop false [.not (.cmp (.cst (.int 1)) [(.LtE, .var 2), (.Lt, .attr (.var 0) 7)]), .cmp (.var 2) [(.In, .var 1)], .not (.cmp (.var 5) [(.LtE, .var 4), (.LtE, .attr (.var 0) 8)]), .cmp (.var 4) [(.LtE, .attr (.var 0) 9)]])
  [.ret (.cst (.bool false))]
  [], .asg (.name 5) (.var 4)], .ret (.cmp (.cst (.int 0)) [(.LtE, .attr (.var 0) 9), (.LtE, .attr (.var 0) 8)])]
noncomputable def f01_38 : Fn := ⟨1, 6, b01_38⟩
noncomputable def b01_39 : List IS := [.ret (.bop true [.cmp (.var 1) [(.IsNot, .cst .none)], .cmp (.attr (.var 0) 4) [(.Gt, .var 1)]])]
noncomputable def f01_39 : Fn := ⟨2, 2, b01_39⟩
noncomputable def b01_40 : List IS := [.asg (.name 5) (.comp (.sub (.attr (.var 0) 10) (.var 10)) none [10] false 0 [.comp (.call 30 [.attr (.var 0) 10, .var 10]) none [10] false 0 [.call 41 [.var 1]] [] 9 2] [.cmp (.var 10) [(.GtE, .cst (.int 0))]] 9 2), .asg (.name 7) (.comp (.attr (.var 10) 0) none [10] false 0 [.var 5] [.call 39 [.var 10, .var 4]] 9 2), .asg (.name 8) (.list []), .forr (.name 6) 0 [.var 5]
  [.ife (.bop true [.not (.call 39 [.var 6, .var 4]), .call 33 [.var 0, .attr (.var 6) 0, .call 34 [.var 6, .var 2, .var 3]]])
  [.expr (.meth .append (.var 8) [.attr (.var 6) 0])]
  []], .ret (.tup [.var 8, .var 7])]
noncomputable def f01_40 : Fn := ⟨5, 9, b01_40⟩
noncomputable def b01_41 : List IS := [.asg (.name 1) (.dict []), .forr (.name 2) 0 [.var 0]
  [.asg (.sub (.var 1) (.var 2)) (.cst (.bool true))], .ret (.blt .sorted [.blt .list [.var 1]])]
noncomputable def f01_41 : Fn := ⟨1, 3, b01_41⟩
noncomputable def b01_42 : List IS := [.ret (.meth .join (.cst (.str (Str.ofString ""))) [.comp (.ite (.cmp (.cst (.str (Str.ofString "a"))) [(.LtE, .var 2), (.LtE, .cst (.str (Str.ofString "z")))]) (.blt .chr [.bin .Sub (.blt .ord [.var 2]) (.cst (.int 32))]) (.var 2)) none [2] false 0 [.var 0] [] 1 2])]
noncomputable def f01_42 : Fn := ⟨1, 1, b01_42⟩
noncomputable def b01_43 : List IS := [.ret (.cmp (.cst (.int 55296)) [(.LtE, .var 0), (.LtE, .cst (.int 57343))])]
noncomputable def f01_43 : Fn := ⟨1, 1, b01_43⟩
noncomputable def b01_44 : List IS := [.asg (.name 1) (.meth .find (.var 0) [.cst (.str (Str.ofString "/"))]), .ife (.cmp (.var 1) [(.Lt, .cst (.int 0))])
  [.ret (.tup [.var 0, .cst (.str (Str.ofString ""))])]
  [], .ret (.tup [.slice (.var 0) none (some (.var 1)), .slice (.var 0) (some (.var 1)) none])]
noncomputable def f01_44 : Fn := ⟨1, 2, b01_44⟩
noncomputable def b01_45 : List IS := [.asg (.tup [.name 1, .name 2]) (.call 44 [.var 0]), .ife (.cmp (.call 42 [.var 1]) [(.Eq, .cst (.str (Str.ofString "INBOX")))])
  [.ret (.bin .Add (.cst (.str (Str.ofString "INBOX"))) (.var 2))]
  [], .ret (.var 0)]
noncomputable def f01_45 : Fn := ⟨1, 3, b01_45⟩
noncomputable def b01_46 : List IS := [.ret (.bop false [.cmp (.var 0) [(.Lt, .cst (.int 32))], .cmp (.cst (.int 127)) [(.LtE, .var 0), (.LtE, .cst (.int 159))], .cmp (.var 0) [(.Eq, .cst (.int 8232))], .cmp (.var 0) [(.Eq, .cst (.int 8233))], .call 43 [.var 0]])]
noncomputable def f01_46 : Fn := ⟨1, 1, b01_46⟩
noncomputable def b01_47 : List IS := [.asg (.name 1) (.cst (.int 0)), .forr (.name 2) 1 [.blt .len [.var 0]]
  [.asg (.name 3) (.sub (.var 0) (.var 2)), .ife (.cmp (.var 3) [(.Eq, .cst (.str (Str.ofString "/")))])
  [.ife (.cmp (.var 2) [(.Eq, .var 1)])
  [stuckS]
  [], .asg (.name 1) (.bin .Add (.var 2) (.cst (.int 1)))]
  [.ife (.cmp (.var 3) [(.In, .cst (.str (Str.ofString "%*")))])
  [stuckS]
  [.ife (.call 46 [.blt .ord [.var 3]])
  [stuckS]
  []]]], .ife (.cmp (.var 1) [(.Eq, .blt .len [.var 0])])
  [stuckS]
  [], .ret (.var 0)]
noncomputable def f01_47 : Fn := ⟨1, 4, b01_47⟩
noncomputable def b01_48 : List IS := [.asg (.name 1) (.call 45 [.var 0]), .tryn [.expr (.call 47 [.var 1])], .ret (.var 1)]
noncomputable def f01_48 : Fn := ⟨1, 3, b01_48⟩
noncomputable def b01_49 : List IS := [.ife (.cmp (.bin .Add (.attr (.var 0) 8) (.var 1)) [(.Gt, .cst (.int 9223372036854775807))])
  [.raise 3]
  []]
noncomputable def f01_49 : Fn := ⟨2, 2, b01_49⟩
noncomputable def b01_50 : List IS := [.expr (.call 49 [.var 0, .bin .Add (.var 1) (.cst (.int 1))]), .ife (.cmp (.bin .Sub (.bin .Add (.attr (.var 0) 7) (.var 1)) (.cst (.int 1))) [(.Gt, .cst (.int 4294967295))])
  [.raise 3]
  []]
noncomputable def f01_50 : Fn := ⟨2, 2, b01_50⟩
noncomputable def b01_51 : List IS := [.ife (.cmp (.var 1) [(.In, .attr (.var 0) 12)])
  [.raise 3]
  []]
noncomputable def f01_51 : Fn := ⟨2, 2, b01_51⟩
noncomputable def b01_52 : List IS := [.ife (.not (.cmp (.attr (.var 0) 14) [(.LtE, .var 1), (.Lt, .cst (.int 4294967295))]))
  [.raise 3]
  []]
noncomputable def f01_52 : Fn := ⟨2, 2, b01_52⟩
noncomputable def b01_53 : List IS := [.asg (.name 3) (.blt .sorted [.blt .list [.comp (.var 5) (some (.cst (.bool true))) [5] false 0 [.var 1] [] 4 2]]), .forr (.name 2) 0 [.var 3]
  [.ife (.cmp (.umeth 16 (.var 0) [.var 2]) [(.Is, .cst .none)])
  [.raise 3]
  []], .ret (.var 3)]
noncomputable def f01_53 : Fn := ⟨2, 4, b01_53⟩
noncomputable def b01_54 : List IS := [.asg (.name 3) (.call 48 [.var 1]), .expr (.call 51 [.var 0, .var 3]), .expr (.call 52 [.var 0, .var 2]), .asg (.sub (.attr (.var 0) 12) (.var 3)) (.new 1 [.var 3, .var 2]), .asg (.attr (.var 0) 14) (.bin .Add (.var 2) (.cst (.int 1))), .ret (.var 2)]
noncomputable def f01_54 : Fn := ⟨3, 4, b01_54⟩
noncomputable def b01_55 : List IS := [(.asg (.name 3) (.umeth 18 (.var 0) [(.var 1)])), (.asg (.name 4) (.call 48 [(.var 2)])), (.expr (.call 51 [(.var 0), (.var 4)])), (.ife (.cmp (.attr (.var 3) 5) [(.Eq, (.cst (.str (Str.ofString "INBOX"))))])
  [(.ret (.call 56 [(.var 0), (.var 3), (.var 4)]))]
  []), (.asg (.name 5) stuckE), (.asg (.name 7) (.comp stuckE none [10] false 0 [(.var 5)] [] 9 2)), (.forr (.tup [(.name 8), (.name 6)]) 2 [(.var 7), (.var 5)]
  [(.asg (.attr (.var 8) 5) (.sub (.var 6) (.cst (.int (1))))), (.asg (.sub (.attr (.var 0) 12) (.sub (.var 6) (.cst (.int (1))))) (.var 8))]), (.ret (.var 5))]
set_option tactic.hygienic true in
noncomputable def f01_55 : Fn := ⟨3, 9, b01_55⟩
noncomputable def b01_56 : List IS := [.expr (.call 52 [.var 0, .attr (.var 0) 14]), .expr (.call 49 [.var 1, .cst (.int 1)]), .asg (.name 3) (.new 1 [.var 2, .attr (.var 0) 14]), .asg (.sub (.attr (.var 0) 12) (.var 2)) (.var 3), .asg (.attr (.var 0) 14) (.bin .Add (.attr (.var 0) 14) (.cst (.int 1))), .expr (.call 37 [.var 1, .umeth 17 (.var 1) [], .var 3]), .ret (.list [.tup [.cst (.str (Str.ofString "INBOX")), .var 2]])]
noncomputable def f01_56 : Fn := ⟨3, 4, b01_56⟩
noncomputable def b01_57 : List IS := [.asg (.name 5) (.umeth 18 (.var 0) [.var 1]), .expr (.call 50 [.var 5, .cst (.int 1)]), .asg (.name 6) (.call 32 [.var 5, .var 4, .var 2, .var 3]), .ret (.tup [.attr (.var 5) 6, .attr (.var 6) 0])]
noncomputable def f01_57 : Fn := ⟨5, 7, b01_57⟩
noncomputable def b01_58 : List IS := [.asg (.name 4) (.umeth 18 (.var 0) [.var 1]), .expr (.call 49 [.var 4, .cst (.int 1)]), .ret (.call 33 [.var 4, .var 2, .var 3])]
noncomputable def f01_58 : Fn := ⟨4, 5, b01_58⟩
noncomputable def b01_59 : List IS := [.asg (.name 6) (.umeth 18 (.var 0) [.var 1]), .expr (.call 49 [.var 6, .blt .len [.var 2]]), .ife (.cmp (.var 3) [(.NotIn, .tup [.cst (.str (Str.ofString "+")), .cst (.str (Str.ofString "-")), .cst (.str (Str.ofString "="))])])
  [.raise 3]
  [], .ret (.call 40 [.var 6, .var 2, .var 3, .call 28 [.var 4], .ite (.cmp (.var 5) [(.Lt, .cst (.int 0))]) (.cst .none) (.var 5)])]
noncomputable def f01_59 : Fn := ⟨6, 7, b01_59⟩
noncomputable def b01_60 : List IS := [.asg (.name 3) (.umeth 18 (.var 0) [.var 1]), .expr (.call 49 [.var 3, .cst (.int 1)]), .ret (.blt .tuple [.call 35 [.var 3, .var 2]])]
noncomputable def f01_60 : Fn := ⟨3, 4, b01_60⟩
noncomputable def b01_61 : List IS := [.asg (.name 5) (.umeth 18 (.var 0) [.var 1]), .asg (.name 6) (.umeth 18 (.var 0) [.var 3]), .asg (.name 7) (.call 53 [.var 5, .var 2]), .expr (.call 49 [.var 5, .cst (.int 1)]), .expr (.call 50 [.var 6, .blt .len [.var 7]]), .asg (.name 8) (.ite (.var 4) (.call 37 [.var 5, .var 7, .var 6]) (.call 36 [.var 5, .var 7, .var 6])), .ret (.tup [.attr (.var 6) 6, .blt .tuple [.comp (.sub (.var 10) (.cst (.int 0))) none [10] false 0 [.var 8] [] 9 2], .blt .tuple [.comp (.sub (.var 10) (.cst (.int 1))) none [10] false 0 [.var 8] [] 9 2]])]
noncomputable def f01_61 : Fn := ⟨5, 9, b01_61⟩
noncomputable def b01_62 : List IS := [.ife (.bop false [.not (.blt .isTuple [.var 0]), .cmp (.blt .len [.var 0]) [(.NotEq, .cst (.int 5))], .not (.blt .isBytes [.sub (.var 0) (.cst (.int 1))]), .not (.call 7 [.sub (.var 0) (.cst (.int 2))])])
  [.ret (.cst (.bool false))]
  [], .ret (.bop true [.call 6 [.sub (.var 0) (.cst (.int 0))], .call 6 [.sub (.var 0) (.cst (.int 3))], .call 6 [.sub (.var 0) (.cst (.int 4))]])]
noncomputable def f01_62 : Fn := ⟨1, 1, b01_62⟩
noncomputable def b01_63 : List IS := [.ife (.bop false [.not (.blt .isTuple [.var 0]), .cmp (.blt .len [.var 0]) [(.NotEq, .cst (.int 7))], .not (.blt .isStr [.sub (.var 0) (.cst (.int 0))]), .not (.call 8 [.slice (.var 0) (some (.cst (.int 1))) (some (.cst (.int 5)))])])
  [.ret (.cst (.bool false))]
  [], .ife (.bop false [.not (.blt .isTuple [.sub (.var 0) (.cst (.int 5))]), .not (.blt .all [.comp (.call 62 [.var 2]) none [2] false 0 [.sub (.var 0) (.cst (.int 5))] [] 1 2])])
  [.ret (.cst (.bool false))]
  [], .ret (.bop true [.blt .isTuple [.sub (.var 0) (.cst (.int 6))], .blt .all [.comp (.bop true [.call 8 [.var 2], .cmp (.blt .len [.var 2]) [(.Eq, .cst (.int 2))]]) none [2] false 0 [.sub (.var 0) (.cst (.int 6))] [] 1 2]])]
noncomputable def f01_63 : Fn := ⟨1, 1, b01_63⟩
noncomputable def b01_64 : List IS := [.ife (.bop false [.cmp (.call 48 [.attr (.var 0) 5]) [(.NotEq, .attr (.var 0) 5)], .not (.cmp (.cst (.int 1)) [(.LtE, .attr (.var 0) 6), (.Lt, .var 1)]), .not (.call 38 [.var 0])])
  [.raise 3]
  [], .forr (.name 2) 0 [.attr (.var 0) 10]
  [.ife (.cmp (.call 28 [.attr (.var 2) 2]) [(.NotEq, .attr (.var 2) 2)])
  [.raise 3]
  []], .ife (.bop false [.cmp (.attr (.var 0) 7) [(.Gt, .bin .Add (.cst (.int 4294967295)) (.cst (.int 1)))], .cmp (.attr (.var 0) 8) [(.Gt, .cst (.int 9223372036854775807))]])
  [.raise 3]
  []]
noncomputable def f01_64 : Fn := ⟨2, 3, b01_64⟩
noncomputable def b01_65 : List IS := [.asg (.name 4) (.dict []), .asg (.name 5) (.dict []), .forr (.name 6) 0 [.var 3]
  [.ife (.not (.call 63 [.var 6]))
  [.raise 3]
  [], .asg (.name 7) (.call 29 [.var 6]), .expr (.call 64 [.var 7, .var 1]), .ife (.bop false [.cmp (.attr (.var 7) 5) [(.In, .var 4)], .cmp (.attr (.var 7) 6) [(.In, .var 5)]])
  [.raise 3]
  [], .asg (.sub (.var 4) (.attr (.var 7) 5)) (.var 7), .asg (.sub (.var 5) (.attr (.var 7) 6)) (.cst (.bool true))], .ife (.bop false [.cmp (.cst (.str (Str.ofString "INBOX"))) [(.NotIn, .var 4)], .not (.cmp (.attr (.var 0) 14) [(.LtE, .var 1), (.LtE, .cst (.int 4294967295))])])
  [.raise 3]
  [], .asg (.name 8) (.blt .sorted [.blt .list [.comp (.call 48 [.var 10]) (some (.cst (.bool true))) [10] false 0 [.var 2] [] 9 2]]), .ife (.cmp (.var 8) [(.NotEq, .blt .list [.var 2])])
  [.raise 3]
  [], .asg (.attr (.var 0) 12) (.var 4), .asg (.attr (.var 0) 13) (.var 8), .asg (.attr (.var 0) 14) (.var 1), .ret (.blt .len [.var 4])]
noncomputable def f01_65 : Fn := ⟨4, 9, b01_65⟩
noncomputable def b01_66 : List IS := [.asg (.name 1) (.call 0 [.var 0]), .asg (.name 2) (.new 2 []), .ife (.cmp (.call 11 [.var 2, .call 2 [.var 1]]) [(.NotEq, .cst (.int 2))])
  [.ret (.cst (.bool false))]
  [], .forr (.name 3) 1 [.cst (.int 5)]
  [.asg (.name 4) (.umeth 15 (.var 2) []), .asg (.name 5) (.call 5 [.var 1, .var 4, .var 3]), .tryx 6 (.call 11 [.var 2, .var 5]) [.asg (.name 7) (.cst (.bool true))] 3 7 (.bool false), .ife (.cmp (.var 7) [(.Eq, .call 17 [.var 4, .var 5])])
  [.ret (.cst (.bool false))]
  [], .ife (.bop true [.not (.var 7), .cmp (.umeth 15 (.var 2) []) [(.NotEq, .var 4)]])
  [.ret (.cst (.bool false))]
  [], .ife (.bop true [.var 7, .cmp (.call 19 [.var 4, .var 5]) [(.IsNot, .cst .none)], .cmp (.var 6) [(.NotEq, .call 19 [.var 4, .var 5])]])
  [.ret (.cst (.bool false))]
  [], .ife (.not (.call 18 [.umeth 15 (.var 2) []]))
  [.ret (.cst (.bool false))]
  []], .ret (.cst (.bool true))]
noncomputable def f01_66 : Fn := ⟨1, 8, b01_66⟩
noncomputable def fns01 : List Fn := [f01_0, f01_1, f01_2, f01_3, f01_4, f01_5, f01_6, f01_7, f01_8, f01_9, f01_10, f01_11, f01_12, f01_13, f01_14, f01_15, f01_16, f01_17, f01_18, f01_19, f01_20, f01_21, f01_22, f01_23, f01_24, f01_25, f01_26, f01_27, f01_28, f01_29, f01_30, f01_31, f01_32, f01_33, f01_34, f01_35, f01_36, f01_37, f01_38, f01_39, f01_40, f01_41, f01_42, f01_43, f01_44, f01_45, f01_46, f01_47, f01_48, f01_49, f01_50, f01_51, f01_52, f01_53, f01_54, f01_55, f01_56, f01_57, f01_58, f01_59, f01_60, f01_61, f01_62, f01_63, f01_64, f01_65]
noncomputable def me01 : List ((Nat × Nat) × Nat) := [((0, 15), 24), ((1, 15), 16), ((1, 16), 21), ((1, 17), 22), ((2, 15), 13), ((2, 18), 20), ((2, 19), 14)]
noncomputable def ini01 : List (Nat × Nat) := [(0, 23), (1, 15), (2, 12)]
end Mine
namespace Mine
open PySem PySem.W PyProof.Rows
noncomputable section
noncomputable def st01 (i : Nat) : Stmt := PySem.Challenge.pw_nz0321_01.main.body.getD i default
noncomputable def inCls (s : Stmt) (j : Nat) : Stmt := match s with
 | .ClassDef _ _ _ b _ _ _ _ _ _ _ => b.getD j default
 | _ => default
noncomputable def fnPs (s : Stmt) : Arguments := match s with
 | .FunctionDef _ p _ _ _ _ _ _ _ _ => p
 | _ => default
noncomputable def fnBd (s : Stmt) : List Stmt := match s with
 | .FunctionDef _ _ b _ _ _ _ _ _ _ => b
 | _ => default
noncomputable def fnSc (s : Stmt) : Scope := match s with
 | .FunctionDef _ _ _ _ _ _ c _ _ _ => c
 | _ => default
noncomputable def fnNm (s : Stmt) : Str := match s with
 | .FunctionDef n _ _ _ _ _ _ _ _ _ => n
 | _ => default
noncomputable def fnLn (s : Stmt) : Nat := match s with
 | .FunctionDef _ _ _ _ _ _ _ _ _ q => q.line
 | _ => 0
noncomputable def vT (x : String) (n : Nat) : Value := .str (Str.ofString x) n
noncomputable def stAt (i j : Nat) : Stmt := match j with
 | 0 => st01 i
 | j + 1 => inCls (st01 i) j
noncomputable def cdO (pre : Str) (s : Stmt) (ad a : Nat) (e : Option Nat) : Obj := ⟨.type "code", none, .fields #[.str (fnNm s) a, .str (pre ++ fnNm s) (a + 1), vT "/claim/cut.py" (a + 2), .int (fnLn s) 0, .int (fnPs s).args.length 0, .int 0 0, .int 0 0, .int 3 0, .ref (match e with
  | some _ => ad - 5
  | none => ad - 3), .bool true, .int 181 0, .ref (match e with
  | some _ => ad - 4
  | none => ad - 2), .none, (match e with
  | some _ => .ref (ad - 3)
  | none => .none), (match e with
  | some _ => .ref (ad - 2)
  | none => .none), .ref (ad - 1), .int (e.getD (a + 3) : Nat) 0, .int (fnLn s) 0, vT "/claim/cut.py" (e.getD (a + 3) + 1)], #[]⟩
noncomputable def fnO (pre : Str) (m : Value) (s : Stmt) (ad : Nat) : Obj := ⟨.type "function", none, .func ⟨fnNm s, pre ++ fnNm s, fnPs s, .stmts (fnBd s), fnSc s, 3, [], (if ad = 28 then .ref 22 else if ad = 237 then .ref 233 else .none), .none, .none, m, none, .ref ad, .none, 0⟩, #[]⟩
noncomputable def pr (pre : Str) (m : Value) (i j ad a e : Nat) (r : W.Frag) : W.Frag := (ad, cdO pre (stAt i j) ad a (match e with
 | 0 => none
 | e + 1 => some (a + e))) :: (ad + 1, fnO pre m (stAt i j) ad) :: r
noncomputable def oc (a : Addr) (o : Obj) (r : W.Frag) : W.Frag := (a, o) :: r
noncomputable def de (P : Params) (x : String) (n : Nat) (v : Value) : DictEntry := ⟨PyData.keyHash P (Str.ofString x), vT x n, v⟩
noncomputable def m0 : Value := vT "postkeep.errors" 187
noncomputable def m1 : Value := vT "postkeep.boxes" 261
noncomputable def m2 : Value := vT "postkeep.changes" 488
noncomputable def m3 : Value := vT "postkeep.octets" 519
noncomputable def m4 : Value := vT "postkeep.names" 527
noncomputable def m5 : Value := vT "postkeep.store" 584
noncomputable def m6 : Value := vT "law_nz0321_01" 892
noncomputable def p0 : Str := Str.ofString ""
noncomputable def pBox : Str := Str.ofString "Box."
noncomputable def pLetter : Str := Str.ofString "Letter."
noncomputable def pPostError : Str := Str.ofString "PostError."
noncomputable def pStore : Str := Str.ofString "Store."
noncomputable def K01 (P : Params) : W.Frag :=
 oc 3 (Obj.mk (Value.type "dict") none (Data.dict #[de P "__name__" 165 (vT "law_nz0321_01" 892), de P "__doc__" 166 Value.none, de P "__package__" 167 Value.none, de P "__loader__" 168 (Value.builtin "__main__.__loader__#opaque"), de P "__spec__" 169 Value.none, de P "__annotations__" 170 (Value.ref 6), de P "__builtins__" 171 (Value.ref 4), de P "__file__" 173 (vT "/claim/cut.py" 172), de P "__cached__" 174 Value.none, de P "PostError" 228 (Value.ref 39), de P "NameFault" 244 (Value.ref 52), de P "StoreFault" 260 (Value.ref 64), de P "SYSTEM" 264 (vT "\\Seen \\Answered \\Flagged \\Deleted \\Draft" 263), de P "NO_KEYWORD" 266 (Value.str (Str.ofString "(){ %*\"\\]") 265), de P "MOST_KEYWORD" 268 (Value.int 60 267), de P "system_flags" 274 (Value.ref 73), de P "is_keyword" 282 (Value.ref 80), de P "flag_name" 290 (Value.ref 87), de P "flag_tuple" 300 (Value.ref 94), de P "Letter" 352 (Value.ref 125), de P "Box" 409 (Value.ref 163), de P "remade" 415 (Value.ref 172), de P "place_of" 426 (Value.ref 179), de P "raised" 433 (Value.ref 186), de P "add_letter" 445 (Value.ref 193), de P "set_flags" 457 (Value.ref 200), de P "flags_after" 463 (Value.ref 205), de P "expunge" 469 (Value.ref 210), de P "copy_letters" 475 (Value.ref 215), de P "move_letters" 481 (Value.ref 220), de P "is_sound" 487 (Value.ref 225), de P "is_refused" 497 (Value.ref 232), de P "store_flags" 503 (Value.ref 238), de P "distinct" 512 (Value.ref 245), de P "forget_gone" 518 (Value.ref 250), de P "upper_text" 526 (Value.ref 255), de P "DELIMITER" 530 (vT "/" 529), de P "INBOX_names" 532 (vT "INBOX" 531), de P "WILD_SIGNS" 534 (vT "%*" 533), de P "is_half" 541 (Value.ref 262), de P "first_part" 549 (Value.ref 269), de P "normal_name" 558 (Value.ref 276), de P "is_barred_code" 565 (Value.ref 283), de P "check_name" 575 (Value.ref 290), de P "is_below" 583 (Value.ref 297), de P "INBOX_store" 587 (vT "INBOX" 586), de P "MOST" 589 (Value.int 4294967295 588), de P "MOST_MODSEQ" 591 (Value.int 9223372036854775807 590), de P "SHAPES" 593 (vT "create:tn delete:t rename:tt append:tfno flags:tnf store:tutfn expunge:tu copy:tut move:tut subscribe:t unsubscribe:t forget:tn snapshot:nfr" 592), de P "Store" 653 (Value.ref 340), de P "is_number" 660 (Value.ref 351), de P "are_texts" 666 (Value.ref 356), de P "are_numbers" 672 (Value.ref 361), de P "fits_shape" 680 (Value.ref 368), de P "check_row" 692 (Value.ref 375), de P "settled_name" 701 (Value.ref 382), de P "need_modseqs" 709 (Value.ref 389), de P "need_room" 717 (Value.ref 396), de P "need_new" 725 (Value.ref 403), de P "need_validity" 733 (Value.ref 410), de P "need_uids" 739 (Value.ref 415), de P "create_box" 749 (Value.ref 422), de P "delete_box" 758 (Value.ref 429), de P "renamed_pairs" 770 (Value.ref 436), de P "rename_box" 776 (Value.ref 441), de P "rename_inbox" 786 (Value.ref 448), de P "append_letter" 799 (Value.ref 455), de P "flag_letter" 810 (Value.ref 462), de P "store_letters" 823 (Value.ref 469), de P "expunge_letters" 833 (Value.ref 476), de P "copy_or_move" 839 (Value.ref 481), de P "subscribe_name" 848 (Value.ref 488), de P "unsubscribe_name" 854 (Value.ref 493), de P "is_letter_told" 861 (Value.ref 500), de P "is_box_told" 867 (Value.ref 505), de P "need_sound" 876 (Value.ref 512), de P "restore" 882 (Value.ref 517), de P "apply" 891 (Value.ref 524), de P "_law_box" 899 (Value.ref 529), de P "_law_draw" 909 (Value.ref 536), de P "_law_LAST_UID" 911 (Value.int 4294967295 910), de P "_law_LAST_MODSEQ" 913 (Value.int 9223372036854775807 912), de P "_law_start" 926 (Value.ref 543), de P "_law_row_of" 935 (Value.ref 550), de P "_law_some" 943 (Value.ref 557), de P "_law_deed" 949 (Value.ref 562), de P "_law_is_wanting" 959 (Value.ref 569), de P "_law_is_within" 965 (Value.ref 574), de P "_law_given" 971 (Value.ref 579), de P "law" 985 (Value.ref 586)] 90) #[]) <|
 oc 22 (Obj.mk (Value.type "tuple") none (Data.seq #[Value.int (-1) 202]) #[]) <|
 pr pPostError m0 1 1 28 203 7 <|
 oc 38 (Obj.mk (Value.type "dict") none (Data.dict #[de P "__module__" 196 (vT "postkeep.errors" 187), de P "__firstlineno__" 200 (Value.int 2 199), de P "__init__" 211 (Value.ref 29), de P "told" 218 (Value.ref 36), de P "__static_attributes__" 221 (Value.ref 37), de P "__weakref__" 223 (Value.ref 40), de P "__doc__" 224 Value.none] 3) #[]) <|
 oc 39 (Obj.mk (Value.type "type") none (Data.cls (ClassData.mk (Str.ofString "PostError") [Value.type "Exception"] [Value.ref 39, Value.type "Exception", Value.type "BaseException", Value.type "object"] 38 (Str.ofString "PostError") true [] [Value.ref 52, Value.ref 64] false none false)) #[some (Value.ref 15), none, some (vT "PostError" 189), some (vT "PostError" 197), some (Value.builtin "Exception.__new__"), some (Value.bool true)]) <|
 oc 63 (Obj.mk (Value.type "dict") none (Data.dict #[de P "__module__" 252 (vT "postkeep.errors" 187), de P "__firstlineno__" 256 (Value.int 13 255), de P "__static_attributes__" 257 (Value.ref 62), de P "__doc__" 258 Value.none] 2) #[]) <|
 oc 64 (Obj.mk (Value.type "type") none (Data.cls (ClassData.mk (Str.ofString "StoreFault") [Value.ref 39] [Value.ref 64, Value.ref 39, Value.type "Exception", Value.type "BaseException", Value.type "object"] 63 (Str.ofString "StoreFault") true [] [] false none false)) #[some (Value.ref 55), none, some (vT "StoreFault" 245), some (vT "StoreFault" 253), some (Value.builtin "Exception.__new__"), some (Value.bool true)]) <|
 pr p0 m1 8 0 72 269 4 <|
 pr p0 m1 9 0 79 275 6 <|
 pr p0 m1 10 0 86 283 6 <|
 pr p0 m1 11 0 93 291 8 <|
 pr pLetter m1 12 1 107 313 10 <|
 pr pLetter m1 12 3 121 333 5 <|
 oc 124 (Obj.mk (Value.type "dict") none (Data.dict #[de P "__module__" 308 (vT "postkeep.boxes" 261), de P "__firstlineno__" 312 (Value.int 42 311), de P "__init__" 324 (Value.ref 108), de P "has" 332 (Value.ref 115), de P "told" 339 (Value.ref 122), de P "__static_attributes__" 345 (Value.ref 123), de P "__dict__" 347 (Value.ref 126), de P "__weakref__" 349 (Value.ref 127), de P "__doc__" 350 Value.none] 4) #[]) <|
 oc 125 (Obj.mk (Value.type "type") none (Data.cls (ClassData.mk (Str.ofString "Letter") [Value.type "object"] [Value.ref 125, Value.type "object"] 124 (Str.ofString "Letter") true [] [] false none false)) #[none, none, some (vT "Letter" 301), some (vT "Letter" 309), some (Value.builtin "object.__new__"), some (Value.bool true)]) <|
 pr pBox m1 13 1 142 365 7 <|
 pr pBox m1 13 2 149 374 7 <|
 pr pBox m1 13 3 154 383 0 <|
 pr pBox m1 13 4 159 389 0 <|
 oc 162 (Obj.mk (Value.type "dict") none (Data.dict #[de P "__module__" 360 (vT "postkeep.boxes" 261), de P "__firstlineno__" 364 (Value.int 56 363), de P "__init__" 373 (Value.ref 143), de P "letter" 382 (Value.ref 150), de P "uids" 388 (Value.ref 155), de P "told" 394 (Value.ref 160), de P "__static_attributes__" 402 (Value.ref 161), de P "__dict__" 404 (Value.ref 164), de P "__weakref__" 406 (Value.ref 165), de P "__doc__" 407 Value.none] 4) #[]) <|
 oc 163 (Obj.mk (Value.type "type") none (Data.cls (ClassData.mk (Str.ofString "Box") [Value.type "object"] [Value.ref 163, Value.type "object"] 162 (Str.ofString "Box") true [] [] false none false)) #[none, none, some (vT "Box" 353), some (vT "Box" 361), some (Value.builtin "object.__new__"), some (Value.bool true)]) <|
 pr p0 m1 14 0 171 410 0 <|
 pr p0 m1 15 0 178 416 9 <|
 pr p0 m1 16 0 185 427 5 <|
 pr p0 m1 17 0 192 434 10 <|
 pr p0 m1 18 0 199 446 10 <|
 pr p0 m1 19 0 204 458 0 <|
 pr p0 m1 20 0 209 464 0 <|
 pr p0 m1 21 0 214 470 0 <|
 pr p0 m1 22 0 219 476 0 <|
 pr p0 m1 23 0 224 482 0 <|
 pr p0 m2 25 0 231 490 6 <|
 oc 233 (Obj.mk (Value.type "tuple") none (Data.seq #[Value.none]) #[]) <|
 pr p0 m2 26 0 237 498 0 <|
 pr p0 m2 27 0 244 504 7 <|
 pr p0 m3 30 0 254 521 0 <|
 pr p0 m4 35 0 261 535 5 <|
 pr p0 m4 36 0 268 542 6 <|
 pr p0 m4 37 0 275 550 7 <|
 pr p0 m4 38 0 282 559 5 <|
 pr p0 m4 39 0 289 566 8 <|
 pr pStore m5 46 1 310 606 5 <|
 pr pStore m5 46 3 324 621 7 <|
 pr pStore m5 46 4 331 630 5 <|
 pr pStore m5 46 5 336 637 0 <|
 oc 339 (Obj.mk (Value.type "dict") none (Data.dict #[de P "__module__" 601 (vT "postkeep.store" 584), de P "__firstlineno__" 605 (Value.int 229 604), de P "__init__" 612 (Value.ref 311), de P "has" 620 (Value.ref 318), de P "box" 629 (Value.ref 325), de P "names" 636 (Value.ref 332), de P "told" 642 (Value.ref 337), de P "__static_attributes__" 646 (Value.ref 338), de P "__dict__" 648 (Value.ref 341), de P "__weakref__" 650 (Value.ref 342), de P "__doc__" 651 Value.none] 4) #[]) <|
 oc 340 (Obj.mk (Value.type "type") none (Data.cls (ClassData.mk (Str.ofString "Store") [Value.type "object"] [Value.ref 340, Value.type "object"] 339 (Str.ofString "Store") true [] [] false none false)) #[none, none, some (vT "Store" 594), some (vT "Store" 602), some (Value.builtin "object.__new__"), some (Value.bool true)]) <|
 pr p0 m5 47 0 350 654 5 <|
 pr p0 m5 48 0 355 661 0 <|
 pr p0 m5 49 0 360 667 0 <|
 pr p0 m5 50 0 367 673 6 <|
 pr p0 m5 51 0 374 681 10 <|
 pr p0 m5 52 0 381 693 7 <|
 pr p0 m5 53 0 388 702 6 <|
 pr p0 m5 54 0 395 710 6 <|
 pr p0 m5 55 0 402 718 6 <|
 pr p0 m5 56 0 409 726 6 <|
 pr p0 m5 57 0 414 734 0 <|
 pr p0 m5 58 0 421 740 8 <|
 pr p0 m5 61 0 440 771 0 <|
 pr p0 m5 62 0 447 777 8 <|
 pr p0 m5 63 0 454 787 11 <|
 pr p0 m5 64 0 461 800 9 <|
 pr p0 m5 65 0 468 811 11 <|
 pr p0 m5 66 0 475 824 8 <|
 pr p0 m5 67 0 480 834 0 <|
 pr p0 m5 70 0 499 855 5 <|
 pr p0 m5 71 0 504 862 0 <|
 pr p0 m5 72 0 511 868 7 <|
 pr p0 m5 73 0 516 877 0 <|
 pr p0 m5 74 0 523 883 7 <|
 pr p0 m6 76 0 528 894 0 <|
 pr p0 m6 77 0 535 900 8 <|
 pr p0 m6 80 0 542 914 11 <|
 pr p0 m6 81 0 549 927 7 <|
 pr p0 m6 82 0 556 936 6 <|
 pr p0 m6 83 0 561 944 0 <|
 pr p0 m6 84 0 568 950 8 <|
 pr p0 m6 85 0 573 960 0 <|
 pr p0 m6 86 0 578 966 0 <|
 pr p0 m6 87 0 585 972 12 <|
 []
noncomputable def as01 : List Addr := [3, 22, 28, 29, 38, 39, 63, 64, 72, 73, 79, 80, 86, 87, 93, 94, 107, 108, 121, 122, 124, 125, 142, 143, 149, 150, 154, 155, 159, 160, 162, 163, 171, 172, 178, 179, 185, 186, 192, 193, 199, 200, 204, 205, 209, 210, 214, 215, 219, 220, 224, 225, 231, 232, 233, 237, 238, 244, 245, 254, 255, 261, 262, 268, 269, 275, 276, 282, 283, 289, 290, 310, 311, 324, 325, 331, 332, 336, 337, 339, 340, 350, 351, 355, 356, 360, 361, 367, 368, 374, 375, 381, 382, 388, 389, 395, 396, 402, 403, 409, 410, 414, 415, 421, 422, 440, 441, 447, 448, 454, 455, 461, 462, 468, 469, 475, 476, 480, 481, 499, 500, 504, 505, 511, 512, 516, 517, 523, 524, 528, 529, 535, 536, 542, 543, 549, 550, 556, 557, 561, 562, 568, 569, 573, 574, 578, 579, 585, 586]
theorem as01_ok : ∀ P, as01 = (K01 P).map (·.1) := fun _ => by kernel_rfl
noncomputable def H01 : Hook := kmHook K01 as01 as01_ok []
noncomputable def KR : Program := { PySem.Challenge.pw_nz0321_01 with main := { PySem.Challenge.pw_nz0321_01.main with body := [st01 87] } }
noncomputable def loose01 : List Str := [Str.ofString "PostError", Str.ofString "NameFault", Str.ofString "StoreFault", Str.ofString "SYSTEM", Str.ofString "NO_KEYWORD", Str.ofString "MOST_KEYWORD", Str.ofString "system_flags", Str.ofString "is_keyword", Str.ofString "flag_name", Str.ofString "flag_tuple", Str.ofString "Letter", Str.ofString "Box", Str.ofString "remade", Str.ofString "place_of", Str.ofString "raised", Str.ofString "add_letter", Str.ofString "set_flags", Str.ofString "flags_after", Str.ofString "expunge", Str.ofString "copy_letters", Str.ofString "move_letters", Str.ofString "is_sound", Str.ofString "is_refused", Str.ofString "store_flags", Str.ofString "distinct", Str.ofString "forget_gone", Str.ofString "upper_text", Str.ofString "DELIMITER", Str.ofString "INBOX_names", Str.ofString "WILD_SIGNS", Str.ofString "is_half", Str.ofString "first_part", Str.ofString "normal_name", Str.ofString "is_barred_code", Str.ofString "check_name", Str.ofString "is_below", Str.ofString "INBOX_store", Str.ofString "MOST", Str.ofString "MOST_MODSEQ", Str.ofString "SHAPES", Str.ofString "Store", Str.ofString "is_number", Str.ofString "are_texts", Str.ofString "are_numbers", Str.ofString "fits_shape", Str.ofString "check_row", Str.ofString "settled_name", Str.ofString "need_modseqs", Str.ofString "need_room", Str.ofString "need_new", Str.ofString "need_validity", Str.ofString "need_uids", Str.ofString "create_box", Str.ofString "delete_box", Str.ofString "renamed_pairs", Str.ofString "rename_box", Str.ofString "rename_inbox", Str.ofString "append_letter", Str.ofString "flag_letter", Str.ofString "store_letters", Str.ofString "expunge_letters", Str.ofString "copy_or_move", Str.ofString "subscribe_name", Str.ofString "unsubscribe_name", Str.ofString "is_letter_told", Str.ofString "is_box_told", Str.ofString "need_sound", Str.ofString "restore", Str.ofString "apply", Str.ofString "_law_box", Str.ofString "_law_draw", Str.ofString "_law_LAST_UID", Str.ofString "_law_LAST_MODSEQ", Str.ofString "_law_start", Str.ofString "_law_row_of", Str.ofString "_law_some", Str.ofString "_law_deed", Str.ofString "_law_is_wanting", Str.ofString "_law_is_within", Str.ofString "_law_given"]
theorem left01 : LeftO PySem.Challenge.rw_nz0321_01.row.toRowW.prog KR loose01 (fun s => xlAt KR [] s && recOk PySem.Challenge.rw_nz0321_01.row.toRowW.records s) H01.obs H01.val 7502 := fun w => by
 unfold openEnds fencedOpening topFrom
 rw [PySem.W.Fast.te14364793385576792824, PySem.W.Fast.te10274390034422433532, PySem.W.Fast.te14082659384304107361, PySem.W.Fast.te4187177175401517315, PySem.W.Fast.te8920871248978507458, PySem.W.Fast.te1435165496053646825, PySem.W.Fast.te14289696077712309145, PySem.W.Fast.te5923862056798008813]
 kernel_rfl
end
end Mine
namespace Mine
open PySem PySem.W PyProof.Rows PySem.SeqAt
noncomputable def attrsL : List Str := ["uid", "octets", "flags", "instant", "modseq", "name", "validity", "next_uid", "top", "floor", "letters", "gone", "boxes", "subscribed", "next_validity", "told", "letter", "uids", "box", "names", "has"]
noncomputable def Ko : Dat := ⟨attrsL, [125, 163, 340, 64], [529, 536, 543, 550, 557, 562, 351, 356, 361, 375, 368, 524, 311, 337, 332, 143, 160, 569, 574, 579, 325, 150, 155, 108, 122, 73, 80, 87, 94, 172, 179, 186, 193, 200, 205, 210, 215, 220, 225, 232, 238, 245, 255, 262, 269, 276, 283, 290, 382, 389, 396, 403, 410, 415, 422, 441, 448, 455, 462, 469, 476, 481, 500, 505, 512, 517, 586]⟩
set_option tactic.hygienic true in
noncomputable def sy01 : SY := { glob := [(Str.ofString "_law_box", .fn 0),
 (Str.ofString "_law_draw", .fn 1),
 (Str.ofString "_law_start", .fn 2),
 (Str.ofString "_law_row_of", .fn 3),
 (Str.ofString "_law_some", .fn 4),
 (Str.ofString "_law_deed", .fn 5),
 (Str.ofString "is_number", .fn 6),
 (Str.ofString "are_texts", .fn 7),
 (Str.ofString "are_numbers", .fn 8),
 (Str.ofString "check_row", .fn 9),
 (Str.ofString "fits_shape", .fn 10),
 (Str.ofString "apply", .fn 11),
 (Str.ofString "_law_is_wanting", .fn 17),
 (Str.ofString "_law_is_within", .fn 18),
 (Str.ofString "_law_given", .fn 19),
 (Str.ofString "system_flags", .fn 25),
 (Str.ofString "is_keyword", .fn 26),
 (Str.ofString "flag_name", .fn 27),
 (Str.ofString "flag_tuple", .fn 28),
 (Str.ofString "remade", .fn 29),
 (Str.ofString "place_of", .fn 30),
 (Str.ofString "raised", .fn 31),
 (Str.ofString "add_letter", .fn 32),
 (Str.ofString "set_flags", .fn 33),
 (Str.ofString "flags_after", .fn 34),
 (Str.ofString "expunge", .fn 35),
 (Str.ofString "copy_letters", .fn 36),
 (Str.ofString "move_letters", .fn 37),
 (Str.ofString "is_sound", .fn 38),
 (Str.ofString "is_refused", .fn 39),
 (Str.ofString "store_flags", .fn 40),
 (Str.ofString "distinct", .fn 41),
 (Str.ofString "upper_text", .fn 42),
 (Str.ofString "is_half", .fn 43),
 (Str.ofString "first_part", .fn 44),
 (Str.ofString "normal_name", .fn 45),
 (Str.ofString "is_barred_code", .fn 46),
 (Str.ofString "check_name", .fn 47),
 (Str.ofString "settled_name", .fn 48),
 (Str.ofString "need_modseqs", .fn 49),
 (Str.ofString "need_room", .fn 50),
 (Str.ofString "need_new", .fn 51),
 (Str.ofString "need_validity", .fn 52),
 (Str.ofString "need_uids", .fn 53),
 (Str.ofString "create_box", .fn 54),
 (Str.ofString "rename_box", .fn 55),
 (Str.ofString "rename_inbox", .fn 56),
 (Str.ofString "append_letter", .fn 57),
 (Str.ofString "flag_letter", .fn 58),
 (Str.ofString "store_letters", .fn 59),
 (Str.ofString "expunge_letters", .fn 60),
 (Str.ofString "copy_or_move", .fn 61),
 (Str.ofString "is_letter_told", .fn 62),
 (Str.ofString "is_box_told", .fn 63),
 (Str.ofString "need_sound", .fn 64),
 (Str.ofString "restore", .fn 65),
 (Str.ofString "law", .fn 66),
 (Str.ofString "Letter", .cls 0),
 (Str.ofString "Box", .cls 1),
 (Str.ofString "Store", .cls 2),
 (Str.ofString "StoreFault", .cls 3),
 (Str.ofString "SYSTEM", .cst (.str (Str.ofString "\\Seen \\Answered \\Flagged \\Deleted \\Draft"))),
 (Str.ofString "NO_KEYWORD", .cst (.str (Str.ofString "(){ %*\"\\]"))),
 (Str.ofString "MOST_KEYWORD", .cst (.int 60)),
 (Str.ofString "DELIMITER", .cst (.str (Str.ofString "/"))),
 (Str.ofString "INBOX_names", .cst (.str (Str.ofString "INBOX"))),
 (Str.ofString "WILD_SIGNS", .cst (.str (Str.ofString "%*"))),
 (Str.ofString "INBOX_store", .cst (.str (Str.ofString "INBOX"))),
 (Str.ofString "MOST", .cst (.int 4294967295)),
 (Str.ofString "MOST_MODSEQ", .cst (.int 9223372036854775807)),
 (Str.ofString "SHAPES", .cst (.str (Str.ofString "create:tn delete:t rename:tt append:tfno flags:tnf store:tutfn expunge:tu copy:tut move:tut subscribe:t unsubscribe:t forget:tn snapshot:nfr"))),
 (Str.ofString "_law_LAST_UID", .cst (.int 4294967295)),
 (Str.ofString "_law_LAST_MODSEQ", .cst (.int 9223372036854775807))], bnames := ["len", "sorted", "list", "tuple", "all", "any", "ord", "chr", "str", "abs", "int", "isinstance", "bool", "bytes", "range", "zip"], attrs := attrsL, excs := [3] }
theorem dat01_ok : Zm Ko = true := by decide +kernel
theorem frag01_ok (p : Params) : fragChk (K01 p) = true := by kernel_rfl
theorem Gz (p : Params) : UX (K01 p) Ko = true := by kernel_rfl
theorem KZ (p : Params) : UO (K01 p) Ko = true := by kernel_rfl
theorem sx01_ok (p : Params) : sxChk (K01 p) Ko sy01.toSX = true := by kernel_rfl
theorem me01_ok (p : Params) : meChk (K01 p) Ko me01 = true := by kernel_rfl
theorem ini01_ok (p : Params) : iniChk (K01 p) Ko ini01 = true := by kernel_rfl
abbrev FC (p : Params) (a : Addr) (ps : List Str) (b : List IS) : Prop :=
 GC (K01 p) a ps = true /\ (∀ us : List Value, us.length = ps.length -> ∀ S : Setting, (fdAt (K01 p) a).map (fun fd => peek (K01 p) S (bindArgs fd ⟨us, []⟩)) = some (some (List.zip ps us))) /\
  (fdAt (K01 p) a).map (fun fd => (Zu fd.body).map (cS sy01 30 (fnSC fd.scope.names none) 30)) = some b
section
variable {p : Params} {a : Addr} {b : List IS} {n0 n1 n2 n3 n4 n5 : Str}
abbrev FB (p : Params) (a : Addr) (ps : List Str) (us : List Value) (S : Setting) : Prop := (fdAt (K01 p) a).map (fun fd => peek (K01 p) S (bindArgs fd ⟨us, []⟩)) = some (some (List.zip ps us))
abbrev FZ (p : Params) (a : Addr) (b : List IS) : Prop := (fdAt (K01 p) a).map (fun fd => (Zu fd.body).map (cS sy01 30 (fnSC fd.scope.names none) 30)) = some b
theorem FC0 (h1 : GC (K01 p) a [] = true) (h2 : ∀ S, FB p a [] [] S) (h3 : FZ p a b) : FC p a [] b := ⟨h1, fun us hu S => by rw [List.eq_nil_of_length_eq_zero hu]; exact h2 S, h3⟩
theorem FC1 (h1 : GC (K01 p) a [n0] = true) (h2 : ∀ u0 S, FB p a [n0] [u0] S) (h3 : FZ p a b) : FC p a [n0] b := ⟨h1, fun us hu S => by obtain ⟨u0, rfl⟩ := len1 hu; exact h2 u0 S, h3⟩
theorem FC2 (h1 : GC (K01 p) a [n0, n1] = true) (h2 : ∀ u0 u1 S, FB p a [n0, n1] [u0, u1] S) (h3 : FZ p a b) : FC p a [n0, n1] b := ⟨h1, fun us hu S => by obtain ⟨u0, u1, rfl⟩ := len2 hu; exact h2 u0 u1 S, h3⟩
theorem FC3 (h1 : GC (K01 p) a [n0, n1, n2] = true) (h2 : ∀ u0 u1 u2 S, FB p a [n0, n1, n2] [u0, u1, u2] S) (h3 : FZ p a b) : FC p a [n0, n1, n2] b := ⟨h1, fun us hu S => by obtain ⟨u0, u1, u2, rfl⟩ := len3 hu; exact h2 u0 u1 u2 S, h3⟩
theorem FC4 (h1 : GC (K01 p) a [n0, n1, n2, n3] = true) (h2 : ∀ u0 u1 u2 u3 S, FB p a [n0, n1, n2, n3] [u0, u1, u2, u3] S) (h3 : FZ p a b) : FC p a [n0, n1, n2, n3] b := ⟨h1, fun us hu S => by obtain ⟨u0, u1, u2, u3, rfl⟩ := len4 hu; exact h2 u0 u1 u2 u3 S, h3⟩
theorem FC5 (h1 : GC (K01 p) a [n0, n1, n2, n3, n4] = true) (h2 : ∀ u0 u1 u2 u3 u4 S, FB p a [n0, n1, n2, n3, n4] [u0, u1, u2, u3, u4] S) (h3 : FZ p a b) : FC p a [n0, n1, n2, n3, n4] b := ⟨h1, fun us hu S => by obtain ⟨u0, u1, u2, u3, u4, rfl⟩ := len5 hu; exact h2 u0 u1 u2 u3 u4 S, h3⟩
theorem FC6 (h1 : GC (K01 p) a [n0, n1, n2, n3, n4, n5] = true) (h2 : ∀ u0 u1 u2 u3 u4 u5 S, FB p a [n0, n1, n2, n3, n4, n5] [u0, u1, u2, u3, u4, u5] S) (h3 : FZ p a b) : FC p a [n0, n1, n2, n3, n4, n5] b := ⟨h1, fun us hu S => by obtain ⟨u0, u1, u2, u3, u4, u5, rfl⟩ := len6 hu; exact h2 u0 u1 u2 u3 u4 u5 S, h3⟩
end
theorem g1_0 {p : Params} : FC p 529 ["script"] b01_0 := FC1 (by kernel_rfl) (fun u0 S => by kernel_rfl) (by kernel_rfl)
theorem g1_1 {p : Params} : FC p 536 ["box", "limit"] b01_1 := FC2 (by kernel_rfl) (fun u0 u1 S => by kernel_rfl) (by kernel_rfl)
theorem g1_2 {p : Params} : FC p 543 ["box"] b01_2 := FC1 (by kernel_rfl) (fun u0 S => by kernel_rfl) (by kernel_rfl)
theorem g1_3 {p : Params} : FC p 550 ["told", "name"] b01_3 := FC2 (by kernel_rfl) (fun u0 u1 S => by kernel_rfl) (by kernel_rfl)
theorem g1_4 {p : Params} : FC p 557 ["box", "uids"] b01_4 := FC2 (by kernel_rfl) (fun u0 u1 S => by kernel_rfl) (by kernel_rfl)
theorem g1_5 {p : Params} : FC p 562 ["box", "told", "turn"] b01_5 := FC3 (by kernel_rfl) (fun u0 u1 u2 S => by kernel_rfl) (by kernel_rfl)
theorem g1_6 {p : Params} : FC p 351 ["value"] b01_6 := FC1 (by kernel_rfl) (fun u0 S => by kernel_rfl) (by kernel_rfl)
theorem g1_7 {p : Params} : FC p 356 ["value"] b01_7 := FC1 (by kernel_rfl) (fun u0 S => by kernel_rfl) (by kernel_rfl)
theorem g1_8 {p : Params} : FC p 361 ["value"] b01_8 := FC1 (by kernel_rfl) (fun u0 S => by kernel_rfl) (by kernel_rfl)
theorem g1_9 {p : Params} : FC p 375 ["row"] b01_9 := FC1 (by kernel_rfl) (fun u0 S => by kernel_rfl) (by kernel_rfl)
theorem g1_10 {p : Params} : FC p 368 ["value", "letter"] b01_10 := FC2 (by kernel_rfl) (fun u0 u1 S => by kernel_rfl) (by kernel_rfl)
theorem g1_11 {p : Params} : FC p 524 ["store", "row"] b01_11 := FC2 (by kernel_rfl) (fun u0 u1 S => by kernel_rfl) (by kernel_rfl)
theorem g1_12 {p : Params} : FC p 311 ["self"] b01_12 := FC1 (by kernel_rfl) (fun u0 S => by kernel_rfl) (by kernel_rfl)
theorem g1_13 {p : Params} : FC p 337 ["self"] b01_13 := FC1 (by kernel_rfl) (fun u0 S => by kernel_rfl) (by kernel_rfl)
theorem g1_14 {p : Params} : FC p 332 ["self"] b01_14 := FC1 (by kernel_rfl) (fun u0 S => by kernel_rfl) (by kernel_rfl)
theorem g1_15 {p : Params} : FC p 143 ["self", "name", "validity"] b01_15 := FC3 (by kernel_rfl) (fun u0 u1 u2 S => by kernel_rfl) (by kernel_rfl)
theorem g1_16 {p : Params} : FC p 160 ["self"] b01_16 := FC1 (by kernel_rfl) (fun u0 S => by kernel_rfl) (by kernel_rfl)
theorem g1_17 {p : Params} : FC p 569 ["told", "row"] b01_17 := FC2 (by kernel_rfl) (fun u0 u1 S => by kernel_rfl) (by kernel_rfl)
theorem g1_18 {p : Params} : FC p 574 ["told"] b01_18 := FC1 (by kernel_rfl) (fun u0 S => by kernel_rfl) (by kernel_rfl)
theorem g1_19 {p : Params} : FC p 579 ["told", "row"] b01_19 := FC2 (by kernel_rfl) (fun u0 u1 S => by kernel_rfl) (by kernel_rfl)
theorem g1_20 {p : Params} : FC p 325 ["self", "name"] b01_20 := FC2 (by kernel_rfl) (fun u0 u1 S => by kernel_rfl) (by kernel_rfl)
theorem g1_21 {p : Params} : FC p 150 ["self", "uid"] b01_21 := FC2 (by kernel_rfl) (fun u0 u1 S => by kernel_rfl) (by kernel_rfl)
theorem g1_22 {p : Params} : FC p 155 ["self"] b01_22 := FC1 (by kernel_rfl) (fun u0 S => by kernel_rfl) (by kernel_rfl)
theorem g1_23 {p : Params} : FC p 108 ["self", "uid", "octets", "flags", "instant", "modseq"] b01_23 := FC6 (by kernel_rfl) (fun u0 u1 u2 u3 u4 u5 S => by kernel_rfl) (by kernel_rfl)
theorem g1_24 {p : Params} : FC p 122 ["self"] b01_24 := FC1 (by kernel_rfl) (fun u0 S => by kernel_rfl) (by kernel_rfl)
theorem g1_25 {p : Params} : FC p 73 [] b01_25 := FC0 (by kernel_rfl) (fun  S => by kernel_rfl) (by kernel_rfl)
theorem g1_26 {p : Params} : FC p 80 ["text"] b01_26 := FC1 (by kernel_rfl) (fun u0 S => by kernel_rfl) (by kernel_rfl)
theorem g1_27 {p : Params} : FC p 87 ["text"] b01_27 := FC1 (by kernel_rfl) (fun u0 S => by kernel_rfl) (by kernel_rfl)
theorem g1_28 {p : Params} : FC p 94 ["flags"] b01_28 := FC1 (by kernel_rfl) (fun u0 S => by kernel_rfl) (by kernel_rfl)
theorem g1_29 {p : Params} : FC p 172 ["told"] b01_29 := FC1 (by kernel_rfl) (fun u0 S => by kernel_rfl) (by kernel_rfl)
theorem g1_30 {p : Params} : FC p 179 ["letters", "uid"] b01_30 := FC2 (by kernel_rfl) (fun u0 u1 S => by kernel_rfl) (by kernel_rfl)
theorem g1_31 {p : Params} : FC p 186 ["box"] b01_31 := FC1 (by kernel_rfl) (fun u0 S => by kernel_rfl) (by kernel_rfl)
theorem g1_32 {p : Params} : FC p 193 ["box", "octets", "flags", "instant"] b01_32 := FC4 (by kernel_rfl) (fun u0 u1 u2 u3 S => by kernel_rfl) (by kernel_rfl)
theorem g1_33 {p : Params} : FC p 200 ["box", "uid", "flags"] b01_33 := FC3 (by kernel_rfl) (fun u0 u1 u2 S => by kernel_rfl) (by kernel_rfl)
theorem g1_34 {p : Params} : FC p 205 ["letter", "way", "flags"] b01_34 := FC3 (by kernel_rfl) (fun u0 u1 u2 S => by kernel_rfl) (by kernel_rfl)
theorem g1_35 {p : Params} : FC p 210 ["box", "uids"] b01_35 := FC2 (by kernel_rfl) (fun u0 u1 S => by kernel_rfl) (by kernel_rfl)
theorem g1_36 {p : Params} : FC p 215 ["box", "uids", "goal"] b01_36 := FC3 (by kernel_rfl) (fun u0 u1 u2 S => by kernel_rfl) (by kernel_rfl)
theorem g1_37 {p : Params} : FC p 220 ["box", "uids", "goal"] b01_37 := FC3 (by kernel_rfl) (fun u0 u1 u2 S => by kernel_rfl) (by kernel_rfl)
theorem g1_38 {p : Params} : FC p 225 ["box"] b01_38 := FC1 (by kernel_rfl) (fun u0 S => by kernel_rfl) (by kernel_rfl)
theorem g1_39 {p : Params} : FC p 232 ["letter", "unless"] b01_39 := FC2 (by kernel_rfl) (fun u0 u1 S => by kernel_rfl) (by kernel_rfl)
theorem g1_40 {p : Params} : FC p 238 ["box", "uids", "way", "flags", "unless"] b01_40 := FC5 (by kernel_rfl) (fun u0 u1 u2 u3 u4 S => by kernel_rfl) (by kernel_rfl)
theorem g1_41 {p : Params} : FC p 245 ["uids"] b01_41 := FC1 (by kernel_rfl) (fun u0 S => by kernel_rfl) (by kernel_rfl)
theorem g1_42 {p : Params} : FC p 255 ["text"] b01_42 := FC1 (by kernel_rfl) (fun u0 S => by kernel_rfl) (by kernel_rfl)
theorem g1_43 {p : Params} : FC p 262 ["code"] b01_43 := FC1 (by kernel_rfl) (fun u0 S => by kernel_rfl) (by kernel_rfl)
theorem g1_44 {p : Params} : FC p 269 ["text"] b01_44 := FC1 (by kernel_rfl) (fun u0 S => by kernel_rfl) (by kernel_rfl)
theorem g1_45 {p : Params} : FC p 276 ["text"] b01_45 := FC1 (by kernel_rfl) (fun u0 S => by kernel_rfl) (by kernel_rfl)
theorem g1_46 {p : Params} : FC p 283 ["code"] b01_46 := FC1 (by kernel_rfl) (fun u0 S => by kernel_rfl) (by kernel_rfl)
theorem g1_47 {p : Params} : FC p 290 ["text"] b01_47 := FC1 (by kernel_rfl) (fun u0 S => by kernel_rfl) (by kernel_rfl)
theorem g1_48 {p : Params} : FC p 382 ["name"] b01_48 := FC1 (by kernel_rfl) (fun u0 S => by kernel_rfl) (by kernel_rfl)
theorem g1_49 {p : Params} : FC p 389 ["box", "count"] b01_49 := FC2 (by kernel_rfl) (fun u0 u1 S => by kernel_rfl) (by kernel_rfl)
theorem g1_50 {p : Params} : FC p 396 ["box", "count"] b01_50 := FC2 (by kernel_rfl) (fun u0 u1 S => by kernel_rfl) (by kernel_rfl)
theorem g1_51 {p : Params} : FC p 403 ["store", "name"] b01_51 := FC2 (by kernel_rfl) (fun u0 u1 S => by kernel_rfl) (by kernel_rfl)
theorem g1_52 {p : Params} : FC p 410 ["store", "validity"] b01_52 := FC2 (by kernel_rfl) (fun u0 u1 S => by kernel_rfl) (by kernel_rfl)
theorem g1_53 {p : Params} : FC p 415 ["box", "uids"] b01_53 := FC2 (by kernel_rfl) (fun u0 u1 S => by kernel_rfl) (by kernel_rfl)
theorem g1_54 {p : Params} : FC p 422 ["store", "name", "validity"] b01_54 := FC3 (by kernel_rfl) (fun u0 u1 u2 S => by kernel_rfl) (by kernel_rfl)
theorem g1_55 {p : Params} : FC p 441 ["store", "old", "new"] b01_55 := FC3 (by kernel_rfl) (fun u0 u1 u2 S => by kernel_rfl) (by kernel_rfl)
theorem g1_56 {p : Params} : FC p 448 ["store", "inbox", "name"] b01_56 := FC3 (by kernel_rfl) (fun u0 u1 u2 S => by kernel_rfl) (by kernel_rfl)
theorem g1_57 {p : Params} : FC p 455 ["store", "name", "flags", "instant", "octets"] b01_57 := FC5 (by kernel_rfl) (fun u0 u1 u2 u3 u4 S => by kernel_rfl) (by kernel_rfl)
theorem g1_58 {p : Params} : FC p 462 ["store", "name", "uid", "flags"] b01_58 := FC4 (by kernel_rfl) (fun u0 u1 u2 u3 S => by kernel_rfl) (by kernel_rfl)
theorem g1_59 {p : Params} : FC p 469 ["store", "name", "uids", "way", "flags", "unless"] b01_59 := FC6 (by kernel_rfl) (fun u0 u1 u2 u3 u4 u5 S => by kernel_rfl) (by kernel_rfl)
theorem g1_60 {p : Params} : FC p 476 ["store", "name", "uids"] b01_60 := FC3 (by kernel_rfl) (fun u0 u1 u2 S => by kernel_rfl) (by kernel_rfl)
theorem g1_61 {p : Params} : FC p 481 ["store", "name", "uids", "goal", "is_move"] b01_61 := FC5 (by kernel_rfl) (fun u0 u1 u2 u3 u4 S => by kernel_rfl) (by kernel_rfl)
theorem g1_62 {p : Params} : FC p 500 ["value"] b01_62 := FC1 (by kernel_rfl) (fun u0 S => by kernel_rfl) (by kernel_rfl)
theorem g1_63 {p : Params} : FC p 505 ["value"] b01_63 := FC1 (by kernel_rfl) (fun u0 S => by kernel_rfl) (by kernel_rfl)
theorem g1_64 {p : Params} : FC p 512 ["box", "next_validity"] b01_64 := FC2 (by kernel_rfl) (fun u0 u1 S => by kernel_rfl) (by kernel_rfl)
theorem g1_65 {p : Params} : FC p 517 ["store", "next_validity", "subscribed", "told"] b01_65 := FC4 (by kernel_rfl) (fun u0 u1 u2 u3 S => by kernel_rfl) (by kernel_rfl)
theorem g1_66 {p : Params} : FC p 586 ["script"] b01_66 := FC1 (by kernel_rfl) (fun u0 S => by kernel_rfl) (by kernel_rfl)
noncomputable def P01 : Prg := prgOf sy01 fns01 me01 ini01
theorem noCells {l : List (Str × NameKind)} (h : (l.all fun y => y.2 != .cell) = true) : ∀ y ∈ l, y.2 ≠ .cell := fun y hy => by simpa using List.all_eq_true.mp h y hy
section
variable {prog : Program} {w : World} {s : Shared} {mg mb : Str -> Option Value} {l : Addr} {ol : Obj}
noncomputable abbrev X01 (prog : Program) (w : World) (H : Yt s (K01 w.params) mg mb l ol []) : Cx := mkCx prog w Ko 0 H dat01_ok (Gz _) (KZ _)
theorem fg {H : Yt s (K01 w.params) mg mb l ol []} {k a : Nat} {ps : List Str} {f : Fn} (ha : (X01 prog w H).fa k = a) (h : FC w.params a ps f.body) (hn : ps.length = f.nargs) : FnIs (X01 prog w H) sy01 30 k f :=
 fnIs_of ps (K := K01 w.params) rfl ha h.1 h.2.1 h.2.2 hn
theorem excInit01 (H : Yt s (K01 w.params) mg mb l ol []) : ExcInit (X01 prog w H) 29 64 := by
 refine ⟨?_, ns_none_of H.kin H.g (by kernel_rfl), by (show findIn (K01 w.params) _ _ = _; kernel_rfl), by (show takerIn (K01 w.params) _ _ = _; kernel_rfl), by (show takerIn (K01 w.params) _ _ = _; kernel_rfl)⟩
 refine ⟨_, ⟨_, _, _, _, _, _, _, _, _, _, _, _, _, _⟩, ⟨_, _, _, (rfl : (K01 w.params).lookup 29 = _)⟩, (by show codeIn (K01 w.params) _ _ = _; kernel_rfl), rfl, ?_, rfl, rfl, rfl, rfl, rfl, rfl, ?_, rfl, rfl, rfl, rfl, rfl⟩
 ·intro e a
  exact ⟨_, fun S => rfl⟩
 ·exact noCells (by kernel_rfl)
theorem excFacts01 (H : Yt s (K01 w.params) mg mb l ol []) : OH (X01 prog w H) 3 := by
 refine ⟨excAt_of (K := K01 w.params) (C := 64) (by kernel_rfl) (by kernel_rfl) (by kernel_rfl), 29, by (show findIn (K01 w.params) (.ref 64) _ = _; kernel_rfl), by (show typeIn (K01 w.params) _ = _; kernel_rfl), excInit01 H⟩
theorem syOk01 (H : Yt s (K01 w.params) mg mb l ol []) : ZJ (X01 prog w H) sy01 := by
 refine ⟨sok_of H dat01_ok (Gz _) (KZ _) (sx01_ok _), base_lim H, fun c hc => ?_⟩
 cases List.mem_singleton.mp hc
 exact excFacts01 H
theorem prgOk01 (H : Yt s (K01 w.params) mg mb l ol []) : PrgOk (X01 prog w H) P01 30 := by
 refine prgOk_of (K := K01 w.params) (D := Ko) rfl rfl rfl rfl (syOk01 H) ?_ (me01_ok _) (ini01_ok _)
 exact ⟨fg rfl g1_0 rfl, fg rfl g1_1 rfl, fg rfl g1_2 rfl, fg rfl g1_3 rfl, fg rfl g1_4 rfl, fg rfl g1_5 rfl, fg rfl g1_6 rfl, fg rfl g1_7 rfl, fg rfl g1_8 rfl, fg rfl g1_9 rfl, fg rfl g1_10 rfl, fg rfl g1_11 rfl, fg rfl g1_12 rfl, fg rfl g1_13 rfl, fg rfl g1_14 rfl, fg rfl g1_15 rfl, fg rfl g1_16 rfl, fg rfl g1_17 rfl, fg rfl g1_18 rfl, fg rfl g1_19 rfl, fg rfl g1_20 rfl, fg rfl g1_21 rfl, fg rfl g1_22 rfl, fg rfl g1_23 rfl, fg rfl g1_24 rfl, fg rfl g1_25 rfl, fg rfl g1_26 rfl, fg rfl g1_27 rfl, fg rfl g1_28 rfl, fg rfl g1_29 rfl, fg rfl g1_30 rfl, fg rfl g1_31 rfl, fg rfl g1_32 rfl, fg rfl g1_33 rfl, fg rfl g1_34 rfl, fg rfl g1_35 rfl, fg rfl g1_36 rfl, fg rfl g1_37 rfl, fg rfl g1_38 rfl, fg rfl g1_39 rfl, fg rfl g1_40 rfl, fg rfl g1_41 rfl, fg rfl g1_42 rfl, fg rfl g1_43 rfl, fg rfl g1_44 rfl, fg rfl g1_45 rfl, fg rfl g1_46 rfl, fg rfl g1_47 rfl, fg rfl g1_48 rfl, fg rfl g1_49 rfl, fg rfl g1_50 rfl, fg rfl g1_51 rfl, fg rfl g1_52 rfl, fg rfl g1_53 rfl, fg rfl g1_54 rfl, fg rfl g1_55 rfl, fg rfl g1_56 rfl, fg rfl g1_57 rfl, fg rfl g1_58 rfl, fg rfl g1_59 rfl, fg rfl g1_60 rfl, fg rfl g1_61 rfl, fg rfl g1_62 rfl, fg rfl g1_63 rfl, fg rfl g1_64 rfl, fg rfl g1_65 rfl, trivial⟩
theorem lawIs01 (H : Yt s (K01 w.params) mg mb l ol []) : FnIs (X01 prog w H) sy01 30 66 f01_66 :=
 fg rfl g1_66 rfl
theorem fok01 (H : Yt s (K01 w.params) mg mb l ol []) (d : Nat) : FOk (X01 prog w H) (2 * d + 1 + 1) (.ref 586) fun vs U => Yj (tb P01 d) f01_66 vs U :=
 fn_is (syOk01 H) (lawIs01 H) (tb_ok (prgOk01 H) d) (by lia)
end
end Mine
namespace Mine
open PySem
theorem Jc {U : St} {i : Nat} {o : PO} (h : U[i]? = some o) : i < U.length := (List.getElem?_eq_some_iff.mp h).1
noncomputable def Gw (U U' : St) : Prop := ∀ (i : Nat) (o : PO), U[i]? = some o -> U'[i]? = some o
theorem Gw.refl {U : St} : Gw U U := fun _ _ h => h
theorem Gw.trans {a b c : St} (h : Gw a b) (k : Gw b c) : Gw a c := fun i o e => k i o (h i o e)
structure Al (o : PO) (U U' : St) : Prop where
 gw : Gw U U'
 me : U'[U.length]? = some o
 len : U'.length = U.length + 1
theorem Al.mk' {o : PO} {U : St} : Al o U (U ++ [o]) := ⟨fun i x h => by rw [List.getElem?_append_left (Jc h)]; exact h, by rw [List.getElem?_append_right (Nat.le_refl _), Nat.sub_self]; rfl, List.length_append⟩
structure Se (l : Nat) (o : PO) (U U' : St) : Prop where
 me : ∀ x, U[l]? = some x -> U'[l]? = some o
 ne : ∀ (i : Nat) (x : PO), i ≠ l -> U[i]? = some x -> U'[i]? = some x
 len : U'.length = U.length
theorem Se.mk' {l : Nat} {o : PO} {U : St} : Se l o U (U.set l o) := ⟨fun x h => List.getElem?_set_self (Jc h), fun i x n h => by rw [List.getElem?_set_ne n.symm]; exact h, List.length_set⟩
noncomputable def Rn {α : Type} (m : R α) (Q : α -> St -> Prop) (E : Nat -> St -> Prop) : Prop := match m with
 | .ok a U => Q a U
 | .exc c U => E c U
 | .stuck => False
section
variable {α β : Type} {Q : α -> St -> Prop} {E : Nat -> St -> Prop}
theorem Rn.mono {m : R α} {Q' : α -> St -> Prop} {E' : Nat -> St -> Prop} (h : Rn m Q E) (hq : ∀ a U, Q a U -> Q' a U) (he : ∀ c U, E c U -> E' c U) : Rn m Q' E' := by
 cases m with
 | ok a U => exact hq _ _ h
 | exc c U => exact he _ _ h
 | stuck => exact h
theorem Rn.bind {m : R β} {f : β -> St -> R α} (h : Rn m (fun a U => Rn (f a U) Q E) E) : Rn (m.bind f) Q E := by
 cases m with
 | ok a U => exact h
 | exc c U => exact h
 | stuck => exact h
theorem Rn.bind' {m : R β} {f : β -> St -> R α} {Q' : β -> St -> Prop} (h : Rn m Q' E) (k : ∀ a U, Q' a U -> Rn (f a U) Q E) : Rn (m.bind f) Q E := .bind (h.mono k fun _ _ e => e)
theorem Uh {m : R α} (h : Rn m Q (fun _ _ => False)) : Rn (OD m) Q E := by
 cases m with
 | ok a U => exact h
 | exc c U => exact h.elim
 | stuck => exact h
noncomputable def hg1 (P : Prop) : Prop := P
noncomputable def hg2 (P : Prop) : Prop := hg1 P
noncomputable def hg3 (P : Prop) : Prop := hg2 P
noncomputable def gd (b : Bool) (P : Prop) : Prop := hg3 (match b with
 | true => P
 | false => False)
theorem Jf {b : Bool} {P : Prop} (h : b = true) (k : P) : gd b P := by rw [h]; exact k
theorem JN {c : Prop} [Decidable c] {P : Prop} (h : c) (k : P) : gd (decide c) P := Jf (decide_eq_true h) k
theorem Yh {c : Prop} [Decidable c] {m : R α} {P : Prop} (h : gd (decide c) P) (k : P -> Rn m Q E) : Rn (if c then m else .stuck) Q E := by
 by_cases hc : c
 ·rw [if_pos hc]; rw [decide_eq_true hc] at h; exact k h
 ·rw [decide_eq_false hc] at h; exact h.elim
theorem JE {b : Bool} {m : R α} {P : Prop} (h : gd b P) (k : P -> Rn m Q E) : Rn (if b = true then m else .stuck) Q E := by
 cases b
 ·exact h.elim
 ·exact k h
noncomputable def br (b : Bool) (P P' : Prop) : Prop := match b with
 | true => P
 | false => P'
theorem Yr {b : Bool} {P P' : Prop} (h : b = true) (k : P) : br b P P' := by rw [h]; exact k
theorem JG {b : Bool} {P P' : Prop} (h : b = false) (k : P') : br b P P' := by rw [h]; exact k
theorem YM {b : Bool} {P P' : Prop} (h : b = true -> P) (k : b = false -> P') : br b P P' := by
 cases b
 ·exact k rfl
 ·exact h rfl
theorem Ui {b : Bool} {m n : R α} {P P' : Prop} (h : br b P P') (k : P -> Rn m Q E) (k' : P' -> Rn n Q E) : Rn (if b = true then m else n) Q E := by
 cases b
 ·exact k' h
 ·exact k h
noncomputable def opP {γ : Type} (o : Option γ) (P : γ -> Prop) : Prop := hg3 (match o with
 | some a => P a
 | .none => False)
theorem Jh {γ : Type} {o : Option γ} {P : γ -> Prop} {a : γ} (h : o = some a) (k : P a) : opP o P := by rw [h]; exact k
theorem Zj {γ : Type} {o : Option γ} {f : γ -> R PV} {P : γ -> Prop} {Q : PV -> St -> Prop} (h : opP o P) (k : ∀ a, P a -> Rn (f a) Q E) : Rn (optR o f) Q E := by
 cases o
 ·exact h.elim
 ·exact k _ h
noncomputable def obP (o : Option PO) (L F : List PV -> Prop) (D : List (PV × PV) -> Prop) (I : Nat -> List (Nat × PV) -> Prop) : Prop := match o with
 | some (.list xs) => L xs
 | some (.frz xs) => F xs
 | some (.dict es) => D es
 | some (.inst c fs) => I c fs
 | _ => False
theorem Jm {o : Option PO} {L F : List PV -> Prop} {D : List (PV × PV) -> Prop} {I : Nat -> List (Nat × PV) -> Prop} {xs : List PV} (h : o = some (.list xs)) (k : L xs) : obP o L F D I := by rw [h]; exact k
theorem ob_f {o : Option PO} {L F : List PV -> Prop} {D : List (PV × PV) -> Prop} {I : Nat -> List (Nat × PV) -> Prop} {xs : List PV} (h : o = some (.frz xs)) (k : F xs) : obP o L F D I := by rw [h]; exact k
theorem YE {o : Option PO} {L F : List PV -> Prop} {D : List (PV × PV) -> Prop} {I : Nat -> List (Nat × PV) -> Prop} {es : List (PV × PV)} (h : o = some (.dict es)) (k : D es) : obP o L F D I := by rw [h]; exact k
theorem Jd {o : Option PO} {L F : List PV -> Prop} {D : List (PV × PV) -> Prop} {I : Nat -> List (Nat × PV) -> Prop} {c : Nat} {fs : List (Nat × PV)} (h : o = some (.inst c fs)) (k : I c fs) : obP o L F D I := by rw [h]; exact k
noncomputable def noL : List PV -> Prop := fun _ => False
noncomputable def noD : List (PV × PV) -> Prop := fun _ => False
noncomputable def noI : Nat -> List (Nat × PV) -> Prop := fun _ _ => False
noncomputable def wAl (o : PO) (U : St) (Q : PV -> St -> Prop) : Prop := ∀ U', Al o U U' -> Q (.loc U.length) U'
noncomputable def OT (a b : PV) (f : Int -> Int -> Prop) : Prop := match a with
 | .int x => (match b with
  | .int y => f x y
  | _ => False)
 | _ => False
theorem int2_w {a b : PV} {P : Int -> Int -> Prop} {f : Int -> Int -> R PV} {Q : PV -> St -> Prop} (h : OT a b P) (k : ∀ x y, P x y -> Rn (f x y) Q E) : Rn (int2 a b f) Q E := by
 cases a <;> first | exact h.elim | skip
 cases b <;> first | exact h.elim | exact k _ _ h
noncomputable def wAdd (a b : PV) (U : St) (Q : PV -> St -> Prop) : Prop := match a with
 | .str x => (match b with
  | .str y => gd (Jp (x.length + y.length)) (Q (.str (x ++ y)) U)
  | _ => False)
 | .int _ => OT a b fun x y => Q (.int (x + y)) U
 | .tup x => (match b with
  | .tup y => gd (Jp (x.length + y.length)) (Q (.tup (x ++ y)) U)
  | _ => False)
 | .loc l => (match b with
  | .loc m => obP U[l]? (fun xs => obP U[m]? (fun ys => gd (Jp (xs.length + ys.length)) (wAl (.list (xs ++ ys)) U Q)) noL noD noI) noL noD noI
  | _ => False)
 | _ => False
noncomputable def wBin (op : Operator) (a b : PV) (U : St) (Q : PV -> St -> Prop) : Prop := match op with
 | .Add => wAdd a b U Q
 | .Sub => OT a b fun x y => Q (.int (x - y)) U
 | .Mult => OT a b fun x y => gd (decide (x.natAbs < 2 ^ 62 /\ y.natAbs < 2 ^ 62)) (Q (.int (x * y)) U)
 | .FloorDiv => OT a b fun x y => gd (decide (0 < y /\ y < 2 ^ 30)) (Q (.int (x.fdiv y)) U)
 | .Mod => OT a b fun x y => gd (decide (y ≠ 0)) (Q (.int (x.fmod y)) U)
 | .Pow => OT a b fun x y => gd (decide (0 ≤ x /\ x < 2 ^ 31 /\ 0 < y /\ y ≤ 300)) (Q (.int (x ^ y.toNat)) U)
 | _ => False
theorem ob_L {U : St} {l : Nat} {P : List PV -> Prop} (h : obP U[l]? P noL noD noI) : ∃ xs, U[l]? = some (.list xs) /\ P xs := by
 cases ho : U[l]? with
 | none => rw [ho] at h; exact h.elim
 | some o => rw [ho] at h; cases o <;> first | exact ⟨_, rfl, h⟩ | exact h.elim
theorem bin_w {op : Operator} {a b : PV} {U : St} {Q : PV -> St -> Prop} (h : wBin op a b U Q) : Rn (binop op a b U) Q E := by
 cases op <;> first | exact h.elim | exact int2_w h (fun x y h => Yh h fun h => h) | exact int2_w h (fun x y h => h) | skip
 cases a with
 | str x => cases b <;> first | exact h.elim | exact JE h fun h => h
 | int i =>
  have h : OT (.int i) b (fun x y => Q (.int (x + y)) U) := h
  show Rn (int2 (.int i) b fun x y => .ok (.int (x + y)) U) Q E
  exact int2_w h fun x y h => h
 | tup xs => cases b <;> first | exact h.elim | exact JE h fun h => h
 | loc l =>
  cases b <;> first | exact h.elim | skip
  obtain ⟨xs, hx, h⟩ := ob_L h
  obtain ⟨ys, hy, h⟩ := ob_L h
  show Rn (addLs _ _ U) Q E
  rw [hx, hy]
  exact JE h fun h => h _ .mk'
 | _ => exact h.elim
noncomputable def wTru (v : PV) (U : St) (Q : Bool -> St -> Prop) : Prop := match v with
 | .none => Q false U
 | .bool b => Q b U
 | .loc l => obP U[l]? (fun xs => gd (Jp xs.length) (Q (!xs.isEmpty) U)) noL noD noI
 | _ => False
set_option tactic.hygienic true in
theorem tru_w {v : PV} {U : St} {Q : Bool -> St -> Prop} (h : wTru v U Q) : Rn (Kt v U) Q E := by
 cases v <;> first | exact h.elim | exact h | skip
 rename_i l
 obtain ⟨xs, hx, h⟩ := ob_L h
 unfold Kt
 have e : truthy U (.loc l) = if Jp xs.length then some (!xs.isEmpty) else none := by
  show (match U[l]? with
   | some (.list xs) => if Jp xs.length then some (!xs.isEmpty) else none
   | _ => none) = _
  rw [hx]
 rw [e]
 cases hz : Jp xs.length with
 | false => rw [hz] at h; exact h.elim
 | true => rw [hz] at h; exact h
noncomputable def wEqS (a : PV) (y : Str) (U : St) (Q : Bool -> St -> Prop) : Prop := match a with
 | .str x => ∀ t, (x == y) = t -> Q t U
 | _ => False
noncomputable def wEq (a b : PV) (U : St) (Q : Bool -> St -> Prop) : Prop := match b with
 | .str y => wEqS a y U Q
 | b => opP (eqv U JL a b) fun r => Q r U
theorem eq_w {a b : PV} {U : St} {Q : Bool -> St -> Prop} (h : wEq a b U Q) : opP (eqv U JL a b) fun r => Q r U := by
 cases b <;> first | exact h | skip
 cases a <;> first | exact h _ rfl | exact h.elim
noncomputable def wIn (a b : PV) (U : St) (Q : Bool -> St -> Prop) : Prop := match b with
 | .str s => (match a with
  | .str y => ∀ t, (!(Builtin.Str.occurrences s y 0 s.length 1).isEmpty) = t -> Q t U
  | _ => False)
 | .tup ys => opP (Od U a ys) fun r => Q r U
 | .loc l => obP U[l]? (fun ys => opP (Od U a ys) fun r => Q r U) noL (fun es => gd (Jt a es) (Q (dget a es).isSome U)) noI
 | _ => False
set_option tactic.hygienic true in
theorem in_w {a b : PV} {U : St} {Q : Bool -> St -> Prop} (h : wIn a b U Q) : opP (isIn a b U) fun r => Q r U := by
 cases b with
 | str s => cases a <;> first | exact h.elim | exact h _ rfl
 | tup ys => exact h
 | loc l =>
  have h : obP U[l]? (fun ys => opP (Od U a ys) fun r => Q r U) noL (fun es => gd (Jt a es) (Q (dget a es).isSome U)) noI := h
  show opP (inObj U a U[l]?) _
  generalize U[l]? = o at h
  cases o with
  | none => exact h.elim
  | some o =>
   cases o <;> first | exact h.elim | exact h | skip
   rename_i es
   have h : gd (Jt a es) (Q (dget a es).isSome U) := h
   show opP (if Jt a es = true then some (dget a es).isSome else none) _
   cases hk : Jt a es with
   | true => rw [hk] at h; exact h
   | false => rw [hk] at h; exact h.elim
 | _ => exact h.elim
theorem opP_map {γ δ : Type} {o : Option γ} {f : γ -> δ} {P : δ -> Prop} (h : opP o fun a => P (f a)) : opP (o.map f) P := by
 cases o
 ·exact h.elim
 ·exact h
noncomputable def wCmp (op : CmpOp) (a b : PV) (U : St) (Q : Bool -> St -> Prop) : Prop := match op with
 | .Lt => OT a b fun x y => Q (decide (x < y)) U
 | .Gt => OT a b fun x y => Q (decide (x > y)) U
 | .GtE => OT a b fun x y => Q (decide (x ≥ y)) U
 | .Eq => wEq a b U Q
 | .In => wIn a b U Q
 | .NotIn => wIn a b U fun r U => Q (!r) U
 | .NotEq => gd (!isBytes a) (wEq a b U fun r U => Q (!r) U)
 | op => opP (cmpop op a b U) fun r => Q r U
theorem cmpO_w {op : CmpOp} {a b : PV} {U : St} {Q : Bool -> St -> Prop} (h : opP (cmpop op a b U) fun r => Q r U) : Rn (cmpR op a b U) Q E := by
 unfold cmpR
 cases hc : cmpop op a b U with
 | none => rw [hc] at h; exact h.elim
 | some r => rw [hc] at h; exact h
theorem cmpI_w {a b : PV} {f : Int -> Int -> Bool} {P : Bool -> Prop} (h : OT a b fun x y => P (f x y)) : opP (cmp2 a b f) P := by
 cases a <;> first | exact h.elim | skip
 cases b <;> first | exact h.elim | exact h
theorem ne_w {a b : PV} {U : St} {Q : Bool -> St -> Prop} (h : gd (!isBytes a) (wEq a b U fun r U => Q (!r) U)) : opP (cmpop .NotEq a b U) fun r => Q r U := by
 show opP (if isBytes a = true then none else _) _
 cases hb : isBytes a with
 | true => rw [hb] at h; exact h.elim
 | false => rw [hb] at h; exact opP_map (eq_w (Q := fun r U => Q (!r) U) h)
theorem cmp_w {op : CmpOp} {a b : PV} {U : St} {Q : Bool -> St -> Prop} (h : wCmp op a b U Q) : Rn (cmpR op a b U) Q E := by
 refine cmpO_w ?_
 cases op <;> first | exact eq_w h | exact in_w h | exact opP_map (in_w (Q := fun r U => Q (!r) U) h) | exact h | exact cmpI_w (P := fun r => Q r U) h | exact ne_w h
noncomputable def Oh (v : PV) (P : Int -> Prop) : Prop := match v with
 | .int i => P i
 | _ => False
theorem UQ {v : PV} {P : Int -> Prop} {f : Int -> R PV} {Q : PV -> St -> Prop} (h : Oh v P) (k : ∀ i, P i -> Rn (f i) Q E) : Rn (UB v f) Q E := by
 cases v <;> first | exact h.elim | exact k _ h
noncomputable def wLst (U : St) (v : PV) (P : List PV -> Prop) : Prop := match v with
 | .loc l => obP U[l]? P noL noD noI
 | _ => False
theorem lst_w {v : PV} {U : St} {P : List PV -> Prop} {f : List PV -> R PV} {Q : PV -> St -> Prop} (h : wLst U v P) (k : ∀ xs, P xs -> Rn (f xs) Q E) : Rn (lstR U v f) Q E := by
 cases v <;> first | exact h.elim | skip
 obtain ⟨xs, hx, h⟩ := ob_L h
 show Rn (optR (Ul U[_]?) f) Q E
 rw [hx]
 exact k xs h
noncomputable def wLen (U : St) (v : PV) (Q : PV -> St -> Prop) : Prop := match v with
 | .str x => gd (Jp x.length) (Q (.int x.length) U)
 | .tup xs => gd (Jp xs.length) (Q (.int xs.length) U)
 | .loc l => obP U[l]? (fun xs => gd (Jp xs.length) (Q (.int xs.length) U)) noL (fun es => gd (Jp es.length) (Q (.int es.length) U)) noI
 | _ => False
noncomputable def wList (U : St) (v : PV) (Q : PV -> St -> Prop) : Prop := match v with
 | .tup xs => gd (Jp xs.length) (wAl (.list xs) U Q)
 | .loc l => obP U[l]? noL noL (fun es => gd (Jp es.length) (wAl (.list (es.map (·.1))) U Q)) noI
 | _ => False
noncomputable def wTup (U : St) (v : PV) (Q : PV -> St -> Prop) : Prop := match v with
 | .tup xs => Q (.tup xs) U
 | v => wLst U v fun xs => gd (Jp xs.length) (Q (.tup xs) U)
noncomputable def wOrd (U : St) (v : PV) (Q : PV -> St -> Prop) : Prop := match v with
 | .str x => (match x.cps.toList with
  | c :: r => (match r with
   | [] => Q (.int c) U
   | _ :: _ => False)
  | [] => False)
 | _ => False
noncomputable def wBi1 (b : Bi) (v : PV) (U : St) (Q : PV -> St -> Prop) : Prop := match b with
 | .len => wLen U v Q
 | .sorted => wLst U v fun xs => gd (decide (xs.length ≤ 60)) (opP (JY xs) fun ys => wAl (.list ys) U Q)
 | .list => wList U v Q
 | .tuple => wTup U v Q
 | .all => wLst U v fun xs => gd (Jp xs.length) (opP (YN xs) fun bs => Q (.bool (bs.all id)) U)
 | .any => wLst U v fun xs => gd (Jp xs.length) (opP (YN xs) fun bs => Q (.bool (bs.any id)) U)
 | .ord => wOrd U v Q
 | .chr => Oh v fun i => gd (decide (0 ≤ i /\ i < 128)) (Q (.str ⟨#[i.toNat]⟩) U)
 | .str => Oh v fun i => gd (decide (0 ≤ i /\ i < 10000)) (Q (.str (UK i)) U)
 | .abs => Oh v fun i => Q (.int i.natAbs) U
 | .int => Oh v fun i => Q (.int i) U
 | .isStr => gd (JO U v) (Q (.bool (isStr v)) U)
 | .isInt => gd (JO U v) (Q (.bool (isInt v)) U)
 | .isBool => gd (JO U v) (Q (.bool (isBool v)) U)
 | .isBytes => gd (JO U v) (Q (.bool (isBytes v)) U)
 | .isTuple => gd (JO U v) (Q (.bool (isTuple v)) U)
noncomputable def wBi (b : Bi) (args : List PV) (U : St) (Q : PV -> St -> Prop) : Prop := match args with
 | [v] => wBi1 b v U Q
 | _ => False
set_option tactic.hygienic true in
theorem bi_w {b : Bi} {args : List PV} {U : St} {Q : PV -> St -> Prop} (h : wBi b args U Q) : Rn (builtin b args U) Q E := by
 cases args with
 | nil => exact h.elim
 | cons v r =>
 cases r with
 | cons _ _ => exact h.elim
 | nil =>
 cases b with
 | len =>
  cases v <;> first | exact JE h (fun h => h) | exact h.elim | skip
  rename_i l
  have h : obP U[l]? (fun xs => gd (Jp xs.length) (Q (.int xs.length) U)) noL (fun es => gd (Jp es.length) (Q (.int es.length) U)) noI := h
  show Rn (lenO U U[l]?) Q E
  generalize U[l]? = o at h
  cases o with
  | none => exact h.elim
  | some o => cases o <;> first | exact h.elim | exact JE h fun h => h
 | list =>
  cases v <;> first | exact h.elim | exact JE h (fun h => h _ .mk') | skip
  rename_i l
  have h : obP U[l]? noL noL (fun es => gd (Jp es.length) (wAl (.list (es.map (·.1))) U Q)) noI := h
  show Rn (biList U (.loc l)) Q E
  unfold biList
  dsimp only
  cases ho : U[l]? with
  | none => rw [ho] at h; exact h.elim
  | some o => rw [ho] at h; cases o <;> first | exact h.elim | exact JE h fun h => h _ .mk'
 | sorted => exact lst_w h fun xs h => Yh h fun h => Zj h fun ss h => h _ .mk'
 | tuple =>
  cases v <;> first | exact h | exact h.elim | skip
  rename_i l
  exact lst_w (show wLst U (.loc l) (fun xs => gd (Jp xs.length) (Q (.tup xs) U)) from h) fun xs h => JE h fun h => h
 | any => exact lst_w h fun xs h => JE h fun h => Zj h fun bs h => h
 | ord =>
  cases v <;> first | exact h.elim | skip
  rename_i x
  show Rn (ordR (.str x) U) Q E
  have h : (match x.cps.toList with
   | c :: r => (match r with
    | [] => Q (.int c) U
    | _ :: _ => False)
   | [] => False) := h
  show Rn (match x.cps.toList with
   | [c] => .ok (.int c) U
   | _ => .stuck) Q E
  generalize x.cps.toList = l at h
  rcases l with _ | ⟨c, _ | ⟨_, _⟩⟩
  ·exact h.elim
  ·exact h
  ·exact h.elim
 | chr => exact UQ h fun i h => Yh h fun h => h
 | str => exact UQ h fun i h => Yh h fun h => h
 | all => exact lst_w h fun xs h => JE h fun h => Zj h fun bs h => h
 | abs => exact UQ h fun i h => h
 | int => exact UQ h fun i h => h
 | isStr => exact JE h fun h => h
 | isInt => exact JE h fun h => h
 | isBool => exact JE h fun h => h
 | isBytes => exact JE h fun h => h
 | isTuple => exact JE h fun h => h
noncomputable def wOneV (args : List PV) (P : PV -> Prop) : Prop := match args with
 | [v] => P v
 | _ => False
noncomputable def wNilV (args : List PV) (P : Prop) : Prop := match args with
 | [] => P
 | _ => False
noncomputable def wStr (v : PV) (P : Str -> Prop) : Prop := match v with
 | .str y => P y
 | _ => False
theorem oneV_w {args : List PV} {P : PV -> Prop} {f : PV -> R PV} {Q : PV -> St -> Prop} (h : wOneV args P) (k : ∀ v, P v -> Rn (f v) Q E) : Rn (oneR args f) Q E := by
 rcases args with _ | ⟨v, _ | ⟨_, _⟩⟩
 ·exact h.elim
 ·exact k _ h
 ·exact h.elim
theorem str_w {v : PV} {P : Str -> Prop} {f : Str -> R PV} {Q : PV -> St -> Prop} (h : wStr v P) (k : ∀ y, P y -> Rn (f y) Q E) : Rn (strR v f) Q E := by
 cases v <;> first | exact h.elim | exact k _ h
noncomputable def wMethS (m : Mi) (x : Str) (args : List PV) (U : St) (Q : PV -> St -> Prop) : Prop := match m with
 | .split => wOneV args fun v => wStr v fun y => ((y.length == 0) = false /\ Jp x.length /\ Jp (Txt.split x y).length) /\ wAl (.list ((Txt.split x y).map .str)) U Q
 | .lower => wNilV args (gd (Jp x.length) (Q (.str (Txt.lower x)) U))
 | .find => wOneV args fun v => wStr v fun y => Q (.int (Txt.find x y)) U
 | .join => wOneV args fun v => wLst U v fun xs => opP (OM xs) fun ss => gd (JoinOk x ss) (Q (.str (Txt.join x ss)) U)
 | .append => False
noncomputable def wMeth (m : Mi) (o : PV) (args : List PV) (U : St) (Q : PV -> St -> Prop) : Prop := match o with
 | .str x => wMethS m x args U Q
 | .loc l => gd (isApp m) (obP U[l]? (fun xs => wOneV args fun v => gd (Jp xs.length) (∀ U', Se l (.list (xs ++ [v])) U U' -> Q .none U')) noL noD noI)
 | _ => False
set_option tactic.hygienic true in
theorem meth_w {m : Mi} {o : PV} {args : List PV} {U : St} {Q : PV -> St -> Prop} (h : wMeth m o args U Q) : Rn (Gm m o args U) Q E := by
 cases o <;> first | exact h.elim | skip
 ·cases m with
  | split => exact oneV_w h fun v h => str_w h fun y h => Yh (JN h.1 h.2) fun h => h _ .mk'
  | lower =>
   cases args with
   | nil => exact JE h fun h => h
   | cons _ _ => exact h.elim
  | find => exact oneV_w h fun v h => str_w h fun y h => h
  | join => exact oneV_w h fun v h => lst_w h fun xs h => Zj h fun ss h => JE h fun h => h
  | append => exact h.elim
 ·rename_i l
  refine JE (P := obP U[l]? (fun xs => wOneV args fun v => gd (Jp xs.length) (∀ U', Se l (.list (xs ++ [v])) U U' -> Q .none U')) noL noD noI) h fun h => ?_
  obtain ⟨xs, hx, h⟩ := ob_L h
  show Rn (appR l U[l]? args U) Q E
  rw [hx]
  exact oneV_w h fun v h => JE h fun h => h _ .mk'
noncomputable def wSub (o i : PV) (U : St) (Q : PV -> St -> Prop) : Prop := match o with
 | .str x => Oh i fun k => gd (decide (Jp x.length /\ k.natAbs ≤ 1000000)) (opP ((seqIndex? k x.length).bind (x.cps[·]?)) fun c => Q (.str ⟨#[c]⟩) U)
 | .tup xs => Oh i fun k => gd (decide (k.natAbs ≤ 1000000)) (opP ((seqIndex? k xs.length).bind (xs[·]?)) fun v => Q v U)
 | .loc l => obP U[l]? (fun xs => Oh i fun k => gd (decide (0 ≤ k /\ k ≤ 1000000)) (opP xs[k.toNat]? fun v => Q v U)) noL (fun es => gd (Jt i es) (opP (dget i es) fun v => Q v U)) noI
 | _ => False
set_option tactic.hygienic true in
theorem sub_w {o i : PV} {U : St} {Q : PV -> St -> Prop} (h : wSub o i U Q) : Rn (KV o i U) Q E := by
 cases o <;> first | exact h.elim | exact UQ h (fun k h => Yh h fun h => Zj h fun _ h => h) | skip
 rename_i l
 have h : obP U[l]? (fun xs => Oh i fun k => gd (decide (0 ≤ k /\ k ≤ 1000000)) (opP xs[k.toNat]? fun v => Q v U)) noL (fun es => gd (Jt i es) (opP (dget i es) fun v => Q v U)) noI := h
 show Rn (subObj U[l]? i U) Q E
 cases ho : U[l]? with
 | none => rw [ho] at h; exact h.elim
 | some o => rw [ho] at h; cases o <;> first | exact h.elim | exact UQ h (fun k h => Yh h fun h => Zj h fun _ h => h) | exact JE h fun h => Zj h fun _ h => h
noncomputable def wSlice (o : PV) (lo hi : Option PV) (U : St) (Q : PV -> St -> Prop) : Prop := opP (ZS lo) fun a => opP (ZS hi) fun b => match o with
 | .tup xs => gd (Jp xs.length) (Q (.tup (OP xs a b)) U)
 | .loc l => obP U[l]? (fun xs => gd (Jp xs.length) (wAl (.list (OP xs a b)) U Q)) (fun xs => gd (Jp xs.length) (wAl (.list (OP xs a b)) U Q)) noD noI
 | _ => False
theorem slice_w {o : PV} {lo hi : Option PV} {U : St} {Q : PV -> St -> Prop} (h : wSlice o lo hi U Q) : Rn (UM o lo hi U) Q E := by
 refine Zj h fun a h => Zj h fun b h => ?_
 cases o with
 | tup xs => exact JE h fun h => h
 | loc l =>
  have h : obP U[l]? (fun xs => gd (Jp xs.length) (wAl (.list (OP xs a b)) U Q)) (fun xs => gd (Jp xs.length) (wAl (.list (OP xs a b)) U Q)) noD noI := h
  show Rn (sliO U[l]? a b U) Q E
  cases ho : U[l]? with
  | none => rw [ho] at h; exact h.elim
  | some o => rw [ho] at h; cases o <;> first | exact h.elim | exact JE h fun h => h _ .mk'
 | _ => exact h.elim
noncomputable def wGet (o : PV) (a : Nat) (U : St) (Q : PV -> St -> Prop) : Prop := match o with
 | .loc l => obP U[l]? noL noL noD fun _ fs => gd (decide (a < ND)) (opP (fs.lookup a) fun v => Q v U)
 | _ => False
set_option tactic.hygienic true in
theorem get_w {o : PV} {a : Nat} {U : St} {Q : PV -> St -> Prop} (h : wGet o a U Q) : Rn (KJ o a U) Q E := by
 cases o <;> first | exact h.elim | skip
 rename_i l
 have h : obP U[l]? noL noL noD (fun _ fs => gd (decide (a < ND)) (opP (fs.lookup a) fun v => Q v U)) := h
 show Rn (optR (Zl U[l]?) _) Q E
 generalize U[l]? = o at h
 cases o with
 | none => exact h.elim
 | some o => cases o <;> first | exact h.elim | exact Yh h fun h => Zj h fun _ h => h
noncomputable def wSetA (o : PV) (a : Nat) (v : PV) (U : St) (Q : St -> Prop) : Prop := match o with
 | .loc l => obP U[l]? noL noL noD fun c fs => gd (decide (a < ND)) (∀ U', Se l (.inst c (putF a v fs)) U U' -> Q U')
 | _ => False
set_option tactic.hygienic true in
theorem setA_w {o : PV} {a : Nat} {v : PV} {U : St} {Q : St -> Prop} (h : wSetA o a v U Q) : Rn (KB o a v U) (fun _ U => Q U) E := by
 cases o <;> first | exact h.elim | skip
 rename_i l
 have h : obP U[l]? noL noL noD (fun c fs => gd (decide (a < ND)) (∀ U', Se l (.inst c (putF a v fs)) U U' -> Q U')) := h
 show Rn (optR (Zl U[l]?) _) _ E
 generalize ho : U[l]? = o at h
 cases o with
 | none => exact h.elim
 | some o => cases o <;> first | exact h.elim | exact Yh h fun h => h _ .mk'
noncomputable def wSetI (o i v : PV) (U : St) (Q : St -> Prop) : Prop := match o with
 | .loc l => obP U[l]? (fun xs => Oh i fun k => gd (decide (0 ≤ k /\ k.toNat < xs.length /\ k ≤ 1000000)) (∀ U', Se l (.list (xs.set k.toNat v)) U U' -> Q U')) noL (fun es => gd (decide (Jt i es /\ es.length ≤ 100000)) (∀ U', Se l (.dict (Ob i v es)) U U' -> Q U')) noI
 | _ => False
set_option tactic.hygienic true in
theorem setI_w {o i v : PV} {U : St} {Q : St -> Prop} (h : wSetI o i v U Q) : Rn (KA o i v U) (fun _ U => Q U) E := by
 cases o <;> first | exact h.elim | skip
 rename_i l
 have h : obP U[l]? (fun xs => Oh i fun k => gd (decide (0 ≤ k /\ k.toNat < xs.length /\ k ≤ 1000000)) (∀ U', Se l (.list (xs.set k.toNat v)) U U' -> Q U')) noL (fun es => gd (decide (Jt i es /\ es.length ≤ 100000)) (∀ U', Se l (.dict (Ob i v es)) U U' -> Q U')) noI := h
 show Rn (setObj l U[l]? i v U) _ E
 generalize U[l]? = o at h
 cases o with
 | none => exact h.elim
 | some o =>
  cases o <;> first | exact h.elim | exact Yh h (fun h => h _ .mk') | skip
  cases i <;> first | exact h.elim | exact Yh h fun h => h _ .mk'
noncomputable def wSrc0 (v : PV) (U : St) (Q : Src -> St -> Prop) : Prop := match v with
 | .tup xs => Q (.imm xs) U
 | .str x => gd (ZP x) (Q (.imm (YD x)) U)
 | .loc l => obP U[l]? (fun _ => Q (.lst l) U) noL noD noI
 | _ => False
noncomputable def wSrc2 (v w : PV) (U : St) (Q : Src -> St -> Prop) : Prop := match v with
 | .tup xs => (match w with
  | .str y => gd (ZP y) (∀ U', Al .junk U U' -> Q (.zip ((xs.zip (YD y)).map fun p => .tup [p.1, p.2]) U.length) U')
  | _ => False)
 | _ => False
noncomputable def wSrc (kind : Nat) (vs : List PV) (U : St) (Q : Src -> St -> Prop) : Prop := match kind with
 | 0 => (match vs with
  | [v] => wSrc0 v U Q
  | _ => False)
 | 1 => (match vs with
  | [v] => Oh v fun n => gd (decide (0 ≤ n /\ n ≤ 100000)) (Q (.imm ((List.range n.toNat).map fun (i : Nat) => PV.int i)) U)
  | _ => False)
 | 2 => (match vs with
  | [v, w] => wSrc2 v w U Q
  | _ => False)
 | _ => False
theorem src_w {kind : Nat} {vs : List PV} {U : St} {Q : Src -> St -> Prop} (h : wSrc kind vs U Q) : Rn (Zd kind vs U) Q E := by
 have two : ∀ v w, wSrc2 v w U Q -> Rn (src2 v w U) Q E := fun v w h => by
  cases v <;> first | exact h.elim | skip
  cases w <;> first | exact h.elim | exact JE h fun h => h _ .mk'
 have one : ∀ v, wSrc0 v U Q -> Rn (src0 v U) Q E := fun v h => by
  cases v <;> first | exact h.elim | exact JE h (fun h => h) | exact h | skip
  obtain ⟨xs, hx, h⟩ := ob_L h
  show Rn (if isLs U[_]? then _ else _) Q E
  rw [hx]
  exact h
 cases vs with
 | nil => exact (by unfold wSrc at h; split at h <;> exact h.elim)
 | cons v r =>
 match kind, r, h with
 | 0, [], h => exact one v h
 | 1, [], h =>
  have h : Oh v fun n => gd (decide (0 ≤ n /\ n ≤ 100000)) (Q (.imm ((List.range n.toNat).map fun (i : Nat) => PV.int i)) U) := h
  show Rn (src1 v U) Q E
  cases v <;> first | exact h.elim | exact Yh h fun h => h
 | 2, [w], h => exact two v w h
end
section
noncomputable def varP (o : Option (Option PV)) (P : PV -> Prop) : Prop := hg3 (match o with
 | some (some v) => P v
 | _ => False)
noncomputable def JP {α : Type} (r : Sum α PV) (N : α -> Prop) (K : PV -> Prop) : Prop := match r with
 | .inl a => N a
 | .inr v => K v
noncomputable def isN (r : PV) (P : Prop) : Prop := match r with
 | .none => P
 | _ => False
noncomputable def isNo {α : Type} (o : Option α) (P : Prop) : Prop := match o with
 | .none => P
 | some _ => False
noncomputable def noE : Nat -> St -> Prop := fun _ _ => False
noncomputable def wUm (T : Tb) (m : Nat) (x : PV) (U : St) (K : Nat -> Prop) : Prop := match x with
 | .loc l => obP U[l]? noL noL noD fun c fs => opP (T.ME c m) fun f => isNo (fs.lookup m) (K f)
 | _ => False
noncomputable def brA (isAnd t : Bool) (P P' : Prop) : Prop := match isAnd with
 | true => br t P P'
 | false => br t P' P
section
variable (w : IE -> St -> (PV -> St -> Prop) -> Prop)
noncomputable def wL : List IE -> St -> (List PV -> St -> Prop) -> Prop
 | [], U, Q => hg3 (Q [] U)
 | e :: es, U, Q => w e U fun v U => wL es U fun vs U => Q (v :: vs) U
noncomputable def wPairs : List (IE × IE) -> St -> (List (PV × PV) -> St -> Prop) -> Prop
 | [], U, Q => Q [] U
 | e :: es, U, Q => w e.1 U fun k U => w e.2 U fun v U => wPairs es U fun vs U => Q ((k, v) :: vs) U
noncomputable def wOpt (o : Option IE) (U : St) (Q : Option PV -> St -> Prop) : Prop := match o with
 | .none => Q .none U
 | some e => w e U fun v U => Q (some v) U
noncomputable def wChain (a : PV) : List (CmpOp × IE) -> St -> (Bool -> St -> Prop) -> Prop
 | [], _, _ => False
 | p :: r, U, Q => match r with
  | [] => w p.2 U fun b U => wCmp p.1 a b U Q
  | _ :: _ => w p.2 U fun b U => wCmp p.1 a b U fun t U => br t (wChain b r U Q) (Q false U)
noncomputable def wBop (isAnd : Bool) : List IE -> St -> (PV -> St -> Prop) -> Prop
 | [], _, _ => False
 | e :: r, U, Q => match r with
  | [] => w e U Q
  | _ :: _ => w e U fun v U => wTru v U fun t U => brA isAnd t (wBop isAnd r U Q) (Q v U)
variable (wc : IE -> St -> (Bool -> St -> Prop) -> Prop)
noncomputable def wAll (isAnd : Bool) : List IE -> St -> (Bool -> St -> Prop) -> Prop
 | [], U, Q => Q isAnd U
 | e :: r, U, Q => wc e U fun t U => brA isAnd t (wAll isAnd r U Q) (Q (!isAnd) U)
noncomputable def wIfs : List IE -> St -> (Bool -> St -> Prop) -> Prop
 | [], U, Q => Q true U
 | e :: r, U, Q => wc e U fun t U => br t (wIfs r U Q) (Q false U)
end
mutual
noncomputable def wE (T : Tb) : Nat -> Fr -> (Nat -> St -> Prop) -> IE -> St -> (PV -> St -> Prop) -> Prop
 | 0, _, _, _, _, _ => False
 | n + 1, fr, E, e, U, Q => match e with
  | .cst v => Q v U
  | .var i => varP fr[i]? fun v => Q v U
  | .neg e => wE T n fr E e U fun v U => Oh v fun i => Q (.int (-i)) U
  | .not e => wE T n fr E e U fun v U => wTru v U fun b U => Q (.bool (!b)) U
  | .bop isAnd es => wBop (wE T n fr E) isAnd es U Q
  | .ite c t e => wC T n fr E c U fun b U => br b (wE T n fr E t U Q) (wE T n fr E e U Q)
  | .bin op a b => wE T n fr E a U fun x U => wE T n fr E b U fun y U => wBin op x y U Q
  | .cmp a r => wE T n fr E a U fun x U => wChain (wE T n fr E) x r U fun b U => Q (.bool b) U
  | .list es => wL (wE T n fr E) es U fun vs U => gd (Jp vs.length) (wAl (.list vs) U Q)
  | .tup es => wL (wE T n fr E) es U fun vs U => gd (Jp vs.length) (Q (.tup vs) U)
  | .dict kvs => gd (decide (kvs.length ≤ 15)) (wPairs (wE T n fr E) kvs U fun ps U => opP (Oo [] ps) fun es => wAl (.dict es) U Q)
  | .call f es => wL (wE T n fr E) es U fun vs U => Rn (T.F f vs U) Q E
  | .new c es => wL (wE T n fr E) es U fun vs U => gd (decide (c < NC)) (opP (T.IN c) fun f => ∀ U', Al (.inst c []) U U' -> Rn (T.F f (.loc U.length :: vs) U') (fun r U' => isN r (Q (.loc U.length) U')) E)
  | .blt b es => wL (wE T n fr E) es U fun vs U => wBi b vs U Q
  | .meth m o es => wE T n fr E o U fun x U => gd (Gn m x U) (wL (wE T n fr E) es U fun vs U => wMeth m x vs U Q)
  | .umeth m o es => wE T n fr E o U fun x U => wUm T m x U fun f => wL (wE T n fr E) es U fun vs U => Rn (T.F f (x :: vs) U) Q E
  | .attr o a => wE T n fr E o U fun x U => wGet x a U Q
  | .sub o i => wE T n fr E o U fun x U => wE T n fr E i U fun y U => wSub x y U Q
  | .slice o lo hi => wE T n fr E o U fun x U => wOpt (wE T n fr E) lo U fun a U => wOpt (wE T n fr E) hi U fun b U => wSlice x a b U Q
  | .comp elt val tgt isTup kind its ifs base width => gd (decide (fr.length = base)) (wL (wE T n fr noE) its U fun vs U => wSrc kind vs U fun src U => match val with
    | none => Rn (Jy (Jq (evC T n) (emL (evE T n) elt) tgt isTup ifs) src (fr ++ List.replicate width none, []) U) (fun r U => JP r (fun p => wAl (.list p.2) U Q) fun _ => False) noE
    | some v => Rn (Jy (Jq (evC T n) (emD (evE T n) elt v) tgt isTup ifs) src (fr ++ List.replicate width none, []) U) (fun r U => JP r (fun p => wAl (.dict p.2) U Q) fun _ => False) noE)
noncomputable def wC (T : Tb) : Nat -> Fr -> (Nat -> St -> Prop) -> IE -> St -> (Bool -> St -> Prop) -> Prop
 | 0, _, _, _, _, _ => False
 | n + 1, fr, E, e, U, Q => match e with
  | .not e => wC T n fr E e U fun b U => Q (!b) U
  | .bop isAnd es => wAll (wC T n fr E) isAnd es U Q
  | .ite c t e => wC T n fr E c U fun b U => br b (wC T n fr E t U Q) (wC T n fr E e U Q)
  | .cmp a r => wE T n fr E a U fun x U => wChain (wE T n fr E) x r U Q
  | e => wE T n fr E e U fun v U => wTru v U Q
end
section
variable {α : Type} {E : Nat -> St -> Prop} {U : St}
theorem var_w {o : Option (Option PV)} {P : PV -> Prop} {f : PV -> R α} {Q : α -> St -> Prop} (h : varP o P) (k : ∀ v, P v -> Rn (f v) Q E) : Rn (match o with | some (some v) => f v | _ => .stuck) Q E := by
 cases o with
 | none => exact h.elim
 | some o => cases o with
  | none => exact h.elim
  | some v => exact k v h
variable {w : IE -> St -> (PV -> St -> Prop) -> Prop} {ev : IE -> St -> R PV} (hw : ∀ e U Q, w e U Q -> Rn (ev e U) Q E)
include hw
theorem l_w {es : List IE} : ∀ {U : St} {Q : List PV -> St -> Prop}, wL w es U Q -> Rn (Jo ev es U) Q E := by
 induction es with
 | nil => exact fun h => h
 | cons e es ih => exact fun h => .bind' (hw _ _ _ h) fun v U h => .bind' (ih h) fun vs U h => h
theorem pairs_w {es : List (IE × IE)} : ∀ {U : St} {Q : List (PV × PV) -> St -> Prop}, wPairs w es U Q -> Rn (OR ev es U) Q E := by
 induction es with
 | nil => exact fun h => h
 | cons e es ih => exact fun h => .bind' (hw _ _ _ h) fun k U h => .bind' (hw _ _ _ h) fun v U h => .bind' (ih h) fun vs U h => h
theorem opt_w {o : Option IE} {Q : Option PV -> St -> Prop} (h : wOpt w o U Q) : Rn (Kn ev o U) Q E := by
 cases o with
 | none => exact h
 | some e => exact .bind' (hw _ _ _ h) fun v U h => h
theorem chain_w {r : List (CmpOp × IE)} : ∀ {a : PV} {U : St} {Q : Bool -> St -> Prop}, wChain w a r U Q -> Rn (Yo ev a r U) Q E := by
 induction r with
 | nil => exact fun h => h.elim
 | cons p r ih => cases r with
  | nil => exact fun h => .bind' (hw _ _ _ h) fun b U h => cmp_w h
  | cons q r => exact fun h => .bind' (hw _ _ _ h) fun b U h => .bind' (cmp_w h) fun t U h => Ui h (fun h => ih h) fun h => h
omit hw in
theorem brA_w {b t : Bool} {P P' : Prop} {m n : R α} {Q : α -> St -> Prop} (h : brA b t P P') (k : P -> Rn m Q E) (k' : P' -> Rn n Q E) : Rn (if t == b then m else n) Q E := by
 cases b <;> cases t <;> first | exact k h | exact k' h
theorem bop_w {b : Bool} {es : List IE} : ∀ {U : St} {Q : PV -> St -> Prop}, wBop w b es U Q -> Rn (evBop ev b es U) Q E := by
 induction es with
 | nil => exact fun h => h.elim
 | cons e r ih => cases r with
  | nil => exact fun h => hw _ _ _ h
  | cons f r => exact fun h => .bind' (hw _ _ _ h) fun v U h => .bind' (tru_w h) fun t U h => brA_w h (fun h => ih h) fun h => h
omit hw
variable {wc : IE -> St -> (Bool -> St -> Prop) -> Prop} {ec : IE -> St -> R Bool} (hc : ∀ e U Q, wc e U Q -> Rn (ec e U) Q E)
include hc
theorem all_w {b : Bool} {es : List IE} : ∀ {U : St} {Q : Bool -> St -> Prop}, wAll wc b es U Q -> Rn (evAll ec b es U) Q E := by
 induction es with
 | nil => exact fun h => h
 | cons e r ih => exact fun h => .bind' (hc _ _ _ h) fun t U h => by cases b <;> cases t <;> first | exact ih h | exact h
theorem ifs_w {es : List IE} : ∀ {U : St} {Q : Bool -> St -> Prop}, wIfs wc es U Q -> Rn (evIfs ec es U) Q E := by
 induction es with
 | nil => exact fun h => h
 | cons e r ih => exact fun h => .bind' (hc _ _ _ h) fun t U h => Ui h (fun h => ih h) fun h => h
end
set_option tactic.hygienic true in
theorem um_w {T : Tb} {args : St -> R (List PV)} {m : Nat} {x : PV} {U : St} {Q : PV -> St -> Prop} {E : Nat -> St -> Prop} {K : Nat -> Prop} (h : wUm T m x U K) (k : ∀ f, K f -> Rn ((args U).bind fun vs U => T.F f (x :: vs) U) Q E) : Rn (umE T args m x U) Q E := by
 cases x <;> first | exact h.elim | skip
 rename_i l
 have h : obP U[l]? noL noL noD (fun c fs => opP (T.ME c m) fun f => isNo (fs.lookup m) (K f)) := h
 show Rn (optR (Zl U[l]?) _) Q E
 generalize U[l]? = o at h
 cases o with
 | none => exact h.elim
 | some o =>
  cases o <;> first | exact h.elim | skip
  rename_i c fs
  refine Zj (P := fun f => isNo (fs.lookup m) (K f)) h fun f h => ?_
  show Rn (if (fs.lookup m).isNone = true then _ else _) Q E
  generalize fs.lookup m = o2 at h
  cases o2 with
  | none => exact k f h
  | some _ => exact h.elim
theorem comp_w {α : Type} {T : Tb} {n : Nat} {fr : Fr} {em : Fr -> α -> St -> R α} {po : α -> PO} {a0 : α} {tgt : List Nat} {isTup : Bool} {kind : Nat} {its ifs : List IE} {base width : Nat} {U : St} {Q : PV -> St -> Prop} {E : Nat -> St -> Prop} {w : IE -> St -> (PV -> St -> Prop) -> Prop} (hw : ∀ e U Q, w e U Q -> Rn (evE T n fr e U) Q noE)
  (h : gd (decide (fr.length = base)) (wL w its U fun vs U => wSrc kind vs U fun src U =>
    Rn (Jy (Jq (evC T n) em tgt isTup ifs) src (fr ++ List.replicate width none, a0) U) (fun r U => JP r (fun p => wAl (po p.2) U Q) fun _ => False) noE)) :
  Rn (OZ (evC T n) em po a0 tgt isTup ifs (YC (evE T n) kind its) base width fr U) Q E :=
 Uh (Yh h fun h => .bind' (.bind' (l_w hw h) fun vs U h => src_w h) fun src U h => .bind' h fun r U h => by
  cases r with
  | inl p => exact h _ .mk'
  | inr v => exact h)
theorem ev_w (T : Tb) (n : Nat) : (∀ fr E e U Q, wE T n fr E e U Q -> Rn (evE T n fr e U) Q E) /\ ∀ fr E e U Q, wC T n fr E e U Q -> Rn (evC T n fr e U) Q E := by
 induction n with
 | zero => exact ⟨fun fr E e U Q h => h.elim, fun fr E e U Q h => h.elim⟩
 | succ n ih =>
  obtain ⟨iE, iC⟩ := ih
  have hE : ∀ fr E e U Q, wE T (n + 1) fr E e U Q -> Rn (evE T (n + 1) fr e U) Q E := fun fr E e U Q h => by
   cases e with
   | cst v => exact h
   | var i => exact var_w h fun v h => h
   | neg e => exact .bind' (iE _ _ _ _ _ h) fun v U h => by cases v <;> first | exact h.elim | exact h
   | not e => exact .bind' (iE _ _ _ _ _ h) fun v U h => .bind' (tru_w h) fun b U h => h
   | bop b es => exact bop_w (iE _ _) h
   | ite c t e => exact .bind' (iC _ _ _ _ _ h) fun b U h => Ui h (iE _ _ _ _ _) (iE _ _ _ _ _)
   | bin op a b => exact .bind' (iE _ _ _ _ _ h) fun x U h => .bind' (iE _ _ _ _ _ h) fun y U h => bin_w h
   | cmp a r => exact .bind' (iE _ _ _ _ _ h) fun x U h => .bind' (chain_w (iE _ _) h) fun b U h => h
   | list es => exact .bind' (l_w (iE _ _) h) fun vs U h => JE h fun h => h _ .mk'
   | tup es => exact .bind' (l_w (iE _ _) h) fun vs U h => JE h fun h => h
   | dict kvs =>
    refine Yh h fun h => .bind' (pairs_w (iE _ _) h) fun ps U h => ?_
    generalize Oo [] ps = o at h
    cases o with
    | none => exact h.elim
    | some es => exact h _ .mk'
   | call f es => exact .bind' (l_w (iE _ _) h) fun vs U h => h
   | new c es =>
    refine .bind' (l_w (iE _ _) h) fun vs U h => ?_
    by_cases hc : c < NC
    ·rw [if_pos hc]
     rw [decide_eq_true hc] at h
     have h : opP (T.IN c) (fun f => ∀ U', Al (.inst c []) U U' -> Rn (T.F f (.loc U.length :: vs) U') (fun r U' => isN r (Q (.loc U.length) U')) E) := h
     generalize T.IN c = o at h
     cases o with
     | none => exact h.elim
     | some f =>
      refine .bind ?_
      show Rn ((T.F f (.loc U.length :: vs) (U ++ [.inst c []])).bind _) Q E
      exact .bind' (h _ .mk') fun r U' (h : isN r _) => by cases r <;> first | exact h.elim | exact h
    ·rw [decide_eq_false hc] at h; exact h.elim
   | blt b es => exact .bind' (l_w (iE _ _) h) fun vs U h => bi_w h
   | meth m o es => exact .bind' (iE _ _ _ _ _ h) fun x U h => JE h fun h => .bind' (l_w (iE _ _) h) fun vs U h => meth_w h
   | umeth m o es => exact .bind' (iE _ _ _ _ _ h) fun x U h => um_w h fun f h => .bind' (l_w (iE _ _) h) fun vs U h => h
   | attr o a => exact .bind' (iE _ _ _ _ _ h) fun x U h => get_w h
   | sub o i => exact .bind' (iE _ _ _ _ _ h) fun x U h => .bind' (iE _ _ _ _ _ h) fun y U h => sub_w h
   | slice o lo hi => exact .bind' (iE _ _ _ _ _ h) fun x U h => .bind' (opt_w (iE _ _) h) fun a U h => .bind' (opt_w (iE _ _) h) fun b U h => slice_w h
   | comp elt val tgt isTup kind its ifs base width => cases val with
    | none => exact comp_w (iE _ _) h
    | some _ => exact comp_w (iE _ _) h
  refine ⟨hE, fun fr E e U Q h => ?_⟩
  have fb : (wE T n fr E e U fun v U => wTru v U Q) -> Rn ((evE T n fr e U).bind fun v U => Kt v U) Q E := fun h => .bind' (iE _ _ _ _ _ h) fun v U h => tru_w h
  cases e with
  | not e => exact .bind' (iC _ _ _ _ _ h) fun b U h => h
  | bop b es => exact all_w (iC _ _) h
  | ite c t e => exact .bind' (iC _ _ _ _ _ h) fun b U h => Ui h (iC _ _ _ _ _) (iC _ _ _ _ _)
  | cmp a r => exact .bind' (iE _ _ _ _ _ h) fun x U h => chain_w (iE _ _) h
  | _ => exact fb h
end
noncomputable def itP (U : St) (v : PV) (P : List PV -> Prop) : Prop := match v with
 | .tup xs => P xs
 | .loc l => obP U[l]? P noL noD noI
 | _ => False
noncomputable def wTwo (vs : List PV) (P : PV -> PV -> Prop) : Prop := match vs with
 | [x, y] => P x y
 | _ => False
set_option tactic.hygienic true in
noncomputable def flP (fl : Fl) (N : Fr -> Prop) (K : PV -> Prop) : Prop := match fl with
 | .next fr => N fr
 | .ret v => K v
mutual
noncomputable def wT (T : Tb) : Nat -> Fr -> (Nat -> St -> Prop) -> IT -> PV -> St -> (Fr -> St -> Prop) -> Prop
 | 0, _, _, _, _, _, _ => False
 | n + 1, fr, E, t, v, U, Q => match t with
  | .name i => gd (decide (i < fr.length)) (Q (fr.set i (some v)) U)
  | .tup ts => itP U v fun vs => gd (decide (ts.length = vs.length)) (wTs T n fr E ts vs U Q)
  | .attr o a => wE T n fr E o U fun x U => wSetA x a v U fun U => Q fr U
  | .sub o i => wE T n fr E o U fun x U => wE T n fr E i U fun y U => wSetI x y v U fun U => Q fr U
noncomputable def wTs (T : Tb) : Nat -> Fr -> (Nat -> St -> Prop) -> List IT -> List PV -> St -> (Fr -> St -> Prop) -> Prop
 | 0, _, _, _, _, _, _ => False
 | n + 1, fr, E, ts, vs, U, Q => match ts with
  | [] => (match vs with
   | [] => Q fr U
   | _ :: _ => False)
  | t :: ts => (match vs with
   | [] => False
   | v :: vs => wT T n fr E t v U fun fr U => wTs T n fr E ts vs U Q)
end
mutual
noncomputable def wS (T : Tb) : Nat -> Fr -> (Nat -> St -> Prop) -> IS -> St -> (Fr -> St -> Prop) -> (PV -> St -> Prop) -> Prop
 | 0, _, _, _, _, _, _ => False
 | n + 1, fr, E, s, U, N, K => match s with
  | .expr e => wE T n fr E e U fun _ U => N fr U
  | .ret e => wE T n fr E e U K
  | .asg t e => wE T n fr E e U fun v U => wT T n fr E t v U N
  | .ife c t e => wC T n fr E c U fun b U => br b (wSs T n fr E t U N K) (wSs T n fr E e U N K)
  | .forr t kind its b => wL (wE T n fr E) its U fun vs U => wSrc kind vs U fun src U => Rn (Jy (JK (evT T n) (evSs T n) t b) src fr U) (fun r U => JP r (fun fr => N fr U) fun v => K v U) E
  | .raise c => E c U
  | .whl c b => Rn (Ki (fun fr U => evC T n fr c U) (fun fr U => evSs T n fr b U) whileFuel fr U) (fun fl U => flP fl (fun fr => N fr U) fun v => K v U) noE
  | .asg2 i j e => wE T n fr E e U fun v U => itP U v fun vs => wTwo vs fun v1 v2 => gd (decide (i < fr.length /\ j < fr.length)) (N ((fr.set i (some v1)).set j (some v2)) U)
  | .tryn b => wSs T n fr noE b U N K
  | .tryx i e b c j v => wE T n fr (fun c' U => c = c' /\ gd (decide (j < fr.length)) (N (fr.set j (some v)) U)) e U fun x U => gd (decide (i < fr.length)) (wSs T n (fr.set i (some x)) noE b U N K)
noncomputable def wSs (T : Tb) : Nat -> Fr -> (Nat -> St -> Prop) -> List IS -> St -> (Fr -> St -> Prop) -> (PV -> St -> Prop) -> Prop
 | 0, _, _, _, _, _, _ => False
 | n + 1, fr, E, ss, U, N, K => match ss with
  | [] => N fr U
  | s :: ss => wS T n fr E s U (fun fr U => wSs T n fr E ss U N K) K
end
theorem OU {T : Tb} {n : Nat} {fr : Fr} {E : Nat -> St -> Prop} {e : IE} {U : St} {Q : PV -> St -> Prop} (h : wE T n fr E e U Q) : Rn (evE T n fr e U) Q E := (ev_w T n).1 _ _ _ _ _ h
theorem wC_ok {T : Tb} {n : Nat} {fr : Fr} {E : Nat -> St -> Prop} {e : IE} {U : St} {Q : Bool -> St -> Prop} (h : wC T n fr E e U Q) : Rn (evC T n fr e U) Q E := (ev_w T n).2 _ _ _ _ _ h
theorem it_w {α : Type} {U : St} {v : PV} {P : List PV -> Prop} {f : List PV -> R α} {Q : α -> St -> Prop} {E : Nat -> St -> Prop} (h : itP U v P) (k : ∀ vs, P vs -> Rn (f vs) Q E) : Rn (match Yy U v with
    | some vs => f vs
    | .none => .stuck) Q E := by
 cases v <;> first | exact h.elim | exact k _ h | skip
 obtain ⟨xs, hx, h⟩ := ob_L h
 have e : ∀ l, U[l]? = some (.list xs) -> Yy U (.loc l) = some xs := fun l q => (congrArg Ul q :)
 rw [e _ hx]
 exact k _ h
theorem evT_w (T : Tb) (n : Nat) : (∀ fr E t v U Q, wT T n fr E t v U Q -> Rn (evT T n fr t v U) Q E) /\ ∀ fr E ts vs U Q, wTs T n fr E ts vs U Q -> Rn (evTs T n fr ts vs U) Q E := by
 induction n with
 | zero => exact ⟨fun fr E t v U Q h => h.elim, fun fr E t v U Q h => h.elim⟩
 | succ n ih =>
  refine ⟨fun fr E t v U Q h => ?_, fun fr E ts vs U Q h => ?_⟩
  ·cases t with
   | name i => exact Yh h fun h => h
   | tup ts => exact it_w h fun vs h => Yh h fun h => ih.2 _ _ _ _ _ _ h
   | attr o a => exact .bind' (OU h) fun x U h => .bind' (setA_w h) fun _ U h => h
   | sub o i => exact .bind' (OU h) fun x U h => .bind' (OU h) fun y U h => .bind' (setI_w h) fun _ U h => h
  ·cases ts <;> cases vs <;> first | exact h.elim | exact h | exact .bind' (ih.1 _ _ _ _ _ _ h) fun fr U h => ih.2 _ _ _ _ _ _ h
set_option tactic.hygienic true in
theorem evS_w (T : Tb) (n : Nat) : (∀ fr E s U N K, wS T n fr E s U N K -> Rn (evS T n fr s U) (fun fl U => flP fl (fun fr => N fr U) fun v => K v U) E) /\ ∀ fr E ss U N K, wSs T n fr E ss U N K -> Rn (evSs T n fr ss U) (fun fl U => flP fl (fun fr => N fr U) fun v => K v U) E := by
 induction n with
 | zero => exact ⟨fun fr E s U N K h => h.elim, fun fr E s U N K h => h.elim⟩
 | succ n ih =>
  refine ⟨fun fr E s U N K h => ?_, fun fr E ss U N K h => ?_⟩
  ·cases s with
   | expr e => exact .bind' (OU h) fun _ U h => h
   | ret e => exact .bind' (OU h) fun _ U h => h
   | asg t e => exact .bind' (OU h) fun v U h => .bind' ((evT_w T n).1 _ _ _ _ _ _ h) fun fr U h => h
   | ife c t e => exact .bind' (wC_ok h) fun b U h => Ui h (ih.2 _ _ _ _ _ _) (ih.2 _ _ _ _ _ _)
   | forr t kind its b => exact .bind' (.bind' (l_w ((ev_w T n).1 _ _) h) fun vs U h => src_w h) fun src U (h : Rn _ _ _) => .bind' h fun r U h => by cases r <;> exact h
   | raise c => exact h
   | whl c b => exact Uh h
   | asg2 i j e =>
    refine .bind' (OU h) fun v U h => ?_
    have k : ∀ vs, wTwo vs (fun v1 v2 => gd (decide (i < fr.length /\ j < fr.length)) (N ((fr.set i (some v1)).set j (some v2)) U)) -> Rn (twoR (some vs) (setTwo fr i j U)) (fun fl U => flP fl (fun fr => N fr U) fun v => K v U) E := fun vs h => by
     rcases vs with _ | ⟨x, _ | ⟨y, _ | ⟨_, _⟩⟩⟩
     ·exact h.elim
     ·exact h.elim
     ·exact Yh h fun h => h
     ·exact h.elim
    cases v <;> first | exact h.elim | exact k _ h | skip
    obtain ⟨xs, hx, h⟩ := ob_L h
    show Rn (twoR (Ul U[_]?) _) _ E
    rw [hx]
    exact k _ h
   | tryn b => exact Uh ((ih.2 _ _ _ _ _ _ h).mono (fun _ _ h => h) fun _ _ h => h)
   | tryx i e b c j v =>
    have h := OU h
    show Rn (tryR (evE T n fr e U) _ c _) _ E
    cases hm : evE T n fr e U with
    | ok x U =>
     rw [hm] at h
     exact Uh (Yh h fun h => (ih.2 _ _ _ _ _ _ h).mono (fun _ _ h => h) fun _ _ h => h)
    | exc c' U =>
     rw [hm] at h
     show Rn (if c = c' then _ else _) _ E
     rw [if_pos h.1]
     exact Yh h.2 fun h => h
    | stuck => rw [hm] at h; exact h.elim
  ·cases ss with
   | nil => exact h
   | cons s ss =>
    refine .bind' (ih.1 _ _ _ _ _ _ h) fun fl U h => ?_
    cases fl with
    | next fr => exact ih.2 _ _ _ _ _ _ h
    | ret v => exact h
theorem fn_w {T : Tb} {f : Fn} {args : List PV} {U : St} {Q : PV -> St -> Prop} {E : Nat -> St -> Prop} (h : args.length = f.nargs /\ f.nargs ≤ f.width)
  (hr : wSs T OY (args.map some ++ List.replicate (f.width - f.nargs) .none) E f.body U (fun _ U => Q .none U) Q) : Rn (Yj T f args U) Q E := by
 have hr := (evS_w T _).2 _ _ _ _ _ _ hr
 unfold Yj
 rw [if_pos h]
 cases hm : evSs T OY (args.map some ++ List.replicate (f.width - f.nargs) .none) f.body U with
 | ok fl U => rw [hm] at hr; cases fl <;> exact hr
 | exc c U => rw [hm] at hr; exact hr
 | stuck => rw [hm] at hr; exact hr
theorem F_of {P : Prg} {d k : Nat} {f : Fn} {args : List PV} {U : St} {Q : PV -> St -> Prop} {E : Nat -> St -> Prop} (hf : P.fns k = some f) (h : Rn (Yj (tb P d) f args U) Q E) : Rn ((tb P (d + 1)).F k args U) Q E := by
 show Rn (match P.fns k with
  | some f => Yj (tb P d) f args U
  | none => .stuck) Q E
 rw [hf]
 exact h
theorem F_w {P : Prg} {d k : Nat} {f : Fn} {args : List PV} {U : St} {Q : PV -> St -> Prop} {E : Nat -> St -> Prop} (hf : P.fns k = some f) (h : args.length = f.nargs /\ f.nargs ≤ f.width)
  (hr : wSs (tb P d) OY (args.map some ++ List.replicate (f.width - f.nargs) .none) E f.body U (fun _ U => Q .none U) Q) : Rn ((tb P (d + 1)).F k args U) Q E :=
 F_of hf (fn_w h hr)
set_option tactic.hygienic true in
theorem while_w {T : Tb} {n : Nat} {c : IE} {b : List IS} {N : Fr -> St -> Prop} {K : PV -> St -> Prop} {E : Nat -> St -> Prop} (P : Nat -> Fr -> St -> Prop)
  (hs : ∀ k fr U, P k fr U -> wC T n fr E c U fun t U => br t (wSs T n fr E b U (fun fr U => ∃ k', k' < k /\ P k' fr U) K) (N fr U)) :
  ∀ {f k fr U}, k < f -> P k fr U -> Rn (Ki (fun fr U => evC T n fr c U) (fun fr U => evSs T n fr b U) f fr U) (fun fl U => flP fl (fun fr => N fr U) fun v => K v U) E := by
 intro f
 induction f with
 | zero => exact fun h _ => absurd h (Nat.not_lt_zero _)
 | succ f ih =>
  intro k fr U hk h
  refine .bind' (wC_ok (hs k fr U h)) fun t U h => Ui h (fun h => .bind' ((evS_w T n).2 _ _ _ _ _ _ h) fun fl U h => ?_) fun h => h
  cases fl with
  | next fr =>
   obtain ⟨k', hk', h⟩ := h
   exact ih (Nat.lt_of_lt_of_le hk' (Nat.le_of_lt_succ hk)) h
  | ret v => exact h
theorem Yb {T : Tb} {n : Nat} {t : IT} {b : List IS} {x : PV} {fr : Fr} {U : St} {Q : Sum Fr PV -> St -> Prop} {E : Nat -> St -> Prop} (h : wT T n fr E t x U fun fr U => wSs T n fr E b U (fun fr U => Q (.inl fr) U) fun v U => Q (.inr v) U) : Rn (JK (evT T n) (evSs T n) t b x fr U) Q E :=
 .bind' ((evT_w T n).1 _ _ _ _ _ _ h) fun fr U h => .bind' ((evS_w T n).2 _ _ _ _ _ _ h) fun fl U h => by cases fl <;> exact h
theorem cmpr_w {T : Tb} {n : Nat} {elt : IE} {tgt : List Nat} {isTup : Bool} {ifs : List IE} {x : PV} {p : Fr × List PV} {U : St} {Q : Sum (Fr × List PV) PV -> St -> Prop} {E : Nat -> St -> Prop}
  (h : opP (Zp p.1 tgt isTup x) fun fr => wIfs (wC T n fr E) ifs U fun t U => br t (wE T n fr E elt U fun v U => gd (Jp p.2.length) (Q (.inl (fr, p.2 ++ [v])) U)) (Q (.inl (fr, p.2)) U)) :
  Rn (Jq (evC T n) (emL (evE T n) elt) tgt isTup ifs x p U) Q E := by
 unfold Jq
 generalize Zp p.1 tgt isTup x = o at h
 cases o with
 | none => exact h.elim
 | some fr => exact .bind' (ifs_w ((ev_w T n).2 _ _) h) fun t U h => Ui h (fun h => .bind' (Q' := fun a U => Q (.inl (fr, a)) U) (.bind' (OU h) fun v U h => JE h fun h => h) fun a U h => h) fun h => h
theorem cmpd_w {T : Tb} {n : Nat} {elt val : IE} {tgt : List Nat} {isTup : Bool} {x : PV} {p : Fr × List (PV × PV)} {U : St} {Q : Sum (Fr × List (PV × PV)) PV -> St -> Prop} {E : Nat -> St -> Prop}
  (h : opP (Zp p.1 tgt isTup x) fun fr => wE T n fr E elt U fun k U => wE T n fr E val U fun v U => gd (decide (Jt k p.2 /\ p.2.length ≤ 100000)) (Q (.inl (fr, Ob k v p.2)) U)) :
  Rn (Jq (evC T n) (emD (evE T n) elt val) tgt isTup [] x p U) Q E := by
 unfold Jq
 generalize Zp p.1 tgt isTup x = o at h
 cases o with
 | none => exact h.elim
 | some fr => exact (show Rn ((emD (evE T n) elt val fr p.2 U).bind fun a U => .ok (.inl (fr, a)) U) Q E from .bind' (Q' := fun a U => Q (.inl (fr, a)) U) (.bind' (OU h) fun k U h => .bind' (OU h) fun v U h => Yh h fun h => h) fun a U h => h)
theorem ZD {T : Tb} {n : Nat} {elt : IE} {tgt : List Nat} {isTup : Bool} {x : PV} {p : Fr × List PV} {U : St} {Q : Sum (Fr × List PV) PV -> St -> Prop} {E : Nat -> St -> Prop}
  (h : opP (Zp p.1 tgt isTup x) fun fr => wE T n fr E elt U fun v U => gd (Jp p.2.length) (Q (.inl (fr, p.2 ++ [v])) U)) :
  Rn (Jq (evC T n) (emL (evE T n) elt) tgt isTup [] x p U) Q E := cmpr_w h
section
variable {α : Type} {body : PV -> α -> St -> R (Sum α PV)} {N : α -> St -> Prop} {K : PV -> St -> Prop} {E : Nat -> St -> Prop}
theorem lpI (P : List PV -> α -> St -> Prop) (h0 : ∀ a U, P [] a U -> N a U)
  (hs : ∀ x rest a U, P (x :: rest) a U -> ∀ M : α -> St -> Prop, (∀ a U, P rest a U -> M a U) -> Rn (body x a U) (fun r U' => JP r (fun a' => M a' U') fun v => K v U') E) {xs : List PV} : ∀ {a U}, P xs a U -> Rn (Jy body (.imm xs) a U) (fun r U => JP r (fun a => N a U) fun v => K v U) E := by
 induction xs with
 | nil => exact fun h => h0 _ _ h
 | cons x xs ih =>
  refine fun h => .bind' (hs _ _ _ _ h _ fun _ _ h => h) fun r U h => ?_
  cases r with
  | inl a => exact ih h
  | inr v => exact h
theorem lpZ (P : List PV -> α -> St -> Prop) (l : Nat) (hl : ∀ rest a U, P rest a U -> U[l]? = some .junk) (h0 : ∀ a U, P [] a U -> N a U)
  (hs : ∀ x rest a U, P (x :: rest) a U -> ∀ M : α -> St -> Prop, (∀ a U, P rest a U -> M a U) -> Rn (body x a U) (fun r U' => JP r (fun a' => M a' U') fun v => K v U') E) {xs : List PV} : ∀ {a U}, P xs a U -> Rn (Jy body (.zip xs l) a U) (fun r U => JP r (fun a => N a U) fun v => K v U) E := by
 induction xs with
 | nil =>
  intro a U h
  show Rn (Gr U[l]? _) _ E
  rw [hl _ _ _ h]; exact h0 _ _ h
 | cons x xs ih =>
  intro a U h
  show Rn (Gr U[l]? _) _ E
  rw [hl _ _ _ h]
  refine .bind' (hs _ _ _ _ h _ fun _ _ h => h) fun r U h => ?_
  cases r with
  | inl a => exact ih h
  | inr v => exact h
theorem lpL_aux {xs : List PV} (P : List PV -> α -> St -> Prop) (l : Nat) (hl : ∀ rest a U, P rest a U -> U[l]? = some (.list xs)) (h0 : ∀ a U, P [] a U -> N a U)
  (hs : ∀ x rest a U, P (x :: rest) a U -> ∀ M : α -> St -> Prop, (∀ a U, P rest a U -> M a U) -> Rn (body x a U) (fun r U' => JP r (fun a' => M a' U') fun v => K v U') E) {rest : List PV} : ∀ {k i a U}, xs.drop i = rest -> rest.length < k -> P rest a U -> Rn (Kj body l k i a U) (fun r U => JP r (fun a => N a U) fun v => K v U) E := by
 induction rest with
 | nil =>
  intro k i a U hd hk h
  cases k with
  | zero => exact absurd hk (Nat.not_lt_zero _)
  | succ k =>
   show Rn (lstO U[l]? _) _ E
   rw [hl _ _ _ h]
   show Rn (endO xs[i]? _ _) _ E
   rw [List.getElem?_eq_none (List.drop_eq_nil_iff.mp hd)]
   exact h0 _ _ h
 | cons x rest ih =>
  intro k i a U hd hk h
  cases k with
  | zero => exact absurd hk (Nat.not_lt_zero _)
  | succ k =>
   show Rn (lstO U[l]? _) _ E
   rw [hl _ _ _ h]
   show Rn (endO xs[i]? _ _) _ E
   have hx : xs[i]? = some x := by
    have := congrArg (fun l : List PV => l[0]?) hd
    rwa [List.getElem?_drop] at this
   rw [hx]
   refine .bind' (hs _ _ _ _ h _ fun _ _ h => h) fun r U h => ?_
   cases r with
   | inl a => exact ih (by rw [← List.drop_drop, hd]; rfl) (Nat.lt_of_succ_lt_succ hk) h
   | inr v => exact h
theorem lpL {xs : List PV} (P : List PV -> α -> St -> Prop) (l : Nat) {a : α} {U : St} (hk : xs.length < 2000) (h : P xs a U) (hl : ∀ rest a U, P rest a U -> U[l]? = some (.list xs)) (h0 : ∀ a U, P [] a U -> N a U)
  (hs : ∀ x rest a U, P (x :: rest) a U -> ∀ M : α -> St -> Prop, (∀ a U, P rest a U -> M a U) -> Rn (body x a U) (fun r U' => JP r (fun a' => M a' U') fun v => K v U') E) : Rn (Jy body (.lst l) a U) (fun r U => JP r (fun a => N a U) fun v => K v U) E :=
 lpL_aux P l hl h0 hs rfl hk h
end
structure Bx where
 g : Int
 s : Int
 p : Int
noncomputable def boxObj (c : Nat) (b : Bx) : PO := .list [.loc c, .int b.g, .int b.s, .int b.p]
theorem Jj {n : Nat} (h : n ≤ 1000000) : Jp n = true := decide_eq_true h
noncomputable def Kp (lb : Nat) (U U' : St) : Prop := ∀ (i : Nat) (o : PO), U[i]? = some o -> i ≠ lb -> U'[i]? = some o
theorem Kp.refl {lb : Nat} {U : St} : Kp lb U U := fun _ _ h _ => h
theorem Kp.trans {lb : Nat} {a b c : St} (h : Kp lb a b) (k : Kp lb b c) : Kp lb a c := fun i o e n => k i o (h i o e n) n
theorem Gw.kp {lb : Nat} {U U' : St} (h : Gw U U') : Kp lb U U' := fun i o e _ => h i o e
theorem Se.kp {lb : Nat} {o : PO} {U U' : St} (h : Se lb o U U') : Kp lb U U' := fun i o e n => h.ne i o n e
noncomputable def BoxAt (U : St) (lb c k : Nat) : Prop := ∃ (b : Bx) (cells : List Int), U[lb]? = some (boxObj c b) /\ U[c]? = some (.list (cells.map .int)) /\ cells.length ≤ 48 /\ 0 ≤ b.g /\ 0 ≤ b.s /\ b.s < 2147483647 /\ 0 ≤ b.p /\ b.p ≤ (k : Int)
theorem box_ne {U : St} {c lb : Nat} {b : Bx} {cells : List Int} (hb : U[lb]? = some (boxObj c b)) (hc : U[c]? = some (.list (cells.map .int))) : c ≠ lb := fun q => by
 rw [q, hb] at hc
 cases cells with
 | nil => exact nomatch hc
 | cons x r => exact nomatch (show (none : Option Int) = some x from congrArg (fun o => (Ul o).bind fun l => l.head?.bind Za) hc)
theorem abs_lt {x : Int} (h0 : 0 ≤ x) (h : x < 2 ^ 62) : x.natAbs < 2 ^ 62 := by lia
theorem fm0 {x k : Int} (h : 0 < k) : 0 ≤ x.fmod k := Int.fmod_nonneg_of_pos _ h
theorem fm1 {x k : Int} (h : 0 < k) : x.fmod k < k := Int.fmod_lt_of_pos _ h
theorem draw_w {T : Tb} {U : St} {lb c k : Nat} {lim : Int} {Q : PV -> St -> Prop} {E : Nat -> St -> Prop} (h : BoxAt U lb c k) (hk : k ≤ 100000) (h0 : 0 < lim) (h1 : lim < 2 ^ 30)
  (K : ∀ r U', 0 ≤ r -> r < lim -> BoxAt U' lb c (k + 1) -> Kp lb U U' -> Q (.int r) U') : Rn (Yj T f01_1 [.loc lb, .int lim] U) Q E := by
 obtain ⟨b, cells, hb, hc, b3, g0, s0, s1, p0, p1⟩ := h
 have hne := box_ne hb hc
 have p2 : b.p < 2 ^ 62 := by lia
 have fin : ∀ (g s r : Int) (U' : St), U'[lb]? = some (boxObj c ⟨g, s, b.p + 1⟩) -> Kp lb U U' -> 0 ≤ g -> 0 ≤ s -> s < 2147483647 -> 0 ≤ r -> r < lim -> Q (.int r) U' := fun g s r U' e k g0 s0 s1 r0 r1 =>
  K r _ r0 r1 ⟨_, cells, e, k _ _ hc hne, b3, g0, s0, s1, Int.le_add_one p0, Int.add_le_add_right p1 1⟩ k
 refine fn_w ⟨rfl, by decide⟩ ?_
 refine Jm hb ?_
 refine Jm hb fun U1 t1 => ?_
 have hb1 := t1.me _ hb
 refine Jm hb1 ?_
 by_cases hg : 0 < b.g
 ·refine Yr (decide_eq_true hg) ?_
  refine Jm hb1 ?_
  refine JN (Int.ne_of_gt h0) ?_
  refine Jm hb1 ?_
  refine JN ⟨h0, h1⟩ ?_
  refine Jm hb1 fun U2 t2 => ?_
  exact fin _ _ _ _ (t2.me _ hb1) (t1.kp.trans t2.kp) (Int.fdiv_nonneg g0 (Int.le_of_lt h0)) s0 s1 (fm0 h0) (fm1 h0)
 ·refine JG (decide_eq_false hg) ?_
  refine Jm hb1 ?_
  refine JN ⟨abs_lt s0 (Int.lt_trans s1 (by decide)), by decide⟩ ?_
  refine JN ⟨abs_lt p0 p2, abs_lt p0 p2⟩ ?_
  refine Jm hb1 fun U2 t2 => ?_
  have k2 := t1.kp.trans t2.kp
  have hb2 := t2.me _ hb1
  have hc2 := k2 _ _ hc hne
  refine Jm hb2 ?_
  refine Jm hc2 ?_
  refine Jf (Jj (by rw [List.length_map]; lia)) ?_
  have u0 : 0 ≤ (b.s * 16807 + b.p * b.p + 29).fmod 2147483647 := fm0 (by decide)
  have u1 : (b.s * 16807 + b.p * b.p + 29).fmod 2147483647 < 2147483647 := fm1 (by decide)
  have fin2 := fun r => fin _ _ r U2 hb2 k2 g0 u0 u1
  by_cases hp : b.p < (((cells.map PV.int).length : Nat) : Int)
  ·refine Yr (decide_eq_true hp) ?_
   refine Jm hb2 ?_
   refine Jm hc2 ?_
   refine JN ⟨p0, by lia⟩ ?_
   obtain ⟨x, hx⟩ : ∃ x, cells[b.p.toNat]? = some x := ⟨_, List.getElem?_eq_getElem ((Int.toNat_lt p0).mpr (by rw [List.length_map] at hp; exact hp))⟩
   refine Jh (a := .int x) (by rw [List.getElem?_map, hx]; rfl) ?_
   refine JN (Int.ne_of_gt h0) ?_
   exact fin2 _ (fm0 h0) (fm1 h0)
  ·refine JG (decide_eq_false hp) ?_
   refine Jm hb2 ?_
   refine JN ⟨Int.fdiv_nonneg u0 (by decide), ?_, by decide, by decide⟩ ?_
   ·rw [Int.fdiv_eq_ediv_of_nonneg _ (by decide)]; exact Int.lt_of_le_of_lt (Int.ediv_le_self _ u0) (Int.lt_trans u1 (by decide))
   refine JN (Int.ne_of_gt h0) ?_
   exact fin2 _ (fm0 h0) (fm1 h0)
theorem seq_w {T : Tb} {n : Nat} {fr : Fr} {E : Nat -> St -> Prop} {s : IS} {ss : List IS} {U : St} {N : Fr -> St -> Prop} {K : PV -> St -> Prop} (J : Fr -> St -> Prop)
  (h : ∀ M : Fr -> St -> Prop, (∀ fr U, J fr U -> M fr U) -> wS T n fr E s U M K) (hN : ∀ fr U, J fr U -> wSs T n fr E ss U N K) : wSs T (n + 1) fr E (s :: ss) U N K := h _ hN
theorem BoxAt.ext {U U' : St} {lb c k : Nat} (h : BoxAt U lb c k) (x : Gw U U') : BoxAt U' lb c k := by
 obtain ⟨b, cells, h1, h2, h3⟩ := h
 exact ⟨b, cells, x _ _ h1, x _ _ h2, h3⟩
theorem map_cons {α β : Type} {f : α -> β} {x : β} {r : List β} {l : List α} (h : x :: r = l.map f) : ∃ a l', l = a :: l' /\ x = f a /\ r = l'.map f := by
 cases l with
 | nil => exact nomatch h
 | cons a l => exact ⟨a, l, rfl, (List.cons.inj h).1, (List.cons.inj h).2⟩
theorem JV {α β : Type} {f : α -> β} {l : List α} (h : [] = l.map f) : l = [] := by
 cases l with
 | nil => rfl
 | cons a l => exact nomatch h
noncomputable def SrcAt (U : St) (s : Src) (xs : List PV) : Prop := s = .imm xs \/ ∃ l : Nat, s = .lst l /\ U[l]? = some (PO.list xs)
theorem lpX {U : St} {α : Type} {body : PV -> α -> St -> R (Sum α PV)} {N : α -> St -> Prop} {K : PV -> St -> Prop} {E : Nat -> St -> Prop} {s : Src} {xs : List PV} {a : α} (P : List PV -> α -> St -> Prop) (h : SrcAt U s xs) (hk : xs.length < 2000) (hP : P xs a U)
  (hl : ∀ rest a U', P rest a U' -> ∀ l : Nat, U[l]? = some (PO.list xs) -> U'[l]? = some (PO.list xs)) (h0 : ∀ a U, P [] a U -> N a U)
  (hs : ∀ y rest a U, P (y :: rest) a U -> ∀ M : α -> St -> Prop, (∀ a U, P rest a U -> M a U) -> Rn (body y a U) (fun r U' => JP r (fun a' => M a' U') fun v => K v U') E) : Rn (Jy body s a U) (fun r U => JP r (fun a => N a U) fun v => K v U) E := by
 rcases h with rfl | ⟨l, rfl, h⟩
 ·exact lpI P h0 hs hP
 ·exact lpL P l hk hP (fun rest a U' q => hl rest a U' q l h) h0 hs
theorem hv {p : Prop} (h : p) : p := h
theorem lc_w {β : Type} {T : Tb} {n i : Nat} {elt : IE} {ifs : List IE} {E : Nat -> St -> Prop} {U : St} {s : Src} {L : List β} {N : Fr × List PV -> St -> Prop} {K : PV -> St -> Prop} (m : Nat) (hm : n = m) (Fu : Option PV -> Fr) (G : β -> PV) (g : β -> Option PV) (hs : SrcAt U s (L.map G)) (hb : ∀ u x, Zp (Fu u) [i] false x = some (Fu (some x))) (hn : L.length < 2000)
  (k : ∀ fr, N (fr, L.filterMap g) U)
  (hstep : ∀ b, b ∈ L -> ∀ M : Option PV -> Prop, M (g b) -> wIfs (wC T m (Fu (some (G b))) E) ifs U fun t U' => br t (wE T m (Fu (some (G b))) E elt U' fun y U'' => U'' = U /\ M (some y)) (U' = U /\ M none)) :
  Rn (Jy (Jq (evC T n) (emL (evE T n) elt) [i] false ifs) s (Fu none, []) U) (fun r U => JP r (fun p => N p U) fun v => K v U) E := by
 subst hm
 refine lpX (fun rest p U' => U' = U /\ ∃ u ds rs, p = (Fu u, ds.filterMap g) /\ rest = rs.map G /\ L = ds ++ rs) hs (by rw [List.length_map]; exact hn) ⟨rfl, none, [], L, rfl, rfl, rfl⟩ (by rintro _ _ _ ⟨rfl, _⟩ l e; exact e) ?_ ?_
 ·rintro _ _ ⟨rfl, u, ds, rs, rfl, e, hd⟩
  rw [JV e, List.append_nil] at hd
  exact hd ▸ k _
 ·rintro _ _ _ U0 ⟨rfl, u, ds, rs, rfl, e, hd⟩ M hM
  obtain ⟨b, rs', rfl, rfl, rfl⟩ := map_cons e
  have hz : Jp (ds.filterMap g).length = true := Jj (by have := List.length_filterMap_le g ds; have := congrArg List.length hd; rw [List.length_append] at this; lia)
  have fin : ∀ o, g b = o -> ∃ u' ds' rs'', (Fu (some (G b)), ds.filterMap g ++ o.toList) = (Fu u', ds'.filterMap g) /\ rs'.map G = rs''.map G /\ L = ds' ++ rs'' := fun o e => ⟨_, ds ++ [b], rs', congrArg _ (by rw [List.filterMap_append, ← e]; congr 1), rfl, by rw [List.append_assoc]; exact hd⟩
  have step := hstep b (hd ▸ List.mem_append_right _ List.mem_cons_self) (fun o => g b = o) rfl
  unfold Jq
  dsimp only
  rw [hb]
  exact .bind' (ifs_w ((ev_w T n).2 _ _) step) fun t U' h => Ui h (fun h => .bind' (Q' := fun a U' => U' = U0 /\ ∃ o, g b = o /\ a = ds.filterMap g ++ o.toList) (.bind' (OU h) fun y U'' h => JE (Jf hz h) fun h => ⟨h.1, _, h.2, rfl⟩) fun a U' h => hM _ _ ⟨h.1, by obtain ⟨_, o, e, rfl⟩ := h; exact fin o e⟩) fun h => hM _ _ ⟨h.1, by have := fin _ h.2; rwa [Option.toList_none, List.append_nil] at this⟩
theorem OX {β : Type} {T : Tb} {n i : Nat} {elt : IE} {E : Nat -> St -> Prop} {U : St} {s : Src} {L : List β} {N : Fr × List PV -> St -> Prop} {K : PV -> St -> Prop} {R : List PV} (m : Nat) (hm : n = m) (Fu : Option PV -> Fr) (G : β -> PV) (f : β -> PV) (hR : L.map f = R) (hs : SrcAt U s (L.map G)) (hb : ∀ u x, Zp (Fu u) [i] false x = some (Fu (some x))) (hn : L.length < 2000)
  (k : ∀ fr, N (fr, R) U) (hstep : ∀ b, b ∈ L -> ∀ M : PV -> Prop, M (f b) -> wE T m (Fu (some (G b))) E elt U fun y U'' => U'' = U /\ M y) :
  Rn (Jy (Jq (evC T n) (emL (evE T n) elt) [i] false []) s (Fu none, []) U) (fun r U => JP r (fun p => N p U) fun v => K v U) E :=
 lc_w m hm Fu G (fun b => some (f b)) hs hb hn (fun fr => by rw [List.filterMap_eq_map', hR]; exact k fr) fun b hb M hM => hstep b hb (fun y => M (some y)) hM
theorem lc0_w {β : Type} {T : Tb} {n i : Nat} {elt : IE} {ifs : List IE} {E : Nat -> St -> Prop} {U : St} {s : Src} {L : List β} {N : Fr × List PV -> St -> Prop} {K : PV -> St -> Prop} (m : Nat) (hm : n = m) (Fu : Option PV -> Fr) (G : β -> PV) (hs : SrcAt U s (L.map G)) (hb : ∀ u x, Zp (Fu u) [i] false x = some (Fu (some x))) (hn : L.length < 2000)
  (k : ∀ fr, N (fr, []) U) (hstep : ∀ b, b ∈ L -> wIfs (wC T m (Fu (some (G b))) E) ifs U fun t U' => br t False (U' = U)) :
  Rn (Jy (Jq (evC T n) (emL (evE T n) elt) [i] false ifs) s (Fu none, []) U) (fun r U => JP r (fun p => N p U) fun v => K v U) E := by
 subst hm
 refine lpX (fun rest p U' => U' = U /\ ∃ u rs, p = (Fu u, []) /\ rest = rs.map G /\ ∀ b ∈ rs, b ∈ L) hs (by rw [List.length_map]; exact hn) ⟨rfl, none, L, rfl, rfl, fun _ q => q⟩ (by rintro _ _ _ ⟨rfl, _⟩ l e; exact e) ?_ ?_
 ·rintro _ _ ⟨rfl, u, rs, rfl, e, _⟩
  exact k _
 ·rintro _ _ _ U0 ⟨rfl, u, rs, rfl, e, hm⟩ M hM
  obtain ⟨b, rs', rfl, rfl, rfl⟩ := map_cons e
  have step := hstep b (hm b List.mem_cons_self)
  unfold Jq
  dsimp only
  rw [hb]
  exact .bind' (ifs_w ((ev_w T n).2 _ _) step) fun t U' h => Ui h (fun h => h.elim) fun h => hM _ _ ⟨h, _, rs', rfl, rfl, fun k q => hm k (List.mem_cons_of_mem _ q)⟩
theorem pick_to {α : Type} {l : List α} {k : Int} (h : 0 ≤ k) : OP l none (some k) = l.take k.toNat := by
 unfold OP
 simp [PySem.W.kms_lo, PySem.W.kms_hi]
 rw [if_neg (by lia)]
 lia
theorem box_w {T : Tb} {U : St} {ns : List Int} {Q : PV -> St -> Prop} {E : Nat -> St -> Prop} (h0 : U[(0 : Nat)]? = some (.frz (ns.map .int))) (hn : ns.length ≤ 1000)
  (K : ∀ l c U', c < l -> l < U'.length -> BoxAt U' l c 0 -> Gw U U' -> Q (.loc l) U') : Rn (Yj T f01_0 [.loc 0] U) Q E := by
 refine fn_w ⟨rfl, by decide⟩ ?_
 refine ob_f h0 ?_
 refine Jf (Jj (by rw [List.length_map]; lia)) fun U1 a1 => ?_
 have e1 := a1.me
 rw [pick_to (by decide), ← List.map_take] at e1
 refine Jm e1 ?_
 have hl0 : (ns.take 48).length ≤ 48 := by rw [List.length_take]; exact Nat.min_le_left _ _
 have e1 : U1[U.length]? = some (.list ((ns.take 48).map .int)) := e1
 generalize ns.take 48 = cs at e1 hl0
 refine OX _ rfl (L := cs) (fun u => [some (.loc 0), none, none, none, none, none, u]) .int .int rfl (.inr ⟨_, rfl, e1⟩) (fun _ _ => rfl) (by lia) (fun fr => ?_) fun c _ M hM => ⟨rfl, hM⟩
 ·have hl : cs.length ≤ 48 := hl0
  refine fun U2 a2 => ?_
  have x2 := a1.gw.trans a2.gw
  have e2 : U2[U1.length]? = some (.list (cs.map PV.int)) := a2.me
  have hl2 : U1.length < U2.length := Jc e2
  generalize U1.length = l at e2 hl2 ⊢
  show wSs _ _ _ _ (IS.ife _ _ _ :: _) _ _ _
  refine seq_w (fun fr U' => U' = U2 /\ ∃ g, 0 ≤ g /\ fr = [some (.loc 0), none, some (.loc l), some (.int g), none]) ?_ ?_
  ·intro M hM
   refine Jm e2 ?_
   refine Jf (Jj (by rw [List.length_map]; lia)) ?_
   cases cs with
   | nil => exact hM _ _ ⟨rfl, 0, by decide, rfl⟩
   | cons c cs =>
    refine Jm e2 ?_
    by_cases hc : ((c.natAbs : Nat) : Int) ≥ 10 ^ 15
    ·refine Yr (decide_eq_true hc) ?_
     refine Jm e2 ?_
     exact hM _ _ ⟨rfl, _, fm0 (by decide), rfl⟩
    ·refine JG (decide_eq_false hc) ?_
     exact hM _ _ ⟨rfl, 0, by decide, rfl⟩
  ·rintro _ U2 ⟨rfl, g, hg, rfl⟩
   refine Jm e2 ?_
   refine lpL (fun rest fr U' => U' = U2 /\ ∃ (u : Option PV) (s : Int) (rs : List Int), rest = rs.map PV.int /\ fr = [some (.loc 0), u, some (.loc l), some (.int g), some (.int s)] /\ 0 ≤ s /\ s < 2147483647) _ ?_ (xs := cs.map PV.int) ⟨rfl, none, 1, cs, rfl, rfl, by decide, by decide⟩ ?_ ?_ ?_
   ·rw [List.length_map]; lia
   ·rintro _ _ _ ⟨rfl, _⟩
    exact e2
   ·rintro _ _ ⟨rfl, u, s, rs, _, rfl, s0, s1⟩
    refine fun U3 a3 => ?_
    refine K _ _ _ hl2 (by rw [a3.len]; exact Nat.lt_succ_self _) ⟨⟨g, s, 0⟩, cs, a3.me, a3.gw _ _ e2, hl, hg, s0, s1, Int.le_refl _, Int.le_refl _⟩ (x2.trans a3.gw)
   ·rintro _ _ _ _ ⟨rfl, u, s, rs, e, rfl, s0, s1⟩ M hM
    obtain ⟨r, rs', rfl, rfl, rfl⟩ := map_cons e
    refine Yb ?_
    refine JN ⟨abs_lt s0 (Int.lt_trans s1 (by decide)), by decide⟩ ?_
    exact hM _ _ ⟨rfl, _, _, rs', rfl, rfl, fm0 (by decide), fm1 (by decide)⟩
structure Std (P : Prg) : Prop where
 f6 : P.fns 6 = some f01_6
 f7 : P.fns 7 = some f01_7
 f8 : P.fns 8 = some f01_8
 f9 : P.fns 9 = some f01_9
 f10 : P.fns 10 = some f01_10
noncomputable def Ls (U U' : St) : Prop := ∀ i : Nat, isLs U[i]? = true -> isLs U'[i]? = true
theorem Ls.trans {a b c : St} (h : Ls a b) (k : Ls b c) : Ls a c := fun i e => k i (h i e)
theorem ls_at {U : St} {i : Nat} (h : isLs U[i]? = true) : ∃ xs, U[i]? = some (.list xs) := by
 cases q : U[i]? with
 | none => rw [q] at h; exact nomatch h
 | some o => rw [q] at h; cases o <;> first | exact ⟨_, rfl⟩ | exact nomatch h
theorem Gw.ls {U U' : St} (h : Gw U U') : Ls U U' := fun i e => by
 obtain ⟨xs, q⟩ := ls_at e
 rw [h _ _ q]; rfl
theorem Ls.plain {U U' : St} {v : PV} (h : Ls U U') (e : JO U v = true) : JO U' v = true := by
 cases v with
 | loc l => exact h l e
 | _ => rfl
structure Pl2 (U : St) (v : PV) : Prop where
 own : JO U v = true
 items : ∀ ws, v = .tup ws -> ws.length ≤ 1000 /\ ∀ w ∈ ws, JO U w = true
theorem Ls.pl2 {U U' : St} {v : PV} (h : Ls U U') (e : Pl2 U v) : Pl2 U' v := ⟨h.plain e.own, fun ws q => ⟨(e.items ws q).1, fun w hw => h.plain ((e.items ws q).2 w hw)⟩⟩
noncomputable def isNum (v : PV) : Bool := isInt v && !isBool v
theorem isnum_w {P : Prg} (S : Std P) {d : Nat} {v : PV} {U : St} {Q : PV -> St -> Prop} {E : Nat -> St -> Prop} (h : JO U v = true) (K : Q (.bool (isNum v)) U) : Rn ((tb P (d + 1)).F 6 [v] U) Q E := by
 refine F_w S.f6 ⟨rfl, by decide⟩ ?_
 refine Jf h ?_
 unfold isNum at K
 generalize isInt v = b at K ⊢
 cases b
 ·exact K
 ·exact Jf h K
noncomputable def allOf (f : PV -> Bool) : PV -> Bool
 | .tup ws => ws.all f
 | _ => false
noncomputable def OK : PV -> Bool := allOf isStr
noncomputable def US : PV -> Bool := allOf isNum
theorem boolsOf_map (f : PV -> Bool) (ws : List PV) : YN (ws.map fun w => .bool (f w)) = some (ws.map f) := by
 induction ws with
 | nil => rfl
 | cons w r ih =>
  show (YN (r.map fun w => .bool (f w))).map (f w :: ·) = _
  rw [ih]; rfl
theorem all_map {α : Type} (f : α -> Bool) (ws : List α) : (ws.map f).all id = ws.all f := by rw [List.all_map]; rfl
theorem tup_w {T : Tb} {v : PV} {U : St} {Q : PV -> St -> Prop} {E : Nat -> St -> Prop} {f : PV -> Bool} {elt : IE} (h : Pl2 U v) (K : ∀ U', Gw U U' -> Q (.bool (allOf f v)) U')
  (hf : ∀ w n u Q, JO U w = true -> Q (.bool (f w)) U -> wE T (n + 10) [u, .none, some w] noE elt U Q) :
  wSs T OY [some v] E [(.ret (.bop true [(.blt .isTuple [(.var 0)]), (.blt .all [(.comp elt none [2] false 0 [(.var 0)] [] 1 2)])]))] U (fun _ U => Q .none U) Q := by
 refine Jf h.own ?_
 cases v with
 | tup ws =>
  have hw := (h.items ws rfl).2
  have hn := (h.items ws rfl).1
  refine OX _ rfl (L := ws) (fun u => [some (PV.tup ws), none, u]) id (fun w => .bool (f w)) rfl (.inl (congrArg _ (List.map_id ws).symm)) (fun _ _ => rfl) (by lia) (fun fr => ?_) fun w h M hM => hf w 185 _ _ (hw w h) ⟨rfl, hM⟩
  refine fun U2 a2 => ?_
  refine Jm a2.me ?_
  refine Jf (Jj (by rw [List.length_map]; lia)) ?_
  refine Jh (boolsOf_map _ _) ?_
  rw [all_map]
  exact K _ a2.gw
 | _ => exact K _ .refl
theorem texts_w {P : Prg} (S : Std P) {d : Nat} {v : PV} {U : St} {Q : PV -> St -> Prop} {E : Nat -> St -> Prop} (h : Pl2 U v) (K : ∀ U', Gw U U' -> Q (.bool (OK v)) U') : Rn ((tb P (d + 1)).F 7 [v] U) Q E :=
 F_w S.f7 ⟨rfl, by decide⟩ (tup_w (elt := .blt .isStr [.var 2]) h K fun w n u Q hw q => Jf hw q)
theorem nums_w {P : Prg} (S : Std P) {d : Nat} {v : PV} {U : St} {Q : PV -> St -> Prop} {E : Nat -> St -> Prop} (h : Pl2 U v) (K : ∀ U', Gw U U' -> Q (.bool (US v)) U') : Rn ((tb P (d + 2)).F 8 [v] U) Q E :=
 F_w S.f8 ⟨rfl, by decide⟩ (tup_w (elt := .call 6 [.var 2]) h K fun w n u Q hw q => isnum_w S hw q)
noncomputable def Kv (v : PV) (c : Nat) : Bool := if c = 116 then isStr v else if c = 110 then isNum v else if c = 111 then isBytes v else if c = 102 then OK v else if c = 117 then US v else isTuple v
noncomputable def ch (c : Nat) : PV := .str ⟨#[c]⟩
theorem Ud {a b : Nat} {s : Str} (h : s = ⟨#[b]⟩) : ((⟨#[a]⟩ : Str) == s) = decide (a = b) := by
 subst h
 rw [Bool.eq_iff_iff, beq_iff_eq]; simp
theorem fits_w {P : Prg} (S : Std P) {d : Nat} {v : PV} {c : Nat} {U : St} {Q : PV -> St -> Prop} {E : Nat -> St -> Prop} (h : Pl2 U v) (K : ∀ U', Gw U U' -> Q (.bool (Kv v c)) U') : Rn ((tb P (d + 3)).F 10 [v, ch c] U) Q E := by
 refine F_w S.f10 ⟨rfl, by decide⟩ ?_
 have own := h.own
 have K0 := K _ .refl
 unfold Kv at K K0
 have t := Ud (a := c) (b := 116) (s := Str.ofString "t") (by decide +kernel)
 have n := Ud (a := c) (b := 110) (s := Str.ofString "n") (by decide +kernel)
 have o := Ud (a := c) (b := 111) (s := Str.ofString "o") (by decide +kernel)
 have f := Ud (a := c) (b := 102) (s := Str.ofString "f") (by decide +kernel)
 have u := Ud (a := c) (b := 117) (s := Str.ofString "u") (by decide +kernel)
 by_cases c1 : c = 116
 ·refine fun b e => Yr (e.symm.trans (t.trans (decide_eq_true c1))) ?_
  refine Jf own ?_
  rw [if_pos c1] at K0
  exact K0
 refine fun b e => JG (e.symm.trans (t.trans (decide_eq_false c1))) ?_
 by_cases c2 : c = 110
 ·refine fun b e => Yr (e.symm.trans (n.trans (decide_eq_true c2))) ?_
  rw [if_neg c1, if_pos c2] at K0
  exact isnum_w S own K0
 refine fun b e => JG (e.symm.trans (n.trans (decide_eq_false c2))) ?_
 by_cases c3 : c = 111
 ·refine fun b e => Yr (e.symm.trans (o.trans (decide_eq_true c3))) ?_
  refine Jf own ?_
  rw [if_neg c1, if_neg c2, if_pos c3] at K0
  exact K0
 refine fun b e => JG (e.symm.trans (o.trans (decide_eq_false c3))) ?_
 by_cases c4 : c = 102
 ·refine fun b e => Yr (e.symm.trans (f.trans (decide_eq_true c4))) ?_
  rw [if_neg c1, if_neg c2, if_neg c3, if_pos c4] at K
  exact texts_w S h K
 refine fun b e => JG (e.symm.trans (f.trans (decide_eq_false c4))) ?_
 by_cases c5 : c = 117
 ·refine fun b e => Yr (e.symm.trans (u.trans (decide_eq_true c5))) ?_
  rw [if_neg c1, if_neg c2, if_neg c3, if_neg c4, if_pos c5] at K
  exact nums_w S h K
 refine fun b e => JG (e.symm.trans (u.trans (decide_eq_false c5))) ?_
 refine Jf own ?_
 rw [if_neg c1, if_neg c2, if_neg c3, if_neg c4, if_neg c5] at K0
 exact K0
noncomputable def shapes : List (Str × List Nat) := [(Str.ofString "create", [116, 110]), (Str.ofString "delete", [116]), (Str.ofString "rename", [116, 116]), (Str.ofString "append", [116, 102, 110, 111]), (Str.ofString "flags", [116, 110, 102]), (Str.ofString "store", [116, 117, 116, 102, 110]), (Str.ofString "expunge", [116, 117]), (Str.ofString "copy", [116, 117, 116]), (Str.ofString "move", [116, 117, 116]), (Str.ofString "subscribe", [116]), (Str.ofString "unsubscribe", [116]), (Str.ofString "forget", [116, 110]), (Str.ofString "snapshot", [110, 102, 114])]
noncomputable def ZK (l : List Nat) : Str := ⟨l.toArray⟩
noncomputable def entStr (p : Str × List Nat) : Str := p.1 ++ Str.ofString ":" ++ ZK p.2
noncomputable def allShapes : Str := Str.ofString "create:tn delete:t rename:tt append:tfno flags:tnf store:tutfn expunge:tu copy:tut move:tut subscribe:t unsubscribe:t forget:tn snapshot:nfr"
theorem split_all : Txt.split allShapes (Str.ofString " ") = shapes.map entStr := by decide +kernel
theorem all_guard : ((Str.ofString " ").length == 0) = false /\ Jp allShapes.length = true /\ Jp (Txt.split allShapes (Str.ofString " ")).length = true := by decide +kernel
theorem ent_ok : ∀ p ∈ shapes, (((Str.ofString ":").length == 0) = false /\ Jp (entStr p).length = true /\ Jp (Txt.split (entStr p) (Str.ofString ":")).length = true) /\ Txt.split (entStr p) (Str.ofString ":") = [p.1, ZK p.2] /\ p.2.length ≤ 5 /\ ZP (ZK p.2) = true := by decide +kernel
noncomputable def JJ (w : Str) : List (Str × List Nat) -> Option (List Nat)
 | [] => none
 | p :: ps => if (p.1 == w) = true then some p.2 else JJ w ps
noncomputable def UZ (vs : List PV) (sh : List Nat) : Bool := vs.length == sh.length && (vs.zip sh).all fun p => Kv p.1 p.2
noncomputable def fitO (vs : List PV) : Option (List Nat) -> Bool
 | some sh => UZ vs sh
 | none => false
noncomputable def rowOk : PV -> Bool
 | .tup (.str w :: vs) => fitO vs (JJ w shapes)
 | _ => false
structure Pl3 (U : St) (row : PV) : Prop where
 own : JO U row = true
 items : ∀ vs, row = .tup vs -> vs.length ≤ 100 /\ ∀ v ∈ vs, Pl2 U v
theorem Ls.pl3 {U U' : St} {v : PV} (h : Ls U U') (e : Pl3 U v) : Pl3 U' v := ⟨h.plain e.own, fun ws q => ⟨(e.items ws q).1, fun w hw => h.pl2 ((e.items ws q).2 w hw)⟩⟩
theorem sub0 {x : PV} {vs : List PV} : ((seqIndex? 0 (x :: vs).length).bind ((x :: vs)[·]?)) = some x := by
 rw [show seqIndex? 0 (x :: vs).length = some 0 by simp [seqIndex?]]; rfl
theorem pick_from {α : Type} {l : List α} {k : Int} (h : 0 ≤ k) : OP l (some k) none = l.drop k.toNat := by
 unfold OP
 simp [PySem.W.kms_lo, PySem.W.kms_hi]
 rw [if_neg (by lia)]
 by_cases hk : k.toNat ≤ l.length
 ·rw [Nat.min_eq_left hk]
  exact List.take_of_length_le (by simp)
 ·rw [Nat.min_eq_right (by lia), List.drop_eq_nil_of_le (Nat.le_refl _), List.drop_eq_nil_of_le (by lia)]
  simp
theorem signs_sh (sh : List Nat) : YD (ZK sh) = sh.map ch := rfl
theorem zip_ch (vs : List PV) (sh : List Nat) : (vs.zip (YD (ZK sh))).map (fun p => PV.tup [p.1, p.2]) = (vs.zip sh).map fun p => .tup [p.1, ch p.2] := by
 rw [signs_sh, List.zip_map_right, List.map_map]; rfl
noncomputable def zipB : List IS := [(.ife (.not (.call 10 [(.var 4), (.var 5)])) [(.raise 3)] [])]
theorem zip_w {P : Prg} (S : Std P) {d n l : Nat} {qs : List (PV × Nat)} {r u1 u2 u3 : Option PV} {U : St} {N : Fr -> St -> Prop} {K : PV -> St -> Prop} {E : Nat -> St -> Prop} (hj : U[l]? = some .junk) (hq : ∀ q ∈ qs, Pl2 U q.1)
  (k1 : (qs.all fun p => Kv p.1 p.2) = true -> ∀ fr U', Gw U U' -> N fr U') (k2 : (qs.all fun p => Kv p.1 p.2) = false -> ∀ U', Gw U U' -> E 3 U') :
  Rn (Jy (JK (evT (tb P (d + 3)) (n + 10)) (evSs (tb P (d + 3)) (n + 10)) (.tup [.name 4, .name 5]) zipB) (.zip (qs.map fun p => .tup [p.1, ch p.2]) l) [r, u1, u2, u3, none, none] U) (fun r U => JP r (fun fr => N fr U) fun v => K v U) E := by
 refine lpZ (fun rest fr U' => ∃ u4 u5 ps, fr = [r, u1, u2, u3, u4, u5] /\ Gw U U' /\ (∀ q ∈ ps, Pl2 U q.1) /\ rest = ps.map (fun p => PV.tup [p.1, ch p.2]) /\ (ps.all fun p => Kv p.1 p.2) = qs.all fun p => Kv p.1 p.2) l ?_ ?_ ?_ ⟨none, none, qs, rfl, .refl, hq, rfl, rfl⟩
 ·rintro _ _ _ ⟨u4, u5, ps, _, g, _⟩
  exact g _ _ hj
 ·rintro _ _ ⟨u4, u5, ps, rfl, g, _, e, ha⟩
  have e := JV e
  subst e
  exact k1 ha.symm _ _ g
 ·rintro _ _ _ U1 ⟨u4, u5, ps, rfl, g, hp, e, ha⟩ M hM
  obtain ⟨q, ps', rfl, rfl, rfl⟩ := map_cons e
  refine Yb ?_
  refine fits_w S (g.ls.pl2 (hp _ List.mem_cons_self)) fun U2 g2 => ?_
  have ha : (Kv q.1 q.2 && ps'.all fun p => Kv p.1 p.2) = _ := ha
  generalize Kv q.1 q.2 = b at ha ⊢
  cases b with
  | false => exact k2 ha.symm _ (g.trans g2)
  | true => exact hM _ _ ⟨_, _, ps', rfl, g.trans g2, fun q h => hp q (List.mem_cons_of_mem _ h), rfl, ha⟩
theorem row_w {P : Prg} (S : Std P) {d : Nat} {row : PV} {U : St} {Q : PV -> St -> Prop} {E : Nat -> St -> Prop} (h : Pl3 U row) (k1 : rowOk row = true -> ∀ U', Gw U U' -> Q .none U') (k2 : rowOk row = false -> ∀ U', Gw U U' -> E 3 U') : Rn ((tb P (d + 4)).F 9 [row] U) Q E := by
 refine F_w S.f9 ⟨rfl, by decide⟩ ?_
 refine Jf h.own ?_
 cases row with
 | tup xs =>
  have hi := h.items xs rfl
  refine Jf (Jj (Nat.le_trans hi.1 (by decide))) ?_
  cases xs with
  | nil => exact k2 rfl _ .refl
  | cons x vs =>
   refine Jh sub0 ?_
   refine Jf (hi.2 x List.mem_cons_self).own ?_
   cases x with
   | str w =>
    refine ⟨all_guard, fun U1 a1 => ?_⟩
    have e1 : U1[U.length]? = some (.list ((shapes.map entStr).map PV.str)) := split_all ▸ a1.me
    refine Jm e1 ?_
    refine lpL (fun rest fr U' => ∃ ps u1 u2 u3, rest = (ps.map entStr).map PV.str /\ (∀ p ∈ ps, p ∈ shapes) /\ JJ w ps = JJ w shapes /\ fr = [some (PV.tup (.str w :: vs)), u1, u2, u3, none, none] /\ Gw U1 U') _ (by decide) ⟨shapes, none, none, none, rfl, fun p h => h, rfl, rfl, .refl⟩ ?_ ?_ ?_ (xs := (shapes.map entStr).map PV.str)
    ·rintro _ _ _ ⟨ps, u1, u2, u3, _, _, _, _, g⟩
     exact g _ _ e1
    ·rintro _ _ ⟨ps, u1, u2, u3, e, hps, hf, rfl, g⟩
     have e := JV (JV e).symm
     subst e
     exact k2 (congrArg (fitO vs) hf.symm) _ (a1.gw.trans g)
    ·rintro _ _ _ U2 ⟨ps, u1, u2, u3, e, hps, hf, rfl, g⟩ M hM
     obtain ⟨_, _, e', rfl, rfl⟩ := map_cons e
     obtain ⟨p, ps', rfl, rfl, rfl⟩ := map_cons e'.symm
     have hp := hps p List.mem_cons_self
     obtain ⟨hg, hs, hl5, has⟩ := ent_ok p hp
     refine Yb ?_
     refine ⟨hg, fun U3 a3 => ?_⟩
     have e3 : U3[U2.length]? = some (.list [.str p.1, .str (ZK p.2)]) := a3.me.trans (congrArg (fun l => some (PO.list (l.map PV.str))) hs)
     have g3 := g.trans a3.gw
     refine Jm e3 ?_
     refine Jh sub0 fun t ht => ?_
     unfold JJ at hf
     cases t with
     | false =>
      rw [if_neg (by rw [ht]; decide)] at hf
      exact hM _ _ ⟨ps', _, _, _, rfl, fun p h => hps p (List.mem_cons_of_mem _ h), hf, rfl, g3⟩
     | true =>
      rw [if_pos ht] at hf
      have hr : rowOk (.tup (.str w :: vs)) = UZ vs p.2 := congrArg (fitO vs) hf.symm
      refine Jf (Jj (Nat.le_trans hi.1 (by decide))) ?_
      refine Jf (Jj (Nat.le_trans hl5 (by decide))) ?_
      by_cases hl : vs.length = p.2.length
      ·have hb : (!(((PV.str w :: vs).length : Int) == ((ZK p.2).length : Int) + 1)) = false := by
        rw [show (ZK p.2).length = p.2.length from List.size_toArray, ← hl]; exact congrArg _ (beq_self_eq_true _)
       refine JG hb ?_
       refine Jf (Jj (Nat.le_trans hi.1 (by decide))) ?_
       refine Jf has fun U4 a4 => ?_
       have g4 := (a1.gw.trans g3).trans a4.gw
       rw [pick_from (by decide), zip_ch]
       refine zip_w S a4.me (fun q hq => g4.ls.pl2 (hi.2 q.1 (List.mem_cons_of_mem _ (List.of_mem_zip hq).1))) ?_ ?_
       ·exact fun (hf : ((vs.zip p.2).all fun p => Kv p.1 p.2) = true) fr U' g' => k1 (hr.trans (by unfold UZ; rw [hf, hl, beq_self_eq_true]; rfl)) _ (g4.trans g')
       ·exact fun (hf : ((vs.zip p.2).all fun p => Kv p.1 p.2) = false) U' g' => k2 (hr.trans (by unfold UZ; rw [hf, Bool.and_false])) _ (g4.trans g')
      ·have hb : (!(((PV.str w :: vs).length : Int) == ((ZK p.2).length : Int) + 1)) = true := by
        rw [show (ZK p.2).length = p.2.length from List.size_toArray]
        exact Bool.not_eq_true' .. ▸ beq_eq_false_iff_ne.mpr (fun q => hl (by rw [List.length_cons] at q; lia))
       refine Yr hb ?_
       exact k2 (hr.trans (by unfold UZ; rw [beq_eq_false_iff_ne.mpr hl]; rfl)) _ (a1.gw.trans g3)
   | _ => exact k2 rfl _ .refl
 | _ => exact k2 rfl _ .refl
structure AL where
 l : Nat
 u : Int
 o : PV
 f : List PV
 i : PV
 m : Int
noncomputable def letO (a : AL) : PO := .inst 0 [(0, .int a.u), (1, a.o), (2, .tup a.f), (3, a.i), (4, .int a.m)]
noncomputable def letT (a : AL) : PV := .tup [.int a.u, a.o, .tup a.f, a.i, .int a.m]
structure AB where
 b : Nat
 ll : Nat
 lg : Nat
 n : Str
 v : Int
 nu : Int
 top : Int
 fl : Int
 ls : List AL
 gn : List PV
noncomputable def boxO (x : AB) : PO := .inst 1 [(5, .str x.n), (6, .int x.v), (7, .int x.nu), (8, .int x.top), (9, .int x.fl), (10, .loc x.ll), (11, .loc x.lg)]
noncomputable def Ky (x : AB) : PV := .tup [.str x.n, .int x.v, .int x.nu, .int x.top, .int x.fl, .tup (x.ls.map letT), .tup x.gn]
noncomputable def Og (ls : List AL) : List PV := ls.map fun a => .loc a.l
structure BoxR (U : St) (x : AB) : Prop where
 o : U[x.b]? = some (boxO x)
 l : U[x.ll]? = some (.list (Og x.ls))
 g : U[x.lg]? = some (.list x.gn)
 a : ∀ a ∈ x.ls, U[a.l]? = some (letO a)
 ne : x.ll ≠ x.lg
structure AS where
 st : Nat
 ld : Nat
 sub : Nat
 nv : Int
 bs : List AB
noncomputable def UL (S : AS) : PO := .inst 2 [(12, .loc S.ld), (13, .loc S.sub), (14, .int S.nv)]
noncomputable def OG (bs : List AB) : List (PV × PV) := bs.map fun x => (.str x.n, .loc x.b)
structure ON where
 n : Nat
 f : Nat -> Option (List PV)
structure StR (n0 : ON) (U : St) (S : AS) : Prop where
 o : U[S.st]? = some (UL S)
 d : U[S.ld]? = some (.dict (OG S.bs))
 s : U[S.sub]? = some (.list [])
 b : ∀ x ∈ S.bs, BoxR U x
 nb : (S.bs.map (·.b)).Nodup
 nn : (S.bs.map (·.n)).Nodup
 sep : ∀ x ∈ S.bs, ∀ y ∈ S.bs, x.b ≠ y.b -> x.ll ≠ y.ll /\ x.ll ≠ y.lg
 hs : n0.n ≤ S.sub
 hl : ∀ x ∈ S.bs, x.ll ≠ S.sub /\ n0.n ≤ x.ll /\ n0.n ≤ x.lg
 old : ∀ (i : Nat) (xs : List PV), n0.f i = some xs -> i < n0.n /\ U[i]? = some (.list xs)
section
variable {U U' U'' : St} {x x' x'' y : AB} {n0 : ON} {S : AS}
theorem BoxR.keep2 (h : BoxR U x) (k : ∀ (i : Nat) (o : PO), U[i]? = some o -> (∀ xs, o = .list xs -> i = x.ll \/ i = x.lg) -> (∀ c fs, o = .inst c fs -> c = 0 \/ i = x.b) -> (∀ es, o ≠ .dict es) -> U'[i]? = some o) : BoxR U' x where
 o := k _ _ h.o (fun _ e => nomatch e) (fun _ _ _ => .inr rfl) fun _ e => nomatch e
 l := k _ _ h.l (fun _ _ => .inl rfl) (fun _ _ e => nomatch e) fun _ e => nomatch e
 g := k _ _ h.g (fun _ _ => .inr rfl) (fun _ _ e => nomatch e) fun _ e => nomatch e
 a := fun a ha => k _ _ (h.a a ha) (fun _ e => nomatch e) (fun _ _ e => .inl (congrArg (fun p => p.1) (Option.some.inj (show some (0, _) = some (_, _) from congrArg (fun o => Zl (some o)) e))).symm) fun _ e => nomatch e
 ne := h.ne
theorem BoxR.keep (h : BoxR U x) (k : ∀ (i : Nat) (o : PO), U[i]? = some o -> (∀ xs, o = .list xs -> i = x.ll \/ i = x.lg) -> (∀ c fs, o = .inst c fs -> c = 0 \/ i = x.b) -> U'[i]? = some o) : BoxR U' x := h.keep2 fun i o e a b _ => k i o e a b
theorem BoxR.gw (h : BoxR U x) (k : Gw U U') : BoxR U' x := h.keep fun i o e _ _ => k i o e
structure BStep (U U' : St) (x x' : AB) : Prop where
 rep : BoxR U' x'
 b : x'.b = x.b
 n : x'.n = x.n
 v : x'.v = x.v
 ll : x'.ll = x.ll \/ U.length ≤ x'.ll
 lg : x'.lg = x.lg \/ U.length ≤ x'.lg
 kp : ∀ (i : Nat) (o : PO), U[i]? = some o -> i ≠ x.b -> i ≠ x.ll -> U'[i]? = some o
 len : U.length ≤ U'.length
theorem Gw.len (k : Gw U U') : U.length ≤ U'.length := by
 cases h : U.length with
 | zero => exact Nat.zero_le _
 | succ n => exact Jc (k n _ (List.getElem?_eq_getElem (by lia)))
theorem BStep.gw (h : BoxR U x) (k : Gw U U') : BStep U U' x x := ⟨h.gw k, rfl, rfl, rfl, .inl rfl, .inl rfl, fun i o e _ _ => k i o e, k.len⟩
theorem BStep.trans (s : BStep U U' x x') (t : BStep U' U'' x' x'') : BStep U U'' x x'' where
 rep := t.rep
 b := t.b.trans s.b
 n := t.n.trans s.n
 v := t.v.trans s.v
 ll := t.ll.elim (fun e => s.ll.elim (fun e' => .inl (e.trans e')) fun e' => .inr (e.symm ▸ e')) fun e => .inr (Nat.le_trans s.len e)
 lg := t.lg.elim (fun e => s.lg.elim (fun e' => .inl (e.trans e')) fun e' => .inr (e.symm ▸ e')) fun e => .inr (Nat.le_trans s.len e)
 kp := fun i o e h1 h2 => t.kp i o (s.kp i o e h1 h2) (s.b ▸ h1) fun q => s.ll.elim (fun e' => h2 (q.trans e')) fun e' => Nat.lt_irrefl _ (Nat.lt_of_lt_of_le (Jc e) (q ▸ e'))
 len := Nat.le_trans s.len t.len
theorem BStep.thenGw (s : BStep U U' x x') (k : Gw U' U'') : BStep U U'' x x' := s.trans (.gw s.rep k)
theorem StR.keep (h : StR n0 U S) (k : ∀ (i : Nat) (o : PO), U[i]? = some o -> (∀ xs, o = .list xs -> n0.n ≤ i) -> U'[i]? = some o) (ko : ∀ (i : Nat) (xs : List PV), n0.f i = some xs -> U'[i]? = some (.list xs)) : StR n0 U' S where
 o := k _ _ h.o fun _ e => nomatch e
 d := k _ _ h.d fun _ e => nomatch e
 s := k _ _ h.s fun _ _ => h.hs
 b := fun x hx => (h.b x hx).keep fun i o e q _ => k i o e fun xs e' => (q xs e').elim (fun z => z ▸ (h.hl x hx).2.1) fun z => z ▸ (h.hl x hx).2.2
 nb := h.nb
 nn := h.nn
 sep := h.sep
 hs := h.hs
 hl := h.hl
 old := fun i xs e => ⟨(h.old i xs e).1, ko i xs e⟩
theorem StR.gw (h : StR n0 U S) (k : Gw U U') : StR n0 U' S := h.keep (fun i o e _ => k i o e) fun i xs e => k _ _ (h.old i xs e).2
theorem StR.kp {lb n : Nat} {xs : List PV} (h : StR ⟨n, fun _ => none⟩ U S) (hb : U[lb]? = some (.list xs)) (hn : lb < n) (k : Kp lb U U') : StR ⟨n, fun _ => none⟩ U' S := h.keep (fun i o e q => k i o e fun z => by
 subst z
 rw [hb] at e
 exact Nat.lt_irrefl _ (Nat.lt_of_lt_of_le hn (q xs (Option.some.inj e).symm))) fun _ _ e => nomatch e
theorem StR.bare (h : StR n0 U S) : StR ⟨n0.n, fun _ => none⟩ U S := ⟨h.o, h.d, h.s, h.b, h.nb, h.nn, h.sep, h.hs, h.hl, fun _ _ e => nomatch e⟩
noncomputable def lsAt : Option PO -> Option (List PV)
 | some (.list xs) => some xs
 | _ => none
theorem lsAt_of {o : Option PO} {xs : List PV} (h : lsAt o = some xs) : o = some (.list xs) := by
 cases o with
 | none => exact nomatch h
 | some o =>
  cases o <;> first | exact (by cases h; rfl) | exact nomatch h
theorem StR.withs (h : StR n0 U S) : StR ⟨n0.n, fun i => cond (decide (i < n0.n)) (lsAt U[i]?) none⟩ U S := ⟨h.o, h.d, h.s, h.b, h.nb, h.nn, h.sep, h.hs, h.hl, fun i xs e => by
 by_cases c : i < n0.n
 ·have e : cond (decide (i < n0.n)) (lsAt U[i]?) none = some xs := e
  rw [decide_eq_true c] at e
  exact ⟨c, lsAt_of e⟩
 ·have e : cond (decide (i < n0.n)) (lsAt U[i]?) none = some xs := e
  rw [decide_eq_false c] at e
  exact nomatch e⟩
noncomputable def Zb (x' : AB) (y : AB) : AB := if y.b = x'.b then x' else y
noncomputable def AS.upd (S : AS) (x' : AB) : AS := { S with bs := S.bs.map (Zb x') }
theorem OJ (h : y.b = x'.b) : Zb x' y = x' := if_pos h
theorem Zs (h : y.b ≠ x'.b) : Zb x' y = y := if_neg h
theorem Jw {i j : Nat} {o o' : PO} (h : U[i]? = some o) (k : U[j]? = some o') (n : o ≠ o') : i ≠ j := fun e => n (Option.some.inj (h.symm.trans (e ▸ k)))
theorem map_inj {α β : Type} {f : α -> β} {l : List α} (h : (l.map f).Nodup) {x y : α} (hx : x ∈ l) (hy : y ∈ l) (e : f x = f y) : x = y := by
 induction l with
 | nil => exact nomatch hx
 | cons a l ih =>
  obtain ⟨h1, h2⟩ := List.nodup_cons.mp h
  rcases List.mem_cons.mp hx with e1 | hx' <;> rcases List.mem_cons.mp hy with e2 | hy'
  ·rw [e1, e2]
  ·exact absurd (List.mem_map.mpr ⟨_, hy', e.symm.trans (congrArg f e1)⟩) h1
  ·exact absurd (List.mem_map.mpr ⟨_, hx', e.trans (congrArg f e2)⟩) h1
  ·exact ih h2 hx' hy'
theorem Zf {bs : List AB} (hb : (bs.map (·.b)).Nodup) (hx : x ∈ bs) (e : x'.b = x.b) (h : y ∈ bs.map (Zb x')) : y = x' \/ (y ∈ bs /\ y.b ≠ x.b) := by
 obtain ⟨z, hz, rfl⟩ := List.mem_map.mp h
 by_cases q : z.b = x'.b
 ·rw [OJ q]; exact .inl rfl
 ·rw [Zs q]; exact .inr ⟨hz, fun w => q (w.trans e.symm)⟩
theorem upd_b {bs : List AB} (hb : (bs.map (·.b)).Nodup) (hx : x ∈ bs) {β : Type} (f : AB -> β) (hf : f x' = f x) (e : x'.b = x.b) : (bs.map (Zb x')).map f = bs.map f := by
 rw [List.map_map]
 refine List.map_congr_left fun z hz => ?_
 show f (Zb x' z) = f z
 by_cases q : z.b = x'.b
 ·rw [OJ q, hf, map_inj hb hx hz (e.symm.trans q.symm)]
 ·rw [Zs q]
theorem StR.lt (h : StR n0 U S) (hx : x ∈ S.bs) : x.ll < U.length /\ x.lg < U.length /\ S.sub < U.length := ⟨Jc (h.b x hx).l, Jc (h.b x hx).g, Jc h.s⟩
theorem StR.upd (h : StR n0 U S) (hx : x ∈ S.bs) (s : BStep U U' x x') : StR n0 U' (S.upd x') := by
 have fr : ∀ i, U.length ≤ i -> n0.n ≤ i := fun i hi => Nat.le_trans h.hs (Nat.le_of_lt (Nat.lt_of_lt_of_le (Jc h.s) hi))
 have new : ∀ y, y ∈ S.bs -> y.b ≠ x.b -> x'.ll ≠ y.ll /\ x'.ll ≠ y.lg /\ y.ll ≠ x'.lg := fun y hy hn => by
  have q := h.sep x hx y hy hn.symm
  have q2 := (h.sep y hy x hx hn).2
  have lt := h.lt hy
  refine ⟨?_, ?_, ?_⟩
  ·rcases s.ll with e | e
   ·rw [e]; exact q.1
   ·lia
  ·rcases s.ll with e | e
   ·rw [e]; exact q.2
   ·lia
  ·rcases s.lg with e | e
   ·rw [e]; exact q2
   ·lia
 refine ⟨?_, ?_, ?_, fun y hy => ?_, ?_, ?_, fun y hy z hz hn => ?_, h.hs, fun y hy => ?_, fun i xs e => ?_⟩
 ·exact s.kp _ _ h.o (Jw h.o (h.b x hx).o fun q => nomatch q) (Jw h.o (h.b x hx).l fun q => nomatch q)
 ·show U'[S.ld]? = some (.dict (OG (S.bs.map (Zb x'))))
  rw [show OG (S.bs.map (Zb x')) = OG S.bs from upd_b h.nb hx _ (by rw [s.n, s.b]) s.b]
  exact s.kp _ _ h.d (Jw h.d (h.b x hx).o fun q => nomatch q) (Jw h.d (h.b x hx).l fun q => nomatch q)
 ·exact s.kp _ _ h.s (Jw h.s (h.b x hx).o fun q => nomatch q) (h.hl x hx).1.symm
 ·rcases Zf h.nb hx s.b hy with rfl | ⟨hy, hn⟩
  ·exact s.rep
  ·refine (h.b y hy).keep fun i o e q1 q2 => s.kp i o e (fun w => ?_) fun w => ?_
   ·subst w
    rw [(h.b x hx).o] at e
    exact (q2 _ _ (Option.some.inj e).symm).elim (fun z => nomatch z) fun z => hn z.symm
   ·subst w
    rw [(h.b x hx).l] at e
    have q := h.sep x hx y hy hn.symm
    exact (q1 _ (Option.some.inj e).symm).elim q.1 q.2
 ·show ((S.bs.map (Zb x')).map (·.b)).Nodup
  rw [upd_b h.nb hx _ s.b s.b]; exact h.nb
 ·show ((S.bs.map (Zb x')).map (·.n)).Nodup
  rw [upd_b h.nb hx _ s.n s.b]; exact h.nn
 ·rcases Zf h.nb hx s.b hy with e1 | ⟨hy, hn1⟩ <;> rcases Zf h.nb hx s.b hz with e2 | ⟨hz, hn2⟩
  ·exact absurd (e1 ▸ e2 ▸ rfl) hn
  ·rw [e1]; exact ⟨(new z hz hn2).1, (new z hz hn2).2.1⟩
  ·rw [e2]; exact ⟨(new y hy hn1).1.symm, (new y hy hn1).2.2⟩
  ·exact h.sep y hy z hz hn
 ·rcases Zf h.nb hx s.b hy with rfl | ⟨hy, _⟩
  ·have q := h.hl x hx
   have lt := h.lt hx
   refine ⟨?_, ?_, ?_⟩
   ·rcases s.ll with e | e
    ·rw [e]; exact q.1
    ·show y.ll ≠ S.sub; lia
   ·rcases s.ll with e | e
    ·rw [e]; exact q.2.1
    ·exact fr _ e
   ·rcases s.lg with e | e
    ·rw [e]; exact q.2.2
    ·exact fr _ e
  ·exact h.hl y hy
 ·obtain ⟨e1, e2⟩ := h.old i xs e
  exact ⟨e1, s.kp _ _ e2 (Jw e2 (h.b x hx).o fun q => nomatch q) (Nat.ne_of_lt (Nat.lt_of_lt_of_le e1 (h.hl x hx).2.1))⟩
end
noncomputable def Pz (S : SY) : Prg := prgOf S fns01 me01 ini01
theorem std {S : SY} : Std (Pz S) := ⟨rfl, rfl, rfl, rfl, rfl⟩
section
variable {S : SY} {d : Nat} {U : St} {Q : PV -> St -> Prop} {E : Nat -> St -> Prop}
theorem OF {a b : Str} {P : Bool -> Prop} (h : (a == b) = true) (k : P true) : ∀ t, (a == b) = t -> P t := fun t e => by rw [← e, h]; exact k
theorem Jv {a b : Str} {P : Bool -> Prop} (h : (a == b) = false) (k : P false) : ∀ t, (a == b) = t -> P t := fun t e => by rw [← e, h]; exact k
theorem oc_f {a b : Str} {P : Bool -> Prop} (h : (!(Builtin.Str.occurrences b a 0 b.length 1).isEmpty) = false) (k : P false) : ∀ t, (!(Builtin.Str.occurrences b a 0 b.length 1).isEmpty) = t -> P t := fun t e => by rw [← e, h]; exact k
noncomputable def sS : Str := Str.ofString "\\Seen"
noncomputable def sK : Str := Str.ofString "k"
noncomputable def vS : PV := .str sS
noncomputable def vK : PV := .str sK
noncomputable def sysF : List Str := [sS, Str.ofString "\\Answered", Str.ofString "\\Flagged", Str.ofString "\\Deleted", Str.ofString "\\Draft"]
noncomputable def sysS : Str := Str.ofString "\\Seen \\Answered \\Flagged \\Deleted \\Draft"
theorem sys_split : (((Str.ofString " ").length == 0) = false /\ Jp sysS.length = true /\ Jp (Txt.split sysS (Str.ofString " ")).length = true) /\ Txt.split sysS (Str.ofString " ") = sysF := by decide +kernel
theorem sysflags_w (K : ∀ l U', Gw U U' -> U'[l]? = some (.list (sysF.map .str)) -> Q (.loc l) U') : Rn ((tb (Pz S) (d + 1)).F 25 [] U) Q E :=
 F_w (P := Pz S) rfl ⟨rfl, by decide⟩ ⟨sys_split.1, fun U1 a1 => K _ _ a1.gw (sys_split.2 ▸ a1.me)⟩
theorem sK_lower : Jp sK.length = true /\ Jp sS.length = true /\ (Txt.lower sS == Txt.lower sS) = true /\ ∀ y ∈ sysF, Jp y.length = true /\ (Txt.lower sK == Txt.lower y) = false := by decide +kernel
theorem k_signs : YD sK = [ch 107] /\ ZP sK = true /\ (!(Builtin.Str.occurrences (Str.ofString "(){ %*\"\\]") ⟨#[107]⟩ 0 (Str.ofString "(){ %*\"\\]").length 1).isEmpty) = false := ⟨rfl, by decide +kernel, by decide +kernel⟩
theorem iskw_w (K : Q (.bool true) U) : Rn ((tb (Pz S) (d + 1)).F 26 [vK] U) Q E := by
 refine F_w (P := Pz S) rfl ⟨rfl, by decide⟩ ?_
 refine Jf k_signs.2.1 ?_
 rw [k_signs.1]
 refine lpI (fun rest fr U' => U' = U /\ (rest = [ch 107] \/ rest = []) /\ ∃ u, fr = [some vK, u]) ?_ ?_ ⟨rfl, .inl rfl, none, rfl⟩
 ·rintro _ _ ⟨rfl, _, u, rfl⟩
  exact K
 ·rintro x rest _ _ ⟨rfl, h, u, rfl⟩ M hM
  obtain ⟨rfl, rfl⟩ : x = ch 107 /\ rest = [] := by rcases h with h | h <;> cases h; exact ⟨rfl, rfl⟩
  refine Yb ?_
  refine oc_f k_signs.2.2 ?_
  exact hM _ _ ⟨rfl, .inr rfl, _, rfl⟩
theorem flagname_w {v : PV} (hv : v = vS \/ v = vK) (K : ∀ U', Gw U U' -> Q v U') : Rn ((tb (Pz S) (d + 2)).F 27 [v] U) Q E := by
 refine F_w (P := Pz S) rfl ⟨rfl, by decide⟩ ?_
 refine sysflags_w fun l U1 g1 hl => ?_
 refine Jm hl ?_
 obtain ⟨lK, lS, eS, eK⟩ := sK_lower
 rcases hv with rfl | rfl
 ·refine lpL (fun rest fr U' => U' = U1 /\ rest = sysF.map .str /\ fr = [some vS, none]) l (by decide) ⟨rfl, rfl, rfl⟩ (by rintro _ _ _ ⟨rfl, _⟩; exact hl) (fun _ _ q => nomatch q.2.1) ?_ (xs := sysF.map .str)
  rintro _ _ _ _ ⟨rfl, e, rfl⟩ M hM
  cases e
  refine Yb ?_
  refine Jf lS (Jf lS (OF eS ?_))
  exact K _ g1
 ·refine lpL (fun rest fr U' => U' = U1 /\ (∃ ys, rest = ys.map .str /\ ∀ y ∈ ys, y ∈ sysF) /\ ∃ u, fr = [some vK, u]) l (by decide) ⟨rfl, ⟨sysF, rfl, fun _ h => h⟩, none, rfl⟩ (by rintro _ _ _ ⟨rfl, _⟩; exact hl) ?_ ?_ (xs := sysF.map .str)
  ·rintro _ _ ⟨rfl, _, u, rfl⟩
   refine iskw_w ?_
   exact K _ g1
  ·rintro _ _ _ _ ⟨rfl, ⟨ys, e, h⟩, u, rfl⟩ M hM
   obtain ⟨y, ys', rfl, rfl, rfl⟩ := map_cons e
   refine Yb ?_
   have q := eK y (h y List.mem_cons_self)
   refine Jf q.1 (Jv q.2 ?_)
   exact hM _ _ ⟨rfl, ⟨ys', rfl, fun z hz => h z (List.mem_cons_of_mem _ hz)⟩, _, rfl⟩
noncomputable def Fl2 (v : PV) : Prop := v = vS \/ v = vK
inductive GoodF : List PV -> Prop
 | e : GoodF []
 | s : GoodF [vS]
 | k : GoodF [vK]
 | sk : GoodF [vS, vK]
inductive GoodG : List PV -> Prop
 | good {l : List PV} : GoodF l -> GoodG l
 | ks : GoodG [vK, vS]
theorem GoodF.fl {f : List PV} (h : GoodF f) : ∀ v ∈ f, Fl2 v := by
 cases h <;> intro v hv
 ·exact nomatch hv
 ·exact .inl (List.mem_singleton.mp hv)
 ·exact .inr (List.mem_singleton.mp hv)
 ·exact (List.mem_cons.mp hv).elim .inl fun q => .inr (List.mem_singleton.mp q)
theorem SnK : vS ≠ vK := fun e => absurd (Option.some.inj (congrArg Oq e) : Str.ofString _ = Str.ofString _) (by decide +kernel)
theorem nd1 {v : PV} : [v].Nodup := List.nodup_cons.mpr ⟨List.not_mem_nil, .nil⟩
theorem GoodF.nodup {f : List PV} (h : GoodF f) : f.Nodup := by
 cases h
 ·exact .nil
 ·exact nd1
 ·exact nd1
 ·exact List.nodup_cons.mpr ⟨fun q => SnK (List.mem_singleton.mp q), nd1⟩
theorem KnS : (sK == sS) = false /\ (sS == sK) = false /\ (sK == sK) = true /\ (sS == sS) = true := by decide +kernel
theorem any_f (v : PV) (hv : Fl2 v) {f : List PV} (h : GoodG f) : (Od U v f = some true /\ v ∈ f) \/ (Od U v f = some false /\ GoodG (f ++ [v])) := by
 obtain ⟨e1, e2, e3, e4⟩ := KnS
 have a0 : Od U v [] = some false := rfl
 have a1 : ∀ (x y : Str) (r : List PV), Od U (.str x) (.str y :: r) = (Od U (.str x) r).map ((y == x) || ·) := fun _ _ _ => rfl
 have b1 : ∀ (x y : Str), Od U (.str x) [.str y] = some ((y == x) || false) := fun _ _ => rfl
 have b2 : ∀ (x y z : Str), Od U (.str x) [.str y, .str z] = some ((y == x) || ((z == x) || false)) := fun _ _ _ => rfl
 have w1 := b1 sS sS; have w2 := b1 sS sK; have w3 := b1 sK sS; have w4 := b1 sK sK
 have w5 := b2 sS sS sK; have w6 := b2 sK sS sK; have w7 := b2 sS sK sS; have w8 := b2 sK sK sS
 rw [e4] at w1 w5; rw [e1] at w2 w7; rw [e2] at w3 w6; rw [e3] at w4 w8
 rw [e3] at w6; rw [e4] at w7
 rcases hv with rfl | rfl <;> cases h with
 | good h => cases h with
  | e => exact .inr ⟨rfl, .good (by first | exact .s | exact .k)⟩
  | s => first | exact .inl ⟨w1, List.mem_cons_self⟩ | exact .inr ⟨w3, .good .sk⟩
  | k => first | exact .inl ⟨w4, List.mem_cons_self⟩ | exact .inr ⟨w2, .ks⟩
  | sk => first | exact .inl ⟨w5, List.mem_cons_self⟩ | exact .inl ⟨w6, List.mem_cons_of_mem _ List.mem_cons_self⟩
 | ks => first | exact .inl ⟨w8, List.mem_cons_self⟩ | exact .inl ⟨w7, List.mem_cons_of_mem _ List.mem_cons_self⟩
theorem GoodG.len {f : List PV} (h : GoodG f) : f.length ≤ 2 := by
 cases h with
 | good h => cases h <;> decide
 | ks => decide
theorem sk_lt : Of sS sK = true /\ Of sK sS = false := by decide +kernel
theorem sort_f {f : List PV} (h : GoodG f) : ∃ g, JY f = some g /\ GoodF g /\ (GoodF f -> g = f) := by
 obtain ⟨e1, e2⟩ := sk_lt
 have two : ∀ x y : Str, JY [.str x, .str y] = some ((YJ Of [x, y]).map .str) := fun _ _ => rfl
 cases h with
 | good h => cases h with
  | e => exact ⟨[], rfl, .e, fun _ => rfl⟩
  | s => exact ⟨[vS], rfl, .s, fun _ => rfl⟩
  | k => exact ⟨[vK], rfl, .k, fun _ => rfl⟩
  | sk =>
   refine ⟨[vS, vK], (two sS sK).trans ?_, .sk, fun _ => rfl⟩
   show some ((if Of sS sK = true then [sS, sK] else [sK, sS]).map PV.str) = _
   rw [e1]; rfl
 | ks =>
  refine ⟨[vS, vK], (two sK sS).trans ?_, .sk, fun h => ?_⟩
  ·show some ((if Of sK sS = true then [sK, sS] else [sS, sK]).map PV.str) = _
   rw [e2]; rfl
  ·generalize e : [vK, vS] = f at h
   cases h <;> first | exact nomatch e | exact absurd (List.cons.inj e).1.symm SnK
theorem UU {l : Nat} {xs : List PV} (h : U[l]? = some (.list xs)) : Gn .append (.loc l) U = true := by
 show (true && isLs U[l]?) = true
 rw [h]; rfl
theorem Yi {xs : List PV} (hx : ∀ v ∈ xs, Fl2 v) (K : ∀ g U', Gw U U' -> GoodF g -> (GoodF xs -> g = xs) -> Q (.tup g) U') : Rn ((tb (Pz S) (d + 3)).F 28 [.tup xs] U) Q E := by
 refine F_w (P := Pz S) rfl ⟨rfl, by decide⟩ ?_
 refine fun U1 a1 => ?_
 refine lpI (fun rest fr U' => ∃ u1 u2 f, fr = [some (.tup xs), some (.loc U.length), u1, u2] /\ Gw U U' /\ U'[U.length]? = some (.list f) /\ GoodG f /\ (∀ v ∈ rest, Fl2 v) /\ (GoodF xs -> f ++ rest = xs)) ?_ ?_ ⟨none, none, [], rfl, a1.gw, a1.me, .good .e, hx, fun _ => rfl⟩
 ·rintro _ U2 ⟨u1, u2, f, rfl, g2, hl, hf, _, hg⟩
  obtain ⟨g, s1, s2, s3⟩ := sort_f hf
  refine Jm hl ?_
  refine JN (Nat.le_trans hf.len (by decide)) ?_
  refine Jh s1 fun U3 a3 => ?_
  refine Jm a3.me ?_
  refine Jf (Jj (by cases s2 <;> decide)) ?_
  refine K _ _ (g2.trans a3.gw) s2 fun h => ?_
  have e := hg h
  rw [List.append_nil] at e
  rw [← e]
  exact s3 (e.symm ▸ h)
 ·rintro v rest _ U2 ⟨u1, u2, f, rfl, g2, hl, hf, hr, hg⟩ M hM
  refine Yb ?_
  refine flagname_w (hr v List.mem_cons_self) fun U3 g3 => ?_
  have hl3 := g3 _ _ hl
  refine Jm hl3 ?_
  rcases any_f (U := U3) v (hr v List.mem_cons_self) hf with ⟨ha, hm⟩ | ⟨ha, hn⟩
  ·refine Jh ha ?_
   refine hM _ _ ⟨_, _, f, rfl, g2.trans g3, hl3, hf, fun w hw => hr w (List.mem_cons_of_mem _ hw), fun h => ?_⟩
   have q := (hg h ▸ h.nodup : (f ++ v :: rest).Nodup)
   exact absurd rfl ((List.nodup_append.mp q).2.2 v hm v List.mem_cons_self)
  ·refine Jh ha ?_
   refine Jf (UU hl3) ?_
   refine Jm hl3 ?_
   refine Jf (Jj (Nat.le_trans hf.len (by decide))) fun U4 t4 => ?_
   have hne : ∀ {i : Nat} {o : PO}, U[i]? = some o -> i ≠ U.length := fun h => Nat.ne_of_lt (Jc h)
   exact hM _ _ ⟨_, _, f ++ [v], rfl, fun i o e => t4.ne _ _ (hne e) ((g2.trans g3) _ _ e), t4.me _ hl3, hn, fun w hw => hr w (List.mem_cons_of_mem _ hw), fun h => by rw [List.append_assoc]; exact hg h⟩
end
section
variable {S : SY} {d : Nat} {U : St} {Q : PV -> St -> Prop} {E : Nat -> St -> Prop} {x : AB}
noncomputable def Asc (ls : List AL) : Prop := ls.Pairwise fun a b => a.u < b.u
theorem Asc.at {ls : List AL} (h : Asc ls) {i j : Nat} {a b : AL} (hi : ls[i]? = some a) (hj : ls[j]? = some b) (hlt : i < j) : a.u < b.u := by
 obtain ⟨h1, rfl⟩ := List.getElem?_eq_some_iff.mp hi
 obtain ⟨h2, rfl⟩ := List.getElem?_eq_some_iff.mp hj
 exact List.pairwise_iff_getElem.mp h i j h1 h2 hlt
theorem Asc.inj {ls : List AL} (h : Asc ls) {a b : AL} (ha : a ∈ ls) (hb : b ∈ ls) (e : a.u = b.u) : a = b := by
 obtain ⟨i, hi, rfl⟩ := List.getElem_of_mem ha
 obtain ⟨j, hj, rfl⟩ := List.getElem_of_mem hb
 have q := List.pairwise_iff_getElem.mp h
 rcases Nat.lt_trichotomy i j with l | l | l
 ·exact absurd e (Int.ne_of_lt (q i j hi hj l))
 ·subst l; rfl
 ·exact absurd e.symm (Int.ne_of_lt (q j i hj hi l))
theorem mid_lt {a b n : Nat} (h1 : a < b) (h2 : b ≤ n) : (a + b) / 2 < n := Nat.lt_of_lt_of_le (Nat.div_lt_of_lt_mul (by lia)) h2
theorem mid_le {a b : Nat} (h1 : a ≤ b) : a ≤ (a + b) / 2 := (Nat.le_div_iff_mul_le (by decide)).mpr (by lia)
theorem mid_eq (a b : Nat) : ((a : Int) + (b : Int)).fdiv 2 = (((a + b) / 2 : Nat) : Int) := by
 rw [Int.fdiv_eq_ediv_of_nonneg _ (by decide)]; rfl
theorem Um {ls : List AL} {i : Nat} {a : AL} (h : ls[i]? = some a) : (Og ls)[((i : Nat) : Int).toNat]? = some (.loc a.l) := by
 unfold Og
 rw [Int.toNat_natCast, List.getElem?_map, h]; rfl
theorem OE {ls : List AL} : (Og ls).length = ls.length := List.length_map ..
theorem UP {ll : Nat} {ls : List AL} {u : Int} {i : Nat} {a : AL} (hl : U[ll]? = some (.list (Og ls))) (ha : ∀ a ∈ ls, U[a.l]? = some (letO a)) (hs : Asc ls) (hn : ls.length ≤ 90) (hi : ls[i]? = some a) (hu : a.u = u)
  (K : Q (.int i) U) : Rn ((tb (Pz S) (d + 1)).F 30 [.loc ll, .int u] U) Q E := by
 have hlt : i < ls.length := (List.getElem?_eq_some_iff.mp hi).1
 have sz : Jp (Og ls).length = true := Jj (by rw [OE]; lia)
 refine F_w (P := Pz S) rfl ⟨rfl, by decide⟩ ?_
 refine Jm hl (Jf sz ?_)
 rw [OE]
 refine while_w (fun k fr U' => U' = U /\ ∃ (lo hi : Nat) (u4 : Option PV), fr = [some (.loc ll), some (.int u), some (.int lo), some (.int hi), u4] /\ lo ≤ i /\ i ≤ hi /\ hi ≤ ls.length /\ k = hi - lo) ?_ (k := ls.length) (show ls.length < 100 by lia) ⟨rfl, 0, ls.length, none, rfl, Nat.zero_le _, Nat.le_of_lt hlt, Nat.le_refl _, rfl⟩
 rintro k _ _ ⟨rfl, lo, hi', u4, rfl, h1, h2, h3, rfl⟩
 by_cases hc : (lo : Int) < (hi' : Int)
 ·refine Yr (decide_eq_true hc) ?_
  have hmid : (lo + hi') / 2 < hi' := mid_lt (Int.ofNat_lt.mp hc) (Nat.le_refl _)
  have hml : lo ≤ (lo + hi') / 2 := mid_le (Nat.le_of_lt (Int.ofNat_lt.mp hc))
  have hlt2 : (lo + hi') / 2 < ls.length := Nat.lt_of_lt_of_le hmid h3
  obtain ⟨b, hb⟩ : ∃ b, ls[(lo + hi') / 2]? = some b := ⟨_, List.getElem?_eq_getElem hlt2⟩
  show wSs _ _ (List.set _ 4 (some (.int (((lo : Int) + (hi' : Int)).fdiv 2)))) _ _ _ _ _
  rw [mid_eq]
  refine Jm hl ?_
  refine JN ⟨Int.natCast_nonneg _, by lia⟩ ?_
  refine Jh (Um hb) ?_
  refine Jd (ha b (List.mem_of_getElem? hb)) ?_
  by_cases hm : b.u < u
  ·refine Yr (decide_eq_true hm) ?_
   have : (lo + hi') / 2 < i := by
    rcases Nat.lt_trichotomy ((lo + hi') / 2) i with q | q | q
    ·exact q
    ·rw [q, hi] at hb; cases hb; exact absurd (hu ▸ hm) (Int.lt_irrefl _)
    ·exact absurd (Int.lt_trans (hs.at hi hb q) (hu ▸ hm)) (Int.lt_irrefl _)
   exact ⟨hi' - ((lo + hi') / 2 + 1), Nat.sub_lt_sub_left (Int.ofNat_lt.mp hc) (Nat.lt_succ_of_le hml), rfl, (lo + hi') / 2 + 1, hi', _, rfl, this, h2, h3, rfl⟩
  ·refine JG (decide_eq_false hm) ?_
   have : i ≤ (lo + hi') / 2 := by
    rcases Nat.lt_or_ge ((lo + hi') / 2) i with q | q
    ·exact absurd (hu ▸ hs.at hb hi q) hm
    ·exact q
   exact ⟨(lo + hi') / 2 - lo, Nat.sub_lt_sub_right hml hmid, rfl, lo, (lo + hi') / 2, _, rfl, h1, this, Nat.le_of_lt hlt2, rfl⟩
 ·refine JG (decide_eq_false hc) ?_
  obtain rfl : lo = i := Nat.le_antisymm h1 (Nat.le_trans h2 (Nat.le_of_not_lt fun q => hc (Int.ofNat_lt.mpr q)))
  refine Jm hl (Jf sz ?_)
  refine Yr (decide_eq_true (by rw [OE]; lia)) ?_
  refine Jm hl ?_
  refine JN ⟨Int.natCast_nonneg _, by lia⟩ ?_
  refine Jh (Um hi) ?_
  refine Jd (ha a (List.mem_of_getElem? hi)) ?_
  refine Yr (beq_iff_eq.mpr hu) ?_
  exact K
theorem Gc (h : U[x.b]? = some (boxO x)) (K : ∀ U', Se x.b (boxO { x with top := x.top + 1 }) U U' -> Q (.int (x.top + 1)) U') : Rn ((tb (Pz S) (d + 1)).F 31 [.loc x.b] U) Q E := by
 refine F_w (P := Pz S) rfl ⟨rfl, by decide⟩ ?_
 refine Jd h (Jd h fun U1 t1 => Jd (t1.me _ h) ?_)
 exact K U1 t1
theorem Uq {l : Nat} {u m : Int} {o i : PV} {f : List PV} (h : U[l]? = some (.inst 0 [])) (K : ∀ U', Se l (letO ⟨l, u, o, f, i, m⟩) U U' -> Q .none U') : Rn ((tb (Pz S) (d + 1)).F 23 [.loc l, .int u, o, .tup f, i, .int m] U) Q E := by
 refine F_w (P := Pz S) rfl ⟨rfl, by decide⟩ ?_
 refine Jd h fun U1 t1 => ?_
 have h1 := t1.me _ h
 refine Jd h1 fun U2 t2 => ?_
 have h2 := t2.me _ h1
 refine Jd h2 fun U3 t3 => ?_
 have h3 := t3.me _ h2
 refine Jd h3 fun U4 t4 => ?_
 have h4 := t4.me _ h3
 refine Jd h4 fun U5 t5 => ?_
 refine K U5 ⟨fun _ _ => t5.me _ h4, fun j o n e => t5.ne _ _ n (t4.ne _ _ n (t3.ne _ _ n (t2.ne _ _ n (t1.ne _ _ n e)))), ?_⟩
 rw [t5.len, t4.len, t3.len, t2.len, t1.len]
end
section
variable {S : SY} {d : Nat} {U : St} {Q : PV -> St -> Prop} {E : Nat -> St -> Prop} {x : AB}
theorem BoxR.bl (h : BoxR U x) : x.b ≠ x.ll := Jw h.o h.l fun q => nomatch q
theorem BoxR.bg (h : BoxR U x) : x.lg ≠ x.b := Jw h.g h.o fun q => nomatch q
theorem locs_app {ls : List AL} {a : AL} : Og (ls ++ [a]) = Og ls ++ [.loc a.l] := List.map_append ..
theorem Ks {b : Nat} {o i : PV} {f : List PV} (hb : x.b = b) (h : BoxR U x) (hf : ∀ v ∈ f, Fl2 v) (hn : x.ls.length ≤ 1000)
  (K : ∀ l g U', GoodF g -> BStep U U' x { x with nu := x.nu + 1, top := x.top + 1, ls := x.ls ++ [⟨l, x.nu, o, g, i, x.top + 1⟩] } -> Q (.loc l) U') : Rn ((tb (Pz S) (d + 4)).F 32 [.loc b, o, .tup f, i] U) Q E := by
 subst hb
 refine F_w (P := Pz S) rfl ⟨rfl, by decide⟩ ?_
 refine Yi hf fun g U1 g1 hg _ => ?_
 have h1 := h.gw g1
 refine Jd h1.o ?_
 refine Gc h1.o fun U2 t2 => ?_
 refine fun U3 a3 => ?_
 refine Uq a3.me fun U4 t4 => ?_
 have n2 : ∀ {j : Nat} {o : PO}, U1[j]? = some o -> j ≠ U2.length := fun e => Nat.ne_of_lt (t2.len ▸ Jc e)
 have k4 : ∀ (j : Nat) (o : PO), U1[j]? = some o -> j ≠ x.b -> U4[j]? = some o := fun j o e nb => t4.ne _ _ (n2 e) (a3.gw _ _ (t2.ne _ _ nb e))
 have b4 := t4.ne _ _ (n2 h1.o) (a3.gw _ _ (t2.me _ h1.o))
 have l4 := k4 _ _ h1.l h1.bl.symm
 have e4 := t4.me _ a3.me
 refine Jd b4 (Jd b4 fun U5 t5 => ?_)
 have b5 := t5.me _ b4
 have l5 := t5.ne _ _ h1.bl.symm l4
 have nl : U2.length ≠ x.b := (n2 h1.o).symm
 have nll : U2.length ≠ x.ll := (n2 h1.l).symm
 refine Jd b5 (Jf rfl ?_)
 refine Jf (UU l5) ?_
 refine Jm l5 ?_
 refine Jf (Jj (by rw [OE]; lia)) fun U6 t6 => ?_
 have k6 : ∀ (j : Nat) (o : PO), U1[j]? = some o -> j ≠ x.b -> j ≠ x.ll -> U6[j]? = some o := fun j o e nb nl => t6.ne _ _ nl (t5.ne _ _ nb (k4 _ _ e nb))
 refine K _ g U6 hg ⟨⟨t6.ne _ _ h1.bl b5, ?_, k6 _ _ h1.g h1.bg h.ne.symm, fun a ha => ?_, h.ne⟩, rfl, rfl, rfl, .inl rfl, .inl rfl, fun j o e nb nl => k6 _ _ (g1 _ _ e) nb nl, ?_⟩
 ·rw [locs_app]; exact t6.me _ l5
 ·rcases List.mem_append.mp ha with q | q
  ·exact k6 _ _ (h1.a a q) (Jw (h1.a a q) h1.o fun q => nomatch q) (Jw (h1.a a q) h1.l fun q => nomatch q)
  ·rw [List.mem_singleton.mp q]
   exact t6.ne _ _ nll (t5.ne _ _ nl e4)
 ·rw [t6.len, t5.len, t4.len, a3.len, t2.len]
  exact Nat.le_succ_of_le g1.len
structure LOk (top : Int) (a : AL) : Prop where
 m : a.m ≤ top
 f : GoodF a.f
 o : ∃ b, a.o = .bytes b
 i : ∃ k, a.i = .int k
theorem LOk.up {t t' : Int} {a : AL} (h : LOk t a) (k : t ≤ t') : LOk t' a := ⟨Int.le_trans h.m k, h.f, h.o, h.i⟩
theorem eqz_some {U : St} (n : Nat) {f g : List PV} (hf : ∀ v ∈ f, Fl2 v) (hg : ∀ v ∈ g, Fl2 v) : ∃ r, ZH (eqv U (n + 1)) f g = some r := by
 induction f generalizing g with
 | nil => exact ⟨true, rfl⟩
 | cons v f ih =>
  cases g with
  | nil => exact ⟨true, rfl⟩
  | cons w g =>
   obtain ⟨r, hr⟩ := ih (fun v h => hf v (List.mem_cons_of_mem _ h)) fun v h => hg v (List.mem_cons_of_mem _ h)
   have two : ∀ x y : Str, eqv U (n + 1) (.str x) (.str y) = some (x == y) := fun _ _ => rfl
   have hv : ∃ s, v = .str s := (hf v List.mem_cons_self).elim (fun e => ⟨_, e⟩) fun e => ⟨_, e⟩
   have hw : ∃ s, w = .str s := (hg w List.mem_cons_self).elim (fun e => ⟨_, e⟩) fun e => ⟨_, e⟩
   obtain ⟨s, rfl⟩ := hv
   obtain ⟨t, rfl⟩ := hw
   refine ⟨(s == t) && r, ?_⟩
   show ((eqv U (n + 1) (.str s) (.str t)).bind fun a => (ZH (eqv U (n + 1)) f g).map (a && ·)) = _
   rw [two, hr]; rfl
theorem eqf_some {U : St} {f g : List PV} (hf : GoodF f) (hg : GoodF g) : ∃ r, eqv U JL (.tup f) (.tup g) = some r := by
 obtain ⟨r, h⟩ := eqz_some (U := U) 14 hf.fl hg.fl
 refine ⟨r && f.length == g.length, ?_⟩
 show (ZH (eqv U 15) f g).map _ = _
 rw [h]; rfl
noncomputable def Jz (ls : List AL) : List Int := ls.map (·.u)
theorem Asc.of {ls ls' : List AL} (h : Asc ls) (e : Jz ls' = Jz ls) : Asc ls' := by
 have : (Jz ls).Pairwise (· < ·) := List.pairwise_map.mpr h
 rw [← e] at this
 exact List.pairwise_map.mp this
structure FStep (k : Int) (U U' : St) (x x' : AB) : Prop extends BStep U U' x x' where
 us : Jz x'.ls = Jz x.ls
 nu : x'.nu = x.nu
 lo : x.top ≤ x'.top
 hi : x'.top ≤ x.top + k
 ok : ∀ a ∈ x'.ls, LOk x'.top a
 gn : x'.gn = x.gn
 lgk : x'.lg = x.lg
theorem FStep.trans {k k' : Int} {U'' : St} {U' : St} {x' x'' : AB} (s : FStep k U U' x x') (t : FStep k' U' U'' x' x'') : FStep (k + k') U U'' x x'' :=
 ⟨s.toBStep.trans t.toBStep, t.us.trans s.us, t.nu.trans s.nu, Int.le_trans s.lo t.lo, by have := s.hi; have := t.hi; lia, t.ok, t.gn.trans s.gn, t.lgk.trans s.lgk⟩
theorem KY {b : Nat} {u : Int} {f : List PV} (hb : x.b = b) (h : BoxR U x) (hs : Asc x.ls) (ok : ∀ a ∈ x.ls, LOk x.top a) (hn : x.ls.length ≤ 90) (hu : u ∈ Jz x.ls) (hf : ∀ v ∈ f, Fl2 v)
  (K : ∀ r U' x', FStep 1 U U' x x' -> Q (.bool r) U') : Rn ((tb (Pz S) (d + 4)).F 33 [.loc b, .int u, .tup f] U) Q E := by
 subst hb
 obtain ⟨a, ha, rfl⟩ := List.mem_map.mp hu
 obtain ⟨i, hi, hia⟩ := List.getElem_of_mem ha
 have hi : x.ls[i]? = some a := List.getElem?_eq_some_iff.mpr ⟨hi, hia⟩
 have hil : i < x.ls.length := (List.getElem?_eq_some_iff.mp hi).1
 refine F_w (P := Pz S) rfl ⟨rfl, by decide⟩ ?_
 refine Yi hf fun g U1 g1 hg _ => ?_
 have h1 := h.gw g1
 refine Jd h1.o ?_
 refine UP h1.l h1.a hs hn hi rfl ?_
 refine Jd h1.o (Jm h1.l (JN ⟨Int.natCast_nonneg _, by lia⟩ (Jh (Um hi) ?_)))
 refine Jd (h1.a a ha) ?_
 obtain ⟨r, hr⟩ := eqf_some (U := U1) (ok a ha).f hg
 refine Jh hr (YM (fun _ => ?_) fun _ => ?_)
 ·exact K _ U1 x ⟨.gw h g1, rfl, rfl, Int.le_refl _, by lia, ok, rfl, rfl⟩
 ·refine Jd (h1.a a ha) (Jd (h1.a a ha) ?_)
  refine Gc h1.o fun U2 t2 => ?_
  refine fun U3 a3 => ?_
  refine Uq a3.me fun U4 t4 => ?_
  have n2 : ∀ {j : Nat} {o : PO}, U1[j]? = some o -> j ≠ U2.length := fun e => Nat.ne_of_lt (t2.len ▸ Jc e)
  have k4 : ∀ (j : Nat) (o : PO), U1[j]? = some o -> j ≠ x.b -> U4[j]? = some o := fun j o e nb => t4.ne _ _ (n2 e) (a3.gw _ _ (t2.ne _ _ nb e))
  have b4 := t4.ne _ _ (n2 h1.o) (a3.gw _ _ (t2.me _ h1.o))
  have l4 := k4 _ _ h1.l h1.bl.symm
  have e4 := t4.me _ a3.me
  refine Jd b4 (Jm l4 (JN ⟨Int.natCast_nonneg _, by rw [OE]; exact (List.getElem?_eq_some_iff.mp hi).1, by lia⟩ fun U5 t5 => ?_))
  have nll : U2.length ≠ x.ll := (n2 h1.l).symm
  have k5 : ∀ (j : Nat) (o : PO), U1[j]? = some o -> j ≠ x.b -> j ≠ x.ll -> U5[j]? = some o := fun j o e nb nl => t5.ne _ _ nl (k4 _ _ e nb)
  have hm : ∀ z ∈ x.ls.set i ⟨U2.length, a.u, a.o, g, a.i, x.top + 1⟩, z ∈ x.ls \/ z = ⟨U2.length, a.u, a.o, g, a.i, x.top + 1⟩ := fun z hz => List.mem_or_eq_of_mem_set hz
  refine K _ U5 { x with top := x.top + 1, ls := x.ls.set i ⟨U2.length, a.u, a.o, g, a.i, x.top + 1⟩ } ⟨⟨⟨t5.ne _ _ h1.bl b4, ?_, k5 _ _ h1.g h1.bg h.ne.symm, fun z hz => ?_, h.ne⟩, rfl, rfl, rfl, .inl rfl, .inl rfl, fun j o e nb nl => k5 _ _ (g1 _ _ e) nb nl, ?_⟩, ?_, rfl, ?_, Int.le_refl _, fun z hz => ?_, rfl, rfl⟩
  ·have := t5.me _ l4
   rw [Int.toNat_natCast] at this
   show U5[x.ll]? = some (.list (Og (x.ls.set i _)))
   unfold Og at this ⊢
   rw [List.map_set]; exact this
  ·rcases hm z hz with q | q
   ·exact k5 _ _ (h1.a z q) (Jw (h1.a z q) h1.o fun q => nomatch q) (Jw (h1.a z q) h1.l fun q => nomatch q)
   ·rw [q]; exact t5.ne _ _ nll e4
  ·rw [t5.len, t4.len, a3.len, t2.len]
   exact Nat.le_succ_of_le g1.len
  ·show (x.ls.set i _).map (·.u) = x.ls.map (·.u)
   rw [List.map_set]
   refine List.ext_getElem? fun j => ?_
   by_cases q : i = j
   ·subst q
    rw [List.getElem?_set_self (by rw [List.length_map]; exact hil), List.getElem?_map, hi]; rfl
   ·rw [List.getElem?_set_ne q]
  ·show x.top ≤ x.top + 1; lia
  ·rcases hm z hz with q | q
   ·exact (ok z q).up (show x.top ≤ x.top + 1 by lia)
   ·rw [q]; exact ⟨Int.le_refl _, hg, (ok a ha).o, (ok a ha).i⟩
end
section
variable {S : SY} {d : Nat} {U : St} {Q : PV -> St -> Prop} {E : Nat -> St -> Prop} {x : AB}
noncomputable def ItemsAt (U : St) (v : PV) (xs : List PV) : Prop := v = .tup xs \/ ∃ l : Nat, v = .loc l /\ U[l]? = some (PO.list xs)
theorem src0_w {v : PV} {xs : List PV} {Q : Src -> St -> Prop} (h : ItemsAt U v xs) (k : ∀ s, SrcAt U s xs -> Q s U) : wSrc 0 [v] U Q := by
 rcases h with rfl | ⟨l, rfl, h⟩
 ·exact k _ (.inl rfl)
 ·exact Jm h (k _ (.inr ⟨l, rfl, h⟩))
noncomputable def Up (us : List Int) : Prop := us.Pairwise (· < ·)
noncomputable def Jr (us : List Int) : List PV := us.map .int
noncomputable def wd (us : List Int) : List (PV × PV) := us.map fun u => (.int u, .bool true)
theorem Js {us : List Int} : (Jr us).length = us.length := List.length_map ..
theorem wd_keys {us : List Int} : (wd us).map (·.1) = Jr us := List.map_map ..
theorem UG {us : List Int} : (wd us).length = us.length := List.length_map ..
theorem Zr (u : Int) (us : List Int) : Jt (.int u) (wd us) = true := by
 show (false || (true && (wd us).all fun e => isI e.1)) = true
 rw [Bool.false_or, Bool.true_and, List.all_eq_true]
 intro e he
 obtain ⟨a, _, rfl⟩ := List.mem_map.mp he
 rfl
theorem wd_get (u : Int) (us : List Int) : (dget (.int u) (wd us)).isSome = decide (u ∈ us) := by
 induction us with
 | nil => rfl
 | cons a us ih =>
  show (if (a == u) = true then some (PV.bool true) else dget (.int u) (wd us)).isSome = _
  by_cases h : a = u
  ·rw [if_pos (beq_iff_eq.mpr h), decide_eq_true (List.mem_cons.mpr (.inl h.symm))]; rfl
  ·rw [if_neg (fun q => h (beq_iff_eq.mp q)), ih]
   exact decide_eq_decide.mpr ⟨fun q => List.mem_cons_of_mem _ q, fun q => (List.mem_cons.mp q).elim (fun e => absurd e.symm h) id⟩
theorem wd_set (u : Int) (us : List Int) (h : u ∉ us) : Ob (.int u) (.bool true) (wd us) = wd (us ++ [u]) := by
 induction us with
 | nil => rfl
 | cons a us ih =>
  show (if (a == u) = true then _ else (PV.int a, PV.bool true) :: Ob (.int u) (.bool true) (wd us)) = _
  rw [if_neg fun q => h (List.mem_cons.mpr (.inl (beq_iff_eq.mp q).symm)), ih fun q => h (List.mem_cons_of_mem _ q)]
  rfl
theorem intz_keys (us : List Int) : Ur (Jr us) = some us := by
 induction us with
 | nil => rfl
 | cons a us ih => show (Ur (Jr us)).map (a :: ·) = _; rw [ih]; rfl
theorem Kz {us : List Int} (h : Up us) : JY (Jr us) = some (Jr us) := by
 have e : YJ sltI us = us := by
  induction us with
  | nil => rfl
  | cons a us ih =>
   obtain ⟨h1, h2⟩ := List.pairwise_cons.mp h
   show Gy sltI a (YJ sltI us) = _
   rw [ih h2]
   cases us with
   | nil => rfl
   | cons b us => exact if_pos (decide_eq_true (h1 b List.mem_cons_self))
 unfold JY
 rw [intz_keys]
 show some ((YJ sltI us).map PV.int) = _
 rw [e]; rfl
theorem Up.mid {ds : List Int} {u : Int} {rs : List Int} (h : Up (ds ++ u :: rs)) : u ∉ ds := fun q => Int.lt_irrefl u ((List.pairwise_append.mp h).2.2 u q u List.mem_cons_self)
theorem distinct_w {us : List Int} (hu : Up us) (hn : us.length ≤ 60) (K : ∀ l U', Gw U U' -> U'[l]? = some (.list (Jr us)) -> Q (.loc l) U') : Rn ((tb (Pz S) (d + 1)).F 41 [.tup (Jr us)] U) Q E := by
 refine F_w (P := Pz S) rfl ⟨rfl, by decide⟩ ?_
 refine fun U1 a1 => ?_
 have nw : ∀ {i : Nat} {o : PO}, U[i]? = some o -> i ≠ U.length := fun e => Nat.ne_of_lt (Jc e)
 refine lpI (fun rest fr U' => ∃ (u : Option PV) (ds rs : List Int), fr = [some (.tup (Jr us)), some (.loc U.length), u] /\ rest = Jr rs /\ us = ds ++ rs /\ U'[U.length]? = some (.dict (wd ds)) /\ Gw U U') ?_ ?_ ⟨none, [], us, rfl, rfl, rfl, a1.me, a1.gw⟩
 ·rintro _ U2 ⟨u, ds, rs, rfl, e, rfl, h2, g2⟩
  have e := JV e
  subst e
  rw [List.append_nil] at hu hn K ⊢
  refine YE h2 ?_
  refine Jf (Jj (by rw [UG]; lia)) fun U3 a3 => ?_
  have e3 := a3.me
  rw [wd_keys] at e3
  refine Jm e3 ?_
  refine JN (by rw [Js]; exact hn) ?_
  refine Jh (Kz hu) fun U4 a4 => ?_
  exact K _ _ ((g2.trans a3.gw).trans a4.gw) a4.me
 ·rintro _ _ _ U2 ⟨u, ds, rs, rfl, e, rfl, h2, g2⟩ M hM
  obtain ⟨a, rs', rfl, rfl, rfl⟩ := map_cons e
  refine Yb ?_
  rw [List.length_append] at hn
  refine YE h2 (JN ⟨Zr _ _, by rw [UG]; lia⟩ fun U3 t3 => ?_)
  refine hM _ _ ⟨_, ds ++ [a], rs', rfl, rfl, by rw [List.append_assoc]; rfl, ?_, fun i o e => t3.ne _ _ (nw e) (g2 _ _ e)⟩
  rw [← wd_set a ds hu.mid]
  exact t3.me _ h2
theorem uids_w (h : BoxR U x) (hn : x.ls.length ≤ 1000) (K : ∀ l U', Gw U U' -> U'[l]? = some (.list (Jr (Jz x.ls))) -> Q (.loc l) U') : Rn ((tb (Pz S) (d + 1)).F 22 [.loc x.b] U) Q E := by
 refine F_w (P := Pz S) rfl ⟨rfl, by decide⟩ ?_
 refine Jd h.o (Jm h.l ?_)
 exact OX _ rfl (L := x.ls) (R := Jr (Jz x.ls)) (fun u => [some (.loc x.b), none, u]) (fun a => .loc a.l) (fun a => .int a.u) (List.map_map ..).symm (.inr ⟨_, rfl, h.l⟩) (fun _ _ => rfl) (by lia) (fun fr U1 a1 => K _ _ a1.gw a1.me) fun a ha M hM => Jd (h.a a ha) (Jf rfl ⟨rfl, hM⟩)
theorem uid_at {ls : List AL} {u : Int} (hu : u ∈ Jz ls) : ∃ (i : Nat) (a : AL), ls[i]? = some a /\ a ∈ ls /\ a.u = u /\ i < ls.length := by
 obtain ⟨a, ha, rfl⟩ := List.mem_map.mp hu
 obtain ⟨i, hi, hia⟩ := List.getElem_of_mem ha
 exact ⟨i, a, List.getElem?_eq_some_iff.mpr ⟨hi, hia⟩, ha, rfl, hi⟩
theorem letter_w {u : Int} (h : BoxR U x) (hs : Asc x.ls) (hn : x.ls.length ≤ 90) (hu : u ∈ Jz x.ls) (K : ∀ a ∈ x.ls, a.u = u -> Q (.loc a.l) U) : Rn ((tb (Pz S) (d + 2)).F 21 [.loc x.b, .int u] U) Q E := by
 obtain ⟨i, a, hi, ha, hau, hil⟩ := uid_at hu
 refine F_w (P := Pz S) rfl ⟨rfl, by decide⟩ ?_
 refine Jd h.o ?_
 refine UP h.l h.a hs hn hi hau ?_
 refine Jd h.o (Jm h.l (JN ⟨Int.natCast_nonneg _, by lia⟩ (Jh (Um hi) ?_)))
 exact K a ha hau
theorem needuids_w {us : List Int} (h : BoxR U x) (hs : Asc x.ls) (hn : x.ls.length ≤ 90) (hu : Up us) (hl : us.length ≤ 60) (hm : ∀ u ∈ us, u ∈ Jz x.ls) (K : ∀ l U', Gw U U' -> U'[l]? = some (.list (Jr us)) -> Q (.loc l) U') :
  Rn ((tb (Pz S) (d + 3)).F 53 [.loc x.b, .tup (Jr us)] U) Q E := by
 refine F_w (P := Pz S) rfl ⟨rfl, by decide⟩ ?_
 refine lpI (fun rest p U' => U' = U /\ ∃ (u : Option PV) (ds rs : List Int), p = ([some (.loc x.b), some (.tup (Jr us)), none, none, none, u], wd ds) /\ rest = Jr rs /\ us = ds ++ rs) ?_ ?_ ⟨rfl, none, [], us, rfl, rfl, rfl⟩
 ·rintro _ _ ⟨rfl, u, ds, rs, rfl, e, hd⟩
  have e := JV e
  subst e
  rw [List.append_nil] at hd
  rw [← hd]
  refine fun U1 a1 => ?_
  refine YE a1.me (Jf (Jj (by rw [UG]; lia)) fun U2 a2 => ?_)
  have e2 := a2.me
  rw [wd_keys] at e2
  refine Jm e2 (JN (by rw [Js]; exact hl) (Jh (Kz hu) fun U3 a3 => ?_))
  have g3 := (a1.gw.trans a2.gw).trans a3.gw
  have e3 := a3.me
  generalize U2.length = l at e3 ⊢
  refine Jm e3 ?_
  refine lpL (fun rest fr U' => U' = U3 /\ ∃ (u : Option PV) (rs : List Int), fr = [some (.loc x.b), some (.tup (Jr us)), u, some (.loc l)] /\ rest = Jr rs /\ ∀ r ∈ rs, r ∈ us) l (by rw [Js]; lia) ⟨rfl, none, us, rfl, rfl, fun _ q => q⟩ ?_ ?_ ?_ (xs := Jr us)
  ·rintro _ _ _ ⟨rfl, _⟩
   exact e3
  ·rintro _ _ ⟨rfl, u, rs, rfl, _⟩
   exact K _ _ g3 e3
  ·rintro _ _ _ _ ⟨rfl, u, rs, rfl, e, hr⟩ M hM
   obtain ⟨a, rs', rfl, rfl, rfl⟩ := map_cons e
   refine Yb ?_
   have h3 := h.gw g3
   refine Jd h3.o ?_
   refine Jh rfl ?_
   refine letter_w h3 hs hn (hm a (hr a List.mem_cons_self)) fun b _ _ => ?_
   exact hM _ _ ⟨rfl, _, rs', rfl, rfl, fun r q => hr r (List.mem_cons_of_mem _ q)⟩
 ·rintro _ _ _ _ ⟨rfl, u, ds, rs, rfl, e, hd⟩ M hM
  obtain ⟨a, rs', rfl, rfl, rfl⟩ := map_cons e
  refine cmpd_w (Jh rfl ?_)
  have hl2 := congrArg List.length hd
  rw [List.length_append] at hl2
  refine JN ⟨Zr _ _, by rw [UG]; lia⟩ ?_
  rw [hd] at hu
  refine hM _ _ ⟨rfl, some (.int a), ds ++ [a], rs', ?_, rfl, by rw [List.append_assoc]; exact hd⟩
  rw [← wd_set a ds hu.mid]; rfl
end
section
variable {S : SY} {d : Nat} {U : St} {Q : PV -> St -> Prop} {E : Nat -> St -> Prop} {x : AB}
noncomputable def ways : List Str := [Str.ofString "+", Str.ofString "-", Str.ofString "="]
theorem ways_eq : (Str.ofString "+" == Str.ofString "+") = true /\ (Str.ofString "-" == Str.ofString "+") = false /\ (Str.ofString "=" == Str.ofString "+") = false /\ (Str.ofString "-" == Str.ofString "-") = true /\ (Str.ofString "=" == Str.ofString "-") = false /\ (Str.ofString "=" == Str.ofString "=") = true := by decide +kernel
noncomputable def Gx (U : St) (g : List PV) (v : PV) : Bool := (Od U v g).getD false
theorem flagsafter_w {a : AL} {way : Str} {f : List PV} (h : U[a.l]? = some (letO a)) (ha : GoodF a.f) (hw : way ∈ ways) (hf : ∀ v ∈ f, Fl2 v) (K : ∀ g U', Gw U U' -> (∀ v ∈ g, Fl2 v) -> Q (.tup g) U') :
  Rn ((tb (Pz S) (d + 4)).F 34 [.loc a.l, .str way, .tup f] U) Q E := by
 obtain ⟨w1, w2, w3, w4, w5, w6⟩ := ways_eq
 refine F_w (P := Pz S) rfl ⟨rfl, by decide⟩ ?_
 refine Yi hf fun g U1 g1 hg _ => ?_
 have h1 := g1 _ _ h
 have gl : g.length ≤ 2 := (GoodG.good hg).len
 have al : a.f.length ≤ 2 := (GoodG.good ha).len
 rcases List.mem_cons.mp hw with rfl | hw
 ·refine OF w1 ?_
  refine Jd h1 (Jf rfl ?_)
  refine Jf (Jj (by lia)) ?_
  exact Yi (fun v hv => (List.mem_append.mp hv).elim (ha.fl v) (hg.fl v)) fun g2 U2 k2 hg2 _ => K _ _ (g1.trans k2) hg2.fl
 rcases List.mem_cons.mp hw with rfl | hw
 ·refine Jv w2 (OF w4 ?_)
  refine Jd h1 ?_
  have sub : ∀ v ∈ a.f.filterMap (fun v => if Gx U1 g v then none else some v), v ∈ a.f := fun v hv => by
   obtain ⟨w, hw, e⟩ := List.mem_filterMap.mp hv
   split at e
   ·cases e
   ·cases e; exact hw
  refine lc_w _ rfl (L := a.f) (fun u => [some (.loc a.l), some (.str (Str.ofString "-")), some (.tup f), some (.tup g), none, u]) id (fun v => if Gx U1 g v then none else some v) (.inl (congrArg _ (List.map_id _).symm)) (fun _ _ => rfl) (by lia) (fun fr U2 a2 => ?_) fun v hv M hM => ?_
  ·refine Jm a2.me (Jf (Jj (Nat.le_trans (List.length_filterMap_le _ _) (by lia))) ?_)
   exact K _ _ (g1.trans a2.gw) fun v hv => ha.fl v (sub v hv)
  ·replace hM : M (if Gx U1 g v then none else some v) := hM
   rcases any_f (U := U1) v (ha.fl v hv) (.good hg) with ⟨e, _⟩ | ⟨e, _⟩
   ·rw [show Gx U1 g v = true from by unfold Gx; rw [e]; rfl] at hM
    exact Jh e ⟨rfl, hM⟩
   ·rw [show Gx U1 g v = false from by unfold Gx; rw [e]; rfl] at hM
    exact Jh e ⟨rfl, hM⟩
 ·obtain rfl := List.mem_singleton.mp hw
  refine Jv w3 (Jv w5 (OF w6 ?_))
  exact K _ _ g1 hg.fl
noncomputable def pos (qs : List (Nat × AL)) : List PV := qs.map fun q => .int ((q.1 : Nat) : Int)
noncomputable def Uj (qs : List (Nat × AL)) : List PV := qs.map fun q => .loc q.2.l
noncomputable def qus (qs : List (Nat × AL)) : List Int := qs.map fun q => q.2.u
theorem pos_app {qs : List (Nat × AL)} {q : Nat × AL} : pos qs ++ [.int ((q.1 : Nat) : Int)] = pos (qs ++ [q]) := by unfold pos; rw [List.map_append]; rfl
theorem qlocs_app {qs : List (Nat × AL)} {q : Nat × AL} : Uj qs ++ [.loc q.2.l] = Uj (qs ++ [q]) := by unfold Uj; rw [List.map_append]; rfl
theorem map_app1 {α β : Type} {g : α -> β} {l : List α} {a : α} : (l ++ [a]).map g = l.map g ++ [g a] := List.map_append ..
theorem pairs_at {ls : List AL} {us : List Int} : (∀ u ∈ us, u ∈ Jz ls) -> ∃ qs : List (Nat × AL), us = qus qs /\ ∀ q ∈ qs, ls[q.1]? = some q.2 := by
 induction us with
 | nil => exact fun _ => ⟨[], rfl, fun _ q => nomatch q⟩
 | cons u us ih =>
  intro hm
  obtain ⟨qs, e, hq⟩ := ih fun v hv => hm v (List.mem_cons_of_mem _ hv)
  obtain ⟨i, a, hi, _, hau, _⟩ := uid_at (hm u List.mem_cons_self)
  refine ⟨(i, a) :: qs, by rw [e, ← hau]; rfl, fun q h => ?_⟩
  rcases List.mem_cons.mp h with rfl | h
  ·exact hi
  ·exact hq q h
theorem sfPlaces_w {us : List Int} {l1 : Nat} {f1 f2 f3 f4 f5 f6 f7 f8 : Option PV} {n : Nat} {N : Fr × List PV -> St -> Prop} {K : PV -> St -> Prop} {E : Nat -> St -> Prop} (h : BoxR U x) (hs : Asc x.ls) (hn : x.ls.length ≤ 60) (hl : us.length ≤ 60) (hm : ∀ u ∈ us, u ∈ Jz x.ls) (e1 : U[l1]? = some (.list (Jr us)))
  (k : ∀ fr qs, (∀ q ∈ qs, x.ls[q.1]? = some q.2) -> us = qus qs -> N (fr, pos qs) U) :
  Rn (Jy (Jq (evC (tb (Pz S) (d + 1)) (n + 10)) (emL (evE (tb (Pz S) (d + 1)) (n + 10)) (.call 30 [(.attr (.var 0) 10), (.var 10)])) [10] false []) (.lst l1) ([some (.loc x.b), f1, f2, f3, f4, f5, f6, f7, f8, none, none], []) U) (fun r U => JP r (fun p => N p U) fun v => K v U) E := by
 obtain ⟨qs, rfl, hq⟩ := pairs_at hm
 rw [show (qus qs).length = qs.length from List.length_map ..] at hl
 exact OX (n + 10) rfl (L := qs) (R := pos qs) (fun u => [some (.loc x.b), f1, f2, f3, f4, f5, f6, f7, f8, none, u]) (fun q => .int q.2.u) (fun q => .int ((q.1 : Nat) : Int)) rfl (.inr ⟨_, rfl, e1.trans (by unfold Jr qus; rw [List.map_map]; rfl)⟩) (fun _ _ => rfl) (by lia) (fun fr => k fr qs hq rfl) fun q h' M hM =>
  Jd h.o (UP h.l h.a hs (by lia) (hq q h') rfl ⟨rfl, hM⟩)
theorem sfLetters_w {qs : List (Nat × AL)} {l1 : Nat} {f1 f2 f3 f4 f5 f6 f7 f8 : Option PV} {n : Nat} {N : Fr × List PV -> St -> Prop} {K : PV -> St -> Prop} {E : Nat -> St -> Prop} (h : BoxR U x) (hn : x.ls.length ≤ 60) (hl : qs.length ≤ 60) (hq : ∀ q ∈ qs, x.ls[q.1]? = some q.2) (e1 : U[l1]? = some (.list (pos qs)))
  (k : ∀ fr, N (fr, Uj qs) U) :
  Rn (Jy (Jq (evC (tb (Pz S) (d + 1)) (n + 10)) (emL (evE (tb (Pz S) (d + 1)) (n + 10)) (.sub (.attr (.var 0) 10) (.var 10))) [10] false [(.cmp (.var 10) [(.GtE, (.cst (.int (0))))])]) (.lst l1) ([some (.loc x.b), f1, f2, f3, f4, f5, f6, f7, f8, none, none], []) U) (fun r U => JP r (fun p => N p U) fun v => K v U) E := by
 refine lc_w (n + 10) rfl (L := qs) (fun u => [some (.loc x.b), f1, f2, f3, f4, f5, f6, f7, f8, none, u]) (fun q => .int ((q.1 : Nat) : Int)) (fun q => some (.loc q.2.l)) (.inr ⟨_, rfl, e1⟩) (fun _ _ => rfl) (by lia) (fun fr => by rw [List.filterMap_eq_map']; exact k fr) fun q h' M hM => ?_
 have hil := (List.getElem?_eq_some_iff.mp (hq q h')).1
 exact Jd h.o (Jm h.l (JN ⟨Int.natCast_nonneg _, by lia⟩ (Jh (Um (hq q h')) ⟨rfl, hM⟩)))
theorem sfRefused_w {qs : List (Nat × AL)} {l1 : Nat} {f0 f1 f2 f3 f5 f6 f7 f8 : Option PV} {n : Nat} {N : Fr × List PV -> St -> Prop} {K : PV -> St -> Prop} {E : Nat -> St -> Prop} (hl : qs.length ≤ 60) (e1 : U[l1]? = some (.list (Uj qs)))
  (k : ∀ fr, N (fr, []) U) :
  Rn (Jy (Jq (evC (tb (Pz S) (d + 1)) (n + 10)) (emL (evE (tb (Pz S) (d + 1)) (n + 10)) (.attr (.var 10) 0)) [10] false [(.call 39 [(.var 10), (.var 4)])]) (.lst l1) ([f0, f1, f2, f3, some .none, f5, f6, f7, f8, none, none], []) U) (fun r U => JP r (fun p => N p U) fun v => K v U) E := by
 exact lc0_w (n + 10) rfl (L := qs) (fun u => [f0, f1, f2, f3, some .none, f5, f6, f7, f8, none, u]) (fun q => .loc q.2.l) (.inr ⟨_, rfl, e1⟩) (fun _ _ => rfl) (by lia) k fun q _ => rfl
theorem storeflags_w {way : Str} {us : List Int} {f : List PV} (h : BoxR U x) (hs : Asc x.ls) (ok : ∀ a ∈ x.ls, LOk x.top a) (hn : x.ls.length ≤ 60) (hu : Up us) (hl : us.length ≤ 60) (hm : ∀ u ∈ us, u ∈ Jz x.ls) (hw : way ∈ ways) (hf : ∀ v ∈ f, Fl2 v)
  (K : ∀ v U' x', FStep us.length U U' x x' -> Q v U') : Rn ((tb (Pz S) (d + 5)).F 40 [.loc x.b, .tup (Jr us), .str way, .tup f, .none] U) Q E := by
 refine F_w (P := Pz S) rfl ⟨rfl, by decide⟩ ?_
 refine distinct_w hu hl fun l1 U1 g1 e1 => ?_
 refine Jm e1 ?_
 refine sfPlaces_w (h.gw g1) hs hn hl hm e1 fun fr1 qs hq hus => ?_
 have hql : qs.length ≤ 60 := by rw [hus] at hl; unfold qus at hl; rw [List.length_map] at hl; exact hl
 refine fun U2 a2 => ?_
 have g2 := g1.trans a2.gw
 refine Jm a2.me ?_
 refine sfLetters_w (h.gw g2) hn hql hq a2.me fun fr2 => ?_
 refine fun U3 a3 => ?_
 have g3 := g2.trans a3.gw
 refine Jm a3.me ?_
 refine sfRefused_w hql a3.me fun fr3 => ?_
 refine fun U4 a4 => ?_
 refine fun U5 a5 => ?_
 have e5 := a5.gw _ _ (a4.gw _ _ a3.me)
 have g5 := (g3.trans a4.gw).trans a5.gw
 have c5 := a5.me
 have n2 : ∀ {i : Nat} {o : PO}, U[i]? = some o -> i ≠ U2.length := fun e => Nat.ne_of_lt (Jc (g2 _ _ e))
 have n4 : ∀ {i : Nat} {o : PO}, U[i]? = some o -> i ≠ U4.length := fun e => Nat.ne_of_lt (Jc (a4.gw _ _ (g3 _ _ e)))
 have ne : U2.length ≠ U4.length := Nat.ne_of_lt (Jc (a4.gw _ _ a3.me))
 generalize U2.length = ll at e5 n2 ne ⊢
 generalize U4.length = lc at c5 n4 ne ⊢
 refine Jm e5 ?_
 have lt5 : ll < U5.length /\ lc < U5.length := ⟨Jc e5, Jc c5⟩
 have ux : (Jz x.ls).length = x.ls.length := List.length_map ..
 refine lpL (fun rest fr U' => ∃ u6 rs cs x' k, fr = [some (.loc x.b), some (.tup (Jr us)), some (.str way), some (.tup f), some .none, some (.loc ll), u6, some (.loc U3.length), some (.loc lc)] /\ rest = Uj rs /\ (∀ q ∈ rs, q ∈ qs) /\ FStep ((k : Nat) : Int) U U' x x' /\ k + rs.length = qs.length /\ U'[ll]? = some (.list (Uj qs)) /\ U'[lc]? = some (.list cs) /\ cs.length ≤ k /\ x'.ll ≠ ll /\ x'.ll ≠ lc) ll (by unfold Uj; rw [List.length_map]; lia)
  ⟨none, qs, [], x, 0, rfl, rfl, fun _ q => q, ⟨.gw h g5, rfl, rfl, Int.le_refl _, by lia, ok, rfl, rfl⟩, Nat.zero_add _, e5, c5, Nat.le_refl _, n2 h.l, n4 h.l⟩ ?_ ?_ ?_ (xs := Uj qs)
 ·rintro _ _ _ ⟨_, _, _, _, _, _, _, _, _, _, e, _⟩
  exact e
 ·rintro _ U6 ⟨u6, rs, cs, x', k, rfl, e, _, st, hk, _⟩
  have e := JV e
  subst e
  have hkl : k = us.length := by rw [hus]; unfold qus; rw [List.length_map]; exact hk
  rw [hkl] at st
  exact K _ _ _ st
 ·rintro _ _ _ U6 ⟨u6, rs, cs, x', k, rfl, e, hrs, st, hk, el, ec, hc, d1, d2⟩ M hM
  obtain ⟨r, rs', rfl, rfl, rfl⟩ := map_cons e
  rw [List.length_cons] at hk
  have hr := hq r (hrs r List.mem_cons_self)
  have ha := List.mem_of_getElem? hr
  have hla := h.a _ ha
  have la := st.kp _ _ hla (Jw hla h.o fun q => nomatch q) (Jw hla h.l fun q => nomatch q)
  have ux' : x'.ls.length ≤ 60 := by have := congrArg List.length st.us; unfold Jz at this; rw [List.length_map, List.length_map] at this; lia
  have nb : x'.b ≠ ll /\ x'.b ≠ lc := by rw [st.b]; exact ⟨n2 h.o, n4 h.o⟩
  refine Yb ?_
  refine Jd la ?_
  refine flagsafter_w la (ok _ ha).f hw hf fun g U7 g7 hg => ?_
  have st7 : FStep ((k : Nat) : Int) U U7 x x' := ⟨st.toBStep.thenGw g7, st.us, st.nu, st.lo, st.hi, st.ok, st.gn, st.lgk⟩
  have el7 := g7 _ _ el
  have ec7 := g7 _ _ ec
  refine KY st.b st7.rep (hs.of st.us) st.ok (by lia) (by rw [st.us]; exact List.mem_map_of_mem ha) hg fun b U8 x8 s8 => ?_
  have st8 := st7.trans s8
  have el8 := s8.kp _ _ el7 nb.1.symm d1.symm
  have ec8 := s8.kp _ _ ec7 nb.2.symm d2.symm
  have la8 := s8.kp _ _ (g7 _ _ la) (Jw (g7 _ _ la) st7.rep.o fun q => nomatch q) (Jw (g7 _ _ la) st7.rep.l fun q => nomatch q)
  have w1 : x8.ll ≠ ll := s8.ll.elim (fun e => e ▸ d1) fun e => Nat.ne_of_gt (Nat.lt_of_lt_of_le (Jc el7) e)
  have w2 : x8.ll ≠ lc := s8.ll.elim (fun e => e ▸ d2) fun e => Nat.ne_of_gt (Nat.lt_of_lt_of_le (Jc ec7) e)
  have hq' : ∀ q ∈ rs', q ∈ qs := fun q z => hrs q (List.mem_cons_of_mem _ z)
  cases b with
  | false => exact hM _ _ ⟨_, rs', cs, x8, k + 1, rfl, rfl, hq', st8, by lia, el8, ec8, by lia, w1, w2⟩
  | true =>
   refine Jf (UU ec8) ?_
   refine Jd la8 ?_
   refine Jf rfl ?_
   refine Jm ec8 ?_
   refine Jf (Jj (by lia)) fun U9 t9 => ?_
   have st9 : FStep ((k + 1 : Nat) : Int) U U9 x x8 := by
    refine ⟨⟨st8.rep.keep fun i o e q1 _ => t9.ne i o (fun w => ?_) e, st8.b, st8.n, st8.v, st8.ll, st8.lg, fun i o e h1 h2 => t9.ne _ _ (n4 e) (st8.kp i o e h1 h2), by rw [t9.len]; exact st8.len⟩, st8.us, st8.nu, st8.lo, st8.hi, st8.ok, st8.gn, st8.lgk⟩
    subst w
    rw [ec8] at e
    rcases q1 _ (Option.some.inj e).symm with z | z
    ·exact w2 z.symm
    ·exact n4 h.g (st8.lgk.symm.trans z.symm)
   exact hM _ _ ⟨_, rs', _, x8, k + 1, rfl, rfl, hq', st9, by lia, t9.ne _ _ ne el8, t9.me _ ec8, by rw [List.length_append, List.length_singleton]; lia, w1, w2⟩
end
section
variable {S : SY} {d : Nat} {U : St} {Q : PV -> St -> Prop} {E : Nat -> St -> Prop} {x : AB}
noncomputable def GnOk (g : PV) : Prop := ∃ a b, g = .tup [.int a, .int b]
structure EStep (U U' : St) (x x' : AB) : Prop extends BStep U U' x x' where
 nu : x'.nu = x.nu
 lo : x.top ≤ x'.top
 hi : x'.top ≤ x.top + 1
 sub : ∀ a ∈ x'.ls, a ∈ x.ls
 asc : Asc x'.ls
 len2 : x'.ls.length ≤ x.ls.length
 gn : ∀ g ∈ x'.gn, g ∈ x.gn \/ GnOk g
 gl : x'.gn.length ≤ x.gn.length + x.ls.length
theorem eq_nil {l m : Nat} {xs : List PV} (hl : U[l]? = some (.list xs)) (hm : U[m]? = some (.list [])) : eqv U JL (.loc l) (.loc m) = some xs.isEmpty := by
 show eqLs _ U[l]? U[m]? = _
 rw [hl, hm]
 cases xs <;> rfl
noncomputable def sel (us vs : List Int) : List Int := vs.filter fun u => decide (u ∈ us)
noncomputable def Kl (us : List Int) (ls : List AL) : List AL := ls.filter fun a => !decide (a.u ∈ us)
theorem intz_app {us : List Int} {u : Int} : Jr us ++ [.int u] = Jr (us ++ [u]) := by unfold Jr; rw [List.map_append]; rfl
theorem locs_app1 {ls : List AL} {a : AL} : Og ls ++ [.loc a.l] = Og (ls ++ [a]) := locs_app.symm
theorem sel_app {us vs : List Int} {u : Int} : sel us (vs ++ [u]) = if decide (u ∈ us) = true then sel us vs ++ [u] else sel us vs := by
 unfold sel
 rw [List.filter_append, List.filter_cons]
 split
 ·rfl
 ·exact List.append_nil _
theorem keepL_app {us : List Int} {ls : List AL} {a : AL} : Kl us (ls ++ [a]) = if decide (a.u ∈ us) = true then Kl us ls else Kl us ls ++ [a] := by
 unfold Kl
 rw [List.filter_append, List.filter_cons]
 cases decide (a.u ∈ us)
 ·rfl
 ·exact List.append_nil _
theorem exFill_w {v : PV} {us : List Int} {w : Nat} {f0 f4 f5 : Option PV} {n : Nat} {T : Tb} {s : Src} {N : Fr -> St -> Prop} {K : PV -> St -> Prop} {E : Nat -> St -> Prop} (hv : SrcAt U s (Jr us)) (hu : Up us) (hl : us.length ≤ 60) (hw : U[w]? = some (.dict []))
  (k : ∀ u U', Kp w U U' -> U'[w]? = some (.dict (wd us)) -> U'.length = U.length -> N [f0, some v, some (.loc w), u, f4, f5] U') :
  Rn (Jy (JK (evT T (n + 10)) (evSs T (n + 10)) (.name 3) [(.asg (.sub (.var 2) (.var 3)) (.cst (.bool true)))]) s [f0, some v, some (.loc w), none, f4, f5] U) (fun r U => JP r (fun fr => N fr U) fun v => K v U) E := by
 refine lpX (fun rest fr U' => ∃ u ds rs, fr = [f0, some v, some (.loc w), u, f4, f5] /\ rest = Jr rs /\ us = ds ++ rs /\ U'[w]? = some (.dict (wd ds)) /\ Kp w U U' /\ U'.length = U.length) hv (by rw [Js]; lia) ⟨none, [], us, rfl, rfl, rfl, hw, .refl, rfl⟩ ?_ ?_ ?_
 ·rintro _ _ _ ⟨_, _, _, _, _, _, _, kp, _⟩ l hl
  exact kp _ _ hl (Jw hl hw fun q => nomatch q)
 ·rintro _ _ ⟨u, ds, rs, rfl, e, hd, h2, kp, hlen⟩
  have e := JV e
  subst e
  rw [List.append_nil] at hd
  rw [← hd] at h2
  exact k _ _ kp h2 hlen
 ·rintro _ _ _ U2 ⟨u, ds, rs, rfl, e, hd, h2, kp, hlen⟩ M hM
  obtain ⟨a, rs', rfl, rfl, rfl⟩ := map_cons e
  refine Yb ?_
  have hlen2 := congrArg List.length hd
  rw [List.length_append] at hlen2
  rw [hd] at hu
  refine YE h2 (JN ⟨Zr _ _, by rw [UG]; lia⟩ fun U3 t3 => ?_)
  refine hM _ _ ⟨_, ds ++ [a], rs', rfl, rfl, by rw [List.append_assoc]; exact hd, ?_, fun i o e n => t3.ne _ _ n (kp _ _ e n), by rw [t3.len]; exact hlen⟩
  rw [← wd_set a ds hu.mid]
  exact t3.me _ h2
theorem exThere_w {us vs : List Int} {w l : Nat} {f0 f1 f3 f4 f5 : Option PV} {n : Nat} {T : Tb} {N : Fr × List PV -> St -> Prop} {K : PV -> St -> Prop} {E : Nat -> St -> Prop} (hl : U[l]? = some (.list (Jr vs))) (hn : vs.length ≤ 90) (hw : U[w]? = some (.dict (wd us)))
  (k : ∀ fr, N (fr, Jr (sel us vs)) U) :
  Rn (Jy (Jq (evC T (n + 10)) (emL (evE T (n + 10)) (.var 7)) [7] false [(.cmp (.var 7) [(.In, (.var 2))])]) (.lst l) ([f0, f1, some (.loc w), f3, f4, f5, none, none], []) U) (fun r U => JP r (fun p => N p U) fun v => K v U) E := by
 have e : vs.filterMap (fun u => if decide (u ∈ us) then some (PV.int u) else none) = Jr (sel us vs) := by
  unfold Jr sel
  rw [← List.filterMap_eq_map, ← List.filterMap_eq_filter, List.filterMap_filterMap]
  congr 1; funext u; unfold Option.guard; split <;> rfl
 refine lc_w (n + 10) rfl (L := vs) (fun u => [f0, f1, some (.loc w), f3, f4, f5, none, u]) .int (fun u => if decide (u ∈ us) then some (PV.int u) else none) (.inr ⟨_, rfl, hl⟩) (fun _ _ => rfl) (by lia) (fun fr => by rw [e]; exact k fr) fun u _ M hM => ?_
 refine YE hw (Jf (Zr _ _) ?_)
 rw [wd_get]
 replace hM : M (if decide (u ∈ us) then some (PV.int u) else none) := hM
 cases hd : decide (u ∈ us) with
 | true => rw [hd] at hM; exact ⟨rfl, hM⟩
 | false => rw [hd] at hM; exact ⟨rfl, hM⟩
theorem exStay_w {us : List Int} {ls : List AL} {w l : Nat} {f0 f1 f3 f4 f5 : Option PV} {n : Nat} {T : Tb} {N : Fr × List PV -> St -> Prop} {K : PV -> St -> Prop} {E : Nat -> St -> Prop} (hl : U[l]? = some (.list (Og ls))) (ha : ∀ a ∈ ls, U[a.l]? = some (letO a)) (hn : ls.length ≤ 90) (hw : U[w]? = some (.dict (wd us)))
  (k : ∀ fr, N (fr, Og (Kl us ls)) U) :
  Rn (Jy (Jq (evC T (n + 10)) (emL (evE T (n + 10)) (.var 7)) [7] false [(.cmp (.attr (.var 7) 0) [(.NotIn, (.var 2))])]) (.lst l) ([f0, f1, some (.loc w), f3, f4, f5, none, none], []) U) (fun r U => JP r (fun p => N p U) fun v => K v U) E := by
 have e : ls.filterMap (fun a => if !decide (a.u ∈ us) then some (PV.loc a.l) else none) = Og (Kl us ls) := by
  unfold Og Kl
  rw [← List.filterMap_eq_map, ← List.filterMap_eq_filter, List.filterMap_filterMap]
  congr 1; funext u; unfold Option.guard; split <;> rfl
 refine lc_w (n + 10) rfl (L := ls) (fun u => [f0, f1, some (.loc w), f3, f4, f5, none, u]) (fun a => .loc a.l) (fun a => if !decide (a.u ∈ us) then some (PV.loc a.l) else none) (.inr ⟨_, rfl, hl⟩) (fun _ _ => rfl) (by lia) (fun fr => by rw [e]; exact k fr) fun a h' M hM => hv ?_
 refine Jd (ha a h') ?_
 refine YE hw (Jf (Zr _ _) ?_)
 rw [wd_get]
 replace hM : M (if !decide (a.u ∈ us) then some (PV.loc a.l) else none) := hM
 cases hd : decide (a.u ∈ us) with
 | true => rw [hd] at hM; exact ⟨rfl, hM⟩
 | false => rw [hd] at hM; exact ⟨rfl, hM⟩
theorem exGone_w {vs : List Int} {l : Nat} {m : Int} {f0 f1 f2 f3 f4 : Option PV} {n : Nat} {T : Tb} {N : Fr × List PV -> St -> Prop} {K : PV -> St -> Prop} {E : Nat -> St -> Prop} (hl : U[l]? = some (.list (Jr vs))) (hn : vs.length ≤ 90)
  (k : ∀ fr gs, (∀ g ∈ gs, GnOk g) -> gs.length = vs.length -> N (fr, gs) U) :
  Rn (Jy (Jq (evC T (n + 10)) (emL (evE T (n + 10)) (.tup [(.var 7), (.var 5)])) [7] false []) (.lst l) ([f0, f1, f2, f3, f4, some (.int m), none, none], []) U) (fun r U => JP r (fun p => N p U) fun v => K v U) E := by
 exact OX (n + 10) rfl (L := vs) (fun u => [f0, f1, f2, f3, f4, some (.int m), none, u]) .int (fun u => .tup [.int u, .int m]) rfl (.inr ⟨_, rfl, hl⟩) (fun _ _ => rfl) (by lia) (fun fr => k _ _ (fun g hg => by obtain ⟨u, _, rfl⟩ := List.mem_map.mp hg; exact ⟨u, m, rfl⟩) (List.length_map ..)) fun u _ M hM => ⟨rfl, hM⟩
noncomputable def b35t : List IS := [(.asg (.name 4) (.comp (.var 7) none [7] false 0 [(.umeth 17 (.var 0) [])] [(.cmp (.var 7) [(.In, (.var 2))])] 6 2)), (.ife (.cmp (.var 4) [(.Eq, (.list []))])
  [(.ret (.list []))]
  []), (.asg (.name 5) (.call 31 [(.var 0)])), (.asg (.attr (.var 0) 10) (.comp (.var 7) none [7] false 0 [(.attr (.var 0) 10)] [(.cmp (.attr (.var 7) 0) [(.NotIn, (.var 2))])] 6 2)), (.asg (.attr (.var 0) 11) (.bin .Add (.attr (.var 0) 11) (.comp (.tup [(.var 7), (.var 5)]) none [7] false 0 [(.var 4)] [] 6 2))), (.ret (.var 4))]
theorem exTail_w {v : PV} {us : List Int} {w : Nat} {u2 : Option PV} {U2 : St} (h : BoxR U x) (hs : Asc x.ls) (hn : x.ls.length ≤ 90) (hg : x.gn.length ≤ 10000) (g2 : Gw U U2) (w2 : U2[w]? = some (.dict (wd us)))
  (K : ∀ l rs U' x', EStep U U' x x' -> U'[l]? = some (.list (Jr rs)) -> rs.length ≤ 90 -> Q (.loc l) U') : wSs (tb (Pz S) (d + 1)) 198 [some (.loc x.b), some v, some (.loc w), u2, none, none] E b35t U2 (fun _ U => Q .none U) Q := by
 have ul : (Jz x.ls).length = x.ls.length := List.length_map ..
 have h2 := h.gw g2
 refine Jd h2.o ?_
 refine Jh rfl ?_
 refine uids_w h2 (by lia) fun lu U3 g3 eu => ?_
 have w3 := g3 _ _ w2
 refine Jm eu ?_
 refine exThere_w eu (by rw [ul]; exact hn) w3 fun fr1 => ?_
 have sl : (sel us (Jz x.ls)).length ≤ 90 := Nat.le_trans (List.length_filter_le _ _) (by rw [ul]; exact hn)
 refine fun U4 a4 => ?_
 refine fun U5 a5 => ?_
 have g5 := (g2.trans g3).trans (a4.gw.trans a5.gw)
 have t5 := a5.gw _ _ a4.me
 have w5 := a5.gw _ _ (a4.gw _ _ w3)
 have h5 := h.gw g5
 refine Jh (eq_nil t5 a5.me) (YM (fun _ => fun U6 a6 => ?_) fun _ => ?_)
 ·exact K _ [] U6 x ⟨.gw h (g5.trans a6.gw), rfl, Int.le_refl _, by lia, fun _ q => q, hs, Nat.le_refl _, fun _ q => .inl q, Nat.le_add_right _ _⟩ a6.me (Nat.zero_le _)
 generalize U3.length = lt at t5 ⊢
 refine Gc h5.o fun U6 t6 => ?_
 have k6 : ∀ (i : Nat) (o : PO), U5[i]? = some o -> i ≠ x.b -> U6[i]? = some o := fun i o e n => t6.ne _ _ n e
 have b6 := t6.me _ h5.o
 have l6 := k6 _ _ h5.l h5.bl.symm
 have w6 := k6 _ _ w5 (Jw w5 h5.o fun q => nomatch q)
 have t6' := k6 _ _ t5 (Jw t5 h5.o fun q => nomatch q)
 refine Jd b6 (Jm l6 ?_)
 refine exStay_w l6 (fun a ha => k6 _ _ (h5.a a ha) (Jw (h5.a a ha) h5.o fun q => nomatch q)) hn w6 fun fr2 => ?_
 refine fun U7 a7 => ?_
 have b7 := a7.gw _ _ b6
 refine Jd b7 fun U8 t8 => ?_
 have b8 := t8.me _ b7
 have k8 : ∀ (i : Nat) (o : PO), U5[i]? = some o -> i ≠ x.b -> U8[i]? = some o := fun i o e n => t8.ne _ _ n (a7.gw _ _ (k6 _ _ e n))
 have g8 := k8 _ _ h5.g h5.bg
 have t8' := k8 _ _ t5 (Jw t5 h5.o fun q => nomatch q)
 have n8 : U6.length ≠ x.b := (Nat.ne_of_lt (Jc b6)).symm
 have e8 := t8.ne _ _ n8 a7.me
 have s8 : U5.length ≤ U6.length := Nat.le_of_eq t6.len.symm
 have s5 : U.length ≤ U5.length := g5.len
 generalize U6.length = ll at n8 e8 s8 b8 ⊢
 refine Jd b8 (Jf rfl ?_)
 refine Jm t8' ?_
 refine exGone_w t8' sl fun fr3 gs hgs gsl => ?_
 refine fun U9 a9 => ?_
 refine Jm (a9.gw _ _ g8) (Jm a9.me (Jf (Jj (show x.gn.length + gs.length ≤ 1000000 by lia)) fun U10 a10 => ?_))
 have b10 := a10.gw _ _ (a9.gw _ _ b8)
 refine Jd b10 fun U11 t11 => ?_
 have k11 : ∀ (i : Nat) (o : PO), U8[i]? = some o -> i ≠ x.b -> U11[i]? = some o := fun i o e n => t11.ne _ _ n (a10.gw _ _ (a9.gw _ _ e))
 have n11 : U9.length ≠ x.b := (Nat.ne_of_lt (Jc (a9.gw _ _ b8))).symm
 have e11 := t11.ne _ _ n11 a10.me
 have ne : ll ≠ U9.length := Nat.ne_of_lt (Jc (a9.gw _ _ e8))
 have s9 : U.length ≤ U9.length := by
  have q := Jc (a9.gw _ _ e8)
  lia
 refine K lt _ U11 { x with top := x.top + 1, ll := ll, lg := U9.length, ls := Kl us x.ls, gn := x.gn ++ gs } ⟨⟨⟨t11.me _ b10, k11 _ _ e8 n8, e11, fun a ha => ?_, ne⟩, rfl, rfl, rfl, .inr (Nat.le_trans s5 s8), .inr s9, fun i o e n1 n2 => ?_, ?_⟩, rfl, ?_, Int.le_refl _, fun a ha => (List.mem_filter.mp ha).1, hs.filter _, List.length_filter_le _ _, fun g q => (List.mem_append.mp q).elim .inl fun q => .inr (hgs g q), ?_⟩ (k11 _ _ t8' (Jw t8' b8 fun q => nomatch q)) sl
 ·have ha := h5.a a (List.mem_filter.mp ha).1
  exact k11 _ _ (k8 _ _ ha (Jw ha h5.o fun q => nomatch q)) (Jw ha h5.o fun q => nomatch q)
 ·exact k11 _ _ (k8 _ _ (g5 _ _ e) n1) n1
 ·rw [t11.len, a10.len]; lia
 ·show x.top ≤ x.top + 1; lia
 ·show (x.gn ++ gs).length ≤ _
  rw [List.length_append, gsl]
  exact Nat.add_le_add_left (Nat.le_trans (List.length_filter_le _ _) (Nat.le_of_eq ul)) _
theorem expunge_w {b : Nat} {v : PV} {us : List Int} (hb : x.b = b) (h : BoxR U x) (hs : Asc x.ls) (hn : x.ls.length ≤ 90) (hg : x.gn.length ≤ 10000) (hv : ItemsAt U v (Jr us)) (hu : Up us) (hl : us.length ≤ 60)
  (K : ∀ l rs U' x', EStep U U' x x' -> U'[l]? = some (.list (Jr rs)) -> rs.length ≤ 90 -> Q (.loc l) U') : Rn ((tb (Pz S) (d + 2)).F 35 [.loc b, v] U) Q E := by
 subst hb
 refine F_w (P := Pz S) rfl ⟨rfl, by decide⟩ ?_
 refine fun U1 a1 => ?_
 have nw : ∀ {i : Nat} {o : PO}, U[i]? = some o -> i ≠ U.length := fun e => Nat.ne_of_lt (Jc e)
 have go : ∀ u2 U2, Kp U.length U1 U2 -> U2[U.length]? = some (.dict (wd us)) -> U2.length = U1.length -> wSs (tb (Pz S) (d + 1)) 198 [some (.loc x.b), some v, some (.loc U.length), u2, none, none] E b35t U2 (fun _ U => Q .none U) Q := fun u2 U2 k2 w2 l2 =>
  exTail_w h hs hn hg (fun i o e => k2 _ _ (a1.gw _ _ e) (nw e)) w2 K
 rcases hv with rfl | ⟨l, rfl, hv⟩
 ·exact exFill_w (.inl rfl) hu hl a1.me go
 ·have hv1 := a1.gw _ _ hv
  exact Jm hv1 (exFill_w (.inr ⟨l, rfl, hv1⟩) hu hl a1.me go)
end
section
variable {S : SY} {d : Nat} {U : St} {Q : PV -> St -> Prop} {E : Nat -> St -> Prop} {x y : AB}
structure CStep (k : Nat) (U U' : St) (y y' : AB) : Prop extends BStep U U' y y' where
 nu : y'.nu = y.nu + k
 top : y'.top = y.top + k
 ls : ∃ zs, y'.ls = y.ls ++ zs /\ Jz zs = (List.range k).map (fun j : Nat => y.nu + (j : Int)) /\ ∀ z ∈ zs, LOk (y.top + k) z
 gn : y'.gn = y.gn
 llk : y'.ll = y.ll
 lgk : y'.lg = y.lg
noncomputable def prs (nu : Int) (us : List Int) : List PV := us.zipIdx.map fun p => .tup [.int p.1, .int (nu + (p.2 : Int))]
theorem prs_app {nu : Int} {us : List Int} {u : Int} : prs nu us ++ [.tup [.int u, .int (nu + (us.length : Int))]] = prs nu (us ++ [u]) := by
 unfold prs
 rw [List.zipIdx_append, List.map_append, Nat.zero_add]; rfl
theorem prs_len {nu : Int} {us : List Int} : (prs nu us).length = us.length := by
 unfold prs; rw [List.length_map, List.length_zipIdx]
theorem cpFind_w {us : List Int} {l : Nat} {f1 f2 f3 f4 f5 : Option PV} {n : Nat} {N : Fr × List PV -> St -> Prop} {K : PV -> St -> Prop} {E : Nat -> St -> Prop} (h : BoxR U x) (hs : Asc x.ls) (hn : x.ls.length ≤ 60) (hl : us.length ≤ 60) (hm : ∀ u ∈ us, u ∈ Jz x.ls) (e1 : U[l]? = some (.list (Jr us)))
  (k : ∀ fr as, (∀ a ∈ as, a ∈ x.ls) -> us = Jz as -> N (fr, Og as) U) :
  Rn (Jy (Jq (evC (tb (Pz S) (d + 2)) (n + 10)) (emL (evE (tb (Pz S) (d + 2)) (n + 10)) (.umeth 16 (.var 0) [(.var 7)])) [7] false []) (.lst l) ([some (.loc x.b), f1, f2, f3, f4, f5, none, none], []) U) (fun r U => JP r (fun p => N p U) fun v => K v U) E := by
 obtain ⟨as, rfl, ha⟩ : ∃ as : List AL, us = Jz as /\ ∀ a ∈ as, a ∈ x.ls := by
  clear e1 k hl
  induction us with
  | nil => exact ⟨[], rfl, fun _ q => nomatch q⟩
  | cons u us ih =>
   obtain ⟨as, e, ha⟩ := ih fun v hv => hm v (List.mem_cons_of_mem _ hv)
   obtain ⟨_, a, _, hax, hau, _⟩ := uid_at (hm u List.mem_cons_self)
   exact ⟨a :: as, by rw [e, ← hau]; rfl, fun b hb => (List.mem_cons.mp hb).elim (fun q => q ▸ hax) (ha b)⟩
 rw [show (Jz as).length = as.length from List.length_map ..] at hl
 exact OX (n + 10) rfl (L := as) (fun u => [some (.loc x.b), f1, f2, f3, f4, f5, none, u]) (fun a => .int a.u) (fun a => .loc a.l) rfl (.inr ⟨_, rfl, e1.trans (by unfold Jr Jz; rw [List.map_map]; rfl)⟩) (fun _ _ => rfl) (by lia) (fun fr => k fr as ha rfl) fun a h' M hM =>
  hv (Jd h.o (Jh rfl (letter_w h hs (by lia) (hm _ (List.mem_map_of_mem h')) fun b hb e => ⟨rfl, (hs.inj hb (ha a h') e).symm ▸ hM⟩)))
theorem copy_w {bx bg : Nat} {us : List Int} {l0 : Nat} (hbx : x.b = bx) (hbg : y.b = bg) (h : BoxR U x) (hy : BoxR U y) (hs : Asc x.ls) (ok : ∀ a ∈ x.ls, LOk x.top a) (hn : x.ls.length ≤ 60) (hny : y.ls.length ≤ 60) (hl0 : U[l0]? = some (.list (Jr us))) (hu : Up us) (hl : us.length ≤ 60) (hm : ∀ u ∈ us, u ∈ Jz x.ls)
  (K : ∀ l U' y', U.length ≤ l -> CStep us.length U U' y y' -> U'[l]? = some (.list (prs y.nu us)) -> Q (.loc l) U') : Rn ((tb (Pz S) (d + 5)).F 36 [.loc bx, .loc l0, .loc bg] U) Q E := by
 subst hbx hbg
 refine F_w (P := Pz S) rfl ⟨rfl, by decide⟩ ?_
 refine fun U1 a1 => ?_
 refine Jm (a1.gw _ _ hl0) (JN (by rw [Js]; exact hl) (Jh (Kz hu) fun U2 a2 => ?_))
 have g2 := a1.gw.trans a2.gw
 refine Jm a2.me ?_
 refine cpFind_w (h.gw g2) hs hn hl hm a2.me fun fr as has hus => ?_
 refine fun U3 a3 => ?_
 have g3 := g2.trans a3.gw
 have c3 := a3.gw _ _ (a2.gw _ _ a1.me)
 have e3 := a3.me
 have n1 : ∀ {i : Nat} {o : PO}, U[i]? = some o -> i ≠ U.length := fun e => Nat.ne_of_lt (Jc e)
 have n2 : ∀ {i : Nat} {o : PO}, U[i]? = some o -> i ≠ U2.length := fun e => Nat.ne_of_lt (Jc (g2 _ _ e))
 have ne : U.length ≠ U2.length := Nat.ne_of_lt (Jc (a2.gw _ _ a1.me))
 have al : as.length = us.length := by rw [hus]; exact (List.length_map ..).symm
 generalize U2.length = ll at e3 n2 ne ⊢
 refine Jm e3 ?_
 have hc : ∀ {i : Nat} {o : PO}, U[i]? = some o -> (U3[i]? = some o) := fun e => g3 _ _ e
 refine lpL (fun rest fr U' => ∃ u4 u5 ds rs y', fr = [some (.loc x.b), some (.loc l0), some (.loc y.b), some (.loc U.length), u4, u5] /\ rest = Og rs /\ as = ds ++ rs /\ CStep ds.length U U' y y' /\ U'[ll]? = some (.list (Og as)) /\ U'[U.length]? = some (.list (prs y.nu (Jz ds)))) ll (by rw [OE]; lia)
  ⟨none, none, [], as, y, rfl, rfl, rfl, ⟨.gw hy g3, (Int.add_zero _).symm, (Int.add_zero _).symm, ⟨[], (List.append_nil _).symm, rfl, fun _ q => nomatch q⟩, rfl, rfl, rfl⟩, e3, c3⟩ (by rintro _ _ _ ⟨_, _, _, _, _, _, _, _, _, e, _⟩; exact e) ?_ ?_ (xs := Og as)
 ·rintro _ U4 ⟨u4, u5, ds, rs, y', rfl, e, hd, st, _, ep⟩
  have e := JV e
  subst e
  rw [List.append_nil] at hd
  subst hd
  rw [← hus] at ep
  rw [al] at st
  exact K _ _ _ (Nat.le_refl _) st ep
 ·rintro _ _ _ U4 ⟨u4, u5, ds, rs, y', rfl, e, hd, st, el, ep⟩ M hM
  obtain ⟨a, rs', rfl, rfl, rfl⟩ := map_cons e
  have hlen := congrArg List.length hd
  rw [List.length_append, List.length_cons] at hlen
  have hax := has a (hd ▸ List.mem_append_right _ List.mem_cons_self)
  have ha := h.a a hax
  have oka := ok a hax
  have la := st.kp _ _ ha (Jw ha hy.o fun q => nomatch q) (Jw ha hy.l fun q => nomatch q)
  obtain ⟨zs, z1, z2, z3⟩ := st.ls
  have zl : zs.length = ds.length := by
   have := congrArg List.length z2
   unfold Jz at this
   rw [List.length_map, List.length_map, List.length_range] at this
   exact this
  refine Yb ?_
  refine Jd la (Jd la (Jd la ?_))
  refine Ks st.b st.rep oka.f.fl (by rw [z1, List.length_append]; lia) fun lz g U5 hg s5 => ?_
  have e5 := s5.kp _ _ el (by rw [st.b]; exact (n2 hy.o).symm) (by rw [st.llk]; exact (n2 hy.l).symm)
  have p5 := s5.kp _ _ ep (by rw [st.b]; exact (n1 hy.o).symm) (by rw [st.llk]; exact (n1 hy.l).symm)
  have la5 := s5.kp _ _ la (Jw la st.rep.o fun q => nomatch q) (Jw la st.rep.l fun q => nomatch q)
  have lz5 := s5.rep.a _ (List.mem_append_right _ List.mem_cons_self)
  refine Jf (UU p5) ?_
  refine Jd la5 ?_
  refine Jf rfl ?_
  refine Jd lz5 ?_
  refine Jf rfl ?_
  refine Jm p5 ?_
  refine Jf (Jj (by rw [prs_len]; unfold Jz; rw [List.length_map]; lia)) fun U6 t6 => ?_
  have ul : (Jz ds).length = ds.length := List.length_map ..
  have s45 := st.toBStep.trans s5
  refine hM _ _ ⟨_, _, ds ++ [a], rs', _, rfl, rfl, by rw [List.append_assoc]; exact hd, ⟨⟨s5.rep.keep fun i o e q1 _ => t6.ne i o (fun w => ?_) e, s45.b, s45.n, s45.v, s45.ll, s45.lg, fun i o e h1 h2 => t6.ne _ _ (n1 e) (s45.kp _ _ e h1 h2), by rw [t6.len]; exact s45.len⟩, ?_, ?_, ⟨zs ++ [⟨lz, y'.nu, a.o, g, a.i, y'.top + 1⟩], by rw [z1, List.append_assoc], ?_, fun z hz => ?_⟩, st.gn, st.llk, st.lgk⟩, t6.ne _ _ ne.symm e5, ?_⟩
  ·subst w
   rw [p5] at e
   rcases q1 _ (Option.some.inj e).symm with z | z
   ·exact n1 hy.l (z.trans st.llk).symm
   ·exact n1 hy.g (z.trans st.lgk).symm
  ·show y'.nu + 1 = y.nu + (((ds ++ [a]).length : Nat) : Int)
   rw [st.nu, List.length_append, List.length_singleton]; lia
  ·show y'.top + 1 = y.top + (((ds ++ [a]).length : Nat) : Int)
   rw [st.top, List.length_append, List.length_singleton]; lia
  ·unfold Jz at z2 ⊢
   rw [List.map_append, z2, List.length_append, List.length_singleton, List.range_succ, List.map_append]
   exact congrArg (fun t : Int => _ ++ [t]) st.nu
  ·rw [List.length_append, List.length_singleton]
   rcases List.mem_append.mp hz with q | q
   ·exact (z3 z q).up (by lia)
   ·rw [List.mem_singleton.mp q]
    exact ⟨by show y'.top + 1 ≤ _; rw [st.top]; lia, hg, oka.o, oka.i⟩
  ·have q := t6.me _ p5
   rw [show y'.nu = y.nu + (((Jz ds).length : Nat) : Int) by rw [ul]; exact st.nu, prs_app] at q
   rw [q]; unfold Jz; rw [List.map_append]; rfl
end
section
variable {S : SY} {d : Nat} {U : St} {Q : PV -> St -> Prop} {E : Nat -> St -> Prop}
noncomputable def sI : Str := Str.ofString "INBOX"
noncomputable def leA (c : Nat) : Bool := !(decide ((⟨#[c]⟩ : Str).cps.toList < (Str.ofString "a").cps.toList))
noncomputable def leZ (c : Nat) : Bool := !(decide ((Str.ofString "z").cps.toList < (⟨#[c]⟩ : Str).cps.toList))
noncomputable def upC (c : Nat) : Nat := if leA c && leZ c then c - 32 else c
noncomputable def ups (n : Str) : List Str := n.cps.toList.map fun c => ⟨#[upC c]⟩
noncomputable def okC (c : Nat) : Bool := decide (32 ≤ c) && decide (c < 127) && !((⟨#[c]⟩ : Str) == Str.ofString "/") && (Builtin.Str.occurrences (Str.ofString "%*") ⟨#[c]⟩ 0 (Str.ofString "%*").length 1).isEmpty
noncomputable def upJ (n : Str) : Str := Txt.join (Str.ofString "") (ups n)
noncomputable def nmChk (n : Str) : Bool := decide (Txt.find n (Str.ofString "/") = -1) && ZP n && n.cps.toList.all okC && JoinOk (Str.ofString "") (ups n) && (!(upJ n == sI) || (sI ++ Str.ofString "" == n)) && decide (n.length ≤ 100) && decide (1 ≤ n.length)
structure YQ (n : Str) : Prop where
 find : Txt.find n (Str.ofString "/") = -1
 asc : ZP n = true
 cs : ∀ c ∈ n.cps.toList, okC c = true
 join : JoinOk (Str.ofString "") (ups n) = true
 inb : (upJ n == sI) = true -> sI ++ Str.ofString "" = n
 len : n.length ≤ 100
 pos : 1 ≤ n.length
theorem nm_ok {n : Str} (h : nmChk n = true) : YQ n := by
 unfold nmChk at h
 simp only [Bool.and_eq_true, decide_eq_true_eq] at h
 obtain ⟨⟨⟨⟨⟨⟨h1, h2⟩, h3⟩, h4⟩, h5⟩, h6⟩, h7⟩ := h
 refine ⟨h1, h2, List.all_eq_true.mp h3, h4, fun e => ?_, h6, h7⟩
 rw [e] at h5
 exact beq_iff_eq.mp h5
theorem okC_and {c : Nat} (h : okC c = true) : 32 ≤ c /\ c < 127 /\ ((⟨#[c]⟩ : Str) == Str.ofString "/") = false /\ (!(Builtin.Str.occurrences (Str.ofString "%*") ⟨#[c]⟩ 0 (Str.ofString "%*").length 1).isEmpty) = false := by
 unfold okC at h
 simp only [Bool.and_eq_true, decide_eq_true_eq, Bool.not_eq_true'] at h
 exact ⟨h.1.1.1, h.1.1.2, h.1.2, by rw [h.2]; rfl⟩
theorem keys_of (l : List Str) : OM (l.map .str) = some l := by
 induction l with
 | nil => rfl
 | cons a l ih => show (OM (l.map .str)).map (a :: ·) = _; rw [ih]; rfl
theorem upper_w {n : Str} (h : YQ n) (K : ∀ U', Gw U U' -> Q (.str (upJ n)) U') : Rn ((tb (Pz S) (d + 1)).F 42 [.str n] U) Q E := by
 refine F_w (P := Pz S) rfl ⟨rfl, by decide⟩ ?_
 refine Jf h.asc ?_
 refine OX _ rfl (L := n.cps.toList) (R := (n.cps.toList.map fun c => (⟨#[upC c]⟩ : Str)).map PV.str) (fun u => [some (.str n), none, u]) ch (fun c => .str ⟨#[upC c]⟩) (List.map_map ..).symm (.inl rfl) (fun _ _ => rfl) (by rw [Array.length_toList]; exact Nat.lt_of_le_of_lt h.len (by decide)) (fun fr U1 a1 => ?_) fun c hc M hM => ?_
 ·refine Jm a1.me (Jh (keys_of _) (Jf h.join ?_))
  exact K _ a1.gw
 ·obtain ⟨c1, c2, _⟩ := okC_and (h.cs c hc)
  have fin : ∀ s : Str, s = ⟨#[upC c]⟩ -> M (.str s) := fun s e => e ▸ hM
  cases ha : leA c with
  | false => exact JG (b := leA c) ha ⟨rfl, fin _ (by unfold upC; rw [ha]; rfl)⟩
  | true =>
   refine Yr (b := leA c) ha ?_
   cases hz : leZ c with
   | false => exact JG (b := leZ c) hz ⟨rfl, fin _ (by unfold upC; rw [ha, hz]; rfl)⟩
   | true => exact Yr (b := leZ c) hz (JN ⟨by lia, by lia⟩ ⟨rfl, fin _ (by unfold upC; rw [ha, hz, show ((c : Int) - 32).toNat = c - 32 from Int.toNat_sub c 32]; rfl)⟩)
theorem first_w {n : Str} (h : YQ n) (K : Q (.tup [.str n, .str (Str.ofString "")]) U) : Rn ((tb (Pz S) (d + 1)).F 44 [.str n] U) Q E := by
 refine F_w (P := Pz S) rfl ⟨rfl, by decide⟩ ?_
 show wSs _ _ (List.set _ 1 (some (.int (Txt.find n (Str.ofString "/"))))) _ _ _ _ _
 rw [h.find]
 exact K
theorem normal_w {n : Str} (h : YQ n) (K : ∀ U', Gw U U' -> Q (.str n) U') : Rn ((tb (Pz S) (d + 2)).F 45 [.str n] U) Q E := by
 refine F_w (P := Pz S) rfl ⟨rfl, by decide⟩ ?_
 refine first_w h ?_
 refine upper_w h fun U1 g1 => fun t ht => ?_
 cases t with
 | false => exact K _ g1
 | true =>
  have q := K _ g1
  rw [← h.inb ht] at q
  exact q
theorem sub_str {n : Str} {c i : Nat} (h : n.cps.toList[i]? = some c) (hl : n.length ≤ 100) : ((seqIndex? ((i : Nat) : Int) n.length).bind (n.cps[·]?)) = some c /\ i < 100 := by
 have hi := (List.getElem?_eq_some_iff.mp h).1
 rw [Array.length_toList] at hi
 have hi' : i < n.length := hi
 refine ⟨?_, Nat.lt_of_lt_of_le hi' hl⟩
 rw [show seqIndex? ((i : Nat) : Int) n.length = some i by simp [seqIndex?, Int.not_lt.mpr (Int.natCast_nonneg i), hi']]
 rw [Array.getElem?_toList] at h
 exact h
theorem barred_w {c : Nat} (c1 : 32 ≤ c) (c2 : c < 127) (K : Q (.bool false) U) : Rn ((tb (Pz S) (d + 2)).F 46 [.int c] U) Q E := by
 refine F_w (P := Pz S) rfl ⟨rfl, by decide⟩ ?_
 refine JG (decide_eq_false (show ¬ ((c : Int) < 32) by lia)) ?_
 refine JG (decide_eq_false (show ¬ ((127 : Int) ≤ (c : Int)) by lia)) ?_
 refine JG (beq_eq_false_iff_ne.mpr (show (c : Int) ≠ 8232 by lia)) ?_
 refine JG (beq_eq_false_iff_ne.mpr (show (c : Int) ≠ 8233 by lia)) ?_
 refine F_w (P := Pz S) rfl ⟨rfl, by decide⟩ ?_
 refine JG (decide_eq_false (show ¬ ((55296 : Int) ≤ (c : Int)) by lia)) ?_
 exact K
theorem check_w {n : Str} (h : YQ n) (K : Q (.str n) U) : Rn ((tb (Pz S) (d + 3)).F 47 [.str n] U) Q E := by
 refine F_w (P := Pz S) rfl ⟨rfl, by decide⟩ ?_
 have hl := h.len
 refine Jf (Jj (by lia)) ?_
 refine JN ⟨Int.natCast_nonneg _, by lia⟩ ?_
 rw [Int.toNat_natCast]
 refine lpI (fun rest fr U' => U' = U /\ ∃ u2 u3 rs, fr = [some (.str n), some (.int 0), u2, u3] /\ rest = rs.map (fun i : Nat => PV.int i) /\ ∀ i ∈ rs, i < n.length) ?_ ?_ ⟨rfl, none, none, List.range n.length, rfl, rfl, fun i q => List.mem_range.mp q⟩
 ·rintro _ _ ⟨rfl, u2, u3, rs, rfl, _⟩
  refine Jf (Jj (by lia)) ?_
  refine JG (beq_eq_false_iff_ne.mpr (show (0 : Int) ≠ ((n.length : Nat) : Int) by have := h.pos; lia)) ?_
  exact K
 ·rintro _ _ _ _ ⟨rfl, u2, u3, rs, rfl, e, hr⟩ M hM
  obtain ⟨i, rs', rfl, rfl, rfl⟩ := map_cons e
  have hi : i < n.cps.toList.length := by rw [Array.length_toList]; exact hr i List.mem_cons_self
  have hc : n.cps.toList[i]? = some n.cps.toList[i] := List.getElem?_eq_getElem hi
  obtain ⟨c1, c2, c3, c4⟩ := okC_and (h.cs _ (List.getElem_mem hi))
  obtain ⟨s1, s2⟩ := sub_str hc hl
  generalize n.cps.toList[i] = c at c1 c2 c3 c4 s1
  refine Yb ?_
  refine JN ⟨Jj (by lia), (Nat.le_of_lt (Nat.lt_of_lt_of_le s2 (by decide)) : i ≤ 1000000)⟩ ?_
  refine Jh s1 ?_
  refine Jv c3 ?_
  refine oc_f c4 ?_
  refine barred_w c1 c2 ?_
  exact hM _ _ ⟨rfl, _, _, rs', rfl, rfl, fun j q => hr j (List.mem_cons_of_mem _ q)⟩
theorem UN {n : Str} (h : YQ n) (K : ∀ U', Gw U U' -> Q (.str n) U') : Rn ((tb (Pz S) (d + 4)).F 48 [.str n] U) Q E := by
 refine F_w (P := Pz S) rfl ⟨rfl, by decide⟩ ?_
 refine normal_w h fun U1 g1 => ?_
 refine check_w h ?_
 exact K _ g1
noncomputable def bN (t : Nat) : Str := Str.ofString "b" ++ UK t
noncomputable def rN (t : Nat) : Str := Str.ofString "r" ++ UK t
noncomputable def sA : Str := Str.ofString "a"
theorem all_nm : nmChk sI = true /\ nmChk sA = true /\ ∀ t ∈ [0, 1, 2, 3, 4], nmChk (bN t) = true /\ nmChk (rN t) = true := by decide +kernel
end
noncomputable def MX : Int := 9223372036854775807
noncomputable def MU : Int := 4294967295
section
variable {S : SY} {d : Nat} {n0 : ON} {U U' : St} {Q : PV -> St -> Prop} {E : Nat -> St -> Prop} {x : AB} {A : AS}
theorem YR {b : Nat} {k : Int} (hb : x.b = b) (h : U[x.b]? = some (boxO x)) (K : x.top + k ≤ MX -> Q .none U) (KE : MX < x.top + k -> E 3 U) : Rn ((tb (Pz S) (d + 1)).F 49 [.loc b, .int k] U) Q E := by
 subst hb
 refine F_w (P := Pz S) rfl ⟨rfl, by decide⟩ ?_
 refine Jd h ?_
 by_cases hc : x.top + k > MX
 ·exact Yr (decide_eq_true hc) (KE hc)
 ·exact JG (decide_eq_false hc) (K (Int.not_lt.mp hc))
theorem Gl {b : Nat} {k : Int} (hb : x.b = b) (h : U[x.b]? = some (boxO x)) (K : x.top + (k + 1) ≤ MX -> x.nu + k - 1 ≤ MU -> Q .none U) (KE : MX < x.top + (k + 1) \/ MU < x.nu + k - 1 -> E 3 U) : Rn ((tb (Pz S) (d + 2)).F 50 [.loc b, .int k] U) Q E := by
 subst hb
 refine F_w (P := Pz S) rfl ⟨rfl, by decide⟩ ?_
 refine YR rfl h (fun h1 => ?_) fun h1 => KE (.inl h1)
 refine Jd h ?_
 by_cases hc : x.nu + k - 1 > MU
 ·exact Yr (decide_eq_true hc) (KE (.inr hc))
 ·exact JG (decide_eq_false hc) (K h1 (Int.not_lt.mp hc))
theorem YT (n : Str) (bs : List AB) : Jt (.str n) (OG bs) = true := by
 show ((true && (OG bs).all fun e => isStr e.1) || (false && _)) = true
 rw [Bool.true_and, Bool.false_and, Bool.or_false, List.all_eq_true]
 intro e he
 obtain ⟨a, _, rfl⟩ := List.mem_map.mp he
 rfl
theorem ents_get {bs : List AB} (h : (bs.map (·.n)).Nodup) (hx : x ∈ bs) : dget (.str x.n) (OG bs) = some (.loc x.b) := by
 induction bs with
 | nil => exact nomatch hx
 | cons y bs ih =>
  obtain ⟨h1, h2⟩ := List.nodup_cons.mp h
  show (if (y.n == x.n) = true then some (PV.loc y.b) else dget (.str x.n) (OG bs)) = _
  rcases List.mem_cons.mp hx with rfl | hx
  ·rw [if_pos (beq_self_eq_true x.n)]
  ·rw [if_neg fun q => h1 (List.mem_map.mpr ⟨x, hx, (show y.n = x.n from beq_iff_eq.mp q).symm⟩)]
   exact ih h2 hx
theorem ents_no {n : Str} {bs : List AB} (h : n ∉ bs.map (·.n)) : dget (.str n) (OG bs) = none := by
 induction bs with
 | nil => rfl
 | cons y bs ih =>
  show (if (y.n == n) = true then some (PV.loc y.b) else dget (.str n) (OG bs)) = _
  rw [if_neg fun q => h (List.mem_cons.mpr (.inl (beq_iff_eq.mp q).symm))]
  exact ih fun q => h (List.mem_cons_of_mem _ q)
theorem ents_set {bs : List AB} (h : x.n ∉ bs.map (·.n)) : Ob (.str x.n) (.loc x.b) (OG bs) = OG (bs ++ [x]) := by
 induction bs with
 | nil => rfl
 | cons y bs ih =>
  show (if (y.n == x.n) = true then _ else (PV.str y.n, PV.loc y.b) :: Ob (.str x.n) (.loc x.b) (OG bs)) = _
  rw [if_neg (fun q => h (List.mem_cons.mpr (.inl (beq_iff_eq.mp q).symm))), ih fun q => h (List.mem_cons_of_mem _ q)]; rfl
theorem neednew_w {st : Nat} {n : Str} (hst : A.st = st) (h : StR n0 U A) (hn : n ∉ A.bs.map (·.n)) (K : Q .none U) : Rn ((tb (Pz S) (d + 1)).F 51 [.loc st, .str n] U) Q E := by
 subst hst
 refine F_w (P := Pz S) rfl ⟨rfl, by decide⟩ ?_
 refine Jd h.o (YE h.d (Jf (YT _ _) ?_))
 rw [ents_no hn]
 exact K
theorem needval_w {st : Nat} {v : Int} (hst : A.st = st) (h : U[A.st]? = some (UL A)) (K : A.nv ≤ v -> v < MU -> Q .none U) (KE : ¬ (A.nv ≤ v /\ v < MU) -> E 3 U) : Rn ((tb (Pz S) (d + 1)).F 52 [.loc st, .int v] U) Q E := by
 subst hst
 refine F_w (P := Pz S) rfl ⟨rfl, by decide⟩ ?_
 refine Jd h ?_
 by_cases h1 : A.nv ≤ v
 ·refine Yr (decide_eq_true h1) ?_
  by_cases h2 : v < MU
  ·exact JG (congrArg (!·) (decide_eq_true h2)) (K h1 h2)
  ·exact Yr (congrArg (!·) (decide_eq_false h2)) (KE fun q => h2 q.2)
 ·exact JG (decide_eq_false h1) (KE fun q => h1 q.1)
theorem Ye {st : Nat} {n : Str} (hst : A.st = st) (h : StR n0 U A) (hx : x ∈ A.bs) (hxn : x.n = n) (hn : YQ n) (K : ∀ U', Gw U U' -> Q (.loc x.b) U') : Rn ((tb (Pz S) (d + 3)).F 20 [.loc st, .str n] U) Q E := by
 subst hst hxn
 refine F_w (P := Pz S) rfl ⟨rfl, by decide⟩ ?_
 refine normal_w hn fun U1 g1 => ?_
 have h1 := h.gw g1
 refine Jd h1.o (YE h1.d (Jf (YT _ _) ?_))
 rw [ents_get h.nn hx]
 refine Jd h1.o (YE h1.d (Jf (YT _ _) (Jh (ents_get h.nn hx) ?_)))
 exact K _ g1
noncomputable def Gk (b ll lg : Nat) (n : Str) (v : Int) : AB := ⟨b, ll, lg, n, v, 1, 1, 0, [], []⟩
theorem ZE {b : Nat} {n : Str} {v : Int} (h : U[b]? = some (.inst 1 [])) (K : ∀ ll lg U', Kp b U U' -> BoxR U' (Gk b ll lg n v) -> U.length ≤ ll -> U.length ≤ lg -> Q .none U') : Rn ((tb (Pz S) (d + 1)).F 15 [.loc b, .str n, .int v] U) Q E := by
 refine F_w (P := Pz S) rfl ⟨rfl, by decide⟩ ?_
 refine Jd h fun U1 t1 => ?_
 have h1 := t1.me _ h
 refine Jd h1 fun U2 t2 => ?_
 have h2 := t2.me _ h1
 refine Jd h2 fun U3 t3 => ?_
 have h3 := t3.me _ h2
 refine Jd h3 fun U4 t4 => ?_
 have h4 := t4.me _ h3
 refine Jd h4 fun U5 t5 => ?_
 have h5 := t5.me _ h4
 have k5 := (((t1.kp.trans t2.kp).trans t3.kp).trans t4.kp).trans t5.kp
 have l5 : U5.length = U.length := by rw [t5.len, t4.len, t3.len, t2.len, t1.len]
 refine fun U6 a6 => ?_
 refine Jd (a6.gw _ _ h5) fun U7 t7 => ?_
 have h7 := t7.me _ (a6.gw _ _ h5)
 refine fun U8 a8 => ?_
 refine Jd (a8.gw _ _ h7) fun U9 t9 => ?_
 have n6 : U5.length ≠ b := (Nat.ne_of_lt (Jc h5)).symm
 have n8 : U7.length ≠ b := (Nat.ne_of_lt (Jc h7)).symm
 have l7 : U7.length = U.length + 1 := by rw [t7.len, a6.len, l5]
 exact K U5.length U7.length U9 ((((k5.trans a6.gw.kp).trans t7.kp).trans a8.gw.kp).trans t9.kp) ⟨t9.me _ (a8.gw _ _ h7), t9.ne _ _ n6 (a8.gw _ _ (t7.ne _ _ n6 a6.me)), t9.ne _ _ n8 a8.me, fun _ q => (nomatch q), by show U5.length ≠ U7.length; lia⟩ (by lia) (by lia)
theorem nd1' {α : Type} {a : α} : [a].Nodup := List.nodup_cons.mpr ⟨List.not_mem_nil, .nil⟩
theorem StR.add {nv : Int} (h : StR n0 U A) (hx : BoxR U' x) (f1 : U.length ≤ x.b) (f2 : U.length ≤ x.ll) (f3 : U.length ≤ x.lg) (hn : x.n ∉ A.bs.map (·.n)) (kp : ∀ (i : Nat) (o : PO), U[i]? = some o -> i ≠ A.ld -> i ≠ A.st -> U'[i]? = some o)
  (hd : U'[A.ld]? = some (.dict (OG (A.bs ++ [x])))) (ho : U'[A.st]? = some (UL { A with nv := nv })) : StR n0 U' { A with nv := nv, bs := A.bs ++ [x] } := by
 have old : ∀ y ∈ A.bs, BoxR U' y := fun y hy => (h.b y hy).keep2 fun i o e q1 q2 q3 => kp i o e (fun w => by subst w; rw [h.d] at e; exact q3 _ (Option.some.inj e).symm) fun w => by
  subst w
  have e' : o = UL A := Option.some.inj (e.symm.trans h.o)
  rcases q2 _ _ e' with z | z
  ·exact nomatch z
  ·exact Jw h.o (h.b y hy).o (fun q => nomatch q) z
 have lt : ∀ y ∈ A.bs, y.b < U.length /\ y.ll < U.length /\ y.lg < U.length := fun y hy => ⟨Jc (h.b y hy).o, Jc (h.b y hy).l, Jc (h.b y hy).g⟩
 have ls := Jc h.s
 have hs := h.hs
 have cases1 : ∀ y, y ∈ A.bs ++ [x] -> y ∈ A.bs \/ y = x := fun y hy => (List.mem_append.mp hy).imp id List.mem_singleton.mp
 refine ⟨ho, hd, kp _ _ h.s (Jw h.s h.d fun q => nomatch q) (Jw h.s h.o fun q => nomatch q), fun y hy => ?_, ?_, ?_, fun y hy z hz ne => ?_, hs, fun y hy => ?_, fun i xs e => ⟨(h.old i xs e).1, kp _ _ (h.old i xs e).2 (Jw (h.old i xs e).2 h.d fun q => nomatch q) (Jw (h.old i xs e).2 h.o fun q => nomatch q)⟩⟩
 ·rcases cases1 y hy with q | q
  ·exact old y q
  ·rw [q]; exact hx
 ·show ((A.bs ++ [x]).map (·.b)).Nodup
  rw [List.map_append]
  refine List.nodup_append.mpr ⟨h.nb, nd1', fun a ha b hb q => ?_⟩
  obtain ⟨y, hy, rfl⟩ := List.mem_map.mp ha
  have e1 : b = x.b := List.mem_singleton.mp hb
  have e2 : y.b = b := q
  have := (lt y hy).1
  lia
 ·show ((A.bs ++ [x]).map (·.n)).Nodup
  rw [List.map_append]
  refine List.nodup_append.mpr ⟨h.nn, nd1', fun a ha b hb q => ?_⟩
  have e1 : b = x.n := List.mem_singleton.mp hb
  exact hn (e1 ▸ q ▸ ha)
 ·rcases cases1 y hy with q | q <;> rcases cases1 z hz with w | w
  ·exact h.sep y q z w ne
  ·have := lt y q
   rw [w]
   exact ⟨by lia, by lia⟩
  ·have := lt z w
   rw [q]
   exact ⟨by lia, by lia⟩
  ·exact absurd (by rw [q, w]) ne
 ·rcases cases1 y hy with q | q
  ·exact h.hl y q
  ·rw [q]
   exact ⟨by show x.ll ≠ A.sub; lia, by lia, by lia⟩
end
structure BI (M G : Nat) (nv : Int) (x : AB) : Prop where
 asc : Asc x.ls
 lt : ∀ a ∈ x.ls, a.u < x.nu
 ok : ∀ a ∈ x.ls, LOk x.top a
 gn : ∀ g ∈ x.gn, GnOk g
 nu : x.nu ≤ MU + 1
 top : x.top ≤ MX
 v : x.v < nv
 len : x.ls.length ≤ M
 gl : x.gn.length ≤ G
structure SI (M G t : Nat) (A : AS) : Prop where
 b : ∀ x ∈ A.bs, BI M G A.nv x
 nv : A.nv ≤ MU
 nm : ∀ n ∈ A.bs.map (·.n), n = sI \/ n = sA \/ ∃ i, i < t /\ (n = bN i \/ n = rN i)
 i : sI ∈ A.bs.map (·.n)
 a : sA ∈ A.bs.map (·.n)
 len : A.bs.length ≤ 2 + t
section
variable {M M' G G' t : Nat} {n0 : ON} {nv nv' : Int} {U U' : St} {x x' y y' : AB} {A : AS}
theorem BI.up (h : BI M G nv x) (hM : M ≤ M') (hG : G ≤ G') (hv : nv ≤ nv') : BI M' G' nv' x :=
 ⟨h.asc, h.lt, h.ok, h.gn, h.nu, h.top, Int.lt_of_lt_of_le h.v hv, Nat.le_trans h.len hM, Nat.le_trans h.gl hG⟩
theorem SI.upd (I : SI M G t A) (hb : (A.bs.map (·.b)).Nodup) (hx : x ∈ A.bs) (e : x'.b = x.b) (en : x'.n = x.n) (hM : M ≤ M') (hG : G ≤ G') (h : BI M' G' A.nv x') : SI M' G' t (A.upd x') := by
 have names : (A.upd x').bs.map (·.n) = A.bs.map (·.n) := upd_b hb hx _ en e
 refine ⟨fun y hy => ?_, I.nv, fun n hn => I.nm n (names ▸ hn), names ▸ I.i, names ▸ I.a, ?_⟩
 ·rcases Zf hb hx e hy with q | ⟨q, _⟩
  ·rw [q]; exact h
  ·exact (I.b y q).up hM hG (Int.le_refl _)
 ·show (A.bs.map (Zb x')).length ≤ _
  rw [List.length_map]; exact I.len
theorem SI.next (I : SI M G t A) : SI M G (t + 1) A := ⟨I.b, I.nv, fun n hn => (I.nm n hn).imp id (Or.imp id fun ⟨i, h1, h2⟩ => ⟨i, Nat.lt_succ_of_lt h1, h2⟩), I.i, I.a, Nat.le_succ_of_le I.len⟩
theorem SI.upM (I : SI M G t A) (hM : M ≤ M') (hG : G ≤ G') : SI M' G' t A := ⟨fun x hx => (I.b x hx).up hM hG (Int.le_refl _), I.nv, I.nm, I.i, I.a, I.len⟩
theorem upd_mem (hx : x ∈ A.bs) (e : x'.b = x.b) : x' ∈ (A.upd x').bs := List.mem_map.mpr ⟨x, hx, OJ e.symm⟩
theorem BI.addl {l : Nat} {o i : PV} {g : List PV} (h : BI M G nv x) (hg : GoodF g) (ho : ∃ b, o = .bytes b) (hi : ∃ k, i = .int k) (h1 : x.top + 1 ≤ MX) (h2 : x.nu ≤ MU) : BI (M + 1) G nv { x with nu := x.nu + 1, top := x.top + 1, ls := x.ls ++ [⟨l, x.nu, o, g, i, x.top + 1⟩] } where
 asc := List.pairwise_append.mpr ⟨h.asc, List.pairwise_singleton _ _, fun a ha b hb => by rw [List.mem_singleton.mp hb]; exact h.lt a ha⟩
 lt := fun a ha => (List.mem_append.mp ha).elim (fun q => Int.lt_of_lt_of_le (h.lt a q) (show x.nu ≤ x.nu + 1 by lia)) fun q => by rw [List.mem_singleton.mp q]; show x.nu < x.nu + 1; lia
 ok := fun a ha => (List.mem_append.mp ha).elim (fun q => (h.ok a q).up (show x.top ≤ x.top + 1 by lia)) fun q => by rw [List.mem_singleton.mp q]; exact ⟨Int.le_refl _, hg, ho, hi⟩
 gn := h.gn
 nu := by show x.nu + 1 ≤ MU + 1; lia
 top := h1
 v := h.v
 len := by show (x.ls ++ [_]).length ≤ _; rw [List.length_append]; exact Nat.add_le_add_right h.len 1
 gl := h.gl
theorem BI.fstep {k : Int} (h : BI M G nv x) (s : FStep k U U' x x') (hk : x.top + k ≤ MX) : BI M G nv x' where
 asc := h.asc.of s.us
 lt := fun a ha => by
  have : a.u ∈ Jz x'.ls := List.mem_map_of_mem ha
  rw [s.us] at this
  obtain ⟨b, hb, e⟩ := List.mem_map.mp this
  rw [← e, s.nu]; exact h.lt b hb
 ok := s.ok
 gn := by rw [s.gn]; exact h.gn
 nu := by rw [s.nu]; exact h.nu
 top := Int.le_trans s.hi hk
 v := by rw [s.v]; exact h.v
 len := by
  have := congrArg List.length s.us
  unfold Jz at this
  rw [List.length_map, List.length_map] at this
  rw [this]; exact h.len
 gl := by rw [s.gn]; exact h.gl
theorem BI.estep (h : BI M G nv x) (s : EStep U U' x x') (hk : x.top + 1 ≤ MX) : BI M (G + M) nv x' where
 asc := s.asc
 lt := fun a ha => by rw [s.nu]; exact h.lt a (s.sub a ha)
 ok := fun a ha => (h.ok a (s.sub a ha)).up s.lo
 gn := fun g hg => (s.gn g hg).elim (h.gn g) id
 nu := by rw [s.nu]; exact h.nu
 top := Int.le_trans s.hi hk
 v := by rw [s.v]; exact h.v
 len := Nat.le_trans s.len2 h.len
 gl := Nat.le_trans s.gl (Nat.add_le_add h.gl h.len)
theorem up_range (nu : Int) (k : Nat) : ((List.range k).map fun j : Nat => nu + (j : Int)).Pairwise (· < ·) :=
 List.pairwise_map.mpr (List.pairwise_lt_range.imp fun h => by lia)
theorem BI.cstep {k : Nat} (h : BI M G nv y) (s : CStep k U U' y y') (h1 : y.top + k ≤ MX) (h2 : y.nu + k ≤ MU + 1) : BI (M + k) G nv y' := by
 obtain ⟨zs, z1, z2, z3⟩ := s.ls
 have zu : ∀ z ∈ zs, y.nu ≤ z.u /\ z.u < y.nu + k := fun z hz => by
  have : z.u ∈ Jz zs := List.mem_map_of_mem hz
  rw [z2] at this
  obtain ⟨j, hj, e⟩ := List.mem_map.mp this
  exact e ▸ ⟨Int.le_add_of_nonneg_right (Int.natCast_nonneg j), Int.add_lt_add_left (Int.ofNat_lt.mpr (List.mem_range.mp hj)) _⟩
 have zl : zs.length = k := by
  have := congrArg List.length z2
  unfold Jz at this
  rw [List.length_map, List.length_map, List.length_range] at this
  exact this
 have za : Asc zs := by
  have := up_range y.nu k
  rw [← z2] at this
  exact List.pairwise_map.mp this
 refine ⟨?_, fun a ha => ?_, fun a ha => ?_, ?_, ?_, ?_, ?_, ?_, ?_⟩
 ·rw [z1]
  exact List.pairwise_append.mpr ⟨h.asc, za, fun a ha b hb => Int.lt_of_lt_of_le (h.lt a ha) (zu b hb).1⟩
 ·rw [s.nu]
  rw [z1] at ha
  rcases List.mem_append.mp ha with q | q
  ·have := h.lt a q; lia
  ·exact (zu a q).2
 ·rw [s.top]
  rw [z1] at ha
  rcases List.mem_append.mp ha with q | q
  ·exact (h.ok a q).up (by lia)
  ·exact z3 a q
 ·rw [s.gn]; exact h.gn
 ·rw [s.nu]; exact h2
 ·rw [s.top]; exact h1
 ·rw [s.v]; exact h.v
 ·rw [z1, List.length_append, zl]; exact Nat.add_le_add_right h.len k
 ·rw [s.gn]; exact h.gl
theorem SI.add {v : Int} {n : Str} {b ll lg : Nat} (I : SI M G t A) (hn : n = bN t \/ n = rN t) (h1 : A.nv ≤ v) (h2 : v < MU) : SI M G (t + 1) { A with nv := v + 1, bs := A.bs ++ [Gk b ll lg n v] } := by
 refine ⟨fun y hy => ?_, by show v + 1 ≤ MU; lia, fun m hm => ?_, ?_, ?_, ?_⟩
 ·rcases List.mem_append.mp hy with q | q
  ·exact (I.b y q).up (Nat.le_refl _) (Nat.le_refl _) (show A.nv ≤ v + 1 by lia)
  ·rw [List.mem_singleton.mp q]
   exact ⟨.nil, fun _ q => (nomatch q), fun _ q => (nomatch q), fun _ q => (nomatch q), by show (1 : Int) ≤ MU + 1; decide, by show (1 : Int) ≤ MX; decide, by show v < v + 1; lia, Nat.zero_le _, Nat.zero_le _⟩
 ·rw [List.map_append] at hm
  rcases List.mem_append.mp hm with q | q
  ·exact (I.nm m q).imp id (Or.imp id fun ⟨i, h1, h2⟩ => ⟨i, Nat.lt_succ_of_lt h1, h2⟩)
  ·rw [List.mem_singleton.mp q]
   exact .inr (.inr ⟨t, Nat.lt_succ_self t, hn⟩)
 ·rw [List.map_append]; exact List.mem_append_left _ I.i
 ·rw [List.map_append]; exact List.mem_append_left _ I.a
 ·show (A.bs ++ [_]).length ≤ _
  have := I.len
  rw [List.length_append, List.length_singleton]; lia
theorem names_ne : (∀ t ∈ [0, 1, 2, 3, 4], ((bN t == sI) = false /\ (bN t == sA) = false /\ (rN t == sI) = false /\ (rN t == sA) = false) /\ ∀ s ∈ [0, 1, 2, 3, 4], (bN t == rN s) = false /\ ((bN t == bN s) = true -> t = s) /\ ((rN t == rN s) = true -> t = s)) := by decide +kernel
theorem lt5 {t : Nat} (h : t < 5) : t ∈ [0, 1, 2, 3, 4] := by
 exact (by decide : ∀ t < 5, t ∈ [0, 1, 2, 3, 4]) t h
theorem SI.new (I : SI M G t A) (ht : t < 5) {n : Str} (hn : n = bN t \/ n = rN t) : n ∉ A.bs.map (·.n) := fun q => by
 obtain ⟨⟨e1, e2, e3, e4⟩, e5⟩ := names_ne t (lt5 ht)
 have ne : ∀ {a b : Str}, (a == b) = false -> a ≠ b := fun h => beq_eq_false_iff_ne.mp h
 rcases I.nm n q with w | w | ⟨i, hi, w⟩
 ·rcases hn with z | z
  ·exact ne e1 (z.symm.trans w)
  ·exact ne e3 (z.symm.trans w)
 ·rcases hn with z | z
  ·exact ne e2 (z.symm.trans w)
  ·exact ne e4 (z.symm.trans w)
 ·obtain ⟨f1, f2, f3⟩ := e5 i (lt5 (Nat.lt_trans hi ht))
  have g1 := ((names_ne i (lt5 (Nat.lt_trans hi ht))).2 t (lt5 ht)).1
  rcases hn with z | z <;> rcases w with w | w
  ·exact Nat.ne_of_gt hi (f2 (beq_iff_eq.mpr (z.symm.trans w)))
  ·exact ne f1 (z.symm.trans w)
  ·exact ne g1 (w.symm.trans z)
  ·exact Nat.ne_of_gt hi (f3 (beq_iff_eq.mpr (z.symm.trans w)))
theorem nmI : YQ sI := nm_ok all_nm.1
theorem nmA : YQ sA := nm_ok all_nm.2.1
theorem nmT {n : Str} (ht : t < 5) (hn : n = bN t \/ n = rN t) : YQ n := by
 have := all_nm.2.2 t (lt5 ht)
 rcases hn with e | e
 ·rw [e]; exact nm_ok this.1
 ·rw [e]; exact nm_ok this.2
end
section
variable {S : SY} {M G t d : Nat} {n0 : ON} {U : St} {Q : PV -> St -> Prop} {E : Nat -> St -> Prop} {x y : AB} {A : AS}
theorem append_w {n : Str} {f : List PV} {k : Int} {o : Array UInt8} (h : StR n0 U A) (I : SI M G t A) (hM : M ≤ 32) (hM1 : 1 ≤ M) (hx : x ∈ A.bs) (hxn : x.n = n) (hn : YQ n) (hf : ∀ v ∈ f, Fl2 v)
  (K : x.top + 2 ≤ MX -> x.nu ≤ MU -> ∀ U' A', StR n0 U' A' -> SI (2 * M) (G + 100) (t + 1) A' -> A'.st = A.st -> Q (.tup [.int x.v, .int x.nu]) U') (KE : MX < x.top + 2 \/ MU < x.nu -> ∀ U', Gw U U' -> E 3 U') :
  Rn ((tb (Pz S) (d + 5)).F 57 [.loc A.st, .str n, .tup f, .int k, .bytes o] U) Q E := by
 refine F_w (P := Pz S) rfl ⟨rfl, by decide⟩ ?_
 refine Jd h.o (Jh rfl ?_)
 refine Ye rfl h hx hxn hn fun U1 g1 => ?_
 have h1 := h.gw g1
 have bi := I.b x hx
 refine Gl rfl (h1.b x hx).o (fun c1 c2 => ?_) fun c => KE (c.imp (fun c => by lia) fun c => by lia) _ g1
 have len := bi.len
 refine Ks rfl (h1.b x hx) hf (by lia) fun l g U2 hg s => ?_
 have c2 : x.nu ≤ MU := by lia
 refine Jd s.rep.o ?_
 refine Jd (s.rep.a _ (List.mem_append_right _ List.mem_cons_self)) ?_
 exact K (by lia) c2 _ _ (h1.upd hx s) (I.next.upd h1.nb hx rfl rfl (by lia) (by lia) ((bi.addl hg ⟨_, rfl⟩ ⟨_, rfl⟩ (by lia) c2).up (by lia) (by lia) (Int.le_refl _))) rfl
theorem flag_w {n : Str} {f : List PV} {u : Int} (h : StR n0 U A) (I : SI M G t A) (hM : M ≤ 32) (hx : x ∈ A.bs) (hxn : x.n = n) (hn : YQ n) (hf : ∀ v ∈ f, Fl2 v) (hu : u ∈ Jz x.ls)
  (K : x.top + 1 ≤ MX -> ∀ v U' A', StR n0 U' A' -> SI (2 * M) (G + 100) (t + 1) A' -> A'.st = A.st -> Q v U') (KE : MX < x.top + 1 -> ∀ U', Gw U U' -> E 3 U') :
  Rn ((tb (Pz S) (d + 5)).F 58 [.loc A.st, .str n, .int u, .tup f] U) Q E := by
 refine F_w (P := Pz S) rfl ⟨rfl, by decide⟩ ?_
 refine Jd h.o (Jh rfl ?_)
 refine Ye rfl h hx hxn hn fun U1 g1 => ?_
 have h1 := h.gw g1
 have bi := I.b x hx
 have len := bi.len
 refine YR rfl (h1.b x hx).o (fun c1 => ?_) fun c => KE c _ g1
 refine KY rfl (h1.b x hx) bi.asc bi.ok (by lia) hu hf fun r U2 x' s => ?_
 exact K c1 _ _ _ (h1.upd hx s.toBStep) (I.next.upd h1.nb hx s.b s.n (by lia) (by lia) ((bi.fstep s c1).up (by lia) (by lia) (Int.le_refl _))) rfl
theorem ways_in : ∀ w ∈ ways, ((Str.ofString "+" == w) = true \/ (Str.ofString "-" == w) = true \/ (Str.ofString "=" == w) = true) := by decide +kernel
theorem any3 {w : Str} (hw : w ∈ ways) : ((Str.ofString "+" == w) || ((Str.ofString "-" == w) || ((Str.ofString "=" == w) || false))) = true := by
 rcases ways_in w hw with e | e | e
 ·rw [e]; rfl
 ·rw [e, Bool.true_or, Bool.or_true]
 ·rw [e, Bool.true_or, Bool.or_true, Bool.or_true]
theorem store_w {n way : Str} {f : List PV} {us : List Int} (h : StR n0 U A) (I : SI M G t A) (hM : M ≤ 32) (hx : x ∈ A.bs) (hxn : x.n = n) (hn : YQ n) (hf : ∀ v ∈ f, Fl2 v) (hu : Up us) (hm : ∀ u ∈ us, u ∈ Jz x.ls) (hl : us.length ≤ 60) (hw : way ∈ ways)
  (K : x.top + us.length ≤ MX -> ∀ v U' A', StR n0 U' A' -> SI (2 * M) (G + 100) (t + 1) A' -> A'.st = A.st -> Q v U') (KE : MX < x.top + us.length -> ∀ U', Gw U U' -> E 3 U') :
  Rn ((tb (Pz S) (d + 6)).F 59 [.loc A.st, .str n, .tup (Jr us), .str way, .tup f, .int (-1)] U) Q E := by
 refine F_w (P := Pz S) rfl ⟨rfl, by decide⟩ ?_
 refine Jd h.o (Jh rfl ?_)
 refine Ye rfl h hx hxn hn fun U1 g1 => ?_
 have h1 := h.gw g1
 have bi := I.b x hx
 have len := bi.len
 refine Jf (Jj (by rw [Js]; lia)) ?_
 rw [Js]
 refine YR rfl (h1.b x hx).o (fun c1 => ?_) fun c => KE c _ g1
 refine JG (congrArg (!·) (any3 hw)) ?_
 refine Yi hf fun g U2 g2 hg _ => ?_
 have h2 := h1.gw g2
 refine storeflags_w (h2.b x hx) bi.asc bi.ok (by lia) hu hl hm hw hg.fl fun v U3 x' s => ?_
 exact K c1 _ _ _ (h2.upd hx s.toBStep) (I.next.upd h2.nb hx s.b s.n (by lia) (by lia) ((bi.fstep s c1).up (by lia) (by lia) (Int.le_refl _))) rfl
theorem expungel_w {n : Str} {us : List Int} (h : StR n0 U A) (I : SI M G t A) (hM : M ≤ 32) (hG : G ≤ 1000) (hx : x ∈ A.bs) (hxn : x.n = n) (hn : YQ n) (hu : Up us) (hl : us.length ≤ 60)
  (K : x.top + 1 ≤ MX -> ∀ v U' A', StR n0 U' A' -> SI (2 * M) (G + 100) (t + 1) A' -> A'.st = A.st -> Q v U') (KE : MX < x.top + 1 -> ∀ U', Gw U U' -> E 3 U') :
  Rn ((tb (Pz S) (d + 4)).F 60 [.loc A.st, .str n, .tup (Jr us)] U) Q E := by
 refine F_w (P := Pz S) rfl ⟨rfl, by decide⟩ ?_
 refine Jd h.o (Jh rfl ?_)
 refine Ye rfl h hx hxn hn fun U1 g1 => ?_
 have h1 := h.gw g1
 have bi := I.b x hx
 have len := bi.len
 have gl := bi.gl
 refine YR rfl (h1.b x hx).o (fun c1 => ?_) fun c => KE c _ g1
 refine expunge_w rfl (h1.b x hx) bi.asc (by lia) (by lia) (.inl rfl) hu hl fun l rs U2 x' s e hr => ?_
 refine Jm e (Jf (Jj (by rw [Js]; lia)) ?_)
 exact K c1 _ _ _ (h1.upd hx s.toBStep) (I.next.upd h1.nb hx s.b s.n (by lia) (by lia) ((bi.estep s c1).up (by lia) (by lia) (Int.le_refl _))) rfl
theorem create_w {n : Str} {v : Int} (h : StR n0 U A) (I : SI M G t A) (ht : t < 5) (hn : n = bN t \/ n = rN t)
  (K : A.nv ≤ v -> v < MU -> ∀ r U' A', StR n0 U' A' -> SI M G (t + 1) A' -> A'.st = A.st -> Q r U') (KE : ¬ (A.nv ≤ v /\ v < MU) -> ∀ U', Gw U U' -> E 3 U') :
  Rn ((tb (Pz S) (d + 5)).F 54 [.loc A.st, .str n, .int v] U) Q E := by
 refine F_w (P := Pz S) rfl ⟨rfl, by decide⟩ ?_
 refine UN (nmT ht hn) fun U1 g1 => ?_
 have h1 := h.gw g1
 refine neednew_w rfl h1 (I.new ht hn) ?_
 refine needval_w rfl h1.o (fun c1 c2 => ?_) fun c => KE c _ g1
 refine fun U2 a2 => ?_
 refine ZE a2.me fun ll lg U3 k3 r3 f2 f3 => ?_
 have k13 : Gw U1 U3 := fun i o e => k3 _ _ (a2.gw _ _ e) (Nat.ne_of_lt (Jc e))
 have h3 := h1.gw k13
 have nm : (Gk U1.length ll lg n v).n ∉ A.bs.map (·.n) := I.new ht hn
 have bl := I.len
 refine Jd h3.o (Jf rfl ?_)
 refine YE h3.d (JN ⟨YT _ _, by rw [show (OG A.bs).length = A.bs.length from List.length_map ..]; lia⟩ fun U4 t4 => ?_)
 have d4 := t4.me _ h3.d
 rw [show Ob (.str n) (.loc U1.length) (OG A.bs) = _ from ents_set nm] at d4
 have o4 := t4.ne _ _ (Jw h3.o h3.d fun q => nomatch q) h3.o
 refine Jd o4 fun U5 t5 => ?_
 have l1 : U1.length ≤ U2.length := a2.gw.len
 have kp : ∀ (i : Nat) (o : PO), U3[i]? = some o -> i ≠ A.ld -> i ≠ A.st -> U5[i]? = some o := fun i o e n1 n2 => t5.ne _ _ n2 (t4.ne _ _ n1 e)
 exact K c1 c2 _ _ _ (h1.add (x := Gk U1.length ll lg n v) (nv := v + 1) (r3.keep2 fun i o e q1 q2 q3 => kp i o e (fun w => by subst w; rw [h3.d] at e; exact q3 _ (Option.some.inj e).symm) fun w => by
   subst w
   have e' : o = UL A := Option.some.inj (e.symm.trans h3.o)
   rcases q2 _ _ e' with z | z
   ·exact nomatch z
   ·exact Jw h3.o r3.o (fun q => nomatch q) z) (Nat.le_refl _) (Nat.le_trans l1 f2) (Nat.le_trans l1 f3) nm (fun i o e n1 n2 => kp _ _ (k13 _ _ e) n1 n2) (t5.ne _ _ (Jw d4 o4 fun q => nomatch q) d4) (t5.me _ o4)) (I.add hn c1 c2) rfl
end
section
variable {S : SY} {M G t d : Nat} {n0 : ON} {U : St} {Q : PV -> St -> Prop} {E : Nat -> St -> Prop} {x y : AB} {A : AS}
noncomputable def prT (nu : Int) (p : Int × Nat) : PV := .tup [.int p.1, .int (nu + (p.2 : Int))]
theorem prs_eq (nu : Int) (us : List Int) : prs nu us = us.zipIdx.map (prT nu) := rfl
theorem Gd {us : List Int} {nu : Int} {l j : Nat} {g : Int × Nat -> Int} {elt : IE} {fr0 : Fr} {n : Nat} {T : Tb} {N : Fr × List PV -> St -> Prop} {K : PV -> St -> Prop} {E : Nat -> St -> Prop} (hl : us.length ≤ 60) (hj : j < fr0.length) (e1 : U[l]? = some (.list (prs nu us)))
  (he : ∀ p fr Q, fr[j]? = some (some (prT nu p)) -> Q (.int (g p)) U -> wE T (n + 10) fr E elt U Q)
  (k : ∀ fr, N (fr, Jr (us.zipIdx.map g)) U) :
  Rn (Jy (Jq (evC T (n + 10)) (emL (evE T (n + 10)) elt) [j] false []) (.lst l) (fr0, []) U) (fun r U => JP r (fun p => N p U) fun v => K v U) E := by
 refine lpL (fun rest p U' => U' = U /\ p.1.length = fr0.length /\ ∃ ds rs, p.2 = Jr (ds.map g) /\ rest = rs.map (prT nu) /\ us.zipIdx = ds ++ rs) l (by rw [prs_len]; lia)
  ⟨rfl, rfl, [], us.zipIdx, rfl, rfl, rfl⟩ (by rintro _ _ _ ⟨rfl, _⟩; exact e1) ?_ ?_ (xs := prs nu us)
 ·rintro ⟨fr, c⟩ _ ⟨rfl, _, ds, rs, e0, e, hd⟩
  have e := JV e
  subst e
  rw [List.append_nil] at hd
  have e0 : c = Jr (ds.map g) := e0
  rw [e0, ← hd]
  exact k _
 ·rintro _ _ ⟨fr, c⟩ _ ⟨rfl, hfl, ds, rs, e0, e, hd⟩ M hM
  obtain ⟨p, rs', rfl, rfl, rfl⟩ := map_cons e
  have e0 : c = Jr (ds.map g) := e0
  have hfl : fr.length = fr0.length := hfl
  subst e0
  have hlen := congrArg List.length hd
  rw [List.length_append, List.length_zipIdx] at hlen
  refine ZD (Jh (show (if j < fr.length then some (fr.set j (some (prT nu p))) else none) = some (fr.set j (some (prT nu p))) from if_pos (by lia)) ?_)
  refine he p _ _ (List.getElem?_set_self (by lia)) ?_
  refine Jf (Jj (show (Jr (ds.map g)).length ≤ 1000000 by rw [Js, List.length_map]; lia)) ?_
  exact hM _ _ ⟨rfl, by show (fr.set j _).length = _; rw [List.length_set]; exact hfl, ds ++ [p], rs', by show Jr (ds.map g) ++ [.int (g p)] = _; rw [List.map_append]; exact intz_app, rfl, by rw [List.append_assoc]; exact hd⟩
theorem fst_eq (us : List Int) : us.zipIdx.map (fun p => p.1) = us := List.zipIdx_map_fst ..
theorem snd_eq (nu : Int) (us : List Int) : us.zipIdx.map (fun p => nu + (p.2 : Int)) = (List.range us.length).map fun j : Nat => nu + (j : Int) := by
 show us.zipIdx.map ((fun j : Nat => nu + (j : Int)) ∘ Prod.snd) = _
 rw [← List.map_map, List.zipIdx_map_snd, List.range_eq_range']
theorem sub0_e {T : Tb} {n j : Nat} {fr : Fr} {nu : Int} {p : Int × Nat} {Q : PV -> St -> Prop} {E : Nat -> St -> Prop} (h : fr[j]? = some (some (prT nu p))) (k : Q (.int p.1) U) : wE T (n + 10) fr E (.sub (.var j) (.cst (.int 0))) U Q := by
 show varP fr[j]? _
 rw [h]; exact k
theorem sub1_e {T : Tb} {n j : Nat} {fr : Fr} {nu : Int} {p : Int × Nat} {Q : PV -> St -> Prop} {E : Nat -> St -> Prop} (h : fr[j]? = some (some (prT nu p))) (k : Q (.int (nu + (p.2 : Int))) U) : wE T (n + 10) fr E (.sub (.var j) (.cst (.int 1))) U Q := by
 show varP fr[j]? _
 rw [h]; exact k
theorem move_w {l0 : Nat} {us : List Int} (h : StR n0 U A) (I : SI M G t A) (hM : M ≤ 32) (hG : G ≤ 1000) (hx : x ∈ A.bs) (hy : y ∈ A.bs) (hl0 : U[l0]? = some (.list (Jr us))) (hu : Up us) (hl : us.length ≤ M) (hm : ∀ u ∈ us, u ∈ Jz x.ls)
  (c1 : x.top + 1 ≤ MX) (c2 : y.top + us.length + 1 ≤ MX) (c3 : y.nu + us.length ≤ MU + 1)
  (K : ∀ l U' A' y'', StR n0 U' A' -> SI (2 * M) (G + 100) t A' -> A'.st = A.st -> U'[l]? = some (.list (prs y.nu us)) -> U'[y.b]? = some (boxO y'') -> y''.v = y.v -> Q (.loc l) U') :
  Rn ((tb (Pz S) (d + 6)).F 37 [.loc x.b, .loc l0, .loc y.b] U) Q E := by
 have bx := I.b x hx
 have by' := I.b y hy
 have lx := bx.len
 have ly := by'.len
 have gx := bx.gl
 have gy := by'.gl
 refine F_w (P := Pz S) rfl ⟨rfl, by decide⟩ ?_
 refine copy_w rfl rfl (h.b x hx) (h.b y hy) bx.asc bx.ok (by lia) (by lia) hl0 hu (by lia) hm fun l U1 y' hlr s e1 => ?_
 have h1 := h.upd hy s.toBStep
 have I1 : SI (2 * M) G t (A.upd y') := I.upd h.nb hy s.b s.n (by lia) (Nat.le_refl _) ((by'.cstep s (by lia) c3).up (by lia) (Nat.le_refl _) (Int.le_refl _))
 refine Jm e1 ?_
 refine Gd (by lia) (show 5 < 6 by decide) e1 (fun p fr Q q k => sub0_e q k) fun fr => ?_
 rw [fst_eq]
 refine fun U2 a2 => ?_
 have h2 := h1.gw a2.gw
 have hx1 : Zb y' x ∈ (A.upd y').bs := List.mem_map_of_mem hx
 have xb : (Zb y' x).b = x.b := by
  by_cases q : x.b = y'.b
  ·rw [OJ q]; exact q.symm
  ·rw [Zs q]
 have xt : (Zb y' x).top + 1 ≤ MX := by
  by_cases q : x.b = y'.b
  ·rw [OJ q, s.top]; lia
  ·rw [Zs q]; exact c1
 have b1 := I1.b _ hx1
 have l1 := b1.len
 have g1 := b1.gl
 refine expunge_w xb (h2.b _ hx1) b1.asc (by lia) (by lia) (.inr ⟨_, rfl, a2.me⟩) hu (by lia) fun l2 rs U3 x' s3 _ _ => ?_
 have h3 := h2.upd hx1 s3.toBStep
 have I3 : SI (2 * M) (G + 100) t ((A.upd y').upd x') := I1.upd h2.nb hx1 s3.b s3.n (Nat.le_refl _) (by lia) ((b1.estep s3 xt).up (Nat.le_refl _) (by lia) (Int.le_refl _))
 have e2 := a2.gw _ _ e1
 have nl : l ≠ (Zb y' x).ll := by
  by_cases q : x.b = y'.b
  ·rw [OJ q, s.llk]
   exact (Nat.ne_of_lt (Nat.lt_of_lt_of_le (Jc (h.b y hy).l) hlr)).symm
  ·rw [Zs q]
   exact (Nat.ne_of_lt (Nat.lt_of_lt_of_le (Jc (h.b x hx).l) hlr)).symm
 have e3 := s3.kp _ _ e2 (Jw e2 (h2.b _ hx1).o fun q => nomatch q) nl
 have hy1 : y' ∈ (A.upd y').bs := upd_mem hy s.b
 have hy3 : Zb x' y' ∈ ((A.upd y').upd x').bs := List.mem_map_of_mem hy1
 have yb : (Zb x' y').b = y.b /\ (Zb x' y').v = y.v := by
  by_cases q : y'.b = x'.b
  ·rw [OJ q]
   have e := map_inj h2.nb hy1 hx1 (q.trans s3.b)
   exact ⟨q.symm.trans s.b, by rw [s3.v, ← e, s.v]⟩
  ·rw [Zs q]; exact ⟨s.b, s.v⟩
 have o3 := (h3.b _ hy3).o
 rw [yb.1] at o3
 exact K _ _ _ _ h3 I3 rfl e3 o3 yb.2
end
section
variable {S : SY} {M G t d : Nat} {n0 : ON} {U : St} {Q : PV -> St -> Prop} {E : Nat -> St -> Prop} {x y : AB} {A : AS}
noncomputable def news (nu : Int) (k : Nat) : List Int := (List.range k).map fun j : Nat => nu + (j : Int)
noncomputable def b61t : List IS := [(.ret (.tup [(.attr (.var 6) 6), (.blt .tuple [(.comp (.sub (.var 10) (.cst (.int (0)))) none [10] false 0 [(.var 8)] [] 9 2)]), (.blt .tuple [(.comp (.sub (.var 10) (.cst (.int (1)))) none [10] false 0 [(.var 8)] [] 9 2)])]))]
theorem cmTail_w {us : List Int} {l : Nat} {y' : AB} {f0 f1 f2 f3 f4 f5 f7 : Option PV} {T : Tb} {N : Fr -> St -> Prop} (hl : us.length ≤ 60) (e1 : U[l]? = some (.list (prs y.nu us))) (ho : U[y.b]? = some (boxO y')) (hv : y'.v = y.v)
  (K : ∀ U', Gw U U' -> Q (.tup [.int y.v, .tup (Jr us), .tup (Jr (news y.nu us.length))]) U') : wSs T 194 [f0, f1, f2, f3, f4, f5, some (.loc y.b), f7, some (.loc l)] E b61t U N Q := by
 refine Jd ho ?_
 rw [← hv] at K
 refine Jf rfl ?_
 refine Jm e1 ?_
 refine Gd hl (show 10 < 11 by decide) e1 (fun p fr Q q k => sub0_e q k) fun fr => ?_
 rw [fst_eq]
 refine fun U1 a1 => ?_
 refine Jm a1.me (Jf (Jj (by rw [Js]; lia)) ?_)
 have e2 := a1.gw _ _ e1
 refine Jm e2 ?_
 refine Gd hl (show 10 < 11 by decide) e2 (fun p fr Q q k => sub1_e q k) fun fr => ?_
 rw [snd_eq]
 refine fun U2 a2 => ?_
 refine Jm a2.me (Jf (Jj (by rw [Js, List.length_map, List.length_range]; lia)) ?_)
 have q := K _ (a1.gw.trans a2.gw)
 unfold news at q
 exact q
set_option tactic.hygienic true in
theorem copymove_w {n m : Str} {us : List Int} {isM : Bool} (h : StR n0 U A) (I : SI M G t A) (hM : M ≤ 32) (hG : G ≤ 1000) (hx : x ∈ A.bs) (hxn : x.n = n) (hn : YQ n) (hy : y ∈ A.bs) (hym : y.n = m) (hm : YQ m) (hu : Up us) (hl : us.length ≤ M) (hus : ∀ u ∈ us, u ∈ Jz x.ls)
  (K : x.top + 1 ≤ MX -> y.top + us.length + 1 ≤ MX -> y.nu + us.length - 1 ≤ MU -> ∀ U' A', StR n0 U' A' -> SI (2 * M) (G + 100) (t + 1) A' -> A'.st = A.st -> Q (.tup [.int y.v, .tup (Jr us), .tup (Jr (news y.nu us.length))]) U')
  (KE : (MX < x.top + 1 \/ MX < y.top + us.length + 1 \/ MU < y.nu + us.length - 1) -> ∀ U', Gw U U' -> E 3 U') :
  Rn ((tb (Pz S) (d + 7)).F 61 [.loc A.st, .str n, .tup (Jr us), .str m, .bool isM] U) Q E := by
 have bx := I.b x hx
 have by' := I.b y hy
 have lx := bx.len
 have ly := by'.len
 refine F_w (P := Pz S) rfl ⟨rfl, by decide⟩ ?_
 refine Jd h.o (Jh rfl ?_)
 refine Ye rfl h hx hxn hn fun U1 g1 => ?_
 have h1 := h.gw g1
 refine Jd h1.o (Jh rfl ?_)
 refine Ye rfl h1 hy hym hm fun U2 g2 => ?_
 have h2 := h1.gw g2
 refine needuids_w (h2.b x hx) bx.asc (by lia) hu (by lia) hus fun lf U3 g3 ef => ?_
 have h3 := h2.gw g3
 have gg := (g1.trans g2).trans g3
 refine YR rfl (h3.b x hx).o (fun c1 => ?_) fun c => KE (.inl c) _ gg
 refine Jm ef (Jf (Jj (by rw [Js]; lia)) ?_)
 rw [Js]
 refine Gl rfl (h3.b y hy).o (fun c2 c3 => ?_) fun c => KE (.inr (c.imp (fun c => by lia) fun c => by lia)) _ gg
 have c2 : y.top + us.length + 1 ≤ MX := by lia
 cases isM with
 | true =>
  refine move_w h3 I hM hG hx hy ef hu hl hus c1 c2 (by lia) fun l U4 A' y'' h4 I4 hst e4 o4 v4 => ?_
  refine Jf rfl ?_
  exact cmTail_w (N := fun _ U => Q .none U) (by lia) e4 o4 v4 fun U5 g5 => K c1 c2 c3 _ _ (h4.gw g5) I4.next hst
 | false =>
  refine copy_w rfl rfl (h3.b x hx) (h3.b y hy) bx.asc bx.ok (by lia) (by lia) ef hu (by lia) hus fun l U4 y' hlr s e4 => ?_
  have h4 := h3.upd hy s.toBStep
  have I4 : SI (2 * M) (G + 100) t (A.upd y') := I.upd h.nb hy s.b s.n (by lia) (by lia) ((by'.cstep s (by lia) (by lia)).up (by lia) (by lia) (Int.le_refl _))
  have o4 := s.rep.o
  rw [s.b] at o4
  refine Jf rfl ?_
  exact cmTail_w (N := fun _ U => Q .none U) (by lia) e4 o4 s.v fun U5 g5 => K c1 c2 c3 _ _ (h4.gw g5) I4.next rfl
theorem reninbox_w {n : Str} (h : StR n0 U A) (I : SI M G t A) (hM : M ≤ 32) (hG : G ≤ 1000) (ht : t < 5) (hn : n = bN t \/ n = rN t) (hx : x ∈ A.bs)
  (K : A.nv < MU -> x.top + 1 ≤ MX -> ∀ v U' A', StR n0 U' A' -> SI (2 * M) (G + 100) (t + 1) A' -> A'.st = A.st -> Q v U') (KE : ¬ A.nv < MU \/ MX < x.top + 1 -> ∀ U', Gw U U' -> E 3 U') :
  Rn ((tb (Pz S) (d + 7)).F 56 [.loc A.st, .loc x.b, .str n] U) Q E := by
 refine F_w (P := Pz S) rfl ⟨rfl, by decide⟩ ?_
 refine Jd h.o ?_
 refine needval_w rfl h.o (fun _ c1 => ?_) fun c => KE (.inl fun q => c ⟨Int.le_refl _, q⟩) _ .refl
 refine YR rfl (h.b x hx).o (fun c2 => ?_) fun c => KE (.inr c) _ .refl
 have bx := I.b x hx
 have lx := bx.len
 refine Jd h.o ?_
 refine fun U2 a2 => ?_
 refine ZE a2.me fun ll lg U3 k3 r3 f2 f3 => ?_
 have k13 : Gw U U3 := fun i o e => k3 _ _ (a2.gw _ _ e) (Nat.ne_of_lt (Jc e))
 have h3 := h.gw k13
 have nm : (Gk U.length ll lg n A.nv).n ∉ A.bs.map (·.n) := I.new ht hn
 have bl := I.len
 refine Jd h3.o (Jf rfl ?_)
 refine YE h3.d (JN ⟨YT _ _, by rw [show (OG A.bs).length = A.bs.length from List.length_map ..]; lia⟩ fun U4 t4 => ?_)
 have d4 := t4.me _ h3.d
 rw [show Ob (.str n) (.loc U.length) (OG A.bs) = _ from ents_set nm] at d4
 have o4 := t4.ne _ _ (Jw h3.o h3.d fun q => nomatch q) h3.o
 refine Jd o4 (Jd o4 fun U5 t5 => ?_)
 have l1 : U.length ≤ U2.length := a2.gw.len
 have kp : ∀ (i : Nat) (o : PO), U3[i]? = some o -> i ≠ A.ld -> i ≠ A.st -> U5[i]? = some o := fun i o e n1 n2 => t5.ne _ _ n2 (t4.ne _ _ n1 e)
 have h5 := h.add (x := Gk U.length ll lg n A.nv) (nv := A.nv + 1) (r3.keep2 fun i o e q1 q2 q3 => kp i o e (fun w => by subst w; rw [h3.d] at e; exact q3 _ (Option.some.inj e).symm) fun w => by
   subst w
   have e' : o = UL A := Option.some.inj (e.symm.trans h3.o)
   rcases q2 _ _ e' with z | z
   ·exact nomatch z
   ·exact Jw h3.o r3.o (fun q => nomatch q) z) (Nat.le_refl _) (Nat.le_trans l1 f2) (Nat.le_trans l1 f3) nm (fun i o e n1 n2 => kp _ _ (k13 _ _ e) n1 n2) (t5.ne _ _ (Jw d4 o4 fun q => nomatch q) d4) (t5.me _ o4)
 have I5 := I.add (b := U.length) (ll := ll) (lg := lg) hn (Int.le_refl A.nv) c1
 have hx5 : x ∈ A.bs ++ [Gk U.length ll lg n A.nv] := List.mem_append_left _ hx
 have hy5 : Gk U.length ll lg n A.nv ∈ A.bs ++ [Gk U.length ll lg n A.nv] := List.mem_append_right _ List.mem_cons_self
 refine Jd (h5.b x hx5).o (Jh rfl ?_)
 refine uids_w (h5.b x hx5) (by lia) fun lu U6 g6 eu => ?_
 have ul : (Jz x.ls).length = x.ls.length := List.length_map ..
 have u1 : (Jz x.ls).length ≤ M := by lia
 have w1 : (1 : Int) + (((Jz x.ls).length : Nat) : Int) + 1 ≤ MX := by unfold MX; lia
 have w2 : (1 : Int) + (((Jz x.ls).length : Nat) : Int) ≤ MU + 1 := by unfold MU; lia
 refine move_w (x := x) (y := Gk U.length ll lg n A.nv) (h5.gw g6) I5 hM hG hx5 hy5 eu (List.pairwise_map.mpr bx.asc) u1 (fun _ q => q) c2 w1 w2 fun l U7 A' y'' h7 I7 hst _ _ _ => ?_
 refine fun U8 a8 => ?_
 exact K c1 c2 _ _ _ (h7.gw a8.gw) I7 hst
theorem eqI : (sI == sI) = true := by decide +kernel
theorem rename_w {n : Str} (h : StR n0 U A) (I : SI M G t A) (hM : M ≤ 32) (hG : G ≤ 1000) (ht : t < 5) (hn : n = bN t \/ n = rN t) (hx : x ∈ A.bs) (hxn : x.n = sI)
  (K : A.nv < MU -> x.top + 1 ≤ MX -> ∀ v U' A', StR n0 U' A' -> SI (2 * M) (G + 100) (t + 1) A' -> A'.st = A.st -> Q v U') (KE : ¬ A.nv < MU \/ MX < x.top + 1 -> ∀ U', Gw U U' -> E 3 U') :
  Rn ((tb (Pz S) (d + 8)).F 55 [.loc A.st, .str sI, .str n] U) Q E := by
 refine F_w (P := Pz S) rfl ⟨rfl, by decide⟩ ?_
 refine Jd h.o (Jh rfl ?_)
 refine Ye rfl h hx hxn nmI fun U1 g1 => ?_
 have h1 := h.gw g1
 refine UN (nmT ht hn) fun U2 g2 => ?_
 have h2 := h1.gw g2
 refine neednew_w rfl h2 (I.new ht hn) ?_
 refine Jd (h2.b x hx).o ?_
 rw [hxn]
 refine OF eqI ?_
 exact reninbox_w h2 I hM hG ht hn hx K fun c U' g => KE c _ ((g1.trans g2).trans g)
end
noncomputable def flat : Nat -> PV -> Prop
 | 0 => fun _ => False
 | n + 1 => fun v => match v with
  | .int _ => True
  | .str _ => True
  | .bytes _ => True
  | .bool _ => True
  | .tup l => ∀ x ∈ l, flat n x
  | _ => False
theorem flat_eqz {U : St} {f : PV -> PV -> Option Bool} {l : List PV} (h : ∀ x ∈ l, f x x = some true) : ZH f l l = some true := by
 induction l with
 | nil => rfl
 | cons a l ih =>
  show ((f a a).bind fun c => (ZH f l l).map (c && ·)) = _
  rw [h a List.mem_cons_self, ih fun x hx => h x (List.mem_cons_of_mem _ hx)]; rfl
theorem KK {U : St} {n : Nat} : ∀ {v : PV}, flat n v -> eqv U n v v = some true := by
 induction n with
 | zero => exact fun h => h.elim
 | succ n ih =>
  intro v h
  cases v with
  | int i => show some (i == i) = _; rw [beq_self_eq_true]
  | str s => show some (s == s) = _; rw [beq_self_eq_true]
  | bytes b => show some (b == b) = _; rw [beq_self_eq_true]
  | bool b => show some (b == b) = _; rw [beq_self_eq_true]
  | tup l =>
   show ((ZH (eqv U n) l l).map fun r => r && l.length == l.length) = _
   rw [flat_eqz (U := U) fun x hx => ih (h x hx), beq_self_eq_true]; rfl
  | _ => exact h.elim
theorem flat_up {n m : Nat} (hnm : n ≤ m) : ∀ {v : PV}, flat n v -> flat m v := by
 induction n generalizing m with
 | zero => exact fun h => h.elim
 | succ n ih =>
  obtain ⟨k, rfl⟩ := Nat.exists_eq_add_one.mpr (Nat.lt_of_lt_of_le (Nat.succ_pos _) hnm)
  intro v h
  cases v <;> first | exact h | exact h.elim | exact fun x hx => ih (Nat.le_of_succ_le_succ hnm) (h x hx)
theorem flat_ints {n : Nat} {us : List Int} : flat (n + 2) (.tup (Jr us)) := fun x hx => by
 obtain ⟨u, _, rfl⟩ := List.mem_map.mp hx
 trivial
section
variable {S : SY} {M G t d : Nat} {n0 : ON} {U : St} {Q : PV -> St -> Prop} {E : Nat -> St -> Prop} {x y : AB} {A : AS}
noncomputable def Ut (bs : List AB) (n : Str) : AB := (bs.find? fun x => x.n == n).getD ⟨0, 0, 0, n, 0, 0, 0, 0, [], []⟩
theorem getB_of {bs : List AB} (h : (bs.map (·.n)).Nodup) (hx : x ∈ bs) : Ut bs x.n = x := by
 unfold Ut
 cases hf : bs.find? fun y => y.n == x.n with
 | none => exact absurd (beq_self_eq_true x.n) (by simpa using List.find?_eq_none.mp hf x hx)
 | some z =>
  have hz := List.mem_of_find?_eq_some hf
  have := List.find?_some hf
  exact map_inj h hz hx (beq_iff_eq.mp this)
theorem Us {bs : List AB} {n : Str} (h : (bs.map (·.n)).Nodup) (hn : n ∈ bs.map (·.n)) : Ut bs n ∈ bs /\ (Ut bs n).n = n := by
 obtain ⟨x, hx, rfl⟩ := List.mem_map.mp hn
 rw [getB_of h hx]; exact ⟨hx, rfl⟩
noncomputable def names (A : AS) : List Str := YJ Of (A.bs.map (·.n))
noncomputable def UJ (A : AS) : PV := .tup [.int A.nv, .tup [], .tup ((names A).map fun n => Ky (Ut A.bs n))]
theorem insG_mem {α : Type} {lt : α -> α -> Bool} {x : α} {l : List α} : ∀ {a : α}, a ∈ Gy lt x l ↔ a = x \/ a ∈ l := by
 induction l with
 | nil => intro a; exact List.mem_singleton.trans ⟨.inl, fun h => h.elim id fun q => nomatch q⟩
 | cons y l ih =>
  intro a
  show a ∈ (if lt x y = true then x :: y :: l else y :: Gy lt x l) ↔ _
  split
  ·exact List.mem_cons
  ·rw [List.mem_cons, ih, List.mem_cons]
   exact ⟨fun h => h.elim (fun q => .inr (.inl q)) fun h => h.elim .inl fun q => .inr (.inr q), fun h => h.elim (fun q => .inr (.inl q)) fun h => h.elim .inl fun q => .inr (.inr q)⟩
theorem sortG_mem {α : Type} {lt : α -> α -> Bool} {l : List α} {a : α} : a ∈ YJ lt l ↔ a ∈ l := by
 induction l with
 | nil => exact Iff.rfl
 | cons x l ih => exact insG_mem.trans ((or_congr Iff.rfl ih).trans List.mem_cons.symm)
theorem insG_len {α : Type} {lt : α -> α -> Bool} {x : α} {l : List α} : (Gy lt x l).length = l.length + 1 := by
 induction l with
 | nil => rfl
 | cons y l ih =>
  show (if lt x y = true then x :: y :: l else y :: Gy lt x l).length = _
  split
  ·rfl
  ·exact congrArg (· + 1) ih
theorem sortG_len {α : Type} {lt : α -> α -> Bool} {l : List α} : (YJ lt l).length = l.length := by
 induction l with
 | nil => rfl
 | cons x l ih => exact insG_len.trans (congrArg (· + 1) ih)
theorem names_mem {n : Str} : n ∈ names A ↔ n ∈ A.bs.map (·.n) := sortG_mem
theorem UT : (names A).length = A.bs.length := sortG_len.trans (List.length_map ..)
theorem sorted_strs {ss : List Str} (h : ss ≠ []) : JY (ss.map .str) = some ((YJ Of ss).map .str) := by
 unfold JY
 cases ss with
 | nil => exact absurd rfl h
 | cons a r =>
  show (OM ((a :: r).map .str)).map _ = _
  rw [keys_of]; rfl
theorem lettold_w {a : AL} (h : U[a.l]? = some (letO a)) (K : Q (letT a) U) : Rn ((tb (Pz S) (d + 1)).F 24 [.loc a.l] U) Q E := by
 refine F_w (P := Pz S) rfl ⟨rfl, by decide⟩ ?_
 refine Jd h (Jd h (Jd h (Jd h (Jd h ?_))))
 exact K
theorem boxtold_w (h : BoxR U x) (hn : x.ls.length ≤ 90) (hg : x.gn.length ≤ 10000) (K : ∀ U', Gw U U' -> Q (Ky x) U') : Rn ((tb (Pz S) (d + 2)).F 16 [.loc x.b] U) Q E := by
 refine F_w (P := Pz S) rfl ⟨rfl, by decide⟩ ?_
 refine Jd h.o ?_
 refine Jm h.l ?_
 refine OX _ rfl (L := x.ls) (fun u => [some (.loc x.b), none, none, u]) (fun a => .loc a.l) letT rfl (.inr ⟨_, rfl, h.l⟩) (fun _ _ => rfl) (by lia) (fun fr U1 a1 => ?_) fun a ha M hM => hv (Jd (h.a a ha) (Jh rfl (lettold_w (h.a a ha) ⟨rfl, hM⟩)))
 refine Jm a1.me (Jf (Jj (by rw [List.length_map]; lia)) ?_)
 have b1 := a1.gw _ _ h.o
 refine Jd b1 (Jd b1 (Jd b1 (Jd b1 (Jd b1 (Jd b1 ?_)))))
 refine Jm (a1.gw _ _ h.g) (Jf (Jj (by lia)) ?_)
 exact K _ a1.gw
theorem names_w (h : StR n0 U A) (hn : A.bs.length ≤ 60) (h0 : A.bs.map (·.n) ≠ []) (K : ∀ l U', Gw U U' -> U'[l]? = some (.list ((names A).map .str)) -> Q (.loc l) U') : Rn ((tb (Pz S) (d + 1)).F 14 [.loc A.st] U) Q E := by
 refine F_w (P := Pz S) rfl ⟨rfl, by decide⟩ ?_
 refine Jd h.o ?_
 have le : (OG A.bs).length = A.bs.length := List.length_map ..
 refine YE h.d (Jf (Jj (by lia)) fun U1 a1 => ?_)
 have e1 : U1[U.length]? = some (.list ((A.bs.map (·.n)).map .str)) := a1.me.trans (by unfold OG; rw [List.map_map, List.map_map]; rfl)
 refine Jm e1 (JN (by rw [List.length_map, List.length_map]; exact hn) (Jh (sorted_strs h0) fun U2 a2 => ?_))
 exact K _ _ (a1.gw.trans a2.gw) a2.me
theorem told_w (h : StR n0 U A) (I : SI M G t A) (hM : M ≤ 64) (hG : G ≤ 1000) (ht : t ≤ 10) (K : ∀ U', Gw U U' -> Q (UJ A) U') : Rn ((tb (Pz S) (d + 3)).F 13 [.loc A.st] U) Q E := by
 have bl := I.len
 refine F_w (P := Pz S) rfl ⟨rfl, by decide⟩ ?_
 refine Jd h.o (Jh rfl ?_)
 refine names_w h (by lia) (fun e => by have := I.i; rw [e] at this; exact nomatch this) fun l U1 g1 e1 => ?_
 refine Jm e1 ?_
 refine lpL (fun rest p U' => Gw U1 U' /\ ∃ u ds rs, p = ([some (.loc A.st), none, none, u], ds.map fun n => Ky (Ut A.bs n)) /\ rest = rs.map PV.str /\ names A = ds ++ rs) l (by rw [List.length_map, UT]; lia) ⟨.refl, none, [], _, rfl, rfl, rfl⟩ (by rintro _ _ _ ⟨g, _⟩; exact g _ _ e1) ?_ ?_ (xs := (names A).map PV.str)
 ·rintro _ U2 ⟨g2, u, ds, rs, rfl, e, hd⟩
  have e := JV e
  subst e
  rw [List.append_nil] at hd
  refine fun U3 a3 => ?_
  have e3 := a3.me
  rw [← hd] at e3
  have g3 := (g1.trans g2).trans a3.gw
  have h3 := h.gw g3
  refine Jm e3 (Jf (Jj (by rw [List.length_map, UT]; lia)) ?_)
  refine Jd h3.o (Jd h3.o ?_)
  refine Jm h3.s ?_
  exact K _ g3
 ·rintro _ _ _ U2 ⟨g2, u, ds, rs, rfl, e, hd⟩ M hM
  obtain ⟨n, rs', rfl, rfl, rfl⟩ := map_cons e
  have hlen := congrArg List.length hd
  rw [UT, List.length_append] at hlen
  have hn : n ∈ A.bs.map (·.n) := names_mem.mp (hd ▸ List.mem_append_right _ List.mem_cons_self)
  obtain ⟨hx, hxn⟩ := Us h.nn hn
  have h2 := h.gw (g1.trans g2)
  have bi := I.b _ hx
  have l1 := bi.len
  have l2 := bi.gl
  refine ZD (Jh rfl ?_)
  have eg := ents_get h.nn hx
  rw [hxn] at eg
  refine Jd h2.o (YE h2.d (Jf (YT _ _) (Jh eg ?_)))
  refine Jd (h2.b _ hx).o (Jh rfl ?_)
  refine boxtold_w (h2.b _ hx) (by lia) (by lia) fun U3 g3 => ?_
  refine Jf (Jj (show (ds.map fun n => Ky (Ut A.bs n)).length ≤ 1000000 by rw [List.length_map]; lia)) ?_
  exact hM _ _ ⟨g2.trans g3, _, ds ++ [n], rs', congrArg _ (map_app1 (g := fun n => Ky (Ut A.bs n)) (l := ds) (a := n)).symm, rfl, by rw [List.append_assoc]; exact hd⟩
theorem let_flat {top : Int} {a : AL} (h : LOk top a) : flat 4 (letT a) := fun v hv => by
 obtain ⟨b, hb⟩ := h.o
 obtain ⟨k, hk⟩ := h.i
 have hf := h.f.fl
 unfold letT at *
 rcases List.mem_cons.mp hv with rfl | hv
 ·trivial
 rcases List.mem_cons.mp hv with rfl | hv
 ·rw [hb]; trivial
 rcases List.mem_cons.mp hv with rfl | hv
 ·intro w hw
  rcases hf w hw with rfl | rfl <;> trivial
 rcases List.mem_cons.mp hv with rfl | hv
 ·rw [hk]; trivial
 rw [List.mem_singleton.mp hv]; trivial
theorem box_flat {nv : Int} (h : BI M G nv x) : flat 6 (Ky x) := fun v hv => by
 rcases List.mem_cons.mp hv with rfl | hv
 ·trivial
 rcases List.mem_cons.mp hv with rfl | hv
 ·trivial
 rcases List.mem_cons.mp hv with rfl | hv
 ·trivial
 rcases List.mem_cons.mp hv with rfl | hv
 ·trivial
 rcases List.mem_cons.mp hv with rfl | hv
 ·trivial
 rcases List.mem_cons.mp hv with rfl | hv
 ·intro w hw
  obtain ⟨a, ha, rfl⟩ := List.mem_map.mp hw
  exact let_flat (h.ok a ha)
 rw [List.mem_singleton.mp hv]
 intro w hw
 obtain ⟨a, b, rfl⟩ := h.gn w hw
 intro z hz
 rcases List.mem_cons.mp hz with rfl | hz
 ·trivial
 rw [List.mem_singleton.mp hz]; trivial
theorem told_flat (h : StR n0 U A) (I : SI M G t A) : flat 16 (UJ A) := flat_up (n := 8) (by decide) fun v hv => by
 rcases List.mem_cons.mp hv with rfl | hv
 ·trivial
 rcases List.mem_cons.mp hv with rfl | hv
 ·exact fun _ q => nomatch q
 rw [List.mem_singleton.mp hv]
 intro w hw
 obtain ⟨n, hn, rfl⟩ := List.mem_map.mp hw
 exact box_flat (I.b _ (Us h.nn (names_mem.mp hn)).1)
end
section
variable {S : SY} {M G t d : Nat} {n0 : ON} {U : St} {Q : PV -> St -> Prop} {E : Nat -> St -> Prop} {x y : AB} {A : AS}
noncomputable def tboxes (A : AS) (rs : List Str) : List PV := rs.map fun n => Ky (Ut A.bs n)
theorem Yx {n : Str} (h : (A.bs.map (·.n)).Nodup) (hx : x ∈ A.bs) (hxn : x.n = n) (K : Q (Ky x) U) : Rn ((tb (Pz S) (d + 1)).F 3 [UJ A, .str n] U) Q E := by
 refine F_w (P := Pz S) rfl ⟨rfl, by decide⟩ ?_
 refine lpI (fun rest fr U' => U' = U /\ ∃ u rs, fr = [some (UJ A), some (.str n), u] /\ rest = tboxes A rs /\ n ∈ rs /\ ∀ m ∈ rs, m ∈ A.bs.map (·.n)) ?_ ?_ ⟨rfl, none, names A, rfl, rfl, names_mem.mpr (hxn ▸ List.mem_map_of_mem hx), fun m q => names_mem.mp q⟩
 ·rintro _ _ ⟨rfl, u, rs, rfl, e, hn, _⟩
  have e := JV e
  subst e
  exact nomatch hn
 ·rintro _ _ _ _ ⟨rfl, u, rs, rfl, e, hn, hm⟩ M hM
  obtain ⟨m, rs', rfl, rfl, rfl⟩ := map_cons e
  obtain ⟨hg, hgn⟩ := Us h (hm m List.mem_cons_self)
  refine Yb ?_
  refine fun b hb => ?_
  cases b with
  | true =>
   have e1 : (Ut A.bs m).n = n := beq_iff_eq.mp hb
   have e2 : Ut A.bs m = x := by rw [← hgn, e1, ← hxn]; exact getB_of h hx
   show Q (Ky (Ut A.bs m)) _
   rw [e2]; exact K
  | false =>
   have e1 : (Ut A.bs m).n ≠ n := beq_eq_false_iff_ne.mp hb
   refine hM _ _ ⟨rfl, _, rs', rfl, rfl, (List.mem_cons.mp hn).elim (fun q => absurd (hgn.trans q.symm) e1) id, fun k q => hm k (List.mem_cons_of_mem _ q)⟩
theorem bools_f {α : Type} (l : List α) : YN (l.map fun _ => .bool false) = some (l.map fun _ => false) := by
 induction l with
 | nil => rfl
 | cons a l ih => show (YN (l.map fun _ => .bool false)).map _ = _; rw [ih]; rfl
theorem any_ff {α : Type} (l : List α) : (l.map fun _ => false).any id = false := by
 induction l with
 | nil => rfl
 | cons a l ih => exact ih
theorem KQ (h : (A.bs.map (·.n)).Nodup) (I : SI M G t A) (hM : M ≤ 64) (K : ∀ U', Gw U U' -> Q (.bool true) U') : Rn ((tb (Pz S) (d + 1)).F 18 [UJ A] U) Q E := by
 refine F_w (P := Pz S) rfl ⟨rfl, by decide⟩ ?_
 refine lpI (fun rest fr U' => Gw U U' /\ ∃ u rs, fr = [some (UJ A), u] /\ rest = tboxes A rs /\ ∀ m ∈ rs, m ∈ A.bs.map (·.n)) ?_ ?_ ⟨.refl, none, names A, rfl, rfl, fun m q => names_mem.mp q⟩
 ·rintro _ U1 ⟨g1, u, rs, rfl, _⟩
  show Q (.bool (decide (A.nv ≤ 4294967295))) U1
  rw [decide_eq_true (show A.nv ≤ 4294967295 from I.nv)]
  exact K _ g1
 ·rintro _ _ _ U1 ⟨g1, u, rs, rfl, e, hm⟩ M hM
  obtain ⟨m, rs', rfl, rfl, rfl⟩ := map_cons e
  obtain ⟨hg, _⟩ := Us h (hm m List.mem_cons_self)
  have bi := I.b _ hg
  have lm := bi.len
  generalize Ut A.bs m = z at bi lm ⊢
  refine Yb ?_
  refine JG (decide_eq_false (show ¬ z.v ≥ A.nv by have := bi.v; lia)) ?_
  refine JG (decide_eq_false (show ¬ z.nu > 4294967295 + 1 by have := bi.nu; unfold MU at this; lia)) ?_
  refine JG (decide_eq_false (show ¬ z.top > 9223372036854775807 by have := bi.top; unfold MX at this; lia)) ?_
  refine OX _ rfl (L := z.ls) (fun u => [some (UJ A), some (Ky z), none, u]) letT (fun _ => .bool false) rfl (.inl rfl) (fun _ _ => rfl) (by lia) (fun fr U2 a2 => ?_) fun a ha M hM => hv ?_
  ·refine Jm a2.me (Jf (Jj (by rw [List.length_map]; lia)) (Jh (bools_f z.ls) ?_))
   rw [any_ff]
   exact hM _ _ ⟨g1.trans a2.gw, _, rs', rfl, rfl, fun k q => hm k (List.mem_cons_of_mem _ q)⟩
  ·refine JG (decide_eq_false (show ¬ a.u ≥ z.nu by have := bi.lt a ha; lia)) ?_
   refine ⟨rfl, ?_⟩
   rw [decide_eq_false (show ¬ a.m > z.top by have := (bi.ok a ha).m; lia)]
   exact hM
end
structure RS (M G t : Nat) (A : AS) (row : PV) (C : Prop) (giv : PV) : Prop where
 w : ∀ {S : SY} {d : Nat} {U : St} {Q : PV -> St -> Prop} {E : Nat -> St -> Prop}, (C -> Q (.bool true) U) -> (¬ C -> Q (.bool false) U) -> Rn ((tb (Pz S) (d + 2)).F 17 [UJ A, row] U) Q E
 g : ∀ {S : SY} {d : Nat} {U : St} {Q : PV -> St -> Prop} {E : Nat -> St -> Prop}, (∀ U', Gw U U' -> Q giv U') -> Rn ((tb (Pz S) (d + 2)).F 19 [UJ A, row] U) Q E
 a : ∀ {n0 : ON} {S : SY} {d : Nat} {U : St} {Q : PV -> St -> Prop} {E : Nat -> St -> Prop}, StR n0 U A -> (¬ C -> ∀ v U' A', StR n0 U' A' -> SI (2 * M) (G + 100) (t + 1) A' -> A'.st = A.st -> (giv = .none \/ v = giv) -> Q v U') -> (C -> ∀ U', Gw U U' -> E 3 U') -> Rn ((tb (Pz S) (d + 9)).F 11 [.loc A.st, row] U) Q E
 f : giv = .none \/ flat 16 giv
section
variable {M G t : Nat} {U : St} {x y : AB} {A : AS}
theorem Zk {x : Str} : Pl2 U (.str x) := ⟨rfl, fun _ e => nomatch e⟩
theorem pl2_i {k : Int} : Pl2 U (.int k) := ⟨rfl, fun _ e => nomatch e⟩
theorem pl2_b {b : Array UInt8} : Pl2 U (.bytes b) := ⟨rfl, fun _ e => nomatch e⟩
theorem Ol : ∀ v ∈ ([] : List PV), Pl2 U v := fun _ h => nomatch h
theorem JM {v : PV} {vs : List PV} (h : Pl2 U v) (k : ∀ w ∈ vs, Pl2 U w) : ∀ w ∈ v :: vs, Pl2 U w := fun w hw => (List.mem_cons.mp hw).elim (fun e => e ▸ h) (k w)
theorem Ge {us : List Int} (h : us.length ≤ 1000) : Pl2 U (.tup (Jr us)) := ⟨rfl, fun ws e => by
 cases e
 exact ⟨by rw [Js]; exact h, fun w hw => by obtain ⟨u, _, rfl⟩ := List.mem_map.mp hw; rfl⟩⟩
theorem pl2_fl {f : List PV} (hf : ∀ v ∈ f, Fl2 v) (hl : f.length ≤ 1000) : Pl2 U (.tup f) := ⟨rfl, fun ws e => by
 cases e
 exact ⟨hl, fun w hw => by rcases hf w hw with rfl | rfl <;> rfl⟩⟩
theorem UR {us : List Int} : US (.tup (Jr us)) = true := by
 show (Jr us).all isNum = true
 rw [List.all_eq_true]
 intro v hv
 obtain ⟨u, _, rfl⟩ := List.mem_map.mp hv
 rfl
theorem ZY {f : List PV} (hf : ∀ v ∈ f, Fl2 v) : OK (.tup f) = true := by
 show f.all isStr = true
 rw [List.all_eq_true]
 intro v hv
 rcases hf v hv with rfl | rfl <;> rfl
theorem sh8 : JJ (Str.ofString "create") shapes = some [116, 110] /\ JJ (Str.ofString "rename") shapes = some [116, 116] /\ JJ (Str.ofString "append") shapes = some [116, 102, 110, 111] /\ JJ (Str.ofString "flags") shapes = some [116, 110, 102] /\ JJ (Str.ofString "store") shapes = some [116, 117, 116, 102, 110] /\ JJ (Str.ofString "expunge") shapes = some [116, 117] /\ JJ (Str.ofString "copy") shapes = some [116, 117, 116] /\ JJ (Str.ofString "move") shapes = some [116, 117, 116] := by decide +kernel
theorem pl3_of {vs : List PV} (h : ∀ v ∈ vs, Pl2 U v) (hl : vs.length ≤ 100) : Pl3 U (.tup vs) := ⟨rfl, fun ws e => by cases e; exact ⟨hl, h⟩⟩
theorem Oj {S : SY} {d : Nat} {Q : PV -> St -> Prop} {E : Nat -> St -> Prop} {w : Str} {vs : List PV} {sh : List Nat} (hs : JJ w shapes = some sh) (hf : UZ vs sh = true) (hp : ∀ v ∈ vs, Pl2 U v) (hl : vs.length ≤ 20) (K : ∀ U', Gw U U' -> Q .none U') : Rn ((tb (Pz S) (d + 4)).F 9 [.tup (.str w :: vs)] U) Q E := by
 have hr : rowOk (.tup (.str w :: vs)) = true := by
  show fitO vs (JJ w shapes) = true
  rw [hs]; exact hf
 refine row_w std (pl3_of (JM Zk hp) (by rw [List.length_cons]; lia)) (fun _ => K) fun c => absurd (hr.symm.trans c) (by decide)
theorem rsCreate {v : Int} (I : SI M G t A) (hM : M ≤ 32) (ht : t < 5) (hv : A.nv ≤ v) : RS M G t A (.tup [.str (Str.ofString "create"), .str (bN t), .int v]) (v ≥ MU) .none where
 w := fun {S d U Q E} k1 k2 => by
  refine F_w (P := Pz S) rfl ⟨rfl, by decide⟩ ?_
  refine OF (by decide +kernel) ?_
  by_cases h : v ≥ 4294967295
  ·show Q (.bool (decide (v ≥ 4294967295))) U
   rw [decide_eq_true h]; exact k1 h
  ·show Q (.bool (decide (v ≥ 4294967295))) U
   rw [decide_eq_false h]; exact k2 h
 g := fun {S d U Q E} k => by
  refine F_w (P := Pz S) rfl ⟨rfl, by decide⟩ ?_
  refine Jv (by decide +kernel) ?_
  refine JG (b := (Str.ofString "copy" == Str.ofString "create") || ((Str.ofString "move" == Str.ofString "create") || false)) (by decide +kernel) ?_
  exact k _ .refl
 a := fun {n0 S d U Q E} h k1 k2 => by
  refine F_w (P := Pz S) rfl ⟨rfl, by decide⟩ ?_
  refine Oj sh8.1 rfl (JM Zk (JM pl2_i Ol)) (by show 2 ≤ 20; decide) fun U1 g1 => ?_
  refine OF (by decide +kernel) ?_
  exact create_w (h.gw g1) I ht (.inl rfl) (fun _ c r U' A' h' I' e => k1 (by lia) r U' A' h' (I'.upM (by lia) (by lia)) e (.inl rfl)) fun c U' g => k2 (by lia) U' (g1.trans g)
 f := .inl rfl
theorem or_w {Q : PV -> St -> Prop} {a b : Bool} {p q : Prop} (h1 : a = true ↔ p) (h2 : b = true ↔ q) (k1 : p \/ q -> Q (.bool true) U) (k2 : ¬ (p \/ q) -> Q (.bool false) U) : br a (Q (.bool a) U) (Q (.bool b) U) := by
 cases a with
 | true => exact k1 (.inl (h1.mp rfl))
 | false => cases b with
  | true => exact k1 (.inr (h2.mp rfl))
  | false => exact k2 fun h => h.elim (fun q => absurd (h1.mpr q) (by decide)) fun q => absurd (h2.mpr q) (by decide)
theorem one_w {Q : PV -> St -> Prop} {a : Bool} {p : Prop} (h1 : a = true ↔ p) (k1 : p -> Q (.bool true) U) (k2 : ¬ p -> Q (.bool false) U) : Q (.bool a) U := by
 cases a with
 | true => exact k1 (h1.mp rfl)
 | false => exact k2 fun q => absurd (h1.mpr q) (by decide)
theorem ZC {p : Prop} [Decidable p] : decide p = true ↔ p := decide_eq_true_iff
theorem rsRename (I : SI M G t A) (hM : M ≤ 32) (hG : G ≤ 1000) (ht : t < 5) (nn : (A.bs.map (·.n)).Nodup) (hx : x ∈ A.bs) (hxn : x.n = sI) : RS M G t A (.tup [.str (Str.ofString "rename"), .str sI, .str (rN t)]) (A.nv ≥ 4294967295 \/ x.top + 1 > 9223372036854775807) .none where
 w := fun {S d U Q E} k1 k2 => by
  refine F_w (P := Pz S) rfl ⟨rfl, by decide⟩ ?_
  refine Jv (by decide +kernel) ?_
  refine Yx nn hx hxn ?_
  refine OF (by decide +kernel) ?_
  exact or_w (a := decide (A.nv ≥ 4294967295)) (b := decide (x.top + 1 > 9223372036854775807)) ZC ZC k1 k2
 g := fun {S d U Q E} k => by
  refine F_w (P := Pz S) rfl ⟨rfl, by decide⟩ ?_
  refine Jv (by decide +kernel) ?_
  refine JG (b := (Str.ofString "copy" == Str.ofString "rename") || ((Str.ofString "move" == Str.ofString "rename") || false)) (by decide +kernel) ?_
  exact k _ .refl
 a := fun {n0 S d U Q E} h k1 k2 => by
  refine F_w (P := Pz S) rfl ⟨rfl, by decide⟩ ?_
  refine Oj sh8.2.1 rfl (JM Zk (JM Zk Ol)) (by show 2 ≤ 20; decide) fun U1 g1 => ?_
  refine Jv (by decide +kernel) (Jv (by decide +kernel) (OF (by decide +kernel) ?_))
  exact rename_w (h.gw g1) I hM hG ht (.inr rfl) hx hxn (fun c1 c2 r U' A' h' I' e => k1 (fun c => c.elim (Int.not_le.mpr c1) (Int.not_lt.mpr c2)) r U' A' h' I' e (.inl rfl)) fun c U' g => k2 (c.imp Int.not_lt.mp id) U' (g1.trans g)
 f := .inl rfl
theorem rsAppend {f : List PV} {k : Int} {o : Array UInt8} (I : SI M G t A) (hM : M ≤ 32) (hM1 : 1 ≤ M) (nn : (A.bs.map (·.n)).Nodup) (hx : x ∈ A.bs) (hn : YQ x.n) (hf : ∀ v ∈ f, Fl2 v) (hfl : f.length ≤ 1000) : RS M G t A (.tup [.str (Str.ofString "append"), .str x.n, .tup f, .int k, .bytes o]) (x.nu > 4294967295 \/ x.top + 2 > 9223372036854775807) (.tup [.int x.v, .int x.nu]) where
 w := fun {S d U Q E} k1 k2 => by
  refine F_w (P := Pz S) rfl ⟨rfl, by decide⟩ ?_
  refine Jv (by decide +kernel) ?_
  refine Yx nn hx rfl ?_
  refine Jv (by decide +kernel) (OF (by decide +kernel) ?_)
  exact or_w (a := decide (x.nu > 4294967295)) (b := decide (x.top + 2 > 9223372036854775807)) ZC ZC k1 k2
 g := fun {S d U Q E} k => by
  refine F_w (P := Pz S) rfl ⟨rfl, by decide⟩ ?_
  refine OF (by decide +kernel) ?_
  refine Yx nn hx rfl ?_
  exact k _ .refl
 a := fun {n0 S d U Q E} h k1 k2 => by
  refine F_w (P := Pz S) rfl ⟨rfl, by decide⟩ ?_
  refine Oj sh8.2.2.1 (show (true && (true && (OK (.tup f) && (true && (true && true))))) = true by rw [ZY hf]; rfl) (JM Zk (JM (pl2_fl hf hfl) (JM pl2_i (JM pl2_b Ol)))) (by show 4 ≤ 20; decide) fun U1 g1 => ?_
  refine Jv (by decide +kernel) (Jv (by decide +kernel) (Jv (by decide +kernel) (OF (by decide +kernel) ?_)))
  exact append_w (h.gw g1) I hM hM1 hx rfl hn hf (fun c1 c2 U' A' h' I' e => k1 (fun c => c.elim (Int.not_lt.mpr c2) (Int.not_lt.mpr c1)) _ U' A' h' I' e (.inr rfl)) fun c U' g => k2 c.symm U' (g1.trans g)
 f := .inr (fun v hv => by
  rcases List.mem_cons.mp hv with rfl | hv
  ·trivial
  ·rw [List.mem_singleton.mp hv]; trivial)
theorem rsFlags {f : List PV} {u : Int} (I : SI M G t A) (hM : M ≤ 32) (nn : (A.bs.map (·.n)).Nodup) (hx : x ∈ A.bs) (hn : YQ x.n) (hf : ∀ v ∈ f, Fl2 v) (hfl : f.length ≤ 1000) (hu : u ∈ Jz x.ls) : RS M G t A (.tup [.str (Str.ofString "flags"), .str x.n, .int u, .tup f]) (x.top + 1 > 9223372036854775807) .none where
 w := fun {S d U Q E} k1 k2 => by
  refine F_w (P := Pz S) rfl ⟨rfl, by decide⟩ ?_
  refine Jv (by decide +kernel) ?_
  refine Yx nn hx rfl ?_
  refine Jv (by decide +kernel) (Jv (by decide +kernel) (Jv (by decide +kernel) ?_))
  by_cases c : x.top + 1 > 9223372036854775807
  ·exact Yr (b := decide (x.top + 1 > 9223372036854775807)) (decide_eq_true c) (k1 c)
  ·refine JG (b := decide (x.top + 1 > 9223372036854775807)) (decide_eq_false c) ?_
   exact k2 c
 g := fun {S d U Q E} k => by
  refine F_w (P := Pz S) rfl ⟨rfl, by decide⟩ ?_
  refine Jv (by decide +kernel) ?_
  refine JG (b := (Str.ofString "copy" == Str.ofString "flags") || ((Str.ofString "move" == Str.ofString "flags") || false)) (by decide +kernel) ?_
  exact k _ .refl
 a := fun {n0 S d U Q E} h k1 k2 => by
  refine F_w (P := Pz S) rfl ⟨rfl, by decide⟩ ?_
  refine Oj sh8.2.2.2.1 (show (true && (true && (true && (OK (.tup f) && true)))) = true by rw [ZY hf]; rfl) (JM Zk (JM pl2_i (JM (pl2_fl hf hfl) Ol))) (by show 3 ≤ 20; decide) fun U1 g1 => ?_
  refine Jv (by decide +kernel) (Jv (by decide +kernel) (Jv (by decide +kernel) (Jv (by decide +kernel) (OF (by decide +kernel) ?_))))
  exact flag_w (h.gw g1) I hM hx rfl hn hf hu (fun c1 v U' A' h' I' e => k1 (Int.not_lt.mpr c1) v U' A' h' I' e (.inl rfl)) fun c U' g => k2 c U' (g1.trans g)
 f := .inl rfl
theorem rsStore {f : List PV} {us : List Int} {way : Str} (I : SI M G t A) (hM : M ≤ 32) (nn : (A.bs.map (·.n)).Nodup) (hx : x ∈ A.bs) (hn : YQ x.n) (hf : ∀ v ∈ f, Fl2 v) (hfl : f.length ≤ 1000) (hu : Up us) (hm : ∀ u ∈ us, u ∈ Jz x.ls) (hl : us.length ≤ M) (hw : way ∈ ways) : RS M G t A (.tup [.str (Str.ofString "store"), .str x.n, .tup (Jr us), .str way, .tup f, .int (-1)]) (x.top + us.length > 9223372036854775807) .none where
 w := fun {S d U Q E} k1 k2 => by
  refine F_w (P := Pz S) rfl ⟨rfl, by decide⟩ ?_
  refine Jv (by decide +kernel) ?_
  refine Yx nn hx rfl ?_
  refine Jv (by decide +kernel) (Jv (by decide +kernel) (OF (by decide +kernel) ?_))
  refine Jf (Jj (by rw [Js]; lia)) ?_
  rw [Js]
  exact one_w (a := decide (x.top + us.length > 9223372036854775807)) ZC k1 k2
 g := fun {S d U Q E} k => by
  refine F_w (P := Pz S) rfl ⟨rfl, by decide⟩ ?_
  refine Jv (by decide +kernel) ?_
  refine JG (b := (Str.ofString "copy" == Str.ofString "store") || ((Str.ofString "move" == Str.ofString "store") || false)) (by decide +kernel) ?_
  exact k _ .refl
 a := fun {n0 S d U Q E} h k1 k2 => by
  refine F_w (P := Pz S) rfl ⟨rfl, by decide⟩ ?_
  refine Oj sh8.2.2.2.2.1 (show (true && (true && (US (.tup (Jr us)) && (true && (OK (.tup f) && (true && true)))))) = true by rw [ZY hf, UR]; rfl) (JM Zk (JM (Ge (by lia)) (JM Zk (JM (pl2_fl hf hfl) (JM pl2_i Ol))))) (by show 5 ≤ 20; decide) fun U1 g1 => ?_
  refine Jv (by decide +kernel) (Jv (by decide +kernel) (Jv (by decide +kernel) (Jv (by decide +kernel) (Jv (by decide +kernel) (OF (by decide +kernel) ?_)))))
  exact store_w (h.gw g1) I hM hx rfl hn hf hu hm (by lia) hw (fun c1 v U' A' h' I' e => k1 (Int.not_lt.mpr c1) v U' A' h' I' e (.inl rfl)) fun c U' g => k2 c U' (g1.trans g)
 f := .inl rfl
theorem rsExpunge {us : List Int} (I : SI M G t A) (hM : M ≤ 32) (hG : G ≤ 1000) (nn : (A.bs.map (·.n)).Nodup) (hx : x ∈ A.bs) (hn : YQ x.n) (hu : Up us) (hl : us.length ≤ M) : RS M G t A (.tup [.str (Str.ofString "expunge"), .str x.n, .tup (Jr us)]) (x.top + 1 > 9223372036854775807) .none where
 w := fun {S d U Q E} k1 k2 => by
  refine F_w (P := Pz S) rfl ⟨rfl, by decide⟩ ?_
  refine Jv (by decide +kernel) ?_
  refine Yx nn hx rfl ?_
  refine Jv (by decide +kernel) (Jv (by decide +kernel) (Jv (by decide +kernel) ?_))
  by_cases c : x.top + 1 > 9223372036854775807
  ·exact Yr (b := decide (x.top + 1 > 9223372036854775807)) (decide_eq_true c) (k1 c)
  ·refine JG (b := decide (x.top + 1 > 9223372036854775807)) (decide_eq_false c) ?_
   exact k2 c
 g := fun {S d U Q E} k => by
  refine F_w (P := Pz S) rfl ⟨rfl, by decide⟩ ?_
  refine Jv (by decide +kernel) ?_
  refine JG (b := (Str.ofString "copy" == Str.ofString "expunge") || ((Str.ofString "move" == Str.ofString "expunge") || false)) (by decide +kernel) ?_
  exact k _ .refl
 a := fun {n0 S d U Q E} h k1 k2 => by
  refine F_w (P := Pz S) rfl ⟨rfl, by decide⟩ ?_
  refine Oj sh8.2.2.2.2.2.1 (show (true && (true && (US (.tup (Jr us)) && true))) = true by rw [UR]; rfl) (JM Zk (JM (Ge (by lia)) Ol)) (by show 2 ≤ 20; decide) fun U1 g1 => ?_
  refine Jv (by decide +kernel) (Jv (by decide +kernel) (Jv (by decide +kernel) (Jv (by decide +kernel) (Jv (by decide +kernel) (Jv (by decide +kernel) (OF (by decide +kernel) ?_))))))
  exact expungel_w (h.gw g1) I hM hG hx rfl hn hu (by lia) (fun c1 v U' A' h' I' e => k1 (Int.not_lt.mpr c1) v U' A' h' I' e (.inl rfl)) fun c U' g => k2 c U' (g1.trans g)
 f := .inl rfl
noncomputable def cmW (isM : Bool) : Str := cond isM (Str.ofString "move") (Str.ofString "copy")
theorem rsCopy {us : List Int} {isM : Bool} (I : SI M G t A) (hM : M ≤ 32) (hG : G ≤ 1000) (nn : (A.bs.map (·.n)).Nodup) (hx : x ∈ A.bs) (hn : YQ x.n) (hy : y ∈ A.bs) (hm : YQ y.n) (hu : Up us) (hl : us.length ≤ M) (hus : ∀ u ∈ us, u ∈ Jz x.ls) :
  RS M G t A (.tup [.str (cmW isM), .str x.n, .tup (Jr us), .str y.n]) (x.top + 1 > 9223372036854775807 \/ (y.top + us.length + 1 > 9223372036854775807 \/ y.nu + us.length - 1 > 4294967295)) (.tup [.int y.v, .tup (Jr us), .tup (Jr (news y.nu us.length))]) where
 w := fun {S d U Q E} k1 k2 => by
  refine F_w (P := Pz S) rfl ⟨rfl, by decide⟩ ?_
  refine Jv (by cases isM <;> decide +kernel) ?_
  refine Yx nn hx rfl ?_
  refine Jv (by cases isM <;> decide +kernel) (Jv (by cases isM <;> decide +kernel) (Jv (by cases isM <;> decide +kernel) ?_))
  by_cases c : x.top + 1 > 9223372036854775807
  ·exact Yr (b := decide (x.top + 1 > 9223372036854775807)) (decide_eq_true c) (k1 (.inl c))
  ·refine JG (b := decide (x.top + 1 > 9223372036854775807)) (decide_eq_false c) ?_
   refine JG (b := (Str.ofString "flags" == cmW isM) || ((Str.ofString "expunge" == cmW isM) || false)) (by cases isM <;> decide +kernel) ?_
   refine Yx nn hy rfl ?_
   have sz : Jp (Jr us).length = true := Jj (by rw [Js]; lia)
   refine Jf sz ?_
   by_cases c2 : y.top + ((Jr us).length : Nat) + 1 > 9223372036854775807
   ·refine Yr (decide_eq_true c2) ?_
    show Q (.bool (decide (y.top + ((Jr us).length : Nat) + 1 > 9223372036854775807))) U
    rw [decide_eq_true c2]
    rw [Js] at c2
    exact k1 (.inr (.inl c2))
   ·refine JG (decide_eq_false c2) ?_
    refine Jf sz ?_
    rw [Js] at c2 ⊢
    exact one_w (a := decide (y.nu + us.length - 1 > 4294967295)) ZC (fun q => k1 (.inr (.inr q))) fun q => k2 fun w => w.elim c fun w => w.elim c2 q
 g := fun {S d U Q E} k => by
  refine F_w (P := Pz S) rfl ⟨rfl, by decide⟩ ?_
  refine Jv (by cases isM <;> decide +kernel) ?_
  refine Yr (b := (Str.ofString "copy" == cmW isM) || ((Str.ofString "move" == cmW isM) || false)) (by cases isM <;> decide +kernel) ?_
  refine Yx nn hy rfl ?_
  refine Jf (Jj (by rw [Js]; lia)) ?_
  rw [Js]
  refine JN ⟨Int.natCast_nonneg _, by lia⟩ ?_
  rw [Int.toNat_natCast]
  refine OX _ rfl (L := List.range us.length) (R := Jr ((List.range us.length).map fun j : Nat => y.nu + (j : Int))) (fun u => [some (UJ A), some (.tup [.str (cmW isM), .str x.n, .tup (Jr us), .str y.n]), none, some (Ky y), none, u]) (fun i : Nat => PV.int i) (fun j : Nat => .int (y.nu + (j : Int))) (List.map_map ..).symm (.inl rfl) (fun _ _ => rfl) (by rw [List.length_range]; lia) (fun fr U2 a2 => ?_) fun j _ M hM => ⟨rfl, hM⟩
  refine Jm a2.me (Jf (Jj (by rw [Js, List.length_map, List.length_range]; lia)) ?_)
  have q := k _ a2.gw
  unfold news at q
  exact q
 a := fun {n0 S d U Q E} h k1 k2 => by
  refine F_w (P := Pz S) rfl ⟨rfl, by decide⟩ ?_
  refine Oj (sh := [116, 117, 116]) (by cases isM; exact sh8.2.2.2.2.2.2.1; exact sh8.2.2.2.2.2.2.2) (show (true && (true && (US (.tup (Jr us)) && (true && true)))) = true by rw [UR]; rfl) (JM Zk (JM (Ge (by lia)) (JM Zk Ol))) (by show 3 ≤ 20; decide) fun U1 g1 => ?_
  have fin := copymove_w (S := S) (d := d + 1) (E := E) (Q := Q) (isM := isM) (h.gw g1) I hM hG hx rfl hn hy rfl hm hu hl hus (fun c1 c2 c3 U' A' h' I' e => k1 (fun c => c.elim (Int.not_lt.mpr c1) fun c => c.elim (Int.not_lt.mpr c2) (Int.not_lt.mpr c3)) _ U' A' h' I' e (.inr rfl)) fun c U' g => k2 c U' (g1.trans g)
  refine Jv (by cases isM <;> decide +kernel) (Jv (by cases isM <;> decide +kernel) (Jv (by cases isM <;> decide +kernel) (Jv (by cases isM <;> decide +kernel) (Jv (by cases isM <;> decide +kernel) (Jv (by cases isM <;> decide +kernel) (Jv (by cases isM <;> decide +kernel) ?_))))))
  cases isM with
  | true => exact Jv (by decide +kernel) (OF (by decide +kernel) (OF (by decide +kernel) fin))
  | false => exact OF (by decide +kernel) (Jv (by decide +kernel) fin)
 f := .inr (fun v hv => by
  rcases List.mem_cons.mp hv with rfl | hv
  ·trivial
  rcases List.mem_cons.mp hv with rfl | hv
  ·exact flat_up (n := 2) (by decide) flat_ints
  ·rw [List.mem_singleton.mp hv]; exact flat_up (n := 2) (by decide) flat_ints)
end
noncomputable def RX (M G t : Nat) (A : AS) (row : PV) : Prop := ∃ C giv, RS M G t A row C giv /\ (giv = .none \/ ∃ l, giv = .tup l)
section
variable {S : SY} {M G t d lb c k : Nat} {U : St} {Q : PV -> St -> Prop} {E : Nat -> St -> Prop} {x y : AB} {A : AS}
theorem BoxAt.up {k' : Nat} (h : BoxAt U lb c k) (hk : k ≤ k') : BoxAt U lb c k' := by
 obtain ⟨b, cells, h1, h2, h3, h4, h5, h6, h7, h8⟩ := h
 exact ⟨b, cells, h1, h2, h3, h4, h5, h6, h7, Int.le_trans h8 (Int.ofNat_le.mpr hk)⟩
theorem BoxAt.lt (h : BoxAt U lb c k) : lb < U.length := by
 obtain ⟨b, cells, h1, _⟩ := h
 exact Jc h1
theorem Oy {lim : Int} (h : BoxAt U lb c k) (hk : k ≤ 1000) (h0 : 0 < lim) (h1 : lim < 2 ^ 30)
  (K : ∀ r U', 0 ≤ r -> r < lim -> BoxAt U' lb c (k + 1) -> Kp lb U U' -> Q (.int r) U') : Rn ((tb (Pz S) (d + 1)).F 1 [.loc lb, .int lim] U) Q E :=
 F_of (P := Pz S) rfl (draw_w h (by lia) h0 h1 K)
theorem two_w {a b : PV} (h : BoxAt U lb c k) (hk : k ≤ 1000) (K : ∀ v U', (v = a \/ v = b) -> BoxAt U' lb c (k + 1) -> Kp lb U U' -> Q v U') : ∀ U1, Al (.list [a, b]) U U1 -> Rn ((tb (Pz S) (d + 1)).F 1 [.loc lb, .int 2] U1) (fun i U2 => wSub (.loc U.length) i U2 Q) E := fun U1 a1 => by
 have b1 := h.ext a1.gw
 refine Oy b1 hk (by decide) (by decide) fun r U2 r0 r1 b2 k2 => ?_
 have e2 := k2 _ _ a1.me (Nat.ne_of_gt h.lt)
 refine Jm e2 (JN ⟨r0, by lia⟩ ?_)
 obtain rfl | rfl : r = 0 \/ r = 1 := by lia
 ·exact Jh (a := a) rfl (K a _ (.inl rfl) b2 (a1.gw.kp.trans k2))
 ·exact Jh (a := b) rfl (K b _ (.inr rfl) b2 (a1.gw.kp.trans k2))
theorem intz_drop {us : List Int} {j : Nat} : (Jr us).drop j = Jr (us.drop j) := (List.map_drop ..).symm
theorem some_w {l : Nat} {us : List Int} (h : BoxAt U lb c k) (hk : k ≤ 1000) (hl : U[l]? = some (.list (Jr us))) (hn : us ≠ []) (hm : us.length ≤ 1000) (hne : l ≠ lb) (K : ∀ j U', j < us.length -> BoxAt U' lb c (k + 1) -> Kp lb U U' -> Q (.tup (Jr (us.drop j))) U') : Rn ((tb (Pz S) (d + 2)).F 4 [.loc lb, .loc l] U) Q E := by
 have hp : 0 < us.length := List.length_pos_iff.mpr hn
 refine F_w (P := Pz S) rfl ⟨rfl, by decide⟩ ?_
 refine Jm hl (Jf (Jj (by rw [Js]; lia)) ?_)
 rw [Js]
 refine Oy h hk (Int.natCast_pos.mpr hp) (Int.lt_of_le_of_lt (Int.ofNat_le.mpr hm) (by decide)) fun r U1 r0 r1 b1 k1 => ?_
 refine Jh (a := some r) (if_pos (by lia)) (Jh (a := none) rfl ?_)
 refine Jm (k1 _ _ hl hne) ?_
 refine Jf (Jj (n := (Jr us).length) (by rw [Js]; lia)) fun U2 a2 => ?_
 have e2 := a2.me
 rw [pick_from r0, intz_drop] at e2
 refine Jm e2 (Jf (Jj (by rw [Js, List.length_drop]; exact Nat.le_trans (Nat.sub_le ..) (Nat.le_trans hm (by decide)))) ?_)
 exact K r.toNat _ ((Int.toNat_lt r0).mpr r1) (b1.ext a2.gw) (k1.trans a2.gw.kp)
theorem way_w (h : BoxAt U lb c k) (hk : k ≤ 1000) (K : ∀ w U', w ∈ ways -> BoxAt U' lb c (k + 1) -> Kp lb U U' -> Q (.str w) U') : Rn ((tb (Pz S) (d + 1)).F 1 [.loc lb, .int 3] U) (fun i U2 => wSub (.str (Str.ofString "+-=")) i U2 Q) E := by
 refine Oy h hk (by decide) (by decide) fun r U2 r0 r1 b2 k2 => ?_
 obtain rfl | rfl | rfl : r = 0 \/ r = 1 \/ r = 2 := by lia
 ·exact K _ _ (List.mem_cons_self ..) b2 k2
 ·exact K _ _ (List.mem_cons_of_mem _ (List.mem_cons_self ..)) b2 k2
 ·exact K _ _ (List.mem_cons_of_mem _ (List.mem_cons_of_mem _ (List.mem_cons_self ..))) b2 k2
theorem two_box (I : SI M G t A) {v : PV} (h : v = .str sI \/ v = .str sA) : ∃ x ∈ A.bs, v = .str x.n /\ YQ x.n := by
 rcases h with rfl | rfl
 ·obtain ⟨x, hx, e⟩ := List.mem_map.mp I.i
  exact ⟨x, hx, by rw [e], by rw [e]; exact nmI⟩
 ·obtain ⟨x, hx, e⟩ := List.mem_map.mp I.a
  exact ⟨x, hx, by rw [e], by rw [e]; exact nmA⟩
theorem sz_t : ∀ t ∈ [0, 1, 2, 3, 4], Jp ((Str.ofString "b").length + (UK ((t : Nat) : Int)).length) = true /\ Jp ((Str.ofString "r").length + (UK ((t : Nat) : Int)).length) = true := by decide +kernel
theorem deed_w (nn : (A.bs.map (·.n)).Nodup) (I : SI M G t A) (hb : BoxAt U lb c k) (hk : k ≤ 900) (hM1 : 1 ≤ M) (hM : M ≤ 32) (hG : G ≤ 1000) (ht : t < 5) (K : ∀ row U', RX M G t A row -> BoxAt U' lb c (k + 6) -> Kp lb U U' -> Q row U') : Rn ((tb (Pz S) (d + 3)).F 5 [.loc lb, UJ A, .int t] U) Q E := by
 refine F_w (P := Pz S) rfl ⟨rfl, by decide⟩ ?_
 refine Oy hb (by lia) (by decide) (by decide) fun r U1 r0 r1 b1 k1 => ?_
 refine two_w b1 (by lia) fun v U2 hv b2 k2 => ?_
 obtain ⟨x, hx, rfl, hn⟩ := two_box I hv
 have k2 := k1.trans k2
 have bi := I.b x hx
 have hlen := bi.len
 refine Yx nn hx rfl ?_
 refine OX _ rfl (L := x.ls) (R := Jr (Jz x.ls)) (fun u => [some (.loc lb), some (UJ A), some (.int t), some (.int r), some (.str x.n), none, none, none, none, u]) letT (fun a => .int a.u) (List.map_map ..).symm (.inl rfl) (fun _ _ => rfl) (by lia) (fun fr U3 a3 => ?_) fun a ha M hM => ⟨rfl, hM⟩
 have hul : (Jz x.ls).length ≤ M := by unfold Jz; rw [List.length_map]; exact hlen
 have hup : Up (Jz x.ls) := List.pairwise_map.mpr bi.asc
 have b3 := b2.ext a3.gw
 have k3 := k2.trans a3.gw.kp
 have e3 := a3.me
 have nlb : U2.length ≠ lb := Nat.ne_of_gt b2.lt
 refine YM (fun h6 => ?_) fun h6 => ?_
 ·refine JN ⟨Int.natCast_nonneg _, by lia⟩ ?_
  refine Jf (sz_t t (lt5 ht)).1 ?_
  refine Oy b3 (by lia) (by decide) (by decide) fun q U4 q0 q1 b4 k4 => ?_
  exact K _ _ ⟨_, _, rsCreate (v := A.nv + q) I hM ht (by lia), .inl rfl⟩ (b4.up (by lia)) (k3.trans k4)
 refine YM (fun h7 => ?_) fun h7 => ?_
 ·refine JN ⟨Int.natCast_nonneg _, by lia⟩ ?_
  refine Jf (sz_t t (lt5 ht)).2 ?_
  obtain ⟨z, hz, ez⟩ := List.mem_map.mp I.i
  exact K _ _ ⟨_, _, rsRename I hM hG ht nn hz ez, .inl rfl⟩ (b3.up (by lia)) k3
 have app : ∀ U', BoxAt U' lb c (k + 6) -> Kp lb U U' -> Q (.tup [.str (Str.ofString "append"), .str x.n, .tup [vK], .int t, .bytes #[122]]) U' := fun U' b' k' => K _ _ ⟨_, _, rsAppend I hM hM1 nn hx hn (fun v hv => .inr (List.mem_singleton.mp hv)) (by decide), .inr ⟨_, rfl⟩⟩ b' k'
 refine YM (fun h2 => app _ (b3.up (by lia)) k3) fun h2 => ?_
 refine fun U4 a4 => ?_
 have b4 := b3.ext a4.gw
 have k4 := k3.trans a4.gw.kp
 have e4 := a4.gw _ _ e3
 refine Jh (eq_nil e4 a4.me) ?_
 refine YM (fun he => app _ (b4.up (by lia)) k4) fun he => ?_
 have hu : Jz x.ls ≠ [] := fun q => by rw [q] at he; exact nomatch he
 refine some_w b4 (by lia) e4 hu (by lia) nlb fun j U5 hj b5 k5 => ?_
 have k5 := k4.trans k5
 have us1 : Up ((Jz x.ls).drop j) := hup.sublist (List.drop_sublist ..)
 have us2 : ∀ u ∈ (Jz x.ls).drop j, u ∈ Jz x.ls := fun u hu => List.mem_of_mem_drop hu
 have us3 : ((Jz x.ls).drop j).length ≤ M := by rw [List.length_drop]; exact Nat.le_trans (Nat.sub_le ..) (by assumption)
 have us4 : 0 < ((Jz x.ls).drop j).length := by rw [List.length_drop]; exact Nat.sub_pos_of_lt hj
 generalize (Jz x.ls).drop j = us at us1 us2 us3 us4 ⊢
 refine two_w b5 (by lia) fun v U6 hv b6 k6 => ?_
 have k6 := k5.trans k6
 obtain ⟨f, rfl, f1, f2⟩ : ∃ f, v = .tup f /\ (∀ v ∈ f, Fl2 v) /\ f.length ≤ 1000 := by
  rcases hv with rfl | rfl
  ·exact ⟨[], rfl, fun _ q => (nomatch q), by decide⟩
  ·exact ⟨[vK], rfl, fun v hv => .inr (List.mem_singleton.mp hv), by decide⟩
 refine YM (fun h => ?_) fun h => ?_
 ·cases us with
  | nil => exact nomatch us4
  | cons u us =>
   refine Jh sub0 ?_
   exact K _ _ ⟨_, _, rsFlags I hM nn hx hn f1 f2 (us2 u List.mem_cons_self), .inl rfl⟩ (b6.up (by lia)) k6
 refine YM (fun h => ?_) fun h => ?_
 ·refine way_w b6 (by lia) fun w U7 hw b7 k7 => ?_
  exact K _ _ ⟨_, _, rsStore I hM nn hx hn f1 f2 us1 us2 us3 hw, .inl rfl⟩ (b7.up (by lia)) (k6.trans k7)
 refine YM (fun h => ?_) fun h => ?_
 ·exact K _ _ ⟨_, _, rsExpunge I hM hG nn hx hn us1 us3, .inl rfl⟩ (b6.up (by lia)) k6
 refine two_w b6 (by lia) fun v U7 hv b7 k7 => ?_
 refine two_w b7 (by lia) fun v' U8 hv' b8 k8 => ?_
 obtain ⟨y, hy, rfl, hm⟩ := two_box I hv'
 obtain ⟨isM, rfl⟩ : ∃ isM, v = .str (cmW isM) := by
  rcases hv with rfl | rfl
  ·exact ⟨false, rfl⟩
  ·exact ⟨true, rfl⟩
 exact K _ _ ⟨_, _, rsCopy I hM hG nn hx hn hy hm us1 us3 us2, .inr ⟨_, rfl⟩⟩ (b8.up (by lia)) ((k6.trans k7).trans k8)
end
noncomputable def ls2 (l1 l2 : Nat) : List AL := [⟨l1, 1, .bytes #[120], [], .int 0, 2⟩, ⟨l2, 5, .bytes #[121], [vS], .int (-7), 9⟩]
noncomputable def bx (b ll lg l1 l2 : Nat) (n : Str) (v nu top : Int) : AB := ⟨b, ll, lg, n, v, nu, top, 0, ls2 l1 l2, []⟩
noncomputable def sb (n : Str) (v nu top : Int) : PV := Ky (bx 0 0 0 0 0 n v nu top)
theorem good0 : GoodF [] /\ GoodF [vS] := ⟨by constructor, by constructor⟩
theorem ls2_ok {l1 l2 : Nat} {top : Int} (h : 9 ≤ top) : ∀ a ∈ ls2 l1 l2, LOk top a := fun a ha => by
 rcases List.mem_cons.mp ha with rfl | ha
 ·exact ⟨by show (2 : Int) ≤ top; lia, good0.1, ⟨_, rfl⟩, ⟨_, rfl⟩⟩
 ·rw [List.mem_singleton.mp ha]; exact ⟨h, good0.2, ⟨_, rfl⟩, ⟨_, rfl⟩⟩
section
variable {α : Type} {body : PV -> α -> St -> R (Sum α PV)} {N : α -> St -> Prop} {K : PV -> St -> Prop} {E : Nat -> St -> Prop} {a : α} {U : St}
theorem lpC {x : PV} {xs : List PV} (h : Rn (body x a U) (fun r U' => JP r (fun a' => Rn (Jy body (.imm xs) a' U') (fun r U => JP r (fun a => N a U) fun v => K v U) E) fun v => K v U') E) : Rn (Jy body (.imm (x :: xs)) a U) (fun r U => JP r (fun a => N a U) fun v => K v U) E := by
 refine .bind' h fun r U h => ?_
 cases r with
 | inl a => exact h
 | inr v => exact h
theorem lpM {x : PV} {xs : List PV} (h : ∀ M : α -> St -> Prop, (∀ a U, Rn (Jy body (.imm xs) a U) (fun r U => JP r (fun a => N a U) fun v => K v U) E -> M a U) -> Rn (body x a U) (fun r U' => JP r (fun a' => M a' U') fun v => K v U') E) : Rn (Jy body (.imm (x :: xs)) a U) (fun r U => JP r (fun a => N a U) fun v => K v U) E := lpC (h _ fun _ _ h => h)
theorem lpN (h : N a U) : Rn (Jy body (.imm []) a U) (fun r U => JP r (fun a => N a U) fun v => K v U) E := h
theorem lp0 {l : Nat} (h : U[l]? = some (.list [])) (k : N a U) : Rn (Jy body (.lst l) a U) (fun r U => JP r (fun a => N a U) fun v => K v U) E :=
 lpL (fun rest a' U' => rest = [] /\ a' = a /\ U' = U) l (by decide) ⟨rfl, rfl, rfl⟩ (fun _ _ _ q => q.2.2 ▸ h) (fun _ _ q => q.2.1 ▸ q.2.2 ▸ k) (fun _ _ _ _ q => nomatch q.1)
end
section
variable {S : SY} {d b ll lg l1 l2 : Nat} {n : Str} {v nu top nv : Int} {U : St} {Q : PV -> St -> Prop} {E : Nat -> St -> Prop}
theorem Gs {a : AL} (h : LOk top a) (K : ∀ U', Gw U U' -> Q (.bool true) U') : Rn ((tb (Pz S) (d + 2)).F 62 [letT a] U) Q E := by
 obtain ⟨l, u, o, f, i, m⟩ := a
 obtain ⟨b, rfl⟩ : ∃ b, o = .bytes b := h.o
 obtain ⟨k, rfl⟩ : ∃ k, i = .int k := h.i
 have hg : GoodF f := h.f
 have hf : OK (.tup f) = true := ZY hg.fl
 have hp : Pl2 U (.tup f) := pl2_fl hg.fl (by cases hg <;> decide)
 refine F_w (P := Pz S) rfl ⟨rfl, by decide⟩ ?_
 refine texts_w std hp fun U1 g1 => ?_
 rw [hf]
 exact K _ g1
theorem isbox_w (K : ∀ U', Gw U U' -> Q (.bool true) U') : Rn ((tb (Pz S) (d + 3)).F 63 [sb n v nu top] U) Q E := by
 refine F_w (P := Pz S) rfl ⟨rfl, by decide⟩ ?_
 refine nums_w (v := .tup [.int v, .int nu, .int top, .int 0]) std ⟨rfl, fun ws e => by cases e; exact ⟨by show 4 ≤ 1000; decide, fun w hw => by
  rcases List.mem_cons.mp hw with rfl | hw
  ·rfl
  rcases List.mem_cons.mp hw with rfl | hw
  ·rfl
  rcases List.mem_cons.mp hw with rfl | hw
  ·rfl
  rw [List.mem_singleton.mp hw]; rfl⟩⟩ fun U1 g1 => ?_
 refine lpC (ZD (Jh rfl ?_))
 refine Gs (a := ⟨0, 1, .bytes #[120], [], .int 0, 2⟩) (top := 2) ⟨Int.le_refl _, good0.1, ⟨_, rfl⟩, ⟨_, rfl⟩⟩ fun U2 g2 => ?_
 refine lpC (ZD (Jh rfl ?_))
 refine Gs (a := ⟨0, 5, .bytes #[121], [vS], .int (-7), 9⟩) (top := 9) ⟨Int.le_refl _, good0.2, ⟨_, rfl⟩, ⟨_, rfl⟩⟩ fun U3 g3 => ?_
 refine fun U4 a4 => ?_
 refine Jm a4.me ?_
 refine fun U5 a5 => ?_
 refine Jm a5.me ?_
 exact K _ ((((g1.trans g2).trans g3).trans a4.gw).trans a5.gw)
theorem remade_w (K : ∀ b ll lg l1 l2 U', Gw U U' -> BoxR U' (bx b ll lg l1 l2 n v nu top) -> U.length ≤ b -> U.length ≤ ll -> U.length ≤ lg -> Q (.loc b) U') : Rn ((tb (Pz S) (d + 2)).F 29 [sb n v nu top] U) Q E := by
 refine F_w (P := Pz S) rfl ⟨rfl, by decide⟩ ?_
 refine Jh rfl fun U1 a1 => ?_
 refine ZE a1.me fun ll lg U2 k2 hx f1 f2 => ?_
 have nb : ∀ {i : Nat} {o : PO}, U[i]? = some o -> i ≠ U.length := fun e => Nat.ne_of_lt (Jc e)
 have h2 : U2[U.length]? = some (boxO (Gk U.length ll lg n v)) := hx.o
 refine Jd h2 fun U3 t3 => ?_
 have h3 := t3.me _ h2
 refine Jd h3 fun U4 t4 => ?_
 have h4 := t4.me _ h3
 refine Jd h4 fun U5 t5 => ?_
 have h5 := t5.me _ h4
 refine lpC (ZD (Jh rfl ?_))
 refine Jh rfl fun U6 a6 => ?_
 refine Uq a6.me fun U7 t7 => ?_
 have e7 := t7.me _ a6.me
 refine lpC (ZD (Jh rfl ?_))
 refine Jh rfl fun U8 a8 => ?_
 refine Uq a8.me fun U9 t9 => ?_
 have e9 := t9.me _ a8.me
 have m1 : U5.length ≠ U7.length := Nat.ne_of_lt (Jc e7)
 have e7' := t9.ne _ _ m1 (a8.gw _ _ e7)
 have lb := Jc h5
 have u1 : U5.length ≠ U.length := Nat.ne_of_gt lb
 have lb7 : U.length < U7.length := by rw [t7.len, a6.len]; lia
 have u2 : U7.length ≠ U.length := Nat.ne_of_gt lb7
 have h9 := t9.ne _ _ u2.symm (a8.gw _ _ (t7.ne _ _ u1.symm (a6.gw _ _ h5)))
 refine fun U10 a10 => ?_
 have h10 := a10.gw _ _ h9
 have u3 : U9.length ≠ U.length := Nat.ne_of_gt (Jc h9)
 refine Jd h10 fun U11 t11 => ?_
 have h11 := t11.me _ h10
 refine fun U12 a12 => ?_
 have h12 := a12.gw _ _ h11
 have u4 : U11.length ≠ U.length := Nat.ne_of_gt (Jc h11)
 refine Jd h12 fun U13 t13 => ?_
 have up : ∀ (i : Nat) (o : PO), U9[i]? = some o -> i ≠ U.length -> U13[i]? = some o := fun i o e n => t13.ne _ _ n (a12.gw _ _ (t11.ne _ _ n (a10.gw _ _ e)))
 have gw : Gw U U13 := fun i o e => up i o (t9.ne _ _ (Nat.ne_of_lt (Nat.lt_trans (Jc e) lb7)) (a8.gw _ _ (t7.ne _ _ (Nat.ne_of_lt (Nat.lt_trans (Jc e) lb)) (a6.gw _ _ (t5.ne _ _ (nb e) (t4.ne _ _ (nb e) (t3.ne _ _ (nb e) (k2 _ _ (a1.gw _ _ e) (nb e))))))))) (nb e)
 have l10 : U11.length = U9.length + 1 := by rw [t11.len, a10.len]
 have lt9 := Jc h9
 refine K U.length U9.length U11.length U5.length U7.length U13 gw ⟨t13.me _ h12, t13.ne _ _ u3 (a12.gw _ _ (t11.ne _ _ u3 a10.me)), t13.ne _ _ u4 a12.me, fun a ha => ?_, by show U9.length ≠ U11.length; lia⟩ (Nat.le_refl _) (by lia) (by lia)
 rcases List.mem_cons.mp ha with rfl | ha
 ·exact up _ _ e7' u1
 ·rw [List.mem_singleton.mp ha]; exact up _ _ e9 u2
theorem eq_ints {l m : Nat} {us : List Int} (hl : U[l]? = some (.list (Jr us))) (hm : U[m]? = some (.list (Jr us))) : eqv U JL (.loc l) (.loc m) = some true := by
 show eqLs _ U[l]? U[m]? = _
 rw [hl, hm]
 show (if ((Jr us).length == (Jr us).length) = true then ZH _ _ _ else _) = _
 rw [beq_self_eq_true, if_pos rfl]
 refine flat_eqz (U := U) fun x hx => KK (n := 15) ?_
 obtain ⟨u, _, rfl⟩ := List.mem_map.mp hx
 trivial
theorem dk_w {a0 a1 a2 a3 a4 a5 : Option PV} {l k : Nat} {us : List Int} {N : Fr × List (PV × PV) -> St -> Prop} {K : PV -> St -> Prop} (hu : Up us) (e0 : U[l]? = some (.list (Jr us))) (hn : us.length ≤ 60) (h : ∀ fr, N (fr, wd us) U) :
  Rn (Jy (Jq (evC (tb (Pz S) d) (k + 10)) (emD (evE (tb (Pz S) d) (k + 10)) (.var 7) (.cst (.bool true))) [7] false []) (.lst l) ([a0, a1, a2, a3, a4, a5, none, none], []) U) (fun r U => JP r (fun p => N p U) fun v => K v U) E := by
 refine lpL (fun rest p U' => U' = U /\ ∃ u ds rs, p = ([a0, a1, a2, a3, a4, a5, none, u], wd ds) /\ rest = Jr rs /\ us = ds ++ rs) l (by rw [Js]; lia) ⟨rfl, none, [], us, rfl, rfl, rfl⟩ (by rintro _ _ _ ⟨rfl, _⟩; exact e0) ?_ ?_ (xs := Jr us)
 ·rintro _ _ ⟨rfl, u, ds, rs, rfl, e, hd⟩
  have e := JV e
  subst e
  rw [List.append_nil] at hd
  rw [← hd]; exact h _
 ·rintro _ _ _ _ ⟨rfl, u, ds, rs, rfl, e, rfl⟩ M hM
  obtain ⟨r, rs', rfl, rfl, rfl⟩ := map_cons e
  rw [List.length_append] at hn
  refine cmpd_w (Jh rfl ?_)
  refine JN ⟨Zr _ _, by rw [UG]; lia⟩ ?_
  exact hM _ _ ⟨rfl, _, ds ++ [r], rs', congrArg _ (wd_set r ds hu.mid), rfl, by rw [List.append_assoc]; rfl⟩
end
section
variable {S : SY} {d b ll lg l1 l2 : Nat} {n : Str} {v nu top nv : Int} {U : St} {Q : PV -> St -> Prop} {E : Nat -> St -> Prop}
theorem up15 : Up [1, 5] /\ Up [2, 9] := by unfold Up; decide
theorem sound_w (h : BoxR U (bx b ll lg l1 l2 n v nu top)) (hnu : 5 < nu) (htop : 9 ≤ top) (K : ∀ U', Gw U U' -> Q (.bool true) U') : Rn ((tb (Pz S) (d + 2)).F 38 [.loc b] U) Q E := by
 refine F_w (P := Pz S) rfl ⟨rfl, by decide⟩ ?_
 refine Jd h.o (Jh rfl ?_)
 refine uids_w h (by show 2 ≤ 1000; decide) fun l U1 g1 e1 => ?_
 have e1 : U1[l]? = some (.list (Jr [1, 5])) := e1
 refine Jm e1 (JN (by decide) (Jh (Kz up15.1) fun U2 a2 => ?_))
 have e2 := a2.gw _ _ e1
 refine Jh (eq_ints e2 a2.me) ?_
 refine Jm e2 ?_
 refine dk_w up15.1 e2 (by decide) fun fr => ?_
 refine fun U3 a3 => ?_
 refine YE a3.me ?_
 have e3 := a3.gw _ _ e2
 refine Jm e3 ?_
 have h3 := h.gw ((g1.trans a2.gw).trans a3.gw)
 refine Jm e3 ?_
 refine lc0_w _ rfl (L := ([1, 5] : List Int)) (fun u => [some (.loc b), some (.loc l), none, none, none, none, none, u]) .int (.inr ⟨_, rfl, e3⟩) (fun _ _ => rfl) (by decide) (fun fr => ?_) fun r hr => hv ?_
 rotate_left
 ·have r1 : 1 ≤ r /\ r < nu := by
   rcases List.mem_cons.mp hr with rfl | hr
   ·lia
   ·rw [List.mem_singleton.mp hr]; lia
  refine Yr (decide_eq_true r1.1) ?_
  exact Jd h3.o (JG (congrArg (!·) (decide_eq_true r1.2)) rfl)
 refine fun U4 a4 U5 a5 => ?_
 refine Jh (eq_nil (a5.gw _ _ a4.me) a5.me) ?_
 have h5 := h3.gw (a4.gw.trans a5.gw)
 refine Jd h5.o (Jm h5.l ?_)
 refine OX _ rfl (L := ls2 l1 l2) (fun u => [some (.loc b), some (.loc l), none, none, none, none, none, u]) (fun a => .loc a.l) (fun a => .int a.m) rfl (.inr ⟨_, rfl, h5.l⟩) (fun _ _ => rfl) (show 2 < 2000 by decide) (fun fr U6 a6 => ?_) fun a ha M hM => hv (Jd (h5.a a ha) (Jf rfl ⟨rfl, hM⟩))
 have e6 : U6[U5.length]? = some (.list (Jr [2, 9])) := a6.me
 have h6 := h5.gw a6.gw
 have g6 := (((((g1.trans a2.gw).trans a3.gw).trans a4.gw).trans a5.gw).trans a6.gw)
 clear a6
 generalize U5.length = l' at e6 ⊢
 refine Jm e6 ?_
 refine dk_w up15.2 e6 (by decide) fun fr => ?_
 refine fun U7 a7 => ?_
 refine YE a7.me ?_
 have e7 := a7.gw _ _ e6
 refine Jm e7 ?_
 have h7 := h6.gw a7.gw
 refine Jm e7 ?_
 refine lc0_w _ rfl (L := ([2, 9] : List Int)) (fun u => [some (.loc b), some (.loc l), none, some (.loc l'), none, none, none, u]) .int (.inr ⟨_, rfl, e7⟩) (fun _ _ => rfl) (by decide) (fun fr => ?_) fun r hr => hv ?_
 rotate_left
 ·have r1 : 1 < r /\ r ≤ top := by
   rcases List.mem_cons.mp hr with rfl | hr
   ·lia
   ·rw [List.mem_singleton.mp hr]; lia
  refine Yr (decide_eq_true r1.1) ?_
  exact Jd h7.o (JG (congrArg (!·) (decide_eq_true r1.2)) rfl)
 refine fun U8 a8 U9 a9 => ?_
 refine Jh (eq_nil (a9.gw _ _ a8.me) a9.me) ?_
 have h9 := h7.gw (a8.gw.trans a9.gw)
 refine Jd h9.o (Jd h9.o (Jm h9.g ?_))
 refine lp0 h9.g ?_
 refine Jd h9.o (Jd h9.o ?_)
 show Q (.bool (decide (0 ≤ top))) U9
 rw [decide_eq_true (show 0 ≤ top by lia)]
 exact K _ (((g6.trans a7.gw).trans a8.gw).trans a9.gw)
theorem Kf (h : BoxR U (bx b ll lg l1 l2 n v nu top)) (hn : YQ n) (v1 : 1 ≤ v) (v2 : v < nv) (hnu : 5 < nu) (hnu2 : nu ≤ 4294967295 + 1) (htop : 9 ≤ top) (ht2 : top ≤ 9223372036854775807) (K : ∀ U', Gw U U' -> Q .none U') : Rn ((tb (Pz S) (d + 5)).F 64 [.loc b, .int nv] U) Q E := by
 refine F_w (P := Pz S) rfl ⟨rfl, by decide⟩ ?_
 refine Jd h.o ?_
 refine UN hn fun U1 g1 => ?_
 have h1 := h.gw g1
 refine Jd h1.o (OF (beq_self_eq_true n) ?_)
 refine Jd h1.o ?_
 refine Yr (decide_eq_true v1) ?_
 refine JG (congrArg (!·) (decide_eq_true v2)) ?_
 refine sound_w h1 hnu htop fun U2 g2 => ?_
 have h2 := h1.gw g2
 refine Jd h2.o (Jm h2.l ?_)
 refine lpL (fun rest fr U' => Gw U2 U' /\ ∃ u rs, fr = [some (.loc b), some (.int nv), u] /\ rest = Og rs /\ ∀ a ∈ rs, a ∈ ls2 l1 l2) ll (show 2 < 2000 by decide) ⟨.refl, none, ls2 l1 l2, rfl, rfl, fun _ q => q⟩ (by rintro _ _ _ ⟨g, _⟩; exact g _ _ h2.l) ?_ ?_ (xs := Og (ls2 l1 l2))
 ·rintro _ U3 ⟨g3, u, rs, rfl, _⟩
  have h3 := h2.gw g3
  refine Jd h3.o ?_
  refine JG (decide_eq_false (show ¬ nu > 4294967295 + 1 by lia)) ?_
  refine Jd h3.o ?_
  refine JG (decide_eq_false (show ¬ top > 9223372036854775807 by lia)) ?_
  exact K _ ((g1.trans g2).trans g3)
 ·rintro _ _ _ U3 ⟨g3, u, rs, rfl, e, ha⟩ M hM
  obtain ⟨a, rs', rfl, rfl, rfl⟩ := map_cons e
  have hm := ha a List.mem_cons_self
  have ok := (ls2_ok htop a hm).f
  have h3 := h2.gw g3
  refine Yb ?_
  refine Jd (h3.a a hm) ?_
  refine Yi ok.fl fun g U4 g4 _ hg => ?_
  obtain rfl := hg ok
  refine Jd ((h3.gw g4).a a hm) ?_
  refine Jh (KK (n := 16) (v := .tup a.f) fun v hv => ?_) ?_
  ·rcases ok.fl v hv with rfl | rfl <;> trivial
  exact hM _ _ ⟨g3.trans g4, _, rs', rfl, rfl, fun k q => ha k (List.mem_cons_of_mem _ q)⟩
end
section
variable {S : SY} {d st : Nat} {nv nu1 nu2 top1 top2 : Int} {U : St} {Q : PV -> St -> Prop} {E : Nat -> St -> Prop}
theorem storeinit_w (h : U[st]? = some (.inst 2 [])) (K : ∀ l m U', Kp st U U' -> U'[st]? = some (.inst 2 [(12, .loc l), (13, .loc m), (14, .int 2)]) -> Q .none U') : Rn ((tb (Pz S) (d + 2)).F 12 [.loc st] U) Q E := by
 refine F_w (P := Pz S) rfl ⟨rfl, by decide⟩ ?_
 refine Jh rfl fun U1 a1 => ?_
 refine ZE a1.me fun ll lg U2 k2 hx f1 f2 => ?_
 have k12 : Gw U U2 := fun i o e => k2 i o (a1.gw _ _ e) (Nat.ne_of_lt (Jc e))
 refine Jh rfl fun U3 a3 => ?_
 have h3 := a3.gw _ _ (k12 _ _ h)
 refine Jd h3 fun U4 t4 => ?_
 have h4 := t4.me _ h3
 refine fun U5 a5 => ?_
 have h5 := a5.gw _ _ h4
 refine Jd h5 fun U6 t6 => ?_
 have h6 := t6.me _ h5
 refine Jd h6 fun U7 t7 => ?_
 exact K _ _ U7 (((((k12.trans a3.gw).kp.trans t4.kp).trans a5.gw.kp).trans t6.kp).trans t7.kp) (t7.me _ h6)
theorem sIA : (sI == sA) = false /\ (sA == sI) = false := by decide +kernel
theorem bi_bx {b ll lg l1 l2 : Nat} {n : Str} {v nu top : Int} (h1 : 5 < nu) (h2 : nu ≤ 4294967295 + 1) (h3 : 9 ≤ top) (h4 : top ≤ 9223372036854775807) (h5 : v < nv) : BI 2 0 nv (bx b ll lg l1 l2 n v nu top) where
 asc := (List.pairwise_map (f := fun a : AL => a.u) (l := ls2 l1 l2) (R := (· < ·))).mp up15.1
 lt := fun a ha => by
  rcases List.mem_cons.mp ha with rfl | ha
  ·show (1 : Int) < nu; lia
  ·rw [List.mem_singleton.mp ha]; exact h1
 ok := ls2_ok h3
 gn := fun _ q => nomatch q
 nu := h2
 top := h4
 v := h5
 len := Nat.le_refl 2
 gl := Nat.le_refl 0
theorem restore_w {ld0 sub0 : Nat} (h0 : U[st]? = some (.inst 2 [(12, .loc ld0), (13, .loc sub0), (14, .int 2)])) (n1 : 5 < nu1) (n2 : nu1 ≤ 4294967295 + 1) (m1 : 5 < nu2) (m2 : nu2 ≤ 4294967295 + 1)
  (t1 : 9 ≤ top1) (t2 : top1 ≤ 9223372036854775807) (s1 : 9 ≤ top2) (s2 : top2 ≤ 9223372036854775807) (v1 : 2 < nv) (v2 : nv ≤ 4294967295)
  (K : ∀ A U', StR ⟨U.length, fun _ => none⟩ U' A -> SI 2 0 0 A -> A.st = st -> Kp st U U' -> Q (.int 2) U') : Rn ((tb (Pz S) (d + 6)).F 65 [.loc st, .int nv, .tup [], .tup [sb sI 1 nu1 top1, sb sA 2 nu2 top2]] U) Q E := by
 refine F_w (P := Pz S) rfl ⟨rfl, by decide⟩ ?_
 refine fun U1 a1 U2 a2 => ?_
 have l1 : U1.length = U.length + 1 := a1.len
 have l2 : U2.length = U.length + 2 := by rw [a2.len, l1]
 have d2 : U2[U.length]? = some (.dict []) := a2.gw _ _ a1.me
 have w2 : U2[U1.length]? = some (.dict []) := a2.me
 have g2 := a1.gw.trans a2.gw
 refine lpM fun M hM => Yb ?_
 refine isbox_w fun U3 g3 => ?_
 refine remade_w fun b ll lg la lb U4 g4 hB f1 f2 f3 => ?_
 refine Kf hB nmI (by decide) (by lia) n1 n2 t1 t2 fun U5 g5 => ?_
 have g25 := (g3.trans g4).trans g5
 have hB := hB.gw g5
 have L3 := g3.len
 have d5 := g25 _ _ d2
 have w5 := g25 _ _ w2
 refine Jd hB.o (YE d5 ?_)
 refine Jd hB.o (YE w5 ?_)
 refine Jd hB.o (YE d5 fun U6 t6 => ?_)
 have hb1 := Jc hB.o
 have q1 : b ≠ U.length := by lia
 have q2 : b ≠ U1.length := by lia
 have q3 : U1.length ≠ U.length := by lia
 have o6 := t6.ne _ _ q1 hB.o
 have w6 := t6.ne _ _ q3 w5
 have d6 : U6[U.length]? = some (.dict [(.str sI, .loc b)]) := t6.me _ d5
 refine Jd o6 (YE w6 fun U7 t7 => ?_)
 have w7 : U7[U1.length]? = some (.dict [(.int 1, .bool true)]) := t7.me _ w6
 have d7 := t7.ne _ _ q3.symm d6
 have B7 : BoxR U7 (bx b ll lg la lb sI 1 nu1 top1) := hB.keep2 fun i o e _ _ hd => t7.ne _ _ (fun q => by subst q; rw [w5] at e; exact hd _ (Option.some.inj e).symm) (t6.ne _ _ (fun q => by subst q; rw [d5] at e; exact hd _ (Option.some.inj e).symm) e)
 have L7 : U5.length = U7.length := by rw [t7.len, t6.len]
 have up7 : ∀ (i : Nat) (o : PO), U2[i]? = some o -> i ≠ U.length -> i ≠ U1.length -> U7[i]? = some o := fun i o e z1 z2 => t7.ne _ _ z2 (t6.ne _ _ z1 (g25 _ _ e))
 have B7l : ll < U7.length := Jc B7.l
 have B7g : lg < U7.length := Jc B7.g
 have B7o : b < U7.length := Jc B7.o
 have w3 : U.length + 2 ≤ U3.length := l2 ▸ L3
 have z3 : U.length + 2 ≤ b /\ U.length + 2 ≤ ll /\ U.length + 2 ≤ lg := ⟨Nat.le_trans w3 f1, Nat.le_trans w3 f2, Nat.le_trans w3 f3⟩
 refine hM _ _ (lpM fun M2 hM2 => Yb ?_)
 refine isbox_w fun U8 g8 => ?_
 refine remade_w fun b' ll' lg' la' lb' U9 g9 hC e1 e2 e3 => ?_
 refine Kf hC nmA (by decide) (by lia) m1 m2 s1 s2 fun U10 g10 => ?_
 have g70 := (g8.trans g9).trans g10
 have hC := hC.gw g10
 have L8 := g8.len
 have d10 := g70 _ _ d7
 have z8 : U7.length ≤ b' /\ U7.length ≤ ll' /\ U7.length ≤ lg' := ⟨Nat.le_trans L8 e1, Nat.le_trans L8 e2, Nat.le_trans L8 e3⟩
 have sl : U.length ≤ ll := Nat.le_trans (Nat.le_add_right _ 2) z3.2.1
 have sg : U.length ≤ lg := Nat.le_trans (Nat.le_add_right _ 2) z3.2.2
 have w10 := g70 _ _ w7
 refine Jd hC.o (YE d10 ?_)
 have no1 : (dget (.str sA) [(.str sI, .loc b)]).isSome = false := by
  show (if (sI == sA) = true then some (PV.loc b) else none).isSome = false
  rw [sIA.1]; rfl
 refine Jd hC.o (YE w10 ?_)
 refine Jd hC.o (YE d10 (JN ⟨rfl, show 1 ≤ 100000 by decide⟩ fun U11 t11 => ?_))
 have q1' : b' ≠ U.length := by lia
 have q2' : b' ≠ U1.length := by lia
 have o11 := t11.ne _ _ q1' hC.o
 have w11 := t11.ne _ _ q3 w10
 have d11 := t11.me _ d10
 have set2 : Ob (.str sA) (.loc b') [(.str sI, .loc b)] = [(.str sI, .loc b), (.str sA, .loc b')] := by
  show (if (sI == sA) = true then _ else (PV.str sI, PV.loc b) :: _) = _
  rw [sIA.1]; rfl
 rw [show Ob (PV.str (bx b' ll' lg' la' lb' sA 2 nu2 top2).n) (.loc b') [(.str sI, .loc b)] = _ from set2] at d11
 refine Jd o11 (YE w11 fun U12 t12 => ?_)
 have d12 := t12.ne _ _ q3.symm d11
 have C12 : BoxR U12 (bx b' ll' lg' la' lb' sA 2 nu2 top2) := hC.keep2 fun i o e _ _ hd => t12.ne _ _ (fun q => by subst q; rw [w10] at e; exact hd _ (Option.some.inj e).symm) (t11.ne _ _ (fun q => by subst q; rw [d10] at e; exact hd _ (Option.some.inj e).symm) e)
 have B12 : BoxR U12 (bx b ll lg la lb sI 1 nu1 top1) := (B7.gw g70).keep2 fun i o e _ _ hd => t12.ne _ _ (fun q => by subst q; rw [w10] at e; exact hd _ (Option.some.inj e).symm) (t11.ne _ _ (fun q => by subst q; rw [d10] at e; exact hd _ (Option.some.inj e).symm) e)
 have up12 : ∀ (i : Nat) (o : PO), U2[i]? = some o -> i ≠ U.length -> i ≠ U1.length -> U12[i]? = some o := fun i o e z1 z2 => t12.ne _ _ z2 (t11.ne _ _ z1 (g70 _ _ (up7 i o e z1 z2)))
 have up : Gw U U12 := fun i o e => up12 i o (g2 _ _ e) (Nat.ne_of_lt (Jc e)) (by have := Jc e; lia)
 have L12 : U10.length = U12.length := by rw [t12.len, t11.len]
 refine hM2 _ _ ?_
 refine YE d12 ?_
 have yes1 : (!(dget (.str sI) [(.str sI, .loc b), (.str sA, .loc b')]).isSome) = false := by
  show (!(if (sI == sI) = true then some (PV.loc b) else _).isSome) = false
  rw [beq_self_eq_true]; rfl
 have h12 := up _ _ h0
 refine Jd h12 ?_
 refine Yr (decide_eq_true (show (2 : Int) ≤ nv by lia)) ?_
 refine JG (congrArg (!·) (decide_eq_true v2)) ?_
 refine fun U13 a13 => ?_
 refine YE a13.me fun U14 a14 => ?_
 refine Jm a14.me fun U15 a15 => ?_
 refine fun U16 a16 => ?_
 refine Jh (eq_nil (a16.gw _ _ a15.me) a16.me) ?_
 have g16 := ((a13.gw.trans a14.gw).trans a15.gw).trans a16.gw
 have h16 := g16 _ _ h12
 have n16 := a16.gw _ _ a15.me
 have d16 := g16 _ _ d12
 refine Jd h16 fun U17 t17 => ?_
 have h17 := t17.me _ h16
 refine Jd h17 fun U18 t18 => ?_
 have h18 := t18.me _ h17
 refine Jd h18 fun U19 t19 => ?_
 have h19 := t19.me _ h18
 have stl := Jc h0
 have sub : U12.length ≤ U14.length := by rw [a14.len, a13.len]; exact Nat.le_add_right _ 2
 have up19 : ∀ (i : Nat) (o : PO), U16[i]? = some o -> i ≠ st -> U19[i]? = some o := fun i o e z => t19.ne _ _ z (t18.ne _ _ z (t17.ne _ _ z e))
 have bs : ∀ y : AB, BoxR U12 y -> y.b ≠ st -> BoxR U19 y := fun y h z => (h.gw g16).keep2 fun i o e _ hc _ => up19 i o e fun w => by
  subst w
  have e' := e.symm.trans h16
  rcases hc 2 _ (Option.some.inj e') with q | q
  ·exact nomatch q
  ·exact z q.symm
 have d19 := up19 _ _ d16 (Nat.ne_of_gt stl)
 refine YE d19 ?_
 have ul := up.len
 have L7' := g70.len
 have ns : U14.length ≠ st := by lia
 have Cl : ll' < U12.length := Jc C12.l
 have Cg : lg' < U12.length := Jc C12.g
 have two : ∀ y ∈ [bx b ll lg la lb sI 1 nu1 top1, bx b' ll' lg' la' lb' sA 2 nu2 top2], y = bx b ll lg la lb sI 1 nu1 top1 \/ y = bx b' ll' lg' la' lb' sA 2 nu2 top2 := fun y hy => (List.mem_cons.mp hy).imp id List.mem_singleton.mp
 refine K ⟨st, U.length, U14.length, nv, [bx b ll lg la lb sI 1 nu1 top1, bx b' ll' lg' la' lb' sA 2 nu2 top2]⟩ U19 ⟨h19, d19, up19 _ _ n16 ns, fun y hy => ?_, ?_, ?_, fun y hy z hz ne => ?_, ?_, fun y hy => ?_, fun _ _ e => nomatch e⟩ ⟨fun y hy => ?_, v2, fun n hn => ?_, List.mem_cons_self .., List.mem_cons_of_mem _ (List.mem_cons_self ..), Nat.le_refl _⟩ rfl fun i o e z => up19 i o (g16 _ _ (up _ _ e)) z
 ·rcases two y hy with rfl | rfl
  ·exact bs _ B12 (Nat.ne_of_gt (Nat.lt_of_lt_of_le stl (Nat.le_trans (Nat.le_add_right _ 2) z3.1)))
  ·exact bs _ C12 (Nat.ne_of_gt (Nat.lt_of_lt_of_le stl (Nat.le_trans (Nat.le_trans (Nat.le_add_right _ 2) z3.1) (Nat.le_trans (Nat.le_of_lt B7o) z8.1))))
 ·exact List.nodup_cons.mpr ⟨fun q => absurd (List.mem_singleton.mp q) (Nat.ne_of_lt (Nat.lt_of_lt_of_le B7o z8.1)), nd1'⟩
 ·exact List.nodup_cons.mpr ⟨fun q => absurd (List.mem_singleton.mp q) (beq_eq_false_iff_ne.mp sIA.1), nd1'⟩
 ·rcases two y hy with rfl | rfl <;> rcases two z hz with rfl | rfl
  ·exact absurd rfl ne
  ·exact ⟨Nat.ne_of_lt (Nat.lt_of_lt_of_le B7l z8.2.1), Nat.ne_of_lt (Nat.lt_of_lt_of_le B7l z8.2.2)⟩
  ·exact ⟨Nat.ne_of_gt (Nat.lt_of_lt_of_le B7l z8.2.1), Nat.ne_of_gt (Nat.lt_of_lt_of_le B7g z8.2.1)⟩
  ·exact absurd rfl ne
 ·show U.length ≤ U14.length
  lia
 ·have s14 : U12.length < U14.length := by rw [a14.len, a13.len]; exact Nat.lt_of_lt_of_le (Nat.lt_succ_self _) (Nat.le_succ _)
  rcases two y hy with rfl | rfl
  ·exact ⟨Nat.ne_of_lt (Nat.lt_trans (Nat.lt_of_lt_of_le B7l (L12 ▸ g70.len)) s14), sl, sg⟩
  ·exact ⟨Nat.ne_of_lt (Nat.lt_trans Cl s14), Nat.le_trans sl (Nat.le_trans (Nat.le_of_lt B7l) z8.2.1), Nat.le_trans sl (Nat.le_trans (Nat.le_of_lt B7l) z8.2.2)⟩
 ·rcases two y hy with rfl | rfl
  ·exact bi_bx n1 n2 t1 t2 (show (1 : Int) < nv by lia)
  ·exact bi_bx m1 m2 s1 s2 (show (2 : Int) < nv by lia)
 ·rcases List.mem_cons.mp hn with rfl | hn
  ·exact .inl rfl
  ·rw [List.mem_singleton.mp hn]; exact .inr (.inl rfl)
end
section
variable {S : SY} {d st lb c k : Nat} {nv nu1 nu2 top1 top2 : Int} {U : St} {Q : PV -> St -> Prop} {E : Nat -> St -> Prop}
theorem BoxAt.to {l : Nat} {U' : St} (h : BoxAt U lb c k) (kp : Kp l U U') (h1 : lb ≠ l) (h2 : c ≠ l) : BoxAt U' lb c k :=
 have ⟨b, cells, e1, e2, h3⟩ := h
 ⟨b, cells, kp _ _ e1 h1, kp _ _ e2 h2, h3⟩
theorem BoxAt.ltc (h : BoxAt U lb c k) : c < U.length :=
 have ⟨b, cells, h1, h2, _⟩ := h
 Jc h2
noncomputable def tv : List Int := [0, 1, 2, 3, 4, 5, 1000000]
noncomputable def tops : List PV := tv.map .int
theorem tops_at {r : Int} (h0 : 0 ≤ r) (h1 : r < 7) : ∃ t : Int, tops[r.toNat]? = some (.int t) /\ 0 ≤ t /\ t ≤ 1000000 := by
 obtain ⟨n, rfl⟩ := Int.eq_ofNat_of_zero_le h0
 have h : n < tv.length := Int.ofNat_lt.mp h1
 refine ⟨tv[n], ?_, (by decide : ∀ t ∈ [(0 : Int), 1, 2, 3, 4, 5, 1000000], 0 ≤ t /\ t ≤ 1000000) _ (List.getElem_mem h)⟩
 show (tv.map PV.int)[n]? = _
 rw [List.getElem?_map, List.getElem?_eq_getElem h]; rfl
noncomputable def sbO (nu top : Int) : Prop := 4294967292 < nu /\ nu ≤ 4294967296 /\ 9223372036853775807 ≤ top /\ top ≤ 9223372036854775807
theorem StR.mono {n n' : Nat} {A : AS} (h : StR ⟨n', fun _ => none⟩ U A) (e : n ≤ n') : StR ⟨n, fun _ => none⟩ U A := ⟨h.o, h.d, h.s, h.b, h.nb, h.nn, h.sep, Nat.le_trans e h.hs, fun x hx => ⟨(h.hl x hx).1, Nat.le_trans e (h.hl x hx).2.1, Nat.le_trans e (h.hl x hx).2.2⟩, fun _ _ e => nomatch e⟩
theorem start_w (h : BoxAt U lb c k) (hk : k ≤ 100) (K : ∀ nv nu1 nu2 top1 top2 U', sbO nu1 top1 -> sbO nu2 top2 -> 4294967293 ≤ nv -> nv ≤ 4294967295 -> BoxAt U' lb c (k + 5) -> Kp lb U U' -> Q (.tup [.str (Str.ofString "snapshot"), .int nv, .tup [], .tup [sb sI 1 nu1 top1, sb sA 2 nu2 top2]]) U') : Rn ((tb (Pz S) (d + 2)).F 2 [.loc lb] U) Q E := by
 refine F_w (P := Pz S) rfl ⟨rfl, by decide⟩ ?_
 refine fun U1 a1 => ?_
 have b1 := h.ext a1.gw
 have r1 := a1.me
 have n1 := h.lt
 have n2 := h.ltc
 have k1 : Kp lb U U1 := a1.gw.kp
 have k1' : ∀ (i : Nat) (o : PO), U[i]? = some o -> i ≠ lb -> U1[i]? = some o := k1
 generalize hl : U.length = l at r1 n1 n2
 have frs : ∀ {i : Nat} {o : PO}, U[i]? = some o -> i ≠ l := fun e => Nat.ne_of_lt (hl ▸ Jc e)
 refine lpM fun M hM => Yb ?_
 refine Oy b1 (by lia) (by decide) (by decide) fun f U2 f0 f1 b2 k2 => ?_
 refine fun U3 a3 => ?_
 have b3 := b2.ext a3.gw
 refine Oy b3 (by lia) (by decide) (by decide) fun r U4 q0 q1 b4 k4 => ?_
 refine Jm (k4 _ _ a3.me (Nat.ne_of_gt b2.lt)) (JN ⟨q0, by lia⟩ ?_)
 obtain ⟨t, ht, t0, t1⟩ := tops_at q0 q1
 refine Jh ht ?_
 have r4 := k4 _ _ (a3.gw _ _ (k2 _ _ r1 (Nat.ne_of_gt n1))) (Nat.ne_of_gt n1)
 refine Jf (UU r4) (Jm r4 fun U5 t5 => ?_)
 have b5 := b4.to t5.kp (Nat.ne_of_lt n1) (Nat.ne_of_lt n2)
 have r5 := t5.me _ r4
 have k5 : Kp lb U U5 := fun i o e z => t5.ne _ _ (frs e) (k4 _ _ (a3.gw _ _ (k2 _ _ (k1 _ _ e z) z)) z)
 refine hM _ _ (lpM fun M2 hM2 => Yb ?_)
 refine Oy b5 (by lia) (by decide) (by decide) fun f' U6 f0' f1' b6 k6 => ?_
 refine fun U7 a7 => ?_
 have b7 := b6.ext a7.gw
 refine Oy b7 (by lia) (by decide) (by decide) fun r' U8 q0' q1' b8 k8 => ?_
 refine Jm (k8 _ _ a7.me (Nat.ne_of_gt b6.lt)) (JN ⟨q0', by lia⟩ ?_)
 obtain ⟨t', ht', t0', t1'⟩ := tops_at q0' q1'
 refine Jh ht' ?_
 have r8 := k8 _ _ (a7.gw _ _ (k6 _ _ r5 (Nat.ne_of_gt n1))) (Nat.ne_of_gt n1)
 refine Jf (UU r8) (Jm r8 fun U9 t9 => ?_)
 have b9 := b8.to t9.kp (Nat.ne_of_lt n1) (Nat.ne_of_lt n2)
 have r9 := t9.me _ r8
 have k9 : Kp lb U U9 := fun i o e z => t9.ne _ _ (frs e) (k8 _ _ (a7.gw _ _ (k6 _ _ (k5 _ _ e z) z)) z)
 refine hM2 _ _ ?_
 refine Oy b9 (by lia) (by decide) (by decide) fun g U10 g0 g1 b10 k10 => ?_
 refine Jm (k10 _ _ r9 (Nat.ne_of_gt n1)) ?_
 exact K (4294967295 - g) (4294967295 + 1 - f) (4294967295 + 1 - f') (9223372036854775807 - t) (9223372036854775807 - t') _ ⟨by lia, by lia, by lia, by lia⟩ ⟨by lia, by lia, by lia, by lia⟩ (by lia) (by lia) b10 (k9.trans k10)
theorem shS : JJ (Str.ofString "snapshot") shapes = some [110, 102, 114] := by decide +kernel
theorem snap_w {ld0 sub0 : Nat} (h0 : U[st]? = some (.inst 2 [(12, .loc ld0), (13, .loc sub0), (14, .int 2)])) (n1 : sbO nu1 top1) (n2 : sbO nu2 top2) (v1 : 4294967293 ≤ nv) (v2 : nv ≤ 4294967295)
  (K : ∀ A U', StR ⟨U.length, fun _ => none⟩ U' A -> SI 2 0 0 A -> A.st = st -> Kp st U U' -> Q (.int 2) U') : Rn ((tb (Pz S) (d + 7)).F 11 [.loc st, .tup [.str (Str.ofString "snapshot"), .int nv, .tup [], .tup [sb sI 1 nu1 top1, sb sA 2 nu2 top2]]] U) Q E := by
 obtain ⟨p1, p2, p3, p4⟩ := n1
 obtain ⟨q1, q2, q3, q4⟩ := n2
 refine F_w (P := Pz S) rfl ⟨rfl, by decide⟩ ?_
 refine Oj shS rfl (JM pl2_i (JM ⟨rfl, fun ws e => by cases e; exact ⟨by decide, fun _ q => nomatch q⟩⟩ (JM ⟨rfl, fun ws e => by
  cases e
  exact ⟨by show 2 ≤ 1000; decide, fun w hw => (List.mem_cons.mp hw).elim (fun q => q ▸ rfl) fun q => List.mem_singleton.mp q ▸ rfl⟩⟩ Ol))) (by show 3 ≤ 20; decide) fun U1 g1 => ?_
 have fin : Rn ((tb (Pz S) (d + 6)).F 65 [.loc st, .int nv, .tup [], .tup [sb sI 1 nu1 top1, sb sA 2 nu2 top2]] U1) Q E := restore_w (g1 _ _ h0) (by lia) (by lia) (by lia) (by lia) (by lia) (by lia) (by lia) (by lia) (by lia) v2 fun A U' hA I e k => K A U' (hA.mono g1.len) I e (g1.kp.trans k)
 refine Jv (by decide +kernel) (Jv (by decide +kernel) (Jv (by decide +kernel) (Jv (by decide +kernel) (Jv (by decide +kernel) (Jv (by decide +kernel) ?_)))))
 exact Jv (by decide +kernel) (Jv (by decide +kernel) (Jv (by decide +kernel) (Jv (by decide +kernel) (Jv (by decide +kernel) (Jv (by decide +kernel) fin)))))
end
section
variable {S : SY} {d lb c k : Nat} {U : St}
structure TI (lb c st n t : Nat) (A : AS) (U : St) : Prop where
 s : StR ⟨n, fun _ => none⟩ U A
 i : SI (2 ^ (t + 1)) (100 * t) t A
 st : A.st = st
 b : BoxAt U lb c (5 + 6 * t)
 lb : lb < n
 c : c < n
theorem BoxAt.same {U' : St} (h : BoxAt U lb c k) (kp : ∀ (i : Nat) (xs : List PV), i = lb \/ i = c -> U[i]? = some (.list xs) -> U'[i]? = some (.list xs)) : BoxAt U' lb c k :=
 have ⟨b, cells, e1, e2, h3⟩ := h
 ⟨b, cells, kp _ _ (.inl rfl) e1, kp _ _ (.inr rfl) e2, h3⟩
theorem pow_le {t : Nat} (h : t < 5) : 2 ^ (t + 1) ≤ 32 /\ 1 ≤ 2 ^ (t + 1) /\ 2 * 2 ^ (t + 1) = 2 ^ (t + 1 + 1) /\ 2 ^ (t + 1 + 1) ≤ 64 := by
 exact (by decide : ∀ t < 5, 2 ^ (t + 1) ≤ 32 /\ 1 ≤ 2 ^ (t + 1) /\ 2 * 2 ^ (t + 1) = 2 ^ (t + 1 + 1) /\ 2 ^ (t + 1 + 1) ≤ 64) t h
noncomputable def isT (v : PV) (U : St) : Prop := v = .bool true
theorem law_w {ns : List Int} (hn : ns.length ≤ 63) : Rn (Yj (tb (Pz S) (d + 10)) f01_66 [.loc 0] [.frz (ns.map .int)]) isT noE := by
 refine fn_w ⟨rfl, by decide⟩ ?_
 refine F_of (P := Pz S) rfl (box_w (ns := ns) rfl (Nat.le_trans hn (by decide)) fun lb c U0 hc hl hB g0 => ?_)
 refine Jh rfl fun U1 a1 => ?_
 refine storeinit_w a1.me fun ld0 sub0 U2 k2 h2 => ?_
 have hst := a1.len
 generalize hs : U0.length = st at *
 have b2 := (hB.ext a1.gw).to k2 (by lia) (by lia)
 refine start_w b2 (by decide) fun nv nu1 nu2 top1 top2 U3 n1 n2 v1 v2 b3 k3 => ?_
 have h3 := k3 _ _ h2 (by lia)
 refine snap_w h3 n1 n2 v1 v2 fun A U4 hA I eA k4 => ?_
 have b4 := b3.to k4 (by lia) (by lia)
 have z1 := b3.lt
 have z2 := b3.ltc
 generalize U3.length = n at hA z1 z2
 refine lpI (fun rest fr U' => ∃ (t : Nat) (A : AS) (u3 u4 u5 u6 u7 : Option PV), fr = [some (.loc 0), some (.loc lb), some (.loc st), u3, u4, u5, u6, u7] /\ rest = (List.range' t (5 - t)).map (fun i : Nat => PV.int i) /\ TI lb c st n t A U') ?_ ?_ ⟨0, A, none, none, none, none, none, rfl, rfl, hA, I, eA, b4, z1, z2⟩
 ·rintro _ _ ⟨t, A, u3, u4, u5, u6, u7, rfl, _⟩
  exact rfl
 ·rintro _ _ _ U5 ⟨t, A, u3, u4, u5, u6, u7, rfl, e, T⟩ M hM
  obtain ⟨j, rs, hj, rfl, rfl⟩ := map_cons e
  have ht : t < 5 := by
   apply Nat.lt_of_not_le
   intro q
   rw [Nat.sub_eq_zero_of_le q] at hj
   exact nomatch hj
  obtain ⟨m, hm⟩ := Nat.exists_eq_add_one.mpr (Nat.sub_pos_of_lt ht)
  rw [hm, List.range'_succ] at hj
  obtain ⟨rfl, rfl⟩ := List.cons.inj hj
  obtain rfl : m = 5 - (t + 1) := by rw [Nat.sub_add_eq, hm]; rfl
  obtain ⟨p1, p2, p3, p4⟩ := pow_le ht
  have eS := T.st
  subst eS
  refine Yb ?_
  refine Jd T.s.o (Jh rfl ?_)
  refine told_w T.s T.i (by lia) (by lia) (by lia) fun U6 g6 => ?_
  have s6 := T.s.gw g6
  have b6 := T.b.ext g6
  refine deed_w s6.nn T.i b6 (by lia) p2 p1 (by lia) ht fun row U7 hR b7 k7 => ?_
  obtain ⟨C, giv, R, hgv⟩ := hR
  have s7 := have ⟨b, cells, e1, _⟩ := b6
   s6.kp e1 T.lb k7
  have fl := told_flat s7 T.i
  have b7 : BoxAt U7 lb c (5 + 6 * (t + 1)) := b7.up (by lia)
  refine R.a s7.withs (fun nc v U8 A' h8 I' eA giv_v => ?_) fun hc U8 g8 => ?_
  ·-- done
   have b8 : BoxAt U8 lb c (5 + 6 * (t + 1)) := b7.same fun i xs hi e => (h8.old i xs (by
    have lt : i < n := hi.elim (fun q => q ▸ T.lb) fun q => q ▸ T.c
    show cond (decide (i < n)) (lsAt U7[i]?) none = some xs
    rw [decide_eq_true lt, e]; rfl)).2
   have h8 := h8.bare
   rw [p3] at I'
   have fin : ∀ U', Gw U8 U' -> TI lb c A.st n (t + 1) A' U' := fun U' g => ⟨h8.gw g, I'.upM (Nat.le_refl _) (by lia), eA, b8.ext g, T.lb, T.c⟩
   have eo : A'.st = A.st := eA
   have tw : ∀ (U' : St), StR ⟨n, fun _ => none⟩ U' A' -> ∀ {S : SY} {d : Nat} {Q : PV -> St -> Prop} {E : Nat -> St -> Prop}, (∀ U'', Gw U' U'' -> Q (UJ A') U'') -> Rn ((tb (Pz S) (d + 3)).F 13 [.loc A.st] U') Q E := fun U' h S d Q E K => eA ▸ told_w h I' (by lia) (by lia) (by lia) K
   refine R.w (fun h => absurd h nc) fun _ => ?_
   refine R.g fun U9 g9 => ?_
   rcases hgv with rfl | ⟨l, rfl⟩
   ·refine Jd (eo ▸ (h8.gw g9).o) (Jh rfl ?_)
    refine tw _ (h8.gw g9) fun U10 g10 => ?_
    refine KQ h8.nn I' (by lia) fun U11 g11 => ?_
    exact hM _ _ ⟨t + 1, A', _, _, _, _, _, rfl, rfl, fin _ ((g9.trans g10).trans g11)⟩
   ·obtain rfl : v = .tup l := giv_v.elim (fun q => nomatch q) id
    have gf : flat 16 (.tup l) := R.f.elim (fun q => nomatch q) id
    refine R.g fun U10 g10 => ?_
    refine Jh (KK gf) ?_
    refine Jd (eo ▸ (h8.gw (g9.trans g10)).o) (Jh rfl ?_)
    refine tw _ (h8.gw (g9.trans g10)) fun U11 g11 => ?_
    refine KQ h8.nn I' (by lia) fun U12 g12 => ?_
    exact hM _ _ ⟨t + 1, A', _, _, _, _, _, rfl, rfl, fin _ (((g9.trans g10).trans g11).trans g12)⟩
  ·refine ⟨rfl, ?_⟩
   have s8 := s7.gw g8
   refine R.w (fun _ => ?_) fun h => absurd hc h
   refine Jd s8.o (Jh rfl ?_)
   refine told_w s8 T.i (by lia) (by lia) (by lia) fun U9 g9 => ?_
   refine Jh (KK fl) ?_
   refine Jd (s8.gw g9).o (Jh rfl ?_)
   refine told_w (s8.gw g9) T.i (by lia) (by lia) (by lia) fun U10 g10 => ?_
   refine KQ s8.nn T.i (by lia) fun U11 g11 => ?_
   have g := ((g8.trans g9).trans g10).trans g11
   exact hM _ _ ⟨t + 1, A, _, _, _, _, _, rfl, rfl, s7.gw g, (T.i.next).upM (by lia) (by lia), rfl, b7.ext g, T.lb, T.c⟩
end
end Mine
namespace Mine
open PySem PySem.W PySem.Spec PyProof.Rows
theorem run01 (ns : List Int) (hn : ¬ (63 : Int) < (ns.length : Int)) : ∃ U', Yj (tb P01 12) f01_66 [.loc 0] [.frz (ns.map .int)] = .ok (.bool true) U' := by
 have h : Rn (Yj (tb P01 (2 + 10)) f01_66 [.loc 0] [.frz (ns.map .int)]) isT noE := law_w (S := sy01) (d := 2) (ns := ns) (by lia)
 cases hm : Yj (tb P01 (2 + 10)) f01_66 [.loc 0] [.frz (ns.map .int)] with
 | ok v U' =>
  rw [hm] at h
  obtain rfl : v = .bool true := h
  exact ⟨U', rfl⟩
 | exc c U' => rw [hm] at h; exact h.elim
 | stuck => rw [hm] at h; exact h.elim
theorem post_true {r : RowW} (h1 : r.returns = .bool) (h2 : r.post = .eq .res (.lit (.bool true))) (a b : List WData) : r.claim.post a (.bool true) b = true := by
 simp [RowW.claim, h1, h2, WShape.has, WShape.arms, WTm.holds, WTm.value, W.same]
set_option tactic.hygienic true in
theorem whole01 : PySem.Challenge.rw_nz0321_01.Holds := by
 w_on
 refine holds_law (by kernel_rfl) fun said => ?_
 refine PySem.W.holds_open (q := KR) (loose := loose01) (Xt := fun s => xlAt KR [] s && recOk PySem.Challenge.rw_nz0321_01.row.toRowW.records s) (XP := XL KR []) (Yf := H01.obs) (Ya := H01.val) (YP := H01.says) (N := 7502) left01 H01.of H01.keeps (fun s e => xl_of s (Bool.and_eq_true_iff.mp e).1) XL.keeps (by rfl) (by rfl) (by rfl) (fun s e => recFacts_of (Bool.and_eq_true_iff.mp e).2) (by rfl) (by first | assumption | decide +kernel) (by decide +kernel) ⟨rfl, rfl, rfl, rfl, rfl, by decide +kernel⟩ ?hw ?hc
 case hw => w_witness2
 case hc =>
  intro w s₀ s₁ mg mb G Y fa o pm cd doc dV kV ho hd hcd hD hmg hg args vals as hpre hlay hrd hwl hlo
  have KX := km_in_of Y
  have X := (Ground.X G).1
  have V := (Ground.X G).2
  refine Ground.open G ?_
  intro T B D TE TW
  try (refine guard_noD D (by decide +kernel) ?_; clear D)
  clear hd
  wrow_args hpre hlay hrd hwl hlo
  rename_i hL _ _ _ hI _ hsz _
  obtain ⟨ol, e1, e2, n, e3⟩ := hL
  have hfa : fa = 586 := by
   have q := mg_of (K := K01 w.params) KX T.g (n := Str.ofString "law") (v := .ref 586) (by kernel_rfl)
   have q2 : mg (Str.ofString "law") = some (.ref fa) := hmg
   rw [q] at q2
   cases q2; rfl
  subst hfa
  have H : Yt s₁ (K01 w.params) mg mb _ ol [] := ⟨T.g, T.b, T.builtins, T.nolimit, KX, e1, e2, ⟨_, _, e3⟩, fun _ h => (nomatch h), frag01_ok _, T.bmain⟩
  obtain ⟨U', hr⟩ := run01 _ hsz
  refine enter_call ?_
  refine codeAny_mono ?_ (fun _ _ g => GoodW.toG g)
  exact fin_one (L := 2 * 12 + 1 + 1) H dat01_ok (Gz _) (KZ _) e3 hI (fok01 H 12) (by decide) hr hg (fun _ _ => rfl) (post_true rfl rfl _ _)
end Mine
theorem PySem.Challenge.cw_nz0321_01_holds : PySem.Challenge.rw_nz0321_01.Holds :=
  Mine.whole01
#print axioms PySem.Challenge.cw_nz0321_01_holds
