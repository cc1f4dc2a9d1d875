import PyProof.Rows.All
import Wide.All
import OpenK.AllK
import Wide.FinOn
import HandS.ForMost
import HandS.Walk
import HandS.Style
import HandS.IsInst
import HandS.Deep
import HandS.TupAny
import HandS.Defaults
import KE.GoesMore
import HandS.Iter
import HandS.CallSlots
import HandS.Codes
import HandS.Words
import HandS.Head0
import HandS.Head1
import HandS.Head2
import HandS.HeadEnd
import HandS.HeadHook1
import HandS.HeadHook2
import HandS.HeadHook4
import KE.KStateDown
import HandS.Ends
import HandS.More
import HandS.WordsExc
import PySem.Challenge.RW_staleornot_k06_word_states
set_option Elab.async false
set_option linter.all false
set_option maxRecDepth 100000
namespace Rc
open PySem

/-- the longest list, tuple, text -/
abbrev Lm : Nat := 16777216

/-- what an object that one slot alone knows holds -/
inductive Ob where
  | lst (xs : List PyData)
  | dct (kvs : List (PyData × PyData))
  | set (xs : List PyData)

/-- a slot: nothing, a value, an object of its own -/
inductive Sl where
  | un
  | v (d : PyData)
  | o (b : Ob)

/-- a result: a value, a new object, the object of a slot -/
inductive R where
  | v (d : PyData)
  | o (b : Ob)
  | s (i : Nat)

abbrev Env := List Sl

structure Xc where
  cls : Nat
  fs : List (Str × PyData)

inductive Out (α : Type) where
  | ok (a : α) (ρ : Env)
  | exc (x : Xc) (ρ : Env)
  | bad

def Out.bind {α β : Type} : Out α → (α → Env → Out β) → Out β
  | .ok a ρ, f => f a ρ
  | .exc x ρ, _ => .exc x ρ
  | .bad, _ => .bad

/-- what a def's call comes to; outs: what the objects hold that it was lent -/
inductive FO where
  | v (d : PyData) (outs : List Ob)
  | o (b : Ob) (outs : List Ob)
  | exc (x : Xc) (outs : List Ob)
  | bad

inductive Bi where
  | len | int_ | abs | list_ | tuple_ | all_ | any_ | min2 | max2 | str_ | sum_ | ord_
  deriving DecidableEq
inductive Pm where
  | join | index
  deriving DecidableEq
inductive Mu where
  | append | pop | popAt | extend
  deriving DecidableEq

inductive Tg where
  | nm (i : Nat)
  | tp (is : List Nat)

mutual
inductive Ex where
  | var (i : Nat)
  | int (n : Int)
  | str (s : Str)
  | bl (b : Bool)
  | non
  | glob (g : Nat)
  | bin (op : Operator) (a b : Ex)
  | neg (a : Ex)
  | nott (a : Ex)
  | and (a b : Ex)
  | or (a b : Ex)
  | cmp (op : CmpOp) (a b : Ex)
  | cmp2 (op op' : CmpOp) (a b c : Ex)
  | ite (c : Ts) (a b : Ex)
  | tup (es : Exs)
  | lst (es : Exs)
  | sub (a i : Ex)
  | slc (a : Ex) (lo hi : Ex)
  | slcL (a lo : Ex)
  | slcH (a hi : Ex)
  | rev (a : Ex)
  | call (f : Nat) (es : Exs)
  | bi (b : Bi) (es : Exs)
  | isi (a : Ex) (t : String)
  | pm (m : Pm) (a : Ex) (es : Exs)
  | mu (m : Mu) (i : Nat) (es : Exs)
  | comp (elt : Ex) (tg : Tg) (it : It) (ifs : Tss) (own : List Nat)
inductive Exs where
  | nil
  | cons (e : Ex) (es : Exs)
inductive Ts where
  | val (e : Ex)
  | nott (t : Ts)
  | and (a b : Ts)
  | or (a b : Ts)
inductive Tss where
  | nil
  | cons (t : Ts) (r : Tss)
inductive It where
  | seq (e : Ex)
  | ref (i : Nat)
  | rng1 (a : Ex)
  | rng2 (a b : Ex)
  | rng3 (a b c : Ex)
  | enumS (e : Ex)
  | enumR (i : Nat)
end

mutual
inductive St where
  | asg (tg : Tg) (e : Ex)
  | par (is : List Nat) (m : List Bool) (es : Exs)
  | put (i : Nat) (k e : Ex)
  | exp (e : Ex)
  | ife (c : Ts) (t f : Sts)
  | for_ (tg : Tg) (it : It) (b : Sts)
  | whl (c : Ts) (b : Sts)
  | ret (e : Ex)
  | retN
  | brk
  | cnt
  | pass
inductive Sts where
  | nil
  | cons (s : St) (r : Sts)
end

def Exs.len : Exs → Nat
  | .nil => 0
  | .cons _ r => r.len + 1

/-! ### the operations on data -/
/-- comparisons that stand still at a value unknown (the kernel would count a great literal down) -/
def within (b : Nat) (i : Int) : Bool := Nat.ble i.natAbs b
theorem within_iff {b : Nat} {i : Int} : within b i = true ↔ -(b : Int) ≤ i ∧ i ≤ b := by
  unfold within
  rw [Nat.ble_eq]
  omega
def leI : Int → Int → Bool
  | .ofNat a, .ofNat b => Nat.ble a b
  | .ofNat _, .negSucc _ => false
  | .negSucc _, .ofNat _ => true
  | .negSucc a, .negSucc b => Nat.ble b a
theorem leI_eq (i j : Int) : leI i j = decide (i ≤ j) := by
  rw [Bool.eq_iff_iff, decide_eq_true_iff]
  cases i <;> cases j <;> simp only [leI, Nat.ble_eq, Bool.false_eq_true, false_iff, true_iff, Int.ofNat_eq_natCast] <;> omega
def ltI (i j : Int) : Bool := !leI j i
theorem ltI_eq (i j : Int) : ltI i j = decide (i < j) := by
  unfold ltI
  rw [leI_eq, Bool.eq_iff_iff, Bool.not_eq_true', decide_eq_false_iff_not, decide_eq_true_iff]
  omega
def cmul (i j : Int) : Bool := within 18446744073709551615 j || within 18446744073709551615 i
def cpow (i j : Int) : Bool := leI 0 j && within 1000000 j && within 18446744073709551615 i

def binOp : Operator → PyData → PyData → Option R
  | .Add, .int i, .int j => some (.v (.int (i + j)))
  | .Add, .str x, .str y => if x.length + y.length ≤ Lm then some (.v (.str (x ++ y))) else none
  | .Add, .list x, .list y => if x.length + y.length ≤ Lm then some (.o (.lst (x ++ y))) else none
  | .Add, .tuple x, .tuple y => if x.length + y.length ≤ Lm then some (.v (.tuple (x ++ y))) else none
  | .Sub, .int i, .int j => some (.v (.int (i - j)))
  | .Mult, .int i, .int j => if cmul i j then some (.v (.int (i * j))) else none
  | .FloorDiv, .int i, .int j => if ltI 0 j && within 1073741823 j then some (.v (.int (i / j))) else none
  | .Mod, .int i, .int j => if ltI 0 j then some (.v (.int (i % j))) else none
  | .Pow, .int i, .int j => if cpow i j then some (.v (.int (i ^ j.toNat))) else none
  | .LShift, .int i, .int j => if cpow i j then some (.v (.int (i * 2 ^ j.toNat))) else none
  | _, _, _ => none

def isNone : PyData → Bool
  | .none => true
  | _ => false

def inStr (x y : Str) : Bool := match x.cps.toList with
  | [c] => decide (c ∈ y.cps.toList)
  | _ => !(Builtin.Str.occurrences y x 0 y.length 1).isEmpty

def eqD : PyData → PyData → Option Bool
  | .int i, .int j => some (decide (i = j))
  | .str i, .str j => some (decide (i = j))
  | .none, .none => some true
  | .bool i, .bool j => some (decide (i = j))
  | a, b => if SeqAt.shaped a && SeqAt.shaped b then some (PyData.eqv a b) else none
def inD (x : PyData) (ys : List PyData) : Option Bool := if SeqAt.shaped x && SeqAt.shaped (.list ys) then some (ys.any fun y => PyData.eqv y x) else none

def cmpOp : CmpOp → PyData → PyData → Option Bool
  | .Eq, a, b => eqD a b
  | .NotEq, a, b => (eqD a b).map (!·)
  | .Lt, .int i, .int j => some (ltI i j)
  | .LtE, .int i, .int j => some (leI i j)
  | .Gt, .int i, .int j => some (ltI j i)
  | .GtE, .int i, .int j => some (leI j i)
  | .Is, a, .none => some (isNone a)
  | .IsNot, a, .none => some (!isNone a)
  | .In, .str x, .str y => some (inStr x y)
  | .NotIn, .str x, .str y => some (!inStr x y)
  | .In, x, .list ys => inD x ys
  | .NotIn, x, .list ys => (inD x ys).map (!·)
  | .In, x, .tuple ys => inD x ys
  | .NotIn, x, .tuple ys => (inD x ys).map (!·)
  | _, _, _ => none

def truth : PyData → Option Bool
  | .none => some false
  | .bool b => some b
  | .int i => some (i != 0)
  | .str x => if x.length ≤ Lm then some (x.length != 0) else none
  | .list xs => some (!xs.isEmpty)
  | .tuple xs => some (!xs.isEmpty)
  | .dict _ => none

def sign (c : Nat) : PyData := .str ⟨#[c]⟩
def signs (x : Str) : List PyData := x.cps.toList.map sign

def subOp : PyData → PyData → Option PyData
  | .list xs, .int i => L2.atI xs i
  | .tuple xs, .int i => L2.atI xs i
  | .str x, .int i => if x.length ≤ Lm then (L2.atI x.cps.toList i).map sign else none
  | _, _ => none

def cut {α : Type} (xs : List α) (lo hi : Option Int) : List α :=
  (xs.drop (HT.sIx xs.length 0 lo)).take (HT.sIx xs.length xs.length hi - HT.sIx xs.length 0 lo)
def slcOp (a : PyData) (lo hi : Option Int) : Option R := match a with
  | .list xs => some (.o (.lst (cut xs lo hi)))
  | .tuple xs => some (.v (.tuple (cut xs lo hi)))
  | .str x => if x.length ≤ Lm then some (.v (.str ⟨(cut x.cps.toList lo hi).toArray⟩)) else none
  | _ => none
def revOp : PyData → Option R
  | .list xs => some (.o (.lst xs.reverse))
  | _ => none

/-- the kind of a value -/
def tyOf : PyData → String
  | .none => "NoneType"
  | .bool _ => "bool"
  | .int _ => "int"
  | .str _ => "str"
  | .list _ => "list"
  | .tuple _ => "tuple"
  | .dict _ => "dict"
def isTy (a t : String) : Bool := a == t || (a == "bool" && t == "int")

def bools : List PyData → Option (List Bool)
  | [] => some []
  | .bool b :: r => (bools r).map (b :: ·)
  | _ :: _ => none
def intsD : List PyData → Option (List Int)
  | [] => some []
  | .int b :: r => (intsD r).map (b :: ·)
  | _ :: _ => none
def strsD : List PyData → Option (List Str)
  | [] => some []
  | .str b :: r => (strsD r).map (b :: ·)
  | _ :: _ => none

def biOp : Bi → List PyData → Option R
  | .len, [.list xs] => some (.v (.int xs.length))
  | .len, [.tuple xs] => some (.v (.int xs.length))
  | .len, [.str x] => if x.length ≤ Lm then some (.v (.int x.length)) else none
  | .int_, [.int i] => some (.v (.int i))
  | .abs, [.int i] => some (.v (.int i.natAbs))
  | .list_, [.list xs] => some (.o (.lst xs))
  | .list_, [.tuple xs] => some (.o (.lst xs))
  | .list_, [.str x] => if x.length ≤ Lm then some (.o (.lst (signs x))) else none
  | .tuple_, [.list xs] => some (.v (.tuple xs))
  | .tuple_, [.tuple xs] => some (.v (.tuple xs))
  | .all_, [.list xs] => (bools xs).map fun bs => .v (.bool (bs.all id))
  | .any_, [.list xs] => (bools xs).map fun bs => .v (.bool (bs.any id))
  | .min2, [.int i, .int j] => some (.v (.int (if ltI j i then j else i)))
  | .max2, [.int i, .int j] => some (.v (.int (if ltI i j then j else i)))
  | .sum_, [.list xs] => (intsD xs).map fun ns => .v (.int ns.sum)
  | _, _ => none

/-- list and tuple apart from the texts -/
def kd : PyData → Nat
  | .list _ => 1
  | .str _ => 2
  | _ => 0
def strsOf : PyData → Option (List Str)
  | .list xs => strsD xs
  | .tuple xs => strsD xs
  | _ => none
def pmOp : Pm → PyData → List PyData → Option R
  | .join, .str x, [d] => match strsOf d with
    | some ys => if (ys.map (·.length)).sum + ys.length * x.length ≤ Lm then some (.v (.str (PySem.Txt.join x ys))) else none
    | none => none
  | .index, .str x, [.str y] => match Builtin.Str.occurrences x y 0 x.length 1 with
    | i :: _ => some (.v (.int i))
    | [] => none
  | _, _, _ => none

/-- a method that changes its list: what comes back, what the list holds then -/
def muOp : Mu → List PyData → List PyData → Option (PyData × List PyData)
  | .append, xs, [d] => if xs.length < Lm then some (.none, xs ++ [d]) else none
  | .pop, xs, [] => (xs[xs.length - 1]?).map fun d => (d, xs.dropLast)
  | .popAt, xs, [.int i] => if leI 0 i && within 9223372036854775807 i then (xs[i.toNat]?).map fun d => (d, xs.eraseIdx i.toNat) else none
  | _, _, _ => none

/-! ### slots -/
def view (ρ : Env) : R → Option PyData
  | .v d => some d
  | .o (.lst xs) => some (.list xs)
  | .o _ => none
  | .s i => match ρ[i]? with
    | some (.v d) => some d
    | some (.o (.lst xs)) => some (.list xs)
    | _ => none
/-- a new list is a value from now on -/
def frz1 : R → Option R
  | .o (.lst xs) => some (.v (.list xs))
  | .o _ => none
  | r => some r
/-- a result becomes a value: the list of a slot is shared from now on -/
def frz (r : R) (ρ : Env) : Out PyData := match r with
  | .v d => .ok d ρ
  | .o (.lst xs) => .ok (.list xs) ρ
  | .o _ => .bad
  | .s i => match ρ[i]? with
    | some (.v d) => .ok d ρ
    | some (.o (.lst xs)) => .ok (.list xs) (ρ.set i (.v (.list xs)))
    | _ => .bad
def optR (ρ : Env) : Option R → Out R
  | some r => .ok r ρ
  | none => .bad
def optV (ρ : Env) : Option PyData → Out R
  | some d => .ok (.v d) ρ
  | none => .bad
def optB (ρ : Env) : Option Bool → Out R
  | some b => .ok (.v (.bool b)) ρ
  | none => .bad
def views (ρ : Env) : List R → Option (List PyData)
  | [] => some []
  | r :: rs => match view ρ r, views ρ rs with
    | some d, some ds => some (d :: ds)
    | _, _ => none
def intOf : Option PyData → Option Int
  | some (.int i) => some i
  | _ => none

def setAll (ρ : Env) : List Nat → List PyData → Env
  | i :: is, d :: ds => setAll (ρ.set i (.v d)) is ds
  | _, _ => ρ
def setTg (tg : Tg) (d : PyData) (ρ : Env) : Option Env := match tg with
  | .nm i => some (ρ.set i (.v d))
  | .tp is => match d with
    | .tuple xs => if xs.length = is.length then some (setAll ρ is xs) else none
    | _ => none
def wipes (ρ : Env) : List Nat → Env
  | [] => ρ
  | i :: is => (wipes ρ is).set i .un
/-- the slots of a comprehension's own names: what stood there stands again, if it is a value -/
def unwipe (ρ₀ ρ : Env) : List Nat → Env
  | [] => ρ
  | i :: is => (unwipe ρ₀ ρ is).set i (match ρ₀[i]? with | some (.v d) => .v d | _ => .un)

/-- what is walked: items, or the list of a slot as it stands at each turn; with or without numbers -/
inductive Src where
  | items (xs : List PyData)
  | slot (i : Nat) (num : Bool)
def seqOf : PyData → Option (List PyData)
  | .list xs => some xs
  | .tuple xs => some xs
  | .str x => some (signs x)
  | _ => none
def numd : Nat → List PyData → List PyData
  | _, [] => []
  | k, x :: xs => .tuple [.int (k : Nat), x] :: numd (k + 1) xs
def rng (lo : Int) (n : Nat) (c : Int) : List PyData := (List.range n).map fun (k : Nat) => .int (lo + (k : Int) * c)
def rng1L (n : Int) : List PyData := (List.range n.toNat).map fun (k : Nat) => .int (k : Int)
def small62 (i : Int) : Bool := within 4611686018427387903 i
theorem small62_of {i : Int} (h : small62 i = true) : -(2 ^ 62) ≤ i ∧ i < 2 ^ 62 := by
  have h := within_iff.mp h
  omega

/-- .. a new list among operands is a value -/
def Out.opd (o : Out R) : Out R := o.bind fun r ρ => optR ρ (frz1 r)

/-! ### comprehensions -/
def compL (turn : PyData → Env → Out (Option PyData)) : List PyData → List PyData → Env → Out (List PyData)
  | [], acc, ρ => .ok acc ρ
  | x :: xs, acc, ρ => (turn x ρ).bind fun r ρ' => match r with
    | none => compL turn xs acc ρ'
    | some d => if acc.length < Lm then compL turn xs (acc ++ [d]) ρ' else .bad

/-! ### calls -/
inductive CA where
  | v (d : PyData)
  | s (i : Nat)
  | o (b : Ob)
def lend (ρ : Env) : List CA → Option (List Sl)
  | [] => some []
  | .v d :: r => (lend ρ r).map (.v d :: ·)
  | .o b :: r => (lend ρ r).map (.o b :: ·)
  | .s i :: r => match ρ[i]? with
    | some (.o b) => (lend ρ r).map (.o b :: ·)
    | _ => none
/-- whose the lent objects are: a slot's, nobody's -/
def slots : List CA → List (Option Nat)
  | [] => []
  | .v _ :: r => slots r
  | .o _ :: r => none :: slots r
  | .s i :: r => some i :: slots r
def back (ρ : Env) : List (Option Nat) → List Ob → Env
  | some i :: is, b :: bs => back (ρ.set i (.o b)) is bs
  | none :: is, _ :: bs => back ρ is bs
  | _, _ => ρ
/-- values and new objects into slots -/
def setCA (ρ : Env) : List Nat → List CA → Option Env
  | [], [] => some ρ
  | i :: is, .v d :: cs => setCA (ρ.set i (.v d)) is cs
  | i :: is, .o b :: cs => setCA (ρ.set i (.o b)) is cs
  | _, _ => none
def callF (g : List Sl → FO) (cas : List CA) (ρ : Env) : Out R :=
  match lend ρ cas with
  | none => .bad
  | some as => if ((slots cas).filterMap id).Nodup then
      (match g as with
      | .v d outs => .ok (.v d) (back ρ (slots cas) outs)
      | .o b outs => .ok (.o b) (back ρ (slots cas) outs)
      | .exc x outs => .exc x (back ρ (slots cas) outs)
      | .bad => .bad)
    else .bad

/-- the module's constants, the defs, which of their arguments are lent -/
structure Wd where
  C : Nat → PyData
  Γ : Nat → List Sl → FO
  lm : Nat → List Bool

section
variable (W : Wd)
mutual
/-- the meaning of an expression -/
def ev : Ex → Env → Out R
  | .var i, ρ => match ρ[i]? with
    | some (.v d) => .ok (.v d) ρ
    | some (.o _) => .ok (.s i) ρ
    | _ => .bad
  | .int n, ρ => .ok (.v (.int n)) ρ
  | .str x, ρ => .ok (.v (.str x)) ρ
  | .bl b, ρ => .ok (.v (.bool b)) ρ
  | .non, ρ => .ok (.v .none) ρ
  | .glob g, ρ => .ok (.v (W.C g)) ρ
  | .bin op a b, ρ => (ev a ρ).opd.bind fun x ρ1 => (ev b ρ1).opd.bind fun y ρ2 => match view ρ2 x, view ρ2 y with
    | some d, some e => optR ρ2 (binOp op d e)
    | _, _ => .bad
  | .neg a, ρ => (ev a ρ).opd.bind fun x ρ1 => match view ρ1 x with
    | some (.int i) => .ok (.v (.int (-i))) ρ1
    | _ => .bad
  | .nott a, ρ => (ev a ρ).bind fun x ρ1 => match x with
    | .v (.bool b) => .ok (.v (.bool (!b))) ρ1
    | _ => .bad
  | .and a b, ρ => (ev a ρ).bind fun x ρ1 => match x with
    | .v (.bool true) => ev b ρ1
    | .v (.bool false) => .ok (.v (.bool false)) ρ1
    | _ => .bad
  | .or a b, ρ => (ev a ρ).bind fun x ρ1 => match x with
    | .v (.bool true) => .ok (.v (.bool true)) ρ1
    | .v (.bool false) => ev b ρ1
    | _ => .bad
  | .cmp op a b, ρ => (ev a ρ).opd.bind fun x ρ1 => (ev b ρ1).opd.bind fun y ρ2 => match view ρ2 x, view ρ2 y with
    | some d, some e => optB ρ2 (cmpOp op d e)
    | _, _ => .bad
  | .cmp2 op op' a b c, ρ => (ev a ρ).opd.bind fun x ρ1 => (ev b ρ1).opd.bind fun y ρ2 => match x, y with
    | .v d, .v e => (match cmpOp op d e with
      | some true => (ev c ρ2).opd.bind fun z ρ3 => (match z with
        | .v f => optB ρ3 (cmpOp op' e f)
        | _ => .bad)
      | some false => .ok (.v (.bool false)) ρ2
      | none => .bad)
    | _, _ => .bad
  | .ite c a b, ρ => (evT c ρ).bind fun t ρ1 => match t with
    | true => ev a ρ1
    | false => ev b ρ1
  | .tup es, ρ => (evs es ρ).bind fun ds ρ1 => .ok (.v (.tuple ds)) ρ1
  | .lst es, ρ => (evs es ρ).bind fun ds ρ1 => .ok (.o (.lst ds)) ρ1
  | .sub a i, ρ => (ev a ρ).opd.bind fun x ρ1 => (ev i ρ1).opd.bind fun y ρ2 => match view ρ2 x, view ρ2 y with
    | some d, some e => optV ρ2 (subOp d e)
    | _, _ => .bad
  | .slc a lo hi, ρ => (ev a ρ).opd.bind fun x ρ1 => (ev lo ρ1).opd.bind fun y ρ2 => (ev hi ρ2).opd.bind fun z ρ3 => match view ρ3 x, y, z with
    | some d, .v (.int i), .v (.int j) => optR ρ3 (slcOp d (some i) (some j))
    | _, _, _ => .bad
  | .slcL a lo, ρ => (ev a ρ).opd.bind fun x ρ1 => (ev lo ρ1).opd.bind fun y ρ2 => match view ρ2 x, y with
    | some d, .v (.int i) => optR ρ2 (slcOp d (some i) none)
    | _, _ => .bad
  | .slcH a hi, ρ => (ev a ρ).opd.bind fun x ρ1 => (ev hi ρ1).opd.bind fun y ρ2 => match view ρ2 x, y with
    | some d, .v (.int i) => optR ρ2 (slcOp d none (some i))
    | _, _ => .bad
  | .rev a, ρ => (ev a ρ).opd.bind fun x ρ1 => match view ρ1 x with
    | some d => optR ρ1 (revOp d)
    | _ => .bad
  | .call f es, ρ => (evC es (W.lm f) ρ).bind fun cas ρ1 => callF (W.Γ f) cas ρ1
  | .bi b es, ρ => (evR es ρ).bind fun rs ρ1 => match views ρ1 rs with
    | some ds => optR ρ1 (biOp b ds)
    | none => .bad
  | .isi a t, ρ => (ev a ρ).opd.bind fun x ρ1 => match view ρ1 x with
    | some d => .ok (.v (.bool (isTy (tyOf d) t))) ρ1
    | none => .bad
  | .pm m a es, ρ => (ev a ρ).opd.bind fun x ρ1 => match view ρ1 x with
    | some d0 => (evR es ρ1).bind fun rs ρ2 => (match view ρ2 x, views ρ2 rs with
      | some d, some ds => if kd d0 = kd d then optR ρ2 (pmOp m d ds) else .bad
      | _, _ => .bad)
    | none => .bad
  | .mu m i es, ρ => match ρ[i]? with
    | some (.o (.lst _)) => (evs es ρ).bind fun ds ρ1 => (match ρ1[i]? with
      | some (.o (.lst xs)) => (match muOp m xs ds with
        | some (d, ys) => .ok (.v d) (ρ1.set i (.o (.lst ys)))
        | none => .bad)
      | _ => .bad)
    | _ => .bad
  | .comp elt tg it ifs own, ρ => (evI it ρ).bind fun src ρ1 => match src with
    | .items xs => (compL (fun x ρ2 => match setTg tg x ρ2 with
        | none => .bad
        | some ρ3 => (evF ifs ρ3).bind fun t ρ4 => match t with
          | false => .ok none (wipes ρ4 own)
          | true => (ev elt ρ4).bind fun r ρ5 => (frz r ρ5).bind fun d ρ6 => .ok (some d) (wipes ρ6 own)) xs [] (wipes ρ1 own)).bind
        fun ds ρ7 => .ok (.o (.lst ds)) (unwipe ρ1 ρ7 own)
    | .slot _ _ => .bad
/-- a test -/
def evT : Ts → Env → Out Bool
  | .nott a, ρ => (evT a ρ).bind fun b ρ1 => .ok (!b) ρ1
  | .and a b, ρ => (evT a ρ).bind fun t ρ1 => match t with
    | true => evT b ρ1
    | false => .ok false ρ1
  | .or a b, ρ => (evT a ρ).bind fun t ρ1 => match t with
    | true => .ok true ρ1
    | false => evT b ρ1
  | .val e, ρ => (ev e ρ).bind fun r ρ1 => match view ρ1 r with
    | some d => (match truth d with
      | some b => .ok b ρ1
      | none => .bad)
    | none => .bad
/-- values, from the left -/
def evs : Exs → Env → Out (List PyData)
  | .nil, ρ => .ok [] ρ
  | .cons e es, ρ => (ev e ρ).bind fun r ρ1 => (frz r ρ1).bind fun d ρ2 => (evs es ρ2).bind fun ds ρ3 => .ok (d :: ds) ρ3
/-- operands, from the left -/
def evR : Exs → Env → Out (List R)
  | .nil, ρ => .ok [] ρ
  | .cons e es, ρ => (ev e ρ).opd.bind fun r ρ1 => (evR es ρ1).bind fun rs ρ2 => .ok (r :: rs) ρ2
/-- the arguments of a call: values, objects lent -/
def evC : Exs → List Bool → Env → Out (List CA)
  | .nil, _, ρ => .ok [] ρ
  | .cons e es, m, ρ => (ev e ρ).bind fun r ρ1 => match m.headD false with
    | true => (match r with
      | .s i => (evC es m.tail ρ1).bind fun cs ρ2 => .ok (.s i :: cs) ρ2
      | .o b => (evC es m.tail ρ1).bind fun cs ρ2 => .ok (.o b :: cs) ρ2
      | .v d => (evC es m.tail ρ1).bind fun cs ρ2 => .ok (.v d :: cs) ρ2)
    | false => (frz r ρ1).bind fun d ρ2 => (evC es m.tail ρ2).bind fun cs ρ3 => .ok (.v d :: cs) ρ3
/-- all tests -/
def evF : Tss → Env → Out Bool
  | .nil, ρ => .ok true ρ
  | .cons e es, ρ => (evT e ρ).bind fun t ρ1 => match t with
    | true => evF es ρ1
    | false => .ok false ρ1
def evI : It → Env → Out Src
  | .seq e, ρ => (ev e ρ).bind fun r ρ1 => (frz r ρ1).bind fun d ρ2 => match seqOf d with
    | some xs => .ok (.items xs) ρ2
    | none => .bad
  | .ref i, ρ => .ok (.slot i false) ρ
  | .rng1 a, ρ => (ev a ρ).opd.bind fun x ρ1 => match x with
    | .v (.int n) => if small62 n then .ok (.items (rng1L n)) ρ1 else .bad
    | _ => .bad
  | .rng2 a b, ρ => (ev a ρ).opd.bind fun x ρ1 => (ev b ρ1).opd.bind fun y ρ2 => match x, y with
    | .v (.int i), .v (.int j) => if small62 i && small62 j then .ok (.items (rng i (j - i).toNat 1)) ρ2 else .bad
    | _, _ => .bad
  | .rng3 _ _ _, _ => .bad
  | .enumS e, ρ => (ev e ρ).bind fun r ρ1 => (frz r ρ1).bind fun d ρ2 => match d with
    | .list xs => .ok (.items (numd 0 xs)) ρ2
    | .tuple xs => .ok (.items (numd 0 xs)) ρ2
    | _ => .bad
  | .enumR i, ρ => .ok (.slot i true) ρ
end
end
example (W : Wd) (ρ : Env) : ev W (.bin .Add (.int 3) (.int 4)) ρ = .ok (.v (.int 7)) ρ := rfl

/-! ### statements -/
inductive SO where
  | nx (ρ : Env)
  | ret (r : R) (ρ : Env)
  | brk (ρ : Env)
  | cnt (ρ : Env)
  | exc (x : Xc) (ρ : Env)
  | bad
def SO.seq : SO → (Env → SO) → SO
  | .nx ρ, f => f ρ
  | o, _ => o
def Out.st {α : Type} : Out α → (α → Env → SO) → SO
  | .ok a ρ, f => f a ρ
  | .exc x ρ, _ => .exc x ρ
  | .bad, _ => .bad
/-- a loop's turn is over: on to the next one, or out -/
def SO.turn : SO → (Env → SO) → SO
  | .nx ρ, f => f ρ
  | .cnt ρ, f => f ρ
  | .brk ρ, _ => .nx ρ
  | o, _ => o
def forL (body : PyData → Env → SO) : List PyData → Env → SO
  | [], ρ => .nx ρ
  | x :: xs, ρ => (body x ρ).turn fun ρ' => forL body xs ρ'
def forR (i : Nat) (num : Bool) (body : PyData → Env → SO) : Nat → Nat → Env → SO
  | 0, _, _ => .bad
  | n + 1, k, ρ => match view ρ (.s i) with
    | some (.list xs) => (match xs[k]? with
      | none => .nx ρ
      | some x => (body (if num then .tuple [.int (k : Nat), x] else x) ρ).turn fun ρ' => forR i num body n (k + 1) ρ')
    | _ => .bad
def whlL (c : Env → Out Bool) (body : Env → SO) : Nat → Env → SO
  | 0, _ => .bad
  | n + 1, ρ => (c ρ).st fun t ρ1 => match t with
    | true => (body ρ1).turn fun ρ2 => whlL c body n ρ2
    | false => .nx ρ1
/-- a slot's new content -/
def store (i : Nat) (r : R) (ρ : Env) : SO := match r with
  | .v d => .nx (ρ.set i (.v d))
  | .o b => .nx (ρ.set i (.o b))
  | .s j => (frz (.s j) ρ).st fun d ρ1 => .nx (ρ1.set i (.v d))

section
variable (fuel : Nat) (W : Wd)
mutual
def ex : St → Env → SO
  | .asg (.nm i) e, ρ => (ev W e ρ).st fun r ρ1 => store i r ρ1
  | .asg tg e, ρ => (ev W e ρ).st fun r ρ1 => (frz r ρ1).st fun d ρ2 => match setTg tg d ρ2 with
    | some ρ3 => .nx ρ3
    | none => .bad
  | .par is m es, ρ => (evC W es m ρ).st fun cas ρ1 => match setCA ρ1 is cas with
    | some ρ2 => .nx ρ2
    | none => .bad
  | .put _ _ _, _ => .bad
  | .exp e, ρ => (ev W e ρ).st fun _ ρ1 => .nx ρ1
  | .ife c t f, ρ => (evT W c ρ).st fun b ρ1 => match b with
    | true => exs t ρ1
    | false => exs f ρ1
  | .for_ tg it b, ρ => (evI W it ρ).st fun src ρ1 => match src with
    | .items xs => forL (fun x ρ2 => match setTg tg x ρ2 with
      | some ρ3 => exs b ρ3
      | none => .bad) xs ρ1
    | .slot i num => forR i num (fun x ρ2 => match setTg tg x ρ2 with
      | some ρ3 => exs b ρ3
      | none => .bad) fuel 0 ρ1
  | .whl c b, ρ => whlL (evT W c) (exs b) fuel ρ
  | .ret e, ρ => (ev W e ρ).st fun r ρ1 => .ret r ρ1
  | .retN, ρ => .ret (.v .none) ρ
  | .brk, ρ => .brk ρ
  | .cnt, ρ => .cnt ρ
  | .pass, ρ => .nx ρ
def exs : Sts → Env → SO
  | .nil, ρ => .nx ρ
  | .cons s r, ρ => (ex s ρ).seq fun ρ1 => exs r ρ1
end
end

/-! ### defs -/
structure Fn where
  mask : List Bool
  size : Nat
  body : Sts
def lent : List Bool → Env → Option (List Ob)
  | [], _ => some []
  | _ :: _, [] => none
  | true :: m, .o b :: ρ => (lent m ρ).map (b :: ·)
  | true :: _, _ :: _ => none
  | false :: m, _ :: ρ => lent m ρ
def isLent (m : List Bool) (i : Nat) : Bool := m.getD i false
def fin (m : List Bool) (r : R) (ρ : Env) : FO := match lent m ρ with
  | none => .bad
  | some outs => match r with
    | .v d => .v d outs
    | .o b => .o b outs
    | .s i => if isLent m i then .bad else match ρ[i]? with
      | some (.v d) => .v d outs
      | some (.o b) => .o b outs
      | _ => .bad
def SO.fo (m : List Bool) : SO → FO
  | .nx ρ => fin m (.v .none) ρ
  | .ret r ρ => fin m r ρ
  | .exc x ρ => (match lent m ρ with
    | some outs => .exc x outs
    | none => .bad)
  | _ => .bad
def isO : Sl → Bool
  | .o _ => true
  | _ => false
def runFn (fuel : Nat) (W : Wd) (F : Fn) (as : List Sl) : FO :=
  if as.map isO = F.mask then (exs fuel W F.body (as ++ List.replicate (F.size - as.length) .un)).fo F.mask else .bad
/-- the meaning of all defs of a program, calls k deep; a def's number is its own over all programs -/
def sem (C : Nat → PyData) (P : Nat → Option Fn) (fuel : Nat) : Nat → Nat → List Sl → FO
  | 0, _, _ => .bad
  | k + 1, f, as => match P f with
    | some F => runFn fuel ⟨C, sem C P fuel k, fun g => ((P g).getD ⟨[], 0, .nil⟩).mask⟩ F as
    | none => .bad
/-- the world k calls deep -/
def Wk (fuel : Nat) (P : Nat → Option Fn) (C : Nat → PyData) (k : Nat) : Wd := ⟨C, sem C P fuel k, fun g => ((P g).getD ⟨[], 0, .nil⟩).mask⟩
theorem sem_at {C : Nat → PyData} {P : Nat → Option Fn} {fuel k f : Nat} {F : Fn} {as : List Sl} (h : P f = some F) : sem C P fuel (k + 1) f as = runFn fuel (Wk fuel P C k) F as := by
  show (match P f with
    | some F => runFn fuel (Wk fuel P C k) F as
    | none => FO.bad) = _
  rw [h]
theorem Wk_Γ {C : Nat → PyData} {P : Nat → Option Fn} {fuel k f : Nat} {as : List Sl} : (Wk fuel P C k).Γ f as = sem C P fuel k f as := Eq.trans rfl rfl
theorem Wk_C {C : Nat → PyData} {P : Nat → Option Fn} {fuel k g : Nat} : (Wk fuel P C k).C g = C g := Eq.trans rfl rfl
theorem lmk {C : Nat → PyData} {P : Nat → Option Fn} {fuel k f : Nat} {F : Fn} {m : List Bool} (h : P f = some F) (hm : F.mask = m) : (Wk fuel P C k).lm f = m := by
  show ((P f).getD ⟨[], 0, .nil⟩).mask = m
  rw [h]
  exact hm
end Rc

set_option Elab.async false
set_option linter.all false
set_option maxRecDepth 100000
set_option maxHeartbeats 1000000
namespace Rc
open PySem PySem.Spec PyProof.Rows L2

/-! ### data in a part of the heap -/
theorem SqT.mono {K : PySem.W.Frag} {G H : Hp} {a : Addr} {xs : List V} (s : Same G H) (h : SqT K G a xs) : SqT K H a xs := by
  rcases h with (h | ⟨o, h⟩) | h
  · exact .inl (.inl (s _ _ h))
  · exact .inl (.inr ⟨o, s _ _ h⟩)
  · exact .inr h
theorem SqL.mono {K : PySem.W.Frag} {G H : Hp} {a : Addr} {xs : List V} (s : Same G H) (h : SqL K G a xs) : SqL K H a xs := by
  rcases h with (h | ⟨o, h⟩) | h
  · exact .inl (.inl (s _ _ h))
  · exact .inl (.inr ⟨o, s _ _ h⟩)
  · exact .inr h
theorem Rd.mono {G H : Hp} {a : Addr} {u : HO} (s : Same G H) (h : Rd G a u) : Rd H a u := by
  rcases h with h | ⟨o, h⟩
  · exact .inl (s _ _ h)
  · exact .inr ⟨o, s _ _ h⟩
mutual
/-- the value v is the datum d, by the objects of H -/
inductive Dq (K : PySem.W.Frag) (H : Hp) : V → PyData → Prop
  | non : Dq K H .non .none
  | bl (b : Bool) : Dq K H (.bl b) (.bool b)
  | int (i : Int) : Dq K H (.int i) (.int i)
  | str (x : Str) : Dq K H (.str x) (.str x)
  | lst {a : Addr} {xs : List V} {ds : List PyData} : SqL K H a xs → DqAll K H xs ds → Dq K H (.ref a) (.list ds)
  | tup {a : Addr} {xs : List V} {ds : List PyData} : SqT K H a xs → DqAll K H xs ds → Dq K H (.ref a) (.tuple ds)
inductive DqAll (K : PySem.W.Frag) (H : Hp) : List V → List PyData → Prop
  | nil : DqAll K H [] []
  | cons {v : V} {vs : List V} {d : PyData} {ds : List PyData} : Dq K H v d → DqAll K H vs ds → DqAll K H (v :: vs) (d :: ds)
end
mutual
theorem Dq.mono {K : PySem.W.Frag} {G H : Hp} (s : Same G H) : ∀ {v : V} {d : PyData}, Dq K G v d → Dq K H v d
  | _, _, .non => .non
  | _, _, .bl b => .bl b
  | _, _, .int i => .int i
  | _, _, .str x => .str x
  | _, _, .lst h1 h2 => .lst (SqL.mono s h1) (DqAll.mono s h2)
  | _, _, .tup h1 h2 => .tup (SqT.mono s h1) (DqAll.mono s h2)
theorem DqAll.mono {K : PySem.W.Frag} {G H : Hp} (s : Same G H) : ∀ {vs : List V} {ds : List PyData}, DqAll K G vs ds → DqAll K H vs ds
  | _, _, .nil => .nil
  | _, _, .cons h1 h2 => .cons (Dq.mono s h1) (DqAll.mono s h2)
end
mutual
theorem Dq.dp {K : PySem.W.Frag} {H : Hp} : ∀ {v : V} {d : PyData}, Dq K H v d → Dp K H v d
  | _, _, .non => .non
  | _, _, .bl b => .bl b
  | _, _, .int i => .int i
  | _, _, .str x => .str x
  | _, _, .lst h1 h2 => .lst h1 (DqAll.dp h2)
  | _, _, .tup h1 h2 => .tup h1 (DqAll.dp h2)
theorem DqAll.dp {K : PySem.W.Frag} {H : Hp} : ∀ {vs : List V} {ds : List PyData}, DqAll K H vs ds → DpAll K H vs ds
  | _, _, .nil => .nil
  | _, _, .cons h1 h2 => .cons (Dq.dp h1) (DqAll.dp h2)
end
section
variable {K : PySem.W.Frag} {G H : Hp}
theorem DqAll.length {vs : List V} {ds : List PyData} (h : DqAll K G vs ds) : vs.length = ds.length := by
  induction ds generalizing vs with
  | nil => cases h; rfl
  | cons d ds ih => cases h with | cons h1 h2 => simp [ih h2]
theorem DqAll.get {vs : List V} {ds : List PyData} (h : DqAll K G vs ds) {i : Nat} {d : PyData} (e : ds[i]? = some d) : ∃ v, vs[i]? = some v ∧ Dq K G v d := by
  induction ds generalizing vs i with
  | nil => simp at e
  | cons d' ds ih =>
    cases h with
    | cons h1 h2 =>
      cases i with
      | zero =>
        simp at e
        subst e
        exact ⟨_, by simp, h1⟩
      | succ i =>
        obtain ⟨v, q1, q2⟩ := ih h2 (by simpa using e)
        exact ⟨v, by simpa using q1, q2⟩
theorem DqAll.append {vs ws : List V} {ds es : List PyData} (h : DqAll K G vs ds) (h' : DqAll K G ws es) : DqAll K G (vs ++ ws) (ds ++ es) := by
  induction ds generalizing vs with
  | nil => cases h; exact h'
  | cons d ds ih => cases h with | cons h1 h2 => exact .cons h1 (ih h2)
theorem DqAll.drop {vs : List V} {ds : List PyData} (n : Nat) (h : DqAll K G vs ds) : DqAll K G (vs.drop n) (ds.drop n) := by
  induction n generalizing vs ds with
  | zero => exact h
  | succ n ih =>
    cases h with
    | nil => exact .nil
    | cons h1 h2 => exact ih h2
theorem DqAll.take {vs : List V} {ds : List PyData} (n : Nat) (h : DqAll K G vs ds) : DqAll K G (vs.take n) (ds.take n) := by
  induction n generalizing vs ds with
  | zero => exact .nil
  | succ n ih =>
    cases h with
    | nil => exact .nil
    | cons h1 h2 => exact .cons h1 (ih h2)
theorem DqAll.eraseIdx {vs : List V} {ds : List PyData} (n : Nat) (h : DqAll K G vs ds) : DqAll K G (vs.eraseIdx n) (ds.eraseIdx n) := by
  induction n generalizing vs ds with
  | zero =>
    cases h with
    | nil => exact .nil
    | cons h1 h2 => exact h2
  | succ n ih =>
    cases h with
    | nil => exact .nil
    | cons h1 h2 => exact .cons h1 (ih h2)
theorem DqAll.one {v : V} {d : PyData} (h : Dq K G v d) : DqAll K G [v] [d] := .cons h .nil
theorem DqAll.reverse {vs : List V} {ds : List PyData} (h : DqAll K G vs ds) : DqAll K G vs.reverse ds.reverse := by
  induction ds generalizing vs with
  | nil => cases h; exact .nil
  | cons d ds ih =>
    cases h with
    | cons h1 h2 =>
      rw [List.reverse_cons, List.reverse_cons]
      exact DqAll.append (ih h2) (DqAll.one h1)
theorem DqAll.dropLast {vs : List V} {ds : List PyData} (h : DqAll K G vs ds) : DqAll K G vs.dropLast ds.dropLast := by
  rw [List.dropLast_eq_take, List.dropLast_eq_take, h.length]
  exact h.take _
end

/-- what an own object holds -/
def OwnAt (K : PySem.W.Frag) (G H : Hp) (a : Addr) : Ob → Prop
  | .lst ds => ∃ vs, H a = some (.lst vs) ∧ DqAll K G vs ds
  | _ => False
theorem OwnAt.mono {K : PySem.W.Frag} {G G' H H' : Hp} {a : Addr} {b : Ob} (s : Same G G') (e : H' a = H a) (h : OwnAt K G H a b) : OwnAt K G' H' a b := by
  cases b with
  | lst ds =>
    obtain ⟨vs, h1, h2⟩ := h
    exact ⟨vs, e.trans h1, DqAll.mono s h2⟩
  | _ => exact h
theorem OwnAt.some {K : PySem.W.Frag} {G H : Hp} {a : Addr} {b : Ob} (h : OwnAt K G H a b) : ∃ o, H a = some o := by
  cases b with
  | lst ds =>
    obtain ⟨vs, h1, h2⟩ := h
    exact ⟨_, h1⟩
  | _ => exact h.elim

/-- the slots lie in the heap: G the part that stays for ever, B what others know, P the slots that keep their addresses -/
structure Rel (K : PySem.W.Frag) (B : Hp) (P : List (Nat × V)) (G H : Hp) (σ : L2.St) (ρ : Env) : Prop where
  sub : Same G H
  bys : ∀ b o, B b = some o → H b = some o ∧ G b = none
  pin : ∀ p ∈ P, σ[p.1]? = some (some p.2)
  len : ρ.length = σ.length
  val : ∀ (i : Nat) (d : PyData), ρ[i]? = some (.v d) → ∃ x, σ[i]? = some (some x) ∧ Dq K G x d
  own : ∀ (i : Nat) (b : Ob), ρ[i]? = some (.o b) → ∃ a, σ[i]? = some (some (.ref a)) ∧ G a = none ∧ B a = none ∧ OwnAt K G H a b
  sep : ∀ (i j : Nat) (a : Addr) (b c : Ob), ρ[i]? = some (.o b) → ρ[j]? = some (.o c) → σ[i]? = some (some (.ref a)) → σ[j]? = some (some (.ref a)) → i = j

def RRel (K : PySem.W.Frag) (B G H : Hp) (σ : L2.St) (ρ : Env) (r : R) (x : V) : Prop := match r with
  | .v d => Dq K G x d
  | .o b => ∃ a, x = .ref a ∧ G a = none ∧ B a = none ∧ OwnAt K G H a b ∧ ∀ (i : Nat) (c : Ob), ρ[i]? = some (.o c) → σ[i]? ≠ some (some (.ref a))
  | .s i => σ[i]? = some (some x)

/-- x shows d -/
def VRel (K : PySem.W.Frag) (G H : Hp) (x : V) (d : PyData) : Prop := Dq K G x d ∨ ∃ a vs ds, x = .ref a ∧ d = .list ds ∧ H a = some (.lst vs) ∧ DqAll K G vs ds
section
variable {K : PySem.W.Frag} {B : Hp} {P : List (Nat × V)} {G H G' H' : Hp} {σ : L2.St} {ρ : Env}
theorem VRel.dq {x : V} {d : PyData} (s : Same G H) (h : VRel K G H x d) : Dq K H x d := by
  rcases h with h | ⟨a, vs, ds, rfl, rfl, h1, h2⟩
  · exact Dq.mono s h
  · exact .lst (.inl (.inl h1)) (DqAll.mono s h2)
theorem VRel.list {x : V} {ds : List PyData} (s : Same G H) (h : VRel K G H x (.list ds)) : ∃ a vs, x = .ref a ∧ SqL K H a vs ∧ DqAll K G vs ds := by
  rcases h with h | ⟨a, vs, ds', rfl, e, h1, h2⟩
  · cases h with
    | lst h1 h2 => exact ⟨_, _, rfl, SqL.mono s h1, h2⟩
  · cases e
    exact ⟨a, vs, rfl, .inl (.inl h1), h2⟩
theorem VRel.tup {x : V} {ds : List PyData} (s : Same G H) (h : VRel K G H x (.tuple ds)) : ∃ a vs, x = .ref a ∧ SqT K H a vs ∧ DqAll K G vs ds := by
  rcases h with h | ⟨a, vs, ds', rfl, e, h1, h2⟩
  · cases h with
    | tup h1 h2 => exact ⟨_, _, rfl, SqT.mono s h1, h2⟩
  · cases e
theorem VRel.tupG {x : V} {ds : List PyData} (h : VRel K G H x (.tuple ds)) : Dq K G x (.tuple ds) := by
  rcases h with h | ⟨a, vs, ds', rfl, e, h1, h2⟩
  · exact h
  · cases e
theorem VRel.int {x : V} {i : Int} (h : VRel K G H x (.int i)) : x = .int i := by
  rcases h with h | ⟨a, vs, ds', rfl, e, h1, h2⟩
  · cases h; rfl
  · cases e
theorem VRel.str {x : V} {i : Str} (h : VRel K G H x (.str i)) : x = .str i := by
  rcases h with h | ⟨a, vs, ds', rfl, e, h1, h2⟩
  · cases h; rfl
  · cases e
theorem VRel.bl {x : V} {i : Bool} (h : VRel K G H x (.bool i)) : x = .bl i := by
  rcases h with h | ⟨a, vs, ds', rfl, e, h1, h2⟩
  · cases h; rfl
  · cases e
theorem VRel.non {x : V} (h : VRel K G H x .none) : x = .non := by
  rcases h with h | ⟨a, vs, ds', rfl, e, h1, h2⟩
  · cases h; rfl
  · cases e
theorem Rel.view (rel : Rel K B P G H σ ρ) {r : R} {x : V} {d : PyData} (h : RRel K B G H σ ρ r x) (e : view ρ r = some d) : VRel K G H x d := by
  cases r with
  | v d' => cases e; exact .inl h
  | o b =>
    cases b with
    | lst xs =>
      cases e
      obtain ⟨a, rfl, _, _, ⟨vs, h1, h2⟩, _⟩ := h
      exact .inr ⟨a, vs, xs, rfl, rfl, h1, h2⟩
    | _ => cases e
  | s i =>
    have e' : (match ρ[i]? with
      | some (.v d) => some d
      | some (.o (.lst xs)) => some (.list xs)
      | _ => none) = some d := e
    have h' : σ[i]? = some (some x) := h
    split at e'
    · rename_i d' q
      cases e'
      obtain ⟨y, y1, y2⟩ := rel.val i _ q
      rw [h'] at y1
      cases y1
      exact .inl y2
    · rename_i xs q
      cases e'
      obtain ⟨a, y1, y2, _, vs, y3, y4⟩ := rel.own i _ q
      rw [h'] at y1
      cases y1
      exact .inr ⟨a, vs, xs, rfl, rfl, y3, y4⟩
    · cases e'
/-- the part that stays grows by a new thing -/
theorem Rel.grow {p : Addr} {o : HO} (rel : Rel K B P G H σ ρ) (hp : H p = none) : Same G (upd G p o) ∧ Rel K B P (upd G p o) (upd H p o) σ ρ := by
  have gp : G p = none := Same.free rel.sub hp
  have sg : Same G (upd G p o) := fun b u e => by
    rw [upd_ne (ne_of_none e gp)]
    exact e
  refine ⟨sg, ⟨fun b u e => ?_, fun b u e => ?_, rel.pin, rel.len, fun i d e => ?_, fun i b e => ?_, rel.sep⟩⟩
  · by_cases hb : b = p
    · subst hb
      rw [upd_same] at e ⊢
      exact e
    · rw [upd_ne hb] at e ⊢
      exact rel.sub _ _ e
  · obtain ⟨h1, h2⟩ := rel.bys b u e
    have hb : b ≠ p := ne_of_none h1 hp
    rw [upd_ne hb, upd_ne hb]
    exact ⟨h1, h2⟩
  · obtain ⟨x, h1, h2⟩ := rel.val i d e
    exact ⟨x, h1, Dq.mono sg h2⟩
  · obtain ⟨a, h1, h2, h3, h4⟩ := rel.own i b e
    obtain ⟨u, hu⟩ := h4.some
    have ha : a ≠ p := ne_of_none hu hp
    exact ⟨a, h1, (upd_ne ha).trans h2, h3, h4.mono sg (upd_ne ha)⟩
/-- a new object is there that nobody knows yet -/
theorem Rel.fresh {p : Addr} {o : HO} (rel : Rel K B P G H σ ρ) (hp : H p = none) : Rel K B P G (upd H p o) σ ρ := by
  have gp : G p = none := Same.free rel.sub hp
  refine ⟨fun b u e => ?_, fun b u e => ?_, rel.pin, rel.len, rel.val, fun i b e => ?_, rel.sep⟩
  · rw [upd_ne (ne_of_none e gp)]
    exact rel.sub _ _ e
  · obtain ⟨h1, h2⟩ := rel.bys b u e
    rw [upd_ne (ne_of_none h1 hp)]
    exact ⟨h1, h2⟩
  · obtain ⟨a, h1, h2, h3, h4⟩ := rel.own i b e
    obtain ⟨u, hu⟩ := h4.some
    exact ⟨a, h1, h2, h3, h4.mono (Same.refl _) (upd_ne (ne_of_none hu hp))⟩
theorem Rel.bnone {p : Addr} (rel : Rel K B P G H σ ρ) (hp : H p = none) : B p = none := by
  cases e : B p with
  | none => rfl
  | some o =>
    rw [(rel.bys p o e).1] at hp
    cases hp
/-- an own object becomes a value -/
theorem Rel.freeze {a : Addr} {vs : List V} (rel : Rel K B P G H σ ρ) (ga : G a = none) (ba : B a = none) (ha : H a = some (.lst vs)) (no : ∀ (i : Nat) (c : Ob), ρ[i]? = some (.o c) → σ[i]? ≠ some (some (.ref a))) :
    Same G (upd G a (.lst vs)) ∧ Rel K B P (upd G a (.lst vs)) H σ ρ := by
  have sg : Same G (upd G a (.lst vs)) := fun b u e => by
    rw [upd_ne (ne_of_none e ga)]
    exact e
  refine ⟨sg, ⟨fun b u e => ?_, fun b u e => ?_, rel.pin, rel.len, fun i d e => ?_, fun i b e => ?_, rel.sep⟩⟩
  · by_cases hb : b = a
    · subst hb
      rw [upd_same] at e
      cases e
      exact ha
    · rw [upd_ne hb] at e
      exact rel.sub _ _ e
  · obtain ⟨h1, h2⟩ := rel.bys b u e
    have hb : b ≠ a := by
      rintro rfl
      rw [e] at ba
      cases ba
    rw [upd_ne hb]
    exact ⟨h1, h2⟩
  · obtain ⟨x, h1, h2⟩ := rel.val i d e
    exact ⟨x, h1, Dq.mono sg h2⟩
  · obtain ⟨c, h1, h2, h3, h4⟩ := rel.own i b e
    have hc : c ≠ a := by
      rintro rfl
      exact no i b e h1
    exact ⟨c, h1, (upd_ne hc).trans h2, h3, h4.mono sg rfl⟩
theorem getElem_set_sl {ρ : Env} {i j : Nat} {s t : Sl} (h : (ρ.set i s)[j]? = some t) : (i = j ∧ i < ρ.length ∧ t = s) ∨ (i ≠ j ∧ ρ[j]? = some t) := by
  by_cases e : i = j
  · subst e
    by_cases hl : i < ρ.length
    · rw [List.getElem?_set_self hl] at h
      cases h
      exact .inl ⟨rfl, hl, rfl⟩
    · rw [List.getElem?_eq_none (by simpa using hl)] at h
      cases h
  · rw [List.getElem?_set_ne e] at h
    exact .inr ⟨e, h⟩
/-- a slot's own list is a value from now on -/
theorem Rel.frzSlot {i : Nat} {ds : List PyData} {x : V} (rel : Rel K B P G H σ ρ) (e : ρ[i]? = some (.o (.lst ds))) (hx : σ[i]? = some (some x)) :
    ∃ G', Same G G' ∧ Rel K B P G' H σ (ρ.set i (.v (.list ds))) ∧ Dq K G' x (.list ds) := by
  obtain ⟨a, h1, h2, h3, vs, h4, h5⟩ := rel.own i _ e
  rw [hx] at h1
  cases h1
  have rel' : Rel K B P G H σ (ρ.set i .un) := by
    refine ⟨rel.sub, rel.bys, rel.pin, by rw [List.length_set]; exact rel.len, fun j d q => ?_, fun j b q => ?_, fun j k c b b' q q' r r' => ?_⟩
    · rcases getElem_set_sl q with ⟨_, _, z⟩ | ⟨_, q⟩
      · cases z
      · exact rel.val j d q
    · rcases getElem_set_sl q with ⟨_, _, z⟩ | ⟨_, q⟩
      · cases z
      · exact rel.own j b q
    · rcases getElem_set_sl q with ⟨_, _, z⟩ | ⟨_, q⟩
      · cases z
      · rcases getElem_set_sl q' with ⟨_, _, z⟩ | ⟨_, q'⟩
        · cases z
        · exact rel.sep j k c b b' q q' r r'
  obtain ⟨sg, rl⟩ := rel'.freeze h2 h3 h4 fun j c q r => by
    rcases getElem_set_sl q with ⟨_, _, z⟩ | ⟨ne, q⟩
    · cases z
    · exact ne (rel.sep i j a _ _ e q hx r)
  have dp : Dq K (upd G a (.lst vs)) (.ref a) (.list ds) := .lst (.inl (.inl upd_same)) (DqAll.mono sg h5)
  refine ⟨_, sg, ⟨rl.sub, rl.bys, rl.pin, by rw [List.length_set]; exact rel.len, fun j d q => ?_, fun j b q => ?_, fun j k c b b' q q' r r' => ?_⟩, dp⟩
  · rcases getElem_set_sl q with ⟨rfl, _, z⟩ | ⟨ne, q⟩
    · cases z
      exact ⟨_, hx, dp⟩
    · exact rl.val j d (by rw [List.getElem?_set_ne ne]; exact q)
  · rcases getElem_set_sl q with ⟨_, _, z⟩ | ⟨ne, q⟩
    · cases z
    · exact rl.own j b (by rw [List.getElem?_set_ne ne]; exact q)
  · rcases getElem_set_sl q with ⟨_, _, z⟩ | ⟨_, q⟩
    · cases z
    · rcases getElem_set_sl q' with ⟨_, _, z⟩ | ⟨_, q'⟩
      · cases z
      · exact rel.sep j k c b b' q q' r r'
theorem RRel.mono {r : R} {x : V} (sg : Same G G') (h : RRel K B G H σ ρ r x) (no : ∀ b, r ≠ .o b) {ρ' : Env} {H'' : Hp} : RRel K B G' H'' σ ρ' r x := by
  cases r with
  | v d => exact Dq.mono sg h
  | o b => exact absurd rfl (no b)
  | s i => exact h
/-- a result becomes a value -/
theorem Rel.frz {r : R} {x : V} {d : PyData} {ρ' : Env} (rel : Rel K B P G H σ ρ) (h : RRel K B G H σ ρ r x) (e : frz r ρ = .ok d ρ') : ∃ G', Same G G' ∧ Rel K B P G' H σ ρ' ∧ Dq K G' x d := by
  cases r with
  | v d' =>
    cases e
    exact ⟨G, Same.refl _, rel, h⟩
  | o b =>
    cases b with
    | lst xs =>
      cases e
      obtain ⟨a, rfl, h1, h2, ⟨vs, h3, h4⟩, h5⟩ := h
      obtain ⟨sg, rl⟩ := rel.freeze h1 h2 h3 h5
      exact ⟨_, sg, rl, .lst (.inl (.inl upd_same)) (DqAll.mono sg h4)⟩
    | _ => cases e
  | s i =>
    have h' : σ[i]? = some (some x) := h
    have e' : (match ρ[i]? with
      | some (.v d) => Out.ok d ρ
      | some (.o (.lst xs)) => .ok (.list xs) (ρ.set i (.v (.list xs)))
      | _ => .bad) = .ok d ρ' := e
    split at e'
    · rename_i d' q
      cases e'
      obtain ⟨y, y1, y2⟩ := rel.val i _ q
      rw [h'] at y1
      cases y1
      exact ⟨G, Same.refl _, rel, y2⟩
    · rename_i xs q
      cases e'
      exact rel.frzSlot q h'
    · cases e'
theorem Rel.frz1 {r r' : R} {x : V} (rel : Rel K B P G H σ ρ) (h : RRel K B G H σ ρ r x) (e : Rc.frz1 r = some r') : ∃ G', Same G G' ∧ Rel K B P G' H σ ρ ∧ RRel K B G' H σ ρ r' x ∧ ∀ b, r' ≠ .o b := by
  cases r with
  | v d' =>
    cases e
    exact ⟨G, Same.refl _, rel, h, fun b z => by cases z⟩
  | o b =>
    cases b with
    | lst xs =>
      cases e
      obtain ⟨a, rfl, h1, h2, ⟨vs, h3, h4⟩, h5⟩ := h
      obtain ⟨sg, rl⟩ := rel.freeze h1 h2 h3 h5
      exact ⟨_, sg, rl, .lst (.inl (.inl upd_same)) (DqAll.mono sg h4), fun b z => by cases z⟩
    | _ => cases e
  | s i =>
    cases e
    exact ⟨G, Same.refl _, rel, h, fun b z => by cases z⟩
/-- a slot is stored -/
theorem Rel.setV {i : Nat} {d : PyData} {x : V} (rel : Rel K B P G H σ ρ) (hd : Dq K G x d) (np : ∀ p ∈ P, p.1 ≠ i) : Rel K B P G H (σ.set i (some x)) (ρ.set i (.v d)) := by
  have low : ∀ {j : Nat} {y}, i ≠ j → σ[j]? = some (some y) → (σ.set i (some x))[j]? = some (some y) := fun ne q => by
    rw [List.getElem?_set_ne ne]
    exact q
  refine ⟨rel.sub, rel.bys, fun p hp => low (Ne.symm (np p hp)) (rel.pin p hp), by rw [List.length_set, List.length_set]; exact rel.len, fun j e q => ?_, fun j b q => ?_, fun j k c b b' q q' r r' => ?_⟩
  · rcases getElem_set_sl q with ⟨rfl, hl, z⟩ | ⟨ne, q⟩
    · cases z
      exact ⟨x, List.getElem?_set_self (by rw [← rel.len]; exact hl), hd⟩
    · obtain ⟨y, y1, y2⟩ := rel.val j e q
      exact ⟨y, low ne y1, y2⟩
  · rcases getElem_set_sl q with ⟨_, _, z⟩ | ⟨ne, q⟩
    · cases z
    · obtain ⟨a, y1, y2⟩ := rel.own j b q
      exact ⟨a, low ne y1, y2⟩
  · rcases getElem_set_sl q with ⟨_, _, z⟩ | ⟨ne, q⟩
    · cases z
    · rcases getElem_set_sl q' with ⟨_, _, z⟩ | ⟨ne', q'⟩
      · cases z
      · rw [List.getElem?_set_ne ne] at r
        rw [List.getElem?_set_ne ne'] at r'
        exact rel.sep j k c b b' q q' r r'
theorem Rel.setO {i : Nat} {b : Ob} {x : V} (rel : Rel K B P G H σ ρ) (ho : RRel K B G H σ ρ (.o b) x) (np : ∀ p ∈ P, p.1 ≠ i) : Rel K B P G H (σ.set i (some x)) (ρ.set i (.o b)) := by
  obtain ⟨a, rfl, h1, h2, h3, h4⟩ := ho
  have low : ∀ {j : Nat} {y}, i ≠ j → σ[j]? = some (some y) → (σ.set i (some (.ref a)))[j]? = some (some y) := fun ne q => by
    rw [List.getElem?_set_ne ne]
    exact q
  refine ⟨rel.sub, rel.bys, fun p hp => low (Ne.symm (np p hp)) (rel.pin p hp), by rw [List.length_set, List.length_set]; exact rel.len, fun j e q => ?_, fun j c q => ?_, fun j k c b1 b2 q q' r r' => ?_⟩
  · rcases getElem_set_sl q with ⟨rfl, hl, z⟩ | ⟨ne, q⟩
    · cases z
    · obtain ⟨y, y1, y2⟩ := rel.val j e q
      exact ⟨y, low ne y1, y2⟩
  · rcases getElem_set_sl q with ⟨rfl, hl, z⟩ | ⟨ne, q⟩
    · cases z
      exact ⟨a, List.getElem?_set_self (by rw [← rel.len]; exact hl), h1, h2, h3⟩
    · obtain ⟨a', y1, y2⟩ := rel.own j c q
      exact ⟨a', low ne y1, y2⟩
  · rcases getElem_set_sl q with ⟨rfl, hl, z⟩ | ⟨ne, q⟩
    · rcases getElem_set_sl q' with ⟨e, _, z'⟩ | ⟨ne', q'⟩
      · exact e
      · rw [List.getElem?_set_ne ne'] at r'
        rw [List.getElem?_set_self (by rw [← rel.len]; exact hl)] at r
        cases r
        exact absurd r' (h4 k _ q')
    · rcases getElem_set_sl q' with ⟨rfl, hl, z⟩ | ⟨ne', q'⟩
      · rw [List.getElem?_set_ne ne] at r
        rw [List.getElem?_set_self (by rw [← rel.len]; exact hl)] at r'
        cases r'
        exact absurd r (h4 j _ q)
      · rw [List.getElem?_set_ne ne] at r
        rw [List.getElem?_set_ne ne'] at r'
        exact rel.sep j k c b1 b2 q q' r r'
/-- the own list of a slot changes -/
theorem Rel.put {i : Nat} {b : Ob} {ds : List PyData} {vs : List V} {a : Addr} (rel : Rel K B P G H σ ρ) (e : ρ[i]? = some (.o b)) (ha : σ[i]? = some (some (.ref a))) (hd : DqAll K G vs ds) :
    Rel K B P G (upd H a (.lst vs)) σ (ρ.set i (.o (.lst ds))) := by
  obtain ⟨a', h1, h2, h3, h4⟩ := rel.own i b e
  rw [ha] at h1
  cases h1
  have hi : i < ρ.length := (List.getElem?_eq_some_iff.mp e).1
  refine ⟨fun c u q => ?_, fun c u q => ?_, rel.pin, by rw [List.length_set]; exact rel.len, fun j d q => ?_, fun j c q => ?_, fun j k c b1 b2 q q' r r' => ?_⟩
  · rw [upd_ne (ne_of_none q h2)]
    exact rel.sub _ _ q
  · obtain ⟨y1, y2⟩ := rel.bys c u q
    rw [upd_ne (ne_of_none q h3)]
    exact ⟨y1, y2⟩
  · rcases getElem_set_sl q with ⟨_, _, z⟩ | ⟨ne, q⟩
    · cases z
    · exact rel.val j d q
  · rcases getElem_set_sl q with ⟨rfl, hl, z⟩ | ⟨ne, q⟩
    · cases z
      exact ⟨a, ha, h2, h3, vs, upd_same, hd⟩
    · obtain ⟨c', y1, y2, y3, y4⟩ := rel.own j c q
      have hc : c' ≠ a := by
        rintro rfl
        exact ne (rel.sep i j c' b c e q ha y1)
      exact ⟨c', y1, y2, y3, y4.mono (Same.refl _) (upd_ne hc)⟩
  · have back : ∀ {j : Nat} {b1 : Ob}, (ρ.set i (.o (.lst ds)))[j]? = some (.o b1) → ∃ b1', ρ[j]? = some (.o b1') := fun q => by
      rcases getElem_set_sl q with ⟨rfl, _, _⟩ | ⟨_, q⟩
      · exact ⟨b, e⟩
      · exact ⟨_, q⟩
    obtain ⟨_, z1⟩ := back q
    obtain ⟨_, z2⟩ := back q'
    exact rel.sep j k c _ _ z1 z2 r r'
end

/-! ### wishes -/
/-- what comes out is as wished -/
def Post {α : Type} (o : Out α) (ok : α → Env → Prop) : Prop := match o with
  | .ok a ρ => ok a ρ
  | _ => False
theorem Post.out_ {α : Type} {o : Out α} {ok : α → Env → Prop} (h : Post o ok) : ∃ a ρ, o = .ok a ρ ∧ ok a ρ := by
  cases o with
  | ok a ρ => exact ⟨a, ρ, rfl, h⟩
  | _ => exact h.elim
theorem Post.bind {α β : Type} {o : Out α} {f : α → Env → Out β} {ok : β → Env → Prop} (h : Post (o.bind f) ok) : ∃ a ρ, o = .ok a ρ ∧ Post (f a ρ) ok := by
  cases o with
  | ok a ρ => exact ⟨a, ρ, rfl, h⟩
  | exc x ρ => exact h.elim
  | bad => exact h.elim
/-- the fixed part of a def's run -/
structure Fx where
  B : Hp
  P : List (Nat × V)
abbrev Fx.rel (F : Fx) (K : PySem.W.Frag) := Rel K F.B F.P
abbrev Fx.rr (F : Fx) (K : PySem.W.Frag) := RRel K F.B
section
variable (K : PySem.W.Frag) (F : Fx)
def EndE (G : Hp) (σ : L2.St) (Q : VK) : R → Env → Prop := fun r ρ' => ∀ G' H' x, Same G G' → F.rel K G' H' σ ρ' → F.rr K G' H' σ ρ' r x → Q x H'
def tE (m : Env → Out R) : TE := fun σ H Q => ∃ G ρ, F.rel K G H σ ρ ∧ Post (m ρ) (EndE K F G σ Q)
def EndA {α : Type} (Z : Hp → Hp → L2.St → Env → α → List V → Prop) (G : Hp) (σ : L2.St) (Q : List V → Hp → Prop) : α → Env → Prop := fun r ρ' => ∀ G' H' x, Same G G' → F.rel K G' H' σ ρ' → Z G' H' σ ρ' r x → Q x H'
def tA {α : Type} (Z : Hp → Hp → L2.St → Env → α → List V → Prop) (m : Env → Out α) : TA := fun σ H Q => ∃ G ρ, F.rel K G H σ ρ ∧ Post (m ρ) (EndA K F Z G σ Q)
def EndT (G : Hp) (σ : L2.St) (Q : Bool → Hp → Prop) : Bool → Env → Prop := fun b ρ' => ∀ G' H', Same G G' → F.rel K G' H' σ ρ' → Q b H'
def tT (m : Env → Out Bool) : TT := fun σ H Q => ∃ G ρ, F.rel K G H σ ρ ∧ Post (m ρ) (EndT K F G σ Q)
end
section
variable {K : PySem.W.Frag} {F : Fx} {G H : Hp} {σ : L2.St} {ρ : Env} {Q : VK}
theorem tE_in {m : Env → Out R} {r : R} {ρ' : Env} (rel : F.rel K G H σ ρ) (e : m ρ = .ok r ρ') (k : ∀ G' H' x, Same G G' → F.rel K G' H' σ ρ' → F.rr K G' H' σ ρ' r x → Q x H') : tE K F m σ H Q :=
  ⟨G, ρ, rel, by rw [e]; exact k⟩
/-- .. of an operand: it is no new list -/
theorem tE_opd {m : Env → Out R} {r : R} {ρ' : Env} (rel : F.rel K G H σ ρ) (e : (m ρ).opd = .ok r ρ') (k : ∀ G' H' x, Same G G' → F.rel K G' H' σ ρ' → F.rr K G' H' σ ρ' r x → (∀ b, r ≠ .o b) → Q x H') : tE K F m σ H Q := by
  unfold Out.opd at e
  cases q : m ρ with
  | ok r1 ρ1 =>
    rw [q] at e
    have e' : optR ρ1 (frz1 r1) = .ok r ρ' := e
    cases q2 : frz1 r1 with
    | none =>
      rw [q2] at e'
      cases e'
    | some r2 =>
      rw [q2] at e'
      cases e'
      refine tE_in rel q fun G' H' x s rel' rr => ?_
      obtain ⟨G2, s2, rl, rr2, no⟩ := rel'.frz1 rr q2
      exact k G2 H' x (Same.trans s s2) rl rr2 no
  | exc x ρ1 => rw [q] at e; cases e
  | bad => rw [q] at e; cases e
/-- .. of a value -/
theorem tE_frz {m : Env → Out R} {r : R} {ρ1 : Env} {d : PyData} {ρ' : Env} (rel : F.rel K G H σ ρ) (e : m ρ = .ok r ρ1) (e2 : frz r ρ1 = .ok d ρ') (k : ∀ G' H' x, Same G G' → F.rel K G' H' σ ρ' → Dq K G' x d → Q x H') : tE K F m σ H Q :=
  tE_in rel e fun G' H' x s rel' rr => by
    obtain ⟨G2, s2, rl, dp⟩ := rel'.frz rr e2
    exact k G2 H' x (Same.trans s s2) rl dp
end
section
variable {X : Cx}
/-- the rule is chosen when the wish is known -/
theorem pe_of {e : Expr} {t : TE} (h : ∀ σ H Q, t σ H Q → ∃ t', PE X e t' ∧ t' σ H Q) : PE X e t := ⟨fun pins s σ H Q I q => by
  obtain ⟨t', p, q'⟩ := h σ H Q q
  exact p.run pins s σ H Q I q'⟩
theorem pt_of {e : Expr} {t : TT} (h : ∀ σ H Q, t σ H Q → ∃ t', PT X e t' ∧ t' σ H Q) : PT X e t := ⟨fun pins s σ H Q I q => by
  obtain ⟨t', p, q'⟩ := h σ H Q q
  exact p.run pins s σ H Q I q'⟩
theorem pa_of {es : List Expr} {t : TA} (h : ∀ σ H Q, t σ H Q → ∃ t', PA X es t' ∧ t' σ H Q) : PA X es t := ⟨fun pos pins s σ H Q I q => by
  obtain ⟨t', p, q'⟩ := h σ H Q q
  exact p.run pos pins s σ H Q I q'⟩
theorem ps_of {st : Stmt} {t : TS} (h : ∀ D σ H, t D σ H → ∃ t', PS X st t' ∧ t' D σ H) : PS X st t := ⟨fun pins s σ H D I q => by
  obtain ⟨t', p, q'⟩ := h D σ H q
  exact p.run pins s σ H D I q'⟩
theorem pi_of {tg it : Expr} {t : TI} (h : ∀ σ H R, t σ H R → ∃ t', PI X tg it t' ∧ t' σ H R) : PI X tg it t := ⟨fun pins s σ H R I q => by
  obtain ⟨t', p, q'⟩ := h σ H R q
  exact p.run pins s σ H R I q'⟩
end

/-! ### operators by the data -/
/-- how a result of data in G comes to lie in the heap -/
inductive NewR (K : PySem.W.Frag) (G H : Hp) : Hp → Hp → R → V → Prop
  | val {d : PyData} {x : V} : Dq K G x d → NewR K G H G H (.v d) x
  | tup {p : Addr} {vs : List V} {ds : List PyData} : H p = none → DqAll K G vs ds → NewR K G H (upd G p (.tup vs)) (upd H p (.tup vs)) (.v (.tuple ds)) (.ref p)
  | lst {p : Addr} {vs : List V} {ds : List PyData} : H p = none → DqAll K G vs ds → NewR K G H G (upd H p (.lst vs)) (.o (.lst ds)) (.ref p)
theorem NewR.rel {K : PySem.W.Frag} {B : Hp} {P : List (Nat × V)} {G H G' H' : Hp} {σ : L2.St} {ρ : Env} {r : R} {x : V} (n : NewR K G H G' H' r x) (rel : Rel K B P G H σ ρ) : Same G G' ∧ Rel K B P G' H' σ ρ ∧ RRel K B G' H' σ ρ r x := by
  cases n with
  | val h => exact ⟨Same.refl _, rel, h⟩
  | tup hp h =>
    obtain ⟨s, rl⟩ := rel.grow (o := .tup _) hp
    exact ⟨s, rl, .tup (SqT.of upd_same) (DqAll.mono s h)⟩
  | lst hp h =>
    refine ⟨Same.refl _, rel.fresh hp, _, rfl, Same.free rel.sub hp, rel.bnone hp, ⟨_, upd_same, h⟩, fun i c e q => ?_⟩
    obtain ⟨a, h1, _, _, h4⟩ := rel.own i c e
    rw [q] at h1
    cases h1
    obtain ⟨u, hu⟩ := h4.some
    rw [hp] at hu
    cases hu
def rOp (K : PySem.W.Frag) (f : PyData → PyData → Option R) : R2 := fun x y H Q => ∃ G d e r, Same G H ∧ VRel K G H x d ∧ VRel K G H y e ∧ f d e = some r ∧ ∀ G' H' z, NewR K G H G' H' r z → Q z H'
def rCm (K : PySem.W.Frag) (f : PyData → PyData → Option Bool) : R2 := fun x y H Q => ∃ G d e b, Same G H ∧ VRel K G H x d ∧ VRel K G H y e ∧ f d e = some b ∧ Q (.bl b) H
theorem _root_.L2.OpR.imp {X : Cx} {f : Value → Value → Sem Value} {r r' : R2} (h : OpR X f r') (k : ∀ x y H Q, r x y H Q → r' x y H Q) : OpR X f r := fun pins s σ H x y v u Q I rx ry q => h pins s σ H x y v u Q I rx ry (k x y H Q q)
theorem _root_.L2.OpR.by_ {X : Cx} {f : Value → Value → Sem Value} {r : R2} (k : ∀ x y H Q, r x y H Q → ∃ r', OpR X f r' ∧ r' x y H Q) : OpR X f r := fun pins s σ H x y v u Q I rx ry q => by
  obtain ⟨r', h, q'⟩ := k x y H Q q
  exact h pins s σ H x y v u Q I rx ry q'
theorem Lm_eq : sizeLine = Lm := sizeLine_eq
theorem cmul_ok {i j : Int} (h : cmul i j = true) : CMul i j := by
  unfold cmul at h
  rw [Bool.or_eq_true, within_iff, within_iff] at h
  rcases h with h | h
  · exact .inr (by omega)
  · exact .inl (by omega)
theorem cpow_ok {i j : Int} (h : cpow i j = true) : CPow i j := by
  unfold cpow at h
  rw [Bool.and_eq_true, Bool.and_eq_true, within_iff, within_iff, leI_eq, decide_eq_true_iff] at h
  exact ⟨h.1.1, by omega, by omega⟩
section
variable {X : Cx}
def rCatL (K : PySem.W.Frag) : R2 := fun x y H Q => ∃ l b xs zs, x = .ref l ∧ y = .ref b ∧ SqL K H l xs ∧ SqL K H b zs ∧ xs.length + zs.length ≤ sizeLine ∧ ∀ p, H p = none → Q (.ref p) (upd H p (.lst (xs ++ zs)))
theorem op_catL : OpR X (binaryOp .Add) (rCatL X.K) := by
  intro pins s σ H x y v u Q I rx ry h
  obtain ⟨l, b, xs, zs, rfl, rfl, hl, hb, hz, q⟩ := h
  cases rx
  cases ry
  obtain ⟨is, r, ⟨⟨cls, dd, data, sl⟩, n, ho, hc, hdn, hd⟩, _⟩ := I.list hl
  obtain ⟨js, r2, ⟨⟨cls2, dd2, data2, sl2⟩, n2, ho2, hc2, hdn2, hd2⟩, _⟩ := I.list hb
  simp only at hc hd hc2 hd2
  subst hc hd hc2 hd2
  have l1 := r.length
  have l2 := r2.length
  refine concat_meets ⟨_, ho, rfl⟩ ⟨_, ho2, rfl⟩ noFill_list_add seq_list_add PySem.F.slot_list_add PySem.F.entry_list_add (PySem.F.args_list_add_2 _ _) (list_addW l b is.toArray js.toArray n n2 dd dd2 sl sl2 (by simp only [List.size_toArray]; omega)) ⟨ho, ho2, ?_⟩
  have ea : is.toArray ++ js.toArray = (is ++ js).toArray := by simp
  rw [ea]
  exact ⟨.ref _, _, Inv.lnew I (t' := s.toks) (r.append r2) (by rw [List.length_append]; exact hz), rfl, q _ (Inv.fresh I)⟩
theorem op_bin (op : Operator) : OpR X (binaryOp op) (rOp X.K (binOp op)) := OpR.by_ fun x y H Q q => by
  obtain ⟨G, d, e, r, sg, hx, hy, er, k⟩ := q
  unfold binOp at er
  split at er
  · cases er
    cases hx.int; cases hy.int
    exact ⟨_, op_add, _, _, rfl, rfl, k _ _ _ (.val (.int _))⟩
  · split at er
    · cases er
      cases hx.str; cases hy.str
      exact ⟨_, op_add_str, _, _, rfl, rfl, by rw [Lm_eq]; assumption, k _ _ _ (.val (.str _))⟩
    · cases er
  · split at er
    · cases er
      obtain ⟨a, vs, rfl, h1, h2⟩ := hx.list sg
      obtain ⟨b, ws, rfl, h3, h4⟩ := hy.list sg
      refine ⟨_, op_catL, _, _, _, _, rfl, rfl, h1, h3, by rw [h2.length, h4.length, Lm_eq]; assumption, fun p hp => k _ _ _ (.lst hp (h2.append h4))⟩
    · cases er
  · split at er
    · cases er
      obtain ⟨a, vs, rfl, h1, h2⟩ := hx.tup sg
      obtain ⟨b, ws, rfl, h3, h4⟩ := hy.tup sg
      refine ⟨_, op_catA, _, _, _, _, rfl, rfl, h1, h3, by rw [h2.length, h4.length, Lm_eq]; assumption, fun e => ?_, fun _ e => ?_, fun _ _ p hp => k _ _ _ (.tup hp (h2.append h4))⟩
      · subst e
        cases h2
        exact k _ _ _ (.val (hy.tupG))
      · subst e
        cases h4
        rw [List.append_nil] at k
        exact k _ _ _ (.val (hx.tupG))
    · cases er
  · cases er
    cases hx.int; cases hy.int
    exact ⟨_, op_sub, _, _, rfl, rfl, k _ _ _ (.val (.int _))⟩
  · split at er
    · cases er
      cases hx.int; cases hy.int
      exact ⟨_, op_mul, _, _, rfl, rfl, cmul_ok (by assumption), k _ _ _ (.val (.int _))⟩
    · cases er
  · split at er
    · rename_i hc
      cases er
      cases hx.int; cases hy.int
      rw [Bool.and_eq_true, within_iff, ltI_eq, decide_eq_true_iff] at hc
      exact ⟨_, op_fdiv, _, _, rfl, rfl, ⟨hc.1, Int.lt_of_le_of_lt hc.2.2 (by decide)⟩, k _ _ _ (.val (.int _))⟩
    · cases er
  · split at er
    · cases er
      cases hx.int; cases hy.int
      exact ⟨_, op_mod, _, _, rfl, rfl, by (rename_i hc; rw [ltI_eq, decide_eq_true_iff] at hc; exact hc), k _ _ _ (.val (.int _))⟩
    · cases er
  · split at er
    · cases er
      cases hx.int; cases hy.int
      exact ⟨_, op_pow, _, _, rfl, rfl, cpow_ok (by assumption), k _ _ _ (.val (.int _))⟩
    · cases er
  · split at er
    · cases er
      cases hx.int; cases hy.int
      exact ⟨_, op_shl, _, _, rfl, rfl, cpow_ok (by assumption), k _ _ _ (.val (.int _))⟩
    · cases er
  · cases er
end
end Rc

set_option Elab.async false
set_option linter.all false
set_option maxRecDepth 100000
set_option maxHeartbeats 1000000
/-! Lst: list of a text. -/
namespace Rc
open PySem PySem.Spec PyProof.Rows L2
theorem vals_signs {acc : Array Value} : ∀ (cs : List Nat) (k : Nat), (∀ (i : Nat) (c : Nat), cs[i]? = some c → ∃ t, acc.toList[k + i]? = some (.str ⟨#[c]⟩ t)) → acc.size = k + cs.length → Vals (cs.map fun c => V.str ⟨#[c]⟩) (acc.toList.drop k)
  | [], k, _, hz => by
    rw [List.drop_eq_nil_of_le (by simp at hz ⊢; omega)]
    exact .nil
  | c :: cs, k, h, hz => by
    obtain ⟨t, e⟩ := h 0 c rfl
    rw [Nat.add_zero] at e
    obtain ⟨hl, e'⟩ := List.getElem?_eq_some_iff.mp e
    rw [List.drop_eq_getElem_cons hl, e']
    refine .cons ⟨t, rfl⟩ (vals_signs cs (k + 1) (fun i d hd => ?_) (by rw [hz, List.length_cons]; omega))
    obtain ⟨t', e2⟩ := h (i + 1) d (by simpa using hd)
    exact ⟨t', by rw [show k + 1 + i = k + (i + 1) by omega]; exact e2⟩
theorem call_list_s {X : Cx} (hc : X.calm = true) : CallR X (.type "list") (fun xs H Q => ∃ z : Str, xs = [.str z] ∧ z.length ≤ sizeLine ∧ ∀ l, H l = none → Q (.ref l) (upd H l (.lst (z.cps.toList.map fun c => V.str ⟨#[c]⟩)))) := by
  intro pins s σ H xs us Q I r h
  obtain ⟨z, rfl, hz, q⟩ := h
  obtain ⟨u, rfl, rx⟩ := vals1 r
  obtain ⟨t, rfl⟩ := rx
  refine call_list_str (I.ok.hd hc) z t (fun h' tk acc c kp e ia => ?_) hz
  have rv : Vals (z.cps.toList.map fun c => V.str ⟨#[c]⟩) acc.toList := by
    have w := vals_signs (acc := acc) z.cps.toList 0 (fun i c hi => ?_) (by rw [ia.1]; simp)
    · exact w
    · rw [Array.getElem?_toList] at hi
      have hl := (Array.getElem?_eq_some_iff.mp hi).1
      have hl2 : i < acc.size := by rw [ia.1]; exact hl
      obtain ⟨c', u, e1, e2⟩ := ia.2 i acc[i] (by simp [hl2])
      rw [hi] at e1
      cases e1
      exact ⟨u, by rw [Nat.zero_add, Array.getElem?_toList, ← e2]; simp [hl2]⟩
  have le : h'.get? s.heap.objs.size = some { cls := .type "list", data := .seq acc.toList.toArray c } := by
    have ea : acc.toList.toArray = acc := by simp
    rw [ea]
    exact e
  exact ⟨.ref s.heap.objs.size, _, I.laid (t' := tk) kp (Nat.le_refl _) (show ObjOk X.prog X.w _ h' _ (.lst _) from ⟨by rw [List.length_map, Array.length_toList]; exact hz, acc.toList, c, rv, le⟩), rfl, q _ (I.hok.fresh (Nat.le_refl _))⟩
end Rc

set_option Elab.async false
set_option linter.all false
set_option maxRecDepth 100000
set_option maxHeartbeats 1000000
namespace Rc
open PySem PySem.Spec PyProof.Rows L2
section
variable {X : Cx}
theorem fl {α : Type} {a b : α} (h : none = some a) : b = b ∧ False := by cases h
theorem scal_int {i j : Int} : scal (.int i) (.int j) = true := rfl
theorem isNone_dq {K : PySem.W.Frag} {G H : Hp} {x : V} {d : PyData} (h : VRel K G H x d) : decide (x = .non) = isNone d := by
  rcases h with h | ⟨a, vs, ds, rfl, rfl, h1, h2⟩
  · cases h <;> rfl
  · rfl
theorem str1 {x : Str} {c : Nat} (h : x.cps.toList = [c]) : x = ⟨#[c]⟩ := by
  obtain ⟨a⟩ := x
  have e : a = #[c] := by
    have := congrArg List.toArray h
    simpa using this
  rw [e]
/-- data of any depth in a tuple -/
theorem op_inT (hu : X.A.units + 65 < cLine) : OpR X (compareOp .In) (fun x y H Q => ∃ d ds, Dp X.K H x d ∧ Dp X.K H y (.tuple ds) ∧ SeqAt.shaped d = true ∧ SeqAt.shaped (.list ds) = true ∧ Q (.bl (ds.any fun z => PyData.eqv z d)) H) := by
  rintro pins s σ H x y v u Q I rx ry ⟨d, ds, hd, he, sd, se, q⟩
  obtain ⟨as, r1⟩ := Dp.reads I _ x v hd rx
  obtain ⟨bs, r2⟩ := Dp.reads I _ y u he ry
  refine SeqAt.in_tuple_reads r2 r1 ?_ (SeqAt.canLay_of_shaped sd) (room_in_shaped sd hu) ⟨.bl _, H, I, rfl, q⟩
  exact SeqAt.canLay_of_shaped se
theorem op_notInT (hu : X.A.units + 65 < cLine) : OpR X (compareOp .NotIn) (fun x y H Q => ∃ d ds, Dp X.K H x d ∧ Dp X.K H y (.tuple ds) ∧ SeqAt.shaped d = true ∧ SeqAt.shaped (.list ds) = true ∧ Q (.bl (!ds.any fun z => PyData.eqv z d)) H) := by
  rintro pins s σ H x y v u Q I rx ry ⟨d, ds, hd, he, sd, se, q⟩
  obtain ⟨as, r1⟩ := Dp.reads I _ x v hd rx
  obtain ⟨bs, r2⟩ := Dp.reads I _ y u he ry
  refine SeqAt.notIn_tuple_reads r2 r1 ?_ (SeqAt.canLay_of_shaped sd) (room_in_shaped sd hu) ⟨.bl _, H, I, rfl, q⟩
  exact SeqAt.canLay_of_shaped se
theorem eqD_general {a b : PyData} {r : Bool} (h : (if SeqAt.shaped a && SeqAt.shaped b then some (PyData.eqv a b) else none) = some r) : SeqAt.shaped a = true ∧ SeqAt.shaped b = true ∧ PyData.eqv a b = r := by
  split at h
  · rename_i hs
    cases h
    simp only [Bool.and_eq_true] at hs
    exact ⟨hs.1, hs.2, rfl⟩
  · cases h
theorem eq_rule (hu : X.A.units + 65 < cLine) {x y : V} {G H : Hp} {d e : PyData} {b : Bool} (sg : Same G H) (hx : VRel X.K G H x d) (hy : VRel X.K G H y e) (h : eqD d e = some b) {Q : VK} (q : Q (.bl b) H) :
    ∃ r', OpR X (compareOp .Eq) r' ∧ r' x y H Q := by
  unfold eqD at h
  split at h
  · cases h
    cases hx.int; cases hy.int
    exact ⟨_, op_eq, rfl, by simpa only [V.int.injEq] using q⟩
  · cases h
    cases hx.str; cases hy.str
    exact ⟨_, op_eq, rfl, by simpa only [V.str.injEq] using q⟩
  · cases h
    cases hx.non; cases hy.non
    exact ⟨_, op_eq, rfl, q⟩
  · cases h
    cases hx.bl; cases hy.bl
    exact ⟨_, op_eq, rfl, by simpa only [V.bl.injEq] using q⟩
  · obtain ⟨h1, h2, h3⟩ := eqD_general h
    exact ⟨_, op_eqD (by omega), _, _, (hx.dq sg).dp, (hy.dq sg).dp, h1, h2, by rw [h3]; exact q⟩
theorem ne_rule (hu : X.A.units + 65 < cLine) {x y : V} {G H : Hp} {d e : PyData} {b : Bool} (sg : Same G H) (hx : VRel X.K G H x d) (hy : VRel X.K G H y e) (h : eqD d e = some b) {Q : VK} (q : Q (.bl (!b)) H) :
    ∃ r', OpR X (compareOp .NotEq) r' ∧ r' x y H Q := by
  unfold eqD at h
  split at h
  · cases h
    cases hx.int; cases hy.int
    exact ⟨_, op_ne, rfl, by simpa only [V.int.injEq] using q⟩
  · cases h
    cases hx.str; cases hy.str
    exact ⟨_, op_ne, rfl, by simpa only [V.str.injEq] using q⟩
  · cases h
    cases hx.non; cases hy.non
    exact ⟨_, op_ne, rfl, q⟩
  · cases h
    cases hx.bl; cases hy.bl
    exact ⟨_, op_ne, rfl, by simpa only [V.bl.injEq] using q⟩
  · obtain ⟨h1, h2, h3⟩ := eqD_general h
    exact ⟨_, op_neD (by omega), _, _, (hx.dq sg).dp, (hy.dq sg).dp, h1, h2, by rw [h3]; exact q⟩
theorem inD_shaped {x : PyData} {ys : List PyData} {b : Bool} (h : inD x ys = some b) : SeqAt.shaped x = true ∧ SeqAt.shaped (.list ys) = true ∧ (ys.any fun y => PyData.eqv y x) = b := by
  unfold inD at h
  split at h
  · rename_i hs
    cases h
    simp only [Bool.and_eq_true] at hs
    exact ⟨hs.1, hs.2, rfl⟩
  · cases h
theorem map_not {o : Option Bool} {b : Bool} (h : o.map (!·) = some b) : o = some (!b) := by
  cases o with
  | none => cases h
  | some c =>
    cases h
    simp
theorem op_cm (hu : X.A.units + 65 < cLine) (op : CmpOp) : OpR X (compareOp op) (rCm X.K (cmpOp op)) := OpR.by_ fun x y H Q q => by
  obtain ⟨G, d, e, b, sg, hx, hy, er, k⟩ := q
  unfold cmpOp at er
  simp only [ltI_eq, leI_eq] at er
  split at er
  · exact eq_rule hu sg hx hy er k
  · have e2 := map_not er
    exact ne_rule hu sg hx hy e2 (by rw [Bool.not_not]; exact k)
  · cases er
    cases hx.int; cases hy.int
    exact ⟨_, op_lt, _, _, rfl, rfl, k⟩
  · cases er
    cases hx.int; cases hy.int
    exact ⟨_, op_le, _, _, rfl, rfl, k⟩
  · cases er
    cases hx.int; cases hy.int
    exact ⟨_, op_gt, _, _, rfl, rfl, k⟩
  · cases er
    cases hx.int; cases hy.int
    exact ⟨_, op_ge, _, _, rfl, rfl, k⟩
  · cases er
    cases hy.non
    exact ⟨_, op_isN, rfl, by rw [isNone_dq hx]; exact k⟩
  · cases er
    cases hy.non
    exact ⟨_, op_notN, rfl, by rw [isNone_dq hx]; exact k⟩
  · cases er
    cases hx.str; cases hy.str
    unfold inStr at k
    split at k
    · rename_i c hc
      rw [str1 hc]
      exact ⟨_, op_in_sign, _, _, rfl, rfl, k⟩
    · exact ⟨_, op_in_str, _, _, rfl, rfl, k⟩
  · cases er
    cases hx.str; cases hy.str
    unfold inStr at k
    split at k
    · rename_i c hc
      rw [str1 hc]
      exact ⟨_, op_notIn_sign, _, _, rfl, rfl, k⟩
    · exact ⟨_, L2.op_notIn_str, _, _, rfl, rfl, k⟩
  · obtain ⟨h1, h2, h3⟩ := inD_shaped er
    exact ⟨_, op_inD hu, _, _, (hx.dq sg).dp, (hy.dq sg).dp, h1, h2, by rw [h3]; exact k⟩
  · obtain ⟨h1, h2, h3⟩ := inD_shaped (map_not er)
    exact ⟨_, op_notInD hu, _, _, (hx.dq sg).dp, (hy.dq sg).dp, h1, h2, by rw [h3, Bool.not_not]; exact k⟩
  · obtain ⟨h1, h2, h3⟩ := inD_shaped er
    exact ⟨_, op_inT hu, _, _, (hx.dq sg).dp, (hy.dq sg).dp, h1, h2, by rw [h3]; exact k⟩
  · obtain ⟨h1, h2, h3⟩ := inD_shaped (map_not er)
    exact ⟨_, op_notInT hu, _, _, (hx.dq sg).dp, (hy.dq sg).dp, h1, h2, by rw [h3, Bool.not_not]; exact k⟩
  · cases er

/-! ### items -/
theorem atI_dq {K : PySem.W.Frag} {G : Hp} {vs : List V} {ds : List PyData} {i : Int} {d : PyData} (h : DqAll K G vs ds) (e : atI ds i = some d) : ∃ v, atI vs i = some v ∧ Dq K G v d := by
  unfold atI at e ⊢
  rw [h.length]
  cases q : ixN ds.length i with
  | none =>
    rw [q] at e
    cases e
  | some j =>
    rw [q] at e
    exact h.get (show ds[j]? = some d from e)
def rSub (K : PySem.W.Frag) : R2 := fun x y H Q => ∃ G d e r, Same G H ∧ VRel K G H x d ∧ VRel K G H y e ∧ subOp d e = some r ∧ ∀ z, Dq K G z r → Q z H
theorem IxR.by_ {r : R2} (k : ∀ x y H Q, r x y H Q → ∃ r', IxR X r' ∧ r' x y H Q) : IxR X r := fun value slice pins s σ H x y v u Q I rx ry q hs => by
  obtain ⟨r', h, q'⟩ := k x y H Q q
  exact h value slice pins s σ H x y v u Q I rx ry q' hs
theorem ix_sub : IxR X (rSub X.K) := IxR.by_ fun x y H Q q => by
  obtain ⟨G, d, e, r, sg, hx, hy, er, k⟩ := q
  unfold subOp at er
  split at er
  · cases hy.int
    obtain ⟨a, vs, rfl, h1, h2⟩ := hx.list sg
    obtain ⟨v, e1, e2⟩ := atI_dq h2 er
    exact ⟨_, ix_list, _, _, _, _, rfl, rfl, h1, e1, k _ e2⟩
  · cases hy.int
    obtain ⟨a, vs, rfl, h1, h2⟩ := hx.tup sg
    obtain ⟨v, e1, e2⟩ := atI_dq h2 er
    exact ⟨_, ix_tup, _, _, _, _, rfl, rfl, h1, e1, k _ e2⟩
  · cases hy.int
    cases hx.str
    split at er
    · obtain ⟨c, e1, e2⟩ := Option.map_eq_some_iff.mp er
      cases e2
      exact ⟨_, ix_str, _, _, _, rfl, rfl, by rw [Lm_eq]; assumption, e1, k _ (.str _)⟩
    · cases er
  · cases er

/-! ### slices -/
def rSlc (K : PySem.W.Frag) : V → Option Int → Option Int → Hp → VK → Prop := fun x lo hi H Q => ∃ G d r, Same G H ∧ VRel K G H x d ∧ slcOp d lo hi = some r ∧ ∀ G' H' z, NewR K G H G' H' r z → Q z H'
theorem SlR.by_ {r : V → Option Int → Option Int → Hp → VK → Prop} (k : ∀ x lo hi H Q, r x lo hi H Q → ∃ r', SlR X r' ∧ r' x lo hi H Q) : SlR X r := fun pins s σ H x v vl vu lo hi sl Q I rx hs pl pu q => by
  obtain ⟨r', h, q'⟩ := k x lo hi H Q q
  exact h pins s σ H x v vl vu lo hi sl Q I rx hs pl pu q'
theorem cut_dq {K : PySem.W.Frag} {G : Hp} {vs : List V} {ds : List PyData} (lo hi : Option Int) (h : DqAll K G vs ds) : DqAll K G (cutV vs lo hi) (cut ds lo hi) := by
  unfold cutV cut
  rw [h.length]
  exact (h.drop _).take _
theorem cut_whole {ds : List PyData} {lo hi : Option Int} (h : HT.sIx ds.length 0 lo = 0 ∧ HT.sIx ds.length ds.length hi = ds.length) : cut ds lo hi = ds := by
  unfold cut
  rw [h.1, h.2, Nat.sub_zero, List.drop_zero, List.take_length]
theorem sl_slc : SlR X (rSlc X.K) := SlR.by_ fun x lo hi H Q q => by
  obtain ⟨G, d, r, sg, hx, er, k⟩ := q
  unfold slcOp at er
  split at er
  · cases er
    obtain ⟨a, vs, rfl, h1, h2⟩ := hx.list sg
    exact ⟨_, sl_list, _, _, rfl, h1, fun p hp => k _ _ _ (.lst hp (cut_dq lo hi h2))⟩
  · cases er
    have hg := hx.tupG
    obtain ⟨a, vs, rfl, h1, h2⟩ := hx.tup sg
    refine ⟨_, sl_tupA, _, _, rfl, h1, fun e => ?_, fun _ p hp => k _ _ _ (.tup hp (cut_dq lo hi h2))⟩
    rw [h2.length] at e
    rw [cut_whole e] at k
    exact k _ _ _ (.val hg)
  · rename_i z
    split at er
    · cases er
      cases hx.str
      refine ⟨_, sl_str, _, rfl, by rw [Lm_eq]; assumption, k _ _ _ (.val ?_)⟩
      have e : cutS z lo hi = ⟨(cut z.cps.toList lo hi).toArray⟩ := by
        unfold cutS cut
        rw [Array.length_toList]
        rfl
      rw [e]
      exact .str _
    · cases er
  · cases er

/-! ### built-ins -/
inductive VAll (K : PySem.W.Frag) (G H : Hp) : List V → List PyData → Prop
  | nil : VAll K G H [] []
  | cons {x : V} {xs : List V} {d : PyData} {ds : List PyData} : VRel K G H x d → VAll K G H xs ds → VAll K G H (x :: xs) (d :: ds)
def rBi (K : PySem.W.Frag) (f : List PyData → Option R) : List V → Hp → VK → Prop := fun xs H Q => ∃ G ds r, Same G H ∧ VAll K G H xs ds ∧ f ds = some r ∧ ∀ G' H' z, NewR K G H G' H' r z → Q z H'
theorem CallR.by_ {f : Value} {r : List V → Hp → VK → Prop} (k : ∀ xs H Q, r xs H Q → ∃ r', CallR X f r' ∧ r' xs H Q) : CallR X f r := fun pins s σ H xs us Q I rv q => by
  obtain ⟨r', h, q'⟩ := k xs H Q q
  exact h pins s σ H xs us Q I rv q'
theorem bools_dq {K : PySem.W.Frag} {G : Hp} : ∀ {ds : List PyData} {vs : List V} {bs : List Bool}, DqAll K G vs ds → bools ds = some bs → vs = bs.map V.bl
  | [], _, _, h, e => by
    cases h
    cases e
    rfl
  | d :: ds, _, bs, h, e => by
    cases h with
    | cons h1 h2 =>
      cases d with
      | bool b =>
        cases h1
        obtain ⟨cs, e1, e2⟩ := Option.map_eq_some_iff.mp (show (bools ds).map (b :: ·) = some bs from e)
        subst e2
        rw [bools_dq h2 e1]
        rfl
      | _ => cases e
theorem ints_dq {K : PySem.W.Frag} {G : Hp} : ∀ {ds : List PyData} {vs : List V} {bs : List Int}, DqAll K G vs ds → intsD ds = some bs → vs = bs.map V.int
  | [], _, _, h, e => by
    cases h
    cases e
    rfl
  | d :: ds, _, bs, h, e => by
    cases h with
    | cons h1 h2 =>
      cases d with
      | int b =>
        cases h1
        obtain ⟨cs, e1, e2⟩ := Option.map_eq_some_iff.mp (show (intsD ds).map (b :: ·) = some bs from e)
        subst e2
        rw [ints_dq h2 e1]
        rfl
      | _ => cases e
theorem strs_dq {K : PySem.W.Frag} {G : Hp} : ∀ {ds : List PyData} {vs : List V} {bs : List Str}, DqAll K G vs ds → strsD ds = some bs → vs = bs.map V.str
  | [], _, _, h, e => by
    cases h
    cases e
    rfl
  | d :: ds, _, bs, h, e => by
    cases h with
    | cons h1 h2 =>
      cases d with
      | str b =>
        cases h1
        obtain ⟨cs, e1, e2⟩ := Option.map_eq_some_iff.mp (show (strsD ds).map (b :: ·) = some bs from e)
        subst e2
        rw [strs_dq h2 e1]
        rfl
      | _ => cases e
/-- what the name of a built-in stands for -/
def biVal : Bi → Value
  | .len => .builtin "len"
  | .int_ => .type "int"
  | .abs => .builtin "abs"
  | .list_ => .type "list"
  | .tuple_ => .type "tuple"
  | .all_ => .builtin "all"
  | .any_ => .builtin "any"
  | .min2 => .builtin "min"
  | .max2 => .builtin "max"
  | .str_ => .type "str"
  | .sum_ => .builtin "sum"
  | .ord_ => .builtin "ord"
theorem bi_ok (hc : X.calm = true) (b : Bi) : CallR X (biVal b) (rBi X.K (biOp b)) := CallR.by_ fun xs H Q q => by
  obtain ⟨G, ds, r, sg, hv, er, k⟩ := q
  unfold biOp at er
  split at er
  · cases er
    cases hv with
    | cons h1 h2 =>
      cases h2
      obtain ⟨a, vs, rfl, g1, g2⟩ := h1.list sg
      exact ⟨_, call_len_seq, _, _, rfl, .inl g1, by rw [g2.length]; exact k _ _ _ (.val (.int _))⟩
  · cases er
    cases hv with
    | cons h1 h2 =>
      cases h2
      obtain ⟨a, vs, rfl, g1, g2⟩ := h1.tup sg
      exact ⟨_, call_len_seq, _, _, rfl, .inr g1, by rw [g2.length]; exact k _ _ _ (.val (.int _))⟩
  · split at er
    · cases er
      cases hv with
      | cons h1 h2 =>
        cases h2
        cases h1.str
        exact ⟨_, call_len_str, _, rfl, by rw [Lm_eq]; assumption, k _ _ _ (.val (.int _))⟩
    · cases er
  · cases er
    cases hv with
    | cons h1 h2 =>
      cases h2
      cases h1.int
      exact ⟨_, call_int1, .inl ⟨_, rfl, k _ _ _ (.val (.int _))⟩⟩
  · cases er
    cases hv with
    | cons h1 h2 =>
      cases h2
      cases h1.int
      rename_i i0
      have ea : ((i0.natAbs : Nat) : Int) = (if i0 < 0 then -i0 else i0) := by omega
      rw [ea] at k
      exact ⟨_, call_abs, _, rfl, k _ _ _ (.val (.int _))⟩
  · cases er
    cases hv with
    | cons h1 h2 =>
      cases h2
      obtain ⟨a, vs, rfl, g1, g2⟩ := h1.list sg
      exact ⟨_, call_list_of, _, _, rfl, .inl g1, fun l hl => k _ _ _ (.lst hl g2)⟩
  · cases er
    cases hv with
    | cons h1 h2 =>
      cases h2
      obtain ⟨a, vs, rfl, g1, g2⟩ := h1.tup sg
      exact ⟨_, call_list_of, _, _, rfl, .inr g1, fun l hl => k _ _ _ (.lst hl g2)⟩
  · split at er
    · rename_i hlen
      cases er
      cases hv with
      | cons h1 h2 =>
        cases h2
        cases h1.str
        rename_i z0
        refine ⟨_, call_list_s hc, _, rfl, by rw [Lm_eq]; exact hlen, fun l hl => k _ _ _ (.lst hl ?_)⟩
        have all : ∀ cs : List Nat, DqAll X.K G (cs.map fun c => V.str ⟨#[c]⟩) (cs.map sign) := fun cs => by
          induction cs with
          | nil => exact .nil
          | cons c cs ih => exact .cons (.str _) ih
        exact all _
    · cases er
  · cases er
    cases hv with
    | cons h1 h2 =>
      cases h2
      obtain ⟨a, vs, rfl, g1, g2⟩ := h1.list sg
      exact ⟨_, call_tuple_of, _, _, rfl, .inl ⟨g1, fun l hl => k _ _ _ (.tup hl g2)⟩⟩
  · cases er
    cases hv with
    | cons h1 h2 =>
      cases h2
      have hg := h1.tupG
      obtain ⟨a, vs, rfl, g1, g2⟩ := h1.tup sg
      exact ⟨_, call_tuple_of, _, _, rfl, .inr ⟨g1, k _ _ _ (.val hg)⟩⟩
  · obtain ⟨bs, e1, e2⟩ := Option.map_eq_some_iff.mp er
    cases e2
    cases hv with
    | cons h1 h2 =>
      cases h2
      obtain ⟨a, vs, rfl, g1, g2⟩ := h1.list sg
      rw [bools_dq g2 e1] at g1
      exact ⟨_, cr_all hc, _, _, rfl, g1, k _ _ _ (.val (.bl _))⟩
  · obtain ⟨bs, e1, e2⟩ := Option.map_eq_some_iff.mp er
    cases e2
    cases hv with
    | cons h1 h2 =>
      cases h2
      obtain ⟨a, vs, rfl, g1, g2⟩ := h1.list sg
      rw [bools_dq g2 e1] at g1
      exact ⟨_, cr_any hc, _, _, rfl, g1, k _ _ _ (.val (.bl _))⟩
  · cases er
    cases hv with
    | cons h1 h2 =>
      cases h2 with
      | cons h3 h4 =>
        cases h4
        cases h1.int
        cases h3.int
        simp only [ltI_eq, decide_eq_true_eq] at k
        exact ⟨_, call_min2 hc, _, _, rfl, k _ _ _ (.val (.int _))⟩
  · cases er
    cases hv with
    | cons h1 h2 =>
      cases h2 with
      | cons h3 h4 =>
        cases h4
        cases h1.int
        cases h3.int
        simp only [ltI_eq, decide_eq_true_eq] at k
        exact ⟨_, call_max2 hc, _, _, rfl, k _ _ _ (.val (.int _))⟩
  · obtain ⟨bs, e1, e2⟩ := Option.map_eq_some_iff.mp er
    cases e2
    cases hv with
    | cons h1 h2 =>
      cases h2
      obtain ⟨a, vs, rfl, g1, g2⟩ := h1.list sg
      rw [ints_dq g2 e1] at g1
      exact ⟨_, cr_sum hc, _, _, rfl, g1, k _ _ _ (.val (.int _))⟩
  · cases er
/-! ### isinstance -/
theorem tyX_dq {K : PySem.W.Frag} {G H : Hp} {x : V} {d : PyData} (sg : Same G H) (h : VRel K G H x d) (nd : tyOf d ≠ "dict") : TyX K H x (.type (tyOf d)) := by
  have key : Dq K H x d := h.dq sg
  cases key with
  | non => exact .base .non
  | bl b => exact .base (.bl b)
  | int i => exact .base (.int i)
  | str i => exact .base (.str i)
  | lst h1 h2 =>
    rcases h1 with (h1 | ⟨o, h1⟩) | ⟨o, its, n, h1, h3, _⟩
    · exact .base (.lst h1)
    · exact .base (.frz h1)
    · exact .kList h1 h3
  | tup h1 h2 =>
    rcases h1 with (h1 | ⟨o, h1⟩) | ⟨o, its, n, h1, h3, _⟩
    · exact .base (.tup h1)
    · exact .fTuple h1
    · exact .kTuple h1 h3
theorem dq_ty {K : PySem.W.Frag} {H : Hp} {x : V} {d : PyData} (h : Dq K H x d) : tyOf d = "NoneType" ∨ tyOf d = "bool" ∨ tyOf d = "int" ∨ tyOf d = "str" ∨ tyOf d = "list" ∨ tyOf d = "tuple" := by
  cases h <;> simp [tyOf]
def isTys : List String := ["int", "bool", "str", "tuple", "list"]
theorem kit_all {K : PySem.W.Frag} {a t : String} (ht : t ∈ isTys) (ha : a = "NoneType" ∨ a = "bool" ∨ a = "int" ∨ a = "str" ∨ a = "list" ∨ a = "tuple") : PySem.W.kitOne K (.type a) (.type t) = some (isTy a t) := by
  refine kit_ty ?_
  have all : (isTys.all fun t => ["NoneType", "bool", "int", "str", "list", "tuple"].all fun a => kitB a t == some (isTy a t)) = true := by decide +kernel
  have h1 := List.all_eq_true.mp all t ht
  have h2 := List.all_eq_true.mp h1 a (by simp only [List.mem_cons, List.not_mem_nil, or_false]; exact ha)
  exact eq_of_beq h2
def rIst (K : PySem.W.Frag) (t : String) : List V → Hp → VK → Prop := fun xs H Q => ∃ G x d, xs = [x, .ty t] ∧ Same G H ∧ VRel K G H x d ∧ Q (.bl (isTy (tyOf d) t)) H
theorem ist_ok {t : String} (ht : t ∈ isTys) : CallR X (.builtin "isinstance") (rIst X.K t) := CallR.by_ fun xs H Q q => by
  obtain ⟨G, x, d, rfl, sg, hx, k⟩ := q
  have hd := dq_ty (hx.dq sg)
  exact ⟨_, call_isi, x, _, _, _, _, rfl, .ty t, tyX_dq sg hx (by rcases hd with e | e | e | e | e | e <;> rw [e] <;> decide), kit_all ht hd, k⟩
end
end Rc

set_option Elab.async false
set_option linter.all false
set_option maxRecDepth 100000
set_option maxHeartbeats 1000000
namespace Rc
open PySem PySem.Spec PyProof.Rows L2
theorem _root_.Rc.Post.no {α : Type} {ok : α → Env → Prop} (h : Post (.bad : Out α) ok) : False := h
theorem optR_post {ρ : Env} {o : Option R} {ok : R → Env → Prop} (h : Post (optR ρ o) ok) : ∃ r, o = some r ∧ ok r ρ := by
  cases o with
  | none => exact h.elim
  | some r => exact ⟨r, rfl, h⟩
theorem optV_post {ρ : Env} {o : Option PyData} {ok : R → Env → Prop} (h : Post (optV ρ o) ok) : ∃ r, o = some r ∧ ok (.v r) ρ := by
  cases o with
  | none => exact h.elim
  | some r => exact ⟨r, rfl, h⟩
theorem optB_post {ρ : Env} {o : Option Bool} {ok : R → Env → Prop} (h : Post (optB ρ o) ok) : ∃ r, o = some r ∧ ok (.v (.bool r)) ρ := by
  cases o with
  | none => exact h.elim
  | some r => exact ⟨r, rfl, h⟩
section
variable {X : Cx} {F : Fx} {W : Wd} {pos : Pos}
abbrev PEv (X : Cx) (F : Fx) (W : Wd) (e : Expr) (d : Ex) : Prop := PE X e (tE X.K F (ev W d))
theorem ev_var {i : Nat} {x : Str} (hN : X.N[i]? = some x) (hv : Vis X.env.scope x) (hd : (x == ("__debug__" : Str)) = false) (hcd : (x == ("__classdict__" : Str)) = false) : PEv X F W (.Name x pos) (.var i) := pe_of fun σ H Q h => by
  obtain ⟨G, ρ, rel, post⟩ := h
  refine ⟨_, pe_var (i := i) hN hv hd hcd, ?_⟩
  have post : Post (match ρ[i]? with
    | some (.v d) => Out.ok (R.v d) ρ
    | some (.o _) => .ok (R.s i) ρ
    | _ => .bad) (EndE X.K F G σ Q) := post
  split at post
  · rename_i d e
    obtain ⟨x, h1, h2⟩ := rel.val i d e
    exact ⟨x, h1, post G H x (Same.refl _) rel h2⟩
  · rename_i b e
    obtain ⟨a, h1, h2⟩ := rel.own i b e
    exact ⟨_, h1, post G H _ (Same.refl _) rel h1⟩
  · exact post.elim
theorem ev_con {e : Expr} {d : Ex} {v : V} {dt : PyData} (h : PE X e (tC v)) (he : ∀ ρ, ev W d ρ = .ok (.v dt) ρ) (hd : ∀ G, Dq X.K G v dt) : PEv X F W e d := pe_of fun σ H Q q => by
  obtain ⟨G, ρ, rel, post⟩ := q
  refine ⟨_, h, ?_⟩
  rw [he] at post
  exact post G H v (Same.refl _) rel (hd G)
theorem ev_int {n : Int} {j : Nat} : PEv X F W (.Constant (.int n) j pos) (.int n) := ev_con pe_int (fun _ => rfl) fun _ => .int n
theorem ev_str {n : Str} {j : Nat} : PEv X F W (.Constant (.str n) j pos) (.str n) := ev_con pe_str (fun _ => rfl) fun _ => .str n
theorem ev_bl {n : Bool} {j : Nat} : PEv X F W (.Constant (.bool n) j pos) (.bl n) := ev_con pe_bl (fun _ => rfl) fun _ => .bl n
theorem ev_non {j : Nat} : PEv X F W (.Constant .none j pos) .non := ev_con pe_non (fun _ => rfl) fun _ => .non
theorem ev_glob {g : Nat} {x : Str} {v : V} {u : Value} (hg : Gl X x) (hm : X.mg x = some u) (r : RelV v u) (hd : ∀ G, Dq X.K G v (W.C g)) (hdb : (x == ("__debug__" : Str)) = false) : PEv X F W (.Name x pos) (.glob g) :=
  ev_con (pe_glob hg hm r hdb) (fun _ => rfl) hd
variable {a b c : Expr} {ea eb ec : Ex}
theorem ev_bin {op : Operator} (ha : PEv X F W a ea) (hb : PEv X F W b eb) : PEv X F W (.BinOp a op b pos) (.bin op ea eb) := pe_of fun σ H Q h => by
  obtain ⟨G, ρ, rel, post⟩ := h
  obtain ⟨x, ρ1, e1, post_⟩ := Post.bind post; clear post; have post := post_; clear post_
  obtain ⟨y, ρ2, e2, post_⟩ := Post.bind post; clear post; have post := post_; clear post_
  split at post
  · rename_i d e hd he
    obtain ⟨r, er, k⟩ := optR_post post
    refine ⟨_, pe_op (op_bin op) ha hb, ?_⟩
    refine tE_opd rel e1 fun G1 H1 vx s1 rel1 rr1 no1 => tE_opd rel1 e2 fun G2 H2 vy s2 rel2 rr2 _ => ?_
    refine ⟨G2, d, e, r, rel2.sub, rel2.view (rr1.mono s2 no1) hd, rel2.view rr2 he, er, fun G' H' z n => ?_⟩
    obtain ⟨s3, rel3, rr3⟩ := n.rel rel2
    exact k G' H' z (s1.trans (s2.trans s3)) rel3 rr3
  · exact post.elim
theorem wish_cmp {op : CmpOp} : ∀ σ H Q, tE X.K F (ev W (.cmp op ea eb)) σ H Q → tOp (rCm X.K (cmpOp op)) (tE X.K F (ev W ea)) (tE X.K F (ev W eb)) σ H Q := fun σ H Q h => by
  obtain ⟨G, ρ, rel, post⟩ := h
  obtain ⟨x, ρ1, e1, post_⟩ := Post.bind post; clear post; have post := post_; clear post_
  obtain ⟨y, ρ2, e2, post_⟩ := Post.bind post; clear post; have post := post_; clear post_
  split at post
  · rename_i d e hd he
    obtain ⟨r, er, k⟩ := optB_post post
    refine tE_opd rel e1 fun G1 H1 vx s1 rel1 rr1 no1 => tE_opd rel1 e2 fun G2 H2 vy s2 rel2 rr2 _ => ?_
    exact ⟨G2, d, e, r, rel2.sub, rel2.view (rr1.mono s2 no1) hd, rel2.view rr2 he, er, k G2 H2 _ (s1.trans s2) rel2 (.bl r)⟩
  · exact post.elim
theorem ev_cmp {op : CmpOp} (hu : X.A.units + 65 < cLine) (ha : PEv X F W a ea) (hb : PEv X F W b eb) (hm : behindInMarks op b = false) : PEv X F W (.Compare a [op] [b] pos) (.cmp op ea eb) := pe_of fun σ H Q h => ⟨_, pe_cmpR (op_cm hu op) ha hb hm, wish_cmp σ H Q h⟩
theorem wish_cmp2 {op op' : CmpOp} : ∀ σ H Q, tE X.K F (ev W (.cmp2 op op' ea eb ec)) σ H Q → tChain (rCm X.K (cmpOp op)) (rCm X.K (cmpOp op')) (tE X.K F (ev W ea)) (tE X.K F (ev W eb)) (tE X.K F (ev W ec)) σ H Q := fun σ H Q h => by
  obtain ⟨G, ρ, rel, post⟩ := h
  obtain ⟨x, ρ1, e1, post_⟩ := Post.bind post; clear post; have post := post_; clear post_
  obtain ⟨y, ρ2, e2, post_⟩ := Post.bind post; clear post; have post := post_; clear post_
  split at post
  · rename_i d e
    refine tE_opd rel e1 fun G1 H1 vx s1 rel1 rr1 no1 => tE_opd rel1 e2 fun G2 H2 vy s2 rel2 rr2 _ => ?_
    have rr2 : Dq X.K G2 vy e := rr2
    have dx : Dq X.K G2 vx d := Dq.mono s2 rr1
    split at post
    · rename_i er
      obtain ⟨z, ρ3, e3, post_⟩ := Post.bind post; clear post; have post := post_; clear post_
      split at post
      · rename_i f
        obtain ⟨r, er', k⟩ := optB_post post
        refine ⟨G2, d, e, true, rel2.sub, .inl dx, .inl rr2, er, true, rfl, ?_⟩
        rw [if_pos rfl]
        refine tE_opd rel2 e3 fun G3 H3 vz s3 rel3 rr3 _ => ?_
        exact ⟨G3, e, f, r, rel3.sub, .inl (Dq.mono s3 rr2), .inl rr3, er', k G3 H3 _ (s1.trans (s2.trans s3)) rel3 (.bl r)⟩
      · exact post.elim
    · rename_i er
      refine ⟨G2, d, e, false, rel2.sub, .inl dx, .inl rr2, er, false, rfl, ?_⟩
      rw [if_neg Bool.false_ne_true]
      exact post G2 H2 _ (s1.trans s2) rel2 (.bl false)
    · exact post.elim
  · exact post.elim
theorem ev_cmp2 {op op' : CmpOp} (hu : X.A.units + 65 < cLine) (ha : PEv X F W a ea) (hb : PEv X F W b eb) (hc : PEv X F W c ec) (hm : lastMarks [op, op'] [b, c] = false) : PEv X F W (.Compare a [op, op'] [b, c] pos) (.cmp2 op op' ea eb ec) := pe_of fun σ H Q h => ⟨_, pe_chain (op_cm hu op) (op_cm hu op') ha hb hc hm, wish_cmp2 σ H Q h⟩
theorem ev_neg (ha : PEv X F W a ea) : PEv X F W (.UnaryOp .USub a pos) (.neg ea) := pe_of fun σ H Q h => by
  obtain ⟨G, ρ, rel, post⟩ := h
  obtain ⟨x, ρ1, e1, post_⟩ := Post.bind post; clear post; have post := post_; clear post_
  split at post
  · rename_i i hi
    refine ⟨_, pe_un un_neg ha, tE_opd rel e1 fun G1 H1 vx s1 rel1 rr1 no1 => ?_⟩
    exact ⟨i, (rel1.view rr1 hi).int, post G1 H1 _ s1 rel1 (.int _)⟩
  · exact post.elim
theorem ev_nott (ha : PEv X F W a ea) : PEv X F W (.UnaryOp .Not a pos) (.nott ea) := pe_of fun σ H Q h => by
  obtain ⟨G, ρ, rel, post⟩ := h
  obtain ⟨x, ρ1, e1, post_⟩ := Post.bind post; clear post; have post := post_; clear post_
  split at post
  · rename_i i
    refine ⟨_, pe_not ha, tE_in rel e1 fun G1 H1 vx s1 rel1 rr1 => ?_⟩
    cases (show Dq X.K G1 vx (.bool i) from rr1)
    exact ⟨i, rfl, post G1 H1 _ s1 rel1 (.bl _)⟩
  · exact post.elim
theorem ev_and {rest : List Expr} (ha : PEv X F W a ea) (hb : PEv X F W (.BoolOp .And (b :: rest) pos) eb) : PEv X F W (.BoolOp .And (a :: b :: rest) pos) (.and ea eb) := pe_of fun σ H Q h => by
  obtain ⟨G, ρ, rel, post⟩ := h
  obtain ⟨x, ρ1, e1, post_⟩ := Post.bind post; clear post; have post := post_; clear post_
  refine ⟨_, pe_and ha hb, tE_in rel e1 fun G1 H1 vx s1 rel1 rr1 => ?_⟩
  split at post
  · cases (show Dq X.K G1 vx (.bool true) from rr1)
    refine ⟨true, rfl, ?_⟩
    rw [if_pos rfl]
    obtain ⟨r, ρ2, e2, k⟩ := Post.out_ post
    exact tE_in rel1 e2 fun G2 H2 z s2 rel2 rr2 => k G2 H2 z (s1.trans s2) rel2 rr2
  · cases (show Dq X.K G1 vx (.bool false) from rr1)
    refine ⟨false, rfl, ?_⟩
    rw [if_neg Bool.false_ne_true]
    exact post G1 H1 _ s1 rel1 (.bl false)
  · exact post.elim
theorem ev_or {rest : List Expr} (ha : PEv X F W a ea) (hb : PEv X F W (.BoolOp .Or (b :: rest) pos) eb) : PEv X F W (.BoolOp .Or (a :: b :: rest) pos) (.or ea eb) := pe_of fun σ H Q h => by
  obtain ⟨G, ρ, rel, post⟩ := h
  obtain ⟨x, ρ1, e1, post_⟩ := Post.bind post; clear post; have post := post_; clear post_
  refine ⟨_, pe_or ha hb, tE_in rel e1 fun G1 H1 vx s1 rel1 rr1 => ?_⟩
  split at post
  · cases (show Dq X.K G1 vx (.bool true) from rr1)
    refine ⟨true, rfl, ?_⟩
    rw [if_pos rfl]
    exact post G1 H1 _ s1 rel1 (.bl true)
  · cases (show Dq X.K G1 vx (.bool false) from rr1)
    refine ⟨false, rfl, ?_⟩
    rw [if_neg Bool.false_ne_true]
    obtain ⟨r, ρ2, e2, k⟩ := Post.out_ post
    exact tE_in rel1 e2 fun G2 H2 z s2 rel2 rr2 => k G2 H2 z (s1.trans s2) rel2 rr2
  · exact post.elim
/-! ### tests -/
abbrev PTv (X : Cx) (F : Fx) (W : Wd) (e : Expr) (d : Ts) : Prop := PT X e (tT X.K F (evT W d))
theorem tT_in {K : PySem.W.Frag} {G H : Hp} {σ : L2.St} {ρ : Env} {Q : Bool → Hp → Prop} {m : Env → Out Bool} {b : Bool} {ρ' : Env} (rel : F.rel K G H σ ρ) (e : m ρ = .ok b ρ') (k : ∀ G' H', Same G G' → F.rel K G' H' σ ρ' → Q b H') : tT K F m σ H Q :=
  ⟨G, ρ, rel, by rw [e]; exact k⟩
theorem truV_of {K : PySem.W.Frag} {G H : Hp} {x : V} {d : PyData} {k : Bool} (sg : Same G H) (h : VRel K G H x d) (e : truth d = some k) : TruV K x H k := by
  cases d with
  | none => cases h.non; cases e; exact rfl
  | bool b => cases h.bl; cases e; exact rfl
  | int i => cases h.int; cases e; exact rfl
  | str s =>
    cases h.str
    have e : (if s.length ≤ Lm then some (s.length != 0) else none) = some k := e
    split at e
    case isFalse => cases e
    cases e
    refine ⟨by rw [Lm_eq]; assumption, ?_⟩
    by_cases z : s.length = 0
    · rw [z]; rfl
    · have z' : ¬ ((s.length : Nat) : Int) = 0 := by omega
      rw [bne_iff_ne.mpr z, bne_iff_ne.mpr z']
  | list xs =>
    obtain ⟨a, vs, rfl, h1, h2⟩ := h.list sg
    cases e
    refine .inl ⟨vs, h1, ?_⟩
    cases h2 <;> rfl
  | tuple xs =>
    obtain ⟨a, vs, rfl, h1, h2⟩ := h.tup sg
    cases e
    refine .inr (.inl ⟨vs, h1, ?_⟩)
    cases h2 <;> rfl
  | dict _ => cases e
theorem evT_val (ha : PEv X F W a ea) (he : ∀ whole, isTrue a X.env whole = (do let v ← whole; standAt a.pos; holding [v] (truthy v))) : PTv X F W a (.val ea) := pt_of fun σ H Q h => by
  obtain ⟨G, ρ, rel, post⟩ := h
  obtain ⟨x, ρ1, e1, post_⟩ := Post.bind post; clear post; have post := post_; clear post_
  split at post
  · rename_i d hd
    split at post
    · rename_i t ht
      refine ⟨_, pt_truth ha he, tE_in rel e1 fun G1 H1 vx s1 rel1 rr1 => ?_⟩
      exact ⟨t, truV_of rel1.sub (rel1.view rr1 hd) ht, post G1 H1 s1 rel1⟩
    · exact post.elim
  · exact post.elim
/-- what comes back is a bool -/
def BoolEx (W : Wd) (e : Ex) : Prop := ∀ ρ r ρ', ev W e ρ = .ok r ρ' → ∃ b, r = .v (.bool b)
theorem boolWish {e : Ex} (hb : BoolEx W e) {σ : L2.St} {H : Hp} {Q : Bool → Hp → Prop} (h : tT X.K F (evT W (.val e)) σ H Q) : tE X.K F (ev W e) σ H fun x H' => ∃ k, x = .bl k ∧ Q k H' := by
  obtain ⟨G, ρ, rel, post⟩ := h
  obtain ⟨x, ρ1, e1, post_⟩ := Post.bind post; clear post; have post := post_; clear post_
  obtain ⟨b, rfl⟩ := hb _ _ _ e1
  have post : Post (Out.ok b ρ1) (EndT X.K F G σ Q) := post
  refine tE_in rel e1 fun G1 H1 vx s1 rel1 rr1 => ⟨b, ?_, post G1 H1 s1 rel1⟩
  cases (show Dq X.K G1 vx (.bool b) from rr1)
  rfl
theorem optB_ok {ρ ρ' : Env} {o : Option Bool} {r : R} (h : optB ρ o = .ok r ρ') : ∃ b, r = .v (.bool b) := by
  cases o with
  | none => cases h
  | some b => cases h; exact ⟨b, rfl⟩
theorem bindOk {α β : Type} {o : Out α} {f : α → Env → Out β} {b : β} {ρ : Env} (h : o.bind f = .ok b ρ) : ∃ a ρ1, o = .ok a ρ1 ∧ f a ρ1 = .ok b ρ := by
  cases o with
  | ok a ρ1 => exact ⟨a, ρ1, rfl, h⟩
  | exc x ρ1 => cases h
  | bad => cases h
theorem boolEx_cmp {op : CmpOp} {ea eb : Ex} : BoolEx W (.cmp op ea eb) := fun ρ r ρ' h => by
  obtain ⟨_, _, _, h⟩ := bindOk h
  obtain ⟨_, _, _, h⟩ := bindOk h
  split at h
  · exact optB_ok h
  · cases h
theorem boolEx_cmp2 {op op' : CmpOp} {ea eb ec : Ex} : BoolEx W (.cmp2 op op' ea eb ec) := fun ρ r ρ' h => by
  obtain ⟨_, _, _, h⟩ := bindOk h
  obtain ⟨_, _, _, h⟩ := bindOk h
  split at h
  · split at h
    · obtain ⟨_, _, _, h⟩ := bindOk h
      split at h
      · exact optB_ok h
      · cases h
    · cases h
      exact ⟨_, rfl⟩
    · cases h
  · cases h
theorem evT_cmp {op : CmpOp} (hu : X.A.units + 65 < cLine) (ha : PEv X F W a ea) (hb : PEv X F W b eb) (hm : behindInMarks op b = false) : PTv X F W (.Compare a [op] [b] pos) (.val (.cmp op ea eb)) := pt_of fun σ H Q h =>
  ⟨_, pt_cmpR (op_cm hu op) ha hb hm, wish_cmp σ H _ (boolWish boolEx_cmp h)⟩
theorem evT_cmp2 {op op' : CmpOp} (hu : X.A.units + 65 < cLine) (ha : PEv X F W a ea) (hb : PEv X F W b eb) (hc : PEv X F W c ec) (hm : lastMarks [op, op'] [b, c] = false) : PTv X F W (.Compare a [op, op'] [b, c] pos) (.val (.cmp2 op op' ea eb ec)) := pt_of fun σ H Q h =>
  ⟨_, pt_chain (op_cm hu op) (op_cm hu op') ha hb hc hm, wish_cmp2 σ H _ (boolWish boolEx_cmp2 h)⟩
theorem evT_nott {ta : Ts} (ha : PTv X F W a ta) : PTv X F W (.UnaryOp .Not a pos) (.nott ta) := pt_of fun σ H Q h => by
  obtain ⟨G, ρ, rel, post⟩ := h
  obtain ⟨x, ρ1, e1, post_⟩ := Post.bind post; clear post; have post := post_; clear post_
  exact ⟨_, pt_not ha, tT_in rel e1 fun G1 H1 s1 rel1 => post G1 H1 s1 rel1⟩
abbrev PWv (X : Cx) (F : Fx) (W : Wd) (e : Expr) (d : Ts) : Prop := PW X e (tT X.K F (evT W d))
theorem pw_of {e : Expr} {t : TT} (h : ∀ σ H Q, t σ H Q → ∃ t', PW X e t' ∧ t' σ H Q) : PW X e t := ⟨fun wh pins s σ H Q I q => by
  obtain ⟨t', p, q'⟩ := h σ H Q q
  exact p.run wh pins s σ H Q I q'⟩
theorem evT_and {rest : List Expr} {ta tb : Ts} (ha : PTv X F W a ta) (hb : PWv X F W (.BoolOp .And (b :: rest) pos) tb) : PWv X F W (.BoolOp .And (a :: b :: rest) pos) (.and ta tb) := pw_of fun σ H Q h => by
  obtain ⟨G, ρ, rel, post⟩ := h
  obtain ⟨x, ρ1, e1, post_⟩ := Post.bind post; clear post; have post := post_; clear post_
  refine ⟨_, pw_and ha hb, tT_in rel e1 fun G1 H1 s1 rel1 => ?_⟩
  split at post
  · rw [if_pos rfl]
    obtain ⟨r, ρ2, e2, k⟩ := Post.out_ post
    exact tT_in rel1 e2 fun G2 H2 s2 rel2 => k G2 H2 (s1.trans s2) rel2
  · rw [if_neg Bool.false_ne_true]
    exact post G1 H1 s1 rel1
theorem evT_or {rest : List Expr} {ta tb : Ts} (ha : PTv X F W a ta) (hb : PWv X F W (.BoolOp .Or (b :: rest) pos) tb) : PWv X F W (.BoolOp .Or (a :: b :: rest) pos) (.or ta tb) := pw_of fun σ H Q h => by
  obtain ⟨G, ρ, rel, post⟩ := h
  obtain ⟨x, ρ1, e1, post_⟩ := Post.bind post; clear post; have post := post_; clear post_
  refine ⟨_, pw_or ha hb, tT_in rel e1 fun G1 H1 s1 rel1 => ?_⟩
  split at post
  · rw [if_pos rfl]
    exact post G1 H1 s1 rel1
  · rw [if_neg Bool.false_ne_true]
    obtain ⟨r, ρ2, e2, k⟩ := Post.out_ post
    exact tT_in rel1 e2 fun G2 H2 s2 rel2 => k G2 H2 (s1.trans s2) rel2
theorem ev_ite {tc : Ts} (hc : PTv X F W c tc) (ha : PEv X F W a ea) (hb : PEv X F W b eb) : PEv X F W (.IfExp c a b pos) (.ite tc ea eb) := pe_of fun σ H Q h => by
  obtain ⟨G, ρ, rel, post⟩ := h
  obtain ⟨x, ρ1, e1, post_⟩ := Post.bind post; clear post; have post := post_; clear post_
  refine ⟨_, pe_ifExp hc ha hb, tT_in rel e1 fun G1 H1 s1 rel1 => ?_⟩
  obtain ⟨r, ρ2, e2, k⟩ := Post.out_ post
  cases x with
  | true =>
    rw [if_pos rfl]
    exact tE_in rel1 e2 fun G2 H2 z s2 rel2 rr2 => k G2 H2 z (s1.trans s2) rel2 rr2
  | false =>
    rw [if_neg Bool.false_ne_true]
    exact tE_in rel1 e2 fun G2 H2 z s2 rel2 rr2 => k G2 H2 z (s1.trans s2) rel2 rr2
/-! ### argument lists -/
def ZV (K : PySem.W.Frag) (G H : Hp) (σ : L2.St) (ρ : Env) (ds : List PyData) (xs : List V) : Prop := DqAll K G xs ds
abbrev PAv (X : Cx) (F : Fx) (W : Wd) (es : List Expr) (d : Exs) : Prop := PA X es (tA X.K F (ZV X.K) (evs W d))
theorem tA_in {α : Type} {K : PySem.W.Frag} {Z : Hp → Hp → L2.St → Env → α → List V → Prop} {G H : Hp} {σ : L2.St} {ρ : Env} {Q : List V → Hp → Prop} {m : Env → Out α} {r : α} {ρ' : Env} (rel : F.rel K G H σ ρ) (e : m ρ = .ok r ρ') (k : ∀ G' H' x, Same G G' → F.rel K G' H' σ ρ' → Z G' H' σ ρ' r x → Q x H') : tA K F Z m σ H Q :=
  ⟨G, ρ, rel, by rw [e]; exact k⟩
theorem evs_nil : PAv X F W [] .nil := pa_of fun σ H Q h => by
  obtain ⟨G, ρ, rel, post⟩ := h
  exact ⟨_, pa_nil, post G H [] (Same.refl _) rel .nil⟩
theorem evs_cons {es : List Expr} {ds : Exs} (ha : PEv X F W a ea) (hr : PAv X F W es ds) (hs : starEach (a :: es) X.env = (false, eval a X.env) :: starEach es X.env) : PAv X F W (a :: es) (.cons ea ds) := pa_of fun σ H Q h => by
  obtain ⟨G, ρ, rel, post⟩ := h
  obtain ⟨x, ρ1, e1, post_⟩ := Post.bind post; clear post; have post := post_; clear post_
  obtain ⟨d, ρ2, e2, post_⟩ := Post.bind post; clear post; have post := post_; clear post_
  obtain ⟨dl, ρ3, e3, post_⟩ := Post.bind post; clear post; have post := post_; clear post_
  refine ⟨_, pa_cons ha hr hs, tE_frz rel e1 e2 fun G1 H1 vx s1 rel1 rr1 => tA_in rel1 e3 fun G2 H2 vs s2 rel2 z2 => ?_⟩
  exact post G2 H2 _ (s1.trans s2) rel2 (.cons (Dq.mono s2 rr1) z2)
theorem evs_len (W : Wd) : ∀ (es : Exs) (ρ : Env) (ds : List PyData) (ρ' : Env), evs W es ρ = .ok ds ρ' → ds.length = es.len
  | .nil, ρ, ds, ρ', e => by
    cases (show Out.ok [] ρ = .ok ds ρ' from e)
    rfl
  | .cons a es, ρ, ds, ρ', e => by
    have e : ((ev W a ρ).bind fun r ρ1 => (frz r ρ1).bind fun d ρ2 => (evs W es ρ2).bind fun ds ρ3 => Out.ok (d :: ds) ρ3) = .ok ds ρ' := e
    cases q : ev W a ρ with
    | ok r ρ1 =>
      rw [q] at e
      cases q2 : frz r ρ1 with
      | ok d ρ2 =>
        have e : ((frz r ρ1).bind fun d ρ2 => (evs W es ρ2).bind fun ds ρ3 => Out.ok (d :: ds) ρ3) = .ok ds ρ' := e
        rw [q2] at e
        cases q3 : evs W es ρ2 with
        | ok dl ρ3 =>
          have e : ((evs W es ρ2).bind fun ds ρ3 => Out.ok (d :: ds) ρ3) = .ok ds ρ' := e
          rw [q3] at e
          cases (show Out.ok (d :: dl) ρ3 = .ok ds ρ' from e)
          rw [List.length_cons, evs_len W es ρ2 dl _ q3]
          rfl
        | exc x ρ3 =>
          have e : ((evs W es ρ2).bind fun ds ρ3 => Out.ok (d :: ds) ρ3) = .ok ds ρ' := e
          rw [q3] at e
          cases e
        | bad =>
          have e : ((evs W es ρ2).bind fun ds ρ3 => Out.ok (d :: ds) ρ3) = .ok ds ρ' := e
          rw [q3] at e
          cases e
      | exc x ρ2 =>
        have e : ((frz r ρ1).bind fun d ρ2 => (evs W es ρ2).bind fun ds ρ3 => Out.ok (d :: ds) ρ3) = .ok ds ρ' := e
        rw [q2] at e
        cases e
      | bad =>
        have e : ((frz r ρ1).bind fun d ρ2 => (evs W es ρ2).bind fun ds ρ3 => Out.ok (d :: ds) ρ3) = .ok ds ρ' := e
        rw [q2] at e
        cases e
    | exc x ρ1 => rw [q] at e; cases e
    | bad => rw [q] at e; cases e
theorem ev_tup {es : List Expr} {ds : Exs} {k : Nat} (h : PAv X F W es ds) (hl : ds.len ≤ Lm) : PEv X F W (.Tuple es k pos) (.tup ds) := pe_of fun σ H Q q => by
  obtain ⟨G, ρ, rel, post⟩ := q
  obtain ⟨dl, ρ1, e1, post_⟩ := Post.bind post; clear post; have post := post_; clear post_
  refine ⟨_, pe_tup h, tA_in rel e1 fun G1 H1 vs s1 rel1 z1 => ?_⟩
  have z1 : DqAll X.K G1 vs dl := z1
  refine ⟨by rw [z1.length, evs_len W _ _ _ _ e1, Lm_eq]; exact hl, fun p hp => ?_⟩
  obtain ⟨s3, rel3, rr3⟩ := (NewR.tup hp z1).rel rel1
  exact post _ _ _ (s1.trans s3) rel3 rr3
theorem ev_lst {es : List Expr} {ds : Exs} (h : PAv X F W es ds) (hl : ds.len ≤ Lm) : PEv X F W (.List es pos) (.lst ds) := pe_of fun σ H Q q => by
  obtain ⟨G, ρ, rel, post⟩ := q
  obtain ⟨dl, ρ1, e1, post_⟩ := Post.bind post; clear post; have post := post_; clear post_
  refine ⟨_, pe_lst h, tA_in rel e1 fun G1 H1 vs s1 rel1 z1 => ?_⟩
  have z1 : DqAll X.K G1 vs dl := z1
  refine ⟨by rw [z1.length, evs_len W _ _ _ _ e1, Lm_eq]; exact hl, fun p hp => ?_⟩
  obtain ⟨s3, rel3, rr3⟩ := (NewR.lst hp z1).rel rel1
  exact post _ _ _ (s1.trans s3) rel3 rr3
/-! ### items, slices -/
theorem ev_sub (ha : PEv X F W a ea) (hb : PEv X F W b eb) (hs : PlainIx b) : PEv X F W (.Subscript a b pos) (.sub ea eb) := pe_of fun σ H Q h => by
  obtain ⟨G, ρ, rel, post⟩ := h
  obtain ⟨x, ρ1, e1, post_⟩ := Post.bind post; clear post; have post := post_; clear post_
  obtain ⟨y, ρ2, e2, post_⟩ := Post.bind post; clear post; have post := post_; clear post_
  split at post
  · rename_i d e hd he
    obtain ⟨r, er, k⟩ := optV_post post
    refine ⟨_, pe_ix ix_sub ha hb hs, ?_⟩
    refine tE_opd rel e1 fun G1 H1 vx s1 rel1 rr1 no1 => tE_opd rel1 e2 fun G2 H2 vy s2 rel2 rr2 _ => ?_
    exact ⟨G2, d, e, r, rel2.sub, rel2.view (rr1.mono s2 no1) hd, rel2.view rr2 he, er, fun z hz => k G2 H2 z (s1.trans s2) rel2 hz⟩
  · exact post.elim
theorem ev_slc {p2 : Pos} (ha : PEv X F W a ea) (hb : PEv X F W b eb) (hc : PEv X F W c ec) : PEv X F W (.Subscript a (.Slice (some b) (some c) none p2) pos) (.slc ea eb ec) := pe_of fun σ H Q h => by
  obtain ⟨G, ρ, rel, post⟩ := h
  obtain ⟨x, ρ1, e1, post_⟩ := Post.bind post; clear post; have post := post_; clear post_
  obtain ⟨y, ρ2, e2, post_⟩ := Post.bind post; clear post; have post := post_; clear post_
  obtain ⟨w, ρ3, e3, post_⟩ := Post.bind post; clear post; have post := post_; clear post_
  split at post
  · rename_i d i j hd
    obtain ⟨r, er, k⟩ := optR_post post
    refine ⟨_, pe_slice sl_slc ha (po_some hb) (po_some hc), ?_⟩
    refine tE_opd rel e1 fun G1 H1 vx s1 rel1 rr1 no1 => tE_opd rel1 e2 fun G2 H2 vy s2 rel2 rr2 _ => ?_
    cases (show Dq X.K G2 vy (.int i) from rr2)
    refine ⟨i, rfl, tE_opd rel2 e3 fun G3 H3 vz s3 rel3 rr3 _ => ?_⟩
    cases (show Dq X.K G3 vz (.int j) from rr3)
    refine ⟨j, rfl, G3, d, r, rel3.sub, rel3.view (rr1.mono (s2.trans s3) no1) hd, er, fun G' H' z n => ?_⟩
    obtain ⟨s4, rel4, rr4⟩ := n.rel rel3
    exact k G' H' z (s1.trans (s2.trans (s3.trans s4))) rel4 rr4
  · exact post.elim
theorem ev_slcL {p2 : Pos} (ha : PEv X F W a ea) (hb : PEv X F W b eb) : PEv X F W (.Subscript a (.Slice (some b) none none p2) pos) (.slcL ea eb) := pe_of fun σ H Q h => by
  obtain ⟨G, ρ, rel, post⟩ := h
  obtain ⟨x, ρ1, e1, post_⟩ := Post.bind post; clear post; have post := post_; clear post_
  obtain ⟨y, ρ2, e2, post_⟩ := Post.bind post; clear post; have post := post_; clear post_
  split at post
  · rename_i d i hd
    obtain ⟨r, er, k⟩ := optR_post post
    refine ⟨_, pe_slice sl_slc ha (po_some hb) po_none, ?_⟩
    refine tE_opd rel e1 fun G1 H1 vx s1 rel1 rr1 no1 => tE_opd rel1 e2 fun G2 H2 vy s2 rel2 rr2 _ => ?_
    cases (show Dq X.K G2 vy (.int i) from rr2)
    refine ⟨i, rfl, G2, d, r, rel2.sub, rel2.view (rr1.mono s2 no1) hd, er, fun G' H' z n => ?_⟩
    obtain ⟨s4, rel4, rr4⟩ := n.rel rel2
    exact k G' H' z (s1.trans (s2.trans s4)) rel4 rr4
  · exact post.elim
theorem ev_slcH {p2 : Pos} (ha : PEv X F W a ea) (hb : PEv X F W b eb) : PEv X F W (.Subscript a (.Slice none (some b) none p2) pos) (.slcH ea eb) := pe_of fun σ H Q h => by
  obtain ⟨G, ρ, rel, post⟩ := h
  obtain ⟨x, ρ1, e1, post_⟩ := Post.bind post; clear post; have post := post_; clear post_
  obtain ⟨y, ρ2, e2, post_⟩ := Post.bind post; clear post; have post := post_; clear post_
  split at post
  · rename_i d i hd
    obtain ⟨r, er, k⟩ := optR_post post
    refine ⟨_, pe_slice sl_slc ha po_none (po_some hb), ?_⟩
    refine tE_opd rel e1 fun G1 H1 vx s1 rel1 rr1 no1 => tE_opd rel1 e2 fun G2 H2 vy s2 rel2 rr2 _ => ?_
    cases (show Dq X.K G2 vy (.int i) from rr2)
    refine ⟨i, rfl, G2, d, r, rel2.sub, rel2.view (rr1.mono s2 no1) hd, er, fun G' H' z n => ?_⟩
    obtain ⟨s4, rel4, rr4⟩ := n.rel rel2
    exact k G' H' z (s1.trans (s2.trans s4)) rel4 rr4
  · exact post.elim
theorem ev_rev {k : Nat} {p1 p2 p3 : Pos} (ha : PEv X F W a ea) : PEv X F W (.Subscript a (.Slice none none (some (.UnaryOp .USub (.Constant (.int 1) k p1) p2)) p3) pos) (.rev ea) := pe_of fun σ H Q h => by
  obtain ⟨G, ρ, rel, post⟩ := h
  obtain ⟨x, ρ1, e1, post_⟩ := Post.bind post; clear post; have post := post_; clear post_
  split at post
  · rename_i d hd
    obtain ⟨r, er, k⟩ := optR_post post
    unfold revOp at er
    split at er
    · cases er
      refine ⟨_, pe_revL ha, tE_opd rel e1 fun G1 H1 vx s1 rel1 rr1 no1 => ?_⟩
      obtain ⟨a, vs, rfl, h1, h2⟩ := (rel1.view rr1 hd).list rel1.sub
      refine ⟨a, vs, rfl, h1, fun p hp => ?_⟩
      obtain ⟨s4, rel4, rr4⟩ := (NewR.lst hp h2.reverse).rel rel1
      exact k _ _ _ (s1.trans s4) rel4 rr4
    · cases er
  · exact post.elim
/-! ### built-ins -/
def ZR (K : PySem.W.Frag) (F : Fx) (G H : Hp) (σ : L2.St) (ρ : Env) (rs : List R) (xs : List V) : Prop := Paired (fun r x => F.rr K G H σ ρ r x ∧ ∀ b, r ≠ .o b) rs xs
abbrev PRv (X : Cx) (F : Fx) (W : Wd) (es : List Expr) (d : Exs) : Prop := PA X es (tA X.K F (ZR X.K F) (evR W d))
theorem evR_nil : PRv X F W [] .nil := pa_of fun σ H Q h => by
  obtain ⟨G, ρ, rel, post⟩ := h
  exact ⟨_, pa_nil, post G H [] (Same.refl _) rel .nil⟩
theorem evR_cons {es : List Expr} {ds : Exs} (ha : PEv X F W a ea) (hr : PRv X F W es ds) (hs : starEach (a :: es) X.env = (false, eval a X.env) :: starEach es X.env) : PRv X F W (a :: es) (.cons ea ds) := pa_of fun σ H Q h => by
  obtain ⟨G, ρ, rel, post⟩ := h
  obtain ⟨x, ρ1, e1, post_⟩ := Post.bind post; clear post; have post := post_; clear post_
  obtain ⟨dl, ρ2, e2, post_⟩ := Post.bind post; clear post; have post := post_; clear post_
  refine ⟨_, pa_cons ha hr hs, tE_opd rel e1 fun G1 H1 vx s1 rel1 rr1 no1 => tA_in rel1 e2 fun G2 H2 vs s2 rel2 z2 => ?_⟩
  exact post G2 H2 _ (s1.trans s2) rel2 (.cons ⟨rr1.mono s2 no1, no1⟩ z2)
theorem views_all {K : PySem.W.Frag} {G H : Hp} {σ : L2.St} {ρ : Env} (rel : F.rel K G H σ ρ) : ∀ {rs : List R} {xs : List V} {ds : List PyData}, ZR K F G H σ ρ rs xs → views ρ rs = some ds → VAll K G H xs ds
  | [], _, ds, z, e => by
    cases z
    cases e
    exact .nil
  | r :: rs, _, ds, z, e => by
    cases z with
    | cons z1 z2 =>
      have e : (match view ρ r, views ρ rs with
        | some d, some ds => some (d :: ds)
        | _, _ => none) = some ds := e
      split at e
      · rename_i d dl h1 h2
        cases e
        exact .cons (rel.view z1.1 h1) (views_all rel z2 h2)
      · cases e
theorem bi_call (hc : X.calm = true) {bi : Bi} {x : Str} {p : Pos} {es : List Expr} {ds : Exs} (h : PRv X F W (a :: es) ds) (hg : Gl X x) (hm : X.mg x = none) (hv : bootBuiltins x = some (biVal bi)) (hn : x ≠ "__name__") (hdb : (x == ("__debug__" : Str)) = false)
    (he : starEach (a :: es) X.env = (false, eval a X.env) :: starEach es X.env) (hpl : (backTo pos (starEach es X.env)).any (·.1) = false) : PEv X F W (.Call (.Name x p) (a :: es) [] pos) (.bi bi ds) := pe_of fun σ H Q q => by
  obtain ⟨G, ρ, rel, post⟩ := q
  obtain ⟨rs, ρ1, e1, post_⟩ := Post.bind post; clear post; have post := post_; clear post_
  split at post
  · rename_i dl hv'
    obtain ⟨r, er, k⟩ := optR_post post
    have rule : ∃ t, PE X (.Call (.Name x p) (a :: es) [] pos) (tCB (rBi X.K (biOp bi)) t) ∧ t = tA X.K F (ZR X.K F) (evR W ds) := by
      refine ⟨_, ?_, rfl⟩
      have hb := bi_ok hc bi
      cases bi <;> first
        | exact pe_callB hb hg hm hv h hn hdb he hpl
        | exact pe_callTy hb hg hm hv h hn hdb he hpl
    obtain ⟨t, hp, rfl⟩ := rule
    refine ⟨_, hp, tA_in rel e1 fun G1 H1 vs s1 rel1 z1 => ?_⟩
    refine ⟨G1, dl, r, rel1.sub, views_all rel1 z1 hv', er, fun G' H' z n => ?_⟩
    obtain ⟨s4, rel4, rr4⟩ := n.rel rel1
    exact k _ _ _ (s1.trans s4) rel4 rr4
  · exact post.elim
theorem ev_isi {t : String} {y : Str} {p p2 : Pos} (ht : t ∈ isTys) (ha : PEv X F W a ea) (hg : Gl X "isinstance") (hm : X.mg "isinstance" = none) (hgy : Gl X y) (hmy : X.mg y = none) (hvy : bootBuiltins y = some (.type t)) (hny : y ≠ "__name__") (hdy : (y == ("__debug__" : Str)) = false)
    (he : starEach [a, .Name y p2] X.env = (false, eval a X.env) :: starEach [.Name y p2] X.env) : PEv X F W (.Call (.Name "isinstance" p) [a, .Name y p2] [] pos) (.isi ea t) := pe_of fun σ H Q q => by
  obtain ⟨G, ρ, rel, post⟩ := q
  obtain ⟨r, ρ1, e1, post_⟩ := Post.bind post; clear post; have post := post_; clear post_
  split at post
  · rename_i d hd
    refine ⟨_, pe_callB (ist_ok (X := X) ht) hg hm (by decide +kernel) (pa_cons ha (pa_cons (pe_bltn (v := .ty t) hgy hmy hvy rfl hny hdy) pa_nil) he) (by decide) (by decide) he, ?_⟩
    refine tE_opd rel e1 fun G1 H1 vx s1 rel1 rr1 no1 => ?_
    exact ⟨G1, vx, d, rfl, rel1.sub, rel1.view rr1 hd, post G1 H1 _ s1 rel1 (.bl _)⟩
  · exact post.elim
end
end Rc

set_option Elab.async false
set_option linter.all false
set_option maxRecDepth 100000
set_option maxHeartbeats 1000000
namespace Rc
open PySem PySem.Spec PyProof.Rows L2

/-! ### methods of lists in slots -/
section
variable {X : Cx} {F : Fx} {W : Wd} {pos apos : Pos} {a : Expr} {ea : Ex}
theorem few1 (hs : starEach [a] X.env = (false, eval a X.env) :: starEach [] X.env) : ((backTo pos (starEach [a] X.env)).all (fun x => !x.1) && (backToKw pos (keywordEach [] X.env)).all (fun x => x.1.isSome)
      && decide ([a].length + ([] : List Keyword).length + (if ([] : List Keyword).isEmpty then 0 else 1) < 30)) = true := by
  rw [hs]
  rfl
theorem mu_slot {ρ : Env} {i : Nat} {f : List PyData → Out R} {ok : R → Env → Prop} (h : Post (match ρ[i]? with
    | some (.o (.lst xs)) => f xs
    | _ => .bad) ok) : ∃ xs, ρ[i]? = some (.o (.lst xs)) ∧ Post (f xs) ok := by
  split at h
  · rename_i xs e
    exact ⟨xs, e, h⟩
  · exact h.elim
theorem Rel.slotL {K : PySem.W.Frag} {G H : Hp} {σ : L2.St} {ρ : Env} (rel : F.rel K G H σ ρ) {i : Nat} {xs : List PyData} (e : ρ[i]? = some (.o (.lst xs))) : ∃ l vs, σ[i]? = some (some (.ref l)) ∧ H l = some (.lst vs) ∧ DqAll K G vs xs := by
  obtain ⟨l, h1, _, _, vs, h2, h3⟩ := rel.own i _ e
  exact ⟨l, vs, h1, h2, h3⟩
theorem mu_app {i : Nat} {x : Str} {p : Pos} (hN : X.N[i]? = some x) (hv : Vis X.env.scope x) (hd : (x == ("__debug__" : Str)) = false) (hcd : (x == ("__classdict__" : Str)) = false) (ha : PEv X F W a ea)
    (hs : starEach [a] X.env = (false, eval a X.env) :: starEach [] X.env) (hl : (apos.endLine == pos.line) = true) : PEv X F W (.Call (.Attribute (.Name x p) "append" apos) [a] [] pos) (.mu .append i (.cons ea .nil)) := pe_of fun σ H Q q => by
  obtain ⟨G, ρ, rel, post⟩ := q
  obtain ⟨xs0, e0, post_⟩ := mu_slot post; clear post; have post := post_; clear post_
  obtain ⟨ds, ρ1, e1, post_⟩ := Post.bind post; clear post; have post := post_; clear post_
  obtain ⟨xs, e2, post_⟩ := mu_slot post; clear post; have post := post_; clear post_
  refine ⟨_, pe_bm PySem.F.plainAttrs_list PySem.F.slot_list_append PySem.F.type_list_append mt_append (pe_var (i := i) hN hv hd hcd) (evs_cons ha evs_nil hs) rfl (few1 hs) hl hs rfl, ?_⟩
  obtain ⟨l, vs0, f1, f2, f3⟩ := Rel.slotL rel e0
  refine ⟨_, f1, .inl ⟨rfl, _, SqL.of f2⟩, tA_in rel e1 fun G1 H1 ys s1 rel1 z1 => ?_⟩
  obtain ⟨l', vs, g1, g2, g3⟩ := Rel.slotL rel1 e2
  rw [f1] at g1
  cases g1
  split at post
  · rename_i d ys' em
    unfold muOp at em
    split at em
    · split at em
      · cases em
        cases z1 with
        | cons w1 w2 =>
          cases w2
          refine ⟨l, vs, _, rfl, rfl, g2, by rw [g3.length, Lm_eq]; assumption, ?_⟩
          have rel2 := rel1.put e2 f1 (g3.append (DqAll.one w1))
          exact post _ _ _ s1 rel2 .non
      · cases em
    all_goals first
      | (cases em; done)
      | (rename_i z; cases z)
      | simp at em
  · exact post.elim
theorem mu_pop {i : Nat} {x : Str} {p : Pos} (hN : X.N[i]? = some x) (hv : Vis X.env.scope x) (hd : (x == ("__debug__" : Str)) = false) (hcd : (x == ("__classdict__" : Str)) = false)
    (hl : (apos.endLine == pos.line) = true) : PEv X F W (.Call (.Attribute (.Name x p) "pop" apos) [] [] pos) (.mu .pop i .nil) := pe_of fun σ H Q q => by
  obtain ⟨G, ρ, rel, post⟩ := q
  obtain ⟨xs0, e0, post_⟩ := mu_slot post; clear post; have post := post_; clear post_
  obtain ⟨xs, e2, post_⟩ := mu_slot post; clear post; have post := post_; clear post_
  refine ⟨_, pe_bm0 PySem.F.plainAttrs_list PySem.F.slot_list_pop PySem.F.type_list_pop mt_pop (pe_var (i := i) hN hv hd hcd) rfl hl, ?_⟩
  obtain ⟨l, vs0, f1, f2, f3⟩ := Rel.slotL rel e0
  refine ⟨_, f1, .inl ⟨rfl, _, SqL.of f2⟩, ?_⟩
  rw [e0] at e2
  cases e2
  split at post
  · rename_i d ys' em
    obtain ⟨d', h1, h2⟩ := Option.map_eq_some_iff.mp (show (xs0[xs0.length - 1]?).map (fun d => (d, xs0.dropLast)) = some (d, ys') from em)
    cases h2
    obtain ⟨v, h3, h4⟩ := f3.get h1
    refine ⟨l, vs0, v, rfl, rfl, f2, by rw [f3.length]; exact h3, ?_⟩
    have rel2 := rel.put e0 f1 f3.dropLast
    exact post _ _ _ (Same.refl _) rel2 h4
  · exact post.elim
theorem muOp_popAt {xs ds ys : List PyData} {d : PyData} (em : muOp .popAt xs ds = some (d, ys)) : ∃ k : Int, ds = [.int k] ∧ 0 ≤ k ∧ k < 2 ^ 63 ∧ xs[k.toNat]? = some d ∧ ys = xs.eraseIdx k.toNat := by
  match ds, em with
  | [.int k], em =>
    have em : (if leI 0 k && within 9223372036854775807 k then (xs[k.toNat]?).map fun d => (d, xs.eraseIdx k.toNat) else none) = some (d, ys) := em
    split at em
    · rename_i hk
      obtain ⟨d', h1, h2⟩ := Option.map_eq_some_iff.mp em
      cases h2
      rw [Bool.and_eq_true, within_iff, leI_eq, decide_eq_true_iff] at hk
      exact ⟨k, rfl, hk.1, by omega, h1, rfl⟩
    · cases em
  | [], em => cases em
  | [.none], em => cases em
  | [.bool _], em => cases em
  | [.str _], em => cases em
  | [.list _], em => cases em
  | [.tuple _], em => cases em
  | [.dict _], em => cases em
  | _ :: _ :: _, em => simp [muOp] at em
theorem mu_popAt {i : Nat} {x : Str} {p : Pos} (hN : X.N[i]? = some x) (hv : Vis X.env.scope x) (hd : (x == ("__debug__" : Str)) = false) (hcd : (x == ("__classdict__" : Str)) = false) (ha : PEv X F W a ea)
    (hs : starEach [a] X.env = (false, eval a X.env) :: starEach [] X.env) (hl : (apos.endLine == pos.line) = true) : PEv X F W (.Call (.Attribute (.Name x p) "pop" apos) [a] [] pos) (.mu .popAt i (.cons ea .nil)) := pe_of fun σ H Q q => by
  obtain ⟨G, ρ, rel, post⟩ := q
  obtain ⟨xs0, e0, post_⟩ := mu_slot post; clear post; have post := post_; clear post_
  obtain ⟨ds, ρ1, e1, post_⟩ := Post.bind post; clear post; have post := post_; clear post_
  obtain ⟨xs, e2, post_⟩ := mu_slot post; clear post; have post := post_; clear post_
  refine ⟨_, pe_bm PySem.F.plainAttrs_list PySem.F.slot_list_pop PySem.F.type_list_pop mt_popAt (pe_var (i := i) hN hv hd hcd) (evs_cons ha evs_nil hs) rfl (few1 hs) hl hs rfl, ?_⟩
  obtain ⟨l, vs0, f1, f2, f3⟩ := Rel.slotL rel e0
  refine ⟨_, f1, .inl ⟨rfl, _, SqL.of f2⟩, tA_in rel e1 fun G1 H1 ys s1 rel1 z1 => ?_⟩
  obtain ⟨l', vs, g1, g2, g3⟩ := Rel.slotL rel1 e2
  rw [f1] at g1
  cases g1
  split at post
  · rename_i d ys' em
    obtain ⟨k, e3, k0, k1, h1, e4⟩ := muOp_popAt em
    subst e3 e4
    cases z1 with
    | cons w1 w2 =>
      cases w2
      cases w1
      obtain ⟨v, h3, h4⟩ := g3.get h1
      have hlen : k.toNat < xs.length := (List.getElem?_eq_some_iff.mp h1).1
      refine ⟨l, vs, k, k.toNat, v, rfl, rfl, g2, by omega, k1, ?_, h3, ?_⟩
      · exact PySem.StrLaws.seqIndex_nonneg k0 (by rw [g3.length]; omega)
      · exact post _ _ _ s1 (rel1.put e2 f1 (g3.eraseIdx k.toNat)) h4
  · exact post.elim
/-! ### methods that change nothing -/
def pmName : Pm → Str
  | .join => "join"
  | .index => "index"
theorem mt_indexS : MtR X "str.index" (fun x xs H Q => ∃ a b i rest, x = .str a ∧ xs = [.str b] ∧ Builtin.Str.occurrences a b 0 a.length 1 = i :: rest ∧ Q (.int (i : Nat)) H) := by
  intro pins s σ H x xs v us Q I rx rs h
  obtain ⟨a, b, i, rest, rfl, rfl, ho, h⟩ := h
  obtain ⟨t, rfl⟩ := rx
  cases rs with
  | cons r1 rs =>
    cases rs
    obtain ⟨u, rfl⟩ := r1
    exact PySem.SC.index ho ⟨.int (i : Nat), H, I.tok _, ⟨_, rfl⟩, h⟩
theorem kd_str {d : PyData} (h : kd d = 2) : ∃ z, d = .str z := by
  cases d with
  | str z => exact ⟨z, rfl⟩
  | _ => cases h
theorem ev_pm {m : Pm} {o : Expr} {eo : Ex} (ho : PEv X F W o eo) (ha : PEv X F W a ea) (hb : ∀ n, attributeBase o n X.env (eval o X.env) = eval o X.env)
    (hs : starEach [a] X.env = (false, eval a X.env) :: starEach [] X.env) (hl : (apos.endLine == pos.line) = true) : PEv X F W (.Call (.Attribute o (pmName m) apos) [a] [] pos) (.pm m eo (.cons ea .nil)) := pe_of fun σ H Q q => by
  obtain ⟨G, ρ, rel, post⟩ := q
  obtain ⟨x, ρ1, e1, post_⟩ := Post.bind post; clear post; have post := post_; clear post_
  split at post
  · rename_i d0 hd0
    obtain ⟨rs, ρ2, e2, post_⟩ := Post.bind post; clear post; have post := post_; clear post_
    split at post
    · rename_i d ds hd hds
      split at post
      · rename_i hk
        obtain ⟨r, er, k⟩ := optR_post post
        unfold pmOp at er
        split at er
        · rename_i y dl
          obtain ⟨z0, rfl⟩ := kd_str (show kd d0 = 2 from hk)
          split at er
          · rename_i ys hys
            split at er
            · rename_i hlen
              cases er
              refine ⟨_, pe_bm PySem.F.plainAttrs_str PySem.F.slot_str_join PySem.F.type_str_join mt_join ho (evR_cons ha evR_nil hs) (hb _) (few1 hs) hl hs rfl, ?_⟩
              refine tE_opd rel e1 fun G1 H1 vx s1 rel1 rr1 no1 => ?_
              have v0 := (rel1.view rr1 hd0).str
              subst v0
              refine ⟨rfl, tA_in rel1 e2 fun G2 H2 vs s2 rel2 z2 => ?_⟩
              have v1 := (rel2.view (rr1.mono s2 no1) hd).str
              cases v1
              cases views_all rel2 z2 hds with
              | cons h1 h2 =>
                cases h2
                cases dl with
                | list xs =>
                  obtain ⟨l, ws, rfl, g1, g2⟩ := h1.list rel2.sub
                  rw [strs_dq g2 hys] at g1
                  exact ⟨_, _, _, rfl, rfl, .inl g1, hlen, k G2 H2 _ (s1.trans s2) rel2 (.str _)⟩
                | tuple xs =>
                  obtain ⟨l, ws, rfl, g1, g2⟩ := h1.tup rel2.sub
                  rw [strs_dq g2 hys] at g1
                  exact ⟨_, _, _, rfl, rfl, .inr g1, hlen, k G2 H2 _ (s1.trans s2) rel2 (.str _)⟩
                | _ => cases hys
            · cases er
          · cases er
        · rename_i y w
          obtain ⟨z0, rfl⟩ := kd_str (show kd d0 = 2 from hk)
          split at er
          · rename_i i rest hi
            cases er
            refine ⟨_, pe_bm PySem.F.plainAttrs_str PySem.F.slot_str_index PySem.F.type_str_index mt_indexS ho (evR_cons ha evR_nil hs) (hb _) (few1 hs) hl hs rfl, ?_⟩
            refine tE_opd rel e1 fun G1 H1 vx s1 rel1 rr1 no1 => ?_
            have v0 := (rel1.view rr1 hd0).str
            subst v0
            refine ⟨rfl, tA_in rel1 e2 fun G2 H2 vs s2 rel2 z2 => ?_⟩
            have v1 := (rel2.view (rr1.mono s2 no1) hd).str
            cases v1
            cases views_all rel2 z2 hds with
            | cons h1 h2 =>
              cases h2
              cases h1.str
              exact ⟨_, _, _, _, rfl, rfl, hi, k G2 H2 _ (s1.trans s2) rel2 (.int _)⟩
          · cases er
        · cases er
      · exact post.elim
    · exact post.elim
  · exact post.elim
end

/-! ### slots forgotten -/
theorem wipe_get : ∀ (σ : L2.St) (vs : List Nat) (j : Nat), (wipe σ vs)[j]? = if j ∈ vs then (σ[j]?).map (fun _ => none) else σ[j]?
  | σ, [], j => by simp [wipe]
  | σ, v :: vs, j => by
    have ih := wipe_get σ vs j
    unfold wipe
    by_cases e : v = j
    · subst e
      rw [if_pos List.mem_cons_self]
      by_cases hl : v < σ.length
      · rw [List.getElem?_set_self (by rw [wipe_length]; exact hl), List.getElem?_eq_getElem hl]
        rfl
      · rw [List.getElem?_eq_none (by rw [List.length_set, wipe_length]; omega), List.getElem?_eq_none (by omega)]
        rfl
    · rw [List.getElem?_set_ne e, ih]
      by_cases h : j ∈ vs
      · rw [if_pos h, if_pos (List.mem_cons_of_mem _ h)]
      · rw [if_neg h, if_neg (by simp only [List.mem_cons, not_or]; exact ⟨Ne.symm e, h⟩)]
theorem wipes_length (ρ : Env) : ∀ vs : List Nat, (wipes ρ vs).length = ρ.length
  | [] => rfl
  | v :: vs => by unfold wipes; rw [List.length_set, wipes_length ρ vs]
theorem wipes_get : ∀ (ρ : Env) (vs : List Nat) (j : Nat), (wipes ρ vs)[j]? = if j ∈ vs then (ρ[j]?).map (fun _ => .un) else ρ[j]?
  | ρ, [], j => by simp [wipes]
  | ρ, v :: vs, j => by
    have ih := wipes_get ρ vs j
    unfold wipes
    by_cases e : v = j
    · subst e
      rw [if_pos List.mem_cons_self]
      by_cases hl : v < ρ.length
      · rw [List.getElem?_set_self (by rw [wipes_length]; exact hl), List.getElem?_eq_getElem hl]
        rfl
      · rw [List.getElem?_eq_none (by rw [List.length_set, wipes_length]; omega), List.getElem?_eq_none (by omega)]
        rfl
    · rw [List.getElem?_set_ne e, ih]
      by_cases h : j ∈ vs
      · rw [if_pos h, if_pos (List.mem_cons_of_mem _ h)]
      · rw [if_neg h, if_neg (by simp only [List.mem_cons, not_or]; exact ⟨Ne.symm e, h⟩)]
theorem unwipe_length (ρ₀ ρ : Env) : ∀ vs : List Nat, (unwipe ρ₀ ρ vs).length = ρ.length
  | [] => rfl
  | v :: vs => by unfold unwipe; rw [List.length_set, unwipe_length ρ₀ ρ vs]
theorem unwipe_get : ∀ (ρ₀ ρ : Env) (vs : List Nat) (j : Nat), (unwipe ρ₀ ρ vs)[j]? = if j ∈ vs then (ρ[j]?).map (fun _ => match ρ₀[j]? with | some (.v d) => .v d | _ => .un) else ρ[j]?
  | ρ₀, ρ, [], j => by simp [unwipe]
  | ρ₀, ρ, v :: vs, j => by
    have ih := unwipe_get ρ₀ ρ vs j
    unfold unwipe
    by_cases e : v = j
    · subst e
      rw [if_pos List.mem_cons_self]
      by_cases hl : v < ρ.length
      · rw [List.getElem?_set_self (by rw [unwipe_length]; exact hl), List.getElem?_eq_getElem hl]
        rfl
      · rw [List.getElem?_eq_none (l := (unwipe ρ₀ ρ vs).set v _) (by rw [List.length_set, unwipe_length]; omega), List.getElem?_eq_none (l := ρ) (by omega)]
        rfl
    · rw [List.getElem?_set_ne e, ih]
      by_cases h : j ∈ vs
      · rw [if_pos h, if_pos (List.mem_cons_of_mem _ h)]
      · rw [if_neg h, if_neg (by simp only [List.mem_cons, not_or]; exact ⟨Ne.symm e, h⟩)]
theorem wipe_eq {σ σ' : L2.St} {vs : List Nat} (hl : σ'.length = σ.length) (h : ∀ j, j ∉ vs → σ'[j]? = σ[j]?) : wipe σ' vs = wipe σ vs := by
  apply List.ext_getElem?
  intro j
  rw [wipe_get, wipe_get]
  by_cases hj : j ∈ vs
  · rw [if_pos hj, if_pos hj]
    by_cases l : j < σ.length
    · rw [List.getElem?_eq_getElem l, List.getElem?_eq_getElem (by omega)]
      rfl
    · rw [List.getElem?_eq_none (by omega), List.getElem?_eq_none (by omega)]
  · rw [if_neg hj, if_neg hj]
    exact h j hj
section
variable {K : PySem.W.Frag} {B : Hp} {P : List (Nat × V)} {G H G' H' : Hp} {σ : L2.St} {ρ : Env}
theorem Rel.wipe (rel : Rel K B P G H σ ρ) {vs : List Nat} (np : ∀ p ∈ P, p.1 ∉ vs) : Rel K B P G H (wipe σ vs) (wipes ρ vs) := by
  have out : ∀ {j : Nat} {s : Sl}, (wipes ρ vs)[j]? = some s → s ≠ .un → j ∉ vs ∧ ρ[j]? = some s := fun {j s} e ne => by
    rw [wipes_get] at e
    by_cases h : j ∈ vs
    · rw [if_pos h] at e
      obtain ⟨a, _, h2⟩ := Option.map_eq_some_iff.mp e
      exact absurd h2.symm ne
    · rw [if_neg h] at e
      exact ⟨h, e⟩
  have same : ∀ {j : Nat}, j ∉ vs → (L2.wipe σ vs)[j]? = σ[j]? := fun {j} h => by rw [wipe_get, if_neg h]
  refine ⟨rel.sub, rel.bys, fun p hp => by rw [same (np p hp)]; exact rel.pin p hp, by rw [wipes_length, wipe_length]; exact rel.len, fun i d e => ?_, fun i b e => ?_, fun i j a b c e e' r r' => ?_⟩
  · obtain ⟨n, e⟩ := out e (by intro z; cases z)
    obtain ⟨x, h1, h2⟩ := rel.val i d e
    exact ⟨x, by rw [same n]; exact h1, h2⟩
  · obtain ⟨n, e⟩ := out e (by intro z; cases z)
    obtain ⟨x, h1, h2⟩ := rel.own i b e
    exact ⟨x, by rw [same n]; exact h1, h2⟩
  · obtain ⟨n, e⟩ := out e (by intro z; cases z)
    obtain ⟨n', e'⟩ := out e' (by intro z; cases z)
    rw [same n] at r
    rw [same n'] at r'
    exact rel.sep i j a b c e e' r r'
/-- behind a comprehension -/
theorem Rel.unwipe {ρ₀ : Env} {G₀ H₀ : Hp} (rel₀ : Rel K B P G₀ H₀ σ ρ₀) (rel : Rel K B P G H (L2.wipe σ vs) ρ) (sg : Same G₀ G) : Rel K B P G H σ (unwipe ρ₀ ρ vs) := by
  have same : ∀ {j : Nat}, j ∉ vs → (L2.wipe σ vs)[j]? = σ[j]? := fun {j} h => by rw [wipe_get, if_neg h]
  have own : ∀ {j : Nat} {b : Ob}, (Rc.unwipe ρ₀ ρ vs)[j]? = some (.o b) → j ∉ vs ∧ ρ[j]? = some (.o b) := fun {j b} e => by
    rw [unwipe_get] at e
    by_cases h : j ∈ vs
    · rw [if_pos h] at e
      obtain ⟨a, _, h2⟩ := Option.map_eq_some_iff.mp e
      split at h2 <;> cases h2
    · rw [if_neg h] at e
      exact ⟨h, e⟩
  refine ⟨rel.sub, rel.bys, rel₀.pin, by rw [unwipe_length, rel.len, wipe_length], fun i d e => ?_, fun i b e => ?_, fun i j a b c e e' r r' => ?_⟩
  · rw [unwipe_get] at e
    by_cases h : i ∈ vs
    · rw [if_pos h] at e
      obtain ⟨a, _, h2⟩ := Option.map_eq_some_iff.mp e
      split at h2
      · rename_i d' q
        cases h2
        obtain ⟨x, h1, h2⟩ := rel₀.val i d q
        exact ⟨x, h1, Dq.mono sg h2⟩
      · cases h2
    · rw [if_neg h] at e
      obtain ⟨x, h1, h2⟩ := rel.val i d e
      exact ⟨x, by rw [← same h]; exact h1, h2⟩
  · obtain ⟨n, e⟩ := own e
    obtain ⟨x, h1, h2⟩ := rel.own i b e
    exact ⟨x, by rw [← same n]; exact h1, h2⟩
  · obtain ⟨n, e⟩ := own e
    obtain ⟨n', e'⟩ := own e'
    exact rel.sep i j a b c e e' (by rw [same n]; exact r) (by rw [same n']; exact r')
/-- a bystander more -/
theorem Rel.by_ {D : Addr} {o : HO} (rel : Rel K B P G H σ ρ) (hD : H D = some o) (gD : G D = none) (no : ∀ (i : Nat) (c : Ob), ρ[i]? = some (.o c) → σ[i]? ≠ some (some (.ref D))) : Rel K (upd B D o) P G H σ ρ := by
  refine ⟨rel.sub, fun b u e => ?_, rel.pin, rel.len, rel.val, fun i b e => ?_, rel.sep⟩
  · by_cases h : b = D
    · subst h
      rw [upd_same] at e
      cases e
      exact ⟨hD, gD⟩
    · rw [upd_ne h] at e
      exact rel.bys b u e
  · obtain ⟨a, h1, h2, h3, h4⟩ := rel.own i b e
    have h : a ≠ D := by
      rintro rfl
      exact no i b e h1
    exact ⟨a, h1, h2, (upd_ne h).trans h3, h4⟩
/-- .. changes while nobody looks -/
theorem Rel.step {D : Addr} {o o' : HO} (rel : Rel K (upd B D o) P G H σ ρ) : Rel K (upd B D o') P G (upd H D o') σ ρ := by
  have gD : G D = none := (rel.bys D o upd_same).2
  refine ⟨fun b u e => ?_, fun b u e => ?_, rel.pin, rel.len, rel.val, fun i b e => ?_, rel.sep⟩
  · rw [upd_ne (ne_of_none e gD)]
    exact rel.sub _ _ e
  · by_cases h : b = D
    · subst h
      rw [upd_same] at e
      cases e
      exact ⟨upd_same, gD⟩
    · rw [upd_ne h] at e ⊢
      exact rel.bys b u (by rw [upd_ne h]; exact e)
  · obtain ⟨a, h1, h2, h3, h4⟩ := rel.own i b e
    have h : a ≠ D := by
      rintro rfl
      rw [upd_same] at h3
      cases h3
    rw [upd_ne h] at h3
    exact ⟨a, h1, h2, (upd_ne h).trans h3, h4.mono (Same.refl _) (upd_ne h)⟩
/-- .. is known again -/
theorem Rel.unby {D : Addr} {o : HO} (rel : Rel K (upd B D o) P G H σ ρ) (bD : B D = none) : Rel K B P G H σ ρ ∧ H D = some o ∧ G D = none ∧ ∀ (i : Nat) (c : Ob), ρ[i]? = some (.o c) → σ[i]? ≠ some (some (.ref D)) := by
  obtain ⟨q1, q2⟩ := rel.bys D o upd_same
  have ne : ∀ (i : Nat) (c : Ob) (a : Addr), ρ[i]? = some (.o c) → σ[i]? = some (some (.ref a)) → a ≠ D := fun i c a e s => by
    obtain ⟨a', h1, h2, h3, h4⟩ := rel.own i c e
    rw [s] at h1
    cases h1
    rintro rfl
    rw [upd_same] at h3
    cases h3
  refine ⟨⟨rel.sub, fun b u e => ?_, rel.pin, rel.len, rel.val, fun i b e => ?_, rel.sep⟩, q1, q2, fun i c e s => ne i c D e s rfl⟩
  · have h : b ≠ D := by
      rintro rfl
      rw [bD] at e
      cases e
    exact rel.bys b u (by rw [upd_ne h]; exact e)
  · obtain ⟨a, h1, h2, h3, h4⟩ := rel.own i b e
    rw [upd_ne (ne i b a e h1)] at h3
    exact ⟨a, h1, h2, h3, h4⟩
end

/-! ### targets -/
def Tg.slots : Tg → List Nat
  | .nm i => [i]
  | .tp is => is
/-- data are laid into a target -/
def tG (K : PySem.W.Frag) (F : Fx) (tg : Tg) : TG := fun v σ H Q => ∃ G ρ d ρ', F.rel K G H σ ρ ∧ Dq K G v d ∧ setTg tg d ρ = some ρ' ∧ ∀ σ', F.rel K G H σ' ρ' → (∀ j, j ∉ tg.slots → σ'[j]? = σ[j]?) → σ'.length = σ.length → Q σ' H
theorem pg_of {X : Cx} {tg : Expr} {t : TG} (h : ∀ v σ H Q, t v σ H Q → ∃ t', PG X tg t' ∧ t' v σ H Q) : PG X tg t := ⟨fun pins s σ H v u Q I r q => by
  obtain ⟨t', p, q'⟩ := h v σ H Q q
  exact p.run pins s σ H v u Q I r q'⟩
section
variable {X : Cx} {F : Fx} {W : Wd} {pos : Pos}
structure TgOk (X : Cx) (F : Fx) (i : Nat) (x : Str) : Prop where
  nm : X.N[i]? = some x
  lc : Loc X.env.scope x
  fn : X.fn x = true ∨ X.env.scope.names.lookup x = some .local
  np : ∀ p ∈ F.P, p.1 ≠ i
theorem tg_nm (nd : X.N.Nodup) {i : Nat} {x : Str} (h : TgOk X F i x) : PG X (.Name x pos) (tG X.K F (.nm i)) := pg_of fun v σ H Q q => by
  obtain ⟨G, ρ, d, ρ', rel, hd, e, k⟩ := q
  cases e
  refine ⟨_, pg_name (i := i) nd h.nm h.lc h.fn, k _ (rel.setV hd h.np) (fun j hj => ?_) (by rw [List.length_set])⟩
  rw [List.getElem?_set_ne (by intro z; subst z; exact hj (List.mem_singleton.mpr rfl))]
inductive TgsOk (X : Cx) (F : Fx) : List Nat → List Expr → Prop
  | nil : TgsOk X F [] []
  | cons {i : Nat} {x : Str} {p : Pos} {is : List Nat} {es : List Expr} : TgOk X F i x → TgsOk X F is es → TgsOk X F (i :: is) (.Name x p :: es)
theorem assignEach_len : ∀ {is : List Nat} {es : List Expr}, TgsOk X F is es → (assignEach es X.env).length = is.length ∧ (assignEach es X.env).findIdx? (·.1) = none
  | [], _, .nil => ⟨rfl, rfl⟩
  | i :: is, _, .cons h t => by
    obtain ⟨h1, h2⟩ := assignEach_len t
    refine ⟨by show (assignEach _ X.env).length + 1 = _; rw [h1]; rfl, ?_⟩
    show List.findIdx? _ ((false, _) :: _) = none
    rw [List.findIdx?_cons, h2]
    rfl
theorem tgs_ok (nd : X.N.Nodup) : ∀ {is : List Nat} {es : List Expr}, TgsOk X F is es → PGs X es (fun vs σ H Q => ∃ G ρ ds, F.rel X.K G H σ ρ ∧ DqAll X.K G vs ds ∧ ds.length = is.length ∧
      ∀ σ', F.rel X.K G H σ' (setAll ρ is ds) → (∀ j, j ∉ is → σ'[j]? = σ[j]?) → σ'.length = σ.length → Q σ' H)
  | [], _, .nil => ⟨fun pins s σ H vs us Q I r q => by
      obtain ⟨G, ρ, ds, rel, hd, hl, k⟩ := q
      have e : ds = [] := List.eq_nil_of_length_eq_zero (by rw [hl]; rfl)
      subst e
      cases hd
      exact pgs_nil.run pins s σ H [] us Q I r ⟨rfl, k σ rel (fun _ _ => rfl) rfl⟩⟩
  | i :: is, _, .cons h t => ⟨fun pins s σ H vs us Q I r q => by
      obtain ⟨G, ρ, ds, rel, hd, hl, k⟩ := q
      cases hd with
      | nil => cases hl
      | cons h1 h2 =>
        rename_i v vs d ds
        refine (pgs_cons (pg_name (i := i) nd h.nm h.lc h.fn) (tgs_ok nd t)).run pins s σ H _ us Q I r ⟨_, _, rfl, ?_⟩
        refine ⟨G, ρ.set i (.v d), ds, rel.setV h1 h.np, h2, Nat.succ.inj hl, fun σ' rel' a l => k σ' rel' (fun j hj => ?_) (by rw [l, List.length_set])⟩
        have h1 : j ≠ i := fun z => hj (z ▸ List.mem_cons_self)
        have h2 : j ∉ is := fun z => hj (List.mem_cons_of_mem _ z)
        rw [a j h2, List.getElem?_set_ne (Ne.symm h1)]⟩
theorem tg_tp (hc : X.calm = true) (nd : X.N.Nodup) {is : List Nat} {es : List Expr} {k : Nat} (h : TgsOk X F is es) : PG X (.Tuple es k pos) (tG X.K F (.tp is)) := pg_of fun v σ H Q q => by
  obtain ⟨G, ρ, d, ρ', rel, hd, e, k⟩ := q
  obtain ⟨l1, l2⟩ := assignEach_len h
  refine ⟨_, pg_tup hc (tgs_ok nd h) l1 l2, ?_⟩
  unfold setTg at e
  simp only at e
  split at e
  · rename_i xs
    split at e
    · rename_i hl
      cases e
      cases hd with
      | tup h1 h2 =>
        exact ⟨_, _, rfl, SqT.mono rel.sub h1, by rw [h2.length, hl], G, ρ, xs, rel, h2, hl, k⟩
    · cases e
  · cases e
end
end Rc

set_option Elab.async false
set_option linter.all false
set_option maxRecDepth 100000
set_option maxHeartbeats 1000000
namespace Rc
open PySem PySem.Spec PyProof.Rows L2

/-- J walks the data ds while G stands -/
def WalkD (K : PySem.W.Frag) (G : Hp) (J : L2.It) (ds : List PyData) : Prop := ∃ Gw Y, Walk J ds.length Gw Y ∧ (∀ H, Same G H → Gw H) ∧
  ∀ i H x H' G1, i < ds.length → Same G G1 → Same G1 H → Y i H x H' → ∃ d G2, ds[i]? = some d ∧ NewR K G1 H G2 H' (.v d) x
def tI (K : PySem.W.Frag) (F : Fx) (m : Env → Out Src) : TI := fun σ H R => ∃ G ρ, F.rel K G H σ ρ ∧ Post (m ρ) fun src ρ' => ∃ ds, src = .items ds ∧ ∀ G' H' J, Same G G' → F.rel K G' H' σ ρ' → WalkD K G' J ds → R J H'
theorem walkD_at {K : PySem.W.Frag} {G : Hp} {J : L2.It} {ds : List PyData} {vs : List V} {Gw : Hp → Prop} (w : Walk J vs.length Gw (YAt vs)) (hg : ∀ H, Same G H → Gw H) (hd : DqAll K G vs ds) : WalkD K G J ds := by
  refine ⟨Gw, YAt vs, by rw [← hd.length]; exact w, hg, fun i H x H' G1 hi s1 s2 y => ?_⟩
  obtain ⟨rfl, e⟩ := y
  obtain ⟨v, e1, e2⟩ := hd.get (i := i) (d := ds[i]) (by simp [hi])
  rw [e] at e1
  cases e1
  exact ⟨ds[i], G1, by simp [hi], .val (Dq.mono s1 e2)⟩
section
variable {X : Cx} {F : Fx} {W : Wd} {pos : Pos} {tg a b : Expr} {ea eb : Ex}
theorem it_seq (ha : PEv X F W a ea) : PI X tg a (tI X.K F (evI W (.seq ea))) := pi_of fun σ H R q => by
  obtain ⟨G, ρ, rel, post⟩ := q
  obtain ⟨r, ρ1, e1, post_⟩ := Post.bind post; clear post; have post := post_; clear post_
  obtain ⟨d, ρ2, e2, post_⟩ := Post.bind post; clear post; have post := post_; clear post_
  cases d with
  | list xs =>
    obtain ⟨ds, h, k⟩ := post
    cases h
    refine ⟨_, pi_list ha, tE_frz rel e1 e2 fun G1 H1 x s1 rel1 dq => ?_⟩
    cases dq with
    | lst h1 h2 => exact ⟨_, rfl, ⟨_, SqL.mono rel1.sub h1⟩, k G1 H1 _ s1 rel1 (walkD_at walk_list (fun H s => SqL.mono s h1) h2)⟩
  | tuple xs =>
    obtain ⟨ds, h, k⟩ := post
    cases h
    refine ⟨_, pi_tup ha, tE_frz rel e1 e2 fun G1 H1 x s1 rel1 dq => ?_⟩
    cases dq with
    | tup h1 h2 => exact ⟨_, rfl, ⟨_, SqT.mono rel1.sub h1⟩, k G1 H1 _ s1 rel1 (walkD_at walk_tup (fun H s => SqT.mono s h1) h2)⟩
  | str z =>
    obtain ⟨ds, h, k⟩ := post
    cases h
    refine ⟨_, pi_str ha, tE_frz rel e1 e2 fun G1 H1 x s1 rel1 dq => ?_⟩
    cases dq
    have hl : (signs z).length = z.cps.size := by
      unfold signs
      rw [List.length_map, Array.length_toList]
    refine ⟨z, rfl, k G1 H1 _ s1 rel1 ⟨_, _, by rw [hl]; exact walk_str, fun _ _ => trivial, fun i H2 x H' G2 hi _ _ y => ?_⟩⟩
    obtain ⟨rfl, c, hc, rfl⟩ := y
    refine ⟨sign c, G2, ?_, .val (.str _)⟩
    unfold signs
    rw [List.getElem?_map, Array.getElem?_toList, hc]
    rfl
  | _ => exact post.elim
theorem it_rng1 {p : Pos} (ha : PEv X F W a ea) (hg : Gl X "range") (hm : X.mg "range" = none) (hs : starEach [a] X.env = [(false, eval a X.env)]) : PI X tg (.Call (.Name "range" p) [a] [] pos) (tI X.K F (evI W (.rng1 ea))) := pi_of fun σ H R q => by
  obtain ⟨G, ρ, rel, post⟩ := q
  obtain ⟨r, ρ1, e1, post_⟩ := Post.bind post; clear post; have post := post_; clear post_
  split at post
  · rename_i n
    split at post
    · rename_i hn
      obtain ⟨ds, h, k⟩ := post
      cases h
      have hn := small62_of hn
      refine ⟨_, pi_range1 hg hm (pa_cons ha pa_nil hs) hs, tE_opd rel e1 fun G1 H1 x s1 rel1 dq _ => ?_⟩
      cases (show Dq X.K G1 x (.int n) from dq)
      refine ⟨n, rfl, hn.1, hn.2, k G1 H1 _ s1 rel1 ⟨fun _ => True, YFn fun k => .int (0 + (k : Nat)), ?_, fun _ _ => trivial, fun i H2 x H' G2 hi _ _ y => ?_⟩⟩
      · unfold rng1L
        rw [List.length_map, List.length_range]
        exact walk_range
      · obtain ⟨rfl, rfl⟩ := y
        refine ⟨.int i, G2, ?_, .val ?_⟩
        · unfold rng1L at hi ⊢
          rw [List.length_map, List.length_range] at hi
          rw [List.getElem?_map, List.getElem?_range hi]
          rfl
        · show Dq X.K G2 (.int (0 + (i : Nat))) (.int (i : Nat))
          rw [Int.zero_add]
          exact .int _
    · exact post.elim
  · exact post.elim
theorem it_rng2 {p : Pos} (ha : PEv X F W a ea) (hb : PEv X F W b eb) (hg : Gl X "range") (hm : X.mg "range" = none) (hs : starEach [a, b] X.env = [(false, eval a X.env), (false, eval b X.env)]) (hs2 : starEach [b] X.env = [(false, eval b X.env)]) :
    PI X tg (.Call (.Name "range" p) [a, b] [] pos) (tI X.K F (evI W (.rng2 ea eb))) := pi_of fun σ H R q => by
  obtain ⟨G, ρ, rel, post⟩ := q
  obtain ⟨r, ρ1, e1, post_⟩ := Post.bind post; clear post; have post := post_; clear post_
  obtain ⟨r2, ρ2, e2, post_⟩ := Post.bind post; clear post; have post := post_; clear post_
  split at post
  · rename_i i j
    split at post
    · rename_i hn
      obtain ⟨ds, h, k⟩ := post
      cases h
      rw [Bool.and_eq_true] at hn
      have hn := And.intro (small62_of hn.1) (small62_of hn.2)
      refine ⟨_, pi_range2 hg hm (pa_cons ha (pa_cons hb pa_nil hs2) (by rw [hs, hs2])) hs hs2, tE_opd rel e1 fun G1 H1 x s1 rel1 dq _ => tE_opd rel1 e2 fun G2 H2 y s2 rel2 dq2 _ => ?_⟩
      cases (show Dq X.K G1 x (.int i) from dq)
      cases (show Dq X.K G2 y (.int j) from dq2)
      refine ⟨i, j, rfl, ⟨hn.1.1, hn.1.2, hn.2.1, hn.2.2⟩, k G2 H2 _ (s1.trans s2) rel2 ⟨fun _ => True, YFn fun k => .int (i + (k : Nat)), ?_, fun _ _ => trivial, fun n H2 x H' G2 hi _ _ y => ?_⟩⟩
      · unfold rng
        rw [List.length_map, List.length_range]
        exact walk_range
      · obtain ⟨rfl, rfl⟩ := y
        refine ⟨.int (i + (n : Int) * 1), G2, ?_, .val ?_⟩
        · unfold rng at hi ⊢
          rw [List.length_map, List.length_range] at hi
          rw [List.getElem?_map, List.getElem?_range hi]
          rfl
        · show Dq X.K G2 (.int (i + (n : Nat))) (.int (i + (n : Int) * 1))
          rw [Int.mul_one]
          exact .int _
    · exact post.elim
  · exact post.elim

/-! ### comprehensions -/
theorem compL_cons {turn : PyData → Env → Out (Option PyData)} {x : PyData} {xs acc : List PyData} {ρ : Env} {ds : List PyData} {ρ' : Env} (h : compL turn (x :: xs) acc ρ = .ok ds ρ') :
    ∃ r ρ1, turn x ρ = .ok r ρ1 ∧ ((r = none ∧ compL turn xs acc ρ1 = .ok ds ρ') ∨ ∃ d, r = some d ∧ acc.length < Lm ∧ compL turn xs (acc ++ [d]) ρ1 = .ok ds ρ') := by
  have h : ((turn x ρ).bind fun r ρ' => match r with
    | none => compL turn xs acc ρ'
    | some d => if acc.length < Lm then compL turn xs (acc ++ [d]) ρ' else .bad) = .ok ds ρ' := h
  cases e : turn x ρ with
  | ok r ρ1 =>
    rw [e] at h
    refine ⟨r, ρ1, rfl, ?_⟩
    cases r with
    | none => exact .inl ⟨rfl, h⟩
    | some d =>
      have h : (if acc.length < Lm then compL turn xs (acc ++ [d]) ρ1 else .bad) = .ok ds ρ' := h
      split at h
      · exact .inr ⟨d, rfl, by assumption, h⟩
      · cases h
  | exc x ρ1 => rw [e] at h; cases h
  | bad => rw [e] at h; cases h
theorem bind_ok {α β : Type} {o : Out α} {f : α → Env → Out β} {b : β} {ρ : Env} (h : o.bind f = .ok b ρ) : ∃ a ρ1, o = .ok a ρ1 ∧ f a ρ1 = .ok b ρ := by
  cases o with
  | ok a ρ1 => exact ⟨a, ρ1, rfl, h⟩
  | exc x ρ1 => cases h
  | bad => cases h
/-- one turn of a comprehension -/
def cturn (W : Wd) (elt : Ex) (tg : Tg) (ifs : Tss) (own : List Nat) : PyData → Env → Out (Option PyData) := fun x ρ2 => match setTg tg x ρ2 with
  | none => .bad
  | some ρ3 => (evF W ifs ρ3).bind fun t ρ4 => match t with
    | false => .ok none (wipes ρ4 own)
    | true => (ev W elt ρ4).bind fun r ρ5 => (frz r ρ5).bind fun d ρ6 => .ok (some d) (wipes ρ6 own)
theorem wipe_twice (σ : L2.St) (vs : List Nat) : wipe (wipe σ vs) vs = wipe σ vs := wipe_eq (wipe_length _ _) fun j hj => by rw [wipe_get, if_neg hj]
theorem pts_of {X : Cx} {ifs : List Expr} {t : TT} (h : ∀ σ H Q, t σ H Q → ∃ t', PTs X ifs t' ∧ t' σ H Q) : PTs X ifs t := ⟨fun pins s σ H Q I q => by
  obtain ⟨t', p, q'⟩ := h σ H Q q
  exact p.run pins s σ H Q I q'⟩
def gAny (K : PySem.W.Frag) (P : List (Nat × V)) (tg : Tg) : TG := fun v σ H Q => ∃ F' : Fx, F'.P = P ∧ tG K F' tg v σ H Q
def tAny (K : PySem.W.Frag) (P : List (Nat × V)) (m : Env → Out Bool) : TT := fun σ H Q => ∃ F' : Fx, F'.P = P ∧ tT K F' m σ H Q
def eAny (K : PySem.W.Frag) (P : List (Nat × V)) (m : Env → Out R) : TE := fun σ H Q => ∃ F' : Fx, F'.P = P ∧ tE K F' m σ H Q
theorem lc_wish {ownp : List (Str × Nat)} {eelt : Ex} {etg : Tg} {eit : Rc.It} {eifs : Tss} {own : List Nat} (ho : own = ownp.map (·.2)) (np : ∀ p ∈ F.P, p.1 ∉ own) (hsub : ∀ j ∈ etg.slots, j ∈ own) :
    ∀ σ H Q, tE X.K F (ev W (.comp eelt etg eit eifs own)) σ H Q → tLc (tI X.K F (evI W eit)) (gAny X.K F.P etg) (tAny X.K F.P (evF W eifs)) (eAny X.K F.P (ev W eelt)) (ownp.map (·.2)) σ H Q := fun σ H Q q => by
  obtain ⟨G, ρ, rel, post⟩ := q
  obtain ⟨src, ρ1, e1, post_⟩ := Post.bind post; clear post; have post := post_; clear post_
  cases src with
  | slot i n => exact post.elim
  | items xs =>
  obtain ⟨ds, ρ7, e2, post_⟩ := Post.bind post; clear post; have post := post_; clear post_
  have e2 : compL (cturn W eelt etg eifs own) xs [] (wipes ρ1 own) = .ok ds ρ7 := e2
  rw [← ho]
  refine ⟨G, ρ, rel, ?_⟩
  rw [e1]
  refine ⟨xs, rfl, fun G1 H1 J s1 rel1 wd => ?_⟩
  obtain ⟨Gw, Y, wk, wg, wy⟩ := wd
  intro D hD
  have bD : F.B D = none := rel1.bnone hD
  have gD : G1 D = none := Same.free rel1.sub hD
  refine lc_it (g := gAny X.K F.P etg) (tt := tAny X.K F.P (evF W eifs)) (te := eAny X.K F.P (ev W eelt)) (vs := own) (σ := σ) (H1 := H1) (D := D) (Qd := fun H => Q (.ref D) H) wk (fun i H => ∃ Gi ρi acc vs, Same G1 Gi ∧ Rel X.K (upd F.B D (.lst vs)) F.P Gi H (wipe σ own) ρi ∧ DqAll X.K Gi vs acc ∧ compL (cturn W eelt etg eifs own) (xs.drop i) acc ρi = .ok ds ρ7) ?_ ?_ ?_ ?_
  · refine ⟨G1, wipes ρ1 own, [], [], Same.refl _, ?_, .nil, e2⟩
    have r2 := (Rel.wipe rel1 np).fresh (o := .lst []) hD
    refine r2.by_ upd_same gD fun i c e z => ?_
    obtain ⟨a, h1, _, _, h4⟩ := (Rel.wipe rel1 np).own i c e
    rw [z] at h1
    cases h1
    obtain ⟨u, hu⟩ := h4.some
    rw [hD] at hu
    cases hu
  · rintro i H2 _ ⟨Gi, ρi, acc, vs, sg, rl, _, _⟩
    exact wg _ (sg.trans rl.sub)
  · rintro i x H2 H3 hi ⟨Gi, ρi, acc, vs, sg, rl, da, ec⟩ y
    obtain ⟨d, G2, hd, nr⟩ := wy i H2 x H3 Gi hi sg rl.sub y
    obtain ⟨s2, rl2, dq⟩ := nr.rel rl
    have dq : Dq X.K G2 x d := dq
    have ed : xs.drop i = d :: xs.drop (i + 1) := by
      obtain ⟨hl, ex⟩ := List.getElem?_eq_some_iff.mp hd
      rw [List.drop_eq_getElem_cons hl, ex]
    rw [ed] at ec
    obtain ⟨r, ρ', et, ec⟩ := compL_cons ec
    unfold cturn at et
    split at et
    · cases et
    rename_i ρ3 e3
    obtain ⟨t, ρ4, e4, et⟩ := bind_ok et
    refine ⟨⟨upd F.B D (.lst vs), F.P⟩, rfl, G2, ρi, d, ρ3, rl2, dq, e3, fun σ' rl3 ag ln => ?_⟩
    have w1 : wipe σ' own = wipe σ own := by
      rw [wipe_eq ln fun j hj => ag j fun z => hj (hsub j z), wipe_twice]
    refine ⟨w1, ⟨upd F.B D (.lst vs), F.P⟩, rfl, tT_in (F := ⟨upd F.B D (.lst vs), F.P⟩) rl3 e4 fun G4 H4 s4 rl4 => ?_⟩
    cases t with
    | false =>
      cases et
      rw [if_neg Bool.false_ne_true]
      rcases ec with ⟨_, ec⟩ | ⟨d', z, _⟩
      · refine ⟨G4, _, acc, vs, sg.trans (s2.trans s4), ?_, DqAll.mono (s2.trans s4) da, ec⟩
        have w := Rel.wipe rl4 np
        rw [w1] at w
        exact w
      · cases z
    | true =>
      obtain ⟨r5, ρ5, e5, et⟩ := bind_ok et
      obtain ⟨d6, ρ6, e6, et⟩ := bind_ok et
      cases et
      rw [if_pos rfl]
      refine ⟨⟨upd F.B D (.lst vs), F.P⟩, rfl, tE_frz (F := ⟨upd F.B D (.lst vs), F.P⟩) rl4 e5 e6 fun G6 H6 z s6 rl6 dz => ?_⟩
      rcases ec with ⟨z, _⟩ | ⟨d', z, hl, ec⟩
      · cases z
      cases z
      refine ⟨vs, (rl6.bys D _ upd_same).1, by rw [da.length, Lm_eq]; exact hl, ?_⟩
      refine ⟨G6, _, acc ++ [d6], vs ++ [z], sg.trans (s2.trans (s4.trans s6)), ?_, (DqAll.mono (s2.trans (s4.trans s6)) da).append (DqAll.one dz), ec⟩
      have w := Rel.wipe (Rel.step (o' := .lst (vs ++ [z])) rl6) np
      rw [w1] at w
      exact w
  · rintro H2 ⟨Gi, ρi, acc, vs, sg, rl, da, ec⟩
    rw [List.drop_length] at ec
    cases ec
    obtain ⟨r2, hD2, gD2, no⟩ := Rel.unby rl bD
    refine post Gi H2 (.ref D) (s1.trans sg) (Rel.unwipe rel1 r2 sg) ⟨D, rfl, gD2, bD, ⟨vs, hD2, da⟩, fun i c e z => ?_⟩
    rw [unwipe_get] at e
    by_cases h : i ∈ own
    · rw [if_pos h] at e
      obtain ⟨u, _, h2⟩ := Option.map_eq_some_iff.mp e
      split at h2 <;> cases h2
    · rw [if_neg h] at e
      exact no i c e (by rw [wipe_get, if_neg h]; exact z)
end
end Rc

set_option Elab.async false
set_option linter.all false
set_option maxRecDepth 100000
set_option maxHeartbeats 2000000
/-! Enm: enumerate over a tuple. -/
namespace Rc
open PySem PySem.Spec PyProof.Rows L2
theorem newEnT (r : Addr) (xs : Array Value) (m : Nat) (dd : Option Addr) (so : Array (Option Value)) :
    Meets (Builtin.«enumerate.__new__» ⟨[.type "enumerate", .ref r], []⟩) (fun _ Z st => st.heap.get? r = some { cls := .type "tuple", dict := dd, data := .seq xs m, slots := so } ∧
      Z (.ok (.ret (.ref (st.heap.push { cls := .type "tuple_iterator", data := .fields #[.ref r, .int 0 0] }).objs.size)))
        { st with heap := (st.heap.push { cls := .type "tuple_iterator", data := .fields #[.ref r, .int 0 0] }).push { cls := .type "enumerate", data := .fields #[.none, .bool false, .ref st.heap.objs.size, rawInt 0, .none, .none] } }) :=
  .of_wp fun pr wd A Z st q => by
    obtain ⟨hp, gn, dr, tk, os⟩ := st; obtain ⟨hr, q⟩ := q
    have hsb := sub_enumerate
    have hT : Heap.IsTuple (Shared.heap ⟨hp, gn, dr, tk, os⟩) r xs := ⟨_, hr, rfl, m, rfl⟩
    wp_walk using AutoSeq1.wpAny_loadPart' hr
    refine wpAny_stack_any fun sk => wpAny_pure ?_
    split
    · rename_i cc _ _ _ _ _
      cases (cc == Value.type "enumerate")
      · wp_walk using AutoSeq1.wpAny_loadPart' hr, wpAny_pyIter_tuple hT
        exact ⟨_, rfl, q⟩
      · wp_walk using AutoSeq1.wpAny_loadPart' hr, wpAny_pyIter_tuple hT
        exact ⟨_, rfl, q⟩
    · wp_walk using AutoSeq1.wpAny_loadPart' hr, wpAny_pyIter_tuple hT
      exact ⟨_, rfl, q⟩
theorem call_enT {pr : Program} {wd : World} {A : Around} {E : Value → Shared → Prop} {st : Shared} {r : Addr} {xs : Array Value} {Q : Value → Shared → Prop} (hT : st.heap.IsTuple r xs)
    (q : ∀ h', IsEnum h' (st.heap.objs.size + 1) st.heap.objs.size 0 .none → h'.IsTupleIter st.heap.objs.size r 0 → h'.objs.size = st.heap.objs.size + 2 → (∀ b o, st.heap.get? b = some o → h'.get? b = some o) → Q (.ref (st.heap.objs.size + 1)) { st with heap := h' }) :
    wpAny (model pr wd) A (call (.type "enumerate") [.ref r]) Q E st := by
  obtain ⟨⟨cc, dd, dt, so⟩, hr, hc, m, hd⟩ := hT
  have hc : cc = .type "tuple" := hc
  have hd : dt = .seq xs m := hd
  subst hc hd
  refine callType_new F.called_enumerate (by decide) (F.typeCall_enumerate_1 _) (F.newCall_enumerate_1 _) (fun ob => F.args_object_init_2 ob _) F.entry_enumerate_new (newEnT r xs m dd so) ⟨hr, ?_⟩
  generalize hI : ({ cls := .type "tuple_iterator", data := .fields #[.ref r, .int 0 0] } : Obj) = oI
  have sz : (st.heap.push oI).objs.size = st.heap.objs.size + 1 := Heap.size_push ..
  show _ ∧ _
  rw [sz]
  generalize hE : ({ cls := .type "enumerate", data := .fields #[.none, .bool false, .ref st.heap.objs.size, rawInt 0, .none, .none] } : Obj) = oE
  have he : ((st.heap.push oI).push oE).get? (st.heap.objs.size + 1) = some oE := by
    have z := Heap.get?_push_size (st.heap.push oI) (o := oE) (by rw [← hE]; rfl)
    rwa [sz] at z
  have hi : ((st.heap.push oI).push oE).get? st.heap.objs.size = some oI := Heap.get?_push_of_some _ (Heap.get?_push_size _ (by rw [← hI]; rfl))
  refine ⟨⟨_, he, by rw [← hE]⟩, q _ (by rw [← hE] at he ⊢; exact he) ⟨_, hi, by rw [← hI], by rw [← hI]; rfl⟩ (by rw [Heap.size_push, sz]) fun b o x => Heap.get?_push_of_some _ (Heap.get?_push_of_some _ x)⟩
/-- the tuple at a, each item in a new pair -/
def IenT (K : PySem.W.Frag) (a : Addr) : L2.It :=
  ⟨fun i H => ∃ (xs : List V) (x : V), SqT K H a xs ∧ xs[i]? = some x, fun i H v H' => ∃ T x, v = .ref T ∧ H T = none ∧ H' = upd H T (.tup [.int (i : Nat), x]) ∧ ∀ xs, SqT K H a xs → xs[i]? = some x, fun i H => ∃ xs : List V, SqT K H a xs ∧ xs.length ≤ i⟩
theorem turn_enT {P : Program} {w : World} {K : PySem.W.Frag} {elts : List Expr} {kk : Nat} {tpos : Pos} (r e j : Addr) :
    Turn P w K (.Tuple elts kk tpos) (IenT K r) [e, j] e (fun i h => (∃ old, IsEnum h e j ((i : Nat) : Int) old) ∧ h.IsTupleIter j r i ∧ e ≠ j ∧ r ≠ j ∧ e ≠ r) where
  mem := by simp
  obj := fun i h st b hb => by
    obtain ⟨⟨od, he⟩, ⟨o, ho, _, hd⟩, _⟩ := st
    rcases List.mem_cons.mp hb with rfl | hb
    · exact ⟨_, he, fun v z => nomatch z⟩
    · rw [List.mem_singleton.mp hb]
      exact ⟨o, ho, fun v z => by rw [hd] at z; cases z⟩
  keep := fun i h h' st k => let ⟨⟨od, he⟩, hj, n⟩ := st; ⟨⟨od, k e (by simp) _ he⟩, hj.at fun o z => k j (by simp) o z, n⟩
  item := by
    intro X hP hw hK hc i pins s σ H E I hf st hg
    subst hP hw hK
    obtain ⟨⟨od, he⟩, hj, ne, nr, nt⟩ := st
    obtain ⟨xs, x, sq, hx⟩ := hg
    obtain ⟨its, rv, tp, _⟩ := I.tuple sq
    obtain ⟨u, hu, ru⟩ := rv.get hx
    have tp : s.heap.IsTuple r its.toArray := tp
    have le : e < s.heap.objs.size := Heap.lt_size he
    have lj : j < s.heap.objs.size := by obtain ⟨_, z, _⟩ := hj; exact Heap.lt_size z
    have hil : i < its.toArray.size := by
      have := (List.getElem?_eq_some_iff.mp hu).1
      simpa using this
    refine wpAny_pyNext_enum_itemD (Draws.tuple (A := X.A.in1) (show X.A.in1.handled = none from I.ok.hd hc) j r nr its.toArray) he ⟨hj, tp⟩ hil ne (by simp [ne, nt]) fun y h' tk py ho hst' hT hz hk => ?_
    have ey : y = u := by
      have py : its.toArray[i]? = some y := py
      rw [List.getElem?_toArray, hu] at py
      exact (Option.some.inj py).symm
    subst ey
    refine ⟨_, rfl, wpAny_letOwnedTupleGo_enum (s := { s with heap := h', toks := tk + 1 }) ho fun h2 he2 sb => ?_⟩
    have hT2 : h2.get? s.heap.objs.size = some { cls := .type "tuple", data := .seq #[.int i tk, y] } := (sb.2 _ (Nat.ne_of_gt le)).trans hT
    have nw : ObjOk X.prog X.w (upd H s.heap.objs.size (.tup [.int (i : Nat), x])) h2 s.heap.objs.size (.tup [.int (i : Nat), x]) :=
      ⟨by show 2 ≤ sizeLine; decide, [.int i tk, y], .cons ⟨_, rfl⟩ (.cons ru .nil), ⟨_, hT2, rfl, _, rfl⟩⟩
    have I1 : Inv X pins σ (upd H s.heap.objs.size (.tup [.int (i : Nat), x])) { s with heap := h2, toks := tk + 1 } :=
      I.turnedNew (ch := [e, j]) (fun b ob hb z => (sb.2 b (fun q => hb (by simp [q]))).trans (hk b ob (fun q => hb (by simp [q])) (fun q => hb (by simp [q])) z)) hf (Nat.le_refl _) nw
    refine ⟨.ref s.heap.objs.size, _, I1, rfl, ⟨_, x, rfl, I.hok.fresh (Nat.le_refl _), rfl, fun ys hy => by rw [I.tuple_inj hy sq]; exact hx⟩, ⟨⟨y, ?_⟩, hst'.1.at fun o z => (sb.2 j (Ne.symm ne)).trans z, ne, nr, nt⟩, fun b hb => ?_⟩
    · have ei : ((i + 1 : Nat) : Int) = (i : Int) + 1 := by omega
      rw [ei]; exact he2
    · have lb : b < s.heap.objs.size := by
        rcases List.mem_cons.mp hb with rfl | hb
        · exact le
        · rw [List.mem_singleton.mp hb]
          exact lj
      rw [upd_ne (Nat.ne_of_lt lb)]
      exact (hf b hb).1
  done := by
    intro X hP hw hK hc i pins s σ H E I hf st hg
    subst hP hw hK
    obtain ⟨⟨od, he⟩, hj, ne, nr, nt⟩ := st
    obtain ⟨xs, sq, hx⟩ := hg
    obtain ⟨its, rv, tp, _⟩ := I.tuple sq
    have tp : s.heap.IsTuple r its.toArray := tp
    obtain ⟨f0, f1, f2, f3, f4, f5⟩ := hf j (by simp)
    have hl := rv.length
    have hn : its.toArray[i]? = none := by
      rw [List.getElem?_toArray]
      exact List.getElem?_eq_none (by omega)
    have D : Draws X.prog X.w X.A.in1 j [j, r] i (fun _ _ => True) (fun k h => k = i ∧ h.IsTupleIter j r k ∧ h.IsTuple r its.toArray) :=
      { live := fun _ _ st => let ⟨o, ho, _⟩ := st.2.1; ⟨o, ho⟩
        frame := fun _ _ _ st k => ⟨st.1, st.2.1.at fun o z => k j (by simp) o z, st.2.2.at fun o z => k r (by simp) o z⟩
        item := fun k s Q E hk st _ => absurd st.1 (Nat.ne_of_lt hk)
        done := fun s Q E st hE => wpAny_nextOf_tuple_end (show X.A.in1.handled = none from I.ok.hd hc) st.2.1 st.2.2 hn hE }
    exact wpAny_pyNext_enum_endD D he ⟨rfl, hj, tp⟩ fun h' eb => ⟨rfl, I.turned (t' := s.toks) (fun b o hb z => eb b o hb z) f0 f1 f3 f4 f5⟩
  self := fun _ _ _ _ _ st q => wpAny_pyIter_enum st.1.choose_spec q
def iEnT (K : PySem.W.Frag) (ta : TA) : TI := fun σ H R => ta σ H fun vs H1 => ∃ a xs, vs = [.ref a] ∧ SqT K H1 a xs ∧ R (IenT K a) H1
theorem pi_enT {X : Cx} {e : Expr} {ta : TA} {p pos tpos : Pos} {elts : List Expr} {kk : Nat} (hg : Gl X "enumerate") (hm : X.mg "enumerate" = none) (ha : PA X [e] ta) (hs : starEach [e] X.env = [(false, eval e X.env)]) :
    PI X (.Tuple elts kk tpos) (.Call (.Name "enumerate" p) [e] [] pos) (iEnT X.K ta) := by
  refine ⟨fun pins s σ H R I h => ?_⟩
  refine Call_ (ld_blt I hg hm boot_enumerate (PyProof.Rows.callWith_type1 (thn (ha.run pos pins s σ H _ I h) fun ws s1 ⟨vs, H1, I1, r1, ⟨r, xs, ev, sq, q⟩⟩ => ?_) hs rfl))
  subst ev
  cases r1 with
  | cons rx rr =>
    cases rr
    cases rx
    obtain ⟨its, rv, tp, _⟩ := I1.tuple sq
    have tp : s1.heap.IsTuple r its.toArray := tp
    have lr : r < s1.heap.objs.size := by obtain ⟨_, z, _⟩ := tp; exact Heap.lt_size z
    refine call_enT tp fun h' he hj hz hk => wpAny_pyIter_enum he ?_
    have Ik : Inv X pins σ H1 { s1 with heap := h' } := I1.kept (t' := s1.toks) hk
    refine ⟨s1.heap.objs.size + 1, [s1.heap.objs.size + 1, s1.heap.objs.size], _, _, H1, rfl, Ik, turn_enT r (s1.heap.objs.size + 1) s1.heap.objs.size, ⟨⟨.none, he⟩, hj, Nat.succ_ne_self _, Nat.ne_of_lt lr, Ne.symm (Nat.ne_of_lt (Nat.lt_succ_of_lt lr))⟩, fun b hb => ?_, q⟩
    have lb : s1.heap.objs.size ≤ b := by
      rcases List.mem_cons.mp hb with rfl | hb
      · exact Nat.le_add_right _ _
      · rw [List.mem_singleton.mp hb]
        exact Nat.le_refl _
    exact I1.fpOk lb (I1.hok.fresh lb)
theorem walk_enT {K : PySem.W.Frag} {a : Addr} {xs : List V} : Walk (IenT K a) xs.length (fun H => SqT K H a xs) (YPair (fun i => some (.int (i : Nat))) (fun i => xs[i]?)) := by
  refine ⟨fun k _ hk sq => ⟨xs, xs[k], sq, by simp [hk]⟩, fun _ sq => ⟨xs, sq, Nat.le_refl _⟩, fun k H v H' _ sq y => ?_⟩
  obtain ⟨p, z, e1, e2, e3, e4⟩ := y
  exact ⟨p, .int (k : Nat), z, e1, e2, e3, rfl, e4 xs sq⟩
theorem numd_get : ∀ (k : Nat) (xs : List PyData) (i : Nat) (d : PyData), xs[i]? = some d → (numd k xs)[i]? = some (.tuple [.int ((k + i : Nat) : Int), d])
  | k, [], i, d, h => by simp at h
  | k, x :: xs, 0, d, h => by
    cases (show some x = some d from h)
    rfl
  | k, x :: xs, i + 1, d, h => by
    have := numd_get (k + 1) xs i d (by simpa using h)
    rw [show k + (i + 1) = k + 1 + i by omega]
    exact this
theorem numd_len : ∀ (k : Nat) (xs : List PyData), (numd k xs).length = xs.length
  | _, [] => rfl
  | k, x :: xs => by
    show (numd (k + 1) xs).length + 1 = xs.length + 1
    rw [numd_len (k + 1) xs]
theorem walkD_num {K : PySem.W.Frag} {G : Hp} {J : L2.It} {ds : List PyData} {vs : List V} {Gw : Hp → Prop} (w : Walk J vs.length Gw (YPair (fun i => some (.int (i : Nat))) (fun i => vs[i]?))) (hg : ∀ H, Same G H → Gw H) (hd : DqAll K G vs ds) : WalkD K G J (numd 0 ds) := by
  refine ⟨Gw, _, by rw [numd_len, ← hd.length]; exact w, hg, fun i H x H' G1 hi s1 s2 y => ?_⟩
  rw [numd_len] at hi
  obtain ⟨T, a, b, rfl, h2, rfl, e1, e2⟩ := y
  cases e1
  obtain ⟨v, e3, e4⟩ := hd.get (i := i) (d := ds[i]) (by simp [hi])
  have e2 : vs[i]? = some b := e2
  rw [e2] at e3
  cases e3
  have z := numd_get 0 ds i ds[i] (by simp [hi])
  rw [Nat.zero_add] at z
  exact ⟨_, _, z, NewR.tup h2 (.cons (.int _) (.cons (Dq.mono s1 e4) .nil))⟩
section
variable {X : Cx} {F : Fx} {W : Wd} {pos tpos : Pos} {a : Expr} {ea : Ex} {elts : List Expr} {kk : Nat}
theorem it_enumS {p : Pos} (ha : PEv X F W a ea) (hg : Gl X "enumerate") (hm : X.mg "enumerate" = none) (hs : starEach [a] X.env = [(false, eval a X.env)]) : PI X (.Tuple elts kk tpos) (.Call (.Name "enumerate" p) [a] [] pos) (tI X.K F (evI W (.enumS ea))) := pi_of fun σ H R q => by
  obtain ⟨G, ρ, rel, post⟩ := q
  obtain ⟨r, ρ1, e1, post_⟩ := Post.bind post; clear post; have post := post_; clear post_
  obtain ⟨d, ρ2, e2, post_⟩ := Post.bind post; clear post; have post := post_; clear post_
  cases d with
  | list xs =>
    obtain ⟨ds, h, k⟩ := post
    cases h
    refine ⟨_, pi_enum hg hm (pa_cons ha pa_nil hs) hs, tE_frz rel e1 e2 fun G1 H1 x s1 rel1 dq => ?_⟩
    cases dq with
    | lst h1 h2 => exact ⟨_, _, rfl, SqL.mono rel1.sub h1, k G1 H1 _ s1 rel1 (walkD_num walk_enum (fun H s => SqL.mono s h1) h2)⟩
  | tuple xs =>
    obtain ⟨ds, h, k⟩ := post
    cases h
    refine ⟨_, pi_enT hg hm (pa_cons ha pa_nil hs) hs, tE_frz rel e1 e2 fun G1 H1 x s1 rel1 dq => ?_⟩
    cases dq with
    | tup h1 h2 => exact ⟨_, _, rfl, SqT.mono rel1.sub h1, k G1 H1 _ s1 rel1 (walkD_num walk_enT (fun H s => SqT.mono s h1) h2)⟩
  | _ => exact post.elim
end
end Rc

set_option Elab.async false
set_option linter.all false
set_option maxRecDepth 100000
set_option maxHeartbeats 1000000
namespace Rc
open PySem PySem.Spec PyProof.Rows L2
section
variable {X : Cx} {F : Fx} {W : Wd} {pos : Pos} {tg a b : Expr} {ea eb : Ex}
abbrev Blk (X : Cx) (s : Shared) (H : Hp) (scope : Scope) (C : Addr) (cl : List (Str × Addr)) (fp : List Addr) : Cx := X.blk s H scope (compEnvC scope cl C X.env) fp
structure CompOk (X : Cx) (F : Fx) (W : Wd) (tg elt : Expr) (ifs : List Expr) (scope : Scope) (etg : Tg) (eifs : Tss) (eelt : Ex) : Prop where
  tg : ∀ (F' : Fx) (s : Shared) (H : Hp) (C : Addr) (cl : List (Str × Addr)) (fp : List Addr), F'.P = F.P → PG (Blk X s H scope C cl fp) tg (tG X.K F' etg)
  ifs : ∀ (F' : Fx) (s : Shared) (H : Hp) (C : Addr) (cl : List (Str × Addr)) (fp : List Addr), F'.P = F.P → PTs (Blk X s H scope C cl fp) ifs (tT X.K F' (evF W eifs))
  elt : ∀ (F' : Fx) (s : Shared) (H : Hp) (C : Addr) (cl : List (Str × Addr)) (fp : List Addr), F'.P = F.P → PE (Blk X s H scope C cl fp) elt (tE X.K F' (ev W eelt))
variable {elt iter : Expr} {ifs : List Expr} {scope : Scope} {ownp : List (Str × Nat)} {eelt : Ex} {etg : Tg} {eit : Rc.It} {eifs : Tss} {own : List Nat}
theorem CompOk.g (c : CompOk X F W tg elt ifs scope etg eifs eelt) (s : Shared) (H : Hp) (C : Addr) (cl : List (Str × Addr)) (fp : List Addr) : PG (Blk X s H scope C cl fp) tg (gAny X.K F.P etg) := pg_of fun v σ H' Q ⟨F', e, q⟩ => ⟨_, c.tg F' s H C cl fp e, q⟩
theorem CompOk.t (c : CompOk X F W tg elt ifs scope etg eifs eelt) (s : Shared) (H : Hp) (C : Addr) (cl : List (Str × Addr)) (fp : List Addr) : PTs (Blk X s H scope C cl fp) ifs (tAny X.K F.P (evF W eifs)) := pts_of fun σ H' Q ⟨F', e, q⟩ => ⟨_, c.ifs F' s H C cl fp e, q⟩
theorem CompOk.e (c : CompOk X F W tg elt ifs scope etg eifs eelt) (s : Shared) (H : Hp) (C : Addr) (cl : List (Str × Addr)) (fp : List Addr) : PE (Blk X s H scope C cl fp) elt (eAny X.K F.P (ev W eelt)) := pe_of fun σ H' Q ⟨F', e, q⟩ => ⟨_, c.elt F' s H C cl fp e, q⟩
theorem ev_comp (hc : X.calm = true) (nd : X.N.Nodup) (hi : PI X tg iter (tI X.K F (evI W eit))) (ok : BlkOk X.N X.env.scope scope ownp) (ho : own = ownp.map (·.2)) (np : ∀ p ∈ F.P, p.1 ∉ own) (hsub : ∀ j ∈ etg.slots, j ∈ own)
    (c : CompOk X F W tg elt ifs scope etg eifs eelt) (hs : ∀ x, foldedSetIterable iter X.env x = pure x) : PEv X F W (.ListComp elt [⟨tg, iter, ifs, 0⟩] scope pos) (.comp eelt etg eit eifs own) := pe_of fun σ H Q q =>
  ⟨_, pe_lc hc nd hi ok c.g c.t c.e hs, lc_wish ho np hsub σ H Q q⟩

/-! ### calls of own defs -/
/-- the arguments: values, objects lent -/
inductive ARel (K : PySem.W.Frag) (G H : Hp) : List V → List Sl → Prop
  | nil : ARel K G H [] []
  | v {x : V} {d : PyData} {xs : List V} {as : List Sl} : Dq K G x d → ARel K G H xs as → ARel K G H (x :: xs) (.v d :: as)
  | o {a : Addr} {b : Ob} {xs : List V} {as : List Sl} : G a = none → OwnAt K G H a b → ARel K G H xs as → ARel K G H (.ref a :: xs) (.o b :: as)
/-- the addresses lent -/
def lentA : List V → List Sl → List Addr
  | .ref a :: xs, .o _ :: as => a :: lentA xs as
  | _ :: xs, _ :: as => lentA xs as
  | _, _ => []
/-- behind a call: what stood stands, but for what was lent -/
structure Back (K : PySem.W.Frag) (G H G' H' : Hp) (A : List Addr) (outs : List Ob) : Prop where
  g : Same G G'
  sub : Same G' H'
  rest : ∀ b o, H b = some o → G b = none → b ∉ A → H' b = some o ∧ G' b = none
  outs : Paired (fun a b => G' a = none ∧ OwnAt K G' H' a b) A outs
/-- what a def promises -/
def spOf (K : PySem.W.Frag) (n : Nat) (g : List Sl → FO) : Sp := fun vs H Q _ => vs.length = n ∧ ∃ G as, Same G H ∧ ARel K G H vs as ∧ (lentA vs as).Nodup ∧
  match g as with
  | .v d outs => ∀ G' H' x, Back K G H G' H' (lentA vs as) outs → Dq K G' x d → Q x H'
  | .o b outs => ∀ G' H' a, Back K G H G' H' (lentA vs as) outs → H a = none → G' a = none → OwnAt K G' H' a b → Q (.ref a) H'
  | _ => False
/-- the addresses of new objects among the arguments -/
def freshA : List CA → List V → List Addr
  | .o _ :: cs, .ref a :: xs => a :: freshA cs xs
  | _ :: cs, _ :: xs => freshA cs xs
  | _, _ => []
def caOk (K : PySem.W.Frag) (B G H : Hp) (σ : L2.St) (ρ : Env) (c : CA) (x : V) : Prop := match c with
  | .v d => Dq K G x d
  | .s i => σ[i]? = some (some x)
  | .o b => ∃ a, x = .ref a ∧ G a = none ∧ B a = none ∧ OwnAt K G H a b ∧ ∀ (i : Nat) (c : Ob), ρ[i]? = some (.o c) → σ[i]? ≠ some (some (.ref a))
def ZC (K : PySem.W.Frag) (B G H : Hp) (σ : L2.St) (ρ : Env) (cs : List CA) (xs : List V) : Prop := Paired (caOk K B G H σ ρ) cs xs ∧ (freshA cs xs).Nodup
abbrev PCv (X : Cx) (F : Fx) (W : Wd) (es : List Expr) (d : Exs) (m : List Bool) : Prop := PA X es (tA X.K F (ZC X.K F.B) (evC W d m))
theorem evC_nil {m : List Bool} : PCv X F W [] .nil m := pa_of fun σ H Q h => by
  obtain ⟨G, ρ, rel, post⟩ := h
  exact ⟨_, pa_nil, post G H [] (Same.refl _) rel ⟨.nil, List.nodup_nil⟩⟩
def cAny (K : PySem.W.Frag) (P : List (Nat × V)) (m : Env → Out (List CA)) : TA := fun σ H Q => ∃ F' : Fx, F'.P = P ∧ tA K F' (ZC K F'.B) m σ H Q
theorem fresh_in {K : PySem.W.Frag} {B G H : Hp} {σ : L2.St} {ρ : Env} : ∀ {cs : List CA} {xs : List V}, Paired (caOk K B G H σ ρ) cs xs → ∀ a ∈ freshA cs xs, B a = none
  | [], _, .nil, a, h => by cases h
  | c :: cs, x :: xs, .cons r t, a, h => by
    cases c with
    | v d => exact fresh_in t a (by cases x <;> exact h)
    | s i => exact fresh_in t a (by cases x <;> exact h)
    | o b =>
      obtain ⟨l, rfl, _, q, _⟩ := r
      rcases List.mem_cons.mp (show a ∈ l :: freshA cs xs from h) with rfl | h
      · exact q
      · exact fresh_in t a h
theorem caOk_by {K : PySem.W.Frag} {B G H : Hp} {σ : L2.St} {ρ : Env} {a : Addr} {o : HO} {c : CA} {x : V} (h : caOk K (upd B a o) G H σ ρ c x) : caOk K B G H σ ρ c x := by
  cases c with
  | v d => exact h
  | s i => exact h
  | o b =>
    obtain ⟨l, h1, h2, h3, h4⟩ := h
    refine ⟨l, h1, h2, ?_, h4⟩
    by_cases e : l = a
    · subst e
      rw [upd_same] at h3
      cases h3
    · rw [upd_ne e] at h3
      exact h3
theorem evC_cons {es : List Expr} {ds : Exs} {m : List Bool} (ha : PEv X F W a ea) (hr : ∀ F' : Fx, F'.P = F.P → PCv X F' W es ds m.tail) (hs : starEach (a :: es) X.env = (false, eval a X.env) :: starEach es X.env) : PCv X F W (a :: es) (.cons ea ds) m := pa_of fun σ H Q h => by
  obtain ⟨G, ρ, rel, post⟩ := h
  obtain ⟨r, ρ1, e1, post_⟩ := Post.bind post; clear post; have post := post_; clear post_
  have hr' : PA X es (cAny X.K F.P (evC W ds m.tail)) := pa_of fun σ H Q ⟨F', e, q⟩ => ⟨_, hr F' e, q⟩
  refine ⟨_, pa_cons ha hr' hs, ?_⟩
  have sk : ∀ (d : PyData) (cs : List CA) (x : V) (xs : List V), freshA (.v d :: cs) (x :: xs) = freshA cs xs := fun d cs x xs => by cases x <;> rfl
  have sk2 : ∀ (i : Nat) (cs : List CA) (x : V) (xs : List V), freshA (.s i :: cs) (x :: xs) = freshA cs xs := fun i cs x xs => by cases x <;> rfl
  split at post
  · split at post
    · rename_i i
      obtain ⟨cs, ρ2, e2, post_⟩ := Post.bind post; clear post; have post := post_; clear post_
      refine tE_in rel e1 fun G1 H1 vx s1 rel1 rr1 => ⟨F, rfl, tA_in rel1 e2 fun G2 H2 vs s2 rel2 z2 => ?_⟩
      exact post G2 H2 _ (s1.trans s2) rel2 ⟨.cons rr1 z2.1, by rw [sk2]; exact z2.2⟩
    · rename_i b
      obtain ⟨cs, ρ2, e2, post_⟩ := Post.bind post; clear post; have post := post_; clear post_
      refine tE_in rel e1 fun G1 H1 vx s1 rel1 rr1 => ?_
      obtain ⟨l, rfl, g1, g2, g3, g4⟩ := rr1
      obtain ⟨o, ho⟩ := g3.some
      refine ⟨⟨upd F.B l o, F.P⟩, rfl, tA_in (F := ⟨upd F.B l o, F.P⟩) (Rel.by_ rel1 ho g1 g4) e2 fun G2 H2 vs s2 rel2 z2 => ?_⟩
      obtain ⟨rel3, hl, gl, no⟩ := Rel.unby rel2 g2
      refine post G2 H2 _ (s1.trans s2) rel3 ⟨.cons ⟨l, rfl, gl, g2, g3.mono s2 (by rw [hl, ho]), no⟩ (Paired.mapP z2.1 fun _ _ z => caOk_by z), ?_⟩
      refine List.nodup_cons.mpr ⟨fun hm => ?_, z2.2⟩
      have z := fresh_in z2.1 l hm
      have z : upd F.B l o l = none := z
      rw [upd_same] at z
      cases z
    · rename_i d
      obtain ⟨cs, ρ2, e2, post_⟩ := Post.bind post; clear post; have post := post_; clear post_
      refine tE_in rel e1 fun G1 H1 vx s1 rel1 rr1 => ⟨F, rfl, tA_in rel1 e2 fun G2 H2 vs s2 rel2 z2 => ?_⟩
      exact post G2 H2 _ (s1.trans s2) rel2 ⟨.cons (Dq.mono s2 rr1) z2.1, by rw [sk]; exact z2.2⟩
  · obtain ⟨d, ρ2, e2, post_⟩ := Post.bind post; clear post; have post := post_; clear post_
    obtain ⟨cs, ρ3, e3, post_⟩ := Post.bind post; clear post; have post := post_; clear post_
    refine tE_frz rel e1 e2 fun G1 H1 vx s1 rel1 rr1 => ⟨F, rfl, tA_in rel1 e3 fun G2 H2 vs s2 rel2 z2 => ?_⟩
    exact post G2 H2 _ (s1.trans s2) rel2 ⟨.cons (Dq.mono s2 rr1) z2.1, by rw [sk]; exact z2.2⟩
/-- whose a lent address is -/
def ownerOk (B : Hp) (σ : L2.St) (ρ : Env) (o : Option Nat) (a : Addr) : Prop := B a = none ∧ match o with
  | some i => σ[i]? = some (some (.ref a)) ∧ ∃ b, ρ[i]? = some (.o b)
  | none => ∀ (i : Nat) (c : Ob), ρ[i]? = some (.o c) → σ[i]? ≠ some (some (.ref a))
theorem lend_ok {K : PySem.W.Frag} {G H : Hp} {σ : L2.St} {ρ : Env} (rel : F.rel K G H σ ρ) : ∀ {cs : List CA} {xs : List V} {as : List Sl}, Paired (caOk K F.B G H σ ρ) cs xs → lend ρ cs = some as → ARel K G H xs as ∧
      Paired (ownerOk F.B σ ρ) (slots cs) (lentA xs as)
  | [], _, as, z, e => by
    cases z
    cases e
    exact ⟨.nil, .nil⟩
  | .v d :: cs, _, as, z, e => by
    cases z with
    | cons z1 z2 =>
      obtain ⟨as', e1, e2⟩ := Option.map_eq_some_iff.mp (show (lend ρ cs).map (Sl.v d :: ·) = some as from e)
      subst e2
      obtain ⟨h1, h2⟩ := lend_ok rel z2 e1
      refine ⟨.v z1 h1, ?_⟩
      have q : ∀ (x : V) (xs : List V), lentA (x :: xs) (.v d :: as') = lentA xs as' := fun x xs => by cases x <;> rfl
      rw [q]
      exact h2
  | .o b :: cs, _, as, z, e => by
    cases z with
    | cons z1 z2 =>
      obtain ⟨as', e1, e2⟩ := Option.map_eq_some_iff.mp (show (lend ρ cs).map (Sl.o b :: ·) = some as from e)
      subst e2
      obtain ⟨h1, h2⟩ := lend_ok rel z2 e1
      obtain ⟨l, rfl, g1, g2, g3, g4⟩ := z1
      exact ⟨.o g1 g3 h1, .cons ⟨g2, g4⟩ h2⟩
  | .s i :: cs, _, as, z, e => by
    cases z with
    | cons z1 z2 =>
      have e : (match ρ[i]? with
        | some (.o b) => (lend ρ cs).map (Sl.o b :: ·)
        | _ => none) = some as := e
      split at e
      · rename_i b hb
        obtain ⟨as', e1, e2⟩ := Option.map_eq_some_iff.mp e
        subst e2
        obtain ⟨h1, h2⟩ := lend_ok rel z2 e1
        obtain ⟨l, g1, g2, g3, g4⟩ := rel.own i b hb
        have z1 : σ[i]? = some (some _) := z1
        rw [g1] at z1
        cases z1
        exact ⟨.o g2 g4 h1, .cons ⟨g3, g1, b, hb⟩ h2⟩
      · cases e
theorem paired_mem {α β : Type} {R : α → β → Prop} : ∀ {xs : List α} {ys : List β}, Paired R xs ys → ∀ y ∈ ys, ∃ x ∈ xs, R x y
  | [], _, .nil, y, h => by cases h
  | x :: xs, _, .cons r t, y, h => by
    rcases List.mem_cons.mp h with rfl | h
    · exact ⟨x, List.mem_cons_self, r⟩
    · obtain ⟨z, h1, h2⟩ := paired_mem t y h
      exact ⟨z, List.mem_cons_of_mem _ h1, h2⟩
theorem paired_memL {α β : Type} {R : α → β → Prop} : ∀ {xs : List α} {ys : List β}, Paired R xs ys → ∀ x ∈ xs, ∃ y ∈ ys, R x y
  | [], _, .nil, y, h => by cases h
  | x :: xs, _, .cons r t, y, h => by
    rcases List.mem_cons.mp h with rfl | h
    · exact ⟨_, List.mem_cons_self, r⟩
    · obtain ⟨z, h1, h2⟩ := paired_memL t y h
      exact ⟨z, List.mem_cons_of_mem _ h1, h2⟩
theorem fresh_of {K : PySem.W.Frag} {B G H : Hp} {σ : L2.St} {ρ : Env} : ∀ {cs : List CA} {xs : List V} {as : List Sl}, Paired (caOk K B G H σ ρ) cs xs → lend ρ cs = some as → ∀ a, (∀ i ∈ (slots cs).filterMap id, σ[i]? ≠ some (some (.ref a))) → a ∈ lentA xs as → a ∈ freshA cs xs
  | [], _, as, z, e, a, _, hm => by
    cases z
    cases e
    cases hm
  | .v d :: cs, _, as, .cons (b := x) (l₂ := xs) z1 z2, e, a, no, hm => by
    obtain ⟨as', e1, e2⟩ := Option.map_eq_some_iff.mp (show (lend ρ cs).map (Sl.v d :: ·) = some as from e)
    subst e2
    have h := fresh_of z2 e1 a no (by cases x <;> exact hm)
    cases x <;> exact h
  | .o b :: cs, _, as, .cons (b := x) (l₂ := xs) z1 z2, e, a, no, hm => by
    obtain ⟨as', e1, e2⟩ := Option.map_eq_some_iff.mp (show (lend ρ cs).map (Sl.o b :: ·) = some as from e)
    subst e2
    obtain ⟨l, rfl, _⟩ := z1
    rcases List.mem_cons.mp (show a ∈ l :: lentA xs as' from hm) with rfl | hm
    · exact List.mem_cons_self
    · exact List.mem_cons_of_mem _ (fresh_of z2 e1 a no hm)
  | .s i :: cs, _, as, .cons (b := x) (l₂ := xs) z1 z2, e, a, no, hm => by
    have e : (match ρ[i]? with
      | some (.o b) => (lend ρ cs).map (Sl.o b :: ·)
      | _ => none) = some as := e
    split at e
    · obtain ⟨as', e1, e2⟩ := Option.map_eq_some_iff.mp e
      subst e2
      have z1 : σ[i]? = some (some x) := z1
      have hno : σ[i]? ≠ some (some (.ref a)) := no i List.mem_cons_self
      have h : a ∈ lentA xs as' → a ∈ freshA cs xs := fresh_of z2 e1 a fun j hj => no j (List.mem_cons_of_mem _ hj)
      cases x with
      | ref l =>
        rcases List.mem_cons.mp (show a ∈ l :: lentA xs as' from hm) with rfl | hm
        · exact absurd z1 hno
        · exact h hm
      | _ => exact h hm
    · cases e
theorem lent_nodup {K : PySem.W.Frag} {G H : Hp} {σ : L2.St} {ρ : Env} (rel : F.rel K G H σ ρ) : ∀ {cs : List CA} {xs : List V} {as : List Sl}, Paired (caOk K F.B G H σ ρ) cs xs → lend ρ cs = some as → ((slots cs).filterMap id).Nodup → (freshA cs xs).Nodup → (lentA xs as).Nodup
  | [], _, as, z, e, _, _ => by
    cases z
    cases e
    exact List.nodup_nil
  | .v d :: cs, _, as, .cons (b := x) (l₂ := xs) z1 z2, e, h1, h2 => by
    obtain ⟨as', e1, e2⟩ := Option.map_eq_some_iff.mp (show (lend ρ cs).map (Sl.v d :: ·) = some as from e)
    subst e2
    have h := lent_nodup rel z2 e1 h1 (by cases x <;> exact h2)
    cases x <;> exact h
  | .o b :: cs, _, as, .cons (b := x) (l₂ := xs) z1 z2, e, h1, h2 => by
    obtain ⟨as', e1, e2⟩ := Option.map_eq_some_iff.mp (show (lend ρ cs).map (Sl.o b :: ·) = some as from e)
    subst e2
    obtain ⟨l, rfl, _, _, _, no⟩ := z1
    obtain ⟨k1, k2⟩ := List.nodup_cons.mp (show (l :: freshA cs xs).Nodup from h2)
    refine List.nodup_cons.mpr ⟨fun hm => k1 (fresh_of z2 e1 l (fun i hi q => ?_) hm), lent_nodup rel z2 e1 h1 k2⟩
    have hi : some i ∈ slots cs := by
      obtain ⟨o, ho, e⟩ := List.mem_filterMap.mp hi
      cases e
      exact ho
    obtain ⟨_, _, _, _, c, hc⟩ := paired_memL (lend_ok rel z2 e1).2 _ hi
    exact no i c hc q
  | .s i :: cs, _, as, .cons (b := x) (l₂ := xs) z1 z2, e, h1, h2 => by
    have e0 := e
    have e : (match ρ[i]? with
      | some (.o b) => (lend ρ cs).map (Sl.o b :: ·)
      | _ => none) = some as := e
    split at e
    · rename_i b hb
      obtain ⟨as', e1, e2⟩ := Option.map_eq_some_iff.mp e
      subst e2
      obtain ⟨n1, n2⟩ := List.nodup_cons.mp (show (i :: (slots cs).filterMap id).Nodup from h1)
      have z1 : σ[i]? = some (some x) := z1
      have h2 : (freshA cs xs).Nodup := by cases x <;> exact h2
      have h := lent_nodup rel z2 e1 n2 h2
      cases x with
      | ref l =>
        refine List.nodup_cons.mpr ⟨fun hm => ?_, h⟩
        obtain ⟨o, ho, _, q⟩ := paired_mem (lend_ok rel z2 e1).2 _ hm
        cases o with
        | none => exact q i b hb z1
        | some j =>
          obtain ⟨q1, c, q2⟩ := q
          have := rel.sep i j l b c hb q2 z1 q1
          subst this
          exact n1 (List.mem_filterMap.mpr ⟨some i, ho, rfl⟩)
      | _ => exact h
    · cases e
/-- the lent objects come back into their slots -/
theorem back_ok {K : PySem.W.Frag} {B : Hp} {P : List (Nat × V)} {G' H' : Hp} {σ : L2.St} : ∀ {is : List (Option Nat)} {A : List Addr} {outs : List Ob} {ρ : Env}, (is.filterMap id).Nodup →
    Paired (ownerOk B σ ρ) is A → Paired (fun a b => G' a = none ∧ OwnAt K G' H' a b) A outs →
    (Same G' H') → (∀ b o, B b = some o → H' b = some o ∧ G' b = none) → (∀ p ∈ P, σ[p.1]? = some (some p.2)) → ρ.length = σ.length →
    (∀ (i : Nat) (d : PyData), ρ[i]? = some (.v d) → ∃ x, σ[i]? = some (some x) ∧ Dq K G' x d) →
    (∀ (i : Nat) (b : Ob), some i ∉ is → ρ[i]? = some (.o b) → ∃ a, σ[i]? = some (some (.ref a)) ∧ G' a = none ∧ B a = none ∧ OwnAt K G' H' a b) →
    (∀ (i j : Nat) (a : Addr) (b c : Ob), ρ[i]? = some (.o b) → ρ[j]? = some (.o c) → σ[i]? = some (some (.ref a)) → σ[j]? = some (some (.ref a)) → i = j) →
    Rel K B P G' H' σ (back ρ is outs)
  | [], _, _, ρ, _, .nil, .nil, h1, h2, h3, h4, h5, h6, h7 => ⟨h1, h2, h3, h4, h5, fun i b e => h6 i b (by simp) e, h7⟩
  | none :: is, a :: A, b :: outs, ρ, nd, .cons r t, .cons q u, h1, h2, h3, h4, h5, h6, h7 => by
    show Rel K B P G' H' σ (back ρ is outs)
    exact back_ok nd t u h1 h2 h3 h4 h5 (fun i b hi e => h6 i b (by simp only [List.mem_cons, not_or]; exact ⟨(by intro z; cases z), hi⟩) e) h7
  | some i :: is, a :: A, b :: outs, ρ, nd, .cons r t, .cons q u, h1, h2, h3, h4, h5, h6, h7 => by
    obtain ⟨n1, n2⟩ := List.nodup_cons.mp (show (i :: is.filterMap id).Nodup from nd)
    obtain ⟨r2, r1, c, r3⟩ := r
    show Rel K B P G' H' σ (back (ρ.set i (.o b)) is outs)
    have bk : ∀ {j : Nat} {o : Ob}, (ρ.set i (.o b))[j]? = some (.o o) → ∃ o', ρ[j]? = some (.o o') := fun e => by
        rcases getElem_set_sl e with ⟨rfl, _, _⟩ | ⟨_, e⟩
        · exact ⟨c, r3⟩
        · exact ⟨_, e⟩
    refine back_ok n2 ?_ u h1 h2 h3 (by rw [List.length_set]; exact h4) (fun j d e => ?_) (fun j o hj e => ?_) (fun j k l o o' e e' => ?_)
    · refine Paired.mapP t fun j l z => ?_
      obtain ⟨z2, z⟩ := z
      refine ⟨z2, ?_⟩
      cases j with
      | none =>
        intro k d e
        obtain ⟨o', e'⟩ := bk e
        exact z k o' e'
      | some j =>
        obtain ⟨z1, o, z3⟩ := z
        by_cases hj : i = j
        · subst hj
          exact ⟨z1, b, List.getElem?_set_self (List.getElem?_eq_some_iff.mp r3).1⟩
        · exact ⟨z1, o, by rw [List.getElem?_set_ne hj]; exact z3⟩
    · rcases getElem_set_sl e with ⟨_, _, z⟩ | ⟨_, e⟩
      · cases z
      · exact h5 j d e
    · rcases getElem_set_sl e with ⟨rfl, _, z⟩ | ⟨ne, e⟩
      · cases z
        exact ⟨a, r1, q.1, r2, q.2⟩
      · exact h6 j o (by
          simp only [List.mem_cons, not_or]
          exact ⟨fun z => ne (Option.some.inj z).symm, hj⟩) e
    · obtain ⟨_, z1⟩ := bk e
      obtain ⟨_, z2⟩ := bk e'
      exact h7 j k l _ _ z1 z2
/-- the wish behind a call -/
theorem call_wish {f : Nat} {n : Nat} {es : Exs} {cas : List CA} {ρ1 : Env} {G1 H1 : Hp} {σ : L2.St} {vs : List V} {Q : VK} {E : XK} {G : Hp} (s1 : Same G G1) (rel1 : F.rel X.K G1 H1 σ ρ1) (z : ZC X.K F.B G1 H1 σ ρ1 cas vs) (hn : vs.length = n)
    (post : Post (callF (W.Γ f) cas ρ1) (EndE X.K F G σ Q)) : spOf X.K n (W.Γ f) vs H1 Q E := by
  unfold callF at post
  split at post
  · exact post.elim
  · rename_i as e
    split at post
    · rename_i nd
      obtain ⟨ar, pr⟩ := lend_ok rel1 z.1 e
      have ndA := lent_nodup rel1 z.1 e nd z.2
      refine ⟨hn, G1, as, rel1.sub, ar, ndA, ?_⟩
      have after : ∀ {G' H' : Hp} {outs : List Ob}, Back X.K G1 H1 G' H' (lentA vs as) outs → F.rel X.K G' H' σ (back ρ1 (slots cas) outs) := fun {G' H' outs} bk => by
        refine back_ok nd pr bk.outs bk.sub (fun b o hb => ?_) rel1.pin rel1.len (fun i d h => ?_) (fun i b hi h => ?_) rel1.sep
        · obtain ⟨q1, q2⟩ := rel1.bys b o hb
          refine bk.rest b o q1 q2 fun hm => ?_
          obtain ⟨i, _, q3, _⟩ := paired_mem pr b hm
          rw [hb] at q3
          cases q3
        · obtain ⟨x, q1, q2⟩ := rel1.val i d h
          exact ⟨x, q1, Dq.mono bk.g q2⟩
        · obtain ⟨l, q1, q2, q3, q4⟩ := rel1.own i b h
          obtain ⟨u, hu⟩ := q4.some
          have hm : l ∉ lentA vs as := fun hm => by
            obtain ⟨j, hj, _, p⟩ := paired_mem pr l hm
            cases j with
            | none => exact p i b h q1
            | some j =>
              obtain ⟨p1, c, p2⟩ := p
              exact hi (rel1.sep i j l b c h p2 q1 p1 ▸ hj)
          obtain ⟨k1, k2⟩ := bk.rest l u hu q2 hm
          exact ⟨l, q1, k2, q3, q4.mono bk.g (by rw [k1, hu])⟩
      split at post
      · rename_i d outs eg
        rw [eg]
        exact fun G' H' x bk hx => post G' H' x (s1.trans bk.g) (after bk) hx
      · rename_i b outs eg
        rw [eg]
        intro G' H' l bk hl gl ow
        have rel2 := after bk
        refine post G' H' _ (s1.trans bk.g) rel2 ⟨l, rfl, gl, ?_, ow, fun i c h e => ?_⟩
        · cases q : F.B l with
          | none => rfl
          | some o =>
            rw [(rel1.bys l o q).1] at hl
            cases hl
        · -- an own slot's address was there before
          have was : ∃ c', ρ1[i]? = some (.o c') := by
            have key : ∀ (is : List (Option Nat)) (os : List Ob) (ρ : Env) (i : Nat) (c : Ob), (∀ j, some j ∈ is → ∃ b, ρ[j]? = some (.o b)) → (back ρ is os)[i]? = some (.o c) → ∃ c', ρ[i]? = some (.o c') := by
              intro is
              induction is with
              | nil => intro os ρ i c _ h; cases os <;> exact ⟨c, h⟩
              | cons j is ih =>
                intro os ρ i c hj h
                cases os with
                | nil => cases j <;> exact ⟨c, h⟩
                | cons o os =>
                  cases j with
                  | none => exact ih os ρ i c (fun k hk => hj k (List.mem_cons_of_mem _ hk)) h
                  | some j =>
                    obtain ⟨b0, hb0⟩ := hj j List.mem_cons_self
                    obtain ⟨c1, h1⟩ := ih os (ρ.set j (.o o)) i c (fun k hk => by
                      obtain ⟨bk, hbk⟩ := hj k (List.mem_cons_of_mem _ hk)
                      by_cases e : j = k
                      · subst e
                        exact ⟨o, List.getElem?_set_self (List.getElem?_eq_some_iff.mp hb0).1⟩
                      · exact ⟨bk, by rw [List.getElem?_set_ne e]; exact hbk⟩) h
                    rcases getElem_set_sl h1 with ⟨rfl, _, _⟩ | ⟨_, h1⟩
                    · exact ⟨b0, hb0⟩
                    · exact ⟨c1, h1⟩
            refine key _ _ _ _ _ (fun j hj => ?_) h
            obtain ⟨_, _, pj⟩ := paired_memL pr _ hj
            exact pj.2.2
          obtain ⟨c', hc'⟩ := was
          obtain ⟨l', q1, _, _, q4⟩ := rel1.own i c' hc'
          rw [e] at q1
          cases q1
          obtain ⟨u, hu⟩ := q4.some
          rw [hl] at hu
          cases hu
      · exact post.elim
      · exact post.elim
    · exact post.elim
theorem evC_len (W : Wd) : ∀ (es : Exs) (m : List Bool) (ρ : Env) (cs : List CA) (ρ' : Env), evC W es m ρ = .ok cs ρ' → cs.length = es.len
  | .nil, _, ρ, cs, ρ', e => by
    cases (show Out.ok [] ρ = .ok cs ρ' from e)
    rfl
  | .cons a es, m, ρ, cs, ρ', e => by
    have e : ((ev W a ρ).bind fun r ρ1 => match m.headD false with
      | true => (match r with
        | .s i => (evC W es m.tail ρ1).bind fun cs ρ2 => .ok (.s i :: cs) ρ2
        | .o b => (evC W es m.tail ρ1).bind fun cs ρ2 => .ok (.o b :: cs) ρ2
        | .v d => (evC W es m.tail ρ1).bind fun cs ρ2 => .ok (.v d :: cs) ρ2)
      | false => (frz r ρ1).bind fun d ρ2 => (evC W es m.tail ρ2).bind fun cs ρ3 => .ok (.v d :: cs) ρ3) = .ok cs ρ' := e
    obtain ⟨r, ρ1, _, e⟩ := bind_ok e
    split at e
    · split at e
      · obtain ⟨cl, ρ2, e2, e⟩ := bind_ok e
        cases e
        rw [List.length_cons, evC_len W es _ _ _ _ e2]
        rfl
      · obtain ⟨cl, ρ2, e2, e⟩ := bind_ok e
        cases e
        rw [List.length_cons, evC_len W es _ _ _ _ e2]
        rfl
      · obtain ⟨cl, ρ2, e2, e⟩ := bind_ok e
        cases e
        rw [List.length_cons, evC_len W es _ _ _ _ e2]
        rfl
    · obtain ⟨d, ρ2, _, e⟩ := bind_ok e
      obtain ⟨cl, ρ3, e2, e⟩ := bind_ok e
      cases e
      rw [List.length_cons, evC_len W es _ _ _ _ e2]
      rfl
variable {f : Nat} {k : Nat} {x : Str} {fa : Addr} {fd : FuncData} {ps : List Str} {p : Pos} {es : List Expr} {ds : Exs}
theorem ev_call (FK : FnOk X.prog X.w X.K X.mg X.base CX0 k fa fd ps (spOf X.K ps.length (W.Γ f))) (hr : Room k X.A) (hg : Gl X x) (hm : X.mg x = some (.ref fa)) (hk : PySem.W.keepIn X.K (.ref fa) = true) (hb : Binds X.K fd ps []) (hl : ds.len = ps.length)
    (h : PCv X F W (a :: es) ds (W.lm f)) (hdb : (x == ("__debug__" : Str)) = false) (he : starEach (a :: es) X.env = (false, eval a X.env) :: starEach es X.env) (hpl : (backTo pos (starEach es X.env)).any (·.1) = false) : PEv X F W (.Call (.Name x p) (a :: es) [] pos) (.call f ds) := pe_of fun σ H Q q => by
  obtain ⟨G, ρ, rel, post⟩ := q
  obtain ⟨cas, ρ1, e1, post_⟩ := Post.bind post; clear post; have post := post_; clear post_
  refine ⟨_, pe_call FK hr hg hm hk hb .nil pass0 h hdb he hpl, tA_in rel e1 fun G1 H1 vs s1 rel1 z1 => ?_⟩
  have z1 : ZC X.K F.B G1 H1 σ ρ1 cas vs := z1
  rw [List.append_nil]
  exact call_wish (E := E0) (es := ds) s1 rel1 z1 (by rw [← Paired.length z1.1, evC_len W _ _ _ _ _ e1, hl]) post
theorem ev_call0 (FK : FnOk X.prog X.w X.K X.mg X.base CX0 k fa fd [] (spOf X.K 0 (W.Γ f))) (hr : Room k X.A) (hg : Gl X x) (hm : X.mg x = some (.ref fa)) (hk : PySem.W.keepIn X.K (.ref fa) = true) (hb : Binds X.K fd [] [])
    (hdb : (x == ("__debug__" : Str)) = false) : PEv X F W (.Call (.Name x p) [] [] pos) (.call f .nil) := pe_of fun σ H Q q => by
  obtain ⟨G, ρ, rel, post⟩ := q
  obtain ⟨cas, ρ1, e1, post_⟩ := Post.bind post; clear post; have post := post_; clear post_
  cases (show Out.ok [] ρ = .ok cas ρ1 from e1)
  refine ⟨_, pe_call0 FK hr hg hm hk hb .nil pass0 hdb, ?_⟩
  exact call_wish (E := E0) (es := .nil) (Same.refl _) rel ⟨.nil, List.nodup_nil⟩ rfl post
end
/-! ### several slots at once -/
def setS (σ : L2.St) : List Nat → List V → L2.St
  | i :: is, v :: vs => setS (σ.set i (some v)) is vs
  | _, _ => σ
def caW (K : PySem.W.Frag) (B G H : Hp) (σ : L2.St) (ρ : Env) (c : CA) (x : V) : Prop := match c with
  | .v d => Dq K G x d
  | .s _ => True
  | .o b => ∃ a, x = .ref a ∧ G a = none ∧ B a = none ∧ OwnAt K G H a b ∧ ∀ (i : Nat) (c : Ob), ρ[i]? = some (.o c) → σ[i]? ≠ some (some (.ref a))
theorem caW_v {K : PySem.W.Frag} {B G H : Hp} {σ : L2.St} {ρ : Env} {i : Nat} {d : PyData} {y : V} {c : CA} {x : V} (h : caW K B G H σ ρ c x) : caW K B G H (σ.set i (some y)) (ρ.set i (.v d)) c x := by
  cases c with
  | v e => exact h
  | s j => trivial
  | o b =>
    obtain ⟨a, h1, h2, h3, h4, h5⟩ := h
    refine ⟨a, h1, h2, h3, h4, fun j c e q => ?_⟩
    rcases getElem_set_sl e with ⟨_, _, z⟩ | ⟨ne, e⟩
    · cases z
    · rw [List.getElem?_set_ne ne] at q
      exact h5 j c e q
theorem caW_o {K : PySem.W.Frag} {B G H : Hp} {σ : L2.St} {ρ : Env} {i : Nat} {b0 : Ob} {l : Addr} : ∀ {cs : List CA} {xs : List V}, Paired (caW K B G H σ ρ) cs xs → l ∉ freshA cs xs → Paired (caW K B G H (σ.set i (some (.ref l))) (ρ.set i (.o b0))) cs xs
  | [], _, .nil, _ => .nil
  | c :: cs, _, .cons (b := x) (l₂ := xs) r t, hn => by
    cases c with
    | v d => exact .cons r (caW_o t (by cases x <;> exact hn))
    | s j => exact .cons trivial (caW_o t (by cases x <;> exact hn))
    | o b =>
      obtain ⟨a, rfl, h2, h3, h4, h5⟩ := r
      have hn : l ∉ a :: freshA cs xs := hn
      refine .cons ⟨a, rfl, h2, h3, h4, fun j c e q => ?_⟩ (caW_o t fun z => hn (List.mem_cons_of_mem _ z))
      rcases getElem_set_sl e with ⟨rfl, _, _⟩ | ⟨ne, e⟩
      · have hq := (List.getElem?_eq_some_iff.mp q).1
        rw [List.length_set] at hq
        rw [List.getElem?_set_self hq] at q
        cases q
        exact hn List.mem_cons_self
      · rw [List.getElem?_set_ne ne] at q
        exact h5 j c e q
theorem setCA_ok {K : PySem.W.Frag} {F : Fx} {G H : Hp} : ∀ {is : List Nat} {cs : List CA} {xs : List V} {σ : L2.St} {ρ ρ2 : Env}, F.rel K G H σ ρ → Paired (caW K F.B G H σ ρ) cs xs → (freshA cs xs).Nodup → (∀ i ∈ is, ∀ p ∈ F.P, p.1 ≠ i) → setCA ρ is cs = some ρ2 → F.rel K G H (setS σ is xs) ρ2
  | [], [], _, σ, ρ, ρ2, rel, .nil, _, _, e => by
    cases e
    exact rel
  | [], c :: cs, _, σ, ρ, ρ2, rel, _, _, _, e => by cases c <;> cases e
  | i :: is, [], _, σ, ρ, ρ2, rel, _, _, _, e => by cases e
  | i :: is, c :: cs, _, σ, ρ, ρ2, rel, .cons (b := x) (l₂ := xs) r t, nd, np, e => by
    cases c with
    | v d =>
      have nd : (freshA cs xs).Nodup := by cases x <;> exact nd
      show F.rel K G H (setS (σ.set i (some x)) is xs) ρ2
      exact setCA_ok (rel.setV r (np i List.mem_cons_self)) (Paired.mapP t fun _ _ z => caW_v z) nd (fun j hj => np j (List.mem_cons_of_mem _ hj)) e
    | s j => cases e
    | o b =>
      obtain ⟨a, rfl, h2, h3, h4, h5⟩ := r
      obtain ⟨n1, n2⟩ := List.nodup_cons.mp (show (a :: freshA cs xs).Nodup from nd)
      show F.rel K G H (setS (σ.set i (some (.ref a))) is xs) ρ2
      exact setCA_ok (rel.setO ⟨a, rfl, h2, h3, h4, h5⟩ (np i List.mem_cons_self)) (caW_o t n1) n2 (fun j hj => np j (List.mem_cons_of_mem _ hj)) e
theorem caOk_w {K : PySem.W.Frag} {B G H : Hp} {σ : L2.St} {ρ : Env} {c : CA} {x : V} (h : caOk K B G H σ ρ c x) : caW K B G H σ ρ c x := by
  cases c with
  | v d => exact h
  | s j => trivial
  | o b => exact h
end Rc

set_option Elab.async false
set_option linter.all false
set_option maxRecDepth 100000
set_option maxHeartbeats 1000000
namespace Rc
open PySem PySem.Spec PyProof.Rows L2
section
variable (K : PySem.W.Frag) (F : Fx)
def PostS (o : SO) (G : Hp) (D : Ends) : Prop := match o with
  | .nx ρ' => ∀ G' H' σ', Same G G' → F.rel K G' H' σ' ρ' → D.nx σ' H'
  | .ret r ρ' => ∀ G' H' σ' x, Same G G' → F.rel K G' H' σ' ρ' → F.rr K G' H' σ' ρ' r x → D.rt x H'
  | .brk ρ' => ∀ G' H' σ', Same G G' → F.rel K G' H' σ' ρ' → D.bk σ' H'
  | .cnt ρ' => ∀ G' H' σ', Same G G' → F.rel K G' H' σ' ρ' → D.ct σ' H'
  | _ => False
def tS (m : Env → SO) : TS := fun D σ H => ∃ G ρ, F.rel K G H σ ρ ∧ PostS K F (m ρ) G D
end
section
variable {K : PySem.W.Frag} {F : Fx} {G G' H : Hp} {σ : L2.St} {ρ : Env} {D : Ends} {o : SO}
theorem PostS.mono (s : Same G G') (h : PostS K F o G D) : PostS K F o G' D := by
  cases o with
  | nx ρ' => exact fun G2 H2 σ' s2 => h G2 H2 σ' (s.trans s2)
  | ret r ρ' => exact fun G2 H2 σ' x s2 => h G2 H2 σ' x (s.trans s2)
  | brk ρ' => exact fun G2 H2 σ' s2 => h G2 H2 σ' (s.trans s2)
  | cnt ρ' => exact fun G2 H2 σ' s2 => h G2 H2 σ' (s.trans s2)
  | exc x ρ' => exact h
  | bad => exact h
theorem PostS.st {α : Type} {q : Out α} {f : α → Env → SO} (h : PostS K F (q.st f) G D) : ∃ a ρ, q = .ok a ρ ∧ PostS K F (f a ρ) G D := by
  cases q with
  | ok a ρ => exact ⟨a, ρ, rfl, h⟩
  | exc x ρ => exact h.elim
  | bad => exact h.elim
/-- in a row -/
theorem PostS.seq {f : Env → SO} (h : PostS K F (o.seq f) G D) : PostS K F o G { D with nx := fun σ' H' => ∃ G2 ρ2, Same G G2 ∧ F.rel K G2 H' σ' ρ2 ∧ PostS K F (f ρ2) G2 D } := by
  cases o with
  | nx ρ' => exact fun G2 H2 σ' s rel => ⟨G2, ρ', s, rel, h.mono s⟩
  | ret r ρ' => exact h
  | brk ρ' => exact h
  | cnt ρ' => exact h
  | exc x ρ' => exact h
  | bad => exact h
/-- a turn, then the rest of the loop -/
theorem PostS.turn {f : Env → SO} (h : PostS K F (o.turn f) G D) (N : L2.St → Hp → Prop) (k : ∀ G2 H' σ' ρ2, Same G G2 → F.rel K G2 H' σ' ρ2 → PostS K F (f ρ2) G2 D → N σ' H') : PostS K F o G { D with nx := N, ct := N, bk := D.nx } := by
  cases o with
  | nx ρ' => exact fun G2 H2 σ' s rel => k G2 H2 σ' ρ' s rel (PostS.mono (o := f ρ') s h)
  | ret r ρ' => exact h
  | brk ρ' => exact h
  | cnt ρ' => exact fun G2 H2 σ' s rel => k G2 H2 σ' ρ' s rel (PostS.mono (o := f ρ') s h)
  | exc x ρ' => exact h
  | bad => exact h
end
section
variable {X : Cx} {F : Fx} {W : Wd} {fuel : Nat} {pos : Pos} {a b c : Expr} {ea eb ec : Ex}
abbrev PSv (X : Cx) (F : Fx) (fuel : Nat) (W : Wd) (s : Stmt) (d : Rc.St) : Prop := PS X s (tS X.K F (ex fuel W d))
abbrev PSsv (X : Cx) (F : Fx) (fuel : Nat) (W : Wd) (s : List Stmt) (d : Sts) : Prop := PSs X s (tS X.K F (exs fuel W d))
theorem pss_of {st : List Stmt} {t : TS} (h : ∀ D σ H, t D σ H → ∃ t', PSs X st t' ∧ t' D σ H) : PSs X st t := ⟨fun pins s σ H D I q => by
  obtain ⟨t', p, q'⟩ := h D σ H q
  exact p.run pins s σ H D I q'⟩
theorem ex_nil : PSsv X F fuel W [] .nil := pss_of fun D σ H h => by
  obtain ⟨G, ρ, rel, post⟩ := h
  exact ⟨_, pss_nil, post G H σ (Same.refl _) rel⟩
theorem ex_cons {s : Stmt} {r : List Stmt} {d : Rc.St} {ds : Sts} (h1 : PSv X F fuel W s d) (h2 : PSsv X F fuel W r ds) : PSsv X F fuel W (s :: r) (.cons d ds) := pss_of fun D σ H h => by
  obtain ⟨G, ρ, rel, post⟩ := h
  refine ⟨_, pss_cons h1 h2, G, ρ, rel, ?_⟩
  have p2 : PostS X.K F (ex fuel W d ρ) G _ := PostS.seq (show PostS X.K F ((ex fuel W d ρ).seq fun ρ1 => exs fuel W ds ρ1) G D from post)
  cases e : ex fuel W d ρ with
  | nx ρ' =>
    rw [e] at p2
    exact fun G2 H2 σ' s rel' => by
      obtain ⟨G3, ρ3, _, h3, h4⟩ := p2 G2 H2 σ' s rel'
      exact ⟨G3, ρ3, h3, h4⟩
  | ret r ρ' => rw [e] at p2; exact p2
  | brk ρ' => rw [e] at p2; exact p2
  | cnt ρ' => rw [e] at p2; exact p2
  | exc x ρ' => rw [e] at p2; exact p2
  | bad => rw [e] at p2; exact p2
theorem ex_pass : PSv X F fuel W (.Pass pos) .pass := ps_of fun D σ H h => by
  obtain ⟨G, ρ, rel, post⟩ := h
  exact ⟨_, ps_pass, post G H σ (Same.refl _) rel⟩
theorem ex_brk : PSv X F fuel W (.Break pos) .brk := ps_of fun D σ H h => by
  obtain ⟨G, ρ, rel, post⟩ := h
  exact ⟨_, ps_break, post G H σ (Same.refl _) rel⟩
theorem ex_cnt : PSv X F fuel W (.Continue pos) .cnt := ps_of fun D σ H h => by
  obtain ⟨G, ρ, rel, post⟩ := h
  exact ⟨_, ps_continue, post G H σ (Same.refl _) rel⟩
theorem ex_retN : PSv X F fuel W (.Return none pos) .retN := ps_of fun D σ H h => by
  obtain ⟨G, ρ, rel, post⟩ := h
  exact ⟨_, ps_retN, post G H σ .non (Same.refl _) rel .non⟩
theorem ex_ret (ha : PEv X F W a ea) : PSv X F fuel W (.Return (some a) pos) (.ret ea) := ps_of fun D σ H h => by
  obtain ⟨G, ρ, rel, post⟩ := h
  obtain ⟨r, ρ1, e1, post_⟩ := PostS.st post; clear post; have post := post_; clear post_
  exact ⟨_, ps_ret ha, tE_in rel e1 fun G1 H1 x s1 rel1 rr1 => post G1 H1 σ x s1 rel1 rr1⟩
theorem ex_exp (ha : PEv X F W a ea) (hs : swapsWith a none pos.line X.env = pure false) : PSv X F fuel W (.Expr a pos) (.exp ea) := ps_of fun D σ H h => by
  obtain ⟨G, ρ, rel, post⟩ := h
  obtain ⟨r, ρ1, e1, post_⟩ := PostS.st post; clear post; have post := post_; clear post_
  exact ⟨_, ps_expr ha hs, tE_in rel e1 fun G1 H1 x s1 rel1 rr1 => post G1 H1 σ s1 rel1⟩
theorem ex_ife {tc : Ts} {t f : List Stmt} {dt df : Sts} (hc : PTv X F W c tc) (ht : PSsv X F fuel W t dt) (hf : PSsv X F fuel W f df) : PSv X F fuel W (.If c t f pos) (.ife tc dt df) := ps_of fun D σ H h => by
  obtain ⟨G, ρ, rel, post⟩ := h
  obtain ⟨b, ρ1, e1, post_⟩ := PostS.st post; clear post; have post := post_; clear post_
  refine ⟨_, ps_if hc ht hf, tT_in rel e1 fun G1 H1 s1 rel1 => ?_⟩
  cases b with
  | true =>
    rw [if_pos rfl]
    exact ⟨G1, ρ1, rel1, PostS.mono s1 post⟩
  | false =>
    rw [if_neg Bool.false_ne_true]
    exact ⟨G1, ρ1, rel1, PostS.mono s1 post⟩
/-- a result is stored -/
theorem store_wish {i : Nat} {r : R} {ρ1 : Env} {G G1 H1 : Hp} {σ : L2.St} {x : V} {D : Ends} (s1 : Same G G1) (rel1 : F.rel X.K G1 H1 σ ρ1) (rr1 : F.rr X.K G1 H1 σ ρ1 r x) (np : ∀ p ∈ F.P, p.1 ≠ i) (post : PostS X.K F (store i r ρ1) G D) : D.nx (σ.set i (some x)) H1 := by
  cases r with
  | v d => exact post G1 H1 _ s1 (rel1.setV rr1 np)
  | o b => exact post G1 H1 _ s1 (rel1.setO rr1 np)
  | s j =>
    obtain ⟨d, ρ2, e2, post_⟩ := PostS.st (show PostS X.K F ((frz (.s j) ρ1).st fun d ρ1 => .nx (ρ1.set i (.v d))) G D from post)
    obtain ⟨G2, s2, rel2, dq⟩ := rel1.frz rr1 e2
    exact post_ G2 H1 _ (s1.trans s2) (rel2.setV dq np)
theorem ex_asg {i : Nat} {x : Str} {p : Pos} (nd : X.N.Nodup) (ht : TgOk X F i x) (ha : PEv X F W a ea) (hs : swapsWith a (some (.Name x p)) pos.line X.env = pure false) : PSv X F fuel W (.Assign [.Name x p] a pos) (.asg (.nm i) ea) := ps_of fun D σ H h => by
  obtain ⟨G, ρ, rel, post⟩ := h
  obtain ⟨r, ρ1, e1, post_⟩ := PostS.st post; clear post; have post := post_; clear post_
  exact ⟨_, ps_set (i := i) nd ht.nm ht.lc ha hs ht.fn, tE_in rel e1 fun G1 H1 x s1 rel1 rr1 => store_wish s1 rel1 rr1 ht.np post⟩
theorem ex_asgLc {i : Nat} {x : Str} {p p' : Pos} {tg elt iter : Expr} {ifs : List Expr} {scope : Scope} {ownp : List (Str × Nat)} {eelt : Ex} {etg : Tg} {eit : Rc.It} {eifs : Tss} {own : List Nat} (hc : X.calm = true) (nd : X.N.Nodup) (ht : TgOk X F i x)
    (hyl : X.env.scope.names.lookup x = some .local) (hsw : swapsWith (.ListComp elt [⟨tg, iter, ifs, 0⟩] scope p') (some (.Name x p)) pos.line X.env = pure true)
    (hi : PI X tg iter (tI X.K F (evI W eit))) (ok : BlkOk X.N X.env.scope scope ownp) (ho : own = ownp.map (·.2)) (np : ∀ p ∈ F.P, p.1 ∉ own) (hsub : ∀ j ∈ etg.slots, j ∈ own)
    (cc : CompOk X F W tg elt ifs scope etg eifs eelt) (hs : ∀ x, foldedSetIterable iter X.env x = pure x) : PSv X F fuel W (.Assign [.Name x p] (.ListComp elt [⟨tg, iter, ifs, 0⟩] scope p') pos) (.asg (.nm i) (.comp eelt etg eit eifs own)) := ps_of fun D σ H h => by
  obtain ⟨G, ρ, rel, post⟩ := h
  obtain ⟨r, ρ1, e1, post_⟩ := PostS.st post; clear post; have post := post_; clear post_
  refine ⟨_, ps_setLc (i := i) hc nd ht.nm hyl hsw hi ok cc.g cc.t cc.e hs, ?_⟩
  exact lc_wish ho np hsub σ H _ (tE_in rel e1 fun G1 H1 x s1 rel1 rr1 => store_wish s1 rel1 rr1 ht.np post)
theorem ex_asgTp {is : List Nat} {es : List Expr} {k : Nat} {p : Pos} (hc : X.calm = true) (nd : X.N.Nodup) (ht : TgsOk X F is es) (ha : PEv X F W a ea) (hs : swapsWithSole [.Tuple es k p] a pos.line X.env = pure false) (hw : swappedStores [.Tuple es k p] a X.env = pure none) :
    PSv X F fuel W (.Assign [.Tuple es k p] a pos) (.asg (.tp is) ea) := ps_of fun D σ H h => by
  obtain ⟨G, ρ, rel, post⟩ := h
  obtain ⟨r, ρ1, e1, post_⟩ := PostS.st post; clear post; have post := post_; clear post_
  obtain ⟨d, ρ2, e2, post_⟩ := PostS.st post; clear post; have post := post_; clear post_
  split at post
  · rename_i ρ3 e3
    refine ⟨_, ps_asg ha (tg_tp hc nd ht) hs hw rfl, tE_frz rel e1 e2 fun G1 H1 x s1 rel1 dq => ?_⟩
    exact ⟨G1, ρ2, d, ρ3, rel1, dq, e3, fun σ' rel3 _ _ => post G1 H1 σ' s1 rel3⟩
  · exact post.elim
theorem ex_par2 {i j : Nat} {x y : Str} {px py pt : Pos} {kt k2 : Nat} {pt2 : Pos} (hc : X.calm = true) (nd : X.N.Nodup) (hi : TgOk X F i x) (hj : TgOk X F j y) (hij : i ≠ j) (hx : X.env.scope.names.lookup x = some .local) (hy : X.env.scope.names.lookup y = some .local)
    {m : List Bool} {ds : Exs} (hl : ds.len = 2) (ha : PCv X F W [a, b] ds m) (hw : swappedStores [.Tuple [.Name x px, .Name y py] kt pt] (.Tuple [a, b] k2 pt2) X.env = pure (some [x, y])) (hs : swapsWithSole [.Tuple [.Name x px, .Name y py] kt pt] (.Tuple [a, b] k2 pt2) pos.line X.env = pure false) :
    PSv X F fuel W (.Assign [.Tuple [.Name x px, .Name y py] kt pt] (.Tuple [a, b] k2 pt2) pos) (.par [i, j] m ds) := ps_of fun D σ H h => by
  obtain ⟨G, ρ, rel, post⟩ := h
  obtain ⟨cl, ρ1, e1, post_⟩ := PostS.st post; clear post; have post := post_; clear post_
  refine ⟨_, ps_par hc nd hi.nm hj.nm hij hx hy ha hw hs, tA_in rel e1 fun G1 H1 vs s1 rel1 z1 => ?_⟩
  have z1 : ZC X.K F.B G1 H1 σ ρ1 cl vs := z1
  split at post
  · rename_i ρ2 e2
    have l1 := evC_len W _ _ _ _ _ e1
    rw [hl] at l1
    have l2 := Paired.length z1.1
    rw [l1] at l2
    match vs, l2, z1 with
    | [v, w], _, z1 =>
      refine ⟨v, w, rfl, post G1 H1 _ s1 (setCA_ok rel1 (Paired.mapP z1.1 fun _ _ z => caOk_w z) z1.2 (fun k hk => ?_) e2)⟩
      simp only [List.mem_cons, List.not_mem_nil, or_false] at hk
      rcases hk with rfl | rfl
      · exact hi.np
      · exact hj.np
  · exact post.elim
theorem ex_par3 {i j l : Nat} {x y z : Str} {px py pz pt : Pos} {kt k2 : Nat} {pt2 : Pos} (hc : X.calm = true) (nd : X.N.Nodup) (hi : TgOk X F i x) (hj : TgOk X F j y) (hl : TgOk X F l z) (hij : i ≠ j) (hil : i ≠ l) (hjl : j ≠ l) (hx : X.env.scope.names.lookup x = some .local) (hy : X.env.scope.names.lookup y = some .local)
    (hz : X.env.scope.names.lookup z = some .local) {m : List Bool} {ds : Exs} (hn : ds.len = 3) (ha : PCv X F W [a, b, c] ds m) (hw : swappedStores [.Tuple [.Name x px, .Name y py, .Name z pz] kt pt] (.Tuple [a, b, c] k2 pt2) X.env = pure (some [x, y, z]))
    (hs : swapsWithSole [.Tuple [.Name x px, .Name y py, .Name z pz] kt pt] (.Tuple [a, b, c] k2 pt2) pos.line X.env = pure false) :
    PSv X F fuel W (.Assign [.Tuple [.Name x px, .Name y py, .Name z pz] kt pt] (.Tuple [a, b, c] k2 pt2) pos) (.par [i, j, l] m ds) := ps_of fun D σ H h => by
  obtain ⟨G, ρ, rel, post⟩ := h
  obtain ⟨cl, ρ1, e1, post_⟩ := PostS.st post; clear post; have post := post_; clear post_
  refine ⟨_, ps_par3 hc nd hi.nm hj.nm hl.nm hij hil hjl hx hy hz ha hw hs, tA_in rel e1 fun G1 H1 vs s1 rel1 z1 => ?_⟩
  have z1 : ZC X.K F.B G1 H1 σ ρ1 cl vs := z1
  split at post
  · rename_i ρ2 e2
    have l1 := evC_len W _ _ _ _ _ e1
    rw [hn] at l1
    have l2 := Paired.length z1.1
    rw [l1] at l2
    match vs, l2, z1 with
    | [v, w, y0], _, z1 =>
      refine ⟨v, w, y0, rfl, post G1 H1 _ s1 (setCA_ok rel1 (Paired.mapP z1.1 fun _ _ z => caOk_w z) z1.2 (fun k hk => ?_) e2)⟩
      simp only [List.mem_cons, List.not_mem_nil, or_false] at hk
      rcases hk with rfl | rfl | rfl
      · exact hi.np
      · exact hj.np
      · exact hl.np
  · exact post.elim
theorem ex_for {tg iter : Expr} {etg : Tg} {eit : Rc.It} {body : List Stmt} {db : Sts} (hp : PassesOwn (model X.prog X.w) X.A X.env X.xe) (hc : X.calm = true) (hi : PI X tg iter (tI X.K F (evI W eit))) (hg : PG X tg (tG X.K F etg)) (hb : PSsv X F fuel W body db)
    (hs : ∀ x, foldedSetIterable iter X.env x = pure x) (hsl : ∀ (ρ : Env) (i : Nat) (n : Bool) (ρ' : Env), evI W eit ρ ≠ .ok (.slot i n) ρ') : PSv X F fuel W (.For tg iter body [] pos) (.for_ etg eit db) := ps_of fun D σ H h => by
  obtain ⟨G, ρ, rel, post⟩ := h
  obtain ⟨src, ρ1, e1, post_⟩ := PostS.st post; clear post; have post := post_; clear post_
  cases src with
  | slot i n => exact absurd e1 (hsl _ _ _ _)
  | items xs =>
  have post : PostS X.K F (forL (fun x ρ2 => match setTg etg x ρ2 with
      | some ρ3 => exs fuel W db ρ3
      | none => .bad) xs ρ1) G D := post
  generalize hbd : (fun (x : PyData) (ρ2 : Env) => match setTg etg x ρ2 with
      | some ρ3 => exs fuel W db ρ3
      | none => SO.bad) = bd at post
  refine ⟨_, ps_for hp hc hi hg hb hs, G, ρ, rel, ?_⟩
  rw [e1]
  refine ⟨xs, rfl, fun G1 H1 J s1 rel1 wd => ?_⟩
  obtain ⟨Gw, Y, wk, wg, wy⟩ := wd
  refine for_it (g := tG X.K F etg) (tb := tS X.K F (exs fuel W db)) wk (fun i σ H => ∃ Gi ρi, Same G1 Gi ∧ F.rel X.K Gi H σ ρi ∧ PostS X.K F (forL bd (xs.drop i) ρi) Gi D) ⟨G1, ρ1, Same.refl _, rel1, PostS.mono s1 post⟩ ?_ ?_ ?_
  · rintro i σ H _ ⟨Gi, ρi, sg, rl, _⟩
    exact wg _ (sg.trans rl.sub)
  · rintro i x σ H H' hi ⟨Gi, ρi, sg, rl, pf⟩ y
    obtain ⟨d, G2, hd, nr⟩ := wy i H x H' Gi hi sg rl.sub y
    obtain ⟨s2, rl2, dq⟩ := nr.rel rl
    have ed : xs.drop i = d :: xs.drop (i + 1) := by
      obtain ⟨hl, ex⟩ := List.getElem?_eq_some_iff.mp hd
      rw [List.drop_eq_getElem_cons hl, ex]
    rw [ed] at pf
    have pf : PostS X.K F ((bd d ρi).turn fun ρ' => forL bd (xs.drop (i + 1)) ρ') Gi D := pf
    have eb : bd d ρi = match setTg etg d ρi with
      | some ρ3 => exs fuel W db ρ3
      | none => SO.bad := by rw [← hbd]
    cases e3 : setTg etg d ρi with
    | none =>
      rw [e3] at eb
      rw [eb] at pf
      exact pf.elim
    | some ρ3 =>
      rw [e3] at eb
      rw [eb] at pf
      refine ⟨G2, ρi, d, ρ3, rl2, dq, e3, fun σ' rl3 _ _ => ⟨G2, ρ3, rl3, ?_⟩⟩
      refine PostS.mono s2 (PostS.turn pf _ fun G4 H4 σ4 ρ4 s4 rl4 p4 => ⟨G4, ρ4, sg.trans s4, rl4, p4⟩)
  · rintro σ H ⟨Gi, ρi, sg, rl, pf⟩
    rw [List.drop_length] at pf
    exact pf Gi H σ (Same.refl _) rl
theorem ex_whl {tc : Ts} {body : List Stmt} {db : Sts} (hp : PassesOwn (model X.prog X.w) X.A X.env X.xe) (hc : PTv X F W c tc) (hb : PSsv X F fuel W body db) : PSv X F fuel W (.While c body [] pos) (.whl tc db) := ps_of fun D σ H h => by
  obtain ⟨G, ρ, rel, post⟩ := h
  refine ⟨_, ps_while hp hc hb, fun m σ H => ∃ Gi ρi, F.rel X.K Gi H σ ρi ∧ PostS X.K F (whlL (evT W tc) (exs fuel W db) m ρi) Gi D, ⟨fuel, G, ρ, rel, post⟩, ?_⟩
  rintro m σ H ⟨Gi, ρi, rl, pf⟩
  cases m with
  | zero => exact pf.elim
  | succ m =>
    obtain ⟨t, ρ1, e1, pf_⟩ := PostS.st (show PostS X.K F ((evT W tc ρi).st fun t ρ1 => match t with
      | true => (exs fuel W db ρ1).turn fun ρ2 => whlL (evT W tc) (exs fuel W db) m ρ2
      | false => .nx ρ1) Gi D from pf)
    refine tT_in rl e1 fun G1 H1 s1 rl1 => ?_
    cases t with
    | true =>
      rw [if_pos rfl]
      refine ⟨fun σ' H' => ∃ Gj ρj, F.rel X.K Gj H' σ' ρj ∧ PostS X.K F (whlL (evT W tc) (exs fuel W db) m ρj) Gj D, fun σ' H' q => ⟨m, Nat.lt_succ_self _, q⟩, G1, ρ1, rl1, ?_⟩
      exact PostS.mono s1 (PostS.turn pf_ _ fun G4 H4 σ4 ρ4 s4 rl4 p4 => ⟨G4, ρ4, rl4, p4⟩)
    | false =>
      rw [if_neg Bool.false_ne_true]
      exact pf_ G1 H1 σ s1 rl1
end

/-! ### a def -/
def pinsOf : Nat → List V → List Sl → List (Nat × V)
  | k, x :: xs, .o _ :: as => (k, x) :: pinsOf (k + 1) xs as
  | k, _ :: xs, _ :: as => pinsOf (k + 1) xs as
  | _, _, _ => []
theorem pinsOf_at : ∀ {k : Nat} {xs : List V} {as : List Sl} {p : Nat × V}, p ∈ pinsOf k xs as → ∃ j, p.1 = k + j ∧ xs[j]? = some p.2 ∧ ∃ b, as[j]? = some (.o b)
  | k, [], as, p, h => by simp [pinsOf] at h
  | k, x :: xs, [], p, h => by simp [pinsOf] at h
  | k, x :: xs, .un :: as, p, h => by
    obtain ⟨j, h1, h2, h3⟩ := pinsOf_at (show p ∈ pinsOf (k + 1) xs as from h)
    exact ⟨j + 1, by omega, by simpa using h2, by simpa using h3⟩
  | k, x :: xs, .v d :: as, p, h => by
    obtain ⟨j, h1, h2, h3⟩ := pinsOf_at (show p ∈ pinsOf (k + 1) xs as from h)
    exact ⟨j + 1, by omega, by simpa using h2, by simpa using h3⟩
  | k, x :: xs, .o b :: as, p, h => by
    rcases List.mem_cons.mp (show p ∈ (k, x) :: pinsOf (k + 1) xs as from h) with rfl | h
    · exact ⟨0, rfl, by simp, b, by simp⟩
    · obtain ⟨j, h1, h2, h3⟩ := pinsOf_at h
      exact ⟨j + 1, by omega, by simpa using h2, by simpa using h3⟩
theorem pinsOf_mem : ∀ {k : Nat} {xs : List V} {as : List Sl} {j : Nat} {x : V} {b : Ob}, xs[j]? = some x → as[j]? = some (.o b) → (k + j, x) ∈ pinsOf k xs as
  | k, [], as, j, x, b, h, _ => by simp at h
  | k, y :: xs, [], j, x, b, _, h => by simp at h
  | k, y :: xs, .un :: as, 0, x, b, _, h => by simp at h
  | k, y :: xs, .v d :: as, 0, x, b, _, h => by simp at h
  | k, y :: xs, .o c :: as, 0, x, b, h, _ => by
    simp at h
    subst h
    exact List.mem_cons_self
  | k, y :: xs, .un :: as, j + 1, x, b, h, h' => by
    have q := pinsOf_mem (k := k + 1) (xs := xs) (as := as) (j := j) (by simpa using h) (by simpa using h')
    rw [show k + (j + 1) = k + 1 + j by omega]
    exact q
  | k, y :: xs, .v d :: as, j + 1, x, b, h, h' => by
    have q := pinsOf_mem (k := k + 1) (xs := xs) (as := as) (j := j) (by simpa using h) (by simpa using h')
    rw [show k + (j + 1) = k + 1 + j by omega]
    exact q
  | k, y :: xs, .o c :: as, j + 1, x, b, h, h' => by
    have q := pinsOf_mem (k := k + 1) (xs := xs) (as := as) (j := j) (by simpa using h) (by simpa using h')
    rw [show k + (j + 1) = k + 1 + j by omega]
    exact List.mem_cons_of_mem _ q
/-- where an address is lent -/
theorem lentA_at : ∀ {xs : List V} {as : List Sl} {a : Addr}, a ∈ lentA xs as → ∃ (j : Nat) (b : Ob), xs[j]? = some (.ref a) ∧ as[j]? = some (.o b)
  | [], as, a, h => by simp [lentA] at h
  | x :: xs, [], a, h => by
    cases x <;> simp [lentA] at h
  | x :: xs, .un :: as, a, h => by
    obtain ⟨j, b, h1, h2⟩ := lentA_at (show a ∈ lentA xs as from by cases x <;> exact h)
    exact ⟨j + 1, b, by simpa using h1, by simpa using h2⟩
  | x :: xs, .v d :: as, a, h => by
    obtain ⟨j, b, h1, h2⟩ := lentA_at (show a ∈ lentA xs as from by cases x <;> exact h)
    exact ⟨j + 1, b, by simpa using h1, by simpa using h2⟩
  | .ref c :: xs, .o b :: as, a, h => by
    rcases List.mem_cons.mp (show a ∈ c :: lentA xs as from h) with rfl | h
    · exact ⟨0, b, by simp, by simp⟩
    · obtain ⟨j, b', h1, h2⟩ := lentA_at h
      exact ⟨j + 1, b', by simpa using h1, by simpa using h2⟩
  | .non :: xs, .o b :: as, a, h => by
    obtain ⟨j, b', h1, h2⟩ := lentA_at (show a ∈ lentA xs as from h)
    exact ⟨j + 1, b', by simpa using h1, by simpa using h2⟩
  | .bl _ :: xs, .o b :: as, a, h => by
    obtain ⟨j, b', h1, h2⟩ := lentA_at (show a ∈ lentA xs as from h)
    exact ⟨j + 1, b', by simpa using h1, by simpa using h2⟩
  | .int _ :: xs, .o b :: as, a, h => by
    obtain ⟨j, b', h1, h2⟩ := lentA_at (show a ∈ lentA xs as from h)
    exact ⟨j + 1, b', by simpa using h1, by simpa using h2⟩
  | .str _ :: xs, .o b :: as, a, h => by
    obtain ⟨j, b', h1, h2⟩ := lentA_at (show a ∈ lentA xs as from h)
    exact ⟨j + 1, b', by simpa using h1, by simpa using h2⟩
  | .byt _ :: xs, .o b :: as, a, h => by
    obtain ⟨j, b', h1, h2⟩ := lentA_at (show a ∈ lentA xs as from h)
    exact ⟨j + 1, b', by simpa using h1, by simpa using h2⟩
  | .flt _ :: xs, .o b :: as, a, h => by
    obtain ⟨j, b', h1, h2⟩ := lentA_at (show a ∈ lentA xs as from h)
    exact ⟨j + 1, b', by simpa using h1, by simpa using h2⟩
  | .ty _ :: xs, .o b :: as, a, h => by
    obtain ⟨j, b', h1, h2⟩ := lentA_at (show a ∈ lentA xs as from h)
    exact ⟨j + 1, b', by simpa using h1, by simpa using h2⟩
theorem ARel.length {K : PySem.W.Frag} {G H : Hp} {vs : List V} {as : List Sl} (h : ARel K G H vs as) : vs.length = as.length := by
  induction h with
  | nil => rfl
  | v _ _ ih => simp [ih]
  | o _ _ _ ih => simp [ih]
theorem ARel.val {K : PySem.W.Frag} {G H : Hp} {vs : List V} {as : List Sl} (h : ARel K G H vs as) : ∀ {i : Nat} {d : PyData}, as[i]? = some (.v d) → ∃ x, vs[i]? = some x ∧ Dq K G x d := by
  induction h with
  | nil => intro i d e; simp at e
  | v h1 _ ih =>
    intro i d e
    cases i with
    | zero =>
      simp at e
      subst e
      exact ⟨_, by simp, h1⟩
    | succ i =>
      obtain ⟨x, q1, q2⟩ := ih (i := i) (by simpa using e)
      exact ⟨x, by simpa using q1, q2⟩
  | o _ _ _ ih =>
    intro i d e
    cases i with
    | zero => simp at e
    | succ i =>
      obtain ⟨x, q1, q2⟩ := ih (i := i) (by simpa using e)
      exact ⟨x, by simpa using q1, q2⟩
theorem ARel.own {K : PySem.W.Frag} {G H : Hp} {vs : List V} {as : List Sl} (h : ARel K G H vs as) : ∀ {i : Nat} {b : Ob}, as[i]? = some (.o b) → ∃ a, vs[i]? = some (.ref a) ∧ G a = none ∧ OwnAt K G H a b ∧ a ∈ lentA vs as := by
  induction h with
  | nil => intro i d e; simp at e
  | @v x d xs as h1 _ ih =>
    intro i b e
    cases i with
    | zero => simp at e
    | succ i =>
      obtain ⟨a, q1, q2, q3, q4⟩ := ih (i := i) (by simpa using e)
      exact ⟨a, by simpa using q1, q2, q3, by cases x <;> exact q4⟩
  | o h1 h2 _ ih =>
    intro i b e
    cases i with
    | zero =>
      simp at e
      subst e
      exact ⟨_, by simp, h1, h2, List.mem_cons_self⟩
    | succ i =>
      obtain ⟨a, q1, q2, q3, q4⟩ := ih (i := i) (by simpa using e)
      exact ⟨a, by simpa using q1, q2, q3, List.mem_cons_of_mem _ q4⟩
theorem lentA_inj : ∀ {xs : List V} {as : List Sl} {i j : Nat} {a : Addr} {b c : Ob}, (lentA xs as).Nodup → xs[i]? = some (.ref a) → xs[j]? = some (.ref a) → as[i]? = some (.o b) → as[j]? = some (.o c) → i = j
  | [], _, i, j, a, b, c, _, h, _, _, _ => by simp at h
  | x :: xs, [], i, j, a, b, c, _, _, _, h, _ => by simp at h
  | x :: xs, s :: as, 0, 0, a, b, c, _, _, _, _, _ => rfl
  | x :: xs, s :: as, i + 1, j + 1, a, b, c, nd, h1, h2, h3, h4 => by
    have nd' : (lentA xs as).Nodup := by
      cases x <;> cases s <;> first
        | exact nd
        | exact (List.nodup_cons.mp nd).2
    rw [lentA_inj (i := i) (j := j) nd' (by simpa using h1) (by simpa using h2) (by simpa using h3) (by simpa using h4)]
  | x :: xs, s :: as, 0, j + 1, a, b, c, nd, h1, h2, h3, h4 => by
    simp at h1 h3
    subst h1 h3
    have hm : a ∈ lentA xs as := by
      have key : ∀ {xs : List V} {as : List Sl} {j : Nat}, xs[j]? = some (.ref a) → as[j]? = some (.o c) → a ∈ lentA xs as := by
        intro xs
        induction xs with
        | nil => intro as j h; simp at h
        | cons y ys ih =>
          intro as j h h'
          cases as with
          | nil => simp at h'
          | cons t ts =>
            cases j with
            | zero =>
              simp at h h'
              subst h h'
              exact List.mem_cons_self
            | succ j =>
              have q := ih (as := ts) (j := j) (by simpa using h) (by simpa using h')
              cases y <;> cases t <;> first
                | exact q
                | exact List.mem_cons_of_mem _ q
      exact key (by simpa using h2) (by simpa using h4)
    exact absurd hm (List.nodup_cons.mp nd).1
  | x :: xs, s :: as, i + 1, 0, a, b, c, nd, h1, h2, h3, h4 => (lentA_inj (i := 0) (j := i + 1) nd h2 h1 h4 h3).symm
section
variable {K : PySem.W.Frag} {G H : Hp} {vs : List V} {as : List Sl}
/-- what stands around a def's run -/
def byst (G H : Hp) (A : List Addr) : Hp := fun b => if (G b).isNone && !A.contains b then H b else none
theorem byst_some {A : List Addr} {b : Addr} {o : HO} (h : byst G H A b = some o) : G b = none ∧ b ∉ A ∧ H b = some o := by
  unfold byst at h
  split at h
  · rename_i q
    simp only [Bool.and_eq_true, Option.isNone_iff_eq_none, Bool.not_eq_true', List.contains_eq_mem, decide_eq_false_iff_not] at q
    exact ⟨q.1, q.2, h⟩
  · cases h
theorem byst_at {A : List Addr} {b : Addr} (h1 : G b = none) (h2 : b ∉ A) : byst G H A b = H b := by
  unfold byst
  rw [if_pos]
  simp only [Bool.and_eq_true, Option.isNone_iff_eq_none, Bool.not_eq_true', List.contains_eq_mem, decide_eq_false_iff_not]
  exact ⟨h1, h2⟩
theorem byst_lent {A : List Addr} {b : Addr} (h2 : b ∈ A) : byst G H A b = none := by
  unfold byst
  rw [if_neg]
  simp [h2]
theorem start_get {N : List Str} {i : Nat} {x : V} (h : vs[i]? = some x) : (start N vs)[i]? = some (some x) := by
  unfold L2.start
  have hl : i < vs.length := (List.getElem?_eq_some_iff.mp h).1
  rw [List.getElem?_append_left (by simpa using hl), List.getElem?_map, h]
  rfl
theorem rel_start {N : List Str} {size : Nat} (sg : Same G H) (ar : ARel K G H vs as) (nd : (lentA vs as).Nodup) (hsz : size = N.length) (hle : vs.length ≤ N.length) :
    Rel K (byst G H (lentA vs as)) (pinsOf 0 vs as) G H (start N vs) (as ++ List.replicate (size - as.length) .un) := by
  have hl := ar.length
  have low : ∀ {i : Nat} {s : Sl}, (as ++ List.replicate (size - as.length) .un)[i]? = some s → s ≠ .un → as[i]? = some s := fun {i s} e ne => by
    by_cases hi : i < as.length
    · rw [List.getElem?_append_left hi] at e
      exact e
    · rw [List.getElem?_append_right (by omega), List.getElem?_replicate] at e
      split at e
      · exact absurd (Option.some.inj e).symm ne
      · cases e
  refine ⟨sg, fun b o e => ?_, fun p hp => ?_, ?_, fun i d e => ?_, fun i b e => ?_, fun i j a b c e e' r r' => ?_⟩
  · obtain ⟨h1, h2, h3⟩ := byst_some e
    exact ⟨h3, h1⟩
  · obtain ⟨j, h1, h2, h3⟩ := pinsOf_at hp
    rw [h1, Nat.zero_add]
    exact start_get h2
  · rw [List.length_append, List.length_replicate]
    unfold L2.start
    rw [List.length_append, List.length_map, List.length_replicate]
    omega
  · obtain ⟨x, h1, h2⟩ := ar.val (low e (by intro z; cases z))
    exact ⟨x, start_get h1, h2⟩
  · obtain ⟨a, h1, h2, h3, h4⟩ := ar.own (low e (by intro z; cases z))
    exact ⟨a, start_get h1, h2, byst_lent h4, h3⟩
  · have e1 := low e (by intro z; cases z)
    have e2 := low e' (by intro z; cases z)
    obtain ⟨a1, h1, _⟩ := ar.own e1
    obtain ⟨a2, h2, _⟩ := ar.own e2
    rw [start_get h1] at r
    rw [start_get h2] at r'
    cases r
    cases r'
    exact lentA_inj nd h1 h2 e1 e2
theorem lent_false (m : List Bool) (s : Sl) (r : Env) : lent (false :: m) (s :: r) = lent m r := by cases s <;> rfl
/-- the lent objects at the end -/
theorem lent_outs {B : Hp} {P : List (Nat × V)} {G' H' : Hp} {σ' : L2.St} {ρ' : Env} (rel : Rel K B P G' H' σ' ρ') : ∀ {k : Nat} {vs : List V} {as : List Sl} {outs : List Ob}, ARel K G H vs as → (∀ p ∈ pinsOf k vs as, p ∈ P) →
    lent (as.map isO) (ρ'.drop k) = some outs → Paired (fun a b => G' a = none ∧ OwnAt K G' H' a b) (lentA vs as) outs
  | k, _, _, outs, .nil, _, e => by
    have e : some [] = some outs := by
      have h := e
      unfold lent at h
      exact h
    cases e
    exact .nil
  | k, _, _, outs, .v (x := x) (d := d) (xs := xs) (as := as) h1 h2, hp, e => by
    have q : lentA (x :: xs) (.v d :: as) = lentA xs as := by cases x <;> rfl
    rw [q]
    cases hd : ρ'.drop k with
    | nil =>
      rw [hd] at e
      cases e
    | cons s r =>
      rw [hd] at e
      have hr : ρ'.drop (k + 1) = r := by rw [← List.drop_drop, hd] <;> rfl
      refine lent_outs rel (k := k + 1) h2 (fun p hm => hp p ?_) (by rw [hr, ← lent_false _ s]; exact e)
      cases x <;> exact hm
  | k, _, _, outs, .o (a := a) (b := b) (xs := xs) (as := as) h1 h2 h3, hp, e => by
    cases hd : ρ'.drop k with
    | nil =>
      rw [hd] at e
      cases e
    | cons s r =>
      rw [hd] at e
      have hr : ρ'.drop (k + 1) = r := by rw [← List.drop_drop, hd] <;> rfl
      cases s with
      | o c =>
        obtain ⟨os, e1, e2⟩ := Option.map_eq_some_iff.mp (show (lent (as.map isO) r).map (c :: ·) = some outs from e)
        subst e2
        have hk : ρ'[k]? = some (.o c) := by
          have z : (ρ'.drop k)[0]? = some (.o c) := by rw [hd]; rfl
          rw [List.getElem?_drop] at z
          exact z
        obtain ⟨a', g1, g2, _, g4⟩ := rel.own k c hk
        have hpin := rel.pin (k, .ref a) (hp _ List.mem_cons_self)
        rw [hpin] at g1
        cases g1
        exact .cons ⟨g2, g4⟩ (lent_outs rel (k := k + 1) h3 (fun p hm => hp p (List.mem_cons_of_mem _ hm)) (by rw [hr]; exact e1))
      | un => cases e
      | v d => cases e
end
/-- the slots lent -/
def lentIx : Nat → List Bool → List Nat
  | _, [] => []
  | k, true :: m => k :: lentIx (k + 1) m
  | k, false :: m => lentIx (k + 1) m
theorem lentIx_mem : ∀ {k : Nat} {m : List Bool} {j : Nat}, m[j]? = some true → k + j ∈ lentIx k m
  | k, [], j, h => by simp at h
  | k, true :: m, 0, _ => List.mem_cons_self
  | k, false :: m, 0, h => by simp at h
  | k, true :: m, j + 1, h => by
    have q := lentIx_mem (k := k + 1) (m := m) (j := j) (by simpa using h)
    rw [show k + (j + 1) = k + 1 + j by omega]
    exact List.mem_cons_of_mem _ q
  | k, false :: m, j + 1, h => by
    have q := lentIx_mem (k := k + 1) (m := m) (j := j) (by simpa using h)
    rw [show k + (j + 1) = k + 1 + j by omega]
    exact q
section
variable {P : Program} {w : World} {K : PySem.W.Frag} {mg : Str → Option Value} {base : Heap} {x qual : Str} {params : Arguments} {body : List Stmt} {scope : Scope} {f : Addr} {fd : FuncData} {N ps : List Str}
theorem fn_ok {k fuel : Nat} {W : Wd} {Fn : Rc.Fn} (FD : FunD K x qual params body scope [] [] f fd) (S : FnScope N ps scope) (hm : Fn.mask.length = ps.length) (hsz : Fn.size = N.length)
    (hb : ∀ (cdv : Value) (A : Around) (outer : List PySem.Env) (s : Shared) (H : Hp) (E : XK) (F : Fx), Room k (A.deeper (envOfC qual scope s.heap.objs.size f cdv)) → (∀ p ∈ F.P, p.1 ∈ lentIx 0 Fn.mask) →
      PSsv (cxOf CX0 P w K mg base N qual scope f cdv A outer s H E).nox F fuel W body Fn.body) : FnOk P w K mg base CX0 (k + 1) f fd ps (spOf K ps.length (runFn fuel W Fn)) := by
  refine FD.ok S (fun vs H Q E h => h.1) fun cdv A outer s H vs Q E hr h => ?_
  obtain ⟨hl, G, as, sg, ar, nd, post⟩ := h
  have hle : vs.length ≤ N.length := by
    have := congrArg List.length S.pre
    rw [List.length_take] at this
    omega
  unfold runFn at post
  by_cases hmk : as.map isO = Fn.mask
  · rw [if_pos hmk] at post
    have hP : ∀ p ∈ pinsOf 0 vs as, p.1 ∈ lentIx 0 Fn.mask := fun p hp => by
      obtain ⟨j, h1, _, b, h3⟩ := pinsOf_at hp
      rw [h1]
      refine lentIx_mem ?_
      rw [← hmk, List.getElem?_map, h3]
      rfl
    refine ⟨_, (hb cdv A outer s H E ⟨byst G H (lentA vs as), pinsOf 0 vs as⟩ hr hP).nox, G, _, rel_start sg ar nd hsz hle, ?_⟩
    generalize exs fuel W Fn.body (as ++ List.replicate (Fn.size - as.length) .un) = o at post
    -- what the end gives
    have back : ∀ {ρ' : Env} {outs : List Ob} {G' H' : Hp} {σ' : L2.St}, lent Fn.mask ρ' = some outs → Same G G' → Rel K (byst G H (lentA vs as)) (pinsOf 0 vs as) G' H' σ' ρ' → Back K G H G' H' (lentA vs as) outs := fun {ρ' outs G' H' σ'} e s1 rl => by
      refine ⟨s1, rl.sub, fun b o h1 h2 h3 => ?_, ?_⟩
      · exact rl.bys b o (by rw [byst_at h2 h3]; exact h1)
      · rw [← hmk] at e
        exact lent_outs rl (k := 0) ar (fun p hp => hp) e
    have new : ∀ {a : Addr} {G' : Hp}, Same G G' → G' a = none → byst G H (lentA vs as) a = none → a ∉ lentA vs as → H a = none := fun {a G'} s1 g1 b1 n1 => by
      rw [byst_at (Same.free s1 g1) n1] at b1
      exact b1
    have fin_ok : ∀ {r : R} {ρ' : Env} {G' H' : Hp} {σ' : L2.St} {y : V}, (match fin Fn.mask r ρ' with
        | .v d outs => ∀ G' H' x, Back K G H G' H' (lentA vs as) outs → Dq K G' x d → Q x H'
        | .o b outs => ∀ G' H' a, Back K G H G' H' (lentA vs as) outs → H a = none → G' a = none → OwnAt K G' H' a b → Q (.ref a) H'
        | _ => False) → Same G G' → Rel K (byst G H (lentA vs as)) (pinsOf 0 vs as) G' H' σ' ρ' → RRel K (byst G H (lentA vs as)) G' H' σ' ρ' r y → Q y H' := fun {r ρ' G' H' σ' y} post s1 rl rr => by
      -- an own slot's address is not lent, but for the lent slots
      have notlent : ∀ {a : Addr}, (∀ (j : Nat) (b : Ob), j < vs.length → as[j]? = some (.o b) → σ'[j]? ≠ some (some (.ref a))) → a ∉ lentA vs as := fun {a} hno hm => by
        obtain ⟨j, b, q1, q2⟩ := lentA_at hm
        have hp := rl.pin (j, .ref a) (by have := pinsOf_mem (k := 0) q1 q2; rwa [Nat.zero_add] at this)
        exact hno j b (List.getElem?_eq_some_iff.mp q1).1 q2 hp
      unfold fin at post
      cases el : lent Fn.mask ρ' with
      | none =>
        rw [el] at post
        exact post.elim
      | some outs =>
        rw [el] at post
        have bk := back el s1 rl
        have lentO : ∀ {j : Nat} {b : Ob}, as[j]? = some (.o b) → ∃ c, ρ'[j]? = some (.o c) := fun {j b} q => by
          have key : ∀ {m : List Bool} {ρ : Env} {os : List Ob} {j : Nat}, lent m ρ = some os → m[j]? = some true → ∃ c, ρ[j]? = some (.o c) := by
            intro m
            induction m with
            | nil => intro ρ os j _ h; simp at h
            | cons t m ih =>
              intro ρ os j h1 h2
              cases ρ with
              | nil => cases t <;> cases h1
              | cons s ρ =>
                cases j with
                | zero =>
                  simp at h2
                  subst h2
                  cases s with
                  | o c => exact ⟨c, rfl⟩
                  | un => cases h1
                  | v d => cases h1
                | succ j =>
                  cases t with
                  | true =>
                    cases s with
                    | o c =>
                      obtain ⟨os', e1, _⟩ := Option.map_eq_some_iff.mp (show (lent m ρ).map (c :: ·) = some os from h1)
                      obtain ⟨c', q⟩ := ih (j := j) e1 (by simpa using h2)
                      exact ⟨c', by simpa using q⟩
                    | un => cases h1
                    | v d => cases h1
                  | false =>
                    obtain ⟨c', q⟩ := ih (ρ := ρ) (j := j) (show lent m ρ = some os from by rw [← lent_false _ s]; exact h1) (by simpa using h2)
                    exact ⟨c', by simpa using q⟩
          refine key el ?_
          rw [← hmk, List.getElem?_map, q]
          rfl
        cases r with
        | v d => exact post G' H' y bk rr
        | o b =>
          obtain ⟨a, rfl, g1, g2, g3, g4⟩ := rr
          refine post G' H' a bk (new s1 g1 g2 (notlent fun j c _ q => ?_)) g1 g3
          obtain ⟨c', q'⟩ := lentO q
          exact g4 j c' q'
        | s i =>
          have post : (match (if isLent Fn.mask i then FO.bad else match ρ'[i]? with
            | some (.v d) => .v d outs
            | some (.o b) => .o b outs
            | _ => .bad) with
            | .v d outs => ∀ G' H' x, Back K G H G' H' (lentA vs as) outs → Dq K G' x d → Q x H'
            | .o b outs => ∀ G' H' a, Back K G H G' H' (lentA vs as) outs → H a = none → G' a = none → OwnAt K G' H' a b → Q (.ref a) H'
            | _ => False) := post
          have rr : σ'[i]? = some (some y) := rr
          by_cases hi : isLent Fn.mask i = true
          · rw [if_pos hi] at post
            exact post.elim
          · rw [if_neg hi] at post
            cases er : ρ'[i]? with
            | none =>
              rw [er] at post
              exact post.elim
            | some s =>
              cases s with
              | un =>
                rw [er] at post
                exact post.elim
              | v d =>
                rw [er] at post
                obtain ⟨x, q1, q2⟩ := rl.val i d er
                rw [rr] at q1
                cases q1
                exact post G' H' y bk q2
              | o b =>
                rw [er] at post
                obtain ⟨a, q1, q2, q3, q4⟩ := rl.own i b er
                rw [rr] at q1
                cases q1
                refine post G' H' a bk (new s1 q2 q3 (notlent fun j c _ q => ?_)) q2 q4
                obtain ⟨c', q'⟩ := lentO q
                intro z
                have e := rl.sep i j a b c' er q' rr z
                subst e
                apply hi
                unfold isLent
                rw [← hmk, List.getD_eq_getElem?_getD, List.getElem?_map, q]
                rfl
    cases o with
    | nx ρ' => exact fun G' H' σ' s1 rl => fin_ok (r := .v .none) post s1 rl .non
    | ret r ρ' => exact fun G' H' σ' y s1 rl rr => fin_ok post s1 rl rr
    | brk ρ' => exact post.elim
    | cnt ρ' => exact post.elim
    | exc z ρ' =>
      exfalso
      have post : (match (match lent Fn.mask ρ' with
        | some outs => FO.exc z outs
        | none => .bad) with
        | .v d outs => ∀ G' H' x, Back K G H G' H' (lentA vs as) outs → Dq K G' x d → Q x H'
        | .o b outs => ∀ G' H' a, Back K G H G' H' (lentA vs as) outs → H a = none → G' a = none → OwnAt K G' H' a b → Q (.ref a) H'
        | _ => False) := post
      cases el : lent Fn.mask ρ' with
      | none => rw [el] at post; exact post
      | some outs => rw [el] at post; exact post
    | bad => exact post.elim
  · rw [if_neg hmk] at post
    exact post.elim
end
end Rc

set_option Elab.async false
set_option linter.all false
set_option maxRecDepth 100000
set_option maxHeartbeats 4000000
namespace Rc
open PySem PySem.Spec PyProof.Rows L2

structure Ct where
  N : List Str
  sc : Scope
  pn : List Nat
structure Tab where
  fns : Nat → Option (Str × List Bool)
  cons : Nat → Option Str

def nmOk (x : Str) : Bool := !(x == ("__debug__" : Str)) && (!(x == ("__classdict__" : Str)) && !(x == ("__name__" : Str)))
def isVis (sc : Scope) (x : Str) : Bool := match sc.names.lookup x with
  | some .local => true
  | some .cell => true
  | some .free => true
  | _ => false
def isGlo (sc : Scope) (x : Str) : Bool := match sc.names.lookup x with
  | some .globalImplicit => true
  | _ => false
def isLoc (sc : Scope) (x : Str) : Bool := match sc.names.lookup x with
  | some .local => true
  | _ => false
def isLC (sc : Scope) (x : Str) : Bool := match sc.names.lookup x with
  | some .local => true
  | some .cell => true
  | _ => false
def notStar : Expr → Bool
  | .Starred .. => false
  | _ => true
def notSet : Expr → Bool
  | .Set .. => false
  | _ => true
def notSlice : Expr → Bool
  | .Slice .. => false
  | _ => true
/-- no call: what a method is asked of -/
def objOk : Expr → Bool
  | .Call .. => false
  | _ => true
theorem objOk_base {o : Expr} (h : objOk o = true) (env : PySem.Env) (n : Str) (w : Sem Value) : attributeBase o n env w = w := by
  cases o <;> first
    | rfl
    | exact absurd h Bool.false_ne_true
def notComp : Expr → Bool
  | .ListComp .. => false
  | .SetComp .. => false
  | .DictComp .. => false
  | _ => true
/-- an expression whose test is the truth of its value -/
def plainTest : Expr → Bool
  | .UnaryOp .Not _ _ => false
  | .BoolOp .. => false
  | .IfExp .. => false
  | .Compare .. => false
  | _ => true
def slotOk (c : Ct) (i : Nat) (x : Str) : Bool := decide (c.N[i]? = some x) && nmOk x
def biName : Bi → Str
  | .len => "len"
  | .int_ => "int"
  | .abs => "abs"
  | .list_ => "list"
  | .tuple_ => "tuple"
  | .all_ => "all"
  | .any_ => "any"
  | .min2 => "min"
  | .max2 => "max"
  | .str_ => "str"
  | .sum_ => "sum"
  | .ord_ => "ord"
def biNames : List Str := ["len", "int", "abs", "list", "tuple", "all", "any", "min", "max", "str", "sum", "ord", "isinstance", "range", "enumerate", "bool", "sorted", "set", "dict", "repr", "super"]
def ownP (N : List Str) : List Nat → List (Str × Nat)
  | [] => []
  | i :: is => (N.getD i "", i) :: ownP N is
theorem ownP_snd (N : List Str) : ∀ is, (ownP N is).map (·.2) = is
  | [] => rfl
  | i :: is => by show i :: (ownP N is).map (·.2) = _; rw [ownP_snd N is]
def sepB (pn own : List Nat) : Bool := pn.all fun i => !own.contains i
def subB (a b : List Nat) : Bool := a.all fun i => b.contains i
/-- a name that may be stored -/
def tgtOk (c : Ct) (i : Nat) (x : Str) : Bool := decide (c.N[i]? = some x) && isLC c.sc x && !c.pn.contains i
def tgtsOk (c : Ct) : List Nat → List Expr → Bool
  | [], [] => true
  | i :: is, .Name x _ :: es => tgtOk c i x && tgtsOk c is es
  | _, _ => false
def chkTg (c : Ct) : Tg → Expr → Bool
  | .nm i, .Name x _ => tgtOk c i x
  | .tp is, .Tuple es _ _ => tgtsOk c is es
  | _, _ => false
/-- the list comprehension's own store: name = [..] -/
def swD (sc : Scope) (x : Str) (p : Pos) (v : Expr) : Bool := match v with
  | .ListComp _ _ s q => isLoc sc x && (p.line == q.line) && !(s.names.any fun (n, k) => n == x && (k == .local || k == .cell))
  | _ => false
def tyName (t : String) : Str := Str.ofString t

section
variable (T : Tab)
mutual
def chkE (c : Ct) : Ex → Expr → Bool
  | .var i, .Name x _ => slotOk c i x && isVis c.sc x
  | .int n, .Constant (.int m) _ _ => decide (n = m)
  | .str n, .Constant (.str m) _ _ => decide (n = m)
  | .bl n, .Constant (.bool m) _ _ => decide (n = m)
  | .non, .Constant .none _ _ => true
  | .glob g, .Name x _ => decide (T.cons g = some x) && nmOk x && isGlo c.sc x
  | .bin op a b, .BinOp x op' y _ => decide (op = op') && chkE c a x && chkE c b y
  | .neg a, .UnaryOp .USub x _ => chkE c a x
  | .nott a, .UnaryOp .Not x _ => chkE c a x
  | .and a b, .BoolOp .And (x :: y :: r) p => chkE c a x && (match r with
    | [] => chkE c b y
    | z :: r => chkE c b (.BoolOp .And (y :: z :: r) p))
  | .or a b, .BoolOp .Or (x :: y :: r) p => chkE c a x && (match r with
    | [] => chkE c b y
    | z :: r => chkE c b (.BoolOp .Or (y :: z :: r) p))
  | .cmp op a b, .Compare x [op'] [y] _ => decide (op = op') && notSet y && chkE c a x && chkE c b y
  | .cmp2 o1 o2 a b d, .Compare x [p1, p2] [y, z] _ => decide (o1 = p1) && decide (o2 = p2) && notSet z && chkE c a x && chkE c b y && chkE c d z
  | .ite t a b, .IfExp u x y _ => chkT c t u && chkE c a x && chkE c b y
  | .tup es, .Tuple xs _ _ => decide (es.len ≤ 1000) && chkL c es xs
  | .lst es, .List xs _ => decide (es.len ≤ 1000) && chkL c es xs
  | .sub a i, .Subscript x y _ => notSlice y && chkE c a x && chkE c i y
  | .slc a l h, .Subscript x (.Slice (some y) (some z) none _) _ => chkE c a x && chkE c l y && chkE c h z
  | .slcL a l, .Subscript x (.Slice (some y) none none _) _ => chkE c a x && chkE c l y
  | .slcH a h, .Subscript x (.Slice none (some z) none _) _ => chkE c a x && chkE c h z
  | .rev a, .Subscript x (.Slice none none (some (.UnaryOp .USub (.Constant (.int k) _ _) _)) _) _ => decide (k = 1) && chkE c a x
  | .call f es, .Call (.Name x _) xs [] _ => (match T.fns f with
    | some (y, m) => decide (x = y) && decide (es.len = m.length)
    | none => false) && nmOk x && isGlo c.sc x && chkL c es xs
  | .bi b es, .Call (.Name x _) (y :: xs) [] _ => decide (biName b = x) && isGlo c.sc x && chkL c es (y :: xs)
  | .isi a t, .Call (.Name x _) [y, .Name z _] [] _ => decide (x = "isinstance") && isGlo c.sc x && decide (z = tyName t) && isTys.contains t && isGlo c.sc z && notStar y && chkE c a y
  | .mu .append i (.cons e .nil), .Call (.Attribute (.Name x _) n ap) [y] [] p => decide (n = "append") && (ap.endLine == p.line) && slotOk c i x && isVis c.sc x && notStar y && chkE c e y
  | .mu .popAt i (.cons e .nil), .Call (.Attribute (.Name x _) n ap) [y] [] p => decide (n = "pop") && (ap.endLine == p.line) && slotOk c i x && isVis c.sc x && notStar y && chkE c e y
  | .mu .pop i .nil, .Call (.Attribute (.Name x _) n ap) [] [] p => decide (n = "pop") && (ap.endLine == p.line) && slotOk c i x && isVis c.sc x
  | .pm m a (.cons e .nil), .Call (.Attribute o n ap) [y] [] p => decide (n = pmName m) && (ap.endLine == p.line) && objOk o && notStar y && chkE c a o && chkE c e y
  | .comp e tg it ifs own, .ListComp x [⟨t, iter, fs, 0⟩] scope _ => blkC c.N c.sc scope (ownP c.N own) && sepB c.pn own && subB tg.slots own && notSet iter && chkI c it t iter && chkTg ⟨c.N, scope, c.pn⟩ tg t && chkF ⟨c.N, scope, c.pn⟩ ifs fs && chkE ⟨c.N, scope, c.pn⟩ e x
  | _, _ => false
def chkL (c : Ct) : Exs → List Expr → Bool
  | .nil, [] => true
  | .cons e es, x :: xs => notStar x && chkE c e x && chkL c es xs
  | _, _ => false
def chkT (c : Ct) : Ts → Expr → Bool
  | .nott t, .UnaryOp .Not x _ => chkT c t x
  | .and a b, .BoolOp .And (x :: y :: r) p => chkT c a x && (match r with
    | [] => chkT c b y
    | z :: r => chkT c b (.BoolOp .And (y :: z :: r) p))
  | .or a b, .BoolOp .Or (x :: y :: r) p => chkT c a x && (match r with
    | [] => chkT c b y
    | z :: r => chkT c b (.BoolOp .Or (y :: z :: r) p))
  | .val (.cmp op a b), .Compare x [op'] [y] _ => decide (op = op') && notSet y && chkE c a x && chkE c b y
  | .val (.cmp2 o1 o2 a b d), .Compare x [p1, p2] [y, z] _ => decide (o1 = p1) && decide (o2 = p2) && notSet z && chkE c a x && chkE c b y && chkE c d z
  | .val e, x => plainTest x && chkE c e x
  | _, _ => false
def chkF (c : Ct) : Tss → List Expr → Bool
  | .nil, [] => true
  | .cons t .nil, [x] => chkT c t x
  | _, _ => false
def chkI (c : Ct) : Rc.It → Expr → Expr → Bool
  | .rng1 a, _, .Call (.Name x _) [y] [] _ => decide (x = "range") && isGlo c.sc x && notStar y && chkE c a y
  | .rng2 a b, _, .Call (.Name x _) [y, z] [] _ => decide (x = "range") && isGlo c.sc x && notStar y && notStar z && chkE c a y && chkE c b z
  | .enumS a, .Tuple _ _ _, .Call (.Name x _) [y] [] _ => decide (x = "enumerate") && isGlo c.sc x && notStar y && chkE c a y
  | .seq e, _, x => chkE c e x
  | _, _, _ => false
end
end

/-! ### where one stands -/
structure At (X : Cx) (c : Ct) (F : Fx) : Prop where
  calm : X.calm = true
  units : X.A.units + 65 < cLine
  nd : X.N.Nodup
  n : X.N = c.N
  kind : X.env.scope.kind = .function
  loc : ∀ x, c.sc.names.lookup x = some .local → X.env.scope.names.lookup x = some .local
  cel : ∀ x, c.sc.names.lookup x = some .cell → X.env.scope.names.lookup x = some .cell ∧ X.fn x = true
  fre : ∀ x, c.sc.names.lookup x = some .free → X.env.scope.names.lookup x = some .cell ∨ X.env.scope.names.lookup x = some .free
  glo : ∀ x, c.sc.names.lookup x = some .globalImplicit → Gl X x
  pn : ∀ p ∈ F.P, p.1 ∈ c.pn
/-- what the module holds -/
structure Gb (X : Cx) (T : Tab) (W : Wd) : Prop where
  fns : ∀ f x m, T.fns f = some (x, m) → W.lm f = m ∧ ∃ (k : Nat) (fa : Addr) (fd : FuncData) (ps : List Str), X.mg x = some (.ref fa) ∧ PySem.W.keepIn X.K (.ref fa) = true ∧ ps.length = m.length ∧ Binds X.K fd ps [] ∧ Room k X.A ∧
    FnOk X.prog X.w X.K X.mg X.base CX0 k fa fd ps (spOf X.K ps.length (W.Γ f))
  blt : ∀ x ∈ biNames, X.mg x = none
  cons : ∀ g x, T.cons g = some x → ∃ (v : V) (u : Value), X.mg x = some u ∧ RelV v u ∧ ∀ G, Dq X.K G v (W.C g)
theorem At.imp {X : Cx} {c : Ct} {F F' : Fx} (h : At X c F) (e : F'.P = F.P) : At X c F' := ⟨h.calm, h.units, h.nd, h.n, h.kind, h.loc, h.cel, h.fre, h.glo, by rw [e]; exact h.pn⟩
theorem lookup_map {f : Str × NameKind → NameKind} : ∀ {names : List (Str × NameKind)} {x : Str} {k : NameKind}, names.lookup x = some k → (names.map fun y => (y.1, f y)).lookup x = some (f (x, k))
  | [], x, k, h => by simp at h
  | (n, q) :: r, x, k, h => by
    rw [List.map_cons, List.lookup_cons]
    rw [List.lookup_cons] at h
    cases e : x == n with
    | true =>
      rw [e] at h
      cases h
      have e' : x = n := by simpa using e
      rw [e']
    | false =>
      rw [e] at h
      exact lookup_map h
theorem relabel_lookup {scope : Scope} {env : PySem.Env} {x : Str} {k : NameKind} (h : scope.names.lookup x = some k) :
    (relabel scope env).names.lookup x = some (if (k == .free && env.scope.kind == .function && env.kindOf x == some .cell) then .cell else k) := by
  have q := lookup_map (f := fun y => if (y.2 == .free && env.scope.kind == .function && env.kindOf y.1 == some .cell) then .cell else y.2) h
  have e : (relabel scope env).names = scope.names.map fun y => (y.1, if (y.2 == .free && env.scope.kind == .function && env.kindOf y.1 == some .cell) then .cell else y.2) := by
    show (scope.names.map _) = _
    apply List.map_congr_left
    rintro ⟨n, q⟩ _
    dsimp only
    split <;> rfl
  rw [e, q]
theorem At.blk {X : Cx} {c : Ct} {F F' : Fx} {s : Shared} {H : Hp} {scope : Scope} {C : Addr} {cl : List (Str × Addr)} {fp : List Addr} (h : At X c F) (hk : scope.kind = .function) (e : F'.P = F.P) : At (Blk X s H scope C cl fp) ⟨c.N, scope, c.pn⟩ F' := by
  refine ⟨h.calm, h.units, h.nd, h.n, hk, fun x q => ?_, fun x q => ⟨?_, ?_⟩, fun x q => ?_, fun x q => ?_, by rw [e]; exact h.pn⟩
  · have := relabel_lookup (env := X.env) q
    exact this
  · have := relabel_lookup (env := X.env) q
    exact this
  · show (scope.names.lookup x == some .cell) = true
    rw [q]
    rfl
  · have z := relabel_lookup (env := X.env) q
    by_cases hc : (NameKind.free == .free && X.env.scope.kind == .function && X.env.kindOf x == some .cell) = true
    · rw [if_pos hc] at z
      exact .inl z
    · rw [if_neg hc] at z
      exact .inr z
  · have := relabel_lookup (env := X.env) q
    exact this
theorem Gb.blk {X : Cx} {T : Tab} {W : Wd} {s : Shared} {H : Hp} {scope : Scope} {C : Addr} {cl : List (Str × Addr)} {fp : List Addr} (g : Gb X T W) : Gb (Blk X s H scope C cl fp) T W := ⟨g.fns, g.blt, g.cons⟩
theorem b2 {a b : Bool} (h : (a && b) = true) : a = true ∧ b = true := by simpa using h
section
variable {X : Cx} {c : Ct} {F : Fx} {T : Tab} {W : Wd}
theorem At.vis (h : At X c F) {x : Str} (v : isVis c.sc x = true) : Vis X.env.scope x := by
  unfold isVis at v
  split at v
  · exact .inl (h.loc x (by assumption))
  · exact .inr (.inl (h.cel x (by assumption)).1)
  · exact .inr ((h.fre x (by assumption)))
  · cases v
theorem At.gl (h : At X c F) {x : Str} (v : isGlo c.sc x = true) : Gl X x := by
  unfold isGlo at v
  split at v
  · exact h.glo x (by assumption)
  · cases v
theorem nm_of {x : Str} (h : nmOk x = true) : (x == ("__debug__" : Str)) = false ∧ (x == ("__classdict__" : Str)) = false ∧ x ≠ "__name__" := by
  unfold nmOk at h
  simp only [Bool.and_eq_true, Bool.not_eq_true'] at h
  exact ⟨h.1, h.2.1, fun e => by have := h.2.2; rw [e] at this; simp at this⟩
theorem At.slot (h : At X c F) {i : Nat} {x : Str} (q : slotOk c i x = true) : X.N[i]? = some x ∧ (x == ("__debug__" : Str)) = false ∧ (x == ("__classdict__" : Str)) = false := by
  obtain ⟨q1, q2⟩ := b2 q
  obtain ⟨n1, n2, _⟩ := nm_of q2
  exact ⟨by rw [h.n]; exact of_decide_eq_true q1, n1, n2⟩
theorem star_of {e : Expr} {es : List Expr} {env : PySem.Env} (h : notStar e = true) : starEach (e :: es) env = (false, eval e env) :: starEach es env := by
  cases e <;> first
    | rfl
    | exact absurd h Bool.false_ne_true
theorem notSet_marks {op : CmpOp} {e : Expr} (h : notSet e = true) : behindInMarks op e = false := by
  cases e <;> first
    | rfl
    | exact absurd h Bool.false_ne_true
theorem notSet_fold {e : Expr} {env : PySem.Env} (h : notSet e = true) : ∀ x, foldedSetIterable e env x = pure x := by
  intro x
  cases e <;> first
    | rfl
    | exact absurd h Bool.false_ne_true
theorem notSlice_plain {e : Expr} (h : notSlice e = true) : PlainIx e := by
  intro o i
  cases e <;> first
    | rfl
    | exact absurd h Bool.false_ne_true
theorem plain_test {e : Expr} {env : PySem.Env} (h : plainTest e = true) : ∀ whole, isTrue e env whole = (do let v ← whole; standAt e.pos; holding [v] (truthy v)) := by
  intro whole
  cases e with
  | UnaryOp op x p => cases op <;> first
      | rfl
      | exact absurd h Bool.false_ne_true
  | _ => first
      | rfl
      | exact absurd h Bool.false_ne_true
theorem At.tgt (h : At X c F) {i : Nat} {x : Str} (q : tgtOk c i x = true) : TgOk X F i x := by
  obtain ⟨q1, q3⟩ := b2 q
  obtain ⟨q1, q2⟩ := b2 q1
  have hpn : i ∉ c.pn := by
    intro hm
    rw [List.contains_eq_mem, decide_eq_true hm] at q3
    cases q3
  have hl : Loc X.env.scope x ∧ (X.fn x = true ∨ X.env.scope.names.lookup x = some .local) := by
    unfold isLC at q2
    split at q2
    · have z := h.loc x (by assumption)
      exact ⟨.inl z, .inr z⟩
    · have z := h.cel x (by assumption)
      exact ⟨.inr z.1, .inl z.2⟩
    · cases q2
  exact ⟨by rw [h.n]; exact of_decide_eq_true q1, hl.1, hl.2, fun p hp e => hpn (e ▸ h.pn p hp)⟩
theorem At.tgts (h : At X c F) : ∀ {is : List Nat} {es : List Expr}, tgtsOk c is es = true → TgsOk X F is es
  | [], [], _ => .nil
  | [], e :: es, q => absurd q Bool.false_ne_true
  | i :: is, [], q => absurd q Bool.false_ne_true
  | i :: is, e :: es, q => by
    cases e with
    | Name x p =>
      obtain ⟨q1, q2⟩ := b2 (show (tgtOk c i x && tgtsOk c is es) = true from q)
      exact .cons (h.tgt q1) (h.tgts q2)
    | _ => exact absurd q Bool.false_ne_true
theorem At.tg (h : At X c F) {tg : Tg} {e : Expr} (q : chkTg c tg e = true) : PG X e (tG X.K F tg) := by
  cases tg with
  | nm i =>
    cases e with
    | Name x p => exact tg_nm h.nd (h.tgt q)
    | _ => exact absurd q Bool.false_ne_true
  | tp is =>
    cases e with
    | Tuple es k p => exact tg_tp h.calm h.nd (h.tgts q)
    | _ => exact absurd q Bool.false_ne_true
theorem At.blkOk (h : At X c F) {scope : Scope} {own : List (Str × Nat)} (q : blkC c.N c.sc scope own = true) : BlkOk X.N X.env.scope scope own := by
  have b := blkOk_by q
  refine ⟨b.kind, b.uniq, by rw [h.n]; exact b.ix, fun y hy e => ?_, by rw [h.n]; exact b.own⟩
  rcases b.free y hy e with z | z
  · exact .inl (h.cel _ z).1
  · exact h.fre _ z
theorem At.sep (h : At X c F) {own : List Nat} (q : sepB c.pn own = true) : ∀ p ∈ F.P, p.1 ∉ own := fun p hp hm => by
  have z := List.all_eq_true.mp q p.1 (h.pn p hp)
  rw [List.contains_eq_mem, decide_eq_true hm] at z
  cases z
theorem sub_of {a b : List Nat} (q : subB a b = true) : ∀ j ∈ a, j ∈ b := fun j hj => by
  have z := List.all_eq_true.mp q j hj
  rw [List.contains_eq_mem] at z
  exact of_decide_eq_true z
theorem bi_boot (b : Bi) : bootBuiltins (biName b) = some (biVal b) := by cases b <;> decide +kernel
theorem bi_mem (b : Bi) : biName b ∈ biNames := by cases b <;> decide +kernel
theorem bi_ne (b : Bi) : biName b ≠ "__name__" ∧ (biName b == ("__debug__" : Str)) = false := by cases b <;> exact ⟨by decide +kernel, by decide +kernel⟩
theorem ty_boot {t : String} (h : t ∈ isTys) : bootBuiltins (tyName t) = some (.type t) ∧ tyName t ∈ biNames ∧ tyName t ≠ "__name__" ∧ (tyName t == ("__debug__" : Str)) = false := by
  simp only [isTys, List.mem_cons, List.not_mem_nil, or_false] at h
  rcases h with rfl | rfl | rfl | rfl | rfl <;> exact ⟨by decide +kernel, by decide +kernel, by decide +kernel, by decide +kernel⟩
theorem backTo_plain {pos : Pos} {env : PySem.Env} : ∀ {es : Exs} {xs : List Expr}, chkL T c es xs = true → (backTo pos (starEach xs env)).any (·.1) = false
  | .nil, [], _ => rfl
  | .nil, _ :: _, h => absurd h Bool.false_ne_true
  | .cons e es, [], h => absurd h Bool.false_ne_true
  | .cons e es, x :: xs, h => by
    obtain ⟨h1, h3⟩ := b2 (show (notStar x && chkE T c e x && chkL T c es xs) = true from h)
    obtain ⟨h1, h2⟩ := b2 h1
    rw [star_of h1]
    show (false || (backTo pos (starEach xs env)).any (·.1)) = false
    rw [backTo_plain h3]
    rfl
end
/-- an argument list with nothing in it -/
theorem exs_nil_of {T : Tab} {c : Ct} {es : Exs} (h : chkL T c es [] = true) : es = .nil := by
  cases es with
  | nil => rfl
  | cons e es => exact absurd h Bool.false_ne_true
end Rc

set_option Elab.async false
set_option linter.all false
set_option maxRecDepth 100000
set_option maxHeartbeats 8000000
namespace Rc
open PySem PySem.Spec PyProof.Rows L2
theorem pw_one {X : Cx} {e : Expr} {t : TT} {op : BoolOp} {pos : Pos} (h : PT X e t) : PW X (.BoolOp op [e] pos) t := by
  cases op with
  | And => exact pw_and1 h
  | Or => exact pw_or1 h
theorem evF_one {X : Cx} {F : Fx} {W : Wd} {e : Expr} {t : Ts} (h : PTv X F W e t) : PTs X [e] (tT X.K F (evF W (.cons t .nil))) := pts_of fun σ H Q q => by
  obtain ⟨G, ρ, rel, post⟩ := q
  obtain ⟨b, ρ1, e1, post_⟩ := Post.bind post
  refine ⟨_, pts_one h, tT_in rel e1 fun G1 H1 s1 rel1 => ?_⟩
  cases b with
  | true => exact post_ G1 H1 s1 rel1
  | false => exact post_ G1 H1 s1 rel1
theorem evF_nil {X : Cx} {F : Fx} {W : Wd} : PTs X [] (tT X.K F (evF W .nil)) := pts_of fun σ H Q q => by
  obtain ⟨G, ρ, rel, post⟩ := q
  exact ⟨_, pts_nil, post G H (Same.refl _) rel⟩
section
variable {T : Tab} {W : Wd}
mutual
theorem sE : ∀ (d : Ex) {X : Cx} {c : Ct} {F : Fx} {e : Expr}, At X c F → Gb X T W → chkE T c d e = true → PEv X F W e d
  | .var i, X, c, F, e, a, g, h => by
    cases e with
    | Name x p =>
      obtain ⟨h1, h2⟩ := b2 h
      obtain ⟨q1, q2, q3⟩ := a.slot h1
      exact ev_var q1 (a.vis h2) q2 q3
    | _ => exact absurd h Bool.false_ne_true
  | .int n, X, c, F, e, a, g, h => by
    cases e with
    | Constant v k p =>
      cases v with
      | int m => cases of_decide_eq_true (show decide (n = m) = true from h); exact ev_int
      | _ => exact absurd h Bool.false_ne_true
    | _ => exact absurd h Bool.false_ne_true
  | .str n, X, c, F, e, a, g, h => by
    cases e with
    | Constant v k p =>
      cases v with
      | str m => cases of_decide_eq_true (show decide (n = m) = true from h); exact ev_str
      | _ => exact absurd h Bool.false_ne_true
    | _ => exact absurd h Bool.false_ne_true
  | .bl n, X, c, F, e, a, g, h => by
    cases e with
    | Constant v k p =>
      cases v with
      | bool m => cases of_decide_eq_true (show decide (n = m) = true from h); exact ev_bl
      | _ => exact absurd h Bool.false_ne_true
    | _ => exact absurd h Bool.false_ne_true
  | .non, X, c, F, e, a, g, h => by
    cases e with
    | Constant v k p =>
      cases v with
      | none => exact ev_non
      | _ => exact absurd h Bool.false_ne_true
    | _ => exact absurd h Bool.false_ne_true
  | .glob i, X, c, F, e, a, g, h => by
    cases e with
    | Name x p =>
      obtain ⟨h1, h3⟩ := b2 h
      obtain ⟨h1, h2⟩ := b2 h1
      obtain ⟨v, u, g1, g2, g3⟩ := g.cons i x (of_decide_eq_true h1)
      exact ev_glob (a.gl h3) g1 g2 g3 (nm_of h2).1
    | _ => exact absurd h Bool.false_ne_true
  | .bin op u v, X, c, F, e, a, g, h => by
    cases e with
    | BinOp x op' y p =>
      obtain ⟨h1, h3⟩ := b2 h
      obtain ⟨h1, h2⟩ := b2 h1
      cases of_decide_eq_true h1
      exact ev_bin (sE u a g h2) (sE v a g h3)
    | _ => exact absurd h Bool.false_ne_true
  | .neg u, X, c, F, e, a, g, h => by
    cases e with
    | UnaryOp op x p =>
      cases op with
      | USub => exact ev_neg (sE u a g h)
      | _ => exact absurd h Bool.false_ne_true
    | _ => exact absurd h Bool.false_ne_true
  | .nott u, X, c, F, e, a, g, h => by
    cases e with
    | UnaryOp op x p =>
      cases op with
      | Not => exact ev_nott (sE u a g h)
      | _ => exact absurd h Bool.false_ne_true
    | _ => exact absurd h Bool.false_ne_true
  | .and u v, X, c, F, e, a, g, h => by
    cases e with
    | BoolOp op xs p =>
      cases op with
      | And =>
        rcases xs with _ | ⟨x, _ | ⟨y, _ | ⟨z, r⟩⟩⟩
        · exact absurd h Bool.false_ne_true
        · exact absurd h Bool.false_ne_true
        · obtain ⟨h1, h2⟩ := b2 (show (chkE T c u x && chkE T c v y) = true from h)
          exact ev_and (sE u a g h1) (pe_one (sE v a g h2))
        · obtain ⟨h1, h2⟩ := b2 (show (chkE T c u x && chkE T c v (.BoolOp .And (y :: z :: r) p)) = true from h)
          exact ev_and (sE u a g h1) (sE v a g h2)
      | Or => exact absurd h Bool.false_ne_true
    | _ => exact absurd h Bool.false_ne_true
  | .or u v, X, c, F, e, a, g, h => by
    cases e with
    | BoolOp op xs p =>
      cases op with
      | Or =>
        rcases xs with _ | ⟨x, _ | ⟨y, _ | ⟨z, r⟩⟩⟩
        · exact absurd h Bool.false_ne_true
        · exact absurd h Bool.false_ne_true
        · obtain ⟨h1, h2⟩ := b2 (show (chkE T c u x && chkE T c v y) = true from h)
          exact ev_or (sE u a g h1) (pe_one (sE v a g h2))
        · obtain ⟨h1, h2⟩ := b2 (show (chkE T c u x && chkE T c v (.BoolOp .Or (y :: z :: r) p)) = true from h)
          exact ev_or (sE u a g h1) (sE v a g h2)
      | And => exact absurd h Bool.false_ne_true
    | _ => exact absurd h Bool.false_ne_true
  | .cmp op u v, X, c, F, e, a, g, h => by
    cases e with
    | Compare x ops ys p =>
      rcases ops with _ | ⟨o, _ | ⟨o2, ops⟩⟩ <;> rcases ys with _ | ⟨y, _ | ⟨y2, ys⟩⟩ <;> first
        | exact absurd h Bool.false_ne_true
        | skip
      obtain ⟨h1, h4⟩ := b2 (show (decide (op = o) && notSet y && chkE T c u x && chkE T c v y) = true from h)
      obtain ⟨h1, h3⟩ := b2 h1
      obtain ⟨h1, h2⟩ := b2 h1
      cases of_decide_eq_true h1
      exact ev_cmp a.units (sE u a g h3) (sE v a g h4) (notSet_marks h2)
    | _ => exact absurd h Bool.false_ne_true
  | .cmp2 o1 o2 u v w, X, c, F, e, a, g, h => by
    cases e with
    | Compare x ops ys p =>
      rcases ops with _ | ⟨p1, _ | ⟨p2, _ | ⟨p3, ops⟩⟩⟩ <;> rcases ys with _ | ⟨y, _ | ⟨z, _ | ⟨y3, ys⟩⟩⟩ <;> first
        | exact absurd h Bool.false_ne_true
        | skip
      obtain ⟨h1, h6⟩ := b2 (show (decide (o1 = p1) && decide (o2 = p2) && notSet z && chkE T c u x && chkE T c v y && chkE T c w z) = true from h)
      obtain ⟨h1, h5⟩ := b2 h1
      obtain ⟨h1, h4⟩ := b2 h1
      obtain ⟨h1, h3⟩ := b2 h1
      obtain ⟨h1, h2⟩ := b2 h1
      cases of_decide_eq_true h1
      cases of_decide_eq_true h2
      exact ev_cmp2 a.units (sE u a g h4) (sE v a g h5) (sE w a g h6) (notSet_marks h3)
    | _ => exact absurd h Bool.false_ne_true
  | .ite t u v, X, c, F, e, a, g, h => by
    cases e with
    | IfExp s x y p =>
      obtain ⟨h1, h3⟩ := b2 h
      obtain ⟨h1, h2⟩ := b2 h1
      exact ev_ite (sT t a g h1) (sE u a g h2) (sE v a g h3)
    | _ => exact absurd h Bool.false_ne_true
  | .tup es, X, c, F, e, a, g, h => by
    cases e with
    | Tuple xs k p =>
      obtain ⟨h1, h2⟩ := b2 h
      exact ev_tup (sL es a g h2) (Nat.le_trans (of_decide_eq_true h1) (by decide))
    | _ => exact absurd h Bool.false_ne_true
  | .lst es, X, c, F, e, a, g, h => by
    cases e with
    | List xs p =>
      obtain ⟨h1, h2⟩ := b2 h
      exact ev_lst (sL es a g h2) (Nat.le_trans (of_decide_eq_true h1) (by decide))
    | _ => exact absurd h Bool.false_ne_true
  | .sub u v, X, c, F, e, a, g, h => by
    cases e with
    | Subscript x y p =>
      have h : (notSlice y && chkE T c u x && chkE T c v y) = true := by
        cases y <;> exact h
      obtain ⟨h1, h3⟩ := b2 h
      obtain ⟨h1, h2⟩ := b2 h1
      exact ev_sub (sE u a g h2) (sE v a g h3) (notSlice_plain h1)
    | _ => exact absurd h Bool.false_ne_true
  | .slc u v w, X, c, F, e, a, g, h => by
    cases e with
    | Subscript x y p =>
      cases y with
      | Slice l hi st q =>
        cases l <;> cases hi <;> cases st <;> first
          | exact absurd h Bool.false_ne_true
          | skip
        obtain ⟨h1, h3⟩ := b2 h
        obtain ⟨h1, h2⟩ := b2 h1
        exact ev_slc (sE u a g h1) (sE v a g h2) (sE w a g h3)
      | _ => exact absurd h Bool.false_ne_true
    | _ => exact absurd h Bool.false_ne_true
  | .slcL u v, X, c, F, e, a, g, h => by
    cases e with
    | Subscript x y p =>
      cases y with
      | Slice l hi st q =>
        cases l <;> cases hi <;> cases st <;> first
          | exact absurd h Bool.false_ne_true
          | skip
        obtain ⟨h1, h2⟩ := b2 h
        exact ev_slcL (sE u a g h1) (sE v a g h2)
      | _ => exact absurd h Bool.false_ne_true
    | _ => exact absurd h Bool.false_ne_true
  | .slcH u v, X, c, F, e, a, g, h => by
    cases e with
    | Subscript x y p =>
      cases y with
      | Slice l hi st q =>
        cases l <;> cases hi <;> cases st <;> first
          | exact absurd h Bool.false_ne_true
          | skip
        obtain ⟨h1, h2⟩ := b2 h
        exact ev_slcH (sE u a g h1) (sE v a g h2)
      | _ => exact absurd h Bool.false_ne_true
    | _ => exact absurd h Bool.false_ne_true
  | .rev u, X, c, F, e, a, g, h => by
    cases e with
    | Subscript x y p =>
      cases y with
      | Slice l hi st q =>
        cases l <;> cases hi <;> cases st <;> first
          | exact absurd h Bool.false_ne_true
          | skip
        rename_i st
        cases st with
        | UnaryOp op z q2 =>
          cases op <;> first
            | exact absurd h Bool.false_ne_true
            | skip
          cases z with
          | Constant v k q3 =>
            cases v with
            | int m =>
              obtain ⟨h1, h2⟩ := b2 (show (decide (m = 1) && chkE T c u x) = true from h)
              cases of_decide_eq_true h1
              exact ev_rev (sE u a g h2)
            | _ => exact absurd h Bool.false_ne_true
          | _ => exact absurd h Bool.false_ne_true
        | _ => exact absurd h Bool.false_ne_true
      | _ => exact absurd h Bool.false_ne_true
    | _ => exact absurd h Bool.false_ne_true
  | .call f es, X, c, F, e, a, g, h => by
    cases e with
    | Call fe xs kw p =>
      cases kw with
      | cons k ks => cases fe <;> exact absurd h Bool.false_ne_true
      | nil =>
      cases fe with
      | Name x q =>
        have h : ((match T.fns f with
          | some (y, m) => decide (x = y) && decide (es.len = m.length)
          | none => false) && nmOk x && isGlo c.sc x && chkL T c es xs) = true := h
        obtain ⟨h1, h4⟩ := b2 h
        obtain ⟨h1, h3⟩ := b2 h1
        obtain ⟨h1, h2⟩ := b2 h1
        cases ef : T.fns f with
        | none => rw [ef] at h1; exact absurd h1 Bool.false_ne_true
        | some ym =>
          obtain ⟨y, m⟩ := ym
          rw [ef] at h1
          obtain ⟨h1, h5⟩ := b2 h1
          cases of_decide_eq_true h1
          have h5 := of_decide_eq_true h5
          obtain ⟨hm, k, fa, fd, ps, g1, g2, g3, g4, g5, g6⟩ := g.fns f x m ef
          cases es with
          | nil =>
            cases xs with
            | cons z zs => exact absurd h4 Bool.false_ne_true
            | nil =>
              have e0 : ps = [] := List.eq_nil_of_length_eq_zero (by rw [g3, ← h5]; rfl)
              subst e0
              exact ev_call0 g6 g5 (a.gl h3) g1 g2 g4 (nm_of h2).1
          | cons d ds =>
            cases xs with
            | nil => exact absurd h4 Bool.false_ne_true
            | cons z zs =>
              have h4' := h4
              obtain ⟨k1, k3⟩ := b2 (show (notStar z && chkE T c d z && chkL T c ds zs) = true from h4)
              obtain ⟨k1, k2⟩ := b2 k1
              exact ev_call g6 g5 (a.gl h3) g1 g2 g4 (by rw [h5, g3]) (evC_cons (sE d a g k2) (fun F' e => sC ds (a.imp e) g k3) (star_of k1)) (nm_of h2).1 (star_of k1) (backTo_plain k3)
      | _ => exact absurd h Bool.false_ne_true
    | _ => exact absurd h Bool.false_ne_true
  | .bi b es, X, c, F, e, a, g, h => by
    cases e with
    | Call fe xs kw p =>
      cases kw with
      | cons k ks => cases fe <;> cases xs <;> exact absurd h Bool.false_ne_true
      | nil =>
      cases fe with
      | Name x q =>
        cases xs with
        | nil => exact absurd h Bool.false_ne_true
        | cons z zs =>
          obtain ⟨h1, h3⟩ := b2 (show (decide (biName b = x) && isGlo c.sc x && chkL T c es (z :: zs)) = true from h)
          obtain ⟨h1, h2⟩ := b2 h1
          cases of_decide_eq_true h1
          cases es with
          | nil => exact absurd h3 Bool.false_ne_true
          | cons d ds =>
            obtain ⟨k1, k3⟩ := b2 (show (notStar z && chkE T c d z && chkL T c ds zs) = true from h3)
            obtain ⟨k1, k2⟩ := b2 k1
            exact bi_call a.calm (evR_cons (sE d a g k2) (sR ds a g k3) (star_of k1)) (a.gl h2) (g.blt _ (bi_mem b)) (bi_boot b) (bi_ne b).1 (bi_ne b).2 (star_of k1) (backTo_plain k3)
      | _ => exact absurd h Bool.false_ne_true
    | _ => exact absurd h Bool.false_ne_true
  | .isi u t, X, c, F, e, a, g, h => by
    cases e with
    | Call fe xs kw p =>
      cases kw with
      | cons k ks => cases fe <;> first
          | exact absurd h Bool.false_ne_true
          | (rcases xs with _ | ⟨y, _ | ⟨z, _ | ⟨w, xs⟩⟩⟩ <;> first
            | exact absurd h Bool.false_ne_true
            | (cases z <;> exact absurd h Bool.false_ne_true))
      | nil =>
      cases fe with
      | Name x q =>
        rcases xs with _ | ⟨y, _ | ⟨z, _ | ⟨w, xs⟩⟩⟩
        · exact absurd h Bool.false_ne_true
        · exact absurd h Bool.false_ne_true
        · cases z with
          | Name z q2 =>
            obtain ⟨h1, h7⟩ := b2 (show (decide (x = "isinstance") && isGlo c.sc x && decide (z = tyName t) && isTys.contains t && isGlo c.sc z && notStar y && chkE T c u y) = true from h)
            obtain ⟨h1, h6⟩ := b2 h1
            obtain ⟨h1, h5⟩ := b2 h1
            obtain ⟨h1, h4⟩ := b2 h1
            obtain ⟨h1, h3⟩ := b2 h1
            obtain ⟨h1, h2⟩ := b2 h1
            cases of_decide_eq_true h1
            cases of_decide_eq_true h3
            have ht : t ∈ isTys := by
              rw [List.contains_eq_mem] at h4
              exact of_decide_eq_true h4
            obtain ⟨t1, t2, t3, t4⟩ := ty_boot ht
            exact ev_isi ht (sE u a g h7) (a.gl h2) (g.blt _ (by decide +kernel)) (a.gl h5) (g.blt _ t2) t1 t3 t4 (star_of h6)
          | _ => exact absurd h Bool.false_ne_true
        · cases z <;> exact absurd h Bool.false_ne_true
      | _ => exact absurd h Bool.false_ne_true
    | _ => exact absurd h Bool.false_ne_true
  | .pm m u es, X, c, F, e, a, g, h => by
    rcases es with _ | ⟨d, _ | ⟨d2, es⟩⟩
    · cases e <;> exact absurd h Bool.false_ne_true
    · cases e with
      | Call fe xs kw p =>
        cases kw with
        | cons k ks =>
          cases fe <;> first
            | exact absurd h Bool.false_ne_true
            | (rcases xs with _ | ⟨y, _ | ⟨z, xs⟩⟩ <;> exact absurd h Bool.false_ne_true)
        | nil =>
        cases fe with
        | Attribute o n ap =>
          rcases xs with _ | ⟨y, _ | ⟨z, xs⟩⟩
          · exact absurd h Bool.false_ne_true
          · obtain ⟨h1, h6⟩ := b2 (show (decide (n = pmName m) && (ap.endLine == p.line) && objOk o && notStar y && chkE T c u o && chkE T c d y) = true from h)
            obtain ⟨h1, h5⟩ := b2 h1
            obtain ⟨h1, h4⟩ := b2 h1
            obtain ⟨h1, h3⟩ := b2 h1
            obtain ⟨h1, h2⟩ := b2 h1
            cases of_decide_eq_true h1
            exact ev_pm (sE u a g h5) (sE d a g h6) (fun n => objOk_base h3 _ n _) (star_of h4) h2
          · exact absurd h Bool.false_ne_true
        | _ => exact absurd h Bool.false_ne_true
      | _ => exact absurd h Bool.false_ne_true
    · cases e <;> exact absurd h Bool.false_ne_true
  | .mu m i es, X, c, F, e, a, g, h => by
    cases e with
    | Call fe xs kw p =>
      cases kw with
      | cons k ks =>
        cases m <;> first
          | (cases es <;> exact absurd h Bool.false_ne_true)
          | (rcases es with _ | ⟨d, _ | ⟨d2, es⟩⟩ <;> first
            | exact absurd h Bool.false_ne_true
            | (cases fe <;> first
              | exact absurd h Bool.false_ne_true
              | (rename_i fv _ _ <;> cases fv <;> first
                | exact absurd h Bool.false_ne_true
                | (rcases xs with _ | ⟨y, _ | ⟨z, xs⟩⟩ <;> exact absurd h Bool.false_ne_true))))
      | nil =>
      cases fe with
      | Attribute o n ap =>
        cases o with
        | Name x q =>
          cases m with
          | append =>
            rcases es with _ | ⟨d, _ | ⟨d2, es⟩⟩ <;> rcases xs with _ | ⟨y, _ | ⟨z, xs⟩⟩ <;> first
              | exact absurd h Bool.false_ne_true
              | skip
            obtain ⟨h1, h6⟩ := b2 (show (decide (n = "append") && (ap.endLine == p.line) && slotOk c i x && isVis c.sc x && notStar y && chkE T c d y) = true from h)
            obtain ⟨h1, h5⟩ := b2 h1
            obtain ⟨h1, h4⟩ := b2 h1
            obtain ⟨h1, h3⟩ := b2 h1
            obtain ⟨h1, h2⟩ := b2 h1
            cases of_decide_eq_true h1
            obtain ⟨q1, q2, q3⟩ := a.slot h3
            exact mu_app q1 (a.vis h4) q2 q3 (sE d a g h6) (star_of h5) h2
          | popAt =>
            rcases es with _ | ⟨d, _ | ⟨d2, es⟩⟩ <;> rcases xs with _ | ⟨y, _ | ⟨z, xs⟩⟩ <;> first
              | exact absurd h Bool.false_ne_true
              | skip
            obtain ⟨h1, h6⟩ := b2 (show (decide (n = "pop") && (ap.endLine == p.line) && slotOk c i x && isVis c.sc x && notStar y && chkE T c d y) = true from h)
            obtain ⟨h1, h5⟩ := b2 h1
            obtain ⟨h1, h4⟩ := b2 h1
            obtain ⟨h1, h3⟩ := b2 h1
            obtain ⟨h1, h2⟩ := b2 h1
            cases of_decide_eq_true h1
            obtain ⟨q1, q2, q3⟩ := a.slot h3
            exact mu_popAt q1 (a.vis h4) q2 q3 (sE d a g h6) (star_of h5) h2
          | pop =>
            rcases es with _ | ⟨d, es⟩ <;> rcases xs with _ | ⟨y, xs⟩ <;> first
              | exact absurd h Bool.false_ne_true
              | skip
            obtain ⟨h1, h4⟩ := b2 (show (decide (n = "pop") && (ap.endLine == p.line) && slotOk c i x && isVis c.sc x) = true from h)
            obtain ⟨h1, h3⟩ := b2 h1
            obtain ⟨h1, h2⟩ := b2 h1
            cases of_decide_eq_true h1
            obtain ⟨q1, q2, q3⟩ := a.slot h3
            exact mu_pop q1 (a.vis h4) q2 q3 h2
          | extend => cases es <;> exact absurd h Bool.false_ne_true
        | _ =>
          cases m <;> first
            | (cases es <;> exact absurd h Bool.false_ne_true)
            | (rcases es with _ | ⟨d, _ | ⟨d2, es⟩⟩ <;> exact absurd h Bool.false_ne_true)
      | _ =>
        cases m <;> first
          | (cases es <;> exact absurd h Bool.false_ne_true)
          | (rcases es with _ | ⟨d, _ | ⟨d2, es⟩⟩ <;> exact absurd h Bool.false_ne_true)
    | _ =>
      cases m <;> first
        | (cases es <;> exact absurd h Bool.false_ne_true)
        | (rcases es with _ | ⟨d, _ | ⟨d2, es⟩⟩ <;> exact absurd h Bool.false_ne_true)
  | .comp u tg it ifs own, X, c, F, e, a, g, h => by
    cases e with
    | ListComp x gs scope p =>
      rcases gs with _ | ⟨⟨t, iter, fs, asy⟩, _ | ⟨g2, gs⟩⟩
      · exact absurd h Bool.false_ne_true
      · by_cases h0 : asy = 0
        · subst h0
          obtain ⟨h1, h8⟩ := b2 (show (blkC c.N c.sc scope (ownP c.N own) && sepB c.pn own && subB tg.slots own && notSet iter && chkI T c it t iter && chkTg ⟨c.N, scope, c.pn⟩ tg t && chkF T ⟨c.N, scope, c.pn⟩ ifs fs && chkE T ⟨c.N, scope, c.pn⟩ u x) = true from h)
          obtain ⟨h1, h7⟩ := b2 h1
          obtain ⟨h1, h6⟩ := b2 h1
          obtain ⟨h1, h5⟩ := b2 h1
          obtain ⟨h1, h4⟩ := b2 h1
          obtain ⟨h1, h3⟩ := b2 h1
          obtain ⟨h1, h2⟩ := b2 h1
          have bk := a.blkOk h1
          refine ev_comp a.calm a.nd (sI it a g h5) bk (ownP_snd _ _).symm (a.sep h2) (sub_of h3) ⟨fun F' s H C cl fp e => ?_, fun F' s H C cl fp e => ?_, fun F' s H C cl fp e => ?_⟩ (notSet_fold h4)
          · exact (a.blk bk.kind e).tg h6
          · exact sF ifs (a.blk bk.kind e) g.blk h7
          · exact sE u (a.blk bk.kind e) g.blk h8
        · exfalso
          have : chkE T c (.comp u tg it ifs own) (.ListComp x [⟨t, iter, fs, asy⟩] scope p) = false := by
            cases asy with
            | ofNat n =>
              cases n with
              | zero => exact absurd rfl h0
              | succ n => rfl
            | negSucc n => rfl
          rw [this] at h
          cases h
      · exfalso
        have : chkE T c (.comp u tg it ifs own) (.ListComp x (⟨t, iter, fs, asy⟩ :: g2 :: gs) scope p) = false := by
          cases asy with
          | ofNat n =>
            cases n with
            | zero => rfl
            | succ n => rfl
          | negSucc n => rfl
        rw [this] at h
        cases h
    | _ => exact absurd h Bool.false_ne_true
theorem sL : ∀ (d : Exs) {X : Cx} {c : Ct} {F : Fx} {e : List Expr}, At X c F → Gb X T W → chkL T c d e = true → PAv X F W e d
  | .nil, X, c, F, e, a, g, h => by
    cases e with
    | nil => exact evs_nil
    | cons x xs => exact absurd h Bool.false_ne_true
  | .cons u ds, X, c, F, e, a, g, h => by
    cases e with
    | nil => exact absurd h Bool.false_ne_true
    | cons x xs =>
      obtain ⟨h1, h3⟩ := b2 (show (notStar x && chkE T c u x && chkL T c ds xs) = true from h)
      obtain ⟨h1, h2⟩ := b2 h1
      exact evs_cons (sE u a g h2) (sL ds a g h3) (star_of h1)
theorem sR : ∀ (d : Exs) {X : Cx} {c : Ct} {F : Fx} {e : List Expr}, At X c F → Gb X T W → chkL T c d e = true → PRv X F W e d
  | .nil, X, c, F, e, a, g, h => by
    cases e with
    | nil => exact evR_nil
    | cons x xs => exact absurd h Bool.false_ne_true
  | .cons u ds, X, c, F, e, a, g, h => by
    cases e with
    | nil => exact absurd h Bool.false_ne_true
    | cons x xs =>
      obtain ⟨h1, h3⟩ := b2 (show (notStar x && chkE T c u x && chkL T c ds xs) = true from h)
      obtain ⟨h1, h2⟩ := b2 h1
      exact evR_cons (sE u a g h2) (sR ds a g h3) (star_of h1)
theorem sC : ∀ (d : Exs) {m : List Bool} {X : Cx} {c : Ct} {F : Fx} {e : List Expr}, At X c F → Gb X T W → chkL T c d e = true → PCv X F W e d m
  | .nil, m, X, c, F, e, a, g, h => by
    cases e with
    | nil => exact evC_nil
    | cons x xs => exact absurd h Bool.false_ne_true
  | .cons u ds, m, X, c, F, e, a, g, h => by
    cases e with
    | nil => exact absurd h Bool.false_ne_true
    | cons x xs =>
      obtain ⟨h1, h3⟩ := b2 (show (notStar x && chkE T c u x && chkL T c ds xs) = true from h)
      obtain ⟨h1, h2⟩ := b2 h1
      exact evC_cons (sE u a g h2) (fun F' e => sC ds (a.imp e) g h3) (star_of h1)
theorem sT : ∀ (d : Ts) {X : Cx} {c : Ct} {F : Fx} {e : Expr}, At X c F → Gb X T W → chkT T c d e = true → PTv X F W e d
  | .nott t, X, c, F, e, a, g, h => by
    cases e with
    | UnaryOp op x p =>
      cases op with
      | Not => exact evT_nott (sT t a g h)
      | _ => exact absurd h Bool.false_ne_true
    | _ => exact absurd h Bool.false_ne_true
  | .and u v, X, c, F, e, a, g, h => by
    cases e with
    | BoolOp op xs p =>
      cases op with
      | And =>
        rcases xs with _ | ⟨x, _ | ⟨y, _ | ⟨z, r⟩⟩⟩
        · exact absurd h Bool.false_ne_true
        · exact absurd h Bool.false_ne_true
        · obtain ⟨h1, h2⟩ := b2 (show (chkT T c u x && chkT T c v y) = true from h)
          exact (evT_and (sT u a g h1) (pw_one (sT v a g h2))).pt
        · obtain ⟨h1, h2⟩ := b2 (show (chkT T c u x && chkT T c v (.BoolOp .And (y :: z :: r) p)) = true from h)
          exact (evT_and (sT u a g h1) (sW v a g h2)).pt
      | Or => exact absurd h Bool.false_ne_true
    | _ => exact absurd h Bool.false_ne_true
  | .or u v, X, c, F, e, a, g, h => by
    cases e with
    | BoolOp op xs p =>
      cases op with
      | Or =>
        rcases xs with _ | ⟨x, _ | ⟨y, _ | ⟨z, r⟩⟩⟩
        · exact absurd h Bool.false_ne_true
        · exact absurd h Bool.false_ne_true
        · obtain ⟨h1, h2⟩ := b2 (show (chkT T c u x && chkT T c v y) = true from h)
          exact (evT_or (sT u a g h1) (pw_one (sT v a g h2))).pt
        · obtain ⟨h1, h2⟩ := b2 (show (chkT T c u x && chkT T c v (.BoolOp .Or (y :: z :: r) p)) = true from h)
          exact (evT_or (sT u a g h1) (sW v a g h2)).pt
      | And => exact absurd h Bool.false_ne_true
    | _ => exact absurd h Bool.false_ne_true
  | .val d, X, c, F, e, a, g, h => by
    have plain : (plainTest e && chkE T c d e) = true → PTv X F W e (.val d) := fun h => by
      obtain ⟨h1, h2⟩ := b2 h
      exact evT_val (sE d a g h2) (plain_test h1)
    cases e with
    | Compare x ops ys p =>
      cases d with
      | cmp op u v =>
        rcases ops with _ | ⟨o, _ | ⟨o2, ops⟩⟩ <;> rcases ys with _ | ⟨y, _ | ⟨y2, ys⟩⟩ <;> first
          | exact absurd h Bool.false_ne_true
          | skip
        obtain ⟨h1, h4⟩ := b2 (show (decide (op = o) && notSet y && chkE T c u x && chkE T c v y) = true from h)
        obtain ⟨h1, h3⟩ := b2 h1
        obtain ⟨h1, h2⟩ := b2 h1
        cases of_decide_eq_true h1
        exact evT_cmp a.units (sE u a g h3) (sE v a g h4) (notSet_marks h2)
      | cmp2 o1 o2 u v w =>
        rcases ops with _ | ⟨p1, _ | ⟨p2, _ | ⟨p3, ops⟩⟩⟩ <;> rcases ys with _ | ⟨y, _ | ⟨z, _ | ⟨y3, ys⟩⟩⟩ <;> first
          | exact absurd h Bool.false_ne_true
          | skip
        obtain ⟨h1, h6⟩ := b2 (show (decide (o1 = p1) && decide (o2 = p2) && notSet z && chkE T c u x && chkE T c v y && chkE T c w z) = true from h)
        obtain ⟨h1, h5⟩ := b2 h1
        obtain ⟨h1, h4⟩ := b2 h1
        obtain ⟨h1, h3⟩ := b2 h1
        obtain ⟨h1, h2⟩ := b2 h1
        cases of_decide_eq_true h1
        cases of_decide_eq_true h2
        exact evT_cmp2 a.units (sE u a g h4) (sE v a g h5) (sE w a g h6) (notSet_marks h3)
      | _ => exact absurd h Bool.false_ne_true
    | _ =>
      refine plain ?_
      cases d <;> exact h
theorem sW : ∀ (d : Ts) {X : Cx} {c : Ct} {F : Fx} {op : BoolOp} {x y : Expr} {r : List Expr} {p : Pos}, At X c F → Gb X T W → chkT T c d (.BoolOp op (x :: y :: r) p) = true → PWv X F W (.BoolOp op (x :: y :: r) p) d
  | .nott t, X, c, F, op, x, y, r, p, a, g, h => absurd h Bool.false_ne_true
  | .and u v, X, c, F, op, x, y, r, p, a, g, h => by
    cases op with
    | Or => exact absurd h Bool.false_ne_true
    | And =>
      cases r with
      | nil =>
        obtain ⟨h1, h2⟩ := b2 (show (chkT T c u x && chkT T c v y) = true from h)
        exact evT_and (sT u a g h1) (pw_one (sT v a g h2))
      | cons z r =>
        obtain ⟨h1, h2⟩ := b2 (show (chkT T c u x && chkT T c v (.BoolOp .And (y :: z :: r) p)) = true from h)
        exact evT_and (sT u a g h1) (sW v a g h2)
  | .or u v, X, c, F, op, x, y, r, p, a, g, h => by
    cases op with
    | And => exact absurd h Bool.false_ne_true
    | Or =>
      cases r with
      | nil =>
        obtain ⟨h1, h2⟩ := b2 (show (chkT T c u x && chkT T c v y) = true from h)
        exact evT_or (sT u a g h1) (pw_one (sT v a g h2))
      | cons z r =>
        obtain ⟨h1, h2⟩ := b2 (show (chkT T c u x && chkT T c v (.BoolOp .Or (y :: z :: r) p)) = true from h)
        exact evT_or (sT u a g h1) (sW v a g h2)
  | .val d, X, c, F, op, x, y, r, p, a, g, h => by cases d <;> exact absurd h Bool.false_ne_true
theorem sF : ∀ (d : Tss) {X : Cx} {c : Ct} {F : Fx} {e : List Expr}, At X c F → Gb X T W → chkF T c d e = true → PTs X e (tT X.K F (evF W d))
  | .nil, X, c, F, e, a, g, h => by
    cases e with
    | nil => exact evF_nil
    | cons x xs => exact absurd h Bool.false_ne_true
  | .cons t .nil, X, c, F, e, a, g, h => by
    rcases e with _ | ⟨x, _ | ⟨y, xs⟩⟩
    · exact absurd h Bool.false_ne_true
    · exact evF_one (sT t a g h)
    · exact absurd h Bool.false_ne_true
  | .cons t (.cons t2 ts), X, c, F, e, a, g, h => by
    rcases e with _ | ⟨x, _ | ⟨y, xs⟩⟩ <;> exact absurd h Bool.false_ne_true
theorem sI : ∀ (d : Rc.It) {X : Cx} {c : Ct} {F : Fx} {tg e : Expr}, At X c F → Gb X T W → chkI T c d tg e = true → PI X tg e (tI X.K F (evI W d))
  | .seq u, X, c, F, tg, e, a, g, h => it_seq (sE u a g h)
  | .rng1 u, X, c, F, tg, e, a, g, h => by
    cases e with
    | Call fe xs kw p =>
      cases kw with
      | cons k ks =>
        cases fe <;> first
          | exact absurd h Bool.false_ne_true
          | (rcases xs with _ | ⟨y, _ | ⟨z, xs⟩⟩ <;> exact absurd h Bool.false_ne_true)
      | nil =>
      cases fe with
      | Name x q =>
        rcases xs with _ | ⟨y, _ | ⟨z, xs⟩⟩
        · exact absurd h Bool.false_ne_true
        · obtain ⟨h1, h4⟩ := b2 (show (decide (x = "range") && isGlo c.sc x && notStar y && chkE T c u y) = true from h)
          obtain ⟨h1, h3⟩ := b2 h1
          obtain ⟨h1, h2⟩ := b2 h1
          cases of_decide_eq_true h1
          exact it_rng1 (sE u a g h4) (a.gl h2) (g.blt _ (by decide +kernel)) (star_of h3)
        · exact absurd h Bool.false_ne_true
      | _ => exact absurd h Bool.false_ne_true
    | _ => exact absurd h Bool.false_ne_true
  | .rng2 u v, X, c, F, tg, e, a, g, h => by
    cases e with
    | Call fe xs kw p =>
      cases kw with
      | cons k ks =>
        cases fe <;> first
          | exact absurd h Bool.false_ne_true
          | (rcases xs with _ | ⟨y, _ | ⟨z, _ | ⟨w, xs⟩⟩⟩ <;> exact absurd h Bool.false_ne_true)
      | nil =>
      cases fe with
      | Name x q =>
        rcases xs with _ | ⟨y, _ | ⟨z, _ | ⟨w, xs⟩⟩⟩
        · exact absurd h Bool.false_ne_true
        · exact absurd h Bool.false_ne_true
        · obtain ⟨h1, h6⟩ := b2 (show (decide (x = "range") && isGlo c.sc x && notStar y && notStar z && chkE T c u y && chkE T c v z) = true from h)
          obtain ⟨h1, h5⟩ := b2 h1
          obtain ⟨h1, h4⟩ := b2 h1
          obtain ⟨h1, h3⟩ := b2 h1
          obtain ⟨h1, h2⟩ := b2 h1
          cases of_decide_eq_true h1
          have hz : starEach [z] X.env = [(false, eval z X.env)] := star_of h4
          exact it_rng2 (sE u a g h5) (sE v a g h6) (a.gl h2) (g.blt _ (by decide +kernel)) (by rw [star_of h3, hz]) hz
        · exact absurd h Bool.false_ne_true
      | _ => exact absurd h Bool.false_ne_true
    | _ => exact absurd h Bool.false_ne_true
  | .rng3 u v w, X, c, F, tg, e, a, g, h => by cases tg <;> exact absurd h Bool.false_ne_true
  | .ref i, X, c, F, tg, e, a, g, h => by cases tg <;> exact absurd h Bool.false_ne_true
  | .enumS u, X, c, F, tg, e, a, g, h => by
    cases tg with
    | Tuple elts kk tp =>
      cases e with
      | Call fe xs kw p =>
        cases kw with
        | cons k ks =>
          cases fe <;> first
            | exact absurd h Bool.false_ne_true
            | (rcases xs with _ | ⟨y, _ | ⟨z, xs⟩⟩ <;> exact absurd h Bool.false_ne_true)
        | nil =>
        cases fe with
        | Name x q =>
          rcases xs with _ | ⟨y, _ | ⟨z, xs⟩⟩
          · exact absurd h Bool.false_ne_true
          · obtain ⟨h1, h4⟩ := b2 (show (decide (x = "enumerate") && isGlo c.sc x && notStar y && chkE T c u y) = true from h)
            obtain ⟨h1, h3⟩ := b2 h1
            obtain ⟨h1, h2⟩ := b2 h1
            cases of_decide_eq_true h1
            exact it_enumS (sE u a g h4) (a.gl h2) (g.blt _ (by decide +kernel)) (star_of h3)
          · exact absurd h Bool.false_ne_true
        | _ => exact absurd h Bool.false_ne_true
      | _ => exact absurd h Bool.false_ne_true
    | _ => exact absurd h Bool.false_ne_true
  | .enumR i, X, c, F, tg, e, a, g, h => by cases tg <;> exact absurd h Bool.false_ne_true
end
end
end Rc

set_option Elab.async false
set_option linter.all false
set_option maxRecDepth 100000
set_option maxHeartbeats 8000000
namespace Rc
open PySem PySem.Spec PyProof.Rows L2
def noTup : Expr → Bool
  | .Tuple .. => false
  | _ => true
def isComp : Ex → Bool
  | .comp .. => true
  | _ => false
def constTup : Expr → Bool
  | .Tuple vs _ _ => vs.all (foldedForSure 8) && vs.all notStar
  | _ => false
/-- two or three plain names take the items of a tuple at once -/
def parOk (c : Ct) : List Nat → List Expr → List Expr → Bool
  | [i, j], [.Name x p, .Name y q], [a, b] => tgtOk c i x && tgtOk c j y && isLoc c.sc x && isLoc c.sc y && (q.line == p.line) && !(x == y) && !decide (i = j) && notStar a && notStar b && !([a, b].all (foldedForSure 8)) && !([a, b].all (constantsAlone 8))
  | [i, j, l], [.Name x p, .Name y q, .Name z r], [a, b, d] => tgtOk c i x && tgtOk c j y && tgtOk c l z && isLoc c.sc x && isLoc c.sc y && isLoc c.sc z && (q.line == p.line) && (r.line == p.line) && !(x == y) && !(x == z) && !(y == z) && !decide (i = j) && !decide (i = l) && !decide (j = l) && notStar a && notStar b && notStar d && !([a, b, d].all (foldedForSure 8)) && !([a, b, d].all (constantsAlone 8))
  | _, _, _ => false
section
variable (T : Tab)
mutual
def chkS (c : Ct) : Rc.St → Stmt → Bool
  | .asg (.nm i) e, .Assign [.Name x q] v p => tgtOk c i x && (!(swD c.sc x q v) || isComp e) && chkE T c e v
  | .asg (.tp is) e, .Assign [.Tuple ts k q] v p => (noTup v || constTup v) && tgtsOk c is ts && chkE T c e v
  | .par is m es, .Assign [.Tuple ts k q] (.Tuple vs k2 q2) p => parOk c is ts vs && chkL T c es vs
  | .exp e, .Expr v p => notComp v && chkE T c e v
  | .ife t a b, .If u x y p => chkT T c t u && chkSs c a x && chkSs c b y
  | .for_ tg it b, .For t iter body [] p => notSet iter && chkI T c it t iter && chkTg c tg t && chkSs c b body
  | .whl t b, .While u body [] p => chkT T c t u && chkSs c b body
  | .ret e, .Return (some v) p => chkE T c e v
  | .retN, .Return none p => true
  | .brk, .Break p => true
  | .cnt, .Continue p => true
  | .pass, .Pass p => true
  | _, _ => false
def chkSs (c : Ct) : Sts → List Stmt → Bool
  | .nil, [] => true
  | .cons s r, x :: xs => chkS c s x && chkSs c r xs
  | _, _ => false
end
end
/-- a statement of a def -/
structure AtS (X : Cx) (c : Ct) (F : Fx) : Prop extends At X c F where
  sc : X.env.scope = c.sc
  pass : PassesOwn (model X.prog X.w) X.A X.env X.xe
section
variable {X : Cx} {c : Ct} {F : Fx} {T : Tab} {W : Wd} {fuel : Nat}
theorem isLoc_of {sc : Scope} {x : Str} (h : isLoc sc x = true) : sc.names.lookup x = some .local := by
  unfold isLoc at h
  split at h
  · assumption
  · cases h
theorem isLoc_iff {sc : Scope} {x : Str} : isLoc sc x = (sc.names.lookup x == some NameKind.local) := by
  unfold isLoc
  split
  · rename_i e
    rw [e]
    rfl
  · rename_i e
    cases q : sc.names.lookup x with
    | none => rfl
    | some k =>
      cases k <;> first
        | rfl
        | exact absurd q e
theorem AtS.block (a : AtS X c F) : X.env.blockKind = .function := by
  unfold PySem.Env.blockKind
  rw [a.kind]
  rfl
theorem AtS.sw (a : AtS X c F) {x : Str} {q : Pos} {v : Expr} {n : Nat} (h : notComp v = true ∨ ∃ e gs s p, v = .ListComp e gs s p) : swapsWith v (some (.Name x q)) n X.env = pure (swD c.sc x q v) := by
  rcases h with h | ⟨e, gs, s, p, rfl⟩
  · cases v <;> first
      | rfl
      | exact absurd h Bool.false_ne_true
  · unfold swapsWith swD
    rw [isLoc_iff, ← a.sc]
    show pure (X.env.blockKind == .function && X.env.kindOf x == some .local && q.line == p.line && !(s.names.any fun (n, k) => n == x && (k == .local || k == .cell))) = _
    rw [a.block]
    rfl
theorem chk_comp {e : Ex} {v : Expr} (h : chkE T c e v = true) : notComp v = true ∨ ∃ e gs s p, v = .ListComp e gs s p := by
  cases v with
  | ListComp e gs s p => exact .inr ⟨_, _, _, _, rfl⟩
  | SetComp =>
    cases e with
    | mu m i es =>
      cases m <;> rcases es with _ | ⟨d, _ | ⟨d2, es⟩⟩ <;> exact absurd h Bool.false_ne_true
    | pm m u es => rcases es with _ | ⟨d, _ | ⟨d2, es⟩⟩ <;> exact absurd h Bool.false_ne_true
    | _ => exact absurd h Bool.false_ne_true
  | DictComp =>
    cases e with
    | mu m i es =>
      cases m <;> rcases es with _ | ⟨d, _ | ⟨d2, es⟩⟩ <;> exact absurd h Bool.false_ne_true
    | pm m u es => rcases es with _ | ⟨d, _ | ⟨d2, es⟩⟩ <;> exact absurd h Bool.false_ne_true
    | _ => exact absurd h Bool.false_ne_true
  | _ => exact .inl rfl
theorem sw_none {v : Expr} {n : Nat} {env : PySem.Env} (h : notComp v = true) : swapsWith v none n env = pure false := by
  cases v <;> first
    | rfl
    | exact absurd h Bool.false_ne_true
theorem sole_tup {v : Expr} {ts : List Expr} {k : Nat} {q : Pos} {n : Nat} {env : PySem.Env} : swapsWithSole [.Tuple ts k q] v n env = pure false := by
  show swapsWith v (some (.Tuple ts k q)) n env = pure false
  cases v <;> rfl
theorem swapped_none {v : Expr} {ts : List Expr} {k : Nat} {q : Pos} {env : PySem.Env} (h : noTup v = true) : swappedStores [.Tuple ts k q] v env = pure none := by
  cases v <;> first
    | rfl
    | exact absurd h Bool.false_ne_true
theorem swapped_const {v : Expr} {ts : List Expr} {k : Nat} {q : Pos} {env : PySem.Env} (h : constTup v = true) : swappedStores [.Tuple ts k q] v env = pure none := by
  cases v with
  | Tuple vs k2 q2 =>
    obtain ⟨h1, h2⟩ := b2 (show (vs.all (foldedForSure 8) && vs.all notStar) = true from h)
    unfold swappedStores
    dsimp only
    simp only [h1]
    split <;> try rfl
    split <;> try rfl
    split <;> rfl
  | _ => exact absurd h Bool.false_ne_true
theorem slot_no {W : Wd} : ∀ {d : Rc.It} {tg e : Expr}, chkI T c d tg e = true → ∀ (ρ : Env) (i : Nat) (n : Bool) (ρ' : Env), evI W d ρ ≠ .ok (.slot i n) ρ'
  | .seq u, tg, e, h, ρ, i, n, ρ', q => by
    obtain ⟨_, _, _, q⟩ := bindOk q
    obtain ⟨_, _, _, q⟩ := bindOk q
    split at q <;> cases q
  | .rng1 u, tg, e, h, ρ, i, n, ρ', q => by
    obtain ⟨_, _, _, q⟩ := bindOk q
    split at q
    · split at q <;> cases q
    · cases q
  | .rng2 u v, tg, e, h, ρ, i, n, ρ', q => by
    obtain ⟨_, _, _, q⟩ := bindOk q
    obtain ⟨_, _, _, q⟩ := bindOk q
    split at q
    · split at q <;> cases q
    · cases q
  | .rng3 u v w, tg, e, h, ρ, i, n, ρ', q => by cases q
  | .ref j, tg, e, h, ρ, i, n, ρ', q => by cases tg <;> exact absurd h Bool.false_ne_true
  | .enumS u, tg, e, h, ρ, i, n, ρ', q => by
    obtain ⟨_, _, _, q⟩ := bindOk q
    obtain ⟨_, _, _, q⟩ := bindOk q
    split at q <;> cases q
  | .enumR j, tg, e, h, ρ, i, n, ρ', q => by cases tg <;> exact absurd h Bool.false_ne_true
theorem nb {b : Bool} (h : (!b) = true) : b = false := by cases b <;> first | rfl | cases h
theorem nbd {p : Prop} [Decidable p] (h : (!decide p) = true) : ¬ p := of_decide_eq_false (nb h)
theorem chkL_len : ∀ {d : Exs} {e : List Expr}, chkL T c d e = true → d.len = e.length
  | .nil, [], _ => rfl
  | .nil, _ :: _, h => absurd h Bool.false_ne_true
  | .cons e es, [], h => absurd h Bool.false_ne_true
  | .cons e es, x :: xs, h => by
    obtain ⟨_, h3⟩ := b2 (show (notStar x && chkE T c e x && chkL T c es xs) = true from h)
    show es.len + 1 = xs.length + 1
    rw [chkL_len h3]
theorem swapped2 (a : AtS X c F) {x y : Str} {p q pt p2 : Pos} {kt k2 : Nat} {u v : Expr} (hx : isLoc c.sc x = true) (hy : isLoc c.sc y = true) (hl : (q.line == p.line) = true) (hn : (x == y) = false) (h1 : notStar u = true) (h2 : notStar v = true)
    (h3 : [u, v].all (foldedForSure 8) = false) (h4 : [u, v].all (constantsAlone 8) = false) : swappedStores [.Tuple [.Name x p, .Name y q] kt pt] (.Tuple [u, v] k2 p2) X.env = pure (some [x, y]) := by
  rw [isLoc_iff, ← a.sc] at hx hy
  have kx : (X.env.kindOf x == some NameKind.local) = true := hx
  have ky : (X.env.kindOf y == some NameKind.local) = true := hy
  have st : ([u, v].any fun | .Starred .. => true | _ => false) = false := by
    cases u <;> first
      | exact absurd h1 Bool.false_ne_true
      | (cases v <;> first
        | exact absurd h2 Bool.false_ne_true
        | rfl)
  have hn' : (y == x) = false := by
    cases e : y == x with
    | false => rfl
    | true =>
      have := eq_of_beq e
      subst this
      rw [beq_self_eq_true] at hn
      cases hn
  unfold swappedStores
  dsimp only
  rw [a.block, h3, h4]
  refine (if_neg Bool.false_ne_true).trans ?_
  refine (if_neg fun h => Bool.false_ne_true (st.symm.trans h)).trans ?_
  simp only [List.head?_cons, Option.map_some, Option.getD_some, List.filterMap_cons, List.filterMap_nil, Expr.pos, kx, ky, hl, beq_self_eq_true, Bool.and_true, if_true]
  simp [hn, hn', List.eraseDups, List.eraseDupsBy, List.eraseDupsBy.loop]
theorem swapped3 (a : AtS X c F) {x y z : Str} {p q r pt p2 : Pos} {kt k2 : Nat} {u v w : Expr} (hx : isLoc c.sc x = true) (hy : isLoc c.sc y = true) (hz : isLoc c.sc z = true) (hl : (q.line == p.line) = true) (hl2 : (r.line == p.line) = true) (hn : (x == y) = false) (hn2 : (x == z) = false) (hn3 : (y == z) = false)
    (h1 : notStar u = true) (h2 : notStar v = true) (h5 : notStar w = true)
    (h3 : [u, v, w].all (foldedForSure 8) = false) (h4 : [u, v, w].all (constantsAlone 8) = false) : swappedStores [.Tuple [.Name x p, .Name y q, .Name z r] kt pt] (.Tuple [u, v, w] k2 p2) X.env = pure (some [x, y, z]) := by
  rw [isLoc_iff, ← a.sc] at hx hy hz
  have kx : (X.env.kindOf x == some NameKind.local) = true := hx
  have ky : (X.env.kindOf y == some NameKind.local) = true := hy
  have kz : (X.env.kindOf z == some NameKind.local) = true := hz
  have st1 : ∀ {e : Expr}, notStar e = true → (match e with | .Starred .. => true | _ => false) = false := fun {e} h => by
    cases e <;> first
      | rfl
      | exact absurd h Bool.false_ne_true
  have st : ([u, v, w].any fun | .Starred .. => true | _ => false) = false := by
    simp only [List.any_cons, List.any_nil, st1 h1, st1 h2, st1 h5, Bool.or_false]
  have sym : ∀ {a b : Str}, (a == b) = false → (b == a) = false := fun {a b} h => by
    cases e : b == a with
    | false => rfl
    | true =>
      have := eq_of_beq e
      subst this
      rw [beq_self_eq_true] at h
      cases h
  unfold swappedStores
  dsimp only
  rw [a.block, h3, h4]
  refine (if_neg Bool.false_ne_true).trans ?_
  refine (if_neg fun h => Bool.false_ne_true (st.symm.trans h)).trans ?_
  simp only [List.head?_cons, Option.map_some, Option.getD_some, List.filterMap_cons, List.filterMap_nil, Expr.pos, kx, ky, kz, hl, hl2, beq_self_eq_true, Bool.and_true, if_true]
  simp [hn, hn2, hn3, sym hn, sym hn2, sym hn3, List.eraseDups, List.eraseDupsBy, List.eraseDupsBy.loop]
mutual
theorem sS : ∀ (d : Rc.St) {e : Stmt}, AtS X c F → Gb X T W → chkS T c d e = true → PSv X F fuel W e d
  | .asg (.nm i) u, e, a, g, h => by
    cases e with
    | Assign ts v p =>
      rcases ts with _ | ⟨t, _ | ⟨t2, ts⟩⟩
      · exact absurd h Bool.false_ne_true
      · cases t with
        | Name x q =>
          obtain ⟨h1, h3⟩ := b2 (show (tgtOk c i x && (!(swD c.sc x q v) || isComp u) && chkE T c u v) = true from h)
          obtain ⟨ht, h2⟩ := b2 h1
          have sw := a.sw (x := x) (q := q) (n := p.line) (chk_comp h3)
          cases e : swD c.sc x q v with
          | false =>
            rw [e] at sw
            exact ex_asg a.nd (a.toAt.tgt ht) (sE u a.toAt g h3) sw
          | true =>
            rw [e] at sw
            cases v with
            | ListComp elt gs scope q2 =>
              cases u with
              | comp eelt etg eit eifs own =>
                rcases gs with _ | ⟨⟨t, iter, fs, asy⟩, _ | ⟨g2, gs⟩⟩
                · exact absurd h3 Bool.false_ne_true
                · by_cases h0 : asy = 0
                  · subst h0
                    obtain ⟨k1, k8⟩ := b2 (show (blkC c.N c.sc scope (ownP c.N own) && sepB c.pn own && subB etg.slots own && notSet iter && chkI T c eit t iter && chkTg ⟨c.N, scope, c.pn⟩ etg t && chkF T ⟨c.N, scope, c.pn⟩ eifs fs && chkE T ⟨c.N, scope, c.pn⟩ eelt elt) = true from h3)
                    obtain ⟨k1, k7⟩ := b2 k1
                    obtain ⟨k1, k6⟩ := b2 k1
                    obtain ⟨k1, k5⟩ := b2 k1
                    obtain ⟨k1, k4⟩ := b2 k1
                    obtain ⟨k1, k3⟩ := b2 k1
                    obtain ⟨k1, k2⟩ := b2 k1
                    have bk := a.toAt.blkOk k1
                    have hloc : X.env.scope.names.lookup x = some .local := by
                      have e' : (isLoc c.sc x && (q.line == q2.line) && !(scope.names.any fun (n, k) => n == x && (k == .local || k == .cell))) = true := e
                      rw [a.sc]
                      exact isLoc_of (b2 (b2 e').1).1
                    refine ex_asgLc a.calm a.nd (a.toAt.tgt ht) hloc sw (sI eit a.toAt g k5) bk (ownP_snd _ _).symm (a.toAt.sep k2) (sub_of k3) ⟨fun F' s H C cl fp e => ?_, fun F' s H C cl fp e => ?_, fun F' s H C cl fp e => ?_⟩ (notSet_fold k4)
                    · exact (a.toAt.blk bk.kind e).tg k6
                    · exact sF eifs (a.toAt.blk bk.kind e) g.blk k7
                    · exact sE eelt (a.toAt.blk bk.kind e) g.blk k8
                  · exfalso
                    have : chkE T c (.comp eelt etg eit eifs own) (.ListComp elt [⟨t, iter, fs, asy⟩] scope q2) = false := by
                      cases asy with
                      | ofNat n =>
                        cases n with
                        | zero => exact absurd rfl h0
                        | succ n => rfl
                      | negSucc n => rfl
                    rw [this] at h3
                    cases h3
                · exfalso
                  have : chkE T c (.comp eelt etg eit eifs own) (.ListComp elt (⟨t, iter, fs, asy⟩ :: g2 :: gs) scope q2) = false := by
                    cases asy with
                    | ofNat n =>
                      cases n with
                      | zero => rfl
                      | succ n => rfl
                    | negSucc n => rfl
                  rw [this] at h3
                  cases h3
              | _ =>
                rw [e] at h2
                exact absurd h2 Bool.false_ne_true
            | _ => exact absurd e Bool.false_ne_true
        | _ => exact absurd h Bool.false_ne_true
      · cases t <;> exact absurd h Bool.false_ne_true
    | _ => exact absurd h Bool.false_ne_true
  | .asg (.tp is) u, e, a, g, h => by
    cases e with
    | Assign ts v p =>
      rcases ts with _ | ⟨t, _ | ⟨t2, ts⟩⟩
      · exact absurd h Bool.false_ne_true
      · cases t with
        | Tuple es k q =>
          obtain ⟨h1, h3⟩ := b2 (show ((noTup v || constTup v) && tgtsOk c is es && chkE T c u v) = true from h)
          obtain ⟨h1, h2⟩ := b2 h1
          refine ex_asgTp a.calm a.nd (a.toAt.tgts h2) (sE u a.toAt g h3) sole_tup ?_
          cases e : noTup v with
          | true => exact swapped_none e
          | false =>
            rw [e] at h1
            exact swapped_const h1
        | _ => exact absurd h Bool.false_ne_true
      · cases t <;> exact absurd h Bool.false_ne_true
    | _ => exact absurd h Bool.false_ne_true
  | .par is m es, e, a, g, h => by
    cases e with
    | Assign ts v p =>
      rcases ts with _ | ⟨t, _ | ⟨t2, ts⟩⟩
      · exact absurd h Bool.false_ne_true
      · cases t with
        | Tuple ts k q =>
          cases v with
          | Tuple vs k2 q2 =>
            obtain ⟨h1, h2⟩ := b2 (show (parOk c is ts vs && chkL T c es vs) = true from h)
            unfold parOk at h1
            split at h1
            · simp only [Bool.and_eq_true] at h1
              obtain ⟨⟨⟨⟨⟨⟨⟨⟨⟨⟨q1, q2⟩, q3⟩, q4⟩, q5⟩, q6⟩, q7⟩, q8⟩, q9⟩, q10⟩, q11⟩ := h1
              exact ex_par2 a.calm a.nd (a.toAt.tgt q1) (a.toAt.tgt q2) (nbd q7) (by rw [a.sc]; exact isLoc_of q3) (by rw [a.sc]; exact isLoc_of q4) (chkL_len h2) (sC es a.toAt g h2) (swapped2 a q3 q4 q5 (nb q6) q8 q9 (nb q10) (nb q11)) sole_tup
            · simp only [Bool.and_eq_true] at h1
              obtain ⟨⟨⟨⟨⟨⟨⟨⟨⟨⟨⟨⟨⟨⟨⟨⟨⟨⟨q1, q2⟩, q3⟩, q4⟩, q5⟩, q6⟩, q7⟩, q8⟩, q9⟩, q10⟩, q11⟩, q12⟩, q13⟩, q14⟩, q15⟩, q16⟩, q17⟩, q18⟩, q19⟩ := h1
              exact ex_par3 a.calm a.nd (a.toAt.tgt q1) (a.toAt.tgt q2) (a.toAt.tgt q3) (nbd q12) (nbd q13) (nbd q14) (by rw [a.sc]; exact isLoc_of q4) (by rw [a.sc]; exact isLoc_of q5) (by rw [a.sc]; exact isLoc_of q6) (chkL_len h2) (sC es a.toAt g h2) (swapped3 a q4 q5 q6 q7 q8 (nb q9) (nb q10) (nb q11) q15 q16 q17 (nb q18) (nb q19)) sole_tup
            · cases h1
          | _ => exact absurd h Bool.false_ne_true
        | _ => exact absurd h Bool.false_ne_true
      · cases t <;> first
          | exact absurd h Bool.false_ne_true
          | (cases v <;> exact absurd h Bool.false_ne_true)
    | _ => exact absurd h Bool.false_ne_true
  | .put i k v, e, a, g, h => by cases e <;> exact absurd h Bool.false_ne_true
  | .exp u, e, a, g, h => by
    cases e with
    | Expr v p =>
      obtain ⟨h1, h2⟩ := b2 (show (notComp v && chkE T c u v) = true from h)
      exact ex_exp (sE u a.toAt g h2) (sw_none h1)
    | _ => exact absurd h Bool.false_ne_true
  | .ife t u v, e, a, g, h => by
    cases e with
    | If s x y p =>
      obtain ⟨h1, h3⟩ := b2 (show (chkT T c t s && chkSs T c u x && chkSs T c v y) = true from h)
      obtain ⟨h1, h2⟩ := b2 h1
      exact ex_ife (sT t a.toAt g h1) (sSs u a g h2) (sSs v a g h3)
    | _ => exact absurd h Bool.false_ne_true
  | .for_ tg it b, e, a, g, h => by
    cases e with
    | For t iter body els p =>
      cases els with
      | cons x xs => exact absurd h Bool.false_ne_true
      | nil =>
        obtain ⟨h1, h4⟩ := b2 (show (notSet iter && chkI T c it t iter && chkTg c tg t && chkSs T c b body) = true from h)
        obtain ⟨h1, h3⟩ := b2 h1
        obtain ⟨h1, h2⟩ := b2 h1
        exact ex_for a.pass a.calm (sI it a.toAt g h2) (a.toAt.tg h3) (sSs b a g h4) (notSet_fold h1) (slot_no h2)
    | _ => exact absurd h Bool.false_ne_true
  | .whl t b, e, a, g, h => by
    cases e with
    | While s body els p =>
      cases els with
      | cons x xs => exact absurd h Bool.false_ne_true
      | nil =>
        obtain ⟨h1, h2⟩ := b2 (show (chkT T c t s && chkSs T c b body) = true from h)
        exact ex_whl a.pass (sT t a.toAt g h1) (sSs b a g h2)
    | _ => exact absurd h Bool.false_ne_true
  | .ret u, e, a, g, h => by
    cases e with
    | Return v p =>
      cases v with
      | none => exact absurd h Bool.false_ne_true
      | some v => exact ex_ret (sE u a.toAt g h)
    | _ => exact absurd h Bool.false_ne_true
  | .retN, e, a, g, h => by
    cases e with
    | Return v p =>
      cases v with
      | none => exact ex_retN
      | some v => exact absurd h Bool.false_ne_true
    | _ => exact absurd h Bool.false_ne_true
  | .brk, e, a, g, h => by
    cases e <;> first
      | exact ex_brk
      | exact absurd h Bool.false_ne_true
  | .cnt, e, a, g, h => by
    cases e <;> first
      | exact ex_cnt
      | exact absurd h Bool.false_ne_true
  | .pass, e, a, g, h => by
    cases e <;> first
      | exact ex_pass
      | exact absurd h Bool.false_ne_true
theorem sSs : ∀ (d : Sts) {e : List Stmt}, AtS X c F → Gb X T W → chkSs T c d e = true → PSsv X F fuel W e d
  | .nil, e, a, g, h => by
    cases e with
    | nil => exact ex_nil
    | cons x xs => exact absurd h Bool.false_ne_true
  | .cons s r, e, a, g, h => by
    cases e with
    | nil => exact absurd h Bool.false_ne_true
    | cons x xs =>
      obtain ⟨h1, h2⟩ := b2 (show (chkS T c s x && chkSs T c r xs) = true from h)
      exact ex_cons (sS s a g h1) (sSs r a g h2)
end
end
end Rc

set_option Elab.async false
set_option linter.all false
set_option maxRecDepth 100000
set_option maxHeartbeats 4000000
namespace Rc
open PySem PySem.Spec PyProof.Rows L2
structure DefI where
  id : Nat
  name : Str
  st : Stmt
  N : List Str
  fn : Fn
def DefI.ps (d : DefI) : List Str := (defArgs d.st).args.map (·.arg)
def findD : List DefI → Nat → Option DefI
  | [], _ => none
  | d :: r, g => match Nat.beq d.id g with
    | true => some d
    | false => findD r g
theorem findD_mem : ∀ {ds : List DefI} {g : Nat} {d : DefI}, findD ds g = some d → d ∈ ds
  | e :: r, g, d, h => by
    unfold findD at h
    split at h
    · cases h
      exact List.mem_cons_self
    · exact List.mem_cons_of_mem _ (findD_mem h)
def findC : List (Nat × (Str × PyData)) → Nat → Option (Str × PyData)
  | [], _ => none
  | d :: r, g => match Nat.beq d.1 g with
    | true => some d.2
    | false => findC r g
theorem findC_mem : ∀ {cs : List (Nat × (Str × PyData))} {g : Nat} {d : Str × PyData}, findC cs g = some d → (g, d) ∈ cs
  | e :: r, g, d, h => by
    unfold findC at h
    split at h
    · rename_i q
      cases h
      rw [← Nat.eq_of_beq_eq_true q]
      exact List.mem_cons_self
    · exact List.mem_cons_of_mem _ (findC_mem h)
def conF (cons : List (Nat × (Str × PyData))) (g : Nat) : PyData := match findC cons g with
  | some c => c.2
  | none => .none
def tabOf (ds : List DefI) (cons : List (Nat × (Str × PyData))) : Tab := ⟨fun g => (findD ds g).map fun d => (d.name, d.fn.mask), fun g => (findC cons g).map (·.1)⟩
theorem conT_at {ds : List DefI} {cons : List (Nat × (Str × PyData))} {g : Nat} {x : Str} (h : (tabOf ds cons).cons g = some x) : ∃ c, (g, c) ∈ cons ∧ c.1 = x ∧ conF cons g = c.2 := by
  have h : (findC cons g).map (·.1) = some x := h
  obtain ⟨c, h1, h2⟩ := Option.map_eq_some_iff.mp h
  refine ⟨c, findC_mem h1, h2, ?_⟩
  unfold conF
  rw [h1]
def chkD (T : Tab) (d : DefI) : Bool := C8.scC d.N d.ps (defScope d.st) && decide (d.fn.mask.length = d.ps.length) && decide (d.fn.size = d.N.length) && chkSs T ⟨d.N, defScope d.st, lentIx 0 d.fn.mask⟩ d.fn.body (defBody d.st)
structure DOk (T : Tab) (d : DefI) : Prop where
  chk : chkD T d = true
  binds : ∀ (kV doc pm : Value) (an : Option Addr) (cdv ct : Value) (us : List Value), us.length = d.ps.length → bindArgs (PySem.W.fnOf d.name d.name (defArgs d.st) (defBody d.st) (defScope d.st) .none kV doc pm an cdv ct) ⟨us, []⟩ = pure (d.ps.zip us)
abbrev FunI (K : PySem.W.Frag) (d : DefI) (f : Addr) (fd : FuncData) : Prop := FunD K d.name d.name (defArgs d.st) (defBody d.st) (defScope d.st) [] [] f fd
structure Hd (ds : List DefI) (cons : List (Nat × (Str × PyData))) (C : Nat → PyData) (K : PySem.W.Frag) (mg : Str → Option Value) : Prop where
  fns : ∀ d ∈ ds, ∃ (fa : Addr) (fd : FuncData), FunI K d fa fd ∧ mg d.name = some (.ref fa)
  blt : ∀ x ∈ biNames, mg x = none
  cons : ∀ g x, (tabOf ds cons).cons g = some x → ∃ (v : V) (u : Value), mg x = some u ∧ RelV v u ∧ ∀ G, Dq K G v (C g)
def fnsOf (ds : List DefI) (g : Nat) : Option Fn := (findD ds g).map (·.fn)
section
variable {P : Program} {w : World} {K : PySem.W.Frag} {mg : Str → Option Value} {base : Heap} {ds : List DefI} {cons : List (Nat × (Str × PyData))} {C : Nat → PyData} {fuel : Nat}
theorem prog_ok (hD : ∀ d ∈ ds, DOk (tabOf ds cons) d) (hH : Hd ds cons C K mg) : ∀ (k f : Nat) (d : DefI) (fa : Addr) (fd : FuncData), findD ds f = some d → FunI K d fa fd → mg d.name = some (.ref fa) →
    FnOk P w K mg base CX0 k fa fd d.ps (spOf K d.ps.length (sem C (fnsOf ds) fuel k f))
  | 0, f, d, fa, fd, _, _, _ => ⟨fun vs H Q E h => h.1, fun A outer s H args us vs Q E _ _ _ _ hs => by
      obtain ⟨_, _, _, _, _, _, h⟩ := hs
      exact h.elim⟩
  | k + 1, f, d, fa, fd, hd, FD, hm => by
    have e : sem C (fnsOf ds) fuel (k + 1) f = runFn fuel (Wk fuel (fnsOf ds) C k) d.fn := by
      funext as
      refine sem_at ?_
      unfold fnsOf
      rw [hd]
      rfl
    rw [e]
    have dm : d ∈ ds := findD_mem hd
    have ok := hD d dm
    have c := ok.chk
    unfold chkD at c
    simp only [Bool.and_eq_true, decide_eq_true_eq] at c
    obtain ⟨⟨⟨c1, c2⟩, c3⟩, c4⟩ := c
    have S := C8.fnScope_by c1
    refine fn_ok FD S c2 c3 fun cdv A outer s H E F hr hP => ?_
    refine sSs _ (c := ⟨d.N, defScope d.st, lentIx 0 d.fn.mask⟩) ⟨⟨rfl, ?_, S.nd, rfl, S.kind, fun x h => h, fun x h => ⟨h, rfl⟩, fun x h => .inr h, fun x h => h, hP⟩, rfl, PassesOwn.never⟩ ⟨fun g x m h => ?_, hH.blt, hH.cons⟩ c4
    · have := hr.un
      show (A.deeper (envOfC d.name (defScope d.st) s.heap.objs.size fa cdv)).units + 65 < _
      omega
    · have h : (findD ds g).map (fun d => (d.name, d.fn.mask)) = some (x, m) := h
      obtain ⟨d', h1, h2⟩ := Option.map_eq_some_iff.mp h
      cases h2
      have dm' : d' ∈ ds := findD_mem h1
      obtain ⟨fa', fd', F1, F2⟩ := hH.fns d' dm'
      have ok' := hD d' dm'
      have c' := ok'.chk
      unfold chkD at c'
      simp only [Bool.and_eq_true, decide_eq_true_eq] at c'
      obtain ⟨⟨⟨_, c2'⟩, _⟩, _⟩ := c'
      refine ⟨?_, k, fa', fd', d'.ps, F2, F1.kp, c2'.symm, F1.bindsN ok'.binds, hr, prog_ok hD hH k g d' fa' fd' h1 F1 F2⟩
      refine lmk (F := d'.fn) ?_ rfl
      unfold fnsOf
      rw [h1]
      rfl
end
end Rc

set_option Elab.async false
set_option linter.all false
set_option maxRecDepth 100000
set_option maxHeartbeats 2000000
/-! Cst: constants of the module; the head that tells them. -/
namespace Rc
open PySem PySem.Spec PyProof.Rows L2
mutual
def dcB (K : PySem.W.Frag) : PyData → Value → Bool
  | .none, .none => true
  | .bool b, .bool c => b == c
  | .int i, .int j _ => decide (i = j)
  | .str x, .str y _ => decide (x = y)
  | .tuple ds, .ref a => (match K.lookup a with
    | some o => (match o.data with
      | .seq its _ => decide (o.cls = .type "tuple") && decide (its.size ≤ 1000000) && dcAll K ds its.toList
      | _ => false)
    | none => false)
  | .list ds, .ref a => (match K.lookup a with
    | some o => (match o.data with
      | .seq its _ => decide (o.cls = .type "list") && o.dict.isNone && decide (its.size ≤ 1000000) && dcAll K ds its.toList
      | _ => false)
    | none => false)
  | _, _ => false
def dcAll (K : PySem.W.Frag) : List PyData → List Value → Bool
  | [], [] => true
  | d :: ds, u :: us => dcB K d u && dcAll K ds us
  | _, _ => false
end
mutual
theorem dcB_ok {K : PySem.W.Frag} : ∀ (d : PyData) {u : Value}, dcB K d u = true → ∃ v, RelV v u ∧ ∀ G, Dq K G v d
  | .none, u, h => by
    cases u with
    | none => exact ⟨.non, rfl, fun _ => .non⟩
    | _ => exact absurd h Bool.false_ne_true
  | .bool b, u, h => by
    cases u with
    | bool c => exact ⟨.bl b, by rw [eq_of_beq (show (b == c) = true from h)]; rfl, fun _ => .bl b⟩
    | _ => exact absurd h Bool.false_ne_true
  | .int i, u, h => by
    cases u with
    | int j t =>
      cases of_decide_eq_true (show decide (i = j) = true from h)
      exact ⟨.int i, ⟨t, rfl⟩, fun _ => .int i⟩
    | _ => exact absurd h Bool.false_ne_true
  | .str i, u, h => by
    cases u with
    | str j t =>
      cases of_decide_eq_true (show decide (i = j) = true from h)
      exact ⟨.str i, ⟨t, rfl⟩, fun _ => .str i⟩
    | _ => exact absurd h Bool.false_ne_true
  | .tuple ds, u, h => by
    cases u with
    | ref a =>
      have h : (match K.lookup a with
        | some o => (match o.data with
          | .seq its _ => decide (o.cls = .type "tuple") && decide (its.size ≤ 1000000) && dcAll K ds its.toList
          | _ => false)
        | none => false) = true := h
      split at h
      · rename_i o ho
        split at h
        · rename_i its n hd
          obtain ⟨h1, h3⟩ := b2 h
          obtain ⟨h1, h2⟩ := b2 h1
          obtain ⟨vs, r, q⟩ := dcAll_ok ds h3
          exact ⟨.ref a, rfl, fun G => .tup (.inr ⟨o, its, n, ho, of_decide_eq_true h1, hd, Nat.le_trans (of_decide_eq_true h2) (by decide), r⟩) (q G)⟩
        · cases h
      · cases h
    | _ => exact absurd h Bool.false_ne_true
  | .list ds, u, h => by
    cases u with
    | ref a =>
      have h : (match K.lookup a with
        | some o => (match o.data with
          | .seq its _ => decide (o.cls = .type "list") && o.dict.isNone && decide (its.size ≤ 1000000) && dcAll K ds its.toList
          | _ => false)
        | none => false) = true := h
      split at h
      · rename_i o ho
        split at h
        · rename_i its n hd
          obtain ⟨h1, h3⟩ := b2 h
          obtain ⟨h1, h2⟩ := b2 h1
          obtain ⟨h1, h4⟩ := b2 h1
          obtain ⟨vs, r, q⟩ := dcAll_ok ds h3
          exact ⟨.ref a, rfl, fun G => .lst (.inr ⟨o, its, n, ho, of_decide_eq_true h1, Option.isNone_iff_eq_none.mp h4, hd, Nat.le_trans (of_decide_eq_true h2) (by decide), r⟩) (q G)⟩
        · cases h
      · cases h
    | _ => exact absurd h Bool.false_ne_true
  | .dict _, u, h => by cases u <;> exact absurd h Bool.false_ne_true
theorem dcAll_ok {K : PySem.W.Frag} : ∀ (ds : List PyData) {us : List Value}, dcAll K ds us = true → ∃ vs, Vals vs us ∧ ∀ G, DqAll K G vs ds
  | [], us, h => by
    cases us with
    | nil => exact ⟨[], .nil, fun _ => .nil⟩
    | cons u us => exact absurd h Bool.false_ne_true
  | d :: ds, us, h => by
    cases us with
    | nil => exact absurd h Bool.false_ne_true
    | cons u us =>
      obtain ⟨h1, h2⟩ := b2 (show (dcB K d u && dcAll K ds us) = true from h)
      obtain ⟨v, r1, q1⟩ := dcB_ok d h1
      obtain ⟨vs, r2, q2⟩ := dcAll_ok ds h2
      exact ⟨v :: vs, .cons r1 r2, fun G => .cons (q1 G) (q2 G)⟩
end
def conOk (K : PySem.W.Frag) (c : Str × PyData) : Bool := match PySem.W.nsIn K mainGlobals c.1 with
  | some (some u) => dcB K c.2 u
  | _ => false
theorem conOk_ok {K : PySem.W.Frag} {h : Heap} {mg : Str → Option Value} (X : K.In h) (G : h.Ns mainGlobals mg) {c : Str × PyData} (q : conOk K c = true) : ∃ (v : V) (u : Value), mg c.1 = some u ∧ RelV v u ∧ ∀ G, Dq K G v c.2 := by
  unfold conOk at q
  split at q
  · rename_i u hu
    obtain ⟨v, r, d⟩ := dcB_ok _ q
    exact ⟨v, u, PySem.W.mg_of X G hu, r, d⟩
  · cases q
abbrev AlC : Type := He.AlD × Bool
def obsC (fa : List He.Fa) (fn : List He.DefD) (cs : List (Str × PyData)) (K : PySem.W.Frag) : AlC := (He.obsD fa fn K, cs.all (conOk K))
def obsCG (n : Nat) (fa : List He.Fa) (fn : List He.DefD) (cs : List (Str × PyData)) (g : Addr → Option Obj) : AlC := obsC fa fn cs (He.frG g (He.asD g n))
def hookC (n : Nat) (fa : List He.Fa) (fn : List He.DefD) (cs : List (Str × PyData)) : PySem.W.Hook where
  α := AlC
  obs := fun s => obsCG n fa fn cs s.heap.get?
  val := fun _ => (He.valD fn, true)
  says := fun _ h => ∃ K : PySem.W.Frag, K.In h ∧ He.SaysD fa fn K ∧ cs.all (conOk K) = true
  of := fun _ _ e => ⟨_, He.frG_in, congrArg Prod.fst e, congrArg Prod.snd e⟩
  keeps := fun _ _ _ ⟨K, hK, c⟩ k => ⟨K, PySem.W.Frag.In.keeps hK k, c⟩
theorem obsCG_eq {n : Nat} {fa : List He.Fa} {fn : List He.DefD} {cs : List (Str × PyData)} {g : Addr → Option Obj} {s : Shared} (h : ∀ a, g a = s.heap.get? a) : obsCG n fa fn cs g = (hookC n fa fn cs).obs s := by
  have e : g = s.heap.get? := funext h
  rw [e] <;> rfl
end Rc

set_option Elab.async false
set_option linter.all false
set_option maxRecDepth 100000
set_option maxHeartbeats 1000000
namespace Rc
open PySem
theorem forL_run {body : PyData → Env → SO} {xs : List PyData} (I : Nat → Env → Prop) (R : SO → Prop)
    (step : ∀ i x ρ, xs[i]? = some x → I i ρ → match body x ρ with
      | .nx ρ' => I (i + 1) ρ'
      | .cnt ρ' => I (i + 1) ρ'
      | .brk ρ' => R (.nx ρ')
      | o => R o) (fin : ∀ ρ, I xs.length ρ → R (.nx ρ)) {ρ : Env} (h : I 0 ρ) : R (forL body xs ρ) := by
  have key : ∀ (n : Nat) (ρ : Env), n ≤ xs.length → I (xs.length - n) ρ → R (forL body (xs.drop (xs.length - n)) ρ) := by
    intro n
    induction n with
    | zero =>
      intro ρ _ h
      rw [Nat.sub_zero, List.drop_length]
      exact fin ρ (by rw [Nat.sub_zero] at h; exact h)
    | succ n ih =>
      intro ρ hn h
      have hl : xs.length - (n + 1) < xs.length := by omega
      rw [List.drop_eq_getElem_cons hl]
      have s := step _ _ ρ (List.getElem?_eq_getElem hl) h
      have e : xs.length - (n + 1) + 1 = xs.length - n := by omega
      rw [e] at s ⊢
      show R ((body _ ρ).turn fun ρ' => forL body _ ρ')
      generalize body (xs[xs.length - (n + 1)]) ρ = o at s ⊢
      cases o with
      | nx ρ' => exact ih ρ' (by omega) s
      | cnt ρ' => exact ih ρ' (by omega) s
      | brk ρ' => exact s
      | ret r ρ' => exact s
      | exc x ρ' => exact s
      | bad => exact s
  have z := key xs.length ρ (Nat.le_refl _) (by rw [Nat.sub_self]; exact h)
  rwa [Nat.sub_self, List.drop_zero] at z
theorem whlL_run {c : Env → Out Bool} {body : Env → SO} (I : Nat → Env → Prop) (R : SO → Prop)
    (step : ∀ m ρ, I m ρ → match c ρ with
      | .ok true ρ1 => (match body ρ1 with
        | .nx ρ' => ∃ m', m' < m ∧ I m' ρ'
        | .cnt ρ' => ∃ m', m' < m ∧ I m' ρ'
        | .brk ρ' => R (.nx ρ')
        | o => R o)
      | .ok false ρ1 => R (.nx ρ1)
      | .exc x ρ1 => R (.exc x ρ1)
      | .bad => R .bad) : ∀ (m fuel : Nat) (ρ : Env), m < fuel → I m ρ → R (whlL c body fuel ρ) := by
  intro m
  induction m using Nat.strongRecOn with
  | _ m ih =>
    intro fuel ρ hf h
    cases fuel with
    | zero => omega
    | succ fuel =>
      have s := step m ρ h
      show R ((c ρ).st fun t ρ1 => match t with
        | true => (body ρ1).turn fun ρ2 => whlL c body fuel ρ2
        | false => .nx ρ1)
      cases e : c ρ with
      | ok t ρ1 =>
        rw [e] at s
        cases t with
        | true =>
          show R ((body ρ1).turn fun ρ2 => whlL c body fuel ρ2)
          have s : (match body ρ1 with
            | .nx ρ' => ∃ m', m' < m ∧ I m' ρ'
            | .cnt ρ' => ∃ m', m' < m ∧ I m' ρ'
            | .brk ρ' => R (.nx ρ')
            | o => R o) := s
          generalize body ρ1 = o at s ⊢
          cases o with
          | nx ρ' =>
            obtain ⟨m', h1, h2⟩ := s
            exact ih m' h1 fuel ρ' (by omega) h2
          | cnt ρ' =>
            obtain ⟨m', h1, h2⟩ := s
            exact ih m' h1 fuel ρ' (by omega) h2
          | brk ρ' => exact s
          | ret r ρ' => exact s
          | exc x ρ' => exact s
          | bad => exact s
        | false => exact s
      | exc x ρ1 =>
        rw [e] at s
        exact s
      | bad =>
        rw [e] at s
        exact s
theorem compL_eq {turn : PyData → Env → Out (Option PyData)} {g : PyData → Option PyData} {ρ : Env} : ∀ (xs acc : List PyData), (∀ x ∈ xs, turn x ρ = .ok (g x) ρ) → acc.length + xs.length ≤ Lm → compL turn xs acc ρ = .ok (acc ++ xs.filterMap g) ρ
  | [], acc, _, _ => by rw [List.filterMap_nil, List.append_nil]; rfl
  | x :: xs, acc, h, hl => by
    have e := h x List.mem_cons_self
    show ((turn x ρ).bind fun r ρ' => match r with
      | none => compL turn xs acc ρ'
      | some d => if acc.length < Lm then compL turn xs (acc ++ [d]) ρ' else .bad) = _
    rw [e]
    rw [List.length_cons] at hl
    cases eg : g x with
    | none =>
      rw [List.filterMap_cons_none eg]
      exact compL_eq xs acc (fun y hy => h y (List.mem_cons_of_mem _ hy)) (by omega)
    | some d =>
      rw [List.filterMap_cons_some eg]
      show (if acc.length < Lm then compL turn xs (acc ++ [d]) ρ else .bad) = _
      rw [if_pos (by omega), compL_eq xs (acc ++ [d]) (fun y hy => h y (List.mem_cons_of_mem _ hy)) (by rw [List.length_append]; simp only [List.length_cons, List.length_nil]; omega), List.append_assoc]
      rfl
section
variable {α β : Type} {W : Wd} {ρ : Env}
theorem bind_ok_ {a : α} {f : α → Env → Out β} : Out.bind (.ok a ρ) f = f a ρ := Eq.trans rfl rfl
theorem st_ok_ {a : α} {f : α → Env → SO} : Out.st (.ok a ρ) f = f a ρ := Eq.trans rfl rfl
theorem opd_v {d : PyData} : (Out.ok (.v d) ρ).opd = .ok (.v d) ρ := Eq.trans rfl rfl
theorem opd_s {i : Nat} : (Out.ok (.s i) ρ).opd = .ok (.s i) ρ := Eq.trans rfl rfl
theorem opd_o {xs : List PyData} : (Out.ok (.o (.lst xs)) ρ).opd = .ok (.v (.list xs)) ρ := Eq.trans rfl rfl
theorem seq_nx {f : Env → SO} : SO.seq (.nx ρ) f = f ρ := Eq.trans rfl rfl
theorem seq_ret {f : Env → SO} {r : R} : SO.seq (.ret r ρ) f = .ret r ρ := Eq.trans rfl rfl
theorem seq_brk {f : Env → SO} : SO.seq (.brk ρ) f = .brk ρ := Eq.trans rfl rfl
theorem seq_cnt {f : Env → SO} : SO.seq (.cnt ρ) f = .cnt ρ := Eq.trans rfl rfl
end
abbrev iL (l : List Int) : List PyData := l.map .int
theorem atI_ok {xs : List PyData} {i : Nat} {d : PyData} (h : xs[i]? = some d) : L2.atI xs (i : Int) = some d := by
  have hl := (List.getElem?_eq_some_iff.mp h).1
  unfold L2.atI L2.ixN
  rw [if_pos (by omega), if_pos (by omega)]
  exact h
theorem atI_at {xs : List PyData} {i : Int} {d : PyData} (h0 : 0 ≤ i) (h : xs[i.toNat]? = some d) : L2.atI xs i = some d := by
  have := atI_ok h
  rwa [Int.toNat_of_nonneg h0] at this
theorem atI_last {xs : List PyData} {d : PyData} (h : xs[xs.length - 1]? = some d) : L2.atI xs (-1) = some d := by
  have hl := (List.getElem?_eq_some_iff.mp h).1
  unfold L2.atI L2.ixN
  rw [if_neg (by omega), if_pos (by omega)]
  have e : ((-1 : Int) + xs.length).toNat = xs.length - 1 := by omega
  show xs[((-1 : Int) + xs.length).toNat]? = some d
  rw [e]
  exact h
theorem bools_map (l : List Bool) : bools (l.map .bool) = some l := by
  induction l with
  | nil => rfl
  | cons b l ih => show (bools (l.map .bool)).map (b :: ·) = _; rw [ih]; rfl
theorem intsD_map (l : List Int) : intsD (iL l) = some l := by
  induction l with
  | nil => rfl
  | cons b l ih => show (intsD (iL l)).map (b :: ·) = _; rw [ih]; rfl
theorem rng1L_get {n : Int} {i : Nat} {x : PyData} (h : (rng1L n)[i]? = some x) : x = .int i ∧ i < n.toNat := by
  unfold rng1L at h
  rw [List.getElem?_map] at h
  obtain ⟨k, h1, h2⟩ := Option.map_eq_some_iff.mp h
  obtain ⟨hl, h3⟩ := List.getElem?_eq_some_iff.mp h1
  rw [List.length_range] at hl
  rw [List.getElem_range] at h3
  subst h3
  exact ⟨h2.symm, hl⟩
theorem rng1L_len (n : Int) : (rng1L n).length = n.toNat := by
  unfold rng1L
  rw [List.length_map, List.length_range]
theorem nodup1 {i : Nat} : [i].Nodup := by simp
end Rc

set_option Elab.async false
set_option linter.all false
set_option maxRecDepth 100000
set_option maxHeartbeats 1000000
namespace Rc
open PySem
theorem e_int {W : Wd} {n : Int} {ρ : Env} : ev W (.int n) ρ = .ok (.v (.int n)) ρ := Eq.trans rfl rfl
theorem e_str {W : Wd} {n : Str} {ρ : Env} : ev W (.str n) ρ = .ok (.v (.str n)) ρ := Eq.trans rfl rfl
theorem e_bl {W : Wd} {n : Bool} {ρ : Env} : ev W (.bl n) ρ = .ok (.v (.bool n)) ρ := Eq.trans rfl rfl
theorem e_non {W : Wd} {ρ : Env} : ev W .non ρ = .ok (.v .none) ρ := Eq.trans rfl rfl
theorem e_glob {W : Wd} {g : Nat} {ρ : Env} : ev W (.glob g) ρ = .ok (.v (W.C g)) ρ := Eq.trans rfl rfl
def vr (s : Option Sl) (i : Nat) (ρ : Env) : Out R := match s with
  | some (.v d) => .ok (.v d) ρ
  | some (.o _) => .ok (.s i) ρ
  | _ => .bad
theorem vr_v {d : PyData} {i : Nat} {ρ : Env} : vr (some (.v d)) i ρ = .ok (.v d) ρ := Eq.trans rfl rfl
theorem vr_o {b : Ob} {i : Nat} {ρ : Env} : vr (some (.o b)) i ρ = .ok (.s i) ρ := Eq.trans rfl rfl
theorem e_var {W : Wd} {i : Nat} {ρ : Env} : ev W (.var i) ρ = vr ρ[i]? i ρ := Eq.trans rfl rfl
def kBin2 (op : Operator) (x : R) : R → Env → Out R := fun y ρ => match view ρ x, view ρ y with
  | some d, some e => optR ρ (binOp op d e)
  | _, _ => .bad
theorem kBin2_ap {op : Operator} {x : R} {y : R} {ρ : Env} : kBin2 op x y ρ = match view ρ x, view ρ y with
  | some d, some e => optR ρ (binOp op d e)
  | _, _ => .bad := Eq.trans rfl rfl
def kBin1 (W : Wd) (op : Operator) (b : Ex) : R → Env → Out R := fun x ρ => (ev W b ρ).opd.bind (kBin2 op x)
theorem kBin1_ap {W : Wd} {op : Operator} {b : Ex} {x : R} {ρ : Env} : kBin1 W op b x ρ = (ev W b ρ).opd.bind (kBin2 op x) := Eq.trans rfl rfl
theorem e_bin {W : Wd} {op : Operator} {a : Ex} {b : Ex} {ρ : Env} : ev W (.bin op a b) ρ = (ev W a ρ).opd.bind (kBin1 W op b) := Eq.trans rfl rfl
def kNeg  : R → Env → Out R := fun x ρ => match view ρ x with
  | some (.int i) => .ok (.v (.int (-i))) ρ
  | _ => .bad
theorem kNeg_ap {x : R} {ρ : Env} : kNeg  x ρ = match view ρ x with
  | some (.int i) => .ok (.v (.int (-i))) ρ
  | _ => .bad := Eq.trans rfl rfl
theorem e_neg {W : Wd} {a : Ex} {ρ : Env} : ev W (.neg a) ρ = (ev W a ρ).opd.bind kNeg := Eq.trans rfl rfl
def kNot  : R → Env → Out R := fun x ρ => match x with
  | .v (.bool b) => .ok (.v (.bool (!b))) ρ
  | _ => .bad
theorem kNot_ap {x : R} {ρ : Env} : kNot  x ρ = match x with
  | .v (.bool b) => .ok (.v (.bool (!b))) ρ
  | _ => .bad := Eq.trans rfl rfl
theorem e_nott {W : Wd} {a : Ex} {ρ : Env} : ev W (.nott a) ρ = (ev W a ρ).bind kNot := Eq.trans rfl rfl
def kAnd (W : Wd) (b : Ex) : R → Env → Out R := fun x ρ => match x with
  | .v (.bool true) => ev W b ρ
  | .v (.bool false) => .ok (.v (.bool false)) ρ
  | _ => .bad
theorem kAnd_ap {W : Wd} {b : Ex} {x : R} {ρ : Env} : kAnd W b x ρ = match x with
  | .v (.bool true) => ev W b ρ
  | .v (.bool false) => .ok (.v (.bool false)) ρ
  | _ => .bad := Eq.trans rfl rfl
theorem e_and {W : Wd} {a : Ex} {b : Ex} {ρ : Env} : ev W (.and a b) ρ = (ev W a ρ).bind (kAnd W b) := Eq.trans rfl rfl
def kOr (W : Wd) (b : Ex) : R → Env → Out R := fun x ρ => match x with
  | .v (.bool true) => .ok (.v (.bool true)) ρ
  | .v (.bool false) => ev W b ρ
  | _ => .bad
theorem kOr_ap {W : Wd} {b : Ex} {x : R} {ρ : Env} : kOr W b x ρ = match x with
  | .v (.bool true) => .ok (.v (.bool true)) ρ
  | .v (.bool false) => ev W b ρ
  | _ => .bad := Eq.trans rfl rfl
theorem e_or {W : Wd} {a : Ex} {b : Ex} {ρ : Env} : ev W (.or a b) ρ = (ev W a ρ).bind (kOr W b) := Eq.trans rfl rfl
def kCmp2 (op : CmpOp) (x : R) : R → Env → Out R := fun y ρ => match view ρ x, view ρ y with
  | some d, some e => optB ρ (cmpOp op d e)
  | _, _ => .bad
theorem kCmp2_ap {op : CmpOp} {x : R} {y : R} {ρ : Env} : kCmp2 op x y ρ = match view ρ x, view ρ y with
  | some d, some e => optB ρ (cmpOp op d e)
  | _, _ => .bad := Eq.trans rfl rfl
def kCmp1 (W : Wd) (op : CmpOp) (b : Ex) : R → Env → Out R := fun x ρ => (ev W b ρ).opd.bind (kCmp2 op x)
theorem kCmp1_ap {W : Wd} {op : CmpOp} {b : Ex} {x : R} {ρ : Env} : kCmp1 W op b x ρ = (ev W b ρ).opd.bind (kCmp2 op x) := Eq.trans rfl rfl
theorem e_cmp {W : Wd} {op : CmpOp} {a : Ex} {b : Ex} {ρ : Env} : ev W (.cmp op a b) ρ = (ev W a ρ).opd.bind (kCmp1 W op b) := Eq.trans rfl rfl
def kCh3 (op2 : CmpOp) (e : PyData) : R → Env → Out R := fun z ρ => match z with
  | .v f => optB ρ (cmpOp op2 e f)
  | _ => .bad
theorem kCh3_ap {op2 : CmpOp} {e : PyData} {z : R} {ρ : Env} : kCh3 op2 e z ρ = match z with
  | .v f => optB ρ (cmpOp op2 e f)
  | _ => .bad := Eq.trans rfl rfl
def kCh2 (W : Wd) (op : CmpOp) (op2 : CmpOp) (c : Ex) (x : R) : R → Env → Out R := fun y ρ => match x, y with
  | .v d, .v e => (match cmpOp op d e with
    | some true => (ev W c ρ).opd.bind (kCh3 op2 e)
    | some false => .ok (.v (.bool false)) ρ
    | none => .bad)
  | _, _ => .bad
theorem kCh2_ap {W : Wd} {op : CmpOp} {op2 : CmpOp} {c : Ex} {x : R} {y : R} {ρ : Env} : kCh2 W op op2 c x y ρ = match x, y with
  | .v d, .v e => (match cmpOp op d e with
    | some true => (ev W c ρ).opd.bind (kCh3 op2 e)
    | some false => .ok (.v (.bool false)) ρ
    | none => .bad)
  | _, _ => .bad := Eq.trans rfl rfl
def kCh1 (W : Wd) (op : CmpOp) (op2 : CmpOp) (b : Ex) (c : Ex) : R → Env → Out R := fun x ρ => (ev W b ρ).opd.bind (kCh2 W op op2 c x)
theorem kCh1_ap {W : Wd} {op : CmpOp} {op2 : CmpOp} {b : Ex} {c : Ex} {x : R} {ρ : Env} : kCh1 W op op2 b c x ρ = (ev W b ρ).opd.bind (kCh2 W op op2 c x) := Eq.trans rfl rfl
theorem e_cmp2 {W : Wd} {op : CmpOp} {op2 : CmpOp} {a : Ex} {b : Ex} {c : Ex} {ρ : Env} : ev W (.cmp2 op op2 a b c) ρ = (ev W a ρ).opd.bind (kCh1 W op op2 b c) := Eq.trans rfl rfl
def kIte (W : Wd) (a : Ex) (b : Ex) : Bool → Env → Out R := fun t ρ => match t with
  | true => ev W a ρ
  | false => ev W b ρ
theorem kIte_ap {W : Wd} {a : Ex} {b : Ex} {t : Bool} {ρ : Env} : kIte W a b t ρ = match t with
  | true => ev W a ρ
  | false => ev W b ρ := Eq.trans rfl rfl
theorem e_ite {W : Wd} {c : Ts} {a : Ex} {b : Ex} {ρ : Env} : ev W (.ite c a b) ρ = (evT W c ρ).bind (kIte W a b) := Eq.trans rfl rfl
def kTup  : List PyData → Env → Out R := fun ds ρ => .ok (.v (.tuple ds)) ρ
theorem kTup_ap {ds : List PyData} {ρ : Env} : kTup  ds ρ = .ok (.v (.tuple ds)) ρ := Eq.trans rfl rfl
theorem e_tup {W : Wd} {es : Exs} {ρ : Env} : ev W (.tup es) ρ = (evs W es ρ).bind kTup := Eq.trans rfl rfl
def kLst  : List PyData → Env → Out R := fun ds ρ => .ok (.o (.lst ds)) ρ
theorem kLst_ap {ds : List PyData} {ρ : Env} : kLst  ds ρ = .ok (.o (.lst ds)) ρ := Eq.trans rfl rfl
theorem e_lst {W : Wd} {es : Exs} {ρ : Env} : ev W (.lst es) ρ = (evs W es ρ).bind kLst := Eq.trans rfl rfl
def kSub2 (x : R) : R → Env → Out R := fun y ρ => match view ρ x, view ρ y with
  | some d, some e => optV ρ (subOp d e)
  | _, _ => .bad
theorem kSub2_ap {x : R} {y : R} {ρ : Env} : kSub2 x y ρ = match view ρ x, view ρ y with
  | some d, some e => optV ρ (subOp d e)
  | _, _ => .bad := Eq.trans rfl rfl
def kSub1 (W : Wd) (b : Ex) : R → Env → Out R := fun x ρ => (ev W b ρ).opd.bind (kSub2 x)
theorem kSub1_ap {W : Wd} {b : Ex} {x : R} {ρ : Env} : kSub1 W b x ρ = (ev W b ρ).opd.bind (kSub2 x) := Eq.trans rfl rfl
theorem e_sub {W : Wd} {a : Ex} {b : Ex} {ρ : Env} : ev W (.sub a b) ρ = (ev W a ρ).opd.bind (kSub1 W b) := Eq.trans rfl rfl
def kSlc3 (x : R) (y : R) : R → Env → Out R := fun z ρ => match view ρ x, y, z with
  | some d, .v (.int i), .v (.int j) => optR ρ (slcOp d (some i) (some j))
  | _, _, _ => .bad
theorem kSlc3_ap {x : R} {y : R} {z : R} {ρ : Env} : kSlc3 x y z ρ = match view ρ x, y, z with
  | some d, .v (.int i), .v (.int j) => optR ρ (slcOp d (some i) (some j))
  | _, _, _ => .bad := Eq.trans rfl rfl
def kSlc2 (W : Wd) (hi : Ex) (x : R) : R → Env → Out R := fun y ρ => (ev W hi ρ).opd.bind (kSlc3 x y)
theorem kSlc2_ap {W : Wd} {hi : Ex} {x : R} {y : R} {ρ : Env} : kSlc2 W hi x y ρ = (ev W hi ρ).opd.bind (kSlc3 x y) := Eq.trans rfl rfl
def kSlc1 (W : Wd) (lo : Ex) (hi : Ex) : R → Env → Out R := fun x ρ => (ev W lo ρ).opd.bind (kSlc2 W hi x)
theorem kSlc1_ap {W : Wd} {lo : Ex} {hi : Ex} {x : R} {ρ : Env} : kSlc1 W lo hi x ρ = (ev W lo ρ).opd.bind (kSlc2 W hi x) := Eq.trans rfl rfl
theorem e_slc {W : Wd} {a : Ex} {b : Ex} {c : Ex} {ρ : Env} : ev W (.slc a b c) ρ = (ev W a ρ).opd.bind (kSlc1 W b c) := Eq.trans rfl rfl
def kSlL2 (x : R) : R → Env → Out R := fun y ρ => match view ρ x, y with
  | some d, .v (.int i) => optR ρ (slcOp d (some i) none)
  | _, _ => .bad
theorem kSlL2_ap {x : R} {y : R} {ρ : Env} : kSlL2 x y ρ = match view ρ x, y with
  | some d, .v (.int i) => optR ρ (slcOp d (some i) none)
  | _, _ => .bad := Eq.trans rfl rfl
def kSlL1 (W : Wd) (b : Ex) : R → Env → Out R := fun x ρ => (ev W b ρ).opd.bind (kSlL2 x)
theorem kSlL1_ap {W : Wd} {b : Ex} {x : R} {ρ : Env} : kSlL1 W b x ρ = (ev W b ρ).opd.bind (kSlL2 x) := Eq.trans rfl rfl
theorem e_slcL {W : Wd} {a : Ex} {b : Ex} {ρ : Env} : ev W (.slcL a b) ρ = (ev W a ρ).opd.bind (kSlL1 W b) := Eq.trans rfl rfl
def kSlH2 (x : R) : R → Env → Out R := fun y ρ => match view ρ x, y with
  | some d, .v (.int i) => optR ρ (slcOp d none (some i))
  | _, _ => .bad
theorem kSlH2_ap {x : R} {y : R} {ρ : Env} : kSlH2 x y ρ = match view ρ x, y with
  | some d, .v (.int i) => optR ρ (slcOp d none (some i))
  | _, _ => .bad := Eq.trans rfl rfl
def kSlH1 (W : Wd) (b : Ex) : R → Env → Out R := fun x ρ => (ev W b ρ).opd.bind (kSlH2 x)
theorem kSlH1_ap {W : Wd} {b : Ex} {x : R} {ρ : Env} : kSlH1 W b x ρ = (ev W b ρ).opd.bind (kSlH2 x) := Eq.trans rfl rfl
theorem e_slcH {W : Wd} {a : Ex} {b : Ex} {ρ : Env} : ev W (.slcH a b) ρ = (ev W a ρ).opd.bind (kSlH1 W b) := Eq.trans rfl rfl
def kRev  : R → Env → Out R := fun x ρ => match view ρ x with
  | some d => optR ρ (revOp d)
  | _ => .bad
theorem kRev_ap {x : R} {ρ : Env} : kRev  x ρ = match view ρ x with
  | some d => optR ρ (revOp d)
  | _ => .bad := Eq.trans rfl rfl
theorem e_rev {W : Wd} {a : Ex} {ρ : Env} : ev W (.rev a) ρ = (ev W a ρ).opd.bind kRev := Eq.trans rfl rfl
def kCall (W : Wd) (f : Nat) : List CA → Env → Out R := fun cas ρ => callF (W.Γ f) cas ρ
theorem kCall_ap {W : Wd} {f : Nat} {cas : List CA} {ρ : Env} : kCall W f cas ρ = callF (W.Γ f) cas ρ := Eq.trans rfl rfl
theorem e_call {W : Wd} {f : Nat} {es : Exs} {ρ : Env} : ev W (.call f es) ρ = (evC W es (W.lm f) ρ).bind (kCall W f) := Eq.trans rfl rfl
def kBi (b : Bi) : List R → Env → Out R := fun rs ρ => match views ρ rs with
  | some ds => optR ρ (biOp b ds)
  | none => .bad
theorem kBi_ap {b : Bi} {rs : List R} {ρ : Env} : kBi b rs ρ = match views ρ rs with
  | some ds => optR ρ (biOp b ds)
  | none => .bad := Eq.trans rfl rfl
theorem e_bi {W : Wd} {b : Bi} {es : Exs} {ρ : Env} : ev W (.bi b es) ρ = (evR W es ρ).bind (kBi b) := Eq.trans rfl rfl
def kIsi (t : String) : R → Env → Out R := fun x ρ => match view ρ x with
  | some d => .ok (.v (.bool (isTy (tyOf d) t))) ρ
  | none => .bad
theorem kIsi_ap {t : String} {x : R} {ρ : Env} : kIsi t x ρ = match view ρ x with
  | some d => .ok (.v (.bool (isTy (tyOf d) t))) ρ
  | none => .bad := Eq.trans rfl rfl
theorem e_isi {W : Wd} {a : Ex} {t : String} {ρ : Env} : ev W (.isi a t) ρ = (ev W a ρ).opd.bind (kIsi t) := Eq.trans rfl rfl
def kMu (m : Mu) (i : Nat) : List PyData → Env → Out R := fun ds ρ => match ρ[i]? with
  | some (.o (.lst xs)) => (match muOp m xs ds with
    | some (d, ys) => .ok (.v d) (ρ.set i (.o (.lst ys)))
    | none => .bad)
  | _ => .bad
theorem kMu_ap {m : Mu} {i : Nat} {ds : List PyData} {ρ : Env} : kMu m i ds ρ = match ρ[i]? with
  | some (.o (.lst xs)) => (match muOp m xs ds with
    | some (d, ys) => .ok (.v d) (ρ.set i (.o (.lst ys)))
    | none => .bad)
  | _ => .bad := Eq.trans rfl rfl
theorem e_mu {W : Wd} {m : Mu} {i : Nat} {es : Exs} {ρ : Env} : ev W (.mu m i es) ρ = match ρ[i]? with
  | some (.o (.lst _)) => (evs W es ρ).bind (kMu m i)
  | _ => .bad := Eq.trans rfl rfl
def kPm2 (m : Pm) (d0 : PyData) (x : R) : List R → Env → Out R := fun rs ρ => match view ρ x, views ρ rs with
  | some d, some ds => if kd d0 = kd d then optR ρ (pmOp m d ds) else .bad
  | _, _ => .bad
theorem kPm2_ap {m : Pm} {d0 : PyData} {x : R} {rs : List R} {ρ : Env} : kPm2 m d0 x rs ρ = match view ρ x, views ρ rs with
  | some d, some ds => if kd d0 = kd d then optR ρ (pmOp m d ds) else .bad
  | _, _ => .bad := Eq.trans rfl rfl
def kPm1 (W : Wd) (m : Pm) (es : Exs) : R → Env → Out R := fun x ρ => match view ρ x with
  | some d0 => (evR W es ρ).bind (kPm2 m d0 x)
  | none => .bad
theorem kPm1_ap {W : Wd} {m : Pm} {es : Exs} {x : R} {ρ : Env} : kPm1 W m es x ρ = match view ρ x with
  | some d0 => (evR W es ρ).bind (kPm2 m d0 x)
  | none => .bad := Eq.trans rfl rfl
theorem e_pm {W : Wd} {m : Pm} {a : Ex} {es : Exs} {ρ : Env} : ev W (.pm m a es) ρ = (ev W a ρ).opd.bind (kPm1 W m es) := Eq.trans rfl rfl
def kTn3 (own : List Nat) : PyData → Env → Out (Option PyData) := fun d ρ => .ok (some d) (wipes ρ own)
theorem kTn3_ap {own : List Nat} {d : PyData} {ρ : Env} : kTn3 own d ρ = .ok (some d) (wipes ρ own) := Eq.trans rfl rfl
def kTn2 (own : List Nat) : R → Env → Out (Option PyData) := fun x ρ => (frz x ρ).bind (kTn3 own)
theorem kTn2_ap {own : List Nat} {x : R} {ρ : Env} : kTn2 own x ρ = (frz x ρ).bind (kTn3 own) := Eq.trans rfl rfl
def kTn1 (W : Wd) (elt : Ex) (own : List Nat) : Bool → Env → Out (Option PyData) := fun t ρ => match t with
  | false => .ok none (wipes ρ own)
  | true => (ev W elt ρ).bind (kTn2 own)
theorem kTn1_ap {W : Wd} {elt : Ex} {own : List Nat} {t : Bool} {ρ : Env} : kTn1 W elt own t ρ = match t with
  | false => .ok none (wipes ρ own)
  | true => (ev W elt ρ).bind (kTn2 own) := Eq.trans rfl rfl
def turnC (W : Wd) (elt : Ex) (tg : Tg) (ifs : Tss) (own : List Nat) : PyData → Env → Out (Option PyData) := fun x ρ => match setTg tg x ρ with
  | none => .bad
  | some ρ3 => (evF W ifs ρ3).bind (kTn1 W elt own)
theorem turnC_ap {W : Wd} {elt : Ex} {tg : Tg} {ifs : Tss} {own : List Nat} {x : PyData} {ρ : Env} : turnC W elt tg ifs own x ρ = match setTg tg x ρ with
  | none => .bad
  | some ρ3 => (evF W ifs ρ3).bind (kTn1 W elt own) := Eq.trans rfl rfl
def kCE (ρ1 : Env) (own : List Nat) : List PyData → Env → Out R := fun ds ρ => .ok (.o (.lst ds)) (unwipe ρ1 ρ own)
theorem kCE_ap {ρ1 : Env} {own : List Nat} {ds : List PyData} {ρ : Env} : kCE ρ1 own ds ρ = .ok (.o (.lst ds)) (unwipe ρ1 ρ own) := Eq.trans rfl rfl
def kComp (W : Wd) (elt : Ex) (tg : Tg) (ifs : Tss) (own : List Nat) : Src → Env → Out R := fun s ρ => match s with
  | .items xs => (compL (turnC W elt tg ifs own) xs [] (wipes ρ own)).bind (kCE ρ own)
  | .slot _ _ => .bad
theorem kComp_ap {W : Wd} {elt : Ex} {tg : Tg} {ifs : Tss} {own : List Nat} {s : Src} {ρ : Env} : kComp W elt tg ifs own s ρ = match s with
  | .items xs => (compL (turnC W elt tg ifs own) xs [] (wipes ρ own)).bind (kCE ρ own)
  | .slot _ _ => .bad := Eq.trans rfl rfl
theorem e_comp {W : Wd} {elt : Ex} {tg : Tg} {it : It} {ifs : Tss} {own : List Nat} {ρ : Env} : ev W (.comp elt tg it ifs own) ρ = (evI W it ρ).bind (kComp W elt tg ifs own) := Eq.trans rfl rfl
def kTNot  : Bool → Env → Out Bool := fun t ρ => .ok (!t) ρ
theorem kTNot_ap {t : Bool} {ρ : Env} : kTNot  t ρ = .ok (!t) ρ := Eq.trans rfl rfl
theorem t_nott {W : Wd} {a : Ts} {ρ : Env} : evT W (.nott a) ρ = (evT W a ρ).bind kTNot := Eq.trans rfl rfl
def kTAnd (W : Wd) (b : Ts) : Bool → Env → Out Bool := fun t ρ => match t with
  | true => evT W b ρ
  | false => .ok false ρ
theorem kTAnd_ap {W : Wd} {b : Ts} {t : Bool} {ρ : Env} : kTAnd W b t ρ = match t with
  | true => evT W b ρ
  | false => .ok false ρ := Eq.trans rfl rfl
theorem t_and {W : Wd} {a : Ts} {b : Ts} {ρ : Env} : evT W (.and a b) ρ = (evT W a ρ).bind (kTAnd W b) := Eq.trans rfl rfl
def kTOr (W : Wd) (b : Ts) : Bool → Env → Out Bool := fun t ρ => match t with
  | true => .ok true ρ
  | false => evT W b ρ
theorem kTOr_ap {W : Wd} {b : Ts} {t : Bool} {ρ : Env} : kTOr W b t ρ = match t with
  | true => .ok true ρ
  | false => evT W b ρ := Eq.trans rfl rfl
theorem t_or {W : Wd} {a : Ts} {b : Ts} {ρ : Env} : evT W (.or a b) ρ = (evT W a ρ).bind (kTOr W b) := Eq.trans rfl rfl
def kTVal  : R → Env → Out Bool := fun x ρ => match view ρ x with
  | some d => (match truth d with
    | some b => .ok b ρ
    | none => .bad)
  | none => .bad
theorem kTVal_ap {x : R} {ρ : Env} : kTVal  x ρ = match view ρ x with
  | some d => (match truth d with
    | some b => .ok b ρ
    | none => .bad)
  | none => .bad := Eq.trans rfl rfl
theorem t_val {W : Wd} {a : Ex} {ρ : Env} : evT W (.val a) ρ = (ev W a ρ).bind kTVal := Eq.trans rfl rfl
theorem s_nil {W : Wd} {ρ : Env} : evs W .nil ρ = .ok [] ρ := Eq.trans rfl rfl
def kS3 (d : PyData) : List PyData → Env → Out (List PyData) := fun ds ρ => .ok (d :: ds) ρ
theorem kS3_ap {d : PyData} {ds : List PyData} {ρ : Env} : kS3 d ds ρ = .ok (d :: ds) ρ := Eq.trans rfl rfl
def kS2 (W : Wd) (es : Exs) : PyData → Env → Out (List PyData) := fun d ρ => (evs W es ρ).bind (kS3 d)
theorem kS2_ap {W : Wd} {es : Exs} {d : PyData} {ρ : Env} : kS2 W es d ρ = (evs W es ρ).bind (kS3 d) := Eq.trans rfl rfl
def kS1 (W : Wd) (es : Exs) : R → Env → Out (List PyData) := fun x ρ => (frz x ρ).bind (kS2 W es)
theorem kS1_ap {W : Wd} {es : Exs} {x : R} {ρ : Env} : kS1 W es x ρ = (frz x ρ).bind (kS2 W es) := Eq.trans rfl rfl
theorem s_cons {W : Wd} {a : Ex} {es : Exs} {ρ : Env} : evs W (.cons a es) ρ = (ev W a ρ).bind (kS1 W es) := Eq.trans rfl rfl
theorem r_nil {W : Wd} {ρ : Env} : evR W .nil ρ = .ok [] ρ := Eq.trans rfl rfl
def kRr2 (r : R) : List R → Env → Out (List R) := fun rs ρ => .ok (r :: rs) ρ
theorem kRr2_ap {r : R} {rs : List R} {ρ : Env} : kRr2 r rs ρ = .ok (r :: rs) ρ := Eq.trans rfl rfl
def kRr1 (W : Wd) (es : Exs) : R → Env → Out (List R) := fun x ρ => (evR W es ρ).bind (kRr2 x)
theorem kRr1_ap {W : Wd} {es : Exs} {x : R} {ρ : Env} : kRr1 W es x ρ = (evR W es ρ).bind (kRr2 x) := Eq.trans rfl rfl
theorem r_cons {W : Wd} {a : Ex} {es : Exs} {ρ : Env} : evR W (.cons a es) ρ = (ev W a ρ).opd.bind (kRr1 W es) := Eq.trans rfl rfl
theorem c_nil {W : Wd} {m : List Bool} {ρ : Env} : evC W .nil m ρ = .ok [] ρ := Eq.trans rfl rfl
def kCa (c : CA) : List CA → Env → Out (List CA) := fun cs ρ => .ok (c :: cs) ρ
theorem kCa_ap {c : CA} {cs : List CA} {ρ : Env} : kCa c cs ρ = .ok (c :: cs) ρ := Eq.trans rfl rfl
def kC2 (W : Wd) (es : Exs) (m : List Bool) : PyData → Env → Out (List CA) := fun d ρ => (evC W es m ρ).bind (kCa (.v d))
theorem kC2_ap {W : Wd} {es : Exs} {m : List Bool} {d : PyData} {ρ : Env} : kC2 W es m d ρ = (evC W es m ρ).bind (kCa (.v d)) := Eq.trans rfl rfl
def kC1f (W : Wd) (es : Exs) (m : List Bool) : R → Env → Out (List CA) := fun x ρ => (frz x ρ).bind (kC2 W es m)
theorem kC1f_ap {W : Wd} {es : Exs} {m : List Bool} {x : R} {ρ : Env} : kC1f W es m x ρ = (frz x ρ).bind (kC2 W es m) := Eq.trans rfl rfl
def kC1t (W : Wd) (es : Exs) (m : List Bool) : R → Env → Out (List CA) := fun x ρ => match x with
  | .s i => (evC W es m ρ).bind (kCa (.s i))
  | .o b => (evC W es m ρ).bind (kCa (.o b))
  | .v d => (evC W es m ρ).bind (kCa (.v d))
theorem kC1t_ap {W : Wd} {es : Exs} {m : List Bool} {x : R} {ρ : Env} : kC1t W es m x ρ = match x with
  | .s i => (evC W es m ρ).bind (kCa (.s i))
  | .o b => (evC W es m ρ).bind (kCa (.o b))
  | .v d => (evC W es m ρ).bind (kCa (.v d)) := Eq.trans rfl rfl
theorem c_f {W : Wd} {a : Ex} {es : Exs} {m : List Bool} {ρ : Env} : evC W (.cons a es) (false :: m) ρ = (ev W a ρ).bind (kC1f W es m) := Eq.trans rfl rfl
theorem c_t {W : Wd} {a : Ex} {es : Exs} {m : List Bool} {ρ : Env} : evC W (.cons a es) (true :: m) ρ = (ev W a ρ).bind (kC1t W es m) := Eq.trans rfl rfl
theorem f_nil {W : Wd} {ρ : Env} : evF W .nil ρ = .ok true ρ := Eq.trans rfl rfl
def kF (W : Wd) (es : Tss) : Bool → Env → Out Bool := fun t ρ => match t with
  | true => evF W es ρ
  | false => .ok false ρ
theorem kF_ap {W : Wd} {es : Tss} {t : Bool} {ρ : Env} : kF W es t ρ = match t with
  | true => evF W es ρ
  | false => .ok false ρ := Eq.trans rfl rfl
theorem f_cons {W : Wd} {a : Ts} {es : Tss} {ρ : Env} : evF W (.cons a es) ρ = (evT W a ρ).bind (kF W es) := Eq.trans rfl rfl
def kI2  : PyData → Env → Out Src := fun d ρ => match seqOf d with
  | some xs => .ok (.items xs) ρ
  | none => .bad
theorem kI2_ap {d : PyData} {ρ : Env} : kI2  d ρ = match seqOf d with
  | some xs => .ok (.items xs) ρ
  | none => .bad := Eq.trans rfl rfl
def kI1  : R → Env → Out Src := fun x ρ => (frz x ρ).bind kI2
theorem kI1_ap {x : R} {ρ : Env} : kI1  x ρ = (frz x ρ).bind kI2 := Eq.trans rfl rfl
theorem i_seq {W : Wd} {a : Ex} {ρ : Env} : evI W (.seq a) ρ = (ev W a ρ).bind kI1 := Eq.trans rfl rfl
def kEn2  : PyData → Env → Out Src := fun d ρ => match d with
  | .list xs => .ok (.items (numd 0 xs)) ρ
  | .tuple xs => .ok (.items (numd 0 xs)) ρ
  | _ => .bad
theorem kEn2_ap {d : PyData} {ρ : Env} : kEn2  d ρ = match d with
  | .list xs => .ok (.items (numd 0 xs)) ρ
  | .tuple xs => .ok (.items (numd 0 xs)) ρ
  | _ => .bad := Eq.trans rfl rfl
def kEn1  : R → Env → Out Src := fun x ρ => (frz x ρ).bind kEn2
theorem kEn1_ap {x : R} {ρ : Env} : kEn1  x ρ = (frz x ρ).bind kEn2 := Eq.trans rfl rfl
theorem i_enum {W : Wd} {a : Ex} {ρ : Env} : evI W (.enumS a) ρ = (ev W a ρ).bind kEn1 := Eq.trans rfl rfl
def kG1  : R → Env → Out Src := fun x ρ => match x with
  | .v (.int n) => if small62 n then .ok (.items (rng1L n)) ρ else .bad
  | _ => .bad
theorem kG1_ap {x : R} {ρ : Env} : kG1  x ρ = match x with
  | .v (.int n) => if small62 n then .ok (.items (rng1L n)) ρ else .bad
  | _ => .bad := Eq.trans rfl rfl
theorem i_rng1 {W : Wd} {a : Ex} {ρ : Env} : evI W (.rng1 a) ρ = (ev W a ρ).opd.bind kG1 := Eq.trans rfl rfl
def kG2b (x : R) : R → Env → Out Src := fun y ρ => match x, y with
  | .v (.int i), .v (.int j) => if small62 i && small62 j then .ok (.items (rng i (j - i).toNat 1)) ρ else .bad
  | _, _ => .bad
theorem kG2b_ap {x : R} {y : R} {ρ : Env} : kG2b x y ρ = match x, y with
  | .v (.int i), .v (.int j) => if small62 i && small62 j then .ok (.items (rng i (j - i).toNat 1)) ρ else .bad
  | _, _ => .bad := Eq.trans rfl rfl
def kG2a (W : Wd) (b : Ex) : R → Env → Out Src := fun x ρ => (ev W b ρ).opd.bind (kG2b x)
theorem kG2a_ap {W : Wd} {b : Ex} {x : R} {ρ : Env} : kG2a W b x ρ = (ev W b ρ).opd.bind (kG2b x) := Eq.trans rfl rfl
theorem i_rng2 {W : Wd} {a : Ex} {b : Ex} {ρ : Env} : evI W (.rng2 a b) ρ = (ev W a ρ).opd.bind (kG2a W b) := Eq.trans rfl rfl
theorem st_v {i : Nat} {d : PyData} {ρ : Env} : store i (.v d) ρ = .nx (ρ.set i (.v d)) := Eq.trans rfl rfl
theorem st_o {i : Nat} {b : Ob} {ρ : Env} : store i (.o b) ρ = .nx (ρ.set i (.o b)) := Eq.trans rfl rfl
def kSt (i : Nat) : PyData → Env → SO := fun d ρ => .nx (ρ.set i (.v d))
theorem kSt_ap {i : Nat} {d : PyData} {ρ : Env} : kSt i d ρ = .nx (ρ.set i (.v d)) := Eq.trans rfl rfl
theorem st_s {i : Nat} {j : Nat} {ρ : Env} : store i (.s j) ρ = (frz (.s j) ρ).st (kSt i) := Eq.trans rfl rfl
theorem x_nm {fuel : Nat} {W : Wd} {i : Nat} {a : Ex} {ρ : Env} : ex fuel W (.asg (.nm i) a) ρ = (ev W a ρ).st (store i) := Eq.trans rfl rfl
def kA2 (tg : Tg) : PyData → Env → SO := fun d ρ => match setTg tg d ρ with
  | some ρ3 => .nx ρ3
  | none => .bad
theorem kA2_ap {tg : Tg} {d : PyData} {ρ : Env} : kA2 tg d ρ = match setTg tg d ρ with
  | some ρ3 => .nx ρ3
  | none => .bad := Eq.trans rfl rfl
def kA1 (tg : Tg) : R → Env → SO := fun x ρ => (frz x ρ).st (kA2 tg)
theorem kA1_ap {tg : Tg} {x : R} {ρ : Env} : kA1 tg x ρ = (frz x ρ).st (kA2 tg) := Eq.trans rfl rfl
theorem x_tp {fuel : Nat} {W : Wd} {is : List Nat} {a : Ex} {ρ : Env} : ex fuel W (.asg (.tp is) a) ρ = (ev W a ρ).st (kA1 (.tp is)) := Eq.trans rfl rfl
def kPar (is : List Nat) : List CA → Env → SO := fun cas ρ => match setCA ρ is cas with
  | some ρ2 => .nx ρ2
  | none => .bad
theorem kPar_ap {is : List Nat} {cas : List CA} {ρ : Env} : kPar is cas ρ = match setCA ρ is cas with
  | some ρ2 => .nx ρ2
  | none => .bad := Eq.trans rfl rfl
theorem x_par {fuel : Nat} {W : Wd} {is : List Nat} {m : List Bool} {es : Exs} {ρ : Env} : ex fuel W (.par is m es) ρ = (evC W es m ρ).st (kPar is) := Eq.trans rfl rfl
def kExp  : R → Env → SO := fun x ρ => .nx ρ
theorem kExp_ap {x : R} {ρ : Env} : kExp  x ρ = .nx ρ := Eq.trans rfl rfl
theorem x_exp {fuel : Nat} {W : Wd} {a : Ex} {ρ : Env} : ex fuel W (.exp a) ρ = (ev W a ρ).st kExp := Eq.trans rfl rfl
def kIf (fuel : Nat) (W : Wd) (t : Sts) (f : Sts) : Bool → Env → SO := fun b ρ => match b with
  | true => exs fuel W t ρ
  | false => exs fuel W f ρ
theorem kIf_ap {fuel : Nat} {W : Wd} {t : Sts} {f : Sts} {b : Bool} {ρ : Env} : kIf fuel W t f b ρ = match b with
  | true => exs fuel W t ρ
  | false => exs fuel W f ρ := Eq.trans rfl rfl
theorem x_ife {fuel : Nat} {W : Wd} {c : Ts} {t : Sts} {f : Sts} {ρ : Env} : ex fuel W (.ife c t f) ρ = (evT W c ρ).st (kIf fuel W t f) := Eq.trans rfl rfl
def turnF (fuel : Nat) (W : Wd) (tg : Tg) (b : Sts) : PyData → Env → SO := fun x ρ => match setTg tg x ρ with
  | some ρ3 => exs fuel W b ρ3
  | none => .bad
theorem turnF_ap {fuel : Nat} {W : Wd} {tg : Tg} {b : Sts} {x : PyData} {ρ : Env} : turnF fuel W tg b x ρ = match setTg tg x ρ with
  | some ρ3 => exs fuel W b ρ3
  | none => .bad := Eq.trans rfl rfl
def kFor (fuel : Nat) (W : Wd) (tg : Tg) (b : Sts) : Src → Env → SO := fun s ρ => match s with
  | .items xs => forL (turnF fuel W tg b) xs ρ
  | .slot i num => forR i num (turnF fuel W tg b) fuel 0 ρ
theorem kFor_ap {fuel : Nat} {W : Wd} {tg : Tg} {b : Sts} {s : Src} {ρ : Env} : kFor fuel W tg b s ρ = match s with
  | .items xs => forL (turnF fuel W tg b) xs ρ
  | .slot i num => forR i num (turnF fuel W tg b) fuel 0 ρ := Eq.trans rfl rfl
theorem x_for {fuel : Nat} {W : Wd} {tg : Tg} {it : It} {b : Sts} {ρ : Env} : ex fuel W (.for_ tg it b) ρ = (evI W it ρ).st (kFor fuel W tg b) := Eq.trans rfl rfl
theorem x_whl {fuel : Nat} {W : Wd} {c : Ts} {b : Sts} {ρ : Env} : ex fuel W (.whl c b) ρ = whlL (evT W c) (exs fuel W b) fuel ρ := Eq.trans rfl rfl
def kRet  : R → Env → SO := fun x ρ => .ret x ρ
theorem kRet_ap {x : R} {ρ : Env} : kRet  x ρ = .ret x ρ := Eq.trans rfl rfl
theorem x_ret {fuel : Nat} {W : Wd} {a : Ex} {ρ : Env} : ex fuel W (.ret a) ρ = (ev W a ρ).st kRet := Eq.trans rfl rfl
theorem x_retN {fuel : Nat} {W : Wd} {ρ : Env} : ex fuel W .retN ρ = .ret (.v .none) ρ := Eq.trans rfl rfl
theorem x_brk {fuel : Nat} {W : Wd} {ρ : Env} : ex fuel W .brk ρ = .brk ρ := Eq.trans rfl rfl
theorem x_cnt {fuel : Nat} {W : Wd} {ρ : Env} : ex fuel W .cnt ρ = .cnt ρ := Eq.trans rfl rfl
theorem x_pass {fuel : Nat} {W : Wd} {ρ : Env} : ex fuel W .pass ρ = .nx ρ := Eq.trans rfl rfl
theorem xs_nil {fuel : Nat} {W : Wd} {ρ : Env} : exs fuel W .nil ρ = .nx ρ := Eq.trans rfl rfl
theorem xs_cons {fuel : Nat} {W : Wd} {s : St} {r : Sts} {ρ : Env} : exs fuel W (.cons s r) ρ = (ex fuel W s ρ).seq (exs fuel W r) := Eq.trans rfl rfl
theorem fo_nx {m : List Bool} {ρ : Env} : SO.fo m (.nx ρ) = fin m (.v .none) ρ := Eq.trans rfl rfl
theorem fo_ret {m : List Bool} {r : R} {ρ : Env} : SO.fo m (.ret r ρ) = fin m r ρ := Eq.trans rfl rfl
end Rc

set_option Elab.async false
set_option linter.all false
set_option maxRecDepth 100000
set_option maxHeartbeats 4000000
namespace Rc
open PySem
/-- number 0 -/
def f_law_cell : Fn := ⟨[false, false], 2, (.cons (.ife (.val (.cmp .Lt (.var 1) (.bi .len (.cons (.var 0) .nil)))) (.cons (.ret (.bi .int_ (.cons (.sub (.var 0) (.var 1)) .nil)))
        .nil) .nil)
    (.cons (.ret (.bin .Add (.bin .Add (.bin .Mult (.int 31) (.var 1)) (.bin .Mult (.int 7) (.bi .len (.cons (.var 0) .nil)))) (.int 3)))
    .nil))⟩
theorem m_law_cell : f_law_cell.mask = [false, false] := Eq.trans rfl rfl
/-- number 1 -/
def f_law_pool : Fn := ⟨[false, false, false], 7, (.cons (.asg (.nm 3) (.bi .abs (.cons (.call 0 (.cons (.var 0) (.cons (.var 1) .nil))) .nil)))
    (.cons (.asg (.nm 4) (.lst .nil))
    (.cons (.ife (.val (.cmp .GtE (.var 3) (.bin .Pow (.int 10) (.int 18)))) (.cons (.for_ (.nm 6) (.rng1 (.var 2)) (.cons (.ife (.val (.cmp .Gt (.var 3) (.int 0))) (.cons (.exp (.mu .append 4 (.cons (.bin .Mod (.bi .int_ (.cons (.var 3) .nil)) (.int 997)) .nil)))
                (.cons (.asg (.nm 3) (.bin .FloorDiv (.var 3) (.int 997)))
                .nil)) .nil)
            .nil))
        .nil) .nil)
    (.cons (.asg (.nm 5) (.bin .Mod (.bi .int_ (.cons (.bin .Add (.bin .Add (.bin .Add (.bin .Mult (.var 3) (.int 69621)) (.bin .Mult (.int 1009) (.var 1))) (.bin .Mult (.int 17) (.bi .len (.cons (.var 4) .nil)))) (.int 5)) .nil)) (.int 2147483647)))
    (.cons (.asg (.nm 5) (.bin .Mod (.bi .int_ (.cons (.bin .Add (.bin .Mult (.var 5) (.int 16807)) (.int 13)) .nil)) (.int 2147483647)))
    (.cons (.for_ (.nm 6) (.rng1 (.bin .Sub (.var 2) (.bi .len (.cons (.var 4) .nil)))) (.cons (.asg (.nm 5) (.bin .Mod (.bi .int_ (.cons (.bin .Add (.bin .Add (.bin .Mult (.var 5) (.int 48271)) (.int 12345)) (.bin .Mult (.int 7) (.var 6))) .nil)) (.int 2147483647)))
        (.cons (.exp (.mu .append 4 (.cons (.bin .Mod (.bi .int_ (.cons (.bin .FloorDiv (.var 5) (.int 11)) .nil)) (.int 997)) .nil)))
        .nil)))
    (.cons (.ret (.rev (.var 4)))
    .nil)))))))⟩
theorem m_law_pool : f_law_pool.mask = [false, false, false] := Eq.trans rfl rfl
/-- number 2 -/
def f_law_take : Fn := ⟨[true, false], 2, (.cons (.ife (.or (.val (.cmp .LtE (.var 1) (.int 1))) (.val (.cmp .Eq (.bi .len (.cons (.var 0) .nil)) (.int 0)))) (.cons (.ret (.int 0))
        .nil) .nil)
    (.cons (.ret (.bin .Mod (.bi .int_ (.cons (.mu .pop 0 .nil) .nil)) (.var 1)))
    .nil))⟩
theorem m_law_take : f_law_take.mask = [true, false] := Eq.trans rfl rfl
theorem iL_get {cs : List Int} {i : Nat} {y : Int} (h : cs[i]? = some y) : (iL cs)[i]? = some (.int y) := by
  rw [List.getElem?_map, h]
  rfl
theorem small_nat {n : Nat} (h : n < 1000000) : small62 (n : Int) = true := within_iff.mpr (by omega)
theorem cmul_r {i j : Int} (h : within 18446744073709551615 j = true) : cmul i j = true := by
  unfold cmul
  rw [h]
  rfl
theorem cmul_l {i j : Int} (h : within 18446744073709551615 i = true) : cmul i j = true := by
  unfold cmul
  rw [h, Bool.or_true]
theorem cell_run (fuel : Nat) (W : Wd) (ns : List Int) (i : Nat) : ∃ n, runFn fuel W f_law_cell [.v (.list (iL ns)), .v (.int i)] = .v (.int n) [] := by
  unfold f_law_cell runFn
  have c1 : cmul 31 (i : Int) = true := cmul_l rfl
  have c2 : cmul 7 (((iL ns).length : Nat) : Int) = true := cmul_l rfl
  simp only [e_int, e_str, e_bl, e_non, e_glob, vr_v, vr_o, e_var, kBin2_ap, kBin1_ap, e_bin, kNeg_ap, e_neg, kNot_ap, e_nott, kAnd_ap, e_and, kOr_ap, e_or, kCmp2_ap, kCmp1_ap, e_cmp, kCh3_ap, kCh2_ap, kCh1_ap, e_cmp2, kIte_ap, e_ite, kTup_ap, e_tup, kLst_ap, e_lst, kSub2_ap, kSub1_ap, e_sub, kSlc3_ap, kSlc2_ap, kSlc1_ap, e_slc, kSlL2_ap, kSlL1_ap, e_slcL, kSlH2_ap, kSlH1_ap, e_slcH, kRev_ap, e_rev, kCall_ap, e_call, kBi_ap, e_bi, kIsi_ap, e_isi, kMu_ap, e_mu, kPm2_ap, kPm1_ap, e_pm, kTn3_ap, kTn2_ap, kTn1_ap, kCE_ap, kComp_ap, e_comp, kTNot_ap, t_nott, kTAnd_ap, t_and, kTOr_ap, t_or, kTVal_ap, t_val, s_nil, kS3_ap, kS2_ap, kS1_ap, s_cons, r_nil, kRr2_ap, kRr1_ap, r_cons, c_nil, kCa_ap, kC2_ap, kC1f_ap, kC1t_ap, c_f, c_t, f_nil, kF_ap, f_cons, kI2_ap, kI1_ap, i_seq, kEn2_ap, kEn1_ap, i_enum, kG1_ap, i_rng1, kG2b_ap, kG2a_ap, i_rng2, st_v, st_o, kSt_ap, st_s, x_nm, kA2_ap, kA1_ap, x_tp, kPar_ap, x_par, kExp_ap, x_exp, kIf_ap, x_ife, kFor_ap, x_for, x_whl, kRet_ap, x_ret, x_retN, x_brk, x_cnt, x_pass, xs_nil, xs_cons, fo_nx, fo_ret, bind_ok_, st_ok_, opd_v, opd_s, opd_o, seq_nx, seq_ret, seq_brk, seq_cnt, optR, optV, optB, view, views, fin, lent, isO, setTg, setAll, setCA, pmOp, strsOf, kd, wipes, unwipe, frz, binOp, cmpOp, biOp, muOp, subOp, truth, seqOf, eqD, isNone, callF, lend, slots, back, isLent, List.map_cons, List.map_nil, List.length_cons, List.length_nil, List.cons_append, List.nil_append, List.replicate, Nat.reduceAdd, Nat.reduceSub, List.getElem?_cons_zero, List.getElem?_cons_succ, List.set_cons_zero, List.set_cons_succ, List.getD_cons_zero, List.getD_cons_succ, if_true, if_false, reduceIte, Option.map_some, Option.map_none, List.filterMap_nil, List.filterMap_cons, List.nodup_nil, id_eq, Bool.false_eq_true, nodup1, Wk_Γ, Wk_C, cmpOp]
  by_cases h : i < ns.length
  · have hl : ltI (i : Int) ((iL ns).length : Int) = true := by rw [ltI_eq, List.length_map]; exact decide_eq_true (by omega)
    have hg : L2.atI (iL ns) (i : Int) = some (.int ns[i]) := atI_ok (iL_get (List.getElem?_eq_getElem h))
    simp only [e_int, e_str, e_bl, e_non, e_glob, vr_v, vr_o, e_var, kBin2_ap, kBin1_ap, e_bin, kNeg_ap, e_neg, kNot_ap, e_nott, kAnd_ap, e_and, kOr_ap, e_or, kCmp2_ap, kCmp1_ap, e_cmp, kCh3_ap, kCh2_ap, kCh1_ap, e_cmp2, kIte_ap, e_ite, kTup_ap, e_tup, kLst_ap, e_lst, kSub2_ap, kSub1_ap, e_sub, kSlc3_ap, kSlc2_ap, kSlc1_ap, e_slc, kSlL2_ap, kSlL1_ap, e_slcL, kSlH2_ap, kSlH1_ap, e_slcH, kRev_ap, e_rev, kCall_ap, e_call, kBi_ap, e_bi, kIsi_ap, e_isi, kMu_ap, e_mu, kPm2_ap, kPm1_ap, e_pm, kTn3_ap, kTn2_ap, kTn1_ap, kCE_ap, kComp_ap, e_comp, kTNot_ap, t_nott, kTAnd_ap, t_and, kTOr_ap, t_or, kTVal_ap, t_val, s_nil, kS3_ap, kS2_ap, kS1_ap, s_cons, r_nil, kRr2_ap, kRr1_ap, r_cons, c_nil, kCa_ap, kC2_ap, kC1f_ap, kC1t_ap, c_f, c_t, f_nil, kF_ap, f_cons, kI2_ap, kI1_ap, i_seq, kEn2_ap, kEn1_ap, i_enum, kG1_ap, i_rng1, kG2b_ap, kG2a_ap, i_rng2, st_v, st_o, kSt_ap, st_s, x_nm, kA2_ap, kA1_ap, x_tp, kPar_ap, x_par, kExp_ap, x_exp, kIf_ap, x_ife, kFor_ap, x_for, x_whl, kRet_ap, x_ret, x_retN, x_brk, x_cnt, x_pass, xs_nil, xs_cons, fo_nx, fo_ret, bind_ok_, st_ok_, opd_v, opd_s, opd_o, seq_nx, seq_ret, seq_brk, seq_cnt, optR, optV, optB, view, views, fin, lent, isO, setTg, setAll, setCA, pmOp, strsOf, kd, wipes, unwipe, frz, binOp, cmpOp, biOp, muOp, subOp, truth, seqOf, eqD, isNone, callF, lend, slots, back, isLent, List.map_cons, List.map_nil, List.length_cons, List.length_nil, List.cons_append, List.nil_append, List.replicate, Nat.reduceAdd, Nat.reduceSub, List.getElem?_cons_zero, List.getElem?_cons_succ, List.set_cons_zero, List.set_cons_succ, List.getD_cons_zero, List.getD_cons_succ, if_true, if_false, reduceIte, Option.map_some, Option.map_none, List.filterMap_nil, List.filterMap_cons, List.nodup_nil, id_eq, Bool.false_eq_true, nodup1, Wk_Γ, Wk_C, hl, hg]
    exact ⟨_, rfl⟩
  · have hl : ltI (i : Int) ((iL ns).length : Int) = false := by rw [ltI_eq, List.length_map]; exact decide_eq_false (by omega)
    simp only [e_int, e_str, e_bl, e_non, e_glob, vr_v, vr_o, e_var, kBin2_ap, kBin1_ap, e_bin, kNeg_ap, e_neg, kNot_ap, e_nott, kAnd_ap, e_and, kOr_ap, e_or, kCmp2_ap, kCmp1_ap, e_cmp, kCh3_ap, kCh2_ap, kCh1_ap, e_cmp2, kIte_ap, e_ite, kTup_ap, e_tup, kLst_ap, e_lst, kSub2_ap, kSub1_ap, e_sub, kSlc3_ap, kSlc2_ap, kSlc1_ap, e_slc, kSlL2_ap, kSlL1_ap, e_slcL, kSlH2_ap, kSlH1_ap, e_slcH, kRev_ap, e_rev, kCall_ap, e_call, kBi_ap, e_bi, kIsi_ap, e_isi, kMu_ap, e_mu, kPm2_ap, kPm1_ap, e_pm, kTn3_ap, kTn2_ap, kTn1_ap, kCE_ap, kComp_ap, e_comp, kTNot_ap, t_nott, kTAnd_ap, t_and, kTOr_ap, t_or, kTVal_ap, t_val, s_nil, kS3_ap, kS2_ap, kS1_ap, s_cons, r_nil, kRr2_ap, kRr1_ap, r_cons, c_nil, kCa_ap, kC2_ap, kC1f_ap, kC1t_ap, c_f, c_t, f_nil, kF_ap, f_cons, kI2_ap, kI1_ap, i_seq, kEn2_ap, kEn1_ap, i_enum, kG1_ap, i_rng1, kG2b_ap, kG2a_ap, i_rng2, st_v, st_o, kSt_ap, st_s, x_nm, kA2_ap, kA1_ap, x_tp, kPar_ap, x_par, kExp_ap, x_exp, kIf_ap, x_ife, kFor_ap, x_for, x_whl, kRet_ap, x_ret, x_retN, x_brk, x_cnt, x_pass, xs_nil, xs_cons, fo_nx, fo_ret, bind_ok_, st_ok_, opd_v, opd_s, opd_o, seq_nx, seq_ret, seq_brk, seq_cnt, optR, optV, optB, view, views, fin, lent, isO, setTg, setAll, setCA, pmOp, strsOf, kd, wipes, unwipe, frz, binOp, cmpOp, biOp, muOp, subOp, truth, seqOf, eqD, isNone, callF, lend, slots, back, isLent, List.map_cons, List.map_nil, List.length_cons, List.length_nil, List.cons_append, List.nil_append, List.replicate, Nat.reduceAdd, Nat.reduceSub, List.getElem?_cons_zero, List.getElem?_cons_succ, List.set_cons_zero, List.set_cons_succ, List.getD_cons_zero, List.getD_cons_succ, if_true, if_false, reduceIte, Option.map_some, Option.map_none, List.filterMap_nil, List.filterMap_cons, List.nodup_nil, id_eq, Bool.false_eq_true, nodup1, Wk_Γ, Wk_C, hl, c1, c2]
    exact ⟨_, rfl⟩
theorem iL_snoc (p : List Int) (x : Int) : iL p ++ [.int x] = iL (p ++ [x]) := by simp [iL]
/-- what is taken of a pool, and what is left of it -/
def tkR (p : List Int) (m : Int) : Int := if m ≤ 1 then 0 else match p.reverse with
  | [] => 0
  | x :: _ => x % m
def tkP (p : List Int) (m : Int) : List Int := if m ≤ 1 then p else p.dropLast
theorem tk_nn (p : List Int) (m : Int) : 0 ≤ tkR p m := by
  unfold tkR
  split
  · omega
  · split
    · omega
    · exact Int.emod_nonneg _ (by omega)
theorem tk_lt (p : List Int) {m : Int} (h : 0 < m) : tkR p m < m := by
  unfold tkR
  split
  · omega
  · split
    · omega
    · exact Int.emod_lt_of_pos _ (by omega)
theorem tk_le (p : List Int) (m : Int) : tkR p m = 0 ∨ tkR p m < m := by
  by_cases h : 0 < m
  · exact .inr (tk_lt p h)
  · unfold tkR
    rw [if_pos (by omega)]
    exact .inl rfl
/-- .. as a natural number -/
def tkN (p : List Int) (m : Int) : Nat := (tkR p m).toNat
theorem tk_N (p : List Int) (m : Int) : tkR p m = (tkN p m : Int) := (Int.toNat_of_nonneg (tk_nn p m)).symm
theorem tkN_lt (p : List Int) {m : Nat} (h : 0 < m) : tkN p (m : Int) < m := by
  have h1 := tk_lt p (m := (m : Int)) (by omega)
  rw [tk_N] at h1
  omega
theorem take_run (fuel : Nat) (W : Wd) (p : List Int) (m : Int) : runFn fuel W f_law_take [.o (.lst (iL p)), .v (.int m)] = .v (.int (tkR p m)) [.lst (iL (tkP p m))] := by
  unfold f_law_take runFn tkR tkP
  simp only [e_int, e_str, e_bl, e_non, e_glob, vr_v, vr_o, e_var, kBin2_ap, kBin1_ap, e_bin, kNeg_ap, e_neg, kNot_ap, e_nott, kAnd_ap, e_and, kOr_ap, e_or, kCmp2_ap, kCmp1_ap, e_cmp, kCh3_ap, kCh2_ap, kCh1_ap, e_cmp2, kIte_ap, e_ite, kTup_ap, e_tup, kLst_ap, e_lst, kSub2_ap, kSub1_ap, e_sub, kSlc3_ap, kSlc2_ap, kSlc1_ap, e_slc, kSlL2_ap, kSlL1_ap, e_slcL, kSlH2_ap, kSlH1_ap, e_slcH, kRev_ap, e_rev, kCall_ap, e_call, kBi_ap, e_bi, kIsi_ap, e_isi, kMu_ap, e_mu, kPm2_ap, kPm1_ap, e_pm, kTn3_ap, kTn2_ap, kTn1_ap, kCE_ap, kComp_ap, e_comp, kTNot_ap, t_nott, kTAnd_ap, t_and, kTOr_ap, t_or, kTVal_ap, t_val, s_nil, kS3_ap, kS2_ap, kS1_ap, s_cons, r_nil, kRr2_ap, kRr1_ap, r_cons, c_nil, kCa_ap, kC2_ap, kC1f_ap, kC1t_ap, c_f, c_t, f_nil, kF_ap, f_cons, kI2_ap, kI1_ap, i_seq, kEn2_ap, kEn1_ap, i_enum, kG1_ap, i_rng1, kG2b_ap, kG2a_ap, i_rng2, st_v, st_o, kSt_ap, st_s, x_nm, kA2_ap, kA1_ap, x_tp, kPar_ap, x_par, kExp_ap, x_exp, kIf_ap, x_ife, kFor_ap, x_for, x_whl, kRet_ap, x_ret, x_retN, x_brk, x_cnt, x_pass, xs_nil, xs_cons, fo_nx, fo_ret, bind_ok_, st_ok_, opd_v, opd_s, opd_o, seq_nx, seq_ret, seq_brk, seq_cnt, optR, optV, optB, view, views, fin, lent, isO, setTg, setAll, setCA, pmOp, strsOf, kd, wipes, unwipe, frz, binOp, cmpOp, biOp, muOp, subOp, truth, seqOf, eqD, isNone, callF, lend, slots, back, isLent, List.map_cons, List.map_nil, List.length_cons, List.length_nil, List.cons_append, List.nil_append, List.replicate, Nat.reduceAdd, Nat.reduceSub, List.getElem?_cons_zero, List.getElem?_cons_succ, List.set_cons_zero, List.set_cons_succ, List.getD_cons_zero, List.getD_cons_succ, if_true, if_false, reduceIte, Option.map_some, Option.map_none, List.filterMap_nil, List.filterMap_cons, List.nodup_nil, id_eq, Bool.false_eq_true, nodup1, Wk_Γ, Wk_C, cmpOp]
  by_cases h : m ≤ 1
  · have hl : leI m 1 = true := by rw [leI_eq]; exact decide_eq_true h
    simp only [e_int, e_str, e_bl, e_non, e_glob, vr_v, vr_o, e_var, kBin2_ap, kBin1_ap, e_bin, kNeg_ap, e_neg, kNot_ap, e_nott, kAnd_ap, e_and, kOr_ap, e_or, kCmp2_ap, kCmp1_ap, e_cmp, kCh3_ap, kCh2_ap, kCh1_ap, e_cmp2, kIte_ap, e_ite, kTup_ap, e_tup, kLst_ap, e_lst, kSub2_ap, kSub1_ap, e_sub, kSlc3_ap, kSlc2_ap, kSlc1_ap, e_slc, kSlL2_ap, kSlL1_ap, e_slcL, kSlH2_ap, kSlH1_ap, e_slcH, kRev_ap, e_rev, kCall_ap, e_call, kBi_ap, e_bi, kIsi_ap, e_isi, kMu_ap, e_mu, kPm2_ap, kPm1_ap, e_pm, kTn3_ap, kTn2_ap, kTn1_ap, kCE_ap, kComp_ap, e_comp, kTNot_ap, t_nott, kTAnd_ap, t_and, kTOr_ap, t_or, kTVal_ap, t_val, s_nil, kS3_ap, kS2_ap, kS1_ap, s_cons, r_nil, kRr2_ap, kRr1_ap, r_cons, c_nil, kCa_ap, kC2_ap, kC1f_ap, kC1t_ap, c_f, c_t, f_nil, kF_ap, f_cons, kI2_ap, kI1_ap, i_seq, kEn2_ap, kEn1_ap, i_enum, kG1_ap, i_rng1, kG2b_ap, kG2a_ap, i_rng2, st_v, st_o, kSt_ap, st_s, x_nm, kA2_ap, kA1_ap, x_tp, kPar_ap, x_par, kExp_ap, x_exp, kIf_ap, x_ife, kFor_ap, x_for, x_whl, kRet_ap, x_ret, x_retN, x_brk, x_cnt, x_pass, xs_nil, xs_cons, fo_nx, fo_ret, bind_ok_, st_ok_, opd_v, opd_s, opd_o, seq_nx, seq_ret, seq_brk, seq_cnt, optR, optV, optB, view, views, fin, lent, isO, setTg, setAll, setCA, pmOp, strsOf, kd, wipes, unwipe, frz, binOp, cmpOp, biOp, muOp, subOp, truth, seqOf, eqD, isNone, callF, lend, slots, back, isLent, List.map_cons, List.map_nil, List.length_cons, List.length_nil, List.cons_append, List.nil_append, List.replicate, Nat.reduceAdd, Nat.reduceSub, List.getElem?_cons_zero, List.getElem?_cons_succ, List.set_cons_zero, List.set_cons_succ, List.getD_cons_zero, List.getD_cons_succ, if_true, if_false, reduceIte, Option.map_some, Option.map_none, List.filterMap_nil, List.filterMap_cons, List.nodup_nil, id_eq, Bool.false_eq_true, nodup1, Wk_Γ, Wk_C, hl, h]
  · have hl : leI m 1 = false := by rw [leI_eq]; exact decide_eq_false h
    have hm : ltI 0 m = true := by rw [ltI_eq]; exact decide_eq_true (by omega)
    cases hp : p.reverse with
    | nil =>
      have e : p = [] := List.reverse_eq_nil_iff.mp hp
      subst e
      simp only [e_int, e_str, e_bl, e_non, e_glob, vr_v, vr_o, e_var, kBin2_ap, kBin1_ap, e_bin, kNeg_ap, e_neg, kNot_ap, e_nott, kAnd_ap, e_and, kOr_ap, e_or, kCmp2_ap, kCmp1_ap, e_cmp, kCh3_ap, kCh2_ap, kCh1_ap, e_cmp2, kIte_ap, e_ite, kTup_ap, e_tup, kLst_ap, e_lst, kSub2_ap, kSub1_ap, e_sub, kSlc3_ap, kSlc2_ap, kSlc1_ap, e_slc, kSlL2_ap, kSlL1_ap, e_slcL, kSlH2_ap, kSlH1_ap, e_slcH, kRev_ap, e_rev, kCall_ap, e_call, kBi_ap, e_bi, kIsi_ap, e_isi, kMu_ap, e_mu, kPm2_ap, kPm1_ap, e_pm, kTn3_ap, kTn2_ap, kTn1_ap, kCE_ap, kComp_ap, e_comp, kTNot_ap, t_nott, kTAnd_ap, t_and, kTOr_ap, t_or, kTVal_ap, t_val, s_nil, kS3_ap, kS2_ap, kS1_ap, s_cons, r_nil, kRr2_ap, kRr1_ap, r_cons, c_nil, kCa_ap, kC2_ap, kC1f_ap, kC1t_ap, c_f, c_t, f_nil, kF_ap, f_cons, kI2_ap, kI1_ap, i_seq, kEn2_ap, kEn1_ap, i_enum, kG1_ap, i_rng1, kG2b_ap, kG2a_ap, i_rng2, st_v, st_o, kSt_ap, st_s, x_nm, kA2_ap, kA1_ap, x_tp, kPar_ap, x_par, kExp_ap, x_exp, kIf_ap, x_ife, kFor_ap, x_for, x_whl, kRet_ap, x_ret, x_retN, x_brk, x_cnt, x_pass, xs_nil, xs_cons, fo_nx, fo_ret, bind_ok_, st_ok_, opd_v, opd_s, opd_o, seq_nx, seq_ret, seq_brk, seq_cnt, optR, optV, optB, view, views, fin, lent, isO, setTg, setAll, setCA, pmOp, strsOf, kd, wipes, unwipe, frz, binOp, cmpOp, biOp, muOp, subOp, truth, seqOf, eqD, isNone, callF, lend, slots, back, isLent, List.map_cons, List.map_nil, List.length_cons, List.length_nil, List.cons_append, List.nil_append, List.replicate, Nat.reduceAdd, Nat.reduceSub, List.getElem?_cons_zero, List.getElem?_cons_succ, List.set_cons_zero, List.set_cons_succ, List.getD_cons_zero, List.getD_cons_succ, if_true, if_false, reduceIte, Option.map_some, Option.map_none, List.filterMap_nil, List.filterMap_cons, List.nodup_nil, id_eq, Bool.false_eq_true, nodup1, Wk_Γ, Wk_C, hl, h, List.dropLast_nil]
      rfl
    | cons x r =>
      have e : p = r.reverse ++ [x] := by rw [← List.reverse_reverse p, hp, List.reverse_cons]
      subst e
      have h0 : decide ((((iL (r.reverse ++ [x])).length : Nat) : Int) = 0) = false := decide_eq_false (by rw [List.length_map, List.length_append]; simp only [List.length_cons, List.length_nil]; omega)
      have h1 : (iL (r.reverse ++ [x]))[(iL (r.reverse ++ [x])).length - 1]? = some (.int x) := by
        rw [← iL_snoc, List.length_append]
        simp
      have h2 : (iL (r.reverse ++ [x])).dropLast = iL r.reverse := by
        rw [← iL_snoc]
        simp
      simp only [e_int, e_str, e_bl, e_non, e_glob, vr_v, vr_o, e_var, kBin2_ap, kBin1_ap, e_bin, kNeg_ap, e_neg, kNot_ap, e_nott, kAnd_ap, e_and, kOr_ap, e_or, kCmp2_ap, kCmp1_ap, e_cmp, kCh3_ap, kCh2_ap, kCh1_ap, e_cmp2, kIte_ap, e_ite, kTup_ap, e_tup, kLst_ap, e_lst, kSub2_ap, kSub1_ap, e_sub, kSlc3_ap, kSlc2_ap, kSlc1_ap, e_slc, kSlL2_ap, kSlL1_ap, e_slcL, kSlH2_ap, kSlH1_ap, e_slcH, kRev_ap, e_rev, kCall_ap, e_call, kBi_ap, e_bi, kIsi_ap, e_isi, kMu_ap, e_mu, kPm2_ap, kPm1_ap, e_pm, kTn3_ap, kTn2_ap, kTn1_ap, kCE_ap, kComp_ap, e_comp, kTNot_ap, t_nott, kTAnd_ap, t_and, kTOr_ap, t_or, kTVal_ap, t_val, s_nil, kS3_ap, kS2_ap, kS1_ap, s_cons, r_nil, kRr2_ap, kRr1_ap, r_cons, c_nil, kCa_ap, kC2_ap, kC1f_ap, kC1t_ap, c_f, c_t, f_nil, kF_ap, f_cons, kI2_ap, kI1_ap, i_seq, kEn2_ap, kEn1_ap, i_enum, kG1_ap, i_rng1, kG2b_ap, kG2a_ap, i_rng2, st_v, st_o, kSt_ap, st_s, x_nm, kA2_ap, kA1_ap, x_tp, kPar_ap, x_par, kExp_ap, x_exp, kIf_ap, x_ife, kFor_ap, x_for, x_whl, kRet_ap, x_ret, x_retN, x_brk, x_cnt, x_pass, xs_nil, xs_cons, fo_nx, fo_ret, bind_ok_, st_ok_, opd_v, opd_s, opd_o, seq_nx, seq_ret, seq_brk, seq_cnt, optR, optV, optB, view, views, fin, lent, isO, setTg, setAll, setCA, pmOp, strsOf, kd, wipes, unwipe, frz, binOp, cmpOp, biOp, muOp, subOp, truth, seqOf, eqD, isNone, callF, lend, slots, back, isLent, List.map_cons, List.map_nil, List.length_cons, List.length_nil, List.cons_append, List.nil_append, List.replicate, Nat.reduceAdd, Nat.reduceSub, List.getElem?_cons_zero, List.getElem?_cons_succ, List.set_cons_zero, List.set_cons_succ, List.getD_cons_zero, List.getD_cons_succ, if_true, if_false, reduceIte, Option.map_some, Option.map_none, List.filterMap_nil, List.filterMap_cons, List.nodup_nil, id_eq, Bool.false_eq_true, nodup1, Wk_Γ, Wk_C, hl, h0, h1, h2, hm, h, List.dropLast_concat]
theorem pool_run (fuel : Nat) (W : Wd) (hl : W.lm 0 = [false, false]) (ns : List Int) (i many : Nat) (hm : many < 1000000) (hc : ∃ n, W.Γ 0 [.v (.list (iL ns)), .v (.int i)] = .v (.int n) []) : ∃ p, runFn fuel W f_law_pool [.v (.list (iL ns)), .v (.int i), .v (.int many)] = .o (.lst (iL p)) [] := by
  unfold f_law_pool runFn
  obtain ⟨n, hn⟩ := hc
  have hp : cpow 10 18 = true := rfl
  have h62 : small62 (many : Int) = true := small_nat hm
  simp only [e_int, e_str, e_bl, e_non, e_glob, vr_v, vr_o, e_var, kBin2_ap, kBin1_ap, e_bin, kNeg_ap, e_neg, kNot_ap, e_nott, kAnd_ap, e_and, kOr_ap, e_or, kCmp2_ap, kCmp1_ap, e_cmp, kCh3_ap, kCh2_ap, kCh1_ap, e_cmp2, kIte_ap, e_ite, kTup_ap, e_tup, kLst_ap, e_lst, kSub2_ap, kSub1_ap, e_sub, kSlc3_ap, kSlc2_ap, kSlc1_ap, e_slc, kSlL2_ap, kSlL1_ap, e_slcL, kSlH2_ap, kSlH1_ap, e_slcH, kRev_ap, e_rev, kCall_ap, e_call, kBi_ap, e_bi, kIsi_ap, e_isi, kMu_ap, e_mu, kPm2_ap, kPm1_ap, e_pm, kTn3_ap, kTn2_ap, kTn1_ap, kCE_ap, kComp_ap, e_comp, kTNot_ap, t_nott, kTAnd_ap, t_and, kTOr_ap, t_or, kTVal_ap, t_val, s_nil, kS3_ap, kS2_ap, kS1_ap, s_cons, r_nil, kRr2_ap, kRr1_ap, r_cons, c_nil, kCa_ap, kC2_ap, kC1f_ap, kC1t_ap, c_f, c_t, f_nil, kF_ap, f_cons, kI2_ap, kI1_ap, i_seq, kEn2_ap, kEn1_ap, i_enum, kG1_ap, i_rng1, kG2b_ap, kG2a_ap, i_rng2, st_v, st_o, kSt_ap, st_s, x_nm, kA2_ap, kA1_ap, x_tp, kPar_ap, x_par, kExp_ap, x_exp, kIf_ap, x_ife, kFor_ap, x_for, x_whl, kRet_ap, x_ret, x_retN, x_brk, x_cnt, x_pass, xs_nil, xs_cons, fo_nx, fo_ret, bind_ok_, st_ok_, opd_v, opd_s, opd_o, seq_nx, seq_ret, seq_brk, seq_cnt, optR, optV, optB, view, views, fin, lent, isO, setTg, setAll, setCA, pmOp, strsOf, kd, wipes, unwipe, frz, binOp, cmpOp, biOp, muOp, subOp, truth, seqOf, eqD, isNone, callF, lend, slots, back, isLent, List.map_cons, List.map_nil, List.length_cons, List.length_nil, List.cons_append, List.nil_append, List.replicate, Nat.reduceAdd, Nat.reduceSub, List.getElem?_cons_zero, List.getElem?_cons_succ, List.set_cons_zero, List.set_cons_succ, List.getD_cons_zero, List.getD_cons_succ, if_true, if_false, reduceIte, Option.map_some, Option.map_none, List.filterMap_nil, List.filterMap_cons, List.nodup_nil, id_eq, Bool.false_eq_true, nodup1, Wk_Γ, Wk_C, hl, hn, cmpOp, hp]
  have m997 : ltI 0 997 = true := rfl
  have m21 : ltI 0 2147483647 = true := rfl
  have d11 : (ltI 0 11 && within 1073741823 11) = true := rfl
  have d997 : (ltI 0 997 && within 1073741823 997) = true := rfl
  -- behind the first part
  have rest : ∀ (number : Int) (row : List Int) (a b : Sl), row.length ≤ many → ∃ p, SO.fo [false, false, false] (exs fuel W (match f_law_pool.body with
      | .cons _ (.cons _ (.cons _ r)) => r
      | _ => .nil) [.v (.list (iL ns)), .v (.int i), .v (.int many), .v (.int number), .o (.lst (iL row)), a, b]) = .o (.lst (iL p)) [] := by
    intro number row a b hr
    have c1 : cmul number 69621 = true := cmul_r rfl
    have c2 : cmul 1009 (i : Int) = true := cmul_l rfl
    have c3 : cmul 17 (((iL row).length : Nat) : Int) = true := cmul_l rfl
    have c4 : ∀ j : Int, cmul j 16807 = true := fun j => cmul_r rfl
    have c5 : ∀ j : Int, cmul j 48271 = true := fun j => cmul_r rfl
    have c6 : ∀ j : Int, cmul 7 j = true := fun j => cmul_l rfl
    have s1 : small62 ((many : Int) - (((iL row).length : Nat) : Int)) = true := within_iff.mpr (by rw [List.length_map]; omega)
    unfold f_law_pool
    simp only [e_int, e_str, e_bl, e_non, e_glob, vr_v, vr_o, e_var, kBin2_ap, kBin1_ap, e_bin, kNeg_ap, e_neg, kNot_ap, e_nott, kAnd_ap, e_and, kOr_ap, e_or, kCmp2_ap, kCmp1_ap, e_cmp, kCh3_ap, kCh2_ap, kCh1_ap, e_cmp2, kIte_ap, e_ite, kTup_ap, e_tup, kLst_ap, e_lst, kSub2_ap, kSub1_ap, e_sub, kSlc3_ap, kSlc2_ap, kSlc1_ap, e_slc, kSlL2_ap, kSlL1_ap, e_slcL, kSlH2_ap, kSlH1_ap, e_slcH, kRev_ap, e_rev, kCall_ap, e_call, kBi_ap, e_bi, kIsi_ap, e_isi, kMu_ap, e_mu, kPm2_ap, kPm1_ap, e_pm, kTn3_ap, kTn2_ap, kTn1_ap, kCE_ap, kComp_ap, e_comp, kTNot_ap, t_nott, kTAnd_ap, t_and, kTOr_ap, t_or, kTVal_ap, t_val, s_nil, kS3_ap, kS2_ap, kS1_ap, s_cons, r_nil, kRr2_ap, kRr1_ap, r_cons, c_nil, kCa_ap, kC2_ap, kC1f_ap, kC1t_ap, c_f, c_t, f_nil, kF_ap, f_cons, kI2_ap, kI1_ap, i_seq, kEn2_ap, kEn1_ap, i_enum, kG1_ap, i_rng1, kG2b_ap, kG2a_ap, i_rng2, st_v, st_o, kSt_ap, st_s, x_nm, kA2_ap, kA1_ap, x_tp, kPar_ap, x_par, kExp_ap, x_exp, kIf_ap, x_ife, kFor_ap, x_for, x_whl, kRet_ap, x_ret, x_retN, x_brk, x_cnt, x_pass, xs_nil, xs_cons, fo_nx, fo_ret, bind_ok_, st_ok_, opd_v, opd_s, opd_o, seq_nx, seq_ret, seq_brk, seq_cnt, optR, optV, optB, view, views, fin, lent, isO, setTg, setAll, setCA, pmOp, strsOf, kd, wipes, unwipe, frz, binOp, cmpOp, biOp, muOp, subOp, truth, seqOf, eqD, isNone, callF, lend, slots, back, isLent, List.map_cons, List.map_nil, List.length_cons, List.length_nil, List.cons_append, List.nil_append, List.replicate, Nat.reduceAdd, Nat.reduceSub, List.getElem?_cons_zero, List.getElem?_cons_succ, List.set_cons_zero, List.set_cons_succ, List.getD_cons_zero, List.getD_cons_succ, if_true, if_false, reduceIte, Option.map_some, Option.map_none, List.filterMap_nil, List.filterMap_cons, List.nodup_nil, id_eq, Bool.false_eq_true, nodup1, Wk_Γ, Wk_C, c1, c2, c3, c4, m21, s1]
    refine forL_run (I := fun j ρ => ∃ st row2 b, ρ = [.v (.list (iL ns)), .v (.int i), .v (.int many), .v (.int number), .o (.lst (iL row2)), .v (.int st), b] ∧ row2.length = row.length + j) (R := fun o => ∃ p, SO.fo [false, false, false] (o.seq _) = .o (.lst (iL p)) []) ?_ ?_ ⟨_, _, _, rfl, rfl⟩
    · rintro j x ρ hx ⟨st, row2, b, rfl, hl⟩
      obtain ⟨rfl, hj⟩ := rng1L_get hx
      have hL : (iL row2).length < Lm := by
        rw [List.length_map] at hj ⊢
        exact Nat.lt_of_lt_of_le (show row2.length < 2000000 by omega) (by decide)
      simp only [turnF_ap, e_int, e_str, e_bl, e_non, e_glob, vr_v, vr_o, e_var, kBin2_ap, kBin1_ap, e_bin, kNeg_ap, e_neg, kNot_ap, e_nott, kAnd_ap, e_and, kOr_ap, e_or, kCmp2_ap, kCmp1_ap, e_cmp, kCh3_ap, kCh2_ap, kCh1_ap, e_cmp2, kIte_ap, e_ite, kTup_ap, e_tup, kLst_ap, e_lst, kSub2_ap, kSub1_ap, e_sub, kSlc3_ap, kSlc2_ap, kSlc1_ap, e_slc, kSlL2_ap, kSlL1_ap, e_slcL, kSlH2_ap, kSlH1_ap, e_slcH, kRev_ap, e_rev, kCall_ap, e_call, kBi_ap, e_bi, kIsi_ap, e_isi, kMu_ap, e_mu, kPm2_ap, kPm1_ap, e_pm, kTn3_ap, kTn2_ap, kTn1_ap, kCE_ap, kComp_ap, e_comp, kTNot_ap, t_nott, kTAnd_ap, t_and, kTOr_ap, t_or, kTVal_ap, t_val, s_nil, kS3_ap, kS2_ap, kS1_ap, s_cons, r_nil, kRr2_ap, kRr1_ap, r_cons, c_nil, kCa_ap, kC2_ap, kC1f_ap, kC1t_ap, c_f, c_t, f_nil, kF_ap, f_cons, kI2_ap, kI1_ap, i_seq, kEn2_ap, kEn1_ap, i_enum, kG1_ap, i_rng1, kG2b_ap, kG2a_ap, i_rng2, st_v, st_o, kSt_ap, st_s, x_nm, kA2_ap, kA1_ap, x_tp, kPar_ap, x_par, kExp_ap, x_exp, kIf_ap, x_ife, kFor_ap, x_for, x_whl, kRet_ap, x_ret, x_retN, x_brk, x_cnt, x_pass, xs_nil, xs_cons, fo_nx, fo_ret, bind_ok_, st_ok_, opd_v, opd_s, opd_o, seq_nx, seq_ret, seq_brk, seq_cnt, optR, optV, optB, view, views, fin, lent, isO, setTg, setAll, setCA, pmOp, strsOf, kd, wipes, unwipe, frz, binOp, cmpOp, biOp, muOp, subOp, truth, seqOf, eqD, isNone, callF, lend, slots, back, isLent, List.map_cons, List.map_nil, List.length_cons, List.length_nil, List.cons_append, List.nil_append, List.replicate, Nat.reduceAdd, Nat.reduceSub, List.getElem?_cons_zero, List.getElem?_cons_succ, List.set_cons_zero, List.set_cons_succ, List.getD_cons_zero, List.getD_cons_succ, if_true, if_false, reduceIte, Option.map_some, Option.map_none, List.filterMap_nil, List.filterMap_cons, List.nodup_nil, id_eq, Bool.false_eq_true, nodup1, Wk_Γ, Wk_C, c5, c6, m21, d11, m997, hL, iL_snoc]
      exact ⟨_, _, _, rfl, by rw [List.length_append]; simp only [List.length_cons, List.length_nil]; omega⟩
    · rintro ρ ⟨st, row2, b, rfl, hl⟩
      simp only [e_int, e_str, e_bl, e_non, e_glob, vr_v, vr_o, e_var, kBin2_ap, kBin1_ap, e_bin, kNeg_ap, e_neg, kNot_ap, e_nott, kAnd_ap, e_and, kOr_ap, e_or, kCmp2_ap, kCmp1_ap, e_cmp, kCh3_ap, kCh2_ap, kCh1_ap, e_cmp2, kIte_ap, e_ite, kTup_ap, e_tup, kLst_ap, e_lst, kSub2_ap, kSub1_ap, e_sub, kSlc3_ap, kSlc2_ap, kSlc1_ap, e_slc, kSlL2_ap, kSlL1_ap, e_slcL, kSlH2_ap, kSlH1_ap, e_slcH, kRev_ap, e_rev, kCall_ap, e_call, kBi_ap, e_bi, kIsi_ap, e_isi, kMu_ap, e_mu, kPm2_ap, kPm1_ap, e_pm, kTn3_ap, kTn2_ap, kTn1_ap, kCE_ap, kComp_ap, e_comp, kTNot_ap, t_nott, kTAnd_ap, t_and, kTOr_ap, t_or, kTVal_ap, t_val, s_nil, kS3_ap, kS2_ap, kS1_ap, s_cons, r_nil, kRr2_ap, kRr1_ap, r_cons, c_nil, kCa_ap, kC2_ap, kC1f_ap, kC1t_ap, c_f, c_t, f_nil, kF_ap, f_cons, kI2_ap, kI1_ap, i_seq, kEn2_ap, kEn1_ap, i_enum, kG1_ap, i_rng1, kG2b_ap, kG2a_ap, i_rng2, st_v, st_o, kSt_ap, st_s, x_nm, kA2_ap, kA1_ap, x_tp, kPar_ap, x_par, kExp_ap, x_exp, kIf_ap, x_ife, kFor_ap, x_for, x_whl, kRet_ap, x_ret, x_retN, x_brk, x_cnt, x_pass, xs_nil, xs_cons, fo_nx, fo_ret, bind_ok_, st_ok_, opd_v, opd_s, opd_o, seq_nx, seq_ret, seq_brk, seq_cnt, optR, optV, optB, view, views, fin, lent, isO, setTg, setAll, setCA, pmOp, strsOf, kd, wipes, unwipe, frz, binOp, cmpOp, biOp, muOp, subOp, truth, seqOf, eqD, isNone, callF, lend, slots, back, isLent, List.map_cons, List.map_nil, List.length_cons, List.length_nil, List.cons_append, List.nil_append, List.replicate, Nat.reduceAdd, Nat.reduceSub, List.getElem?_cons_zero, List.getElem?_cons_succ, List.set_cons_zero, List.set_cons_succ, List.getD_cons_zero, List.getD_cons_succ, if_true, if_false, reduceIte, Option.map_some, Option.map_none, List.filterMap_nil, List.filterMap_cons, List.nodup_nil, id_eq, Bool.false_eq_true, nodup1, Wk_Γ, Wk_C, revOp, ← List.map_reverse]
      exact ⟨_, rfl⟩
  cases hb : leI (10 ^ (18 : Int).toNat) (n.natAbs : Int) with
  | false =>
    obtain ⟨p, h⟩ := rest n.natAbs [] .un .un (Nat.zero_le _)
    refine ⟨p, ?_⟩
    unfold f_law_pool at h
    simp only [e_int, e_str, e_bl, e_non, e_glob, vr_v, vr_o, e_var, kBin2_ap, kBin1_ap, e_bin, kNeg_ap, e_neg, kNot_ap, e_nott, kAnd_ap, e_and, kOr_ap, e_or, kCmp2_ap, kCmp1_ap, e_cmp, kCh3_ap, kCh2_ap, kCh1_ap, e_cmp2, kIte_ap, e_ite, kTup_ap, e_tup, kLst_ap, e_lst, kSub2_ap, kSub1_ap, e_sub, kSlc3_ap, kSlc2_ap, kSlc1_ap, e_slc, kSlL2_ap, kSlL1_ap, e_slcL, kSlH2_ap, kSlH1_ap, e_slcH, kRev_ap, e_rev, kCall_ap, e_call, kBi_ap, e_bi, kIsi_ap, e_isi, kMu_ap, e_mu, kPm2_ap, kPm1_ap, e_pm, kTn3_ap, kTn2_ap, kTn1_ap, kCE_ap, kComp_ap, e_comp, kTNot_ap, t_nott, kTAnd_ap, t_and, kTOr_ap, t_or, kTVal_ap, t_val, s_nil, kS3_ap, kS2_ap, kS1_ap, s_cons, r_nil, kRr2_ap, kRr1_ap, r_cons, c_nil, kCa_ap, kC2_ap, kC1f_ap, kC1t_ap, c_f, c_t, f_nil, kF_ap, f_cons, kI2_ap, kI1_ap, i_seq, kEn2_ap, kEn1_ap, i_enum, kG1_ap, i_rng1, kG2b_ap, kG2a_ap, i_rng2, st_v, st_o, kSt_ap, st_s, x_nm, kA2_ap, kA1_ap, x_tp, kPar_ap, x_par, kExp_ap, x_exp, kIf_ap, x_ife, kFor_ap, x_for, x_whl, kRet_ap, x_ret, x_retN, x_brk, x_cnt, x_pass, xs_nil, xs_cons, fo_nx, fo_ret, bind_ok_, st_ok_, opd_v, opd_s, opd_o, seq_nx, seq_ret, seq_brk, seq_cnt, optR, optV, optB, view, views, fin, lent, isO, setTg, setAll, setCA, pmOp, strsOf, kd, wipes, unwipe, frz, binOp, cmpOp, biOp, muOp, subOp, truth, seqOf, eqD, isNone, callF, lend, slots, back, isLent, List.map_cons, List.map_nil, List.length_cons, List.length_nil, List.cons_append, List.nil_append, List.replicate, Nat.reduceAdd, Nat.reduceSub, List.getElem?_cons_zero, List.getElem?_cons_succ, List.set_cons_zero, List.set_cons_succ, List.getD_cons_zero, List.getD_cons_succ, if_true, if_false, reduceIte, Option.map_some, Option.map_none, List.filterMap_nil, List.filterMap_cons, List.nodup_nil, id_eq, Bool.false_eq_true, nodup1, Wk_Γ, Wk_C] at h
    simp only [e_int, e_str, e_bl, e_non, e_glob, vr_v, vr_o, e_var, kBin2_ap, kBin1_ap, e_bin, kNeg_ap, e_neg, kNot_ap, e_nott, kAnd_ap, e_and, kOr_ap, e_or, kCmp2_ap, kCmp1_ap, e_cmp, kCh3_ap, kCh2_ap, kCh1_ap, e_cmp2, kIte_ap, e_ite, kTup_ap, e_tup, kLst_ap, e_lst, kSub2_ap, kSub1_ap, e_sub, kSlc3_ap, kSlc2_ap, kSlc1_ap, e_slc, kSlL2_ap, kSlL1_ap, e_slcL, kSlH2_ap, kSlH1_ap, e_slcH, kRev_ap, e_rev, kCall_ap, e_call, kBi_ap, e_bi, kIsi_ap, e_isi, kMu_ap, e_mu, kPm2_ap, kPm1_ap, e_pm, kTn3_ap, kTn2_ap, kTn1_ap, kCE_ap, kComp_ap, e_comp, kTNot_ap, t_nott, kTAnd_ap, t_and, kTOr_ap, t_or, kTVal_ap, t_val, s_nil, kS3_ap, kS2_ap, kS1_ap, s_cons, r_nil, kRr2_ap, kRr1_ap, r_cons, c_nil, kCa_ap, kC2_ap, kC1f_ap, kC1t_ap, c_f, c_t, f_nil, kF_ap, f_cons, kI2_ap, kI1_ap, i_seq, kEn2_ap, kEn1_ap, i_enum, kG1_ap, i_rng1, kG2b_ap, kG2a_ap, i_rng2, st_v, st_o, kSt_ap, st_s, x_nm, kA2_ap, kA1_ap, x_tp, kPar_ap, x_par, kExp_ap, x_exp, kIf_ap, x_ife, kFor_ap, x_for, x_whl, kRet_ap, x_ret, x_retN, x_brk, x_cnt, x_pass, xs_nil, xs_cons, fo_nx, fo_ret, bind_ok_, st_ok_, opd_v, opd_s, opd_o, seq_nx, seq_ret, seq_brk, seq_cnt, optR, optV, optB, view, views, fin, lent, isO, setTg, setAll, setCA, pmOp, strsOf, kd, wipes, unwipe, frz, binOp, cmpOp, biOp, muOp, subOp, truth, seqOf, eqD, isNone, callF, lend, slots, back, isLent, List.map_cons, List.map_nil, List.length_cons, List.length_nil, List.cons_append, List.nil_append, List.replicate, Nat.reduceAdd, Nat.reduceSub, List.getElem?_cons_zero, List.getElem?_cons_succ, List.set_cons_zero, List.set_cons_succ, List.getD_cons_zero, List.getD_cons_succ, if_true, if_false, reduceIte, Option.map_some, Option.map_none, List.filterMap_nil, List.filterMap_cons, List.nodup_nil, id_eq, Bool.false_eq_true, nodup1, Wk_Γ, Wk_C, hb]
    exact h
  | true =>
    simp only [e_int, e_str, e_bl, e_non, e_glob, vr_v, vr_o, e_var, kBin2_ap, kBin1_ap, e_bin, kNeg_ap, e_neg, kNot_ap, e_nott, kAnd_ap, e_and, kOr_ap, e_or, kCmp2_ap, kCmp1_ap, e_cmp, kCh3_ap, kCh2_ap, kCh1_ap, e_cmp2, kIte_ap, e_ite, kTup_ap, e_tup, kLst_ap, e_lst, kSub2_ap, kSub1_ap, e_sub, kSlc3_ap, kSlc2_ap, kSlc1_ap, e_slc, kSlL2_ap, kSlL1_ap, e_slcL, kSlH2_ap, kSlH1_ap, e_slcH, kRev_ap, e_rev, kCall_ap, e_call, kBi_ap, e_bi, kIsi_ap, e_isi, kMu_ap, e_mu, kPm2_ap, kPm1_ap, e_pm, kTn3_ap, kTn2_ap, kTn1_ap, kCE_ap, kComp_ap, e_comp, kTNot_ap, t_nott, kTAnd_ap, t_and, kTOr_ap, t_or, kTVal_ap, t_val, s_nil, kS3_ap, kS2_ap, kS1_ap, s_cons, r_nil, kRr2_ap, kRr1_ap, r_cons, c_nil, kCa_ap, kC2_ap, kC1f_ap, kC1t_ap, c_f, c_t, f_nil, kF_ap, f_cons, kI2_ap, kI1_ap, i_seq, kEn2_ap, kEn1_ap, i_enum, kG1_ap, i_rng1, kG2b_ap, kG2a_ap, i_rng2, st_v, st_o, kSt_ap, st_s, x_nm, kA2_ap, kA1_ap, x_tp, kPar_ap, x_par, kExp_ap, x_exp, kIf_ap, x_ife, kFor_ap, x_for, x_whl, kRet_ap, x_ret, x_retN, x_brk, x_cnt, x_pass, xs_nil, xs_cons, fo_nx, fo_ret, bind_ok_, st_ok_, opd_v, opd_s, opd_o, seq_nx, seq_ret, seq_brk, seq_cnt, optR, optV, optB, view, views, fin, lent, isO, setTg, setAll, setCA, pmOp, strsOf, kd, wipes, unwipe, frz, binOp, cmpOp, biOp, muOp, subOp, truth, seqOf, eqD, isNone, callF, lend, slots, back, isLent, List.map_cons, List.map_nil, List.length_cons, List.length_nil, List.cons_append, List.nil_append, List.replicate, Nat.reduceAdd, Nat.reduceSub, List.getElem?_cons_zero, List.getElem?_cons_succ, List.set_cons_zero, List.set_cons_succ, List.getD_cons_zero, List.getD_cons_succ, if_true, if_false, reduceIte, Option.map_some, Option.map_none, List.filterMap_nil, List.filterMap_cons, List.nodup_nil, id_eq, Bool.false_eq_true, nodup1, Wk_Γ, Wk_C, hb, h62]
    refine forL_run (I := fun j ρ => ∃ number row b, ρ = [.v (.list (iL ns)), .v (.int i), .v (.int many), .v (.int number), .o (.lst (iL row)), .un, b] ∧ row.length ≤ j) (R := fun o => ∃ p, SO.fo [false, false, false] ((o.seq _).seq _) = .o (.lst (iL p)) []) ?_ ?_ ⟨_, [], _, rfl, Nat.le_refl _⟩
    · rintro j x ρ hx ⟨number, row, b, rfl, hl⟩
      obtain ⟨rfl, hj⟩ := rng1L_get hx
      rw [Int.toNat_natCast] at hj
      have hL : (iL row).length < Lm := by
        rw [List.length_map]
        exact Nat.lt_of_lt_of_le (show row.length < 2000000 by omega) (by decide)
      simp only [turnF_ap, e_int, e_str, e_bl, e_non, e_glob, vr_v, vr_o, e_var, kBin2_ap, kBin1_ap, e_bin, kNeg_ap, e_neg, kNot_ap, e_nott, kAnd_ap, e_and, kOr_ap, e_or, kCmp2_ap, kCmp1_ap, e_cmp, kCh3_ap, kCh2_ap, kCh1_ap, e_cmp2, kIte_ap, e_ite, kTup_ap, e_tup, kLst_ap, e_lst, kSub2_ap, kSub1_ap, e_sub, kSlc3_ap, kSlc2_ap, kSlc1_ap, e_slc, kSlL2_ap, kSlL1_ap, e_slcL, kSlH2_ap, kSlH1_ap, e_slcH, kRev_ap, e_rev, kCall_ap, e_call, kBi_ap, e_bi, kIsi_ap, e_isi, kMu_ap, e_mu, kPm2_ap, kPm1_ap, e_pm, kTn3_ap, kTn2_ap, kTn1_ap, kCE_ap, kComp_ap, e_comp, kTNot_ap, t_nott, kTAnd_ap, t_and, kTOr_ap, t_or, kTVal_ap, t_val, s_nil, kS3_ap, kS2_ap, kS1_ap, s_cons, r_nil, kRr2_ap, kRr1_ap, r_cons, c_nil, kCa_ap, kC2_ap, kC1f_ap, kC1t_ap, c_f, c_t, f_nil, kF_ap, f_cons, kI2_ap, kI1_ap, i_seq, kEn2_ap, kEn1_ap, i_enum, kG1_ap, i_rng1, kG2b_ap, kG2a_ap, i_rng2, st_v, st_o, kSt_ap, st_s, x_nm, kA2_ap, kA1_ap, x_tp, kPar_ap, x_par, kExp_ap, x_exp, kIf_ap, x_ife, kFor_ap, x_for, x_whl, kRet_ap, x_ret, x_retN, x_brk, x_cnt, x_pass, xs_nil, xs_cons, fo_nx, fo_ret, bind_ok_, st_ok_, opd_v, opd_s, opd_o, seq_nx, seq_ret, seq_brk, seq_cnt, optR, optV, optB, view, views, fin, lent, isO, setTg, setAll, setCA, pmOp, strsOf, kd, wipes, unwipe, frz, binOp, cmpOp, biOp, muOp, subOp, truth, seqOf, eqD, isNone, callF, lend, slots, back, isLent, List.map_cons, List.map_nil, List.length_cons, List.length_nil, List.cons_append, List.nil_append, List.replicate, Nat.reduceAdd, Nat.reduceSub, List.getElem?_cons_zero, List.getElem?_cons_succ, List.set_cons_zero, List.set_cons_succ, List.getD_cons_zero, List.getD_cons_succ, if_true, if_false, reduceIte, Option.map_some, Option.map_none, List.filterMap_nil, List.filterMap_cons, List.nodup_nil, id_eq, Bool.false_eq_true, nodup1, Wk_Γ, Wk_C, cmpOp]
      cases hc : ltI 0 number with
      | false =>
        simp only [e_int, e_str, e_bl, e_non, e_glob, vr_v, vr_o, e_var, kBin2_ap, kBin1_ap, e_bin, kNeg_ap, e_neg, kNot_ap, e_nott, kAnd_ap, e_and, kOr_ap, e_or, kCmp2_ap, kCmp1_ap, e_cmp, kCh3_ap, kCh2_ap, kCh1_ap, e_cmp2, kIte_ap, e_ite, kTup_ap, e_tup, kLst_ap, e_lst, kSub2_ap, kSub1_ap, e_sub, kSlc3_ap, kSlc2_ap, kSlc1_ap, e_slc, kSlL2_ap, kSlL1_ap, e_slcL, kSlH2_ap, kSlH1_ap, e_slcH, kRev_ap, e_rev, kCall_ap, e_call, kBi_ap, e_bi, kIsi_ap, e_isi, kMu_ap, e_mu, kPm2_ap, kPm1_ap, e_pm, kTn3_ap, kTn2_ap, kTn1_ap, kCE_ap, kComp_ap, e_comp, kTNot_ap, t_nott, kTAnd_ap, t_and, kTOr_ap, t_or, kTVal_ap, t_val, s_nil, kS3_ap, kS2_ap, kS1_ap, s_cons, r_nil, kRr2_ap, kRr1_ap, r_cons, c_nil, kCa_ap, kC2_ap, kC1f_ap, kC1t_ap, c_f, c_t, f_nil, kF_ap, f_cons, kI2_ap, kI1_ap, i_seq, kEn2_ap, kEn1_ap, i_enum, kG1_ap, i_rng1, kG2b_ap, kG2a_ap, i_rng2, st_v, st_o, kSt_ap, st_s, x_nm, kA2_ap, kA1_ap, x_tp, kPar_ap, x_par, kExp_ap, x_exp, kIf_ap, x_ife, kFor_ap, x_for, x_whl, kRet_ap, x_ret, x_retN, x_brk, x_cnt, x_pass, xs_nil, xs_cons, fo_nx, fo_ret, bind_ok_, st_ok_, opd_v, opd_s, opd_o, seq_nx, seq_ret, seq_brk, seq_cnt, optR, optV, optB, view, views, fin, lent, isO, setTg, setAll, setCA, pmOp, strsOf, kd, wipes, unwipe, frz, binOp, cmpOp, biOp, muOp, subOp, truth, seqOf, eqD, isNone, callF, lend, slots, back, isLent, List.map_cons, List.map_nil, List.length_cons, List.length_nil, List.cons_append, List.nil_append, List.replicate, Nat.reduceAdd, Nat.reduceSub, List.getElem?_cons_zero, List.getElem?_cons_succ, List.set_cons_zero, List.set_cons_succ, List.getD_cons_zero, List.getD_cons_succ, if_true, if_false, reduceIte, Option.map_some, Option.map_none, List.filterMap_nil, List.filterMap_cons, List.nodup_nil, id_eq, Bool.false_eq_true, nodup1, Wk_Γ, Wk_C, hc]
        exact ⟨_, _, _, rfl, by omega⟩
      | true =>
        simp only [e_int, e_str, e_bl, e_non, e_glob, vr_v, vr_o, e_var, kBin2_ap, kBin1_ap, e_bin, kNeg_ap, e_neg, kNot_ap, e_nott, kAnd_ap, e_and, kOr_ap, e_or, kCmp2_ap, kCmp1_ap, e_cmp, kCh3_ap, kCh2_ap, kCh1_ap, e_cmp2, kIte_ap, e_ite, kTup_ap, e_tup, kLst_ap, e_lst, kSub2_ap, kSub1_ap, e_sub, kSlc3_ap, kSlc2_ap, kSlc1_ap, e_slc, kSlL2_ap, kSlL1_ap, e_slcL, kSlH2_ap, kSlH1_ap, e_slcH, kRev_ap, e_rev, kCall_ap, e_call, kBi_ap, e_bi, kIsi_ap, e_isi, kMu_ap, e_mu, kPm2_ap, kPm1_ap, e_pm, kTn3_ap, kTn2_ap, kTn1_ap, kCE_ap, kComp_ap, e_comp, kTNot_ap, t_nott, kTAnd_ap, t_and, kTOr_ap, t_or, kTVal_ap, t_val, s_nil, kS3_ap, kS2_ap, kS1_ap, s_cons, r_nil, kRr2_ap, kRr1_ap, r_cons, c_nil, kCa_ap, kC2_ap, kC1f_ap, kC1t_ap, c_f, c_t, f_nil, kF_ap, f_cons, kI2_ap, kI1_ap, i_seq, kEn2_ap, kEn1_ap, i_enum, kG1_ap, i_rng1, kG2b_ap, kG2a_ap, i_rng2, st_v, st_o, kSt_ap, st_s, x_nm, kA2_ap, kA1_ap, x_tp, kPar_ap, x_par, kExp_ap, x_exp, kIf_ap, x_ife, kFor_ap, x_for, x_whl, kRet_ap, x_ret, x_retN, x_brk, x_cnt, x_pass, xs_nil, xs_cons, fo_nx, fo_ret, bind_ok_, st_ok_, opd_v, opd_s, opd_o, seq_nx, seq_ret, seq_brk, seq_cnt, optR, optV, optB, view, views, fin, lent, isO, setTg, setAll, setCA, pmOp, strsOf, kd, wipes, unwipe, frz, binOp, cmpOp, biOp, muOp, subOp, truth, seqOf, eqD, isNone, callF, lend, slots, back, isLent, List.map_cons, List.map_nil, List.length_cons, List.length_nil, List.cons_append, List.nil_append, List.replicate, Nat.reduceAdd, Nat.reduceSub, List.getElem?_cons_zero, List.getElem?_cons_succ, List.set_cons_zero, List.set_cons_succ, List.getD_cons_zero, List.getD_cons_succ, if_true, if_false, reduceIte, Option.map_some, Option.map_none, List.filterMap_nil, List.filterMap_cons, List.nodup_nil, id_eq, Bool.false_eq_true, nodup1, Wk_Γ, Wk_C, hc, m997, d997, hL, iL_snoc]
        exact ⟨_, _, _, rfl, by rw [List.length_append]; simp only [List.length_cons, List.length_nil]; omega⟩
    · rintro ρ ⟨number, row, b, rfl, hl⟩
      rw [rng1L_len, Int.toNat_natCast] at hl
      obtain ⟨p, h⟩ := rest number row .un b hl
      refine ⟨p, ?_⟩
      unfold f_law_pool at h
      simp only [e_int, e_str, e_bl, e_non, e_glob, vr_v, vr_o, e_var, kBin2_ap, kBin1_ap, e_bin, kNeg_ap, e_neg, kNot_ap, e_nott, kAnd_ap, e_and, kOr_ap, e_or, kCmp2_ap, kCmp1_ap, e_cmp, kCh3_ap, kCh2_ap, kCh1_ap, e_cmp2, kIte_ap, e_ite, kTup_ap, e_tup, kLst_ap, e_lst, kSub2_ap, kSub1_ap, e_sub, kSlc3_ap, kSlc2_ap, kSlc1_ap, e_slc, kSlL2_ap, kSlL1_ap, e_slcL, kSlH2_ap, kSlH1_ap, e_slcH, kRev_ap, e_rev, kCall_ap, e_call, kBi_ap, e_bi, kIsi_ap, e_isi, kMu_ap, e_mu, kPm2_ap, kPm1_ap, e_pm, kTn3_ap, kTn2_ap, kTn1_ap, kCE_ap, kComp_ap, e_comp, kTNot_ap, t_nott, kTAnd_ap, t_and, kTOr_ap, t_or, kTVal_ap, t_val, s_nil, kS3_ap, kS2_ap, kS1_ap, s_cons, r_nil, kRr2_ap, kRr1_ap, r_cons, c_nil, kCa_ap, kC2_ap, kC1f_ap, kC1t_ap, c_f, c_t, f_nil, kF_ap, f_cons, kI2_ap, kI1_ap, i_seq, kEn2_ap, kEn1_ap, i_enum, kG1_ap, i_rng1, kG2b_ap, kG2a_ap, i_rng2, st_v, st_o, kSt_ap, st_s, x_nm, kA2_ap, kA1_ap, x_tp, kPar_ap, x_par, kExp_ap, x_exp, kIf_ap, x_ife, kFor_ap, x_for, x_whl, kRet_ap, x_ret, x_retN, x_brk, x_cnt, x_pass, xs_nil, xs_cons, fo_nx, fo_ret, bind_ok_, st_ok_, opd_v, opd_s, opd_o, seq_nx, seq_ret, seq_brk, seq_cnt, optR, optV, optB, view, views, fin, lent, isO, setTg, setAll, setCA, pmOp, strsOf, kd, wipes, unwipe, frz, binOp, cmpOp, biOp, muOp, subOp, truth, seqOf, eqD, isNone, callF, lend, slots, back, isLent, List.map_cons, List.map_nil, List.length_cons, List.length_nil, List.cons_append, List.nil_append, List.replicate, Nat.reduceAdd, Nat.reduceSub, List.getElem?_cons_zero, List.getElem?_cons_succ, List.set_cons_zero, List.set_cons_succ, List.getD_cons_zero, List.getD_cons_succ, if_true, if_false, reduceIte, Option.map_some, Option.map_none, List.filterMap_nil, List.filterMap_cons, List.nodup_nil, id_eq, Bool.false_eq_true, nodup1, Wk_Γ, Wk_C] at h ⊢
      exact h
section
variable {C : Nat → PyData} {P : Nat → Option Fn} {fuel k : Nat}
theorem take_S (h : P 2 = some f_law_take) (p : List Int) (m : Int) : sem C P fuel (k + 1) 2 [.o (.lst (iL p)), .v (.int m)] = .v (.int (tkR p m)) [.lst (iL (tkP p m))] := by
  rw [sem_at h, take_run]
theorem pool_S (h0 : P 0 = some f_law_cell) (h1 : P 1 = some f_law_pool) (ns : List Int) (i many : Nat) (hm : many < 1000000) : ∃ p, sem C P fuel (k + 2) 1 [.v (.list (iL ns)), .v (.int i), .v (.int many)] = .o (.lst (iL p)) [] := by
  rw [sem_at h1]
  refine pool_run fuel _ (lmk h0 m_law_cell) ns i many hm ?_
  rw [Wk_Γ, sem_at h0]
  exact cell_run fuel _ ns i
end
end Rc

set_option Elab.async false
set_option linter.all false
set_option maxRecDepth 100000
set_option maxHeartbeats 1000000
/-! Txs: texts as lists of signs. -/
namespace Rc
open PySem
/-- the text of these signs -/
def tx (l : List Nat) : Str := ⟨l.toArray⟩
def Tx (l : List Nat) : PyData := .str (tx l)
theorem tx_list (l : List Nat) : (tx l).cps.toList = l := by simp [tx]
theorem tx_of (x : Str) : tx x.cps.toList = x := by
  cases x
  simp [tx]
theorem tx_len (l : List Nat) : (tx l).length = l.length := by simp [tx, Str.length]
theorem tx_cat (a b : List Nat) : tx a ++ tx b = tx (a ++ b) := by
  show (⟨(tx a).cps ++ (tx b).cps⟩ : Str) = _
  simp [tx]
theorem tx_inj {a b : List Nat} (h : tx a = tx b) : a = b := by
  have := congrArg (fun x : Str => x.cps.toList) h
  simpa [tx_list] using this
theorem tx_eq (a b : List Nat) : decide (tx a = tx b) = decide (a = b) := by
  by_cases h : a = b
  · subst h
    simp
  · rw [decide_eq_false h, decide_eq_false fun e => h (tx_inj e)]
theorem sign_tx (c : Nat) : sign c = Tx [c] := rfl
theorem signs_tx (l : List Nat) : signs (tx l) = l.map fun c => Tx [c] := by
  unfold signs
  rw [tx_list]
  rfl
theorem in_tx (c : Nat) (l : List Nat) : inStr (tx [c]) (tx l) = decide (c ∈ l) := by
  unfold inStr
  rw [tx_list, tx_list]
theorem lit_tx (s : String) : (Str.ofString s) = tx (Str.ofString s).cps.toList := (tx_of _).symm
/-! ### cuts -/
theorem take_min {α : Type} (xs : List α) (k : Nat) : xs.take (min k xs.length) = xs.take k := by
  rcases Nat.le_total k xs.length with h | h
  · rw [Nat.min_eq_left h]
  · rw [Nat.min_eq_right h, List.take_length, List.take_of_length_le h]
theorem drop_min {α : Type} (xs : List α) (k : Nat) : xs.drop (min k xs.length) = xs.drop k := by
  rcases Nat.le_total k xs.length with h | h
  · rw [Nat.min_eq_left h]
  · rw [Nat.min_eq_right h, List.drop_length, List.drop_eq_nil_of_le h]
theorem cut_to {α : Type} (xs : List α) (k : Nat) : cut xs none (some (k : Int)) = xs.take k := by
  unfold cut
  rw [HT.sIx_none, HT.sIx_nat, List.drop_zero, Nat.sub_zero, take_min]
theorem cut_from {α : Type} (xs : List α) (k : Nat) : cut xs (some (k : Int)) none = xs.drop k := by
  unfold cut
  rw [HT.sIx_none, HT.sIx_nat, drop_min]
  exact List.take_of_length_le (by rw [List.length_drop]; omega)
theorem cut_init {α : Type} (xs : List α) : cut xs none (some (-1)) = xs.dropLast := by
  unfold cut
  have e : HT.sIx xs.length xs.length (some (-1)) = xs.length - 1 := by
    show (if (-1 : Int) < 0 then ((-1 : Int) + (xs.length : Int)).toNat else min (-1 : Int).toNat xs.length) = _
    rw [if_pos (by decide)]
    omega
  rw [HT.sIx_none, e, List.drop_zero, Nat.sub_zero, List.dropLast_eq_take]
end Rc
namespace Rc
open PySem
theorem shaped_tx {l : List Nat} (h : PyData.strOk (tx l) = true) : SeqAt.shaped (Tx l) = true := by
  unfold SeqAt.shaped Tx
  rw [Bool.and_eq_true]
  exact ⟨h, rfl⟩
theorem canAll_tx : ∀ {ks : List (List Nat)}, (∀ l ∈ ks, PyData.strOk (tx l) = true) → PyData.canLayAll0 (ks.map Tx) = true
  | [], _ => rfl
  | k :: ks, h => by
    show (PyData.strOk (tx k) && PyData.canLayAll0 (ks.map Tx)) = true
    rw [canAll_tx fun l hl => h l (List.mem_cons_of_mem _ hl), h k List.mem_cons_self]
    rfl
theorem depth_tx : ∀ ks : List (List Nat), PyData.depthAll (ks.map Tx) ≤ 1
  | [] => by decide
  | k :: ks => by
    have h := depth_tx ks
    have e : PyData.depthAll ((k :: ks).map Tx) = max (PyData.depth (Tx k)) (PyData.depthAll (ks.map Tx)) := rfl
    have e2 : PyData.depth (Tx k) ≤ 1 := by show PyData.depth (.str (tx k)) ≤ 1; simp [PyData.depth]
    omega
theorem eqv_tx (a b : List Nat) : PyData.eqv (Tx a) (Tx b) = decide (a = b) := by
  show (tx a == tx b) = _
  by_cases h : a = b
  · subst h
    simp
  · rw [decide_eq_false h]
    exact beq_eq_false_iff_ne.mpr fun e => h (tx_inj e)
theorem inD_tx {k : List Nat} {ks : List (List Nat)} (h : PyData.strOk (tx k) = true) (hs : ∀ l ∈ ks, PyData.strOk (tx l) = true) : inD (Tx k) (ks.map Tx) = some (decide (k ∈ ks)) := by
  have s1 := shaped_tx h
  have s2 : SeqAt.shaped (.list (ks.map Tx)) = true := by
    unfold SeqAt.shaped
    rw [Bool.and_eq_true]
    have d := depth_tx ks
    refine ⟨canAll_tx hs, decide_eq_true ?_⟩
    show PyData.depthAll (ks.map Tx) + 1 ≤ 64
    omega
  unfold inD
  rw [s1, s2]
  show some ((ks.map Tx).any fun y => PyData.eqv y (Tx k)) = _
  congr 1
  rw [List.any_map, Bool.eq_iff_iff, List.any_eq_true, decide_eq_true_iff]
  constructor
  · rintro ⟨l, hl, e⟩
    have e : PyData.eqv (Tx l) (Tx k) = true := e
    rw [eqv_tx, decide_eq_true_iff] at e
    exact e ▸ hl
  · intro hk
    refine ⟨k, hk, ?_⟩
    show PyData.eqv (Tx k) (Tx k) = true
    rw [eqv_tx]
    simp
end Rc

set_option Elab.async false
set_option linter.all false
set_option maxRecDepth 100000
set_option maxHeartbeats 4000000
/-! Prm: the laws' common drawing defs: signs, lots, texts. -/
namespace Rc
open PySem
theorem skol {α β γ : Type} {P : α → β → γ → Prop} (h : ∀ a, ∃ b c, P a b c) : ∃ (f : α → β) (g : α → γ), ∀ a, P a (f a) (g a) :=
  ⟨fun a => Classical.choose (h a), fun a => Classical.choose (Classical.choose_spec (h a)), fun a => Classical.choose_spec (Classical.choose_spec (h a))⟩
theorem skol1 {α β : Type} {P : α → β → Prop} (h : ∀ a, ∃ b, P a b) : ∃ f : α → β, ∀ a, P a (f a) :=
  ⟨fun a => Classical.choose (h a), fun a => Classical.choose_spec (h a)⟩
/-- a comprehension by an invariant -/
theorem compL_ok {turn : PyData → Env → Out (Option PyData)} : ∀ {xs acc : List PyData} {ρ : Env} {o : Out (List PyData)}, compL turn xs acc ρ = o → ∀ (I : Nat → List PyData → Env → Prop),
    (∀ i x acc ρ, xs[i]? = some x → I i acc ρ → ∃ r ρ', turn x ρ = .ok r ρ' ∧ match r with
      | none => I (i + 1) acc ρ'
      | some d => acc.length < Lm ∧ I (i + 1) (acc ++ [d]) ρ') → I 0 acc ρ → ∃ ds ρ', o = .ok ds ρ' ∧ I xs.length ds ρ'
  | [], acc, ρ, o, hq, I, _, h0 => ⟨acc, ρ, hq.symm, h0⟩
  | x :: xs, acc, ρ, o, hq, I, step, h0 => by
    have hq : ((turn x ρ).bind fun r ρ' => match r with
      | none => compL turn xs acc ρ'
      | some d => if acc.length < Lm then compL turn xs (acc ++ [d]) ρ' else .bad) = o := hq
    obtain ⟨r, ρ', e, h⟩ := step 0 x acc ρ rfl h0
    rw [e] at hq
    cases r with
    | none => exact compL_ok (xs := xs) (show compL turn xs acc ρ' = o from hq) (fun i => I (i + 1)) (fun i y a r hy => step (i + 1) y a r hy) h
    | some d =>
      have hq : (if acc.length < Lm then compL turn xs (acc ++ [d]) ρ' else .bad) = o := hq
      rw [if_pos h.1] at hq
      exact compL_ok (xs := xs) hq (fun i => I (i + 1)) (fun i y a r hy => step (i + 1) y a r hy) h.2
/-- a loop that runs to its end -/
theorem forL_ok {body : PyData → Env → SO} : ∀ {xs : List PyData} {ρ : Env} {o : SO}, forL body xs ρ = o → ∀ (I : Nat → Env → Prop),
    (∀ i x ρ, xs[i]? = some x → I i ρ → ∃ ρ', (body x ρ = .nx ρ' ∨ body x ρ = .cnt ρ') ∧ I (i + 1) ρ') → I 0 ρ → ∃ ρ', o = .nx ρ' ∧ I xs.length ρ'
  | [], ρ, o, hq, I, _, h0 => ⟨ρ, hq.symm, h0⟩
  | x :: xs, ρ, o, hq, I, step, h0 => by
    have hq : ((body x ρ).turn fun ρ' => forL body xs ρ') = o := hq
    obtain ⟨ρ', e, h⟩ := step 0 x ρ rfl h0
    rcases e with e | e
    · rw [e] at hq
      exact forL_ok (xs := xs) (show forL body xs ρ' = o from hq) (fun i => I (i + 1)) (fun i y r hy => step (i + 1) y r hy) h
    · rw [e] at hq
      exact forL_ok (xs := xs) (show forL body xs ρ' = o from hq) (fun i => I (i + 1)) (fun i y r hy => step (i + 1) y r hy) h
/-! ### texts joined -/
theorem strsD_tx : ∀ ls : List (List Nat), strsD (ls.map Tx) = some (ls.map tx)
  | [] => rfl
  | l :: ls => by
    show (strsD (ls.map Tx)).map (tx l :: ·) = _
    rw [strsD_tx ls]
    rfl
theorem join_tx : ∀ ls : List (List Nat), PySem.Str.join (Str.ofString "") (ls.map tx) = tx ls.flatten
  | [] => rfl
  | [l] => by
    show tx l = tx (l ++ [])
    rw [List.append_nil]
  | l :: m :: ls => by
    have h := join_tx (m :: ls)
    show tx l ++ Str.ofString "" ++ PySem.Str.join (Str.ofString "") ((m :: ls).map tx) = _
    rw [h, show (Str.ofString "") = tx [] from rfl, tx_cat, tx_cat, List.append_nil]
    rfl
theorem join_op {ls : List (List Nat)} (h : ls.flatten.length ≤ Lm) : pmOp .join (.str "") [.list (ls.map Tx)] = some (.v (Tx ls.flatten)) := by
  have e : strsOf (.list (ls.map Tx)) = some (ls.map tx) := strsD_tx ls
  have z : ((ls.map tx).map (fun x : PySem.Str => x.length)).sum + (ls.map tx).length * (Str.ofString "").length ≤ Lm := by
    have q : (ls.map tx).map (fun x : PySem.Str => x.length) = ls.map List.length := by
      rw [List.map_map]
      exact List.map_congr_left fun l _ => tx_len l
    rw [q, ← List.length_flatten, show (Str.ofString "").length = 0 from rfl]
    omega
  show (match strsOf (.list (ls.map Tx)) with
    | some ys => if (ys.map (fun x : PySem.Str => x.length)).sum + ys.length * (Str.ofString "").length ≤ Lm then some (R.v (.str (PySem.Txt.join (Str.ofString "") ys))) else none
    | none => none) = _
  rw [e]
  show (if _ then _ else _) = _
  rw [if_pos z]
  show some (R.v (.str (Builtin.Str.glued (Str.ofString "") (ls.map tx)))) = _
  rw [StrLaws.glued_eq_join, join_tx]
  rfl
theorem flat1 (l : List Nat) : (l.map fun c => [c]).flatten = l := by
  induction l with
  | nil => rfl
  | cons c l ih =>
    show c :: (l.map fun c => [c]).flatten = _
    rw [ih]
theorem join_signs {l : List Nat} (h : l.length ≤ Lm) : pmOp .join (.str "") [.list (l.map fun c => Tx [c])] = some (.v (Tx l)) := by
  have := join_op (ls := l.map fun c => [c]) (by rw [flat1]; exact h)
  rw [flat1, List.map_map] at this
  exact this
/-- the statements behind the first n -/
def bodyOf (n : Nat) : Sts → Sts
  | .nil => .nil
  | .cons s r => match n with
    | 0 => .cons s r
    | n + 1 => bodyOf n r
/-! ### operations, one by one -/
theorem o_add (a b : Int) : binOp .Add (.int a) (.int b) = some (.v (.int (a + b))) := Eq.trans rfl rfl
theorem o_sub (a b : Int) : binOp .Sub (.int a) (.int b) = some (.v (.int (a - b))) := Eq.trans rfl rfl
theorem o_eq (a b : Int) : cmpOp .Eq (.int a) (.int b) = some (decide (a = b)) := Eq.trans rfl rfl
theorem o_ne (a b : Int) : cmpOp .NotEq (.int a) (.int b) = some (!decide (a = b)) := Eq.trans rfl rfl
theorem o_lt (a b : Int) : cmpOp .Lt (.int a) (.int b) = some (decide (a < b)) := by rw [← ltI_eq]; rfl
theorem o_le (a b : Int) : cmpOp .LtE (.int a) (.int b) = some (decide (a ≤ b)) := by rw [← leI_eq]; rfl
theorem o_gt (a b : Int) : cmpOp .Gt (.int a) (.int b) = some (decide (b < a)) := by rw [← ltI_eq]; rfl
theorem o_ge (a b : Int) : cmpOp .GtE (.int a) (.int b) = some (decide (b ≤ a)) := by rw [← leI_eq]; rfl
theorem o_isN (d : PyData) : cmpOp .Is d .none = some (isNone d) := Eq.trans rfl rfl
theorem o_isnN (d : PyData) : cmpOp .IsNot d .none = some (!isNone d) := Eq.trans rfl rfl
theorem o_lenL (xs : List PyData) : biOp .len [.list xs] = some (.v (.int (xs.length : Nat))) := Eq.trans rfl rfl
theorem o_lenT (xs : List PyData) : biOp .len [.tuple xs] = some (.v (.int (xs.length : Nat))) := Eq.trans rfl rfl
theorem o_atL (xs : List PyData) (i : Int) : subOp (.list xs) (.int i) = L2.atI xs i := Eq.trans rfl rfl
theorem o_atT (xs : List PyData) (i : Int) : subOp (.tuple xs) (.int i) = L2.atI xs i := Eq.trans rfl rfl
theorem o_sqL (xs : List PyData) : seqOf (.list xs) = some xs := Eq.trans rfl rfl
theorem o_sqT (xs : List PyData) : seqOf (.tuple xs) = some xs := Eq.trans rfl rfl
theorem o_tupL (xs : List PyData) : biOp .tuple_ [.list xs] = some (.v (.tuple xs)) := Eq.trans rfl rfl
theorem o_listL (xs : List PyData) : biOp .list_ [.list xs] = some (.o (.lst xs)) := Eq.trans rfl rfl
theorem o_listT (xs : List PyData) : biOp .list_ [.tuple xs] = some (.o (.lst xs)) := Eq.trans rfl rfl
theorem o_int (a : Int) : biOp .int_ [.int a] = some (.v (.int a)) := Eq.trans rfl rfl
theorem o_cat {a b : List Nat} (h : a.length + b.length ≤ 1000000) : binOp .Add (Tx a) (Tx b) = some (.v (Tx (a ++ b))) := by
  show (if (tx a).length + (tx b).length ≤ Lm then some (R.v (.str (tx a ++ tx b))) else none) = _
  rw [tx_len, tx_len, if_pos (Nat.le_trans h (by decide)), tx_cat]
  rfl
theorem o_catL {xs ys : List PyData} (h : xs.length + ys.length ≤ 1000000) : binOp .Add (.list xs) (.list ys) = some (.o (.lst (xs ++ ys))) := by
  show (if xs.length + ys.length ≤ Lm then _ else _) = _
  rw [if_pos (Nat.le_trans h (by decide))]
theorem o_catT {xs ys : List PyData} (h : xs.length + ys.length ≤ 1000000) : binOp .Add (.tuple xs) (.tuple ys) = some (.v (.tuple (xs ++ ys))) := by
  show (if xs.length + ys.length ≤ Lm then _ else _) = _
  rw [if_pos (Nat.le_trans h (by decide))]
theorem o_app {xs : List PyData} {d : PyData} (h : xs.length < 1000000) : muOp .append xs [d] = some (.none, xs ++ [d]) := by
  show (if xs.length < Lm then _ else _) = _
  rw [if_pos (Nat.lt_of_lt_of_le h (by decide))]
theorem o_eqT (a b : List Nat) : cmpOp .Eq (Tx a) (Tx b) = some (decide (a = b)) := by
  show some (decide (tx a = tx b)) = _
  rw [tx_eq]
theorem o_neT (a b : List Nat) : cmpOp .NotEq (Tx a) (Tx b) = some (!decide (a = b)) := by
  show some (!decide (tx a = tx b)) = _
  rw [tx_eq]
theorem o_inT (c : Nat) (l : List Nat) : cmpOp .In (Tx [c]) (Tx l) = some (decide (c ∈ l)) := by
  show some (inStr (tx [c]) (tx l)) = _
  rw [in_tx]
theorem o_ninT (c : Nat) (l : List Nat) : cmpOp .NotIn (Tx [c]) (Tx l) = some (!decide (c ∈ l)) := by
  show some (!inStr (tx [c]) (tx l)) = _
  rw [in_tx]
theorem o_sqTx (l : List Nat) : seqOf (Tx l) = some (l.map fun c => Tx [c]) := by
  show some (signs (tx l)) = _
  rw [signs_tx]
theorem o_Tx0 : (.str (Str.ofString "") : PyData) = Tx [] := Eq.trans rfl rfl
/-! ### items of lists and texts -/
theorem atI_nat {α : Type} {xs : List α} {i : Nat} {d : α} (h : xs[i]? = some d) : L2.atI xs (i : Int) = some d := by
  have hl := (List.getElem?_eq_some_iff.mp h).1
  unfold L2.atI L2.ixN
  rw [if_pos (by omega), if_pos (by omega)]
  exact h
theorem sub_tx {l : List Nat} {i c : Nat} (hl : l.length ≤ Lm) (h : l[i]? = some c) : subOp (Tx l) (.int (i : Int)) = some (Tx [c]) := by
  show (if (tx l).length ≤ Lm then (L2.atI (tx l).cps.toList (i : Int)).map sign else none) = _
  rw [tx_len, if_pos hl, tx_list, atI_nat h]
  rfl
theorem len_tx {l : List Nat} (hl : l.length ≤ Lm) : biOp .len [Tx l] = some (.v (.int (l.length : Nat))) := by
  show (if (tx l).length ≤ Lm then _ else _) = _
  rw [tx_len, if_pos hl]
/-- a sign drawn of a text -/
theorem pickT {l : List Nat} (hl : l.length ≤ Lm) (h : l ≠ []) : ∃ f : List Int → Nat, ∀ p, f p ∈ l ∧ subOp (Tx l) (.int (tkR p (l.length : Int))) = some (Tx [f p]) :=
  skol1 (P := fun p c => c ∈ l ∧ subOp (Tx l) (.int (tkR p (l.length : Int))) = some (Tx [c])) fun p => by
    have hn : tkN p (l.length : Int) < l.length := tkN_lt p (List.length_pos_iff.mpr h)
    refine ⟨l[tkN p (l.length : Int)], List.getElem_mem _, ?_⟩
    rw [tk_N]
    exact sub_tx hl (List.getElem?_eq_getElem hn)
/-- an item drawn of a list -/
theorem pickL {xs : List PyData} (h : xs ≠ []) : ∃ f : List Int → PyData, ∀ p, f p ∈ xs ∧ L2.atI xs (tkR p (xs.length : Int)) = some (f p) :=
  skol1 (P := fun p d => d ∈ xs ∧ L2.atI xs (tkR p (xs.length : Int)) = some d) fun p => by
    have hn : tkN p (xs.length : Int) < xs.length := tkN_lt p (List.length_pos_iff.mpr h)
    refine ⟨xs[tkN p (xs.length : Int)], List.getElem_mem _, ?_⟩
    rw [tk_N]
    exact atI_nat (List.getElem?_eq_getElem hn)
theorem cat_tx {a b : List Nat} (h : a.length + b.length ≤ Lm) : binOp .Add (Tx a) (Tx b) = some (.v (Tx (a ++ b))) := by
  show (if (tx a).length + (tx b).length ≤ Lm then some (R.v (.str (tx a ++ tx b))) else none) = _
  rw [tx_len, tx_len, if_pos h, tx_cat]
  rfl
theorem small_nat' {n : Nat} (h : n < 1000000) : small62 (n : Int) = true := small_nat h
theorem small_int {n : Int} (h0 : -1000000000000 ≤ n) (h : n < 1000000000000) : small62 n = true := within_iff.mpr (by omega)
/-- taking an item out of a row leaves the same items -/
theorem erase_perm {α : Type} : ∀ {xs : List α} {i : Nat} {x : α}, xs[i]? = some x → (x :: xs.eraseIdx i).Perm xs
  | [], i, x, h => by simp at h
  | y :: ys, 0, x, h => by
    cases (show some y = some x from h)
    exact List.Perm.refl _
  | y :: ys, i + 1, x, h => by
    have h := erase_perm (xs := ys) (i := i) (by simpa using h)
    exact (List.Perm.swap y x _).trans (h.cons y)
theorem er_map {α β : Type} (f : α → β) : ∀ (xs : List α) (i : Nat), (xs.map f).eraseIdx i = (xs.eraseIdx i).map f
  | [], _ => rfl
  | _ :: _, 0 => rfl
  | x :: xs, i + 1 => by
    show f x :: (xs.map f).eraseIdx i = f x :: (xs.eraseIdx i).map f
    rw [er_map f xs i]
/-! ### the defs -/
/-- number 3 -/
def f_law_signs : Fn := ⟨[true, false], 5, (.cons (.asg (.nm 2) (.bi .list_ (.cons (.str "abcdefghijklmnopqrstuvwxyzABCDEFGHIJKLMNOPQRSTUVWXYZ0123456789!#$&'()*+,./:;<=>?\u0040[]^_{|}~\"") .nil)))
    (.cons (.asg (.nm 3) (.str ""))
    (.cons (.for_ (.nm 4) (.rng1 (.var 1)) (.cons (.asg (.nm 3) (.bin .Add (.var 3) (.mu .popAt 2 (.cons (.call 2 (.cons (.var 0) (.cons (.bi .len (.cons (.var 2) .nil)) .nil))) .nil))))
        .nil))
    (.cons (.ret (.var 3))
    .nil))))⟩
theorem m_law_signs : f_law_signs.mask = [true, false] := Eq.trans rfl rfl
/-- number 4 -/
def f_law_lot : Fn := ⟨[true, false], 3, (.cons (.ife (.val (.cmp .Eq (.call 2 (.cons (.var 0) (.cons (.int 4) .nil))) (.int 0))) (.cons (.ret (.var 1))
        .nil) .nil)
    (.cons (.ret (.pm .join (.str "") (.cons (.comp (.var 2) (.nm 2) (.seq (.var 1)) (.cons (.val (.cmp .Eq (.call 2 (.cons (.var 0) (.cons (.int 2) .nil))) (.int 0))) .nil) [2]) .nil)))
    .nil))⟩
theorem m_law_lot : f_law_lot.mask = [true, false] := Eq.trans rfl rfl
/-- number 5 -/
def f_law_kind : Fn := ⟨[true], 3, (.cons (.asg (.nm 1) (.str "abcdefghijklmnopqrstuvwxyz"))
    (.cons (.ret (.pm .join (.str "") (.cons (.comp (.sub (.var 1) (.call 2 (.cons (.var 0) (.cons (.int 26) .nil)))) (.nm 2) (.rng1 (.bin .Add (.int 1) (.call 2 (.cons (.var 0) (.cons (.int 8) .nil))))) .nil [2]) .nil)))
    .nil))⟩
theorem m_law_kind : f_law_kind.mask = [true] := Eq.trans rfl rfl
/-- number 26 -/
def f_law_text : Fn := ⟨[true, false, false], 4, (.cons (.ret (.pm .join (.str "") (.cons (.comp (.sub (.var 1) (.call 2 (.cons (.var 0) (.cons (.bi .len (.cons (.var 1) .nil)) .nil)))) (.nm 3) (.rng1 (.call 2 (.cons (.var 0) (.cons (.bin .Add (.var 2) (.int 1)) .nil)))) .nil [3]) .nil)))
    .nil)⟩
theorem m_law_text : f_law_text.mask = [true, false, false] := Eq.trans rfl rfl
/-- number 53 -/
def f_law_mixed : Fn := ⟨[true, false], 5, (.cons (.asg (.nm 2) (.bi .list_ (.cons (.var 1) .nil)))
    (.cons (.asg (.nm 3) (.lst .nil))
    (.cons (.for_ (.nm 4) (.rng1 (.bi .len (.cons (.var 1) .nil))) (.cons (.exp (.mu .append 3 (.cons (.mu .popAt 2 (.cons (.call 2 (.cons (.var 0) (.cons (.bi .len (.cons (.var 2) .nil)) .nil))) .nil)) .nil)))
        .nil))
    (.cons (.ret (.var 3))
    .nil))))⟩
theorem m_law_mixed : f_law_mixed.mask = [true, false] := Eq.trans rfl rfl
/-- what a world tells of taking -/
structure Tk (W : Wd) : Prop where
  l : W.lm 2 = [true, false]
  g : ∀ p m, W.Γ 2 [.o (.lst (iL p)), .v (.int m)] = .v (.int (tkR p m)) [.lst (iL (tkP p m))]
theorem Tk.of {C : Nat → PyData} {P : Nat → Option Fn} {fuel k : Nat} (h : P 2 = some f_law_take) : Tk (Wk fuel P C (k + 1)) := ⟨lmk h m_law_take, fun p m => by rw [Wk_Γ, take_S h]⟩
/-- the 92 signs -/
def abc : List Nat := (Str.ofString "abcdefghijklmnopqrstuvwxyzABCDEFGHIJKLMNOPQRSTUVWXYZ0123456789!#$&'()*+,./:;<=>?\u0040[]^_{|}~\"").cps.toList
theorem abc_len : abc.length = 90 := by decide +kernel
theorem abc_nd : abc.Nodup := by decide +kernel
theorem abc_lt : ∀ c ∈ abc, 32 < c ∧ c < 127 ∧ c ≠ 45 := by decide +kernel
theorem abc_eq : (Str.ofString "abcdefghijklmnopqrstuvwxyzABCDEFGHIJKLMNOPQRSTUVWXYZ0123456789!#$&'()*+,./:;<=>?\u0040[]^_{|}~\"") = tx abc := (tx_of _).symm
theorem signs_run (fuel : Nat) (W : Wd) (T : Tk W) (n : Nat) (hn : n ≤ 90) (p : List Int) : ∃ s p', runFn fuel W f_law_signs [.o (.lst (iL p)), .v (.int n)] = .v (Tx s) [.lst (iL p')] ∧ s.length = n ∧ s.Nodup ∧ ∀ c ∈ s, c ∈ abc := by
  unfold f_law_signs runFn
  have e1 : biOp .list_ [.str (tx abc)] = some (.o (.lst (abc.map fun c => Tx [c]))) := by
    show (if (tx abc).length ≤ Lm then some (R.o (.lst (signs (tx abc)))) else none) = _
    rw [tx_len, abc_len, if_pos (by decide), signs_tx]
  have s62 : small62 (n : Int) = true := small_nat (by omega)
  simp only [e_int, e_str, e_bl, e_non, e_glob, vr_v, vr_o, e_var, kBin2_ap, kBin1_ap, e_bin, kNeg_ap, e_neg, kNot_ap, e_nott, kAnd_ap, e_and, kOr_ap, e_or, kCmp2_ap, kCmp1_ap, e_cmp, kCh3_ap, kCh2_ap, kCh1_ap, e_cmp2, kIte_ap, e_ite, kTup_ap, e_tup, kLst_ap, e_lst, kSub2_ap, kSub1_ap, e_sub, kSlc3_ap, kSlc2_ap, kSlc1_ap, e_slc, kSlL2_ap, kSlL1_ap, e_slcL, kSlH2_ap, kSlH1_ap, e_slcH, kRev_ap, e_rev, kCall_ap, e_call, kBi_ap, e_bi, kIsi_ap, e_isi, kMu_ap, e_mu, kPm2_ap, kPm1_ap, e_pm, kTn3_ap, kTn2_ap, kTn1_ap, kCE_ap, kComp_ap, e_comp, kTNot_ap, t_nott, kTAnd_ap, t_and, kTOr_ap, t_or, kTVal_ap, t_val, s_nil, kS3_ap, kS2_ap, kS1_ap, s_cons, r_nil, kRr2_ap, kRr1_ap, r_cons, c_nil, kCa_ap, kC2_ap, kC1f_ap, kC1t_ap, c_f, c_t, f_nil, kF_ap, f_cons, kI2_ap, kI1_ap, i_seq, kEn2_ap, kEn1_ap, i_enum, kG1_ap, i_rng1, kG2b_ap, kG2a_ap, i_rng2, st_v, st_o, kSt_ap, st_s, x_nm, kA2_ap, kA1_ap, x_tp, kPar_ap, x_par, kExp_ap, x_exp, kIf_ap, x_ife, kFor_ap, x_for, x_whl, kRet_ap, x_ret, x_retN, x_brk, x_cnt, x_pass, xs_nil, xs_cons, fo_nx, fo_ret, bind_ok_, st_ok_, opd_v, opd_s, opd_o, seq_nx, seq_ret, seq_brk, seq_cnt, optR, optV, optB, view, views, fin, lent, isO, setTg, setAll, setCA, kd, wipes, unwipe, frz, binOp, muOp, truth, seqOf, isNone, callF, lend, slots, back, isLent, List.map_cons, List.map_nil, List.length_cons, List.length_nil, List.cons_append, List.nil_append, List.replicate, Nat.reduceAdd, Nat.reduceSub, List.getElem?_cons_zero, List.getElem?_cons_succ, List.set_cons_zero, List.set_cons_succ, List.getD_cons_zero, List.getD_cons_succ, if_true, if_false, reduceIte, Option.map_some, Option.map_none, List.filterMap_nil, List.filterMap_cons, List.nodup_nil, id_eq, Bool.false_eq_true, nodup1, Wk_Γ, Wk_C, abc_eq, e1, s62]
  generalize hq : forL _ _ _ = o
  obtain ⟨ρ', rfl, q, s, left, b, rfl, hs, hp⟩ := forL_ok hq (fun i ρ => ∃ q s left b, ρ = [.o (.lst (iL q)), .v (.int n), .o (.lst (left.map fun c => Tx [c])), .v (Tx s), b] ∧ s.length = i ∧ (s ++ left).Perm abc) (by
    rintro i x ρ hx ⟨q, s, left, b, rfl, hs, hp⟩
    obtain ⟨rfl, hi⟩ := rng1L_get hx
    rw [Int.toNat_natCast] at hi
    have hlen := hp.length_eq
    rw [List.length_append, abc_len] at hlen
    have e2 : biOp .len [.list (left.map fun c => Tx [c])] = some (.v (.int (left.length : Nat))) := by
      show some (R.v (.int ((left.map fun c => Tx [c]).length : Nat))) = _
      rw [List.length_map]
    have hj : tkN q (left.length : Int) < left.length := tkN_lt q (by omega)
    have hg : left[tkN q (left.length : Int)]? = some left[tkN q (left.length : Int)] := List.getElem?_eq_getElem hj
    have e3 : muOp .popAt (left.map fun c => Tx [c]) [.int (tkR q (left.length : Int))] = some (Tx [left[tkN q (left.length : Int)]], (left.eraseIdx (tkN q (left.length : Int))).map fun c => Tx [c]) := by
      have hw : (leI 0 (tkN q (left.length : Int) : Int) && within 9223372036854775807 (tkN q (left.length : Int) : Int)) = true := by
        rw [Bool.and_eq_true, leI_eq, decide_eq_true_iff, within_iff]
        omega
      rw [tk_N]
      show (if _ then _ else _) = _
      rw [if_pos hw, Int.toNat_natCast, List.getElem?_map, hg, er_map]
      rfl
    have e4 : binOp .Add (Tx s) (Tx [left[tkN q (left.length : Int)]]) = some (.v (Tx (s ++ [left[tkN q (left.length : Int)]]))) := cat_tx (by simp only [List.length_cons, List.length_nil]; exact Nat.le_trans (show s.length + 1 ≤ 91 by omega) (by decide))
    refine ⟨_, .inl ?_, tkP q (left.length : Int), s ++ [left[tkN q (left.length : Int)]], left.eraseIdx (tkN q (left.length : Int)), .v (.int (i : Nat)), rfl, by rw [List.length_append, hs]; rfl, ?_⟩
    · simp only [turnF_ap, e_int, e_str, e_bl, e_non, e_glob, vr_v, vr_o, e_var, kBin2_ap, kBin1_ap, e_bin, kNeg_ap, e_neg, kNot_ap, e_nott, kAnd_ap, e_and, kOr_ap, e_or, kCmp2_ap, kCmp1_ap, e_cmp, kCh3_ap, kCh2_ap, kCh1_ap, e_cmp2, kIte_ap, e_ite, kTup_ap, e_tup, kLst_ap, e_lst, kSub2_ap, kSub1_ap, e_sub, kSlc3_ap, kSlc2_ap, kSlc1_ap, e_slc, kSlL2_ap, kSlL1_ap, e_slcL, kSlH2_ap, kSlH1_ap, e_slcH, kRev_ap, e_rev, kCall_ap, e_call, kBi_ap, e_bi, kIsi_ap, e_isi, kMu_ap, e_mu, kPm2_ap, kPm1_ap, e_pm, kTn3_ap, kTn2_ap, kTn1_ap, kCE_ap, kComp_ap, e_comp, kTNot_ap, t_nott, kTAnd_ap, t_and, kTOr_ap, t_or, kTVal_ap, t_val, s_nil, kS3_ap, kS2_ap, kS1_ap, s_cons, r_nil, kRr2_ap, kRr1_ap, r_cons, c_nil, kCa_ap, kC2_ap, kC1f_ap, kC1t_ap, c_f, c_t, f_nil, kF_ap, f_cons, kI2_ap, kI1_ap, i_seq, kEn2_ap, kEn1_ap, i_enum, kG1_ap, i_rng1, kG2b_ap, kG2a_ap, i_rng2, st_v, st_o, kSt_ap, st_s, x_nm, kA2_ap, kA1_ap, x_tp, kPar_ap, x_par, kExp_ap, x_exp, kIf_ap, x_ife, kFor_ap, x_for, x_whl, kRet_ap, x_ret, x_retN, x_brk, x_cnt, x_pass, xs_nil, xs_cons, fo_nx, fo_ret, bind_ok_, st_ok_, opd_v, opd_s, opd_o, seq_nx, seq_ret, seq_brk, seq_cnt, optR, optV, optB, view, views, fin, lent, isO, setTg, setAll, setCA, kd, wipes, unwipe, frz, truth, seqOf, isNone, callF, lend, slots, back, isLent, List.map_cons, List.map_nil, List.length_cons, List.length_nil, List.cons_append, List.nil_append, List.replicate, Nat.reduceAdd, Nat.reduceSub, List.getElem?_cons_zero, List.getElem?_cons_succ, List.set_cons_zero, List.set_cons_succ, List.getD_cons_zero, List.getD_cons_succ, if_true, if_false, reduceIte, Option.map_some, Option.map_none, List.filterMap_nil, List.filterMap_cons, List.nodup_nil, id_eq, Bool.false_eq_true, nodup1, Wk_Γ, Wk_C, T.l, e2, T.g, e3, e4]
    · rw [List.append_assoc]
      exact (List.Perm.append_left s (erase_perm hg)).trans hp) ⟨p, [], abc, _, rfl, rfl, List.Perm.refl _⟩
  rw [rng1L_len, Int.toNat_natCast] at hs
  have hnd := hp.nodup_iff.mpr abc_nd
  refine ⟨s, q, ?_, hs, (List.nodup_append.mp hnd).1, fun c hc => hp.mem_iff.mp (List.mem_append_left _ hc)⟩
  simp only [e_int, e_str, e_bl, e_non, e_glob, vr_v, vr_o, e_var, kBin2_ap, kBin1_ap, e_bin, kNeg_ap, e_neg, kNot_ap, e_nott, kAnd_ap, e_and, kOr_ap, e_or, kCmp2_ap, kCmp1_ap, e_cmp, kCh3_ap, kCh2_ap, kCh1_ap, e_cmp2, kIte_ap, e_ite, kTup_ap, e_tup, kLst_ap, e_lst, kSub2_ap, kSub1_ap, e_sub, kSlc3_ap, kSlc2_ap, kSlc1_ap, e_slc, kSlL2_ap, kSlL1_ap, e_slcL, kSlH2_ap, kSlH1_ap, e_slcH, kRev_ap, e_rev, kCall_ap, e_call, kBi_ap, e_bi, kIsi_ap, e_isi, kMu_ap, e_mu, kPm2_ap, kPm1_ap, e_pm, kTn3_ap, kTn2_ap, kTn1_ap, kCE_ap, kComp_ap, e_comp, kTNot_ap, t_nott, kTAnd_ap, t_and, kTOr_ap, t_or, kTVal_ap, t_val, s_nil, kS3_ap, kS2_ap, kS1_ap, s_cons, r_nil, kRr2_ap, kRr1_ap, r_cons, c_nil, kCa_ap, kC2_ap, kC1f_ap, kC1t_ap, c_f, c_t, f_nil, kF_ap, f_cons, kI2_ap, kI1_ap, i_seq, kEn2_ap, kEn1_ap, i_enum, kG1_ap, i_rng1, kG2b_ap, kG2a_ap, i_rng2, st_v, st_o, kSt_ap, st_s, x_nm, kA2_ap, kA1_ap, x_tp, kPar_ap, x_par, kExp_ap, x_exp, kIf_ap, x_ife, kFor_ap, x_for, x_whl, kRet_ap, x_ret, x_retN, x_brk, x_cnt, x_pass, xs_nil, xs_cons, fo_nx, fo_ret, bind_ok_, st_ok_, opd_v, opd_s, opd_o, seq_nx, seq_ret, seq_brk, seq_cnt, optR, optV, optB, view, views, fin, lent, isO, setTg, setAll, setCA, kd, wipes, unwipe, frz, binOp, muOp, truth, seqOf, isNone, callF, lend, slots, back, isLent, List.map_cons, List.map_nil, List.length_cons, List.length_nil, List.cons_append, List.nil_append, List.replicate, Nat.reduceAdd, Nat.reduceSub, List.getElem?_cons_zero, List.getElem?_cons_succ, List.set_cons_zero, List.set_cons_succ, List.getD_cons_zero, List.getD_cons_succ, if_true, if_false, reduceIte, Option.map_some, Option.map_none, List.filterMap_nil, List.filterMap_cons, List.nodup_nil, id_eq, Bool.false_eq_true, nodup1, Wk_Γ, Wk_C]
theorem lot_run (fuel : Nat) (W : Wd) (T : Tk W) (l : List Nat) (hl : l.length ≤ Lm) (p : List Int) : ∃ s p', runFn fuel W f_law_lot [.o (.lst (iL p)), .v (Tx l)] = .v (Tx s) [.lst (iL p')] ∧ s.Sublist l := by
  unfold f_law_lot runFn
  have sq : seqOf (Tx l) = some (l.map fun c => Tx [c]) := by
    show some (signs (tx l)) = _
    rw [signs_tx]
  have c4 : ∀ a : Int, cmpOp .Eq (.int a) (.int 0) = some (decide (a = 0)) := fun _ => rfl
  simp only [e_int, e_str, e_bl, e_non, e_glob, vr_v, vr_o, e_var, kBin2_ap, kBin1_ap, e_bin, kNeg_ap, e_neg, kNot_ap, e_nott, kAnd_ap, e_and, kOr_ap, e_or, kCmp2_ap, kCmp1_ap, e_cmp, kCh3_ap, kCh2_ap, kCh1_ap, e_cmp2, kIte_ap, e_ite, kTup_ap, e_tup, kLst_ap, e_lst, kSub2_ap, kSub1_ap, e_sub, kSlc3_ap, kSlc2_ap, kSlc1_ap, e_slc, kSlL2_ap, kSlL1_ap, e_slcL, kSlH2_ap, kSlH1_ap, e_slcH, kRev_ap, e_rev, kCall_ap, e_call, kBi_ap, e_bi, kIsi_ap, e_isi, kMu_ap, e_mu, kPm2_ap, kPm1_ap, e_pm, kTn3_ap, kTn2_ap, kTn1_ap, kCE_ap, kComp_ap, e_comp, kTNot_ap, t_nott, kTAnd_ap, t_and, kTOr_ap, t_or, kTVal_ap, t_val, s_nil, kS3_ap, kS2_ap, kS1_ap, s_cons, r_nil, kRr2_ap, kRr1_ap, r_cons, c_nil, kCa_ap, kC2_ap, kC1f_ap, kC1t_ap, c_f, c_t, f_nil, kF_ap, f_cons, kI2_ap, kI1_ap, i_seq, kEn2_ap, kEn1_ap, i_enum, kG1_ap, i_rng1, kG2b_ap, kG2a_ap, i_rng2, st_v, st_o, kSt_ap, st_s, x_nm, kA2_ap, kA1_ap, x_tp, kPar_ap, x_par, kExp_ap, x_exp, kIf_ap, x_ife, kFor_ap, x_for, x_whl, kRet_ap, x_ret, x_retN, x_brk, x_cnt, x_pass, xs_nil, xs_cons, fo_nx, fo_ret, bind_ok_, st_ok_, opd_v, opd_s, opd_o, seq_nx, seq_ret, seq_brk, seq_cnt, optR, optV, optB, view, views, fin, lent, isO, setTg, setAll, setCA, kd, wipes, unwipe, frz, binOp, muOp, truth, isNone, callF, lend, slots, back, isLent, List.map_cons, List.map_nil, List.length_cons, List.length_nil, List.cons_append, List.nil_append, List.replicate, Nat.reduceAdd, Nat.reduceSub, List.getElem?_cons_zero, List.getElem?_cons_succ, List.set_cons_zero, List.set_cons_succ, List.getD_cons_zero, List.getD_cons_succ, if_true, if_false, reduceIte, Option.map_some, Option.map_none, List.filterMap_nil, List.filterMap_cons, List.nodup_nil, id_eq, Bool.false_eq_true, nodup1, Wk_Γ, Wk_C, T.l, T.g, c4]
  cases h4 : decide (tkR p 4 = 0) with
  | true =>
    simp only [e_int, e_str, e_bl, e_non, e_glob, vr_v, vr_o, e_var, kBin2_ap, kBin1_ap, e_bin, kNeg_ap, e_neg, kNot_ap, e_nott, kAnd_ap, e_and, kOr_ap, e_or, kCmp2_ap, kCmp1_ap, e_cmp, kCh3_ap, kCh2_ap, kCh1_ap, e_cmp2, kIte_ap, e_ite, kTup_ap, e_tup, kLst_ap, e_lst, kSub2_ap, kSub1_ap, e_sub, kSlc3_ap, kSlc2_ap, kSlc1_ap, e_slc, kSlL2_ap, kSlL1_ap, e_slcL, kSlH2_ap, kSlH1_ap, e_slcH, kRev_ap, e_rev, kCall_ap, e_call, kBi_ap, e_bi, kIsi_ap, e_isi, kMu_ap, e_mu, kPm2_ap, kPm1_ap, e_pm, kTn3_ap, kTn2_ap, kTn1_ap, kCE_ap, kComp_ap, e_comp, kTNot_ap, t_nott, kTAnd_ap, t_and, kTOr_ap, t_or, kTVal_ap, t_val, s_nil, kS3_ap, kS2_ap, kS1_ap, s_cons, r_nil, kRr2_ap, kRr1_ap, r_cons, c_nil, kCa_ap, kC2_ap, kC1f_ap, kC1t_ap, c_f, c_t, f_nil, kF_ap, f_cons, kI2_ap, kI1_ap, i_seq, kEn2_ap, kEn1_ap, i_enum, kG1_ap, i_rng1, kG2b_ap, kG2a_ap, i_rng2, st_v, st_o, kSt_ap, st_s, x_nm, kA2_ap, kA1_ap, x_tp, kPar_ap, x_par, kExp_ap, x_exp, kIf_ap, x_ife, kFor_ap, x_for, x_whl, kRet_ap, x_ret, x_retN, x_brk, x_cnt, x_pass, xs_nil, xs_cons, fo_nx, fo_ret, bind_ok_, st_ok_, opd_v, opd_s, opd_o, seq_nx, seq_ret, seq_brk, seq_cnt, optR, optV, optB, view, views, fin, lent, isO, setTg, setAll, setCA, kd, wipes, unwipe, frz, binOp, muOp, truth, isNone, callF, lend, slots, back, isLent, List.map_cons, List.map_nil, List.length_cons, List.length_nil, List.cons_append, List.nil_append, List.replicate, Nat.reduceAdd, Nat.reduceSub, List.getElem?_cons_zero, List.getElem?_cons_succ, List.set_cons_zero, List.set_cons_succ, List.getD_cons_zero, List.getD_cons_succ, if_true, if_false, reduceIte, Option.map_some, Option.map_none, List.filterMap_nil, List.filterMap_cons, List.nodup_nil, id_eq, Bool.false_eq_true, nodup1, Wk_Γ, Wk_C]
    exact ⟨l, _, rfl, List.Sublist.refl _⟩
  | false =>
    simp only [e_int, e_str, e_bl, e_non, e_glob, vr_v, vr_o, e_var, kBin2_ap, kBin1_ap, e_bin, kNeg_ap, e_neg, kNot_ap, e_nott, kAnd_ap, e_and, kOr_ap, e_or, kCmp2_ap, kCmp1_ap, e_cmp, kCh3_ap, kCh2_ap, kCh1_ap, e_cmp2, kIte_ap, e_ite, kTup_ap, e_tup, kLst_ap, e_lst, kSub2_ap, kSub1_ap, e_sub, kSlc3_ap, kSlc2_ap, kSlc1_ap, e_slc, kSlL2_ap, kSlL1_ap, e_slcL, kSlH2_ap, kSlH1_ap, e_slcH, kRev_ap, e_rev, kCall_ap, e_call, kBi_ap, e_bi, kIsi_ap, e_isi, kMu_ap, e_mu, kPm2_ap, kPm1_ap, e_pm, kTn3_ap, kTn2_ap, kTn1_ap, kCE_ap, kComp_ap, e_comp, kTNot_ap, t_nott, kTAnd_ap, t_and, kTOr_ap, t_or, kTVal_ap, t_val, s_nil, kS3_ap, kS2_ap, kS1_ap, s_cons, r_nil, kRr2_ap, kRr1_ap, r_cons, c_nil, kCa_ap, kC2_ap, kC1f_ap, kC1t_ap, c_f, c_t, f_nil, kF_ap, f_cons, kI2_ap, kI1_ap, i_seq, kEn2_ap, kEn1_ap, i_enum, kG1_ap, i_rng1, kG2b_ap, kG2a_ap, i_rng2, st_v, st_o, kSt_ap, st_s, x_nm, kA2_ap, kA1_ap, x_tp, kPar_ap, x_par, kExp_ap, x_exp, kIf_ap, x_ife, kFor_ap, x_for, x_whl, kRet_ap, x_ret, x_retN, x_brk, x_cnt, x_pass, xs_nil, xs_cons, fo_nx, fo_ret, bind_ok_, st_ok_, opd_v, opd_s, opd_o, seq_nx, seq_ret, seq_brk, seq_cnt, optR, optV, optB, view, views, fin, lent, isO, setTg, setAll, setCA, kd, wipes, unwipe, frz, binOp, muOp, truth, isNone, callF, lend, slots, back, isLent, List.map_cons, List.map_nil, List.length_cons, List.length_nil, List.cons_append, List.nil_append, List.replicate, Nat.reduceAdd, Nat.reduceSub, List.getElem?_cons_zero, List.getElem?_cons_succ, List.set_cons_zero, List.set_cons_succ, List.getD_cons_zero, List.getD_cons_succ, if_true, if_false, reduceIte, Option.map_some, Option.map_none, List.filterMap_nil, List.filterMap_cons, List.nodup_nil, id_eq, Bool.false_eq_true, nodup1, Wk_Γ, Wk_C, sq]
    generalize hq : compL _ _ _ _ = o
    obtain ⟨ds, ρ', rfl, q, s, b, rfl, rfl, hs⟩ := compL_ok hq (fun i acc ρ => ∃ q s b, acc = (s.map fun c => Tx [c]) ∧ ρ = [.o (.lst (iL q)), .v (Tx l), b] ∧ s.Sublist (l.take i)) (by
      rintro i x acc ρ hx ⟨q, s, b, rfl, rfl, hs⟩
      rw [List.getElem?_map] at hx
      obtain ⟨c, hc, rfl⟩ := Option.map_eq_some_iff.mp hx
      have hi := (List.getElem?_eq_some_iff.mp hc).1
      have ht : l.take (i + 1) = l.take i ++ [c] := by rw [List.take_succ, hc]; rfl
      simp only [turnC_ap, e_int, e_str, e_bl, e_non, e_glob, vr_v, vr_o, e_var, kBin2_ap, kBin1_ap, e_bin, kNeg_ap, e_neg, kNot_ap, e_nott, kAnd_ap, e_and, kOr_ap, e_or, kCmp2_ap, kCmp1_ap, e_cmp, kCh3_ap, kCh2_ap, kCh1_ap, e_cmp2, kIte_ap, e_ite, kTup_ap, e_tup, kLst_ap, e_lst, kSub2_ap, kSub1_ap, e_sub, kSlc3_ap, kSlc2_ap, kSlc1_ap, e_slc, kSlL2_ap, kSlL1_ap, e_slcL, kSlH2_ap, kSlH1_ap, e_slcH, kRev_ap, e_rev, kCall_ap, e_call, kBi_ap, e_bi, kIsi_ap, e_isi, kMu_ap, e_mu, kPm2_ap, kPm1_ap, e_pm, kTn3_ap, kTn2_ap, kTn1_ap, kCE_ap, kComp_ap, e_comp, kTNot_ap, t_nott, kTAnd_ap, t_and, kTOr_ap, t_or, kTVal_ap, t_val, s_nil, kS3_ap, kS2_ap, kS1_ap, s_cons, r_nil, kRr2_ap, kRr1_ap, r_cons, c_nil, kCa_ap, kC2_ap, kC1f_ap, kC1t_ap, c_f, c_t, f_nil, kF_ap, f_cons, kI2_ap, kI1_ap, i_seq, kEn2_ap, kEn1_ap, i_enum, kG1_ap, i_rng1, kG2b_ap, kG2a_ap, i_rng2, st_v, st_o, kSt_ap, st_s, x_nm, kA2_ap, kA1_ap, x_tp, kPar_ap, x_par, kExp_ap, x_exp, kIf_ap, x_ife, kFor_ap, x_for, x_whl, kRet_ap, x_ret, x_retN, x_brk, x_cnt, x_pass, xs_nil, xs_cons, fo_nx, fo_ret, bind_ok_, st_ok_, opd_v, opd_s, opd_o, seq_nx, seq_ret, seq_brk, seq_cnt, optR, optV, optB, view, views, fin, lent, isO, setTg, setAll, setCA, kd, wipes, unwipe, frz, binOp, muOp, truth, isNone, callF, lend, slots, back, isLent, List.map_cons, List.map_nil, List.length_cons, List.length_nil, List.cons_append, List.nil_append, List.replicate, Nat.reduceAdd, Nat.reduceSub, List.getElem?_cons_zero, List.getElem?_cons_succ, List.set_cons_zero, List.set_cons_succ, List.getD_cons_zero, List.getD_cons_succ, if_true, if_false, reduceIte, Option.map_some, Option.map_none, List.filterMap_nil, List.filterMap_cons, List.nodup_nil, id_eq, Bool.false_eq_true, nodup1, Wk_Γ, Wk_C, T.l, T.g, c4]
      cases h2 : decide (tkR q 2 = 0) with
      | false =>
        simp only [e_int, e_str, e_bl, e_non, e_glob, vr_v, vr_o, e_var, kBin2_ap, kBin1_ap, e_bin, kNeg_ap, e_neg, kNot_ap, e_nott, kAnd_ap, e_and, kOr_ap, e_or, kCmp2_ap, kCmp1_ap, e_cmp, kCh3_ap, kCh2_ap, kCh1_ap, e_cmp2, kIte_ap, e_ite, kTup_ap, e_tup, kLst_ap, e_lst, kSub2_ap, kSub1_ap, e_sub, kSlc3_ap, kSlc2_ap, kSlc1_ap, e_slc, kSlL2_ap, kSlL1_ap, e_slcL, kSlH2_ap, kSlH1_ap, e_slcH, kRev_ap, e_rev, kCall_ap, e_call, kBi_ap, e_bi, kIsi_ap, e_isi, kMu_ap, e_mu, kPm2_ap, kPm1_ap, e_pm, kTn3_ap, kTn2_ap, kTn1_ap, kCE_ap, kComp_ap, e_comp, kTNot_ap, t_nott, kTAnd_ap, t_and, kTOr_ap, t_or, kTVal_ap, t_val, s_nil, kS3_ap, kS2_ap, kS1_ap, s_cons, r_nil, kRr2_ap, kRr1_ap, r_cons, c_nil, kCa_ap, kC2_ap, kC1f_ap, kC1t_ap, c_f, c_t, f_nil, kF_ap, f_cons, kI2_ap, kI1_ap, i_seq, kEn2_ap, kEn1_ap, i_enum, kG1_ap, i_rng1, kG2b_ap, kG2a_ap, i_rng2, st_v, st_o, kSt_ap, st_s, x_nm, kA2_ap, kA1_ap, x_tp, kPar_ap, x_par, kExp_ap, x_exp, kIf_ap, x_ife, kFor_ap, x_for, x_whl, kRet_ap, x_ret, x_retN, x_brk, x_cnt, x_pass, xs_nil, xs_cons, fo_nx, fo_ret, bind_ok_, st_ok_, opd_v, opd_s, opd_o, seq_nx, seq_ret, seq_brk, seq_cnt, optR, optV, optB, view, views, fin, lent, isO, setTg, setAll, setCA, kd, wipes, unwipe, frz, binOp, muOp, truth, isNone, callF, lend, slots, back, isLent, List.map_cons, List.map_nil, List.length_cons, List.length_nil, List.cons_append, List.nil_append, List.replicate, Nat.reduceAdd, Nat.reduceSub, List.getElem?_cons_zero, List.getElem?_cons_succ, List.set_cons_zero, List.set_cons_succ, List.getD_cons_zero, List.getD_cons_succ, if_true, if_false, reduceIte, Option.map_some, Option.map_none, List.filterMap_nil, List.filterMap_cons, List.nodup_nil, id_eq, Bool.false_eq_true, nodup1, Wk_Γ, Wk_C]
        exact ⟨_, _, rfl, _, s, _, rfl, rfl, by rw [ht]; exact hs.trans (List.sublist_append_left _ _)⟩
      | true =>
        simp only [e_int, e_str, e_bl, e_non, e_glob, vr_v, vr_o, e_var, kBin2_ap, kBin1_ap, e_bin, kNeg_ap, e_neg, kNot_ap, e_nott, kAnd_ap, e_and, kOr_ap, e_or, kCmp2_ap, kCmp1_ap, e_cmp, kCh3_ap, kCh2_ap, kCh1_ap, e_cmp2, kIte_ap, e_ite, kTup_ap, e_tup, kLst_ap, e_lst, kSub2_ap, kSub1_ap, e_sub, kSlc3_ap, kSlc2_ap, kSlc1_ap, e_slc, kSlL2_ap, kSlL1_ap, e_slcL, kSlH2_ap, kSlH1_ap, e_slcH, kRev_ap, e_rev, kCall_ap, e_call, kBi_ap, e_bi, kIsi_ap, e_isi, kMu_ap, e_mu, kPm2_ap, kPm1_ap, e_pm, kTn3_ap, kTn2_ap, kTn1_ap, kCE_ap, kComp_ap, e_comp, kTNot_ap, t_nott, kTAnd_ap, t_and, kTOr_ap, t_or, kTVal_ap, t_val, s_nil, kS3_ap, kS2_ap, kS1_ap, s_cons, r_nil, kRr2_ap, kRr1_ap, r_cons, c_nil, kCa_ap, kC2_ap, kC1f_ap, kC1t_ap, c_f, c_t, f_nil, kF_ap, f_cons, kI2_ap, kI1_ap, i_seq, kEn2_ap, kEn1_ap, i_enum, kG1_ap, i_rng1, kG2b_ap, kG2a_ap, i_rng2, st_v, st_o, kSt_ap, st_s, x_nm, kA2_ap, kA1_ap, x_tp, kPar_ap, x_par, kExp_ap, x_exp, kIf_ap, x_ife, kFor_ap, x_for, x_whl, kRet_ap, x_ret, x_retN, x_brk, x_cnt, x_pass, xs_nil, xs_cons, fo_nx, fo_ret, bind_ok_, st_ok_, opd_v, opd_s, opd_o, seq_nx, seq_ret, seq_brk, seq_cnt, optR, optV, optB, view, views, fin, lent, isO, setTg, setAll, setCA, kd, wipes, unwipe, frz, binOp, muOp, truth, isNone, callF, lend, slots, back, isLent, List.map_cons, List.map_nil, List.length_cons, List.length_nil, List.cons_append, List.nil_append, List.replicate, Nat.reduceAdd, Nat.reduceSub, List.getElem?_cons_zero, List.getElem?_cons_succ, List.set_cons_zero, List.set_cons_succ, List.getD_cons_zero, List.getD_cons_succ, if_true, if_false, reduceIte, Option.map_some, Option.map_none, List.filterMap_nil, List.filterMap_cons, List.nodup_nil, id_eq, Bool.false_eq_true, nodup1, Wk_Γ, Wk_C]
        refine ⟨_, _, rfl, ?_, _, s ++ [c], _, by rw [List.map_append]; rfl, rfl, by rw [ht]; exact hs.append (List.Sublist.refl _)⟩
        have := hs.length_le
        rw [List.length_take] at this
        rw [List.length_map]
        exact Nat.lt_of_lt_of_le (show s.length < l.length by omega) hl) ⟨_, [], _, rfl, rfl, List.Sublist.refl _⟩
    rw [List.length_map, List.take_length] at hs
    have hj := join_signs (l := s) (Nat.le_trans hs.length_le hl)
    simp only [e_int, e_str, e_bl, e_non, e_glob, vr_v, vr_o, e_var, kBin2_ap, kBin1_ap, e_bin, kNeg_ap, e_neg, kNot_ap, e_nott, kAnd_ap, e_and, kOr_ap, e_or, kCmp2_ap, kCmp1_ap, e_cmp, kCh3_ap, kCh2_ap, kCh1_ap, e_cmp2, kIte_ap, e_ite, kTup_ap, e_tup, kLst_ap, e_lst, kSub2_ap, kSub1_ap, e_sub, kSlc3_ap, kSlc2_ap, kSlc1_ap, e_slc, kSlL2_ap, kSlL1_ap, e_slcL, kSlH2_ap, kSlH1_ap, e_slcH, kRev_ap, e_rev, kCall_ap, e_call, kBi_ap, e_bi, kIsi_ap, e_isi, kMu_ap, e_mu, kPm2_ap, kPm1_ap, e_pm, kTn3_ap, kTn2_ap, kTn1_ap, kCE_ap, kComp_ap, e_comp, kTNot_ap, t_nott, kTAnd_ap, t_and, kTOr_ap, t_or, kTVal_ap, t_val, s_nil, kS3_ap, kS2_ap, kS1_ap, s_cons, r_nil, kRr2_ap, kRr1_ap, r_cons, c_nil, kCa_ap, kC2_ap, kC1f_ap, kC1t_ap, c_f, c_t, f_nil, kF_ap, f_cons, kI2_ap, kI1_ap, i_seq, kEn2_ap, kEn1_ap, i_enum, kG1_ap, i_rng1, kG2b_ap, kG2a_ap, i_rng2, st_v, st_o, kSt_ap, st_s, x_nm, kA2_ap, kA1_ap, x_tp, kPar_ap, x_par, kExp_ap, x_exp, kIf_ap, x_ife, kFor_ap, x_for, x_whl, kRet_ap, x_ret, x_retN, x_brk, x_cnt, x_pass, xs_nil, xs_cons, fo_nx, fo_ret, bind_ok_, st_ok_, opd_v, opd_s, opd_o, seq_nx, seq_ret, seq_brk, seq_cnt, optR, optV, optB, view, views, fin, lent, isO, setTg, setAll, setCA, kd, wipes, unwipe, frz, binOp, muOp, truth, isNone, callF, lend, slots, back, isLent, List.map_cons, List.map_nil, List.length_cons, List.length_nil, List.cons_append, List.nil_append, List.replicate, Nat.reduceAdd, Nat.reduceSub, List.getElem?_cons_zero, List.getElem?_cons_succ, List.set_cons_zero, List.set_cons_succ, List.getD_cons_zero, List.getD_cons_succ, if_true, if_false, reduceIte, Option.map_some, Option.map_none, List.filterMap_nil, List.filterMap_cons, List.nodup_nil, id_eq, Bool.false_eq_true, nodup1, Wk_Γ, Wk_C, hj]
    exact ⟨s, _, rfl, hs⟩
/-- the letters -/
def ltr : List Nat := (Str.ofString "abcdefghijklmnopqrstuvwxyz").cps.toList
theorem ltr_len : ltr.length = 26 := by decide +kernel
theorem ltr_in : ∀ c ∈ ltr, 97 ≤ c ∧ c ≤ 122 := by decide +kernel
theorem ltr_eq : (Str.ofString "abcdefghijklmnopqrstuvwxyz") = tx ltr := (tx_of _).symm
theorem kind_run (fuel : Nat) (W : Wd) (T : Tk W) (p : List Int) : ∃ s p', runFn fuel W f_law_kind [.o (.lst (iL p))] = .v (Tx s) [.lst (iL p')] ∧ s ≠ [] ∧ s.length ≤ 8 ∧ ∀ c ∈ s, 97 ≤ c ∧ c ≤ 122 := by
  unfold f_law_kind runFn
  obtain ⟨f, hf⟩ := pickT (l := ltr) (by rw [ltr_len]; decide) (by intro h; have := ltr_len; rw [h] at this; cases this)
  have hf2 : ∀ p, subOp (.str (tx ltr)) (.int (tkR p 26)) = some (Tx [f p]) := fun p => by
    have := (hf p).2
    rwa [ltr_len] at this
  have h8 := tk_lt p (m := 8) (by decide)
  have h0 := tk_nn p 8
  have s62 : small62 (1 + tkR p 8) = true := small_int (by omega) (by omega)
  simp only [e_int, e_str, e_bl, e_non, e_glob, vr_v, vr_o, e_var, kBin2_ap, kBin1_ap, e_bin, kNeg_ap, e_neg, kNot_ap, e_nott, kAnd_ap, e_and, kOr_ap, e_or, kCmp2_ap, kCmp1_ap, e_cmp, kCh3_ap, kCh2_ap, kCh1_ap, e_cmp2, kIte_ap, e_ite, kTup_ap, e_tup, kLst_ap, e_lst, kSub2_ap, kSub1_ap, e_sub, kSlc3_ap, kSlc2_ap, kSlc1_ap, e_slc, kSlL2_ap, kSlL1_ap, e_slcL, kSlH2_ap, kSlH1_ap, e_slcH, kRev_ap, e_rev, kCall_ap, e_call, kBi_ap, e_bi, kIsi_ap, e_isi, kMu_ap, e_mu, kPm2_ap, kPm1_ap, e_pm, kTn3_ap, kTn2_ap, kTn1_ap, kCE_ap, kComp_ap, e_comp, kTNot_ap, t_nott, kTAnd_ap, t_and, kTOr_ap, t_or, kTVal_ap, t_val, s_nil, kS3_ap, kS2_ap, kS1_ap, s_cons, r_nil, kRr2_ap, kRr1_ap, r_cons, c_nil, kCa_ap, kC2_ap, kC1f_ap, kC1t_ap, c_f, c_t, f_nil, kF_ap, f_cons, kI2_ap, kI1_ap, i_seq, kEn2_ap, kEn1_ap, i_enum, kG1_ap, i_rng1, kG2b_ap, kG2a_ap, i_rng2, st_v, st_o, kSt_ap, st_s, x_nm, kA2_ap, kA1_ap, x_tp, kPar_ap, x_par, kExp_ap, x_exp, kIf_ap, x_ife, kFor_ap, x_for, x_whl, kRet_ap, x_ret, x_retN, x_brk, x_cnt, x_pass, xs_nil, xs_cons, fo_nx, fo_ret, bind_ok_, st_ok_, opd_v, opd_s, opd_o, seq_nx, seq_ret, seq_brk, seq_cnt, optR, optV, optB, view, views, fin, lent, isO, setTg, setAll, setCA, kd, wipes, unwipe, frz, binOp, muOp, truth, seqOf, isNone, callF, lend, slots, back, isLent, List.map_cons, List.map_nil, List.length_cons, List.length_nil, List.cons_append, List.nil_append, List.replicate, Nat.reduceAdd, Nat.reduceSub, List.getElem?_cons_zero, List.getElem?_cons_succ, List.set_cons_zero, List.set_cons_succ, List.getD_cons_zero, List.getD_cons_succ, if_true, if_false, reduceIte, Option.map_some, Option.map_none, List.filterMap_nil, List.filterMap_cons, List.nodup_nil, id_eq, Bool.false_eq_true, nodup1, Wk_Γ, Wk_C, ltr_eq, T.l, T.g, s62]
  generalize hq : compL _ _ _ _ = o
  obtain ⟨ds, ρ', rfl, q, s, b, rfl, rfl, hs, hm⟩ := compL_ok hq (fun i acc ρ => ∃ q s b, acc = s.map (fun c => Tx [c]) ∧ ρ = [.o (.lst (iL q)), .v (.str (tx ltr)), b] ∧ s.length = i ∧ ∀ c ∈ s, 97 ≤ c ∧ c ≤ 122) (by
    rintro i x acc ρ hx ⟨q, s, b, rfl, rfl, hs, hm⟩
    obtain ⟨rfl, hi⟩ := rng1L_get hx
    simp only [turnC_ap, e_int, e_str, e_bl, e_non, e_glob, vr_v, vr_o, e_var, kBin2_ap, kBin1_ap, e_bin, kNeg_ap, e_neg, kNot_ap, e_nott, kAnd_ap, e_and, kOr_ap, e_or, kCmp2_ap, kCmp1_ap, e_cmp, kCh3_ap, kCh2_ap, kCh1_ap, e_cmp2, kIte_ap, e_ite, kTup_ap, e_tup, kLst_ap, e_lst, kSub2_ap, kSub1_ap, e_sub, kSlc3_ap, kSlc2_ap, kSlc1_ap, e_slc, kSlL2_ap, kSlL1_ap, e_slcL, kSlH2_ap, kSlH1_ap, e_slcH, kRev_ap, e_rev, kCall_ap, e_call, kBi_ap, e_bi, kIsi_ap, e_isi, kMu_ap, e_mu, kPm2_ap, kPm1_ap, e_pm, kTn3_ap, kTn2_ap, kTn1_ap, kCE_ap, kComp_ap, e_comp, kTNot_ap, t_nott, kTAnd_ap, t_and, kTOr_ap, t_or, kTVal_ap, t_val, s_nil, kS3_ap, kS2_ap, kS1_ap, s_cons, r_nil, kRr2_ap, kRr1_ap, r_cons, c_nil, kCa_ap, kC2_ap, kC1f_ap, kC1t_ap, c_f, c_t, f_nil, kF_ap, f_cons, kI2_ap, kI1_ap, i_seq, kEn2_ap, kEn1_ap, i_enum, kG1_ap, i_rng1, kG2b_ap, kG2a_ap, i_rng2, st_v, st_o, kSt_ap, st_s, x_nm, kA2_ap, kA1_ap, x_tp, kPar_ap, x_par, kExp_ap, x_exp, kIf_ap, x_ife, kFor_ap, x_for, x_whl, kRet_ap, x_ret, x_retN, x_brk, x_cnt, x_pass, xs_nil, xs_cons, fo_nx, fo_ret, bind_ok_, st_ok_, opd_v, opd_s, opd_o, seq_nx, seq_ret, seq_brk, seq_cnt, optR, optV, optB, view, views, fin, lent, isO, setTg, setAll, setCA, kd, wipes, unwipe, frz, binOp, muOp, truth, seqOf, isNone, callF, lend, slots, back, isLent, List.map_cons, List.map_nil, List.length_cons, List.length_nil, List.cons_append, List.nil_append, List.replicate, Nat.reduceAdd, Nat.reduceSub, List.getElem?_cons_zero, List.getElem?_cons_succ, List.set_cons_zero, List.set_cons_succ, List.getD_cons_zero, List.getD_cons_succ, if_true, if_false, reduceIte, Option.map_some, Option.map_none, List.filterMap_nil, List.filterMap_cons, List.nodup_nil, id_eq, Bool.false_eq_true, nodup1, Wk_Γ, Wk_C, T.l, T.g, hf2]
    refine ⟨_, _, rfl, ?_, _, s ++ [f q], _, by rw [List.map_append]; rfl, rfl, by rw [List.length_append, hs]; rfl, fun c hc => ?_⟩
    · rw [List.length_map, hs]
      exact Nat.lt_of_lt_of_le (show i < 9 by omega) (by decide)
    · rcases List.mem_append.mp hc with h | h
      · exact hm c h
      · rw [List.mem_singleton.mp h]
        exact ltr_in _ (hf q).1) ⟨_, [], _, rfl, rfl, rfl, fun c h => by cases h⟩
  rw [rng1L_len] at hs
  have hj := join_signs (l := s) (Nat.le_trans (show s.length ≤ 8 by omega) (by decide))
  simp only [e_int, e_str, e_bl, e_non, e_glob, vr_v, vr_o, e_var, kBin2_ap, kBin1_ap, e_bin, kNeg_ap, e_neg, kNot_ap, e_nott, kAnd_ap, e_and, kOr_ap, e_or, kCmp2_ap, kCmp1_ap, e_cmp, kCh3_ap, kCh2_ap, kCh1_ap, e_cmp2, kIte_ap, e_ite, kTup_ap, e_tup, kLst_ap, e_lst, kSub2_ap, kSub1_ap, e_sub, kSlc3_ap, kSlc2_ap, kSlc1_ap, e_slc, kSlL2_ap, kSlL1_ap, e_slcL, kSlH2_ap, kSlH1_ap, e_slcH, kRev_ap, e_rev, kCall_ap, e_call, kBi_ap, e_bi, kIsi_ap, e_isi, kMu_ap, e_mu, kPm2_ap, kPm1_ap, e_pm, kTn3_ap, kTn2_ap, kTn1_ap, kCE_ap, kComp_ap, e_comp, kTNot_ap, t_nott, kTAnd_ap, t_and, kTOr_ap, t_or, kTVal_ap, t_val, s_nil, kS3_ap, kS2_ap, kS1_ap, s_cons, r_nil, kRr2_ap, kRr1_ap, r_cons, c_nil, kCa_ap, kC2_ap, kC1f_ap, kC1t_ap, c_f, c_t, f_nil, kF_ap, f_cons, kI2_ap, kI1_ap, i_seq, kEn2_ap, kEn1_ap, i_enum, kG1_ap, i_rng1, kG2b_ap, kG2a_ap, i_rng2, st_v, st_o, kSt_ap, st_s, x_nm, kA2_ap, kA1_ap, x_tp, kPar_ap, x_par, kExp_ap, x_exp, kIf_ap, x_ife, kFor_ap, x_for, x_whl, kRet_ap, x_ret, x_retN, x_brk, x_cnt, x_pass, xs_nil, xs_cons, fo_nx, fo_ret, bind_ok_, st_ok_, opd_v, opd_s, opd_o, seq_nx, seq_ret, seq_brk, seq_cnt, optR, optV, optB, view, views, fin, lent, isO, setTg, setAll, setCA, kd, wipes, unwipe, frz, binOp, muOp, truth, seqOf, isNone, callF, lend, slots, back, isLent, List.map_cons, List.map_nil, List.length_cons, List.length_nil, List.cons_append, List.nil_append, List.replicate, Nat.reduceAdd, Nat.reduceSub, List.getElem?_cons_zero, List.getElem?_cons_succ, List.set_cons_zero, List.set_cons_succ, List.getD_cons_zero, List.getD_cons_succ, if_true, if_false, reduceIte, Option.map_some, Option.map_none, List.filterMap_nil, List.filterMap_cons, List.nodup_nil, id_eq, Bool.false_eq_true, nodup1, Wk_Γ, Wk_C, hj]
  refine ⟨s, _, rfl, ?_, by omega, hm⟩
  rintro rfl
  rw [List.length_nil] at hs
  omega
theorem text_run (fuel : Nat) (W : Wd) (T : Tk W) (l : List Nat) (hl : l.length ≤ Lm) (h0 : l ≠ []) (most : Nat) (hm : most < 1000000) (p : List Int) : ∃ s p', runFn fuel W f_law_text [.o (.lst (iL p)), .v (Tx l), .v (.int most)] = .v (Tx s) [.lst (iL p')] ∧ s.length ≤ most ∧ ∀ c ∈ s, c ∈ l := by
  unfold f_law_text runFn
  obtain ⟨f, hf⟩ := pickT hl h0
  have hf2 : ∀ p, subOp (Tx l) (.int (tkR p (l.length : Int))) = some (Tx [f p]) := fun p => (hf p).2
  have h8 := tk_lt p (m := (most : Int) + 1) (by omega)
  have h00 := tk_nn p ((most : Int) + 1)
  have s62 : small62 (tkR p ((most : Int) + 1)) = true := small_int (by omega) (by omega)
  simp only [e_int, e_str, e_bl, e_non, e_glob, vr_v, vr_o, e_var, kBin2_ap, kBin1_ap, e_bin, kNeg_ap, e_neg, kNot_ap, e_nott, kAnd_ap, e_and, kOr_ap, e_or, kCmp2_ap, kCmp1_ap, e_cmp, kCh3_ap, kCh2_ap, kCh1_ap, e_cmp2, kIte_ap, e_ite, kTup_ap, e_tup, kLst_ap, e_lst, kSub2_ap, kSub1_ap, e_sub, kSlc3_ap, kSlc2_ap, kSlc1_ap, e_slc, kSlL2_ap, kSlL1_ap, e_slcL, kSlH2_ap, kSlH1_ap, e_slcH, kRev_ap, e_rev, kCall_ap, e_call, kBi_ap, e_bi, kIsi_ap, e_isi, kMu_ap, e_mu, kPm2_ap, kPm1_ap, e_pm, kTn3_ap, kTn2_ap, kTn1_ap, kCE_ap, kComp_ap, e_comp, kTNot_ap, t_nott, kTAnd_ap, t_and, kTOr_ap, t_or, kTVal_ap, t_val, s_nil, kS3_ap, kS2_ap, kS1_ap, s_cons, r_nil, kRr2_ap, kRr1_ap, r_cons, c_nil, kCa_ap, kC2_ap, kC1f_ap, kC1t_ap, c_f, c_t, f_nil, kF_ap, f_cons, kI2_ap, kI1_ap, i_seq, kEn2_ap, kEn1_ap, i_enum, kG1_ap, i_rng1, kG2b_ap, kG2a_ap, i_rng2, st_v, st_o, kSt_ap, st_s, x_nm, kA2_ap, kA1_ap, x_tp, kPar_ap, x_par, kExp_ap, x_exp, kIf_ap, x_ife, kFor_ap, x_for, x_whl, kRet_ap, x_ret, x_retN, x_brk, x_cnt, x_pass, xs_nil, xs_cons, fo_nx, fo_ret, bind_ok_, st_ok_, opd_v, opd_s, opd_o, seq_nx, seq_ret, seq_brk, seq_cnt, optR, optV, optB, view, views, fin, lent, isO, setTg, setAll, setCA, kd, wipes, unwipe, frz, binOp, muOp, truth, seqOf, isNone, callF, lend, slots, back, isLent, List.map_cons, List.map_nil, List.length_cons, List.length_nil, List.cons_append, List.nil_append, List.replicate, Nat.reduceAdd, Nat.reduceSub, List.getElem?_cons_zero, List.getElem?_cons_succ, List.set_cons_zero, List.set_cons_succ, List.getD_cons_zero, List.getD_cons_succ, if_true, if_false, reduceIte, Option.map_some, Option.map_none, List.filterMap_nil, List.filterMap_cons, List.nodup_nil, id_eq, Bool.false_eq_true, nodup1, Wk_Γ, Wk_C, T.l, T.g, s62]
  generalize hq : compL _ _ _ _ = o
  obtain ⟨ds, ρ', rfl, q, s, b, rfl, rfl, hs, hm⟩ := compL_ok hq (fun i acc ρ => ∃ q s b, acc = s.map (fun c => Tx [c]) ∧ ρ = [.o (.lst (iL q)), .v (Tx l), .v (.int most), b] ∧ s.length = i ∧ ∀ c ∈ s, c ∈ l) (by
    rintro i x acc ρ hx ⟨q, s, b, rfl, rfl, hs, hm⟩
    obtain ⟨rfl, hi⟩ := rng1L_get hx
    simp only [turnC_ap, e_int, e_str, e_bl, e_non, e_glob, vr_v, vr_o, e_var, kBin2_ap, kBin1_ap, e_bin, kNeg_ap, e_neg, kNot_ap, e_nott, kAnd_ap, e_and, kOr_ap, e_or, kCmp2_ap, kCmp1_ap, e_cmp, kCh3_ap, kCh2_ap, kCh1_ap, e_cmp2, kIte_ap, e_ite, kTup_ap, e_tup, kLst_ap, e_lst, kSub2_ap, kSub1_ap, e_sub, kSlc3_ap, kSlc2_ap, kSlc1_ap, e_slc, kSlL2_ap, kSlL1_ap, e_slcL, kSlH2_ap, kSlH1_ap, e_slcH, kRev_ap, e_rev, kCall_ap, e_call, kBi_ap, e_bi, kIsi_ap, e_isi, kMu_ap, e_mu, kPm2_ap, kPm1_ap, e_pm, kTn3_ap, kTn2_ap, kTn1_ap, kCE_ap, kComp_ap, e_comp, kTNot_ap, t_nott, kTAnd_ap, t_and, kTOr_ap, t_or, kTVal_ap, t_val, s_nil, kS3_ap, kS2_ap, kS1_ap, s_cons, r_nil, kRr2_ap, kRr1_ap, r_cons, c_nil, kCa_ap, kC2_ap, kC1f_ap, kC1t_ap, c_f, c_t, f_nil, kF_ap, f_cons, kI2_ap, kI1_ap, i_seq, kEn2_ap, kEn1_ap, i_enum, kG1_ap, i_rng1, kG2b_ap, kG2a_ap, i_rng2, st_v, st_o, kSt_ap, st_s, x_nm, kA2_ap, kA1_ap, x_tp, kPar_ap, x_par, kExp_ap, x_exp, kIf_ap, x_ife, kFor_ap, x_for, x_whl, kRet_ap, x_ret, x_retN, x_brk, x_cnt, x_pass, xs_nil, xs_cons, fo_nx, fo_ret, bind_ok_, st_ok_, opd_v, opd_s, opd_o, seq_nx, seq_ret, seq_brk, seq_cnt, optR, optV, optB, view, views, fin, lent, isO, setTg, setAll, setCA, kd, wipes, unwipe, frz, binOp, muOp, truth, seqOf, isNone, callF, lend, slots, back, isLent, List.map_cons, List.map_nil, List.length_cons, List.length_nil, List.cons_append, List.nil_append, List.replicate, Nat.reduceAdd, Nat.reduceSub, List.getElem?_cons_zero, List.getElem?_cons_succ, List.set_cons_zero, List.set_cons_succ, List.getD_cons_zero, List.getD_cons_succ, if_true, if_false, reduceIte, Option.map_some, Option.map_none, List.filterMap_nil, List.filterMap_cons, List.nodup_nil, id_eq, Bool.false_eq_true, nodup1, Wk_Γ, Wk_C, T.l, T.g, len_tx hl, hf2]
    refine ⟨_, _, rfl, ?_, _, s ++ [f q], _, by rw [List.map_append]; rfl, rfl, by rw [List.length_append, hs]; rfl, fun c hc => ?_⟩
    · rw [List.length_map, hs]
      exact Nat.lt_of_lt_of_le (show i < 1000000 by omega) (by decide)
    · rcases List.mem_append.mp hc with h | h
      · exact hm c h
      · rw [List.mem_singleton.mp h]
        exact (hf q).1) ⟨_, [], _, rfl, rfl, rfl, fun c h => by cases h⟩
  rw [rng1L_len] at hs
  have hj := join_signs (l := s) (Nat.le_trans (show s.length ≤ 1000000 by omega) (by decide))
  simp only [e_int, e_str, e_bl, e_non, e_glob, vr_v, vr_o, e_var, kBin2_ap, kBin1_ap, e_bin, kNeg_ap, e_neg, kNot_ap, e_nott, kAnd_ap, e_and, kOr_ap, e_or, kCmp2_ap, kCmp1_ap, e_cmp, kCh3_ap, kCh2_ap, kCh1_ap, e_cmp2, kIte_ap, e_ite, kTup_ap, e_tup, kLst_ap, e_lst, kSub2_ap, kSub1_ap, e_sub, kSlc3_ap, kSlc2_ap, kSlc1_ap, e_slc, kSlL2_ap, kSlL1_ap, e_slcL, kSlH2_ap, kSlH1_ap, e_slcH, kRev_ap, e_rev, kCall_ap, e_call, kBi_ap, e_bi, kIsi_ap, e_isi, kMu_ap, e_mu, kPm2_ap, kPm1_ap, e_pm, kTn3_ap, kTn2_ap, kTn1_ap, kCE_ap, kComp_ap, e_comp, kTNot_ap, t_nott, kTAnd_ap, t_and, kTOr_ap, t_or, kTVal_ap, t_val, s_nil, kS3_ap, kS2_ap, kS1_ap, s_cons, r_nil, kRr2_ap, kRr1_ap, r_cons, c_nil, kCa_ap, kC2_ap, kC1f_ap, kC1t_ap, c_f, c_t, f_nil, kF_ap, f_cons, kI2_ap, kI1_ap, i_seq, kEn2_ap, kEn1_ap, i_enum, kG1_ap, i_rng1, kG2b_ap, kG2a_ap, i_rng2, st_v, st_o, kSt_ap, st_s, x_nm, kA2_ap, kA1_ap, x_tp, kPar_ap, x_par, kExp_ap, x_exp, kIf_ap, x_ife, kFor_ap, x_for, x_whl, kRet_ap, x_ret, x_retN, x_brk, x_cnt, x_pass, xs_nil, xs_cons, fo_nx, fo_ret, bind_ok_, st_ok_, opd_v, opd_s, opd_o, seq_nx, seq_ret, seq_brk, seq_cnt, optR, optV, optB, view, views, fin, lent, isO, setTg, setAll, setCA, kd, wipes, unwipe, frz, binOp, muOp, truth, seqOf, isNone, callF, lend, slots, back, isLent, List.map_cons, List.map_nil, List.length_cons, List.length_nil, List.cons_append, List.nil_append, List.replicate, Nat.reduceAdd, Nat.reduceSub, List.getElem?_cons_zero, List.getElem?_cons_succ, List.set_cons_zero, List.set_cons_succ, List.getD_cons_zero, List.getD_cons_succ, if_true, if_false, reduceIte, Option.map_some, Option.map_none, List.filterMap_nil, List.filterMap_cons, List.nodup_nil, id_eq, Bool.false_eq_true, nodup1, Wk_Γ, Wk_C, hj]
  exact ⟨s, _, rfl, by omega, hm⟩
theorem mixed_run (fuel : Nat) (W : Wd) (T : Tk W) (row : PyData) (xs : List PyData) (h1 : biOp .list_ [row] = some (.o (.lst xs))) (h2 : biOp .len [row] = some (.v (.int xs.length))) (hl : xs.length < 1000000) (p : List Int) : ∃ ys p', runFn fuel W f_law_mixed [.o (.lst (iL p)), .v row] = .o (.lst ys) [.lst (iL p')] ∧ ys.Perm xs := by
  unfold f_law_mixed runFn
  have s62 : small62 (xs.length : Int) = true := small_nat hl
  simp only [e_int, e_str, e_bl, e_non, e_glob, vr_v, vr_o, e_var, kBin2_ap, kBin1_ap, e_bin, kNeg_ap, e_neg, kNot_ap, e_nott, kAnd_ap, e_and, kOr_ap, e_or, kCmp2_ap, kCmp1_ap, e_cmp, kCh3_ap, kCh2_ap, kCh1_ap, e_cmp2, kIte_ap, e_ite, kTup_ap, e_tup, kLst_ap, e_lst, kSub2_ap, kSub1_ap, e_sub, kSlc3_ap, kSlc2_ap, kSlc1_ap, e_slc, kSlL2_ap, kSlL1_ap, e_slcL, kSlH2_ap, kSlH1_ap, e_slcH, kRev_ap, e_rev, kCall_ap, e_call, kBi_ap, e_bi, kIsi_ap, e_isi, kMu_ap, e_mu, kPm2_ap, kPm1_ap, e_pm, kTn3_ap, kTn2_ap, kTn1_ap, kCE_ap, kComp_ap, e_comp, kTNot_ap, t_nott, kTAnd_ap, t_and, kTOr_ap, t_or, kTVal_ap, t_val, s_nil, kS3_ap, kS2_ap, kS1_ap, s_cons, r_nil, kRr2_ap, kRr1_ap, r_cons, c_nil, kCa_ap, kC2_ap, kC1f_ap, kC1t_ap, c_f, c_t, f_nil, kF_ap, f_cons, kI2_ap, kI1_ap, i_seq, kEn2_ap, kEn1_ap, i_enum, kG1_ap, i_rng1, kG2b_ap, kG2a_ap, i_rng2, st_v, st_o, kSt_ap, st_s, x_nm, kA2_ap, kA1_ap, x_tp, kPar_ap, x_par, kExp_ap, x_exp, kIf_ap, x_ife, kFor_ap, x_for, x_whl, kRet_ap, x_ret, x_retN, x_brk, x_cnt, x_pass, xs_nil, xs_cons, fo_nx, fo_ret, bind_ok_, st_ok_, opd_v, opd_s, opd_o, seq_nx, seq_ret, seq_brk, seq_cnt, optR, optV, optB, view, views, fin, lent, isO, setTg, setAll, setCA, kd, wipes, unwipe, frz, binOp, muOp, truth, seqOf, isNone, callF, lend, slots, back, isLent, List.map_cons, List.map_nil, List.length_cons, List.length_nil, List.cons_append, List.nil_append, List.replicate, Nat.reduceAdd, Nat.reduceSub, List.getElem?_cons_zero, List.getElem?_cons_succ, List.set_cons_zero, List.set_cons_succ, List.getD_cons_zero, List.getD_cons_succ, if_true, if_false, reduceIte, Option.map_some, Option.map_none, List.filterMap_nil, List.filterMap_cons, List.nodup_nil, id_eq, Bool.false_eq_true, nodup1, Wk_Γ, Wk_C, h1, h2, s62]
  generalize hq : forL _ _ _ = o
  obtain ⟨ρ', rfl, q, s, left, b, rfl, hs, hp⟩ := forL_ok hq (fun i ρ => ∃ q s left b, ρ = [.o (.lst (iL q)), .v row, .o (.lst left), .o (.lst s), b] ∧ s.length = i ∧ (s ++ left).Perm xs) (by
    rintro i x ρ hx ⟨q, s, left, b, rfl, hs, hp⟩
    obtain ⟨rfl, hi⟩ := rng1L_get hx
    rw [Int.toNat_natCast] at hi
    have hlen := hp.length_eq
    rw [List.length_append] at hlen
    have e2 : biOp .len [.list left] = some (.v (.int (left.length : Nat))) := rfl
    have hj : tkN q (left.length : Int) < left.length := tkN_lt q (by omega)
    have hg : left[tkN q (left.length : Int)]? = some left[tkN q (left.length : Int)] := List.getElem?_eq_getElem hj
    have e3 : muOp .popAt left [.int (tkR q (left.length : Int))] = some (left[tkN q (left.length : Int)], left.eraseIdx (tkN q (left.length : Int))) := by
      have hw : (leI 0 (tkN q (left.length : Int) : Int) && within 9223372036854775807 (tkN q (left.length : Int) : Int)) = true := by
        rw [Bool.and_eq_true, leI_eq, decide_eq_true_iff, within_iff]
        omega
      rw [tk_N]
      show (if _ then _ else _) = _
      rw [if_pos hw, Int.toNat_natCast, hg]
      rfl
    have e4 : muOp .append s [left[tkN q (left.length : Int)]] = some (.none, s ++ [left[tkN q (left.length : Int)]]) := by
      show (if s.length < Lm then _ else _) = _
      rw [if_pos (Nat.lt_of_lt_of_le (show s.length < 1000000 by omega) (by decide))]
    refine ⟨_, .inl ?_, tkP q (left.length : Int), s ++ [left[tkN q (left.length : Int)]], left.eraseIdx (tkN q (left.length : Int)), .v (.int (i : Nat)), rfl, by rw [List.length_append, hs]; rfl, ?_⟩
    · simp only [turnF_ap, e_int, e_str, e_bl, e_non, e_glob, vr_v, vr_o, e_var, kBin2_ap, kBin1_ap, e_bin, kNeg_ap, e_neg, kNot_ap, e_nott, kAnd_ap, e_and, kOr_ap, e_or, kCmp2_ap, kCmp1_ap, e_cmp, kCh3_ap, kCh2_ap, kCh1_ap, e_cmp2, kIte_ap, e_ite, kTup_ap, e_tup, kLst_ap, e_lst, kSub2_ap, kSub1_ap, e_sub, kSlc3_ap, kSlc2_ap, kSlc1_ap, e_slc, kSlL2_ap, kSlL1_ap, e_slcL, kSlH2_ap, kSlH1_ap, e_slcH, kRev_ap, e_rev, kCall_ap, e_call, kBi_ap, e_bi, kIsi_ap, e_isi, kMu_ap, e_mu, kPm2_ap, kPm1_ap, e_pm, kTn3_ap, kTn2_ap, kTn1_ap, kCE_ap, kComp_ap, e_comp, kTNot_ap, t_nott, kTAnd_ap, t_and, kTOr_ap, t_or, kTVal_ap, t_val, s_nil, kS3_ap, kS2_ap, kS1_ap, s_cons, r_nil, kRr2_ap, kRr1_ap, r_cons, c_nil, kCa_ap, kC2_ap, kC1f_ap, kC1t_ap, c_f, c_t, f_nil, kF_ap, f_cons, kI2_ap, kI1_ap, i_seq, kEn2_ap, kEn1_ap, i_enum, kG1_ap, i_rng1, kG2b_ap, kG2a_ap, i_rng2, st_v, st_o, kSt_ap, st_s, x_nm, kA2_ap, kA1_ap, x_tp, kPar_ap, x_par, kExp_ap, x_exp, kIf_ap, x_ife, kFor_ap, x_for, x_whl, kRet_ap, x_ret, x_retN, x_brk, x_cnt, x_pass, xs_nil, xs_cons, fo_nx, fo_ret, bind_ok_, st_ok_, opd_v, opd_s, opd_o, seq_nx, seq_ret, seq_brk, seq_cnt, optR, optV, optB, view, views, fin, lent, isO, setTg, setAll, setCA, kd, wipes, unwipe, frz, truth, seqOf, isNone, callF, lend, slots, back, isLent, List.map_cons, List.map_nil, List.length_cons, List.length_nil, List.cons_append, List.nil_append, List.replicate, Nat.reduceAdd, Nat.reduceSub, List.getElem?_cons_zero, List.getElem?_cons_succ, List.set_cons_zero, List.set_cons_succ, List.getD_cons_zero, List.getD_cons_succ, if_true, if_false, reduceIte, Option.map_some, Option.map_none, List.filterMap_nil, List.filterMap_cons, List.nodup_nil, id_eq, Bool.false_eq_true, nodup1, Wk_Γ, Wk_C, T.l, e2, T.g, e3, e4]
    · rw [List.append_assoc]
      exact (List.Perm.append_left s (erase_perm hg)).trans hp) ⟨p, [], xs, _, rfl, rfl, List.Perm.refl _⟩
  rw [rng1L_len, Int.toNat_natCast] at hs
  have hlen := hp.length_eq
  rw [List.length_append, hs] at hlen
  have hn : left = [] := List.length_eq_zero_iff.mp (by omega)
  rw [hn, List.append_nil] at hp
  simp only [e_int, e_str, e_bl, e_non, e_glob, vr_v, vr_o, e_var, kBin2_ap, kBin1_ap, e_bin, kNeg_ap, e_neg, kNot_ap, e_nott, kAnd_ap, e_and, kOr_ap, e_or, kCmp2_ap, kCmp1_ap, e_cmp, kCh3_ap, kCh2_ap, kCh1_ap, e_cmp2, kIte_ap, e_ite, kTup_ap, e_tup, kLst_ap, e_lst, kSub2_ap, kSub1_ap, e_sub, kSlc3_ap, kSlc2_ap, kSlc1_ap, e_slc, kSlL2_ap, kSlL1_ap, e_slcL, kSlH2_ap, kSlH1_ap, e_slcH, kRev_ap, e_rev, kCall_ap, e_call, kBi_ap, e_bi, kIsi_ap, e_isi, kMu_ap, e_mu, kPm2_ap, kPm1_ap, e_pm, kTn3_ap, kTn2_ap, kTn1_ap, kCE_ap, kComp_ap, e_comp, kTNot_ap, t_nott, kTAnd_ap, t_and, kTOr_ap, t_or, kTVal_ap, t_val, s_nil, kS3_ap, kS2_ap, kS1_ap, s_cons, r_nil, kRr2_ap, kRr1_ap, r_cons, c_nil, kCa_ap, kC2_ap, kC1f_ap, kC1t_ap, c_f, c_t, f_nil, kF_ap, f_cons, kI2_ap, kI1_ap, i_seq, kEn2_ap, kEn1_ap, i_enum, kG1_ap, i_rng1, kG2b_ap, kG2a_ap, i_rng2, st_v, st_o, kSt_ap, st_s, x_nm, kA2_ap, kA1_ap, x_tp, kPar_ap, x_par, kExp_ap, x_exp, kIf_ap, x_ife, kFor_ap, x_for, x_whl, kRet_ap, x_ret, x_retN, x_brk, x_cnt, x_pass, xs_nil, xs_cons, fo_nx, fo_ret, bind_ok_, st_ok_, opd_v, opd_s, opd_o, seq_nx, seq_ret, seq_brk, seq_cnt, optR, optV, optB, view, views, fin, lent, isO, setTg, setAll, setCA, kd, wipes, unwipe, frz, binOp, muOp, truth, seqOf, isNone, callF, lend, slots, back, isLent, List.map_cons, List.map_nil, List.length_cons, List.length_nil, List.cons_append, List.nil_append, List.replicate, Nat.reduceAdd, Nat.reduceSub, List.getElem?_cons_zero, List.getElem?_cons_succ, List.set_cons_zero, List.set_cons_succ, List.getD_cons_zero, List.getD_cons_succ, if_true, if_false, reduceIte, Option.map_some, Option.map_none, List.filterMap_nil, List.filterMap_cons, List.nodup_nil, id_eq, Bool.false_eq_true, nodup1, Wk_Γ, Wk_C]
  exact ⟨s, q, rfl, hp⟩
section
variable {C : Nat → PyData} {P : Nat → Option Fn} {fuel k : Nat}
theorem signs_S (h2 : P 2 = some f_law_take) (h : P 3 = some f_law_signs) {z : Int} (h0 : 0 ≤ z) (hn : z ≤ 90) (p : List Int) : ∃ s p', sem C P fuel (k + 2) 3 [.o (.lst (iL p)), .v (.int z)] = .v (Tx s) [.lst (iL p')] ∧ s.length = z.toNat ∧ s.Nodup ∧ ∀ c ∈ s, c ∈ abc := by
  rw [sem_at h, ← Int.toNat_of_nonneg h0]
  exact signs_run _ _ (Tk.of h2) z.toNat (by omega) p
theorem lot_S (h2 : P 2 = some f_law_take) (h : P 4 = some f_law_lot) (l : List Nat) (hl : l.length ≤ Lm) (p : List Int) : ∃ s p', sem C P fuel (k + 2) 4 [.o (.lst (iL p)), .v (Tx l)] = .v (Tx s) [.lst (iL p')] ∧ s.Sublist l := by
  rw [sem_at h]
  exact lot_run _ _ (Tk.of h2) l hl p
theorem kind_S (h2 : P 2 = some f_law_take) (h : P 5 = some f_law_kind) (p : List Int) : ∃ s p', sem C P fuel (k + 2) 5 [.o (.lst (iL p))] = .v (Tx s) [.lst (iL p')] ∧ s ≠ [] ∧ s.length ≤ 8 ∧ ∀ c ∈ s, 97 ≤ c ∧ c ≤ 122 := by
  rw [sem_at h]
  exact kind_run _ _ (Tk.of h2) p
end
end Rc

set_option Elab.async false
set_option linter.all false
set_option maxRecDepth 100000
set_option maxHeartbeats 0
namespace Lw06
open PySem PySem.Spec PyProof.Rows L2 Rc
abbrev rw : PySem.W.OpenLaw := PySem.Challenge.rw_staleornot_k06_word_states
def top (i : Nat) : Stmt := PySem.Challenge.pw_staleornot_k06_word_states.main.body.getD i (.Pass ⟨0, 0, 0, 0⟩)
def f_has_rule : Fn := ⟨[false, false], 2, (.cons (.ret (.cmp .Eq (.bin .Mod (.bin .FloorDiv (.var 0) (.sub (.glob 0) (.var 1))) (.int 2)) (.int 1)))
    .nil)⟩
theorem m_has_rule : f_has_rule.mask = [false, false] := Eq.trans rfl rfl
def f_begins : Fn := ⟨[false, false], 2, (.cons (.ife (.val (.cmp .Eq (.sub (.var 0) (.int 0)) (.str "word"))) (.cons (.ret (.cmp .In (.var 1) (.sub (.var 0) (.int 2))))
        .nil) .nil)
    (.cons (.ret (.cmp .Eq (.sub (.sub (.var 0) (.int 2)) (.int 0)) (.var 1)))
    .nil))⟩
theorem m_begins : f_begins.mask = [false, false] := Eq.trans rfl rfl
def f_goes_on : Fn := ⟨[false, false, false], 3, (.cons (.ife (.val (.cmp .Eq (.sub (.var 0) (.int 0)) (.str "word"))) (.cons (.ret (.cmp .In (.var 2) (.sub (.var 0) (.int 3))))
        .nil) .nil)
    (.cons (.ret (.and (.cmp .Lt (.var 1) (.bi .len (.cons (.sub (.var 0) (.int 2)) .nil))) (.cmp .Eq (.sub (.sub (.var 0) (.int 2)) (.var 1)) (.var 2))))
    .nil))⟩
theorem m_goes_on : f_goes_on.mask = [false, false, false] := Eq.trans rfl rfl
def f_fits : Fn := ⟨[false, false, false], 3, (.cons (.ife (.val (.cmp .Eq (.sub (.var 0) (.int 0)) (.str "word"))) (.cons (.ret (.cmp .In (.var 2) (.sub (.var 0) (.int 4))))
        .nil) .nil)
    (.cons (.ret (.cmp .Eq (.var 1) (.bi .len (.cons (.sub (.var 0) (.int 2)) .nil))))
    .nil))⟩
theorem m_fits : f_fits.mask = [false, false, false] := Eq.trans rfl rfl
def f_word_begin : Fn := ⟨[false, false], 7, (.cons (.asg (.tp [2, 3, 4]) (.tup (.cons (.int 0) (.cons (.int 0) (.cons (.int 0) .nil)))))
    (.cons (.for_ (.tp [5, 6]) (.enumS (.var 0)) (.cons (.ife (.val (.call 19 (.cons (.var 6) (.cons (.var 1) .nil)))) (.cons (.asg (.nm 2) (.bin .Add (.var 2) (.sub (.glob 0) (.var 5))))
            (.cons (.ife (.val (.cmp .Eq (.sub (.var 6) (.int 0)) (.str "spell"))) (.cons (.asg (.nm 4) (.int 1))
                .nil) .nil)
            (.cons (.ife (.val (.call 21 (.cons (.var 6) (.cons (.int 1) (.cons (.var 1) .nil))))) (.cons (.asg (.nm 3) (.bin .Add (.var 3) (.sub (.glob 0) (.var 5))))
                .nil) .nil)
            .nil))) .nil)
        .nil))
    (.cons (.ife (.val (.cmp .Eq (.var 2) (.int 0))) (.cons (.ret .non)
        .nil) .nil)
    (.cons (.ret (.tup (.cons (.var 2) (.cons (.var 3) (.cons (.var 4) .nil)))))
    .nil))))⟩
theorem m_word_begin : f_word_begin.mask = [false, false] := Eq.trans rfl rfl
def f_word_on : Fn := ⟨[false, false, false], 8, (.cons (.asg (.tp [3, 4, 5]) (.tup (.cons (.int 0) (.cons (.int 0) (.cons (.int 0) .nil)))))
    (.cons (.for_ (.tp [6, 7]) (.enumS (.var 0)) (.cons (.ife (.and (.val (.call 18 (.cons (.sub (.var 1) (.int 0)) (.cons (.var 6) .nil)))) (.val (.call 20 (.cons (.var 7) (.cons (.sub (.var 1) (.int 2)) (.cons (.var 2) .nil)))))) (.cons (.asg (.nm 3) (.bin .Add (.var 3) (.sub (.glob 0) (.var 6))))
            (.cons (.ife (.val (.cmp .Eq (.sub (.var 7) (.int 0)) (.str "spell"))) (.cons (.asg (.nm 5) (.bin .Add (.sub (.var 1) (.int 2)) (.int 1)))
                .nil) .nil)
            (.cons (.ife (.val (.call 21 (.cons (.var 7) (.cons (.bin .Add (.sub (.var 1) (.int 2)) (.int 1)) (.cons (.var 2) .nil))))) (.cons (.asg (.nm 4) (.bin .Add (.var 4) (.sub (.glob 0) (.var 6))))
                .nil) .nil)
            .nil))) .nil)
        .nil))
    (.cons (.ife (.val (.cmp .Eq (.var 3) (.int 0))) (.cons (.ret .non)
        .nil) .nil)
    (.cons (.ret (.tup (.cons (.var 3) (.cons (.var 4) (.cons (.var 5) .nil)))))
    .nil))))⟩
theorem m_word_on : f_word_on.mask = [false, false, false] := Eq.trans rfl rfl
def f_word_kinds : Fn := ⟨[false, false], 5, (.cons (.asg (.nm 2) (.lst .nil))
    (.cons (.for_ (.tp [3, 4]) (.enumS (.var 0)) (.cons (.ife (.and (.val (.call 18 (.cons (.sub (.var 1) (.int 1)) (.cons (.var 3) .nil)))) (.val (.cmp .NotIn (.sub (.var 4) (.int 1)) (.var 2)))) (.cons (.exp (.mu .append 2 (.cons (.sub (.var 4) (.int 1)) .nil)))
            .nil) .nil)
        .nil))
    (.cons (.ret (.bi .tuple_ (.cons (.var 2) .nil)))
    .nil)))⟩
theorem m_word_kinds : f_word_kinds.mask = [false, false] := Eq.trans rfl rfl
def f_kinds_of : Fn := ⟨[false, false], 4, (.cons (.ife (.val (.cmp .Eq (.var 1) (.str ""))) (.cons (.ret (.tup .nil))
        .nil) .nil)
    (.cons (.asg (.nm 2) (.call 22 (.cons (.var 0) (.cons (.sub (.var 1) (.int 0)) .nil))))
    (.cons (.for_ (.nm 3) (.seq (.slcL (.var 1) (.int 1))) (.cons (.ife (.val (.cmp .Is (.var 2) .non)) (.cons (.ret (.tup .nil))
            .nil) .nil)
        (.cons (.asg (.nm 2) (.call 23 (.cons (.var 0) (.cons (.var 2) (.cons (.var 3) .nil)))))
        .nil)))
    (.cons (.ife (.val (.cmp .Is (.var 2) .non)) (.cons (.ret (.tup .nil))
        .nil) .nil)
    (.cons (.ret (.call 24 (.cons (.var 0) (.cons (.var 2) .nil))))
    .nil)))))⟩
theorem m_kinds_of : f_kinds_of.mask = [false, false] := Eq.trans rfl rfl
def f_law_is : Fn := ⟨[false, false], 3, (.cons (.ife (.val (.cmp .Is (.var 1) .non)) (.cons (.ret (.cmp .Is (.var 0) .non))
        .nil) .nil)
    (.cons (.ret (.and (.isi (.var 0) "tuple") (.and (.cmp .Eq (.var 0) (.var 1)) (.nott (.bi .any_ (.cons (.comp (.isi (.var 2) "bool") (.nm 2) (.seq (.var 0)) .nil [2]) .nil))))))
    .nil))⟩
theorem m_law_is : f_law_is.mask = [false, false] := Eq.trans rfl rfl
def f_law_some : Fn := ⟨[true, false], 3, (.cons (.asg (.nm 2) (.call 4 (.cons (.var 0) (.cons (.var 1) .nil))))
    (.cons (.ife (.val (.cmp .Eq (.var 2) (.str ""))) (.cons (.ret (.sub (.var 1) (.call 2 (.cons (.var 0) (.cons (.bi .len (.cons (.var 1) .nil)) .nil)))))
        .nil) .nil)
    (.cons (.ret (.var 2))
    .nil)))⟩
theorem m_law_some : f_law_some.mask = [true, false] := Eq.trans rfl rfl
def f_law_spelled : Fn := ⟨[true, false, true], 6, (.cons (.asg (.nm 3) (.str ""))
    (.cons (.ife (.and (.val (.cmp .Gt (.bi .len (.cons (.var 2) .nil)) (.int 0))) (.val (.cmp .Eq (.call 2 (.cons (.var 0) (.cons (.int 2) .nil))) (.int 0)))) (.cons (.asg (.nm 5) (.sub (.var 2) (.call 2 (.cons (.var 0) (.cons (.bi .len (.cons (.var 2) .nil)) .nil)))))
        (.cons (.asg (.nm 3) (.slcH (.var 5) (.call 2 (.cons (.var 0) (.cons (.bin .Add (.bi .len (.cons (.var 5) .nil)) (.int 1)) .nil)))))
        .nil)) .nil)
    (.cons (.for_ (.nm 4) (.rng1 (.bin .Add (.int 1) (.call 2 (.cons (.var 0) (.cons (.int 4) .nil))))) (.cons (.ife (.val (.cmp .Lt (.bi .len (.cons (.var 3) .nil)) (.int 4))) (.cons (.asg (.nm 3) (.bin .Add (.var 3) (.sub (.var 1) (.call 2 (.cons (.var 0) (.cons (.bi .len (.cons (.var 1) .nil)) .nil))))))
            .nil) .nil)
        .nil))
    (.cons (.ret (.var 3))
    .nil))))⟩
theorem m_law_spelled : f_law_spelled.mask = [true, false, true] := Eq.trans rfl rfl
def f_law_rules : Fn := ⟨[true, false, false, false], 11, (.cons (.par [5, 6] [true, true] (.cons (.lst .nil) (.cons (.lst .nil) .nil)))
    (.cons (.for_ (.nm 4) (.rng1 (.var 3)) (.cons (.asg (.nm 7) (.sub (.var 2) (.call 2 (.cons (.var 0) (.cons (.bi .len (.cons (.var 2) .nil)) .nil)))))
        (.cons (.ife (.val (.cmp .Lt (.call 2 (.cons (.var 0) (.cons (.int 5) .nil))) (.int 2))) (.cons (.asg (.nm 8) (.call 71 (.cons (.var 0) (.cons (.var 1) (.cons (.var 6) .nil)))))
            (.cons (.exp (.mu .append 6 (.cons (.var 8) .nil)))
            (.cons (.exp (.mu .append 5 (.cons (.tup (.cons (.str "spell") (.cons (.var 7) (.cons (.var 8) .nil)))) .nil)))
            .nil))) (.cons (.asg (.nm 9) (.call 7 (.cons (.var 0) (.cons (.var 1) .nil))))
            (.cons (.asg (.nm 10) (.ite (.val (.cmp .Eq (.call 2 (.cons (.var 0) (.cons (.int 6) .nil))) (.int 0))) (.str "") (.call 4 (.cons (.var 0) (.cons (.var 1) .nil)))))
            (.cons (.exp (.mu .append 5 (.cons (.tup (.cons (.str "word") (.cons (.var 7) (.cons (.var 9) (.cons (.var 10) (.cons (.call 7 (.cons (.var 0) (.cons (.var 1) .nil))) .nil)))))) .nil)))
            .nil))))
        .nil)))
    (.cons (.ret (.bi .tuple_ (.cons (.var 5) .nil)))
    .nil)))⟩
theorem m_law_rules : f_law_rules.mask = [true, false, false, false] := Eq.trans rfl rfl
def f_law_all : Fn := ⟨[false, false], 8, (.cons (.par [3, 4] [true, true] (.cons (.lst (.cons (.str "") .nil)) (.cons (.lst .nil) .nil)))
    (.cons (.for_ (.nm 2) (.rng1 (.var 1)) (.cons (.asg (.nm 5) (.lst .nil))
        (.cons (.for_ (.nm 6) (.seq (.var 3)) (.cons (.asg (.nm 5) (.bin .Add (.var 5) (.comp (.bin .Add (.var 6) (.var 7)) (.nm 7) (.seq (.var 0)) .nil [7])))
            .nil))
        (.cons (.asg (.nm 3) (.var 5))
        (.cons (.asg (.nm 4) (.bin .Add (.var 4) (.var 5)))
        .nil)))))
    (.cons (.ret (.var 4))
    .nil)))⟩
theorem m_law_all : f_law_all.mask = [false, false] := Eq.trans rfl rfl
def f_law_near : Fn := ⟨[true, false, false, false], 7, (.cons (.ife (.val (.cmp .Eq (.sub (.var 2) (.int 0)) (.str "spell"))) (.cons (.asg (.nm 4) (.bin .Add (.sub (.var 2) (.int 2)) (.sub (.var 1) (.call 2 (.cons (.var 0) (.cons (.bi .len (.cons (.var 1) .nil)) .nil))))))
        (.cons (.asg (.nm 4) (.slcH (.var 4) (.bin .Add (.int 1) (.call 2 (.cons (.var 0) (.cons (.bi .len (.cons (.var 4) .nil)) .nil))))))
        .nil)) (.cons (.asg (.nm 4) (.sub (.sub (.var 2) (.int 2)) (.call 2 (.cons (.var 0) (.cons (.bi .len (.cons (.sub (.var 2) (.int 2)) .nil)) .nil)))))
        (.cons (.for_ (.nm 5) (.rng1 (.call 2 (.cons (.var 0) (.cons (.var 3) .nil)))) (.cons (.ife (.val (.cmp .NotEq (.sub (.var 2) (.int 3)) (.str ""))) (.cons (.asg (.nm 4) (.bin .Add (.var 4) (.sub (.sub (.var 2) (.int 3)) (.call 2 (.cons (.var 0) (.cons (.bi .len (.cons (.sub (.var 2) (.int 3)) .nil)) .nil))))))
                .nil) .nil)
            .nil))
        .nil)))
    (.cons (.ife (.val (.cmp .Eq (.call 2 (.cons (.var 0) (.cons (.int 2) .nil))) (.int 0))) (.cons (.asg (.nm 6) (.call 2 (.cons (.var 0) (.cons (.bi .len (.cons (.var 4) .nil)) .nil))))
        (.cons (.asg (.nm 4) (.bin .Add (.bin .Add (.slcH (.var 4) (.var 6)) (.sub (.var 1) (.call 2 (.cons (.var 0) (.cons (.bi .len (.cons (.var 1) .nil)) .nil))))) (.slcL (.var 4) (.bin .Add (.var 6) (.int 1)))))
        .nil)) .nil)
    (.cons (.ret (.var 4))
    .nil)))⟩
theorem m_law_near : f_law_near.mask = [true, false, false, false] := Eq.trans rfl rfl
def f_law_length : Fn := ⟨[false, false], 4, (.cons (.for_ (.nm 2) (.rng1 (.bi .len (.cons (.var 1) .nil))) (.cons (.ife (.val (.cmp .Eq (.sub (.var 0) (.int 0)) (.str "spell"))) (.cons (.asg (.nm 3) (.cmp .Eq (.slcH (.sub (.var 0) (.int 2)) (.bin .Add (.var 2) (.int 1))) (.slcH (.var 1) (.bin .Add (.var 2) (.int 1)))))
            .nil) (.cons (.asg (.nm 3) (.cmp .In (.sub (.var 1) (.var 2)) (.ite (.val (.cmp .Eq (.var 2) (.int 0))) (.sub (.var 0) (.int 2)) (.sub (.var 0) (.int 3)))))
            .nil))
        (.cons (.ife (.nott (.val (.var 3))) (.cons (.ret (.var 2))
            .nil) .nil)
        .nil)))
    (.cons (.ret (.bi .len (.cons (.var 1) .nil)))
    .nil))⟩
theorem m_law_length : f_law_length.mask = [false, false] := Eq.trans rfl rfl
def f_law_fits : Fn := ⟨[false, false], 2, (.cons (.ife (.val (.cmp .Eq (.sub (.var 0) (.int 0)) (.str "spell"))) (.cons (.ret (.cmp .Eq (.var 1) (.sub (.var 0) (.int 2))))
        .nil) .nil)
    (.cons (.ret (.cmp .In (.sub (.var 1) (.neg (.int 1))) (.sub (.var 0) (.int 4))))
    .nil))⟩
theorem m_law_fits : f_law_fits.mask = [false, false] := Eq.trans rfl rfl
def f_law_due : Fn := ⟨[false, false, false, false], 8, (.cons (.asg (.tp [5, 6, 7]) (.tup (.cons (.int 0) (.cons (.int 0) (.cons (.int 0) .nil)))))
    (.cons (.for_ (.nm 4) (.rng1 (.bi .len (.cons (.var 0) .nil))) (.cons (.ife (.val (.cmp .GtE (.sub (.var 1) (.var 4)) (.var 3))) (.cons (.asg (.nm 5) (.bin .Add (.var 5) (.bin .LShift (.int 1) (.var 4))))
            (.cons (.ife (.val (.cmp .Eq (.sub (.sub (.var 0) (.var 4)) (.int 0)) (.str "spell"))) (.cons (.asg (.nm 7) (.var 3))
                .nil) .nil)
            (.cons (.ife (.val (.call 13 (.cons (.sub (.var 0) (.var 4)) (.cons (.slcH (.var 2) (.var 3)) .nil)))) (.cons (.asg (.nm 6) (.bin .Add (.var 6) (.bin .LShift (.int 1) (.var 4))))
                .nil) .nil)
            .nil))) .nil)
        .nil))
    (.cons (.ife (.val (.cmp .Eq (.var 5) (.int 0))) (.cons (.ret .non)
        .nil) .nil)
    (.cons (.ret (.tup (.cons (.var 5) (.cons (.var 6) (.cons (.var 7) .nil)))))
    .nil))))⟩
theorem m_law_due : f_law_due.mask = [false, false, false, false] := Eq.trans rfl rfl
def f_law_kinds : Fn := ⟨[false, false, false, false], 7, (.cons (.asg (.nm 4) (.lst .nil))
    (.cons (.for_ (.nm 5) (.rng1 (.bi .len (.cons (.var 0) .nil))) (.cons (.asg (.nm 6) (.sub (.var 0) (.var 5)))
        (.cons (.ife (.and (.val (.cmp .GtE (.sub (.var 1) (.var 5)) (.var 3))) (.and (.val (.call 13 (.cons (.var 6) (.cons (.slcH (.var 2) (.var 3)) .nil)))) (.val (.cmp .NotIn (.sub (.var 6) (.int 1)) (.var 4))))) (.cons (.exp (.mu .append 4 (.cons (.sub (.var 6) (.int 1)) .nil)))
            .nil) .nil)
        .nil)))
    (.cons (.ret (.bi .tuple_ (.cons (.var 4) .nil)))
    .nil)))⟩
theorem m_law_kinds : f_law_kinds.mask = [false, false, false, false] := Eq.trans rfl rfl
def f_law_walks : Fn := ⟨[false, false], 7, (.cons (.asg (.nm 2) (.comp (.call 12 (.cons (.var 6) (.cons (.var 1) .nil))) (.nm 6) (.seq (.var 0)) .nil [6]))
    (.cons (.asg (.nm 3) (.call 22 (.cons (.var 0) (.cons (.sub (.var 1) (.int 0)) .nil))))
    (.cons (.for_ (.nm 4) (.rng2 (.int 1) (.bin .Add (.bi .len (.cons (.var 1) .nil)) (.int 1))) (.cons (.asg (.nm 5) (.call 14 (.cons (.var 0) (.cons (.var 2) (.cons (.var 1) (.cons (.var 4) .nil))))))
        (.cons (.ife (.nott (.val (.call 6 (.cons (.var 3) (.cons (.var 5) .nil))))) (.cons (.ret (.bl false))
            .nil) .nil)
        (.cons (.ife (.val (.cmp .Is (.var 5) .non)) (.cons (.ret (.and (.call 6 (.cons (.call 25 (.cons (.var 0) (.cons (.var 1) .nil))) (.cons (.tup .nil) .nil))) (.call 6 (.cons (.call 25 (.cons (.var 0) (.cons (.slcH (.var 1) (.var 4)) .nil))) (.cons (.tup .nil) .nil)))))
            .nil) .nil)
        (.cons (.ife (.nott (.val (.call 6 (.cons (.call 24 (.cons (.var 0) (.cons (.var 5) .nil))) (.cons (.call 15 (.cons (.var 0) (.cons (.var 2) (.cons (.var 1) (.cons (.var 4) .nil))))) .nil))))) (.cons (.ret (.bl false))
            .nil) .nil)
        (.cons (.ife (.val (.cmp .Lt (.var 4) (.bi .len (.cons (.var 1) .nil)))) (.cons (.asg (.nm 3) (.call 23 (.cons (.var 0) (.cons (.var 5) (.cons (.sub (.var 1) (.var 4)) .nil)))))
            .nil) .nil)
        .nil))))))
    (.cons (.ret (.call 6 (.cons (.call 25 (.cons (.var 0) (.cons (.var 1) .nil))) (.cons (.call 15 (.cons (.var 0) (.cons (.var 2) (.cons (.var 1) (.cons (.bi .len (.cons (.var 1) .nil)) .nil))))) .nil))))
    .nil))))⟩
theorem m_law_walks : f_law_walks.mask = [false, false] := Eq.trans rfl rfl
def f_law : Fn := ⟨[false], 13, (.cons (.asg (.nm 1) (.call 1 (.cons (.var 0) (.cons (.int 0) (.cons (.int 700) .nil)))))
    (.cons (.asg (.nm 2) (.call 3 (.cons (.var 1) (.cons (.bin .Add (.int 3) (.call 2 (.cons (.var 1) (.cons (.int 7) .nil)))) .nil))))
    (.cons (.par [10, 11] [true, true] (.cons (.slcH (.var 2) (.neg (.int 1))) (.cons (.sub (.var 2) (.neg (.int 1))) .nil)))
    (.cons (.asg (.nm 3) (.comp (.call 5 (.cons (.var 1) .nil)) (.nm 12) (.rng1 (.bin .Add (.int 1) (.call 2 (.cons (.var 1) (.cons (.int 4) .nil))))) .nil [12]))
    (.cons (.asg (.nm 4) (.call 72 (.cons (.var 1) (.cons (.var 10) (.cons (.var 3) (.cons (.call 2 (.cons (.var 1) (.cons (.int 7) .nil))) .nil))))))
    (.cons (.asg (.nm 5) (.call 72 (.cons (.var 1) (.cons (.var 10) (.cons (.var 3) (.cons (.bin .Add (.int 1) (.call 2 (.cons (.var 1) (.cons (.int 6) .nil)))) .nil))))))
    (.cons (.asg (.nm 6) (.call 10 (.cons (.var 10) (.cons (.ite (.val (.cmp .Lt (.bi .len (.cons (.var 10) .nil)) (.int 4))) (.int 3) (.int 2)) .nil))))
    (.cons (.for_ (.nm 7) (.seq (.bin .Add (.var 4) (.var 5))) (.cons (.exp (.mu .append 6 (.cons (.call 11 (.cons (.var 1) (.cons (.var 2) (.cons (.var 7) (.cons (.int 12) .nil))))) .nil)))
        .nil))
    (.cons (.asg (.nm 6) (.bin .Add (.var 6) (.lst (.cons (.var 11) (.cons (.bin .Add (.bin .Add (.sub (.var 6) (.neg (.int 1))) (.var 11)) (.sub (.var 10) (.int 0))) .nil)))))
    (.cons (.ife (.val (.cmp .Eq (.call 2 (.cons (.var 1) (.cons (.int 4) .nil))) (.int 0))) (.cons (.asg (.nm 7) (.sub (.var 5) (.call 2 (.cons (.var 1) (.cons (.bi .len (.cons (.var 5) .nil)) .nil)))))
        (.cons (.exp (.mu .append 6 (.cons (.call 11 (.cons (.call 1 (.cons (.var 0) (.cons (.int 1) (.cons (.int 500) .nil)))) (.cons (.var 10) (.cons (.var 7) (.cons (.int 400) .nil))))) .nil)))
        .nil)) .nil)
    (.cons (.for_ (.nm 8) (.seq (.bin .Add (.var 6) (.lst (.cons (.sub (.var 6) (.int 0)) .nil)))) (.cons (.ife (.or (.nott (.val (.call 16 (.cons (.var 4) (.cons (.var 8) .nil))))) (.nott (.val (.call 16 (.cons (.var 5) (.cons (.var 8) .nil)))))) (.cons (.ret (.bl false))
            .nil) .nil)
        .nil))
    (.cons (.for_ (.nm 9) (.seq (.lst (.cons (.str "") (.cons (.str " ") (.cons (.str "-") (.cons (.bin .Add (.str "\n") (.sub (.var 6) (.int 0))) (.cons (.bin .Add (.sub (.var 6) (.int 0)) (.str " ")) (.cons (.bin .Add (.bin .Add (.sub (.var 6) (.int 0)) (.str "-")) (.sub (.var 6) (.int 0))) .nil)))))))) (.cons (.ife (.or (.nott (.val (.call 6 (.cons (.call 25 (.cons (.var 4) (.cons (.var 9) .nil))) (.cons (.tup .nil) .nil))))) (.nott (.val (.call 6 (.cons (.call 25 (.cons (.var 5) (.cons (.var 9) .nil))) (.cons (.tup .nil) .nil)))))) (.cons (.ret (.bl false))
            .nil) .nil)
        .nil))
    (.cons (.ret (.bl true))
    .nil)))))))))))))⟩
theorem m_law : f_law.mask = [false] := Eq.trans rfl rfl
abbrev d_has_rule : DefI := ⟨18, "has_rule", top 2, ["mask", "number"], f_has_rule⟩
abbrev d_begins : DefI := ⟨19, "begins", top 3, ["rule", "sign"], f_begins⟩
abbrev d_goes_on : DefI := ⟨20, "goes_on", top 4, ["rule", "many", "sign"], f_goes_on⟩
abbrev d_fits : DefI := ⟨21, "fits", top 5, ["rule", "many", "sign"], f_fits⟩
abbrev d_word_begin : DefI := ⟨22, "word_begin", top 6, ["rules", "sign", "borne", "fitting", "many", "number", "rule"], f_word_begin⟩
abbrev d_word_on : DefI := ⟨23, "word_on", top 7, ["rules", "word", "sign", "borne", "fitting", "many", "number", "rule"], f_word_on⟩
abbrev d_word_kinds : DefI := ⟨24, "word_kinds", top 8, ["rules", "word", "kinds", "number", "rule"], f_word_kinds⟩
abbrev d_kinds_of : DefI := ⟨25, "kinds_of", top 9, ["rules", "text", "word", "sign"], f_kinds_of⟩
abbrev d_law_cell : DefI := ⟨0, "_law_cell", top 11, ["script", "k"], Rc.f_law_cell⟩
abbrev d_law_pool : DefI := ⟨1, "_law_pool", top 12, ["script", "k", "many", "number", "row", "state", "lap"], Rc.f_law_pool⟩
abbrev d_law_take : DefI := ⟨2, "_law_take", top 13, ["pool", "many"], Rc.f_law_take⟩
abbrev d_law_signs : DefI := ⟨3, "_law_signs", top 14, ["pool", "many", "left", "signs", "lap"], Rc.f_law_signs⟩
abbrev d_law_lot : DefI := ⟨4, "_law_lot", top 15, ["pool", "signs", "sign"], Rc.f_law_lot⟩
abbrev d_law_kind : DefI := ⟨5, "_law_kind", top 16, ["pool", "letters", "lap"], Rc.f_law_kind⟩
abbrev d_law_is : DefI := ⟨6, "_law_is", top 17, ["told", "due", "part"], f_law_is⟩
abbrev d_law_some : DefI := ⟨7, "_law_some", top 18, ["pool", "signs", "lot"], f_law_some⟩
abbrev d_law_spelled : DefI := ⟨71, "_law_spelled", top 19, ["pool", "signs", "elder", "text", "lap", "one"], f_law_spelled⟩
abbrev d_law_rules : DefI := ⟨72, "_law_rules", top 20, ["pool", "signs", "kinds", "many", "lap", "rules", "spelt", "kind", "text", "first", "later"], f_law_rules⟩
abbrev d_law_all : DefI := ⟨10, "_law_all", top 21, ["signs", "most", "lap", "row", "found", "more", "text", "sign"], f_law_all⟩
abbrev d_law_near : DefI := ⟨11, "_law_near", top 22, ["pool", "signs", "rule", "most", "text", "lap", "at"], f_law_near⟩
abbrev d_law_length : DefI := ⟨12, "_law_length", top 23, ["rule", "text", "k", "good"], f_law_length⟩
abbrev d_law_fits : DefI := ⟨13, "_law_fits", top 24, ["rule", "text"], f_law_fits⟩
abbrev d_law_due : DefI := ⟨14, "_law_due", top 25, ["rules", "lengths", "text", "many", "number", "borne", "fitting", "spelt"], f_law_due⟩
abbrev d_law_kinds : DefI := ⟨15, "_law_kinds", top 26, ["rules", "lengths", "text", "many", "kinds", "number", "rule"], f_law_kinds⟩
abbrev d_law_walks : DefI := ⟨16, "_law_walks", top 27, ["rules", "text", "lengths", "word", "many", "due", "rule"], f_law_walks⟩
abbrev d_law : DefI := ⟨73, "law", top 28, ["script", "pool", "drawn", "kinds", "one", "other", "texts", "rule", "text", "odd", "signs", "foreign", "lap"], f_law⟩
abbrev ds : List DefI := [d_has_rule, d_begins, d_goes_on, d_fits, d_word_begin, d_word_on, d_word_kinds, d_kinds_of, d_law_cell, d_law_pool, d_law_take, d_law_signs, d_law_lot, d_law_kind, d_law_is, d_law_some, d_law_spelled, d_law_rules, d_law_all, d_law_near, d_law_length, d_law_fits, d_law_due, d_law_kinds, d_law_walks, d_law]
abbrev cs : List (Str × PyData) := [("WORTHS", (.tuple [(.int (1)), (.int (2)), (.int (4)), (.int (8)), (.int (16)), (.int (32))]))]
abbrev cons : List (Nat × (Str × PyData)) := [0].zip cs
def C : Nat → PyData := conF cons
abbrev T : Tab := tabOf ds cons
theorem ok : ∀ d ∈ ds, DOk T d := by
  intro d hd
  simp only [ds, List.mem_cons, List.not_mem_nil, or_false] at hd
  rcases hd with rfl | rfl | rfl | rfl | rfl | rfl | rfl | rfl | rfl | rfl | rfl | rfl | rfl | rfl | rfl | rfl | rfl | rfl | rfl | rfl | rfl | rfl | rfl | rfl | rfl | rfl
  · exact ⟨by decide +kernel, fun _ _ _ _ _ _ us hl => match us, hl with | [_, _], _ => rfl⟩
  · exact ⟨by decide +kernel, fun _ _ _ _ _ _ us hl => match us, hl with | [_, _], _ => rfl⟩
  · exact ⟨by decide +kernel, fun _ _ _ _ _ _ us hl => match us, hl with | [_, _, _], _ => rfl⟩
  · exact ⟨by decide +kernel, fun _ _ _ _ _ _ us hl => match us, hl with | [_, _, _], _ => rfl⟩
  · exact ⟨by decide +kernel, fun _ _ _ _ _ _ us hl => match us, hl with | [_, _], _ => rfl⟩
  · exact ⟨by decide +kernel, fun _ _ _ _ _ _ us hl => match us, hl with | [_, _, _], _ => rfl⟩
  · exact ⟨by decide +kernel, fun _ _ _ _ _ _ us hl => match us, hl with | [_, _], _ => rfl⟩
  · exact ⟨by decide +kernel, fun _ _ _ _ _ _ us hl => match us, hl with | [_, _], _ => rfl⟩
  · exact ⟨by decide +kernel, fun _ _ _ _ _ _ us hl => match us, hl with | [_, _], _ => rfl⟩
  · exact ⟨by decide +kernel, fun _ _ _ _ _ _ us hl => match us, hl with | [_, _, _], _ => rfl⟩
  · exact ⟨by decide +kernel, fun _ _ _ _ _ _ us hl => match us, hl with | [_, _], _ => rfl⟩
  · exact ⟨by decide +kernel, fun _ _ _ _ _ _ us hl => match us, hl with | [_, _], _ => rfl⟩
  · exact ⟨by decide +kernel, fun _ _ _ _ _ _ us hl => match us, hl with | [_, _], _ => rfl⟩
  · exact ⟨by decide +kernel, fun _ _ _ _ _ _ us hl => match us, hl with | [_], _ => rfl⟩
  · exact ⟨by decide +kernel, fun _ _ _ _ _ _ us hl => match us, hl with | [_, _], _ => rfl⟩
  · exact ⟨by decide +kernel, fun _ _ _ _ _ _ us hl => match us, hl with | [_, _], _ => rfl⟩
  · exact ⟨by decide +kernel, fun _ _ _ _ _ _ us hl => match us, hl with | [_, _, _], _ => rfl⟩
  · exact ⟨by decide +kernel, fun _ _ _ _ _ _ us hl => match us, hl with | [_, _, _, _], _ => rfl⟩
  · exact ⟨by decide +kernel, fun _ _ _ _ _ _ us hl => match us, hl with | [_, _], _ => rfl⟩
  · exact ⟨by decide +kernel, fun _ _ _ _ _ _ us hl => match us, hl with | [_, _, _, _], _ => rfl⟩
  · exact ⟨by decide +kernel, fun _ _ _ _ _ _ us hl => match us, hl with | [_, _], _ => rfl⟩
  · exact ⟨by decide +kernel, fun _ _ _ _ _ _ us hl => match us, hl with | [_, _], _ => rfl⟩
  · exact ⟨by decide +kernel, fun _ _ _ _ _ _ us hl => match us, hl with | [_, _, _, _], _ => rfl⟩
  · exact ⟨by decide +kernel, fun _ _ _ _ _ _ us hl => match us, hl with | [_, _, _, _], _ => rfl⟩
  · exact ⟨by decide +kernel, fun _ _ _ _ _ _ us hl => match us, hl with | [_, _], _ => rfl⟩
  · exact ⟨by decide +kernel, fun _ _ _ _ _ _ us hl => match us, hl with | [_], _ => rfl⟩
abbrev dD (d : DefI) : He.DefD := ⟨(d.name, none), d.name, d.name, defArgs d.st, defBody d.st, defScope d.st, [], []⟩
abbrev fn : List He.DefD := ds.map dD
abbrev fa : List He.Fa := ds.map (fun d => .glo d.name) ++ biNames.map (fun x => .free x)
abbrev R : PySem.W.OpenRow := PySem.W.OpenLaw.row rw
abbrev hk : PySem.W.Hook := hookC 4 fa fn cs
def ob (s : PySem.W.SharedT) : AlC := obsCG 4 fa fn cs (HandSHeadRun.getT s)
theorem ob_eq (s : PySem.W.SharedT) : ob s = hk.obs s.abs := obsCG_eq (HandSHeadRun.getT_eq s)
abbrev loose : List Str := ["WORTHS", "has_rule", "begins", "goes_on", "fits", "word_begin", "word_on", "word_kinds", "kinds_of", "_law_cell", "_law_pool", "_law_take", "_law_signs", "_law_lot", "_law_kind", "_law_is", "_law_some", "_law_spelled", "_law_rules", "_law_all", "_law_near", "_law_length", "_law_fits", "_law_due", "_law_kinds", "_law_walks"]
theorem run (w : World) : HandSHeadRun.RunEq R (PySem.W.view R.prog [28]) hk ob 4000 loose w := by
  intro os
  kernel_rfl
theorem hd {K : PySem.W.Frag} {h : Heap} {mg : Str → Option Value} (X : K.In h) (G : h.Ns mainGlobals mg) (c : He.SaysD fa fn K) (cc : cs.all (conOk K) = true) : Hd ds cons C K mg := by
  refine ⟨fun d hd => ?_, fun x hx => ?_, fun g x e => ?_⟩
  · obtain ⟨fd, F⟩ := c.defs (d := dD d) (List.mem_map.mpr ⟨d, hd, rfl⟩)
    exact ⟨_, fd, F, He.glo_ok X G (c.facts (f := .glo d.name) (List.mem_append_left _ (List.mem_map.mpr ⟨d, hd, rfl⟩)))⟩
  · exact He.free_ok X G (c.facts (f := .free x) (List.mem_append_right _ (List.mem_map.mpr ⟨x, hx, rfl⟩)))
  · obtain ⟨c0, h1, h2, h3⟩ := conT_at e
    subst h2
    obtain ⟨v, u, k1, k2, k3⟩ := conOk_ok X G (List.all_eq_true.mp cc c0 (List.of_mem_zip h1).2)
    exact ⟨v, u, k1, k2, fun G => by rw [show C g = c0.2 from h3]; exact k3 G⟩
theorem P18 : fnsOf ds 18 = some f_has_rule := Eq.trans rfl rfl
theorem P19 : fnsOf ds 19 = some f_begins := Eq.trans rfl rfl
theorem P20 : fnsOf ds 20 = some f_goes_on := Eq.trans rfl rfl
theorem P21 : fnsOf ds 21 = some f_fits := Eq.trans rfl rfl
theorem P22 : fnsOf ds 22 = some f_word_begin := Eq.trans rfl rfl
theorem P23 : fnsOf ds 23 = some f_word_on := Eq.trans rfl rfl
theorem P24 : fnsOf ds 24 = some f_word_kinds := Eq.trans rfl rfl
theorem P25 : fnsOf ds 25 = some f_kinds_of := Eq.trans rfl rfl
theorem P0 : fnsOf ds 0 = some Rc.f_law_cell := Eq.trans rfl rfl
theorem P1 : fnsOf ds 1 = some Rc.f_law_pool := Eq.trans rfl rfl
theorem P2 : fnsOf ds 2 = some Rc.f_law_take := Eq.trans rfl rfl
theorem P3 : fnsOf ds 3 = some Rc.f_law_signs := Eq.trans rfl rfl
theorem P4 : fnsOf ds 4 = some Rc.f_law_lot := Eq.trans rfl rfl
theorem P5 : fnsOf ds 5 = some Rc.f_law_kind := Eq.trans rfl rfl
theorem P6 : fnsOf ds 6 = some f_law_is := Eq.trans rfl rfl
theorem P7 : fnsOf ds 7 = some f_law_some := Eq.trans rfl rfl
theorem P71 : fnsOf ds 71 = some f_law_spelled := Eq.trans rfl rfl
theorem P72 : fnsOf ds 72 = some f_law_rules := Eq.trans rfl rfl
theorem P10 : fnsOf ds 10 = some f_law_all := Eq.trans rfl rfl
theorem P11 : fnsOf ds 11 = some f_law_near := Eq.trans rfl rfl
theorem P12 : fnsOf ds 12 = some f_law_length := Eq.trans rfl rfl
theorem P13 : fnsOf ds 13 = some f_law_fits := Eq.trans rfl rfl
theorem P14 : fnsOf ds 14 = some f_law_due := Eq.trans rfl rfl
theorem P15 : fnsOf ds 15 = some f_law_kinds := Eq.trans rfl rfl
theorem P16 : fnsOf ds 16 = some f_law_walks := Eq.trans rfl rfl
theorem P73 : fnsOf ds 73 = some f_law := Eq.trans rfl rfl
theorem C0 : C 0 = (.tuple [(.int (1)), (.int (2)), (.int (4)), (.int (8)), (.int (16)), (.int (32))]) := Eq.trans rfl rfl
end Lw06

set_option Elab.async false
set_option linter.all false
set_option maxRecDepth 100000
set_option maxHeartbeats 1000000
/-! K06m: rules of words, plainly. -/
namespace W6
open PySem Rc
/-- a rule: spelled (a), or a word of signs (a first, b later, c last) -/
structure Rul where
  sp : Bool
  kind : List Nat
  a : List Nat
  b : List Nat
  c : List Nat
/-- at least m signs of t are taken -/
def bn (r : Rul) (t : List Nat) : Nat → Bool
  | 0 => true
  | m + 1 => bn r t m && (if r.sp then decide (m < r.a.length) && decide (r.a[m]? = t[m]?) else match t[m]? with
    | some s => decide (s ∈ (if m = 0 then r.a else r.b))
    | none => false)
def fit (r : Rul) (m s : Nat) : Bool := if r.sp then decide (m = r.a.length) else decide (s ∈ r.c)
/-- a sum of worths -/
def msk : List Bool → Nat → Nat
  | [], _ => 0
  | b :: r, k => (if b then 2 ^ k else 0) + msk r (k + 1)
theorem msk_mul : ∀ (bs : List Bool) (k : Nat), msk bs (k + 1) = 2 * msk bs k
  | [], _ => rfl
  | b :: r, k => by
    show (if b then 2 ^ (k + 1) else 0) + msk r (k + 2) = 2 * ((if b then 2 ^ k else 0) + msk r (k + 1))
    rw [msk_mul r (k + 1), Nat.mul_add]
    cases b
    · rfl
    · show 2 ^ (k + 1) + _ = 2 * 2 ^ k + _
      rw [Nat.pow_succ, Nat.mul_comm]
theorem msk_bit : ∀ (bs : List Bool) (i : Nat), msk bs 0 / 2 ^ i % 2 = if bs.getD i false then 1 else 0
  | [], i => by
    show 0 / 2 ^ i % 2 = _
    rw [Nat.zero_div]
    rfl
  | b :: r, 0 => by
    show ((if b then 2 ^ 0 else 0) + msk r 1) / 1 % 2 = if b then 1 else 0
    rw [msk_mul r 0, Nat.div_one]
    cases b <;> simp <;> omega
  | b :: r, i + 1 => by
    show ((if b then 2 ^ 0 else 0) + msk r 1) / 2 ^ (i + 1) % 2 = if r.getD i false then 1 else 0
    rw [msk_mul r 0, ← msk_bit r i, Nat.pow_succ, Nat.mul_comm (2 ^ i) 2, ← Nat.div_div_eq_div_mul]
    have e : ((if b then 2 ^ 0 else 0) + 2 * msk r 0) / 2 = msk r 0 := by cases b <;> simp <;> omega
    rw [e]
theorem msk_zero : ∀ (bs : List Bool) (k : Nat), msk bs k = 0 ↔ ∀ b ∈ bs, b = false
  | [], _ => by simp [msk]
  | b :: r, k => by
    have h := msk_zero r (k + 1)
    have p : 0 < 2 ^ k := Nat.pow_pos (by decide)
    show (if b then 2 ^ k else 0) + msk r (k + 1) = 0 ↔ _
    cases b
    · simp [h]
    · simp
theorem msk_snoc : ∀ (bs : List Bool) (b : Bool) (k : Nat), msk (bs ++ [b]) k = msk bs k + (if b then 2 ^ (k + bs.length) else 0)
  | [], b, k => by simp [msk]
  | c :: r, b, k => by
    show (if c then 2 ^ k else 0) + msk (r ++ [b]) (k + 1) = (if c then 2 ^ k else 0) + msk r (k + 1) + _
    rw [msk_snoc r b (k + 1), List.length_cons, show k + 1 + r.length = k + (r.length + 1) by omega, Nat.add_assoc]
/-- what was taken of a spelled rule -/
theorem bn_spell {r : Rul} {t : List Nat} (h : r.sp = true) : ∀ {m : Nat}, m ≤ t.length → (bn r t m = true ↔ m ≤ r.a.length ∧ r.a.take m = t.take m)
  | 0, _ => by simp [bn]
  | m + 1, hm => by
    have ih := bn_spell (t := t) h (m := m) (by omega)
    show (bn r t m && (if r.sp then decide (m < r.a.length) && decide (r.a[m]? = t[m]?) else _)) = true ↔ _
    rw [h, if_pos rfl, Bool.and_eq_true, Bool.and_eq_true, ih, decide_eq_true_iff, decide_eq_true_iff, List.take_succ, List.take_succ]
    constructor
    · rintro ⟨⟨h1, h2⟩, h3, h4⟩
      exact ⟨h3, by rw [h2, h4]⟩
    · rintro ⟨h1, h2⟩
      have ha : m < r.a.length := h1
      have ht : m < t.length := hm
      rw [List.getElem?_eq_getElem ha, List.getElem?_eq_getElem ht] at h2 ⊢
      have e := List.append_inj h2 (by rw [List.length_take, List.length_take]; omega)
      exact ⟨⟨by omega, e.1⟩, ha, by simpa using e.2⟩
theorem bn_le {r : Rul} {t : List Nat} {m k : Nat} (h : bn r t m = true) (hk : k ≤ m) : bn r t k = true := by
  induction m with
  | zero => rw [Nat.le_zero.mp hk]; exact h
  | succ m ih =>
    rcases Nat.lt_or_ge k (m + 1) with hl | hl
    · exact ih (by
        have h : (bn r t m && _) = true := h
        rw [Bool.and_eq_true] at h
        exact h.1) (by omega)
    · rw [show k = m + 1 by omega]
      exact h
end W6

set_option Elab.async false
set_option linter.all false
set_option maxRecDepth 100000
set_option maxHeartbeats 4000000
/-! K06a: the rules' own defs. -/
namespace W6
open PySem Rc Lw06
def enc (r : Rul) : PyData := if r.sp then .tuple [.str "spell", Tx r.kind, Tx r.a] else .tuple [.str "word", Tx r.kind, Tx r.a, Tx r.b, Tx r.c]
def goes (r : Rul) (m s : Nat) : Bool := if r.sp then decide (m < r.a.length) && decide (r.a[m]? = some s) else decide (s ∈ r.b)
def beg (r : Rul) (s : Nat) : Bool := if r.sp then decide (r.a[0]? = some s) else decide (s ∈ r.a)
theorem enc_sp {r : Rul} (h : r.sp = true) : enc r = .tuple [.str "spell", Tx r.kind, Tx r.a] := by unfold enc; rw [if_pos h]
theorem enc_wd {r : Rul} (h : r.sp = false) : enc r = .tuple [.str "word", Tx r.kind, Tx r.a, Tx r.b, Tx r.c] := by unfold enc; rw [h]; rfl
theorem sw : decide (("spell" : Str) = "word") = false := by decide
theorem ww : decide (("word" : Str) = "word") = true := by decide
theorem ws : decide (("word" : Str) = "spell") = false := by decide
theorem ss : decide (("spell" : Str) = "spell") = true := by decide
theorem t30 (a b c : PyData) : L2.atI [a, b, c] 0 = some a := rfl
theorem t31 (a b c : PyData) : L2.atI [a, b, c] 1 = some b := rfl
theorem t32 (a b c : PyData) : L2.atI [a, b, c] 2 = some c := rfl
theorem t50 (a b c d e : PyData) : L2.atI [a, b, c, d, e] 0 = some a := rfl
theorem t51 (a b c d e : PyData) : L2.atI [a, b, c, d, e] 1 = some b := rfl
theorem t52 (a b c d e : PyData) : L2.atI [a, b, c, d, e] 2 = some c := rfl
theorem t53 (a b c d e : PyData) : L2.atI [a, b, c, d, e] 3 = some d := rfl
theorem t54 (a b c d e : PyData) : L2.atI [a, b, c, d, e] 4 = some e := rfl
theorem tx_at {l : List Nat} {i c : Nat} (hl : l.length ≤ Lm) (h : l[i]? = some c) : subOp (Tx l) (.int (i : Int)) = some (Tx [c]) := by
  show (if (tx l).length ≤ Lm then (L2.atI (tx l).cps.toList (i : Int)).map sign else none) = _
  rw [tx_len, if_pos hl, tx_list]
  have hn := (List.getElem?_eq_some_iff.mp h).1
  have e : L2.atI l (i : Int) = some c := by
    unfold L2.atI L2.ixN
    rw [if_pos (by omega), if_pos (by omega)]
    exact h
  rw [e]
  rfl
theorem tx_at0 {l : List Nat} {c : Nat} (hl : l.length ≤ Lm) (h : l[0]? = some c) : subOp (Tx l) (.int 0) = some (Tx [c]) := tx_at hl h
theorem tx_cmp (a b : List Nat) : cmpOp .Eq (Tx a) (Tx b) = some (decide (a = b)) := by
  show some (decide (tx a = tx b)) = _
  rw [tx_eq]
theorem tx_in (c : Nat) (l : List Nat) : cmpOp .In (Tx [c]) (Tx l) = some (decide (c ∈ l)) := by
  show some (inStr (tx [c]) (tx l)) = _
  rw [in_tx]
theorem lt_at (a b c d e : PyData) (x : Int) : subOp (.tuple [a, b, c]) (.int x) = L2.atI [a, b, c] x := rfl
theorem one_eq (a b : Nat) : decide ([a] = [b]) = decide (some a = some b) := by
  by_cases h : a = b
  · rw [h]; simp
  · rw [decide_eq_false (by simpa using h), decide_eq_false (by simpa using h)]
theorem subT (ds : List PyData) (i : Int) : subOp (.tuple ds) (.int i) = L2.atI ds i := rfl
theorem cmpS (a b : Str) : cmpOp .Eq (.str a) (.str b) = some (decide (a = b)) := rfl
theorem begins_run (fuel : Nat) (W : Wd) (r : Rul) (s : Nat) (hl : r.a.length ≤ Lm) (h0 : r.sp = true → r.a ≠ []) : runFn fuel W f_begins [.v (enc r), .v (Tx [s])] = .v (.bool (beg r s)) [] := by
  unfold f_begins runFn beg
  cases h : r.sp with
  | true =>
    rw [enc_sp h]
    obtain ⟨c, hc⟩ : ∃ c, r.a[0]? = some c := by
      cases q : r.a with
      | nil => exact absurd q (h0 h)
      | cons c l => exact ⟨c, rfl⟩
    simp only [e_int, e_str, e_bl, e_non, e_glob, vr_v, vr_o, e_var, kBin2_ap, kBin1_ap, e_bin, kNeg_ap, e_neg, kNot_ap, e_nott, kAnd_ap, e_and, kOr_ap, e_or, kCmp2_ap, kCmp1_ap, e_cmp, kCh3_ap, kCh2_ap, kCh1_ap, e_cmp2, kIte_ap, e_ite, kTup_ap, e_tup, kLst_ap, e_lst, kSub2_ap, kSub1_ap, e_sub, kSlc3_ap, kSlc2_ap, kSlc1_ap, e_slc, kSlL2_ap, kSlL1_ap, e_slcL, kSlH2_ap, kSlH1_ap, e_slcH, kRev_ap, e_rev, kCall_ap, e_call, kBi_ap, e_bi, kIsi_ap, e_isi, kMu_ap, e_mu, kPm2_ap, kPm1_ap, e_pm, kTn3_ap, kTn2_ap, kTn1_ap, kCE_ap, kComp_ap, e_comp, kTNot_ap, t_nott, kTAnd_ap, t_and, kTOr_ap, t_or, kTVal_ap, t_val, s_nil, kS3_ap, kS2_ap, kS1_ap, s_cons, r_nil, kRr2_ap, kRr1_ap, r_cons, c_nil, kCa_ap, kC2_ap, kC1f_ap, kC1t_ap, c_f, c_t, f_nil, kF_ap, f_cons, kI2_ap, kI1_ap, i_seq, kEn2_ap, kEn1_ap, i_enum, kG1_ap, i_rng1, kG2b_ap, kG2a_ap, i_rng2, st_v, st_o, kSt_ap, st_s, x_nm, kA2_ap, kA1_ap, x_tp, kPar_ap, x_par, kExp_ap, x_exp, kIf_ap, x_ife, kFor_ap, x_for, x_whl, kRet_ap, x_ret, x_retN, x_brk, x_cnt, x_pass, xs_nil, xs_cons, fo_nx, fo_ret, bind_ok_, st_ok_, opd_v, opd_s, opd_o, seq_nx, seq_ret, seq_brk, seq_cnt, optR, optV, optB, view, views, fin, lent, isO, setTg, setAll, setCA, kd, wipes, unwipe, frz, binOp, muOp, truth, seqOf, isNone, callF, lend, slots, back, isLent, List.map_cons, List.map_nil, List.length_cons, List.length_nil, List.cons_append, List.nil_append, List.replicate, Nat.reduceAdd, Nat.reduceSub, List.getElem?_cons_zero, List.getElem?_cons_succ, List.set_cons_zero, List.set_cons_succ, List.getD_cons_zero, List.getD_cons_succ, if_true, if_false, reduceIte, Option.map_some, Option.map_none, List.filterMap_nil, List.filterMap_cons, List.nodup_nil, id_eq, Bool.false_eq_true, nodup1, Wk_Γ, Wk_C, subT, cmpS, t30, t32, sw, tx_at0 hl hc, tx_cmp, hc, one_eq]
  | false =>
    rw [enc_wd h]
    simp only [e_int, e_str, e_bl, e_non, e_glob, vr_v, vr_o, e_var, kBin2_ap, kBin1_ap, e_bin, kNeg_ap, e_neg, kNot_ap, e_nott, kAnd_ap, e_and, kOr_ap, e_or, kCmp2_ap, kCmp1_ap, e_cmp, kCh3_ap, kCh2_ap, kCh1_ap, e_cmp2, kIte_ap, e_ite, kTup_ap, e_tup, kLst_ap, e_lst, kSub2_ap, kSub1_ap, e_sub, kSlc3_ap, kSlc2_ap, kSlc1_ap, e_slc, kSlL2_ap, kSlL1_ap, e_slcL, kSlH2_ap, kSlH1_ap, e_slcH, kRev_ap, e_rev, kCall_ap, e_call, kBi_ap, e_bi, kIsi_ap, e_isi, kMu_ap, e_mu, kPm2_ap, kPm1_ap, e_pm, kTn3_ap, kTn2_ap, kTn1_ap, kCE_ap, kComp_ap, e_comp, kTNot_ap, t_nott, kTAnd_ap, t_and, kTOr_ap, t_or, kTVal_ap, t_val, s_nil, kS3_ap, kS2_ap, kS1_ap, s_cons, r_nil, kRr2_ap, kRr1_ap, r_cons, c_nil, kCa_ap, kC2_ap, kC1f_ap, kC1t_ap, c_f, c_t, f_nil, kF_ap, f_cons, kI2_ap, kI1_ap, i_seq, kEn2_ap, kEn1_ap, i_enum, kG1_ap, i_rng1, kG2b_ap, kG2a_ap, i_rng2, st_v, st_o, kSt_ap, st_s, x_nm, kA2_ap, kA1_ap, x_tp, kPar_ap, x_par, kExp_ap, x_exp, kIf_ap, x_ife, kFor_ap, x_for, x_whl, kRet_ap, x_ret, x_retN, x_brk, x_cnt, x_pass, xs_nil, xs_cons, fo_nx, fo_ret, bind_ok_, st_ok_, opd_v, opd_s, opd_o, seq_nx, seq_ret, seq_brk, seq_cnt, optR, optV, optB, view, views, fin, lent, isO, setTg, setAll, setCA, kd, wipes, unwipe, frz, binOp, muOp, truth, seqOf, isNone, callF, lend, slots, back, isLent, List.map_cons, List.map_nil, List.length_cons, List.length_nil, List.cons_append, List.nil_append, List.replicate, Nat.reduceAdd, Nat.reduceSub, List.getElem?_cons_zero, List.getElem?_cons_succ, List.set_cons_zero, List.set_cons_succ, List.getD_cons_zero, List.getD_cons_succ, if_true, if_false, reduceIte, Option.map_some, Option.map_none, List.filterMap_nil, List.filterMap_cons, List.nodup_nil, id_eq, Bool.false_eq_true, nodup1, Wk_Γ, Wk_C, subT, cmpS, t50, t52, ww, tx_in]
    rfl
theorem goes_run (fuel : Nat) (W : Wd) (r : Rul) (m s : Nat) (hl : r.a.length ≤ Lm) : runFn fuel W f_goes_on [.v (enc r), .v (.int m), .v (Tx [s])] = .v (.bool (goes r m s)) [] := by
  unfold f_goes_on runFn goes
  cases h : r.sp with
  | true =>
    rw [enc_sp h]
    have hlen : biOp .len [Tx r.a] = some (.v (.int (r.a.length : Nat))) := by
      show (if (tx r.a).length ≤ Lm then _ else _) = _
      rw [tx_len, if_pos hl]
    have hlt : cmpOp .Lt (.int (m : Int)) (.int (r.a.length : Nat)) = some (decide (m < r.a.length)) := by
      show some (ltI _ _) = _
      rw [ltI_eq]
      congr 1
      by_cases q : m < r.a.length
      · rw [decide_eq_true q, decide_eq_true (by omega)]
      · rw [decide_eq_false q, decide_eq_false (by omega)]
    by_cases q : m < r.a.length
    · have hc : r.a[m]? = some r.a[m] := List.getElem?_eq_getElem q
      simp only [e_int, e_str, e_bl, e_non, e_glob, vr_v, vr_o, e_var, kBin2_ap, kBin1_ap, e_bin, kNeg_ap, e_neg, kNot_ap, e_nott, kAnd_ap, e_and, kOr_ap, e_or, kCmp2_ap, kCmp1_ap, e_cmp, kCh3_ap, kCh2_ap, kCh1_ap, e_cmp2, kIte_ap, e_ite, kTup_ap, e_tup, kLst_ap, e_lst, kSub2_ap, kSub1_ap, e_sub, kSlc3_ap, kSlc2_ap, kSlc1_ap, e_slc, kSlL2_ap, kSlL1_ap, e_slcL, kSlH2_ap, kSlH1_ap, e_slcH, kRev_ap, e_rev, kCall_ap, e_call, kBi_ap, e_bi, kIsi_ap, e_isi, kMu_ap, e_mu, kPm2_ap, kPm1_ap, e_pm, kTn3_ap, kTn2_ap, kTn1_ap, kCE_ap, kComp_ap, e_comp, kTNot_ap, t_nott, kTAnd_ap, t_and, kTOr_ap, t_or, kTVal_ap, t_val, s_nil, kS3_ap, kS2_ap, kS1_ap, s_cons, r_nil, kRr2_ap, kRr1_ap, r_cons, c_nil, kCa_ap, kC2_ap, kC1f_ap, kC1t_ap, c_f, c_t, f_nil, kF_ap, f_cons, kI2_ap, kI1_ap, i_seq, kEn2_ap, kEn1_ap, i_enum, kG1_ap, i_rng1, kG2b_ap, kG2a_ap, i_rng2, st_v, st_o, kSt_ap, st_s, x_nm, kA2_ap, kA1_ap, x_tp, kPar_ap, x_par, kExp_ap, x_exp, kIf_ap, x_ife, kFor_ap, x_for, x_whl, kRet_ap, x_ret, x_retN, x_brk, x_cnt, x_pass, xs_nil, xs_cons, fo_nx, fo_ret, bind_ok_, st_ok_, opd_v, opd_s, opd_o, seq_nx, seq_ret, seq_brk, seq_cnt, optR, optV, optB, view, views, fin, lent, isO, setTg, setAll, setCA, kd, wipes, unwipe, frz, binOp, muOp, truth, seqOf, isNone, callF, lend, slots, back, isLent, List.map_cons, List.map_nil, List.length_cons, List.length_nil, List.cons_append, List.nil_append, List.replicate, Nat.reduceAdd, Nat.reduceSub, List.getElem?_cons_zero, List.getElem?_cons_succ, List.set_cons_zero, List.set_cons_succ, List.getD_cons_zero, List.getD_cons_succ, if_true, if_false, reduceIte, Option.map_some, Option.map_none, List.filterMap_nil, List.filterMap_cons, List.nodup_nil, id_eq, Bool.false_eq_true, nodup1, Wk_Γ, Wk_C, subT, cmpS, t30, t32, sw, hlen, hlt, decide_eq_true q, tx_at hl hc, tx_cmp, hc, one_eq, Bool.true_and]
    · simp only [e_int, e_str, e_bl, e_non, e_glob, vr_v, vr_o, e_var, kBin2_ap, kBin1_ap, e_bin, kNeg_ap, e_neg, kNot_ap, e_nott, kAnd_ap, e_and, kOr_ap, e_or, kCmp2_ap, kCmp1_ap, e_cmp, kCh3_ap, kCh2_ap, kCh1_ap, e_cmp2, kIte_ap, e_ite, kTup_ap, e_tup, kLst_ap, e_lst, kSub2_ap, kSub1_ap, e_sub, kSlc3_ap, kSlc2_ap, kSlc1_ap, e_slc, kSlL2_ap, kSlL1_ap, e_slcL, kSlH2_ap, kSlH1_ap, e_slcH, kRev_ap, e_rev, kCall_ap, e_call, kBi_ap, e_bi, kIsi_ap, e_isi, kMu_ap, e_mu, kPm2_ap, kPm1_ap, e_pm, kTn3_ap, kTn2_ap, kTn1_ap, kCE_ap, kComp_ap, e_comp, kTNot_ap, t_nott, kTAnd_ap, t_and, kTOr_ap, t_or, kTVal_ap, t_val, s_nil, kS3_ap, kS2_ap, kS1_ap, s_cons, r_nil, kRr2_ap, kRr1_ap, r_cons, c_nil, kCa_ap, kC2_ap, kC1f_ap, kC1t_ap, c_f, c_t, f_nil, kF_ap, f_cons, kI2_ap, kI1_ap, i_seq, kEn2_ap, kEn1_ap, i_enum, kG1_ap, i_rng1, kG2b_ap, kG2a_ap, i_rng2, st_v, st_o, kSt_ap, st_s, x_nm, kA2_ap, kA1_ap, x_tp, kPar_ap, x_par, kExp_ap, x_exp, kIf_ap, x_ife, kFor_ap, x_for, x_whl, kRet_ap, x_ret, x_retN, x_brk, x_cnt, x_pass, xs_nil, xs_cons, fo_nx, fo_ret, bind_ok_, st_ok_, opd_v, opd_s, opd_o, seq_nx, seq_ret, seq_brk, seq_cnt, optR, optV, optB, view, views, fin, lent, isO, setTg, setAll, setCA, kd, wipes, unwipe, frz, binOp, muOp, truth, seqOf, isNone, callF, lend, slots, back, isLent, List.map_cons, List.map_nil, List.length_cons, List.length_nil, List.cons_append, List.nil_append, List.replicate, Nat.reduceAdd, Nat.reduceSub, List.getElem?_cons_zero, List.getElem?_cons_succ, List.set_cons_zero, List.set_cons_succ, List.getD_cons_zero, List.getD_cons_succ, if_true, if_false, reduceIte, Option.map_some, Option.map_none, List.filterMap_nil, List.filterMap_cons, List.nodup_nil, id_eq, Bool.false_eq_true, nodup1, Wk_Γ, Wk_C, subT, cmpS, t30, t32, sw, hlen, hlt, decide_eq_false q, Bool.false_and]
  | false =>
    rw [enc_wd h]
    simp only [e_int, e_str, e_bl, e_non, e_glob, vr_v, vr_o, e_var, kBin2_ap, kBin1_ap, e_bin, kNeg_ap, e_neg, kNot_ap, e_nott, kAnd_ap, e_and, kOr_ap, e_or, kCmp2_ap, kCmp1_ap, e_cmp, kCh3_ap, kCh2_ap, kCh1_ap, e_cmp2, kIte_ap, e_ite, kTup_ap, e_tup, kLst_ap, e_lst, kSub2_ap, kSub1_ap, e_sub, kSlc3_ap, kSlc2_ap, kSlc1_ap, e_slc, kSlL2_ap, kSlL1_ap, e_slcL, kSlH2_ap, kSlH1_ap, e_slcH, kRev_ap, e_rev, kCall_ap, e_call, kBi_ap, e_bi, kIsi_ap, e_isi, kMu_ap, e_mu, kPm2_ap, kPm1_ap, e_pm, kTn3_ap, kTn2_ap, kTn1_ap, kCE_ap, kComp_ap, e_comp, kTNot_ap, t_nott, kTAnd_ap, t_and, kTOr_ap, t_or, kTVal_ap, t_val, s_nil, kS3_ap, kS2_ap, kS1_ap, s_cons, r_nil, kRr2_ap, kRr1_ap, r_cons, c_nil, kCa_ap, kC2_ap, kC1f_ap, kC1t_ap, c_f, c_t, f_nil, kF_ap, f_cons, kI2_ap, kI1_ap, i_seq, kEn2_ap, kEn1_ap, i_enum, kG1_ap, i_rng1, kG2b_ap, kG2a_ap, i_rng2, st_v, st_o, kSt_ap, st_s, x_nm, kA2_ap, kA1_ap, x_tp, kPar_ap, x_par, kExp_ap, x_exp, kIf_ap, x_ife, kFor_ap, x_for, x_whl, kRet_ap, x_ret, x_retN, x_brk, x_cnt, x_pass, xs_nil, xs_cons, fo_nx, fo_ret, bind_ok_, st_ok_, opd_v, opd_s, opd_o, seq_nx, seq_ret, seq_brk, seq_cnt, optR, optV, optB, view, views, fin, lent, isO, setTg, setAll, setCA, kd, wipes, unwipe, frz, binOp, muOp, truth, seqOf, isNone, callF, lend, slots, back, isLent, List.map_cons, List.map_nil, List.length_cons, List.length_nil, List.cons_append, List.nil_append, List.replicate, Nat.reduceAdd, Nat.reduceSub, List.getElem?_cons_zero, List.getElem?_cons_succ, List.set_cons_zero, List.set_cons_succ, List.getD_cons_zero, List.getD_cons_succ, if_true, if_false, reduceIte, Option.map_some, Option.map_none, List.filterMap_nil, List.filterMap_cons, List.nodup_nil, id_eq, Bool.false_eq_true, nodup1, Wk_Γ, Wk_C, subT, cmpS, t50, t53, ww, tx_in]
    rfl
theorem fits_run (fuel : Nat) (W : Wd) (r : Rul) (m s : Nat) (hl : r.a.length ≤ Lm) : runFn fuel W f_fits [.v (enc r), .v (.int m), .v (Tx [s])] = .v (.bool (fit r m s)) [] := by
  unfold f_fits runFn fit
  cases h : r.sp with
  | true =>
    rw [enc_sp h]
    have hlen : biOp .len [Tx r.a] = some (.v (.int (r.a.length : Nat))) := by
      show (if (tx r.a).length ≤ Lm then _ else _) = _
      rw [tx_len, if_pos hl]
    have heq : cmpOp .Eq (.int (m : Int)) (.int (r.a.length : Nat)) = some (decide (m = r.a.length)) := by
      show some (decide _) = _
      congr 1
      by_cases q : m = r.a.length
      · rw [decide_eq_true q, decide_eq_true (by omega)]
      · rw [decide_eq_false q, decide_eq_false (by omega)]
    simp only [e_int, e_str, e_bl, e_non, e_glob, vr_v, vr_o, e_var, kBin2_ap, kBin1_ap, e_bin, kNeg_ap, e_neg, kNot_ap, e_nott, kAnd_ap, e_and, kOr_ap, e_or, kCmp2_ap, kCmp1_ap, e_cmp, kCh3_ap, kCh2_ap, kCh1_ap, e_cmp2, kIte_ap, e_ite, kTup_ap, e_tup, kLst_ap, e_lst, kSub2_ap, kSub1_ap, e_sub, kSlc3_ap, kSlc2_ap, kSlc1_ap, e_slc, kSlL2_ap, kSlL1_ap, e_slcL, kSlH2_ap, kSlH1_ap, e_slcH, kRev_ap, e_rev, kCall_ap, e_call, kBi_ap, e_bi, kIsi_ap, e_isi, kMu_ap, e_mu, kPm2_ap, kPm1_ap, e_pm, kTn3_ap, kTn2_ap, kTn1_ap, kCE_ap, kComp_ap, e_comp, kTNot_ap, t_nott, kTAnd_ap, t_and, kTOr_ap, t_or, kTVal_ap, t_val, s_nil, kS3_ap, kS2_ap, kS1_ap, s_cons, r_nil, kRr2_ap, kRr1_ap, r_cons, c_nil, kCa_ap, kC2_ap, kC1f_ap, kC1t_ap, c_f, c_t, f_nil, kF_ap, f_cons, kI2_ap, kI1_ap, i_seq, kEn2_ap, kEn1_ap, i_enum, kG1_ap, i_rng1, kG2b_ap, kG2a_ap, i_rng2, st_v, st_o, kSt_ap, st_s, x_nm, kA2_ap, kA1_ap, x_tp, kPar_ap, x_par, kExp_ap, x_exp, kIf_ap, x_ife, kFor_ap, x_for, x_whl, kRet_ap, x_ret, x_retN, x_brk, x_cnt, x_pass, xs_nil, xs_cons, fo_nx, fo_ret, bind_ok_, st_ok_, opd_v, opd_s, opd_o, seq_nx, seq_ret, seq_brk, seq_cnt, optR, optV, optB, view, views, fin, lent, isO, setTg, setAll, setCA, kd, wipes, unwipe, frz, binOp, muOp, truth, seqOf, isNone, callF, lend, slots, back, isLent, List.map_cons, List.map_nil, List.length_cons, List.length_nil, List.cons_append, List.nil_append, List.replicate, Nat.reduceAdd, Nat.reduceSub, List.getElem?_cons_zero, List.getElem?_cons_succ, List.set_cons_zero, List.set_cons_succ, List.getD_cons_zero, List.getD_cons_succ, if_true, if_false, reduceIte, Option.map_some, Option.map_none, List.filterMap_nil, List.filterMap_cons, List.nodup_nil, id_eq, Bool.false_eq_true, nodup1, Wk_Γ, Wk_C, subT, cmpS, t30, t32, sw, hlen, heq]
  | false =>
    rw [enc_wd h]
    simp only [e_int, e_str, e_bl, e_non, e_glob, vr_v, vr_o, e_var, kBin2_ap, kBin1_ap, e_bin, kNeg_ap, e_neg, kNot_ap, e_nott, kAnd_ap, e_and, kOr_ap, e_or, kCmp2_ap, kCmp1_ap, e_cmp, kCh3_ap, kCh2_ap, kCh1_ap, e_cmp2, kIte_ap, e_ite, kTup_ap, e_tup, kLst_ap, e_lst, kSub2_ap, kSub1_ap, e_sub, kSlc3_ap, kSlc2_ap, kSlc1_ap, e_slc, kSlL2_ap, kSlL1_ap, e_slcL, kSlH2_ap, kSlH1_ap, e_slcH, kRev_ap, e_rev, kCall_ap, e_call, kBi_ap, e_bi, kIsi_ap, e_isi, kMu_ap, e_mu, kPm2_ap, kPm1_ap, e_pm, kTn3_ap, kTn2_ap, kTn1_ap, kCE_ap, kComp_ap, e_comp, kTNot_ap, t_nott, kTAnd_ap, t_and, kTOr_ap, t_or, kTVal_ap, t_val, s_nil, kS3_ap, kS2_ap, kS1_ap, s_cons, r_nil, kRr2_ap, kRr1_ap, r_cons, c_nil, kCa_ap, kC2_ap, kC1f_ap, kC1t_ap, c_f, c_t, f_nil, kF_ap, f_cons, kI2_ap, kI1_ap, i_seq, kEn2_ap, kEn1_ap, i_enum, kG1_ap, i_rng1, kG2b_ap, kG2a_ap, i_rng2, st_v, st_o, kSt_ap, st_s, x_nm, kA2_ap, kA1_ap, x_tp, kPar_ap, x_par, kExp_ap, x_exp, kIf_ap, x_ife, kFor_ap, x_for, x_whl, kRet_ap, x_ret, x_retN, x_brk, x_cnt, x_pass, xs_nil, xs_cons, fo_nx, fo_ret, bind_ok_, st_ok_, opd_v, opd_s, opd_o, seq_nx, seq_ret, seq_brk, seq_cnt, optR, optV, optB, view, views, fin, lent, isO, setTg, setAll, setCA, kd, wipes, unwipe, frz, binOp, muOp, truth, seqOf, isNone, callF, lend, slots, back, isLent, List.map_cons, List.map_nil, List.length_cons, List.length_nil, List.cons_append, List.nil_append, List.replicate, Nat.reduceAdd, Nat.reduceSub, List.getElem?_cons_zero, List.getElem?_cons_succ, List.set_cons_zero, List.set_cons_succ, List.getD_cons_zero, List.getD_cons_succ, if_true, if_false, reduceIte, Option.map_some, Option.map_none, List.filterMap_nil, List.filterMap_cons, List.nodup_nil, id_eq, Bool.false_eq_true, nodup1, Wk_Γ, Wk_C, subT, cmpS, t50, t54, ww, tx_in]
    rfl
end W6

set_option Elab.async false
set_option linter.all false
set_option maxRecDepth 100000
set_option maxHeartbeats 4000000
/-! K06b: word_begin, word_on. -/
namespace W6
open PySem Rc Lw06
def worths : PyData := .tuple [.int 1, .int 2, .int 4, .int 8, .int 16, .int 32]
theorem worth_at {n : Nat} (h : n < 6) : subOp worths (.int (n : Int)) = some (.int ((2 ^ n : Nat) : Int)) := by
  match n, h with
  | 0, _ => rfl
  | 1, _ => rfl
  | 2, _ => rfl
  | 3, _ => rfl
  | 4, _ => rfl
  | 5, _ => rfl
theorem worth_ok {n : Nat} (h : n < 6) : (ltI 0 ((2 ^ n : Nat) : Int) && within 1073741823 ((2 ^ n : Nat) : Int)) = true := by
  match n, h with
  | 0, _ => rfl
  | 1, _ => rfl
  | 2, _ => rfl
  | 3, _ => rfl
  | 4, _ => rfl
  | 5, _ => rfl
structure ROk (r : Rul) : Prop where
  a : r.a.length ≤ 1000
  ne : r.sp = true → r.a ≠ []
theorem ROk.lm {r : Rul} (h : ROk r) : r.a.length ≤ Lm := Nat.le_trans h.a (by decide)
def rulesD (rs : List Rul) : PyData := .tuple (rs.map enc)
def res3 (b f m : Nat) : PyData := if b = 0 then .none else .tuple [.int (b : Nat), .int (f : Nat), .int (m : Nat)]
/-- the worths' sum over the first i rules -/
def sumB (p : Rul → Bool) (rs : List Rul) : Nat := msk (rs.map p) 0
theorem sumB_snoc (p : Rul → Bool) (rs : List Rul) (r : Rul) : sumB p (rs ++ [r]) = sumB p rs + (if p r then 2 ^ rs.length else 0) := by
  unfold sumB
  rw [List.map_append, List.map_cons, List.map_nil, msk_snoc, List.length_map, Nat.zero_add]
theorem take_snoc {rs : List Rul} {i : Nat} {r : Rul} (h : rs[i]? = some r) : rs.take (i + 1) = rs.take i ++ [r] ∧ (rs.take i).length = i := by
  have hl := (List.getElem?_eq_some_iff.mp h).1
  exact ⟨by rw [List.take_succ, h]; rfl, by rw [List.length_take]; omega⟩
theorem numd_at {rs : List Rul} {i : Nat} {x : PyData} (h : (numd 0 (rs.map enc))[i]? = some x) : ∃ r, rs[i]? = some r ∧ x = .tuple [.int (i : Nat), enc r] := by
  have key : ∀ (k : Nat) (xs : List PyData) (i : Nat) (x : PyData), (numd k xs)[i]? = some x → ∃ d, xs[i]? = some d ∧ x = .tuple [.int ((k + i : Nat) : Int), d] := by
    intro k xs
    induction xs generalizing k with
    | nil => intro i x h; simp [numd] at h
    | cons y ys ih =>
      intro i x h
      cases i with
      | zero =>
        cases (show some _ = some x from h)
        exact ⟨y, rfl, rfl⟩
      | succ i =>
        obtain ⟨d, h1, h2⟩ := ih (k + 1) i x h
        exact ⟨d, h1, by rw [h2, show k + 1 + i = k + (i + 1) by omega]⟩
  obtain ⟨d, h1, h2⟩ := key 0 _ i x h
  rw [List.getElem?_map] at h1
  obtain ⟨r, h3, h4⟩ := Option.map_eq_some_iff.mp h1
  exact ⟨r, h3, by rw [h2, h4, Nat.zero_add]⟩
theorem numd_length : ∀ (k : Nat) (xs : List PyData), (numd k xs).length = xs.length
  | _, [] => rfl
  | k, x :: xs => by
    show (numd (k + 1) xs).length + 1 = xs.length + 1
    rw [numd_length (k + 1) xs]
theorem spell_is (r : Rul) : ∃ d, subOp (enc r) (.int 0) = some d ∧ cmpOp .Eq d (.str "spell") = some r.sp := by
  cases h : r.sp with
  | true => exact ⟨_, by rw [enc_sp h]; rfl, by rw [cmpS, ss]⟩
  | false => exact ⟨_, by rw [enc_wd h]; rfl, by rw [cmpS, ws]⟩
theorem add_nat (a b : Nat) : binOp .Add (.int (a : Int)) (.int (b : Int)) = some (.v (.int ((a + b : Nat) : Int))) := rfl
theorem eq_nat (a b : Nat) : cmpOp .Eq (.int (a : Int)) (.int (b : Int)) = some (decide (a = b)) := by
  show some (decide _) = _
  congr 1
  by_cases q : a = b
  · rw [decide_eq_true q, decide_eq_true (by omega)]
  · rw [decide_eq_false q, decide_eq_false (by omega)]
theorem eq0 (a : Nat) : cmpOp .Eq (.int (a : Int)) (.int 0) = some (decide (a = 0)) := eq_nat a 0
theorem begin_run (fuel : Nat) (W : Wd) (hC : W.C 0 = worths) (l1 : W.lm 19 = [false, false]) (l3 : W.lm 21 = [false, false, false]) (rs : List Rul) (hr : ∀ r ∈ rs, ROk r) (h6 : rs.length ≤ 6) (s : Nat)
    (hb : ∀ r ∈ rs, W.Γ 19 [.v (enc r), .v (Tx [s])] = .v (.bool (beg r s)) []) (hf : ∀ r ∈ rs, W.Γ 21 [.v (enc r), .v (.int 1), .v (Tx [s])] = .v (.bool (fit r 1 s)) []) :
    runFn fuel W f_word_begin [.v (rulesD rs), .v (Tx [s])] = .v (res3 (sumB (beg · s) rs) (sumB (fun r => beg r s && fit r 1 s) rs) (if rs.any (fun r => r.sp && beg r s) then 1 else 0)) [] := by
  unfold f_word_begin runFn rulesD
  simp only [e_int, e_str, e_bl, e_non, e_glob, vr_v, vr_o, e_var, kBin2_ap, kBin1_ap, e_bin, kNeg_ap, e_neg, kNot_ap, e_nott, kAnd_ap, e_and, kOr_ap, e_or, kCmp2_ap, kCmp1_ap, e_cmp, kCh3_ap, kCh2_ap, kCh1_ap, e_cmp2, kIte_ap, e_ite, kTup_ap, e_tup, kLst_ap, e_lst, kSub2_ap, kSub1_ap, e_sub, kSlc3_ap, kSlc2_ap, kSlc1_ap, e_slc, kSlL2_ap, kSlL1_ap, e_slcL, kSlH2_ap, kSlH1_ap, e_slcH, kRev_ap, e_rev, kCall_ap, e_call, kBi_ap, e_bi, kIsi_ap, e_isi, kMu_ap, e_mu, kPm2_ap, kPm1_ap, e_pm, kTn3_ap, kTn2_ap, kTn1_ap, kCE_ap, kComp_ap, e_comp, kTNot_ap, t_nott, kTAnd_ap, t_and, kTOr_ap, t_or, kTVal_ap, t_val, s_nil, kS3_ap, kS2_ap, kS1_ap, s_cons, r_nil, kRr2_ap, kRr1_ap, r_cons, c_nil, kCa_ap, kC2_ap, kC1f_ap, kC1t_ap, c_f, c_t, f_nil, kF_ap, f_cons, kI2_ap, kI1_ap, i_seq, kEn2_ap, kEn1_ap, i_enum, kG1_ap, i_rng1, kG2b_ap, kG2a_ap, i_rng2, st_v, st_o, kSt_ap, st_s, x_nm, kA2_ap, kA1_ap, x_tp, kPar_ap, x_par, kExp_ap, x_exp, kIf_ap, x_ife, kFor_ap, x_for, x_whl, kRet_ap, x_ret, x_retN, x_brk, x_cnt, x_pass, xs_nil, xs_cons, fo_nx, fo_ret, bind_ok_, st_ok_, opd_v, opd_s, opd_o, seq_nx, seq_ret, seq_brk, seq_cnt, optR, optV, optB, view, views, fin, lent, isO, setTg, setAll, setCA, kd, wipes, unwipe, frz, binOp, muOp, truth, seqOf, isNone, callF, lend, slots, back, isLent, List.map_cons, List.map_nil, List.length_cons, List.length_nil, List.cons_append, List.nil_append, List.replicate, Nat.reduceAdd, Nat.reduceSub, List.getElem?_cons_zero, List.getElem?_cons_succ, List.set_cons_zero, List.set_cons_succ, List.getD_cons_zero, List.getD_cons_succ, if_true, if_false, reduceIte, Option.map_some, Option.map_none, List.filterMap_nil, List.filterMap_cons, List.nodup_nil, id_eq, Bool.false_eq_true, nodup1, Wk_Γ, Wk_C]
  refine forL_run (I := fun i ρ => ∃ x y, ρ = [.v (.tuple (rs.map enc)), .v (Tx [s]), .v (.int (sumB (beg · s) (rs.take i) : Nat)), .v (.int (sumB (fun r => beg r s && fit r 1 s) (rs.take i) : Nat)), .v (.int ((if (rs.take i).any (fun r => r.sp && beg r s) then 1 else 0 : Nat) : Int)), x, y])
    (R := fun o => SO.fo [false, false] (o.seq _) = _) ?_ ?_ ⟨_, _, rfl⟩
  · rintro i x ρ hx ⟨x0, y0, rfl⟩
    obtain ⟨r, hi, rfl⟩ := numd_at hx
    have rm := List.mem_of_getElem? hi
    have il := (List.getElem?_eq_some_iff.mp hi).1
    obtain ⟨t1, t2⟩ := take_snoc hi
    obtain ⟨d, hd1, hd2⟩ := spell_is r
    have wa := worth_at (n := i) (by omega)
    rw [t1]
    simp only [sumB_snoc, t2, List.any_append, List.any_cons, List.any_nil, Bool.or_false]
    simp only [turnF_ap, e_int, e_str, e_bl, e_non, e_glob, vr_v, vr_o, e_var, kBin2_ap, kBin1_ap, e_bin, kNeg_ap, e_neg, kNot_ap, e_nott, kAnd_ap, e_and, kOr_ap, e_or, kCmp2_ap, kCmp1_ap, e_cmp, kCh3_ap, kCh2_ap, kCh1_ap, e_cmp2, kIte_ap, e_ite, kTup_ap, e_tup, kLst_ap, e_lst, kSub2_ap, kSub1_ap, e_sub, kSlc3_ap, kSlc2_ap, kSlc1_ap, e_slc, kSlL2_ap, kSlL1_ap, e_slcL, kSlH2_ap, kSlH1_ap, e_slcH, kRev_ap, e_rev, kCall_ap, e_call, kBi_ap, e_bi, kIsi_ap, e_isi, kMu_ap, e_mu, kPm2_ap, kPm1_ap, e_pm, kTn3_ap, kTn2_ap, kTn1_ap, kCE_ap, kComp_ap, e_comp, kTNot_ap, t_nott, kTAnd_ap, t_and, kTOr_ap, t_or, kTVal_ap, t_val, s_nil, kS3_ap, kS2_ap, kS1_ap, s_cons, r_nil, kRr2_ap, kRr1_ap, r_cons, c_nil, kCa_ap, kC2_ap, kC1f_ap, kC1t_ap, c_f, c_t, f_nil, kF_ap, f_cons, kI2_ap, kI1_ap, i_seq, kEn2_ap, kEn1_ap, i_enum, kG1_ap, i_rng1, kG2b_ap, kG2a_ap, i_rng2, st_v, st_o, kSt_ap, st_s, x_nm, kA2_ap, kA1_ap, x_tp, kPar_ap, x_par, kExp_ap, x_exp, kIf_ap, x_ife, kFor_ap, x_for, x_whl, kRet_ap, x_ret, x_retN, x_brk, x_cnt, x_pass, xs_nil, xs_cons, fo_nx, fo_ret, bind_ok_, st_ok_, opd_v, opd_s, opd_o, seq_nx, seq_ret, seq_brk, seq_cnt, optR, optV, optB, view, views, fin, lent, isO, setTg, setAll, setCA, kd, wipes, unwipe, frz, binOp, muOp, truth, seqOf, isNone, callF, lend, slots, back, isLent, List.map_cons, List.map_nil, List.length_cons, List.length_nil, List.cons_append, List.nil_append, List.replicate, Nat.reduceAdd, Nat.reduceSub, List.getElem?_cons_zero, List.getElem?_cons_succ, List.set_cons_zero, List.set_cons_succ, List.getD_cons_zero, List.getD_cons_succ, if_true, if_false, reduceIte, Option.map_some, Option.map_none, List.filterMap_nil, List.filterMap_cons, List.nodup_nil, id_eq, Bool.false_eq_true, nodup1, Wk_Γ, Wk_C, l1, hb r rm]
    cases beg r s with
    | false =>
      simp only [e_int, e_str, e_bl, e_non, e_glob, vr_v, vr_o, e_var, kBin2_ap, kBin1_ap, e_bin, kNeg_ap, e_neg, kNot_ap, e_nott, kAnd_ap, e_and, kOr_ap, e_or, kCmp2_ap, kCmp1_ap, e_cmp, kCh3_ap, kCh2_ap, kCh1_ap, e_cmp2, kIte_ap, e_ite, kTup_ap, e_tup, kLst_ap, e_lst, kSub2_ap, kSub1_ap, e_sub, kSlc3_ap, kSlc2_ap, kSlc1_ap, e_slc, kSlL2_ap, kSlL1_ap, e_slcL, kSlH2_ap, kSlH1_ap, e_slcH, kRev_ap, e_rev, kCall_ap, e_call, kBi_ap, e_bi, kIsi_ap, e_isi, kMu_ap, e_mu, kPm2_ap, kPm1_ap, e_pm, kTn3_ap, kTn2_ap, kTn1_ap, kCE_ap, kComp_ap, e_comp, kTNot_ap, t_nott, kTAnd_ap, t_and, kTOr_ap, t_or, kTVal_ap, t_val, s_nil, kS3_ap, kS2_ap, kS1_ap, s_cons, r_nil, kRr2_ap, kRr1_ap, r_cons, c_nil, kCa_ap, kC2_ap, kC1f_ap, kC1t_ap, c_f, c_t, f_nil, kF_ap, f_cons, kI2_ap, kI1_ap, i_seq, kEn2_ap, kEn1_ap, i_enum, kG1_ap, i_rng1, kG2b_ap, kG2a_ap, i_rng2, st_v, st_o, kSt_ap, st_s, x_nm, kA2_ap, kA1_ap, x_tp, kPar_ap, x_par, kExp_ap, x_exp, kIf_ap, x_ife, kFor_ap, x_for, x_whl, kRet_ap, x_ret, x_retN, x_brk, x_cnt, x_pass, xs_nil, xs_cons, fo_nx, fo_ret, bind_ok_, st_ok_, opd_v, opd_s, opd_o, seq_nx, seq_ret, seq_brk, seq_cnt, optR, optV, optB, view, views, fin, lent, isO, setTg, setAll, setCA, kd, wipes, unwipe, frz, binOp, muOp, truth, seqOf, isNone, callF, lend, slots, back, isLent, List.map_cons, List.map_nil, List.length_cons, List.length_nil, List.cons_append, List.nil_append, List.replicate, Nat.reduceAdd, Nat.reduceSub, List.getElem?_cons_zero, List.getElem?_cons_succ, List.set_cons_zero, List.set_cons_succ, List.getD_cons_zero, List.getD_cons_succ, if_true, if_false, reduceIte, Option.map_some, Option.map_none, List.filterMap_nil, List.filterMap_cons, List.nodup_nil, id_eq, Bool.false_eq_true, nodup1, Wk_Γ, Wk_C, Bool.false_and, Bool.and_false, Bool.or_false, Nat.add_zero]
      exact ⟨_, _, rfl⟩
    | true =>
      simp only [e_int, e_str, e_bl, e_non, e_glob, vr_v, vr_o, e_var, kBin2_ap, kBin1_ap, e_bin, kNeg_ap, e_neg, kNot_ap, e_nott, kAnd_ap, e_and, kOr_ap, e_or, kCmp2_ap, kCmp1_ap, e_cmp, kCh3_ap, kCh2_ap, kCh1_ap, e_cmp2, kIte_ap, e_ite, kTup_ap, e_tup, kLst_ap, e_lst, kSub2_ap, kSub1_ap, e_sub, kSlc3_ap, kSlc2_ap, kSlc1_ap, e_slc, kSlL2_ap, kSlL1_ap, e_slcL, kSlH2_ap, kSlH1_ap, e_slcH, kRev_ap, e_rev, kCall_ap, e_call, kBi_ap, e_bi, kIsi_ap, e_isi, kMu_ap, e_mu, kPm2_ap, kPm1_ap, e_pm, kTn3_ap, kTn2_ap, kTn1_ap, kCE_ap, kComp_ap, e_comp, kTNot_ap, t_nott, kTAnd_ap, t_and, kTOr_ap, t_or, kTVal_ap, t_val, s_nil, kS3_ap, kS2_ap, kS1_ap, s_cons, r_nil, kRr2_ap, kRr1_ap, r_cons, c_nil, kCa_ap, kC2_ap, kC1f_ap, kC1t_ap, c_f, c_t, f_nil, kF_ap, f_cons, kI2_ap, kI1_ap, i_seq, kEn2_ap, kEn1_ap, i_enum, kG1_ap, i_rng1, kG2b_ap, kG2a_ap, i_rng2, st_v, st_o, kSt_ap, st_s, x_nm, kA2_ap, kA1_ap, x_tp, kPar_ap, x_par, kExp_ap, x_exp, kIf_ap, x_ife, kFor_ap, x_for, x_whl, kRet_ap, x_ret, x_retN, x_brk, x_cnt, x_pass, xs_nil, xs_cons, fo_nx, fo_ret, bind_ok_, st_ok_, opd_v, opd_s, opd_o, seq_nx, seq_ret, seq_brk, seq_cnt, optR, optV, optB, view, views, fin, lent, isO, setTg, setAll, setCA, kd, wipes, unwipe, frz, binOp, muOp, truth, seqOf, isNone, callF, lend, slots, back, isLent, List.map_cons, List.map_nil, List.length_cons, List.length_nil, List.cons_append, List.nil_append, List.replicate, Nat.reduceAdd, Nat.reduceSub, List.getElem?_cons_zero, List.getElem?_cons_succ, List.set_cons_zero, List.set_cons_succ, List.getD_cons_zero, List.getD_cons_succ, if_true, if_false, reduceIte, Option.map_some, Option.map_none, List.filterMap_nil, List.filterMap_cons, List.nodup_nil, id_eq, Bool.false_eq_true, nodup1, Wk_Γ, Wk_C, l1, l3, hC, wa, hd1, hd2, hf r rm, Bool.true_and, Bool.and_true]
      cases hs : r.sp <;> cases hfit : fit r 1 s <;> (
        simp only [e_int, e_str, e_bl, e_non, e_glob, vr_v, vr_o, e_var, kBin2_ap, kBin1_ap, e_bin, kNeg_ap, e_neg, kNot_ap, e_nott, kAnd_ap, e_and, kOr_ap, e_or, kCmp2_ap, kCmp1_ap, e_cmp, kCh3_ap, kCh2_ap, kCh1_ap, e_cmp2, kIte_ap, e_ite, kTup_ap, e_tup, kLst_ap, e_lst, kSub2_ap, kSub1_ap, e_sub, kSlc3_ap, kSlc2_ap, kSlc1_ap, e_slc, kSlL2_ap, kSlL1_ap, e_slcL, kSlH2_ap, kSlH1_ap, e_slcH, kRev_ap, e_rev, kCall_ap, e_call, kBi_ap, e_bi, kIsi_ap, e_isi, kMu_ap, e_mu, kPm2_ap, kPm1_ap, e_pm, kTn3_ap, kTn2_ap, kTn1_ap, kCE_ap, kComp_ap, e_comp, kTNot_ap, t_nott, kTAnd_ap, t_and, kTOr_ap, t_or, kTVal_ap, t_val, s_nil, kS3_ap, kS2_ap, kS1_ap, s_cons, r_nil, kRr2_ap, kRr1_ap, r_cons, c_nil, kCa_ap, kC2_ap, kC1f_ap, kC1t_ap, c_f, c_t, f_nil, kF_ap, f_cons, kI2_ap, kI1_ap, i_seq, kEn2_ap, kEn1_ap, i_enum, kG1_ap, i_rng1, kG2b_ap, kG2a_ap, i_rng2, st_v, st_o, kSt_ap, st_s, x_nm, kA2_ap, kA1_ap, x_tp, kPar_ap, x_par, kExp_ap, x_exp, kIf_ap, x_ife, kFor_ap, x_for, x_whl, kRet_ap, x_ret, x_retN, x_brk, x_cnt, x_pass, xs_nil, xs_cons, fo_nx, fo_ret, bind_ok_, st_ok_, opd_v, opd_s, opd_o, seq_nx, seq_ret, seq_brk, seq_cnt, optR, optV, optB, view, views, fin, lent, isO, setTg, setAll, setCA, kd, wipes, unwipe, frz, binOp, muOp, truth, seqOf, isNone, callF, lend, slots, back, isLent, List.map_cons, List.map_nil, List.length_cons, List.length_nil, List.cons_append, List.nil_append, List.replicate, Nat.reduceAdd, Nat.reduceSub, List.getElem?_cons_zero, List.getElem?_cons_succ, List.set_cons_zero, List.set_cons_succ, List.getD_cons_zero, List.getD_cons_succ, if_true, if_false, reduceIte, Option.map_some, Option.map_none, List.filterMap_nil, List.filterMap_cons, List.nodup_nil, id_eq, Bool.false_eq_true, nodup1, Wk_Γ, Wk_C, l3, hC, wa, hf r rm, hfit, Bool.or_true, Bool.or_false, Int.natCast_add, Nat.add_zero]
        exact ⟨_, _, rfl⟩)
  · rintro ρ ⟨x, y, rfl⟩
    rw [numd_length, List.length_map, List.take_length]
    simp only [e_int, e_str, e_bl, e_non, e_glob, vr_v, vr_o, e_var, kBin2_ap, kBin1_ap, e_bin, kNeg_ap, e_neg, kNot_ap, e_nott, kAnd_ap, e_and, kOr_ap, e_or, kCmp2_ap, kCmp1_ap, e_cmp, kCh3_ap, kCh2_ap, kCh1_ap, e_cmp2, kIte_ap, e_ite, kTup_ap, e_tup, kLst_ap, e_lst, kSub2_ap, kSub1_ap, e_sub, kSlc3_ap, kSlc2_ap, kSlc1_ap, e_slc, kSlL2_ap, kSlL1_ap, e_slcL, kSlH2_ap, kSlH1_ap, e_slcH, kRev_ap, e_rev, kCall_ap, e_call, kBi_ap, e_bi, kIsi_ap, e_isi, kMu_ap, e_mu, kPm2_ap, kPm1_ap, e_pm, kTn3_ap, kTn2_ap, kTn1_ap, kCE_ap, kComp_ap, e_comp, kTNot_ap, t_nott, kTAnd_ap, t_and, kTOr_ap, t_or, kTVal_ap, t_val, s_nil, kS3_ap, kS2_ap, kS1_ap, s_cons, r_nil, kRr2_ap, kRr1_ap, r_cons, c_nil, kCa_ap, kC2_ap, kC1f_ap, kC1t_ap, c_f, c_t, f_nil, kF_ap, f_cons, kI2_ap, kI1_ap, i_seq, kEn2_ap, kEn1_ap, i_enum, kG1_ap, i_rng1, kG2b_ap, kG2a_ap, i_rng2, st_v, st_o, kSt_ap, st_s, x_nm, kA2_ap, kA1_ap, x_tp, kPar_ap, x_par, kExp_ap, x_exp, kIf_ap, x_ife, kFor_ap, x_for, x_whl, kRet_ap, x_ret, x_retN, x_brk, x_cnt, x_pass, xs_nil, xs_cons, fo_nx, fo_ret, bind_ok_, st_ok_, opd_v, opd_s, opd_o, seq_nx, seq_ret, seq_brk, seq_cnt, optR, optV, optB, view, views, fin, lent, isO, setTg, setAll, setCA, kd, wipes, unwipe, frz, binOp, muOp, truth, seqOf, isNone, callF, lend, slots, back, isLent, List.map_cons, List.map_nil, List.length_cons, List.length_nil, List.cons_append, List.nil_append, List.replicate, Nat.reduceAdd, Nat.reduceSub, List.getElem?_cons_zero, List.getElem?_cons_succ, List.set_cons_zero, List.set_cons_succ, List.getD_cons_zero, List.getD_cons_succ, if_true, if_false, reduceIte, Option.map_some, Option.map_none, List.filterMap_nil, List.filterMap_cons, List.nodup_nil, id_eq, Bool.false_eq_true, nodup1, Wk_Γ, Wk_C, eq0]
    unfold res3
    cases hb0 : decide (sumB (beg · s) rs = 0) with
    | true =>
      rw [if_pos (of_decide_eq_true hb0)]
      simp only [e_int, e_str, e_bl, e_non, e_glob, vr_v, vr_o, e_var, kBin2_ap, kBin1_ap, e_bin, kNeg_ap, e_neg, kNot_ap, e_nott, kAnd_ap, e_and, kOr_ap, e_or, kCmp2_ap, kCmp1_ap, e_cmp, kCh3_ap, kCh2_ap, kCh1_ap, e_cmp2, kIte_ap, e_ite, kTup_ap, e_tup, kLst_ap, e_lst, kSub2_ap, kSub1_ap, e_sub, kSlc3_ap, kSlc2_ap, kSlc1_ap, e_slc, kSlL2_ap, kSlL1_ap, e_slcL, kSlH2_ap, kSlH1_ap, e_slcH, kRev_ap, e_rev, kCall_ap, e_call, kBi_ap, e_bi, kIsi_ap, e_isi, kMu_ap, e_mu, kPm2_ap, kPm1_ap, e_pm, kTn3_ap, kTn2_ap, kTn1_ap, kCE_ap, kComp_ap, e_comp, kTNot_ap, t_nott, kTAnd_ap, t_and, kTOr_ap, t_or, kTVal_ap, t_val, s_nil, kS3_ap, kS2_ap, kS1_ap, s_cons, r_nil, kRr2_ap, kRr1_ap, r_cons, c_nil, kCa_ap, kC2_ap, kC1f_ap, kC1t_ap, c_f, c_t, f_nil, kF_ap, f_cons, kI2_ap, kI1_ap, i_seq, kEn2_ap, kEn1_ap, i_enum, kG1_ap, i_rng1, kG2b_ap, kG2a_ap, i_rng2, st_v, st_o, kSt_ap, st_s, x_nm, kA2_ap, kA1_ap, x_tp, kPar_ap, x_par, kExp_ap, x_exp, kIf_ap, x_ife, kFor_ap, x_for, x_whl, kRet_ap, x_ret, x_retN, x_brk, x_cnt, x_pass, xs_nil, xs_cons, fo_nx, fo_ret, bind_ok_, st_ok_, opd_v, opd_s, opd_o, seq_nx, seq_ret, seq_brk, seq_cnt, optR, optV, optB, view, views, fin, lent, isO, setTg, setAll, setCA, kd, wipes, unwipe, frz, binOp, muOp, truth, seqOf, isNone, callF, lend, slots, back, isLent, List.map_cons, List.map_nil, List.length_cons, List.length_nil, List.cons_append, List.nil_append, List.replicate, Nat.reduceAdd, Nat.reduceSub, List.getElem?_cons_zero, List.getElem?_cons_succ, List.set_cons_zero, List.set_cons_succ, List.getD_cons_zero, List.getD_cons_succ, if_true, if_false, reduceIte, Option.map_some, Option.map_none, List.filterMap_nil, List.filterMap_cons, List.nodup_nil, id_eq, Bool.false_eq_true, nodup1, Wk_Γ, Wk_C, hb0]
    | false =>
      rw [if_neg (of_decide_eq_false hb0)]
      simp only [e_int, e_str, e_bl, e_non, e_glob, vr_v, vr_o, e_var, kBin2_ap, kBin1_ap, e_bin, kNeg_ap, e_neg, kNot_ap, e_nott, kAnd_ap, e_and, kOr_ap, e_or, kCmp2_ap, kCmp1_ap, e_cmp, kCh3_ap, kCh2_ap, kCh1_ap, e_cmp2, kIte_ap, e_ite, kTup_ap, e_tup, kLst_ap, e_lst, kSub2_ap, kSub1_ap, e_sub, kSlc3_ap, kSlc2_ap, kSlc1_ap, e_slc, kSlL2_ap, kSlL1_ap, e_slcL, kSlH2_ap, kSlH1_ap, e_slcH, kRev_ap, e_rev, kCall_ap, e_call, kBi_ap, e_bi, kIsi_ap, e_isi, kMu_ap, e_mu, kPm2_ap, kPm1_ap, e_pm, kTn3_ap, kTn2_ap, kTn1_ap, kCE_ap, kComp_ap, e_comp, kTNot_ap, t_nott, kTAnd_ap, t_and, kTOr_ap, t_or, kTVal_ap, t_val, s_nil, kS3_ap, kS2_ap, kS1_ap, s_cons, r_nil, kRr2_ap, kRr1_ap, r_cons, c_nil, kCa_ap, kC2_ap, kC1f_ap, kC1t_ap, c_f, c_t, f_nil, kF_ap, f_cons, kI2_ap, kI1_ap, i_seq, kEn2_ap, kEn1_ap, i_enum, kG1_ap, i_rng1, kG2b_ap, kG2a_ap, i_rng2, st_v, st_o, kSt_ap, st_s, x_nm, kA2_ap, kA1_ap, x_tp, kPar_ap, x_par, kExp_ap, x_exp, kIf_ap, x_ife, kFor_ap, x_for, x_whl, kRet_ap, x_ret, x_retN, x_brk, x_cnt, x_pass, xs_nil, xs_cons, fo_nx, fo_ret, bind_ok_, st_ok_, opd_v, opd_s, opd_o, seq_nx, seq_ret, seq_brk, seq_cnt, optR, optV, optB, view, views, fin, lent, isO, setTg, setAll, setCA, kd, wipes, unwipe, frz, binOp, muOp, truth, seqOf, isNone, callF, lend, slots, back, isLent, List.map_cons, List.map_nil, List.length_cons, List.length_nil, List.cons_append, List.nil_append, List.replicate, Nat.reduceAdd, Nat.reduceSub, List.getElem?_cons_zero, List.getElem?_cons_succ, List.set_cons_zero, List.set_cons_succ, List.getD_cons_zero, List.getD_cons_succ, if_true, if_false, reduceIte, Option.map_some, Option.map_none, List.filterMap_nil, List.filterMap_cons, List.nodup_nil, id_eq, Bool.false_eq_true, nodup1, Wk_Γ, Wk_C, hb0]
end W6

set_option Elab.async false
set_option linter.all false
set_option maxRecDepth 100000
set_option maxHeartbeats 4000000
/-! K06c: has_rule, word_on. -/
namespace W6
open PySem Rc Lw06
theorem fdiv_nat (a : Nat) {n : Nat} (h : n < 6) : binOp .FloorDiv (.int (a : Int)) (.int ((2 ^ n : Nat) : Int)) = some (.v (.int ((a / 2 ^ n : Nat) : Int))) := by
  show (if ltI 0 ((2 ^ n : Nat) : Int) && within 1073741823 ((2 ^ n : Nat) : Int) then some (R.v (.int ((a : Int) / ((2 ^ n : Nat) : Int)))) else none) = _
  rw [if_pos (worth_ok h), Int.natCast_ediv]
theorem mod2_nat (a : Nat) : binOp .Mod (.int (a : Int)) (.int 2) = some (.v (.int ((a % 2 : Nat) : Int))) := by
  show (if ltI 0 2 then some (R.v (.int ((a : Int) % 2))) else none) = _
  rw [if_pos (show ltI 0 2 = true from rfl), Int.natCast_emod]
  rfl
theorem eq1 (a : Nat) : cmpOp .Eq (.int (a : Int)) (.int 1) = some (decide (a = 1)) := eq_nat a 1
theorem has_run (fuel : Nat) (W : Wd) (hC : W.C 0 = worths) (a : Nat) {n : Nat} (h : n < 6) : runFn fuel W f_has_rule [.v (.int a), .v (.int n)] = .v (.bool (decide (a / 2 ^ n % 2 = 1))) [] := by
  unfold f_has_rule runFn
  have wa := worth_at h
  have fd := fdiv_nat a h
  have R1 : ∀ ρ, optR ρ (some (R.v (.int ((a / 2 ^ n : Nat) : Int)))) = .ok (R.v (.int ((a / 2 ^ n : Nat) : Int))) ρ := fun _ => rfl
  simp only [e_int, e_str, e_bl, e_non, e_glob, vr_v, vr_o, e_var, kBin2_ap, kBin1_ap, e_bin, kNeg_ap, e_neg, kNot_ap, e_nott, kAnd_ap, e_and, kOr_ap, e_or, kCmp2_ap, kCmp1_ap, e_cmp, kCh3_ap, kCh2_ap, kCh1_ap, e_cmp2, kIte_ap, e_ite, kTup_ap, e_tup, kLst_ap, e_lst, kSub2_ap, kSub1_ap, e_sub, kSlc3_ap, kSlc2_ap, kSlc1_ap, e_slc, kSlL2_ap, kSlL1_ap, e_slcL, kSlH2_ap, kSlH1_ap, e_slcH, kRev_ap, e_rev, kCall_ap, e_call, kBi_ap, e_bi, kIsi_ap, e_isi, kMu_ap, e_mu, kPm2_ap, kPm1_ap, e_pm, kTn3_ap, kTn2_ap, kTn1_ap, kCE_ap, kComp_ap, e_comp, kTNot_ap, t_nott, kTAnd_ap, t_and, kTOr_ap, t_or, kTVal_ap, t_val, s_nil, kS3_ap, kS2_ap, kS1_ap, s_cons, r_nil, kRr2_ap, kRr1_ap, r_cons, c_nil, kCa_ap, kC2_ap, kC1f_ap, kC1t_ap, c_f, c_t, f_nil, kF_ap, f_cons, kI2_ap, kI1_ap, i_seq, kEn2_ap, kEn1_ap, i_enum, kG1_ap, i_rng1, kG2b_ap, kG2a_ap, i_rng2, st_v, st_o, kSt_ap, st_s, x_nm, kA2_ap, kA1_ap, x_tp, kPar_ap, x_par, kExp_ap, x_exp, kIf_ap, x_ife, kFor_ap, x_for, x_whl, kRet_ap, x_ret, x_retN, x_brk, x_cnt, x_pass, xs_nil, xs_cons, fo_nx, fo_ret, bind_ok_, st_ok_, opd_v, opd_s, opd_o, seq_nx, seq_ret, seq_brk, seq_cnt, optR, optV, optB, view, views, fin, lent, isO, setTg, setAll, setCA, kd, wipes, unwipe, frz, muOp, truth, seqOf, isNone, callF, lend, slots, back, isLent, List.map_cons, List.map_nil, List.length_cons, List.length_nil, List.cons_append, List.nil_append, List.replicate, Nat.reduceAdd, Nat.reduceSub, List.getElem?_cons_zero, List.getElem?_cons_succ, List.set_cons_zero, List.set_cons_succ, List.getD_cons_zero, List.getD_cons_succ, if_true, if_false, reduceIte, Option.map_some, Option.map_none, List.filterMap_nil, List.filterMap_cons, List.nodup_nil, id_eq, Bool.false_eq_true, nodup1, Wk_Γ, Wk_C, hC, wa, fd, mod2_nat, eq1]
theorem has_sum (p : Rul → Bool) {rs : List Rul} {i : Nat} {r : Rul} (h : rs[i]? = some r) : decide (sumB p rs / 2 ^ i % 2 = 1) = p r := by
  unfold sumB
  rw [msk_bit, List.getD_eq_getElem?_getD, List.getElem?_map, h]
  by_cases q : p r = true
  · simp [q]
  · simp [q]
theorem on_run (fuel : Nat) (W : Wd) (hC : W.C 0 = worths) (l0 : W.lm 18 = [false, false]) (l2 : W.lm 20 = [false, false, false]) (l3 : W.lm 21 = [false, false, false]) (rs : List Rul) (h6 : rs.length ≤ 6) (p : Rul → Bool) (bo fi m s : Nat)
    (hh : ∀ (i : Nat) (r : Rul), rs[i]? = some r → W.Γ 18 [.v (.int bo), .v (.int i)] = .v (.bool (p r)) []) (hg : ∀ r ∈ rs, W.Γ 20 [.v (enc r), .v (.int m), .v (Tx [s])] = .v (.bool (goes r m s)) []) (hf : ∀ r ∈ rs, W.Γ 21 [.v (enc r), .v (.int ((m : Int) + 1)), .v (Tx [s])] = .v (.bool (fit r (m + 1) s)) []) :
    runFn fuel W f_word_on [.v (rulesD rs), .v (.tuple [.int bo, .int fi, .int m]), .v (Tx [s])] = .v (res3 (sumB (fun r => p r && goes r m s) rs) (sumB (fun r => p r && goes r m s && fit r (m + 1) s) rs) (if rs.any (fun r => r.sp && (p r && goes r m s)) then m + 1 else 0)) [] := by
  unfold f_word_on runFn rulesD
  simp only [e_int, e_str, e_bl, e_non, e_glob, vr_v, vr_o, e_var, kBin2_ap, kBin1_ap, e_bin, kNeg_ap, e_neg, kNot_ap, e_nott, kAnd_ap, e_and, kOr_ap, e_or, kCmp2_ap, kCmp1_ap, e_cmp, kCh3_ap, kCh2_ap, kCh1_ap, e_cmp2, kIte_ap, e_ite, kTup_ap, e_tup, kLst_ap, e_lst, kSub2_ap, kSub1_ap, e_sub, kSlc3_ap, kSlc2_ap, kSlc1_ap, e_slc, kSlL2_ap, kSlL1_ap, e_slcL, kSlH2_ap, kSlH1_ap, e_slcH, kRev_ap, e_rev, kCall_ap, e_call, kBi_ap, e_bi, kIsi_ap, e_isi, kMu_ap, e_mu, kPm2_ap, kPm1_ap, e_pm, kTn3_ap, kTn2_ap, kTn1_ap, kCE_ap, kComp_ap, e_comp, kTNot_ap, t_nott, kTAnd_ap, t_and, kTOr_ap, t_or, kTVal_ap, t_val, s_nil, kS3_ap, kS2_ap, kS1_ap, s_cons, r_nil, kRr2_ap, kRr1_ap, r_cons, c_nil, kCa_ap, kC2_ap, kC1f_ap, kC1t_ap, c_f, c_t, f_nil, kF_ap, f_cons, kI2_ap, kI1_ap, i_seq, kEn2_ap, kEn1_ap, i_enum, kG1_ap, i_rng1, kG2b_ap, kG2a_ap, i_rng2, st_v, st_o, kSt_ap, st_s, x_nm, kA2_ap, kA1_ap, x_tp, kPar_ap, x_par, kExp_ap, x_exp, kIf_ap, x_ife, kFor_ap, x_for, x_whl, kRet_ap, x_ret, x_retN, x_brk, x_cnt, x_pass, xs_nil, xs_cons, fo_nx, fo_ret, bind_ok_, st_ok_, opd_v, opd_s, opd_o, seq_nx, seq_ret, seq_brk, seq_cnt, optR, optV, optB, view, views, fin, lent, isO, setTg, setAll, setCA, kd, wipes, unwipe, frz, binOp, muOp, truth, seqOf, isNone, callF, lend, slots, back, isLent, List.map_cons, List.map_nil, List.length_cons, List.length_nil, List.cons_append, List.nil_append, List.replicate, Nat.reduceAdd, Nat.reduceSub, List.getElem?_cons_zero, List.getElem?_cons_succ, List.set_cons_zero, List.set_cons_succ, List.getD_cons_zero, List.getD_cons_succ, if_true, if_false, reduceIte, Option.map_some, Option.map_none, List.filterMap_nil, List.filterMap_cons, List.nodup_nil, id_eq, Bool.false_eq_true, nodup1, Wk_Γ, Wk_C]
  refine forL_run (I := fun i ρ => ∃ x y, ρ = [.v (.tuple (rs.map enc)), .v (.tuple [.int bo, .int fi, .int m]), .v (Tx [s]), .v (.int (sumB (fun r => p r && goes r m s) (rs.take i) : Nat)), .v (.int (sumB (fun r => p r && goes r m s && fit r (m + 1) s) (rs.take i) : Nat)), .v (.int ((if (rs.take i).any (fun r => r.sp && (p r && goes r m s)) then m + 1 else 0 : Nat) : Int)), x, y])
    (R := fun o => SO.fo [false, false, false] (o.seq _) = _) ?_ ?_ ⟨_, _, rfl⟩
  · rintro i x ρ hx ⟨x0, y0, rfl⟩
    obtain ⟨r, hi, rfl⟩ := numd_at hx
    have rm := List.mem_of_getElem? hi
    have il := (List.getElem?_eq_some_iff.mp hi).1
    obtain ⟨t1, t2⟩ := take_snoc hi
    obtain ⟨d, hd1, hd2⟩ := spell_is r
    have wa := worth_at (n := i) (by omega)
    have hh0 := hh i r hi
    rw [t1]
    simp only [sumB_snoc, t2, List.any_append, List.any_cons, List.any_nil, Bool.or_false]
    simp only [turnF_ap, e_int, e_str, e_bl, e_non, e_glob, vr_v, vr_o, e_var, kBin2_ap, kBin1_ap, e_bin, kNeg_ap, e_neg, kNot_ap, e_nott, kAnd_ap, e_and, kOr_ap, e_or, kCmp2_ap, kCmp1_ap, e_cmp, kCh3_ap, kCh2_ap, kCh1_ap, e_cmp2, kIte_ap, e_ite, kTup_ap, e_tup, kLst_ap, e_lst, kSub2_ap, kSub1_ap, e_sub, kSlc3_ap, kSlc2_ap, kSlc1_ap, e_slc, kSlL2_ap, kSlL1_ap, e_slcL, kSlH2_ap, kSlH1_ap, e_slcH, kRev_ap, e_rev, kCall_ap, e_call, kBi_ap, e_bi, kIsi_ap, e_isi, kMu_ap, e_mu, kPm2_ap, kPm1_ap, e_pm, kTn3_ap, kTn2_ap, kTn1_ap, kCE_ap, kComp_ap, e_comp, kTNot_ap, t_nott, kTAnd_ap, t_and, kTOr_ap, t_or, kTVal_ap, t_val, s_nil, kS3_ap, kS2_ap, kS1_ap, s_cons, r_nil, kRr2_ap, kRr1_ap, r_cons, c_nil, kCa_ap, kC2_ap, kC1f_ap, kC1t_ap, c_f, c_t, f_nil, kF_ap, f_cons, kI2_ap, kI1_ap, i_seq, kEn2_ap, kEn1_ap, i_enum, kG1_ap, i_rng1, kG2b_ap, kG2a_ap, i_rng2, st_v, st_o, kSt_ap, st_s, x_nm, kA2_ap, kA1_ap, x_tp, kPar_ap, x_par, kExp_ap, x_exp, kIf_ap, x_ife, kFor_ap, x_for, x_whl, kRet_ap, x_ret, x_retN, x_brk, x_cnt, x_pass, xs_nil, xs_cons, fo_nx, fo_ret, bind_ok_, st_ok_, opd_v, opd_s, opd_o, seq_nx, seq_ret, seq_brk, seq_cnt, optR, optV, optB, view, views, fin, lent, isO, setTg, setAll, setCA, kd, wipes, unwipe, frz, binOp, muOp, truth, seqOf, isNone, callF, lend, slots, back, isLent, List.map_cons, List.map_nil, List.length_cons, List.length_nil, List.cons_append, List.nil_append, List.replicate, Nat.reduceAdd, Nat.reduceSub, List.getElem?_cons_zero, List.getElem?_cons_succ, List.set_cons_zero, List.set_cons_succ, List.getD_cons_zero, List.getD_cons_succ, if_true, if_false, reduceIte, Option.map_some, Option.map_none, List.filterMap_nil, List.filterMap_cons, List.nodup_nil, id_eq, Bool.false_eq_true, nodup1, Wk_Γ, Wk_C, subT, t30, t32, l0, l2, hh0, hg r rm]
    cases p r with
    | false =>
      simp only [e_int, e_str, e_bl, e_non, e_glob, vr_v, vr_o, e_var, kBin2_ap, kBin1_ap, e_bin, kNeg_ap, e_neg, kNot_ap, e_nott, kAnd_ap, e_and, kOr_ap, e_or, kCmp2_ap, kCmp1_ap, e_cmp, kCh3_ap, kCh2_ap, kCh1_ap, e_cmp2, kIte_ap, e_ite, kTup_ap, e_tup, kLst_ap, e_lst, kSub2_ap, kSub1_ap, e_sub, kSlc3_ap, kSlc2_ap, kSlc1_ap, e_slc, kSlL2_ap, kSlL1_ap, e_slcL, kSlH2_ap, kSlH1_ap, e_slcH, kRev_ap, e_rev, kCall_ap, e_call, kBi_ap, e_bi, kIsi_ap, e_isi, kMu_ap, e_mu, kPm2_ap, kPm1_ap, e_pm, kTn3_ap, kTn2_ap, kTn1_ap, kCE_ap, kComp_ap, e_comp, kTNot_ap, t_nott, kTAnd_ap, t_and, kTOr_ap, t_or, kTVal_ap, t_val, s_nil, kS3_ap, kS2_ap, kS1_ap, s_cons, r_nil, kRr2_ap, kRr1_ap, r_cons, c_nil, kCa_ap, kC2_ap, kC1f_ap, kC1t_ap, c_f, c_t, f_nil, kF_ap, f_cons, kI2_ap, kI1_ap, i_seq, kEn2_ap, kEn1_ap, i_enum, kG1_ap, i_rng1, kG2b_ap, kG2a_ap, i_rng2, st_v, st_o, kSt_ap, st_s, x_nm, kA2_ap, kA1_ap, x_tp, kPar_ap, x_par, kExp_ap, x_exp, kIf_ap, x_ife, kFor_ap, x_for, x_whl, kRet_ap, x_ret, x_retN, x_brk, x_cnt, x_pass, xs_nil, xs_cons, fo_nx, fo_ret, bind_ok_, st_ok_, opd_v, opd_s, opd_o, seq_nx, seq_ret, seq_brk, seq_cnt, optR, optV, optB, view, views, fin, lent, isO, setTg, setAll, setCA, kd, wipes, unwipe, frz, binOp, muOp, truth, seqOf, isNone, callF, lend, slots, back, isLent, List.map_cons, List.map_nil, List.length_cons, List.length_nil, List.cons_append, List.nil_append, List.replicate, Nat.reduceAdd, Nat.reduceSub, List.getElem?_cons_zero, List.getElem?_cons_succ, List.set_cons_zero, List.set_cons_succ, List.getD_cons_zero, List.getD_cons_succ, if_true, if_false, reduceIte, Option.map_some, Option.map_none, List.filterMap_nil, List.filterMap_cons, List.nodup_nil, id_eq, Bool.false_eq_true, nodup1, Wk_Γ, Wk_C, Bool.false_and, Bool.and_false, Bool.or_false, Nat.add_zero]
      exact ⟨_, _, rfl⟩
    | true =>
      simp only [e_int, e_str, e_bl, e_non, e_glob, vr_v, vr_o, e_var, kBin2_ap, kBin1_ap, e_bin, kNeg_ap, e_neg, kNot_ap, e_nott, kAnd_ap, e_and, kOr_ap, e_or, kCmp2_ap, kCmp1_ap, e_cmp, kCh3_ap, kCh2_ap, kCh1_ap, e_cmp2, kIte_ap, e_ite, kTup_ap, e_tup, kLst_ap, e_lst, kSub2_ap, kSub1_ap, e_sub, kSlc3_ap, kSlc2_ap, kSlc1_ap, e_slc, kSlL2_ap, kSlL1_ap, e_slcL, kSlH2_ap, kSlH1_ap, e_slcH, kRev_ap, e_rev, kCall_ap, e_call, kBi_ap, e_bi, kIsi_ap, e_isi, kMu_ap, e_mu, kPm2_ap, kPm1_ap, e_pm, kTn3_ap, kTn2_ap, kTn1_ap, kCE_ap, kComp_ap, e_comp, kTNot_ap, t_nott, kTAnd_ap, t_and, kTOr_ap, t_or, kTVal_ap, t_val, s_nil, kS3_ap, kS2_ap, kS1_ap, s_cons, r_nil, kRr2_ap, kRr1_ap, r_cons, c_nil, kCa_ap, kC2_ap, kC1f_ap, kC1t_ap, c_f, c_t, f_nil, kF_ap, f_cons, kI2_ap, kI1_ap, i_seq, kEn2_ap, kEn1_ap, i_enum, kG1_ap, i_rng1, kG2b_ap, kG2a_ap, i_rng2, st_v, st_o, kSt_ap, st_s, x_nm, kA2_ap, kA1_ap, x_tp, kPar_ap, x_par, kExp_ap, x_exp, kIf_ap, x_ife, kFor_ap, x_for, x_whl, kRet_ap, x_ret, x_retN, x_brk, x_cnt, x_pass, xs_nil, xs_cons, fo_nx, fo_ret, bind_ok_, st_ok_, opd_v, opd_s, opd_o, seq_nx, seq_ret, seq_brk, seq_cnt, optR, optV, optB, view, views, fin, lent, isO, setTg, setAll, setCA, kd, wipes, unwipe, frz, binOp, muOp, truth, seqOf, isNone, callF, lend, slots, back, isLent, List.map_cons, List.map_nil, List.length_cons, List.length_nil, List.cons_append, List.nil_append, List.replicate, Nat.reduceAdd, Nat.reduceSub, List.getElem?_cons_zero, List.getElem?_cons_succ, List.set_cons_zero, List.set_cons_succ, List.getD_cons_zero, List.getD_cons_succ, if_true, if_false, reduceIte, Option.map_some, Option.map_none, List.filterMap_nil, List.filterMap_cons, List.nodup_nil, id_eq, Bool.false_eq_true, nodup1, Wk_Γ, Wk_C, subT, t30, t32, l2, hg r rm]
      cases goes r m s with
      | false =>
        simp only [e_int, e_str, e_bl, e_non, e_glob, vr_v, vr_o, e_var, kBin2_ap, kBin1_ap, e_bin, kNeg_ap, e_neg, kNot_ap, e_nott, kAnd_ap, e_and, kOr_ap, e_or, kCmp2_ap, kCmp1_ap, e_cmp, kCh3_ap, kCh2_ap, kCh1_ap, e_cmp2, kIte_ap, e_ite, kTup_ap, e_tup, kLst_ap, e_lst, kSub2_ap, kSub1_ap, e_sub, kSlc3_ap, kSlc2_ap, kSlc1_ap, e_slc, kSlL2_ap, kSlL1_ap, e_slcL, kSlH2_ap, kSlH1_ap, e_slcH, kRev_ap, e_rev, kCall_ap, e_call, kBi_ap, e_bi, kIsi_ap, e_isi, kMu_ap, e_mu, kPm2_ap, kPm1_ap, e_pm, kTn3_ap, kTn2_ap, kTn1_ap, kCE_ap, kComp_ap, e_comp, kTNot_ap, t_nott, kTAnd_ap, t_and, kTOr_ap, t_or, kTVal_ap, t_val, s_nil, kS3_ap, kS2_ap, kS1_ap, s_cons, r_nil, kRr2_ap, kRr1_ap, r_cons, c_nil, kCa_ap, kC2_ap, kC1f_ap, kC1t_ap, c_f, c_t, f_nil, kF_ap, f_cons, kI2_ap, kI1_ap, i_seq, kEn2_ap, kEn1_ap, i_enum, kG1_ap, i_rng1, kG2b_ap, kG2a_ap, i_rng2, st_v, st_o, kSt_ap, st_s, x_nm, kA2_ap, kA1_ap, x_tp, kPar_ap, x_par, kExp_ap, x_exp, kIf_ap, x_ife, kFor_ap, x_for, x_whl, kRet_ap, x_ret, x_retN, x_brk, x_cnt, x_pass, xs_nil, xs_cons, fo_nx, fo_ret, bind_ok_, st_ok_, opd_v, opd_s, opd_o, seq_nx, seq_ret, seq_brk, seq_cnt, optR, optV, optB, view, views, fin, lent, isO, setTg, setAll, setCA, kd, wipes, unwipe, frz, binOp, muOp, truth, seqOf, isNone, callF, lend, slots, back, isLent, List.map_cons, List.map_nil, List.length_cons, List.length_nil, List.cons_append, List.nil_append, List.replicate, Nat.reduceAdd, Nat.reduceSub, List.getElem?_cons_zero, List.getElem?_cons_succ, List.set_cons_zero, List.set_cons_succ, List.getD_cons_zero, List.getD_cons_succ, if_true, if_false, reduceIte, Option.map_some, Option.map_none, List.filterMap_nil, List.filterMap_cons, List.nodup_nil, id_eq, Bool.false_eq_true, nodup1, Wk_Γ, Wk_C, Bool.false_and, Bool.and_false, Bool.or_false, Nat.add_zero]
        exact ⟨_, _, rfl⟩
      | true =>
        simp only [e_int, e_str, e_bl, e_non, e_glob, vr_v, vr_o, e_var, kBin2_ap, kBin1_ap, e_bin, kNeg_ap, e_neg, kNot_ap, e_nott, kAnd_ap, e_and, kOr_ap, e_or, kCmp2_ap, kCmp1_ap, e_cmp, kCh3_ap, kCh2_ap, kCh1_ap, e_cmp2, kIte_ap, e_ite, kTup_ap, e_tup, kLst_ap, e_lst, kSub2_ap, kSub1_ap, e_sub, kSlc3_ap, kSlc2_ap, kSlc1_ap, e_slc, kSlL2_ap, kSlL1_ap, e_slcL, kSlH2_ap, kSlH1_ap, e_slcH, kRev_ap, e_rev, kCall_ap, e_call, kBi_ap, e_bi, kIsi_ap, e_isi, kMu_ap, e_mu, kPm2_ap, kPm1_ap, e_pm, kTn3_ap, kTn2_ap, kTn1_ap, kCE_ap, kComp_ap, e_comp, kTNot_ap, t_nott, kTAnd_ap, t_and, kTOr_ap, t_or, kTVal_ap, t_val, s_nil, kS3_ap, kS2_ap, kS1_ap, s_cons, r_nil, kRr2_ap, kRr1_ap, r_cons, c_nil, kCa_ap, kC2_ap, kC1f_ap, kC1t_ap, c_f, c_t, f_nil, kF_ap, f_cons, kI2_ap, kI1_ap, i_seq, kEn2_ap, kEn1_ap, i_enum, kG1_ap, i_rng1, kG2b_ap, kG2a_ap, i_rng2, st_v, st_o, kSt_ap, st_s, x_nm, kA2_ap, kA1_ap, x_tp, kPar_ap, x_par, kExp_ap, x_exp, kIf_ap, x_ife, kFor_ap, x_for, x_whl, kRet_ap, x_ret, x_retN, x_brk, x_cnt, x_pass, xs_nil, xs_cons, fo_nx, fo_ret, bind_ok_, st_ok_, opd_v, opd_s, opd_o, seq_nx, seq_ret, seq_brk, seq_cnt, optR, optV, optB, view, views, fin, lent, isO, setTg, setAll, setCA, kd, wipes, unwipe, frz, binOp, muOp, truth, seqOf, isNone, callF, lend, slots, back, isLent, List.map_cons, List.map_nil, List.length_cons, List.length_nil, List.cons_append, List.nil_append, List.replicate, Nat.reduceAdd, Nat.reduceSub, List.getElem?_cons_zero, List.getElem?_cons_succ, List.set_cons_zero, List.set_cons_succ, List.getD_cons_zero, List.getD_cons_succ, if_true, if_false, reduceIte, Option.map_some, Option.map_none, List.filterMap_nil, List.filterMap_cons, List.nodup_nil, id_eq, Bool.false_eq_true, nodup1, Wk_Γ, Wk_C, subT, t30, t32, l0, l3, hC, wa, hd1, hd2, hf r rm, Bool.true_and, Bool.and_true]
        cases hs : r.sp <;> cases hfit : fit r (m + 1) s <;> (
          simp only [e_int, e_str, e_bl, e_non, e_glob, vr_v, vr_o, e_var, kBin2_ap, kBin1_ap, e_bin, kNeg_ap, e_neg, kNot_ap, e_nott, kAnd_ap, e_and, kOr_ap, e_or, kCmp2_ap, kCmp1_ap, e_cmp, kCh3_ap, kCh2_ap, kCh1_ap, e_cmp2, kIte_ap, e_ite, kTup_ap, e_tup, kLst_ap, e_lst, kSub2_ap, kSub1_ap, e_sub, kSlc3_ap, kSlc2_ap, kSlc1_ap, e_slc, kSlL2_ap, kSlL1_ap, e_slcL, kSlH2_ap, kSlH1_ap, e_slcH, kRev_ap, e_rev, kCall_ap, e_call, kBi_ap, e_bi, kIsi_ap, e_isi, kMu_ap, e_mu, kPm2_ap, kPm1_ap, e_pm, kTn3_ap, kTn2_ap, kTn1_ap, kCE_ap, kComp_ap, e_comp, kTNot_ap, t_nott, kTAnd_ap, t_and, kTOr_ap, t_or, kTVal_ap, t_val, s_nil, kS3_ap, kS2_ap, kS1_ap, s_cons, r_nil, kRr2_ap, kRr1_ap, r_cons, c_nil, kCa_ap, kC2_ap, kC1f_ap, kC1t_ap, c_f, c_t, f_nil, kF_ap, f_cons, kI2_ap, kI1_ap, i_seq, kEn2_ap, kEn1_ap, i_enum, kG1_ap, i_rng1, kG2b_ap, kG2a_ap, i_rng2, st_v, st_o, kSt_ap, st_s, x_nm, kA2_ap, kA1_ap, x_tp, kPar_ap, x_par, kExp_ap, x_exp, kIf_ap, x_ife, kFor_ap, x_for, x_whl, kRet_ap, x_ret, x_retN, x_brk, x_cnt, x_pass, xs_nil, xs_cons, fo_nx, fo_ret, bind_ok_, st_ok_, opd_v, opd_s, opd_o, seq_nx, seq_ret, seq_brk, seq_cnt, optR, optV, optB, view, views, fin, lent, isO, setTg, setAll, setCA, kd, wipes, unwipe, frz, binOp, muOp, truth, seqOf, isNone, callF, lend, slots, back, isLent, List.map_cons, List.map_nil, List.length_cons, List.length_nil, List.cons_append, List.nil_append, List.replicate, Nat.reduceAdd, Nat.reduceSub, List.getElem?_cons_zero, List.getElem?_cons_succ, List.set_cons_zero, List.set_cons_succ, List.getD_cons_zero, List.getD_cons_succ, if_true, if_false, reduceIte, Option.map_some, Option.map_none, List.filterMap_nil, List.filterMap_cons, List.nodup_nil, id_eq, Bool.false_eq_true, nodup1, Wk_Γ, Wk_C, subT, t30, t32, l3, hC, wa, hf r rm, hfit, Bool.or_true, Bool.or_false, Int.natCast_add, Nat.add_zero]
          exact ⟨_, _, rfl⟩)
  · rintro ρ ⟨x, y, rfl⟩
    rw [numd_length, List.length_map, List.take_length]
    simp only [e_int, e_str, e_bl, e_non, e_glob, vr_v, vr_o, e_var, kBin2_ap, kBin1_ap, e_bin, kNeg_ap, e_neg, kNot_ap, e_nott, kAnd_ap, e_and, kOr_ap, e_or, kCmp2_ap, kCmp1_ap, e_cmp, kCh3_ap, kCh2_ap, kCh1_ap, e_cmp2, kIte_ap, e_ite, kTup_ap, e_tup, kLst_ap, e_lst, kSub2_ap, kSub1_ap, e_sub, kSlc3_ap, kSlc2_ap, kSlc1_ap, e_slc, kSlL2_ap, kSlL1_ap, e_slcL, kSlH2_ap, kSlH1_ap, e_slcH, kRev_ap, e_rev, kCall_ap, e_call, kBi_ap, e_bi, kIsi_ap, e_isi, kMu_ap, e_mu, kPm2_ap, kPm1_ap, e_pm, kTn3_ap, kTn2_ap, kTn1_ap, kCE_ap, kComp_ap, e_comp, kTNot_ap, t_nott, kTAnd_ap, t_and, kTOr_ap, t_or, kTVal_ap, t_val, s_nil, kS3_ap, kS2_ap, kS1_ap, s_cons, r_nil, kRr2_ap, kRr1_ap, r_cons, c_nil, kCa_ap, kC2_ap, kC1f_ap, kC1t_ap, c_f, c_t, f_nil, kF_ap, f_cons, kI2_ap, kI1_ap, i_seq, kEn2_ap, kEn1_ap, i_enum, kG1_ap, i_rng1, kG2b_ap, kG2a_ap, i_rng2, st_v, st_o, kSt_ap, st_s, x_nm, kA2_ap, kA1_ap, x_tp, kPar_ap, x_par, kExp_ap, x_exp, kIf_ap, x_ife, kFor_ap, x_for, x_whl, kRet_ap, x_ret, x_retN, x_brk, x_cnt, x_pass, xs_nil, xs_cons, fo_nx, fo_ret, bind_ok_, st_ok_, opd_v, opd_s, opd_o, seq_nx, seq_ret, seq_brk, seq_cnt, optR, optV, optB, view, views, fin, lent, isO, setTg, setAll, setCA, kd, wipes, unwipe, frz, binOp, muOp, truth, seqOf, isNone, callF, lend, slots, back, isLent, List.map_cons, List.map_nil, List.length_cons, List.length_nil, List.cons_append, List.nil_append, List.replicate, Nat.reduceAdd, Nat.reduceSub, List.getElem?_cons_zero, List.getElem?_cons_succ, List.set_cons_zero, List.set_cons_succ, List.getD_cons_zero, List.getD_cons_succ, if_true, if_false, reduceIte, Option.map_some, Option.map_none, List.filterMap_nil, List.filterMap_cons, List.nodup_nil, id_eq, Bool.false_eq_true, nodup1, Wk_Γ, Wk_C, eq0]
    unfold res3
    cases hb0 : decide (sumB (fun r => p r && goes r m s) rs = 0) with
    | true =>
      rw [if_pos (of_decide_eq_true hb0)]
      simp only [e_int, e_str, e_bl, e_non, e_glob, vr_v, vr_o, e_var, kBin2_ap, kBin1_ap, e_bin, kNeg_ap, e_neg, kNot_ap, e_nott, kAnd_ap, e_and, kOr_ap, e_or, kCmp2_ap, kCmp1_ap, e_cmp, kCh3_ap, kCh2_ap, kCh1_ap, e_cmp2, kIte_ap, e_ite, kTup_ap, e_tup, kLst_ap, e_lst, kSub2_ap, kSub1_ap, e_sub, kSlc3_ap, kSlc2_ap, kSlc1_ap, e_slc, kSlL2_ap, kSlL1_ap, e_slcL, kSlH2_ap, kSlH1_ap, e_slcH, kRev_ap, e_rev, kCall_ap, e_call, kBi_ap, e_bi, kIsi_ap, e_isi, kMu_ap, e_mu, kPm2_ap, kPm1_ap, e_pm, kTn3_ap, kTn2_ap, kTn1_ap, kCE_ap, kComp_ap, e_comp, kTNot_ap, t_nott, kTAnd_ap, t_and, kTOr_ap, t_or, kTVal_ap, t_val, s_nil, kS3_ap, kS2_ap, kS1_ap, s_cons, r_nil, kRr2_ap, kRr1_ap, r_cons, c_nil, kCa_ap, kC2_ap, kC1f_ap, kC1t_ap, c_f, c_t, f_nil, kF_ap, f_cons, kI2_ap, kI1_ap, i_seq, kEn2_ap, kEn1_ap, i_enum, kG1_ap, i_rng1, kG2b_ap, kG2a_ap, i_rng2, st_v, st_o, kSt_ap, st_s, x_nm, kA2_ap, kA1_ap, x_tp, kPar_ap, x_par, kExp_ap, x_exp, kIf_ap, x_ife, kFor_ap, x_for, x_whl, kRet_ap, x_ret, x_retN, x_brk, x_cnt, x_pass, xs_nil, xs_cons, fo_nx, fo_ret, bind_ok_, st_ok_, opd_v, opd_s, opd_o, seq_nx, seq_ret, seq_brk, seq_cnt, optR, optV, optB, view, views, fin, lent, isO, setTg, setAll, setCA, kd, wipes, unwipe, frz, binOp, muOp, truth, seqOf, isNone, callF, lend, slots, back, isLent, List.map_cons, List.map_nil, List.length_cons, List.length_nil, List.cons_append, List.nil_append, List.replicate, Nat.reduceAdd, Nat.reduceSub, List.getElem?_cons_zero, List.getElem?_cons_succ, List.set_cons_zero, List.set_cons_succ, List.getD_cons_zero, List.getD_cons_succ, if_true, if_false, reduceIte, Option.map_some, Option.map_none, List.filterMap_nil, List.filterMap_cons, List.nodup_nil, id_eq, Bool.false_eq_true, nodup1, Wk_Γ, Wk_C, hb0]
    | false =>
      rw [if_neg (of_decide_eq_false hb0)]
      simp only [e_int, e_str, e_bl, e_non, e_glob, vr_v, vr_o, e_var, kBin2_ap, kBin1_ap, e_bin, kNeg_ap, e_neg, kNot_ap, e_nott, kAnd_ap, e_and, kOr_ap, e_or, kCmp2_ap, kCmp1_ap, e_cmp, kCh3_ap, kCh2_ap, kCh1_ap, e_cmp2, kIte_ap, e_ite, kTup_ap, e_tup, kLst_ap, e_lst, kSub2_ap, kSub1_ap, e_sub, kSlc3_ap, kSlc2_ap, kSlc1_ap, e_slc, kSlL2_ap, kSlL1_ap, e_slcL, kSlH2_ap, kSlH1_ap, e_slcH, kRev_ap, e_rev, kCall_ap, e_call, kBi_ap, e_bi, kIsi_ap, e_isi, kMu_ap, e_mu, kPm2_ap, kPm1_ap, e_pm, kTn3_ap, kTn2_ap, kTn1_ap, kCE_ap, kComp_ap, e_comp, kTNot_ap, t_nott, kTAnd_ap, t_and, kTOr_ap, t_or, kTVal_ap, t_val, s_nil, kS3_ap, kS2_ap, kS1_ap, s_cons, r_nil, kRr2_ap, kRr1_ap, r_cons, c_nil, kCa_ap, kC2_ap, kC1f_ap, kC1t_ap, c_f, c_t, f_nil, kF_ap, f_cons, kI2_ap, kI1_ap, i_seq, kEn2_ap, kEn1_ap, i_enum, kG1_ap, i_rng1, kG2b_ap, kG2a_ap, i_rng2, st_v, st_o, kSt_ap, st_s, x_nm, kA2_ap, kA1_ap, x_tp, kPar_ap, x_par, kExp_ap, x_exp, kIf_ap, x_ife, kFor_ap, x_for, x_whl, kRet_ap, x_ret, x_retN, x_brk, x_cnt, x_pass, xs_nil, xs_cons, fo_nx, fo_ret, bind_ok_, st_ok_, opd_v, opd_s, opd_o, seq_nx, seq_ret, seq_brk, seq_cnt, optR, optV, optB, view, views, fin, lent, isO, setTg, setAll, setCA, kd, wipes, unwipe, frz, binOp, muOp, truth, seqOf, isNone, callF, lend, slots, back, isLent, List.map_cons, List.map_nil, List.length_cons, List.length_nil, List.cons_append, List.nil_append, List.replicate, Nat.reduceAdd, Nat.reduceSub, List.getElem?_cons_zero, List.getElem?_cons_succ, List.set_cons_zero, List.set_cons_succ, List.getD_cons_zero, List.getD_cons_succ, if_true, if_false, reduceIte, Option.map_some, Option.map_none, List.filterMap_nil, List.filterMap_cons, List.nodup_nil, id_eq, Bool.false_eq_true, nodup1, Wk_Γ, Wk_C, hb0]
end W6

set_option Elab.async false
set_option linter.all false
set_option maxRecDepth 100000
set_option maxHeartbeats 4000000
/-! K06d: word_kinds. -/
namespace W6
open PySem Rc Lw06
def kstep (q : Rul → Bool) (acc : List (List Nat)) (r : Rul) : List (List Nat) := if q r && !decide (r.kind ∈ acc) then acc ++ [r.kind] else acc
def kds (q : Rul → Bool) (rs : List Rul) : List (List Nat) := rs.foldl (kstep q) []
theorem kds_snoc (q : Rul → Bool) (rs : List Rul) (r : Rul) : kds q (rs ++ [r]) = kstep q (kds q rs) r := by
  unfold kds
  rw [List.foldl_append]
  rfl
theorem kds_ok (q : Rul → Bool) (P : List Nat → Prop) : ∀ (rs : List Rul) (acc : List (List Nat)), (∀ r ∈ rs, P r.kind) → (∀ k ∈ acc, P k) → ∀ k ∈ rs.foldl (kstep q) acc, P k
  | [], acc, _, h => h
  | r :: rs, acc, hr, h => kds_ok q P rs (kstep q acc r) (fun x hx => hr x (List.mem_cons_of_mem _ hx)) fun k hk => by
    unfold kstep at hk
    split at hk
    · rcases List.mem_append.mp hk with hk | hk
      · exact h k hk
      · rw [List.mem_singleton.mp hk]
        exact hr r List.mem_cons_self
    · exact h k hk
theorem kds_len (q : Rul → Bool) : ∀ (rs : List Rul) (acc : List (List Nat)), (rs.foldl (kstep q) acc).length ≤ acc.length + rs.length
  | [], acc => Nat.le_refl _
  | r :: rs, acc => by
    have h := kds_len q rs (kstep q acc r)
    have e : (kstep q acc r).length ≤ acc.length + 1 := by
      unfold kstep
      split
      · rw [List.length_append]; exact Nat.le_refl _
      · omega
    rw [List.length_cons]
    show (rs.foldl (kstep q) (kstep q acc r)).length ≤ _
    omega
theorem kind_is (r : Rul) : subOp (enc r) (.int 1) = some (Tx r.kind) := by
  cases h : r.sp with
  | true => rw [enc_sp h]; rfl
  | false => rw [enc_wd h]; rfl
theorem kinds_run (fuel : Nat) (W : Wd) (l0 : W.lm 18 = [false, false]) (rs : List Rul) (h6 : rs.length ≤ 6) (hk : ∀ r ∈ rs, PyData.strOk (tx r.kind) = true) (q : Rul → Bool) (bo fi m : Nat)
    (hh : ∀ (i : Nat) (r : Rul), rs[i]? = some r → W.Γ 18 [.v (.int fi), .v (.int i)] = .v (.bool (q r)) []) :
    runFn fuel W f_word_kinds [.v (rulesD rs), .v (.tuple [.int bo, .int fi, .int m])] = .v (.tuple ((kds q rs).map Tx)) [] := by
  unfold f_word_kinds runFn rulesD
  simp only [e_int, e_str, e_bl, e_non, e_glob, vr_v, vr_o, e_var, kBin2_ap, kBin1_ap, e_bin, kNeg_ap, e_neg, kNot_ap, e_nott, kAnd_ap, e_and, kOr_ap, e_or, kCmp2_ap, kCmp1_ap, e_cmp, kCh3_ap, kCh2_ap, kCh1_ap, e_cmp2, kIte_ap, e_ite, kTup_ap, e_tup, kLst_ap, e_lst, kSub2_ap, kSub1_ap, e_sub, kSlc3_ap, kSlc2_ap, kSlc1_ap, e_slc, kSlL2_ap, kSlL1_ap, e_slcL, kSlH2_ap, kSlH1_ap, e_slcH, kRev_ap, e_rev, kCall_ap, e_call, kBi_ap, e_bi, kIsi_ap, e_isi, kMu_ap, e_mu, kPm2_ap, kPm1_ap, e_pm, kTn3_ap, kTn2_ap, kTn1_ap, kCE_ap, kComp_ap, e_comp, kTNot_ap, t_nott, kTAnd_ap, t_and, kTOr_ap, t_or, kTVal_ap, t_val, s_nil, kS3_ap, kS2_ap, kS1_ap, s_cons, r_nil, kRr2_ap, kRr1_ap, r_cons, c_nil, kCa_ap, kC2_ap, kC1f_ap, kC1t_ap, c_f, c_t, f_nil, kF_ap, f_cons, kI2_ap, kI1_ap, i_seq, kEn2_ap, kEn1_ap, i_enum, kG1_ap, i_rng1, kG2b_ap, kG2a_ap, i_rng2, st_v, st_o, kSt_ap, st_s, x_nm, kA2_ap, kA1_ap, x_tp, kPar_ap, x_par, kExp_ap, x_exp, kIf_ap, x_ife, kFor_ap, x_for, x_whl, kRet_ap, x_ret, x_retN, x_brk, x_cnt, x_pass, xs_nil, xs_cons, fo_nx, fo_ret, bind_ok_, st_ok_, opd_v, opd_s, opd_o, seq_nx, seq_ret, seq_brk, seq_cnt, optR, optV, optB, view, views, fin, lent, isO, setTg, setAll, setCA, kd, wipes, unwipe, frz, binOp, muOp, truth, seqOf, isNone, callF, lend, slots, back, isLent, List.map_cons, List.map_nil, List.length_cons, List.length_nil, List.cons_append, List.nil_append, List.replicate, Nat.reduceAdd, Nat.reduceSub, List.getElem?_cons_zero, List.getElem?_cons_succ, List.set_cons_zero, List.set_cons_succ, List.getD_cons_zero, List.getD_cons_succ, if_true, if_false, reduceIte, Option.map_some, Option.map_none, List.filterMap_nil, List.filterMap_cons, List.nodup_nil, id_eq, Bool.false_eq_true, nodup1, Wk_Γ, Wk_C]
  refine forL_run (I := fun i ρ => ∃ x y, ρ = [.v (.tuple (rs.map enc)), .v (.tuple [.int bo, .int fi, .int m]), .o (.lst ((kds q (rs.take i)).map Tx)), x, y]) (R := fun o => SO.fo [false, false] (o.seq _) = _) ?_ ?_ ⟨_, _, rfl⟩
  · rintro i x ρ hx ⟨x0, y0, rfl⟩
    obtain ⟨r, hi, rfl⟩ := numd_at hx
    have rm := List.mem_of_getElem? hi
    obtain ⟨t1, t2⟩ := take_snoc hi
    have hh0 := hh i r hi
    have hkin := kind_is r
    have hks : ∀ k ∈ kds q (rs.take i), PyData.strOk (tx k) = true := kds_ok q (fun k => PyData.strOk (tx k) = true) (rs.take i) [] (fun r hr => hk r (List.mem_of_mem_take hr)) (fun k h => by cases h)
    have hin : cmpOp .NotIn (Tx r.kind) (.list ((kds q (rs.take i)).map Tx)) = some (!decide (r.kind ∈ kds q (rs.take i))) := by
      show (inD (Tx r.kind) _).map (!·) = _
      rw [inD_tx (hk r rm) hks]
      rfl
    have hL : ((kds q (rs.take i)).map Tx).length < Lm := by
      rw [List.length_map]
      have := kds_len q (rs.take i) []
      have e : (kds q (rs.take i)).length ≤ 0 + (rs.take i).length := this
      rw [List.length_take] at e
      exact Nat.lt_of_le_of_lt (show (kds q (rs.take i)).length ≤ 6 by omega) (by decide)
    rw [t1, kds_snoc]
    unfold kstep
    simp only [turnF_ap, e_int, e_str, e_bl, e_non, e_glob, vr_v, vr_o, e_var, kBin2_ap, kBin1_ap, e_bin, kNeg_ap, e_neg, kNot_ap, e_nott, kAnd_ap, e_and, kOr_ap, e_or, kCmp2_ap, kCmp1_ap, e_cmp, kCh3_ap, kCh2_ap, kCh1_ap, e_cmp2, kIte_ap, e_ite, kTup_ap, e_tup, kLst_ap, e_lst, kSub2_ap, kSub1_ap, e_sub, kSlc3_ap, kSlc2_ap, kSlc1_ap, e_slc, kSlL2_ap, kSlL1_ap, e_slcL, kSlH2_ap, kSlH1_ap, e_slcH, kRev_ap, e_rev, kCall_ap, e_call, kBi_ap, e_bi, kIsi_ap, e_isi, kMu_ap, e_mu, kPm2_ap, kPm1_ap, e_pm, kTn3_ap, kTn2_ap, kTn1_ap, kCE_ap, kComp_ap, e_comp, kTNot_ap, t_nott, kTAnd_ap, t_and, kTOr_ap, t_or, kTVal_ap, t_val, s_nil, kS3_ap, kS2_ap, kS1_ap, s_cons, r_nil, kRr2_ap, kRr1_ap, r_cons, c_nil, kCa_ap, kC2_ap, kC1f_ap, kC1t_ap, c_f, c_t, f_nil, kF_ap, f_cons, kI2_ap, kI1_ap, i_seq, kEn2_ap, kEn1_ap, i_enum, kG1_ap, i_rng1, kG2b_ap, kG2a_ap, i_rng2, st_v, st_o, kSt_ap, st_s, x_nm, kA2_ap, kA1_ap, x_tp, kPar_ap, x_par, kExp_ap, x_exp, kIf_ap, x_ife, kFor_ap, x_for, x_whl, kRet_ap, x_ret, x_retN, x_brk, x_cnt, x_pass, xs_nil, xs_cons, fo_nx, fo_ret, bind_ok_, st_ok_, opd_v, opd_s, opd_o, seq_nx, seq_ret, seq_brk, seq_cnt, optR, optV, optB, view, views, fin, lent, isO, setTg, setAll, setCA, kd, wipes, unwipe, frz, binOp, muOp, truth, seqOf, isNone, callF, lend, slots, back, isLent, List.map_cons, List.map_nil, List.length_cons, List.length_nil, List.cons_append, List.nil_append, List.replicate, Nat.reduceAdd, Nat.reduceSub, List.getElem?_cons_zero, List.getElem?_cons_succ, List.set_cons_zero, List.set_cons_succ, List.getD_cons_zero, List.getD_cons_succ, if_true, if_false, reduceIte, Option.map_some, Option.map_none, List.filterMap_nil, List.filterMap_cons, List.nodup_nil, id_eq, Bool.false_eq_true, nodup1, Wk_Γ, Wk_C, subT, t31, l0, hh0]
    cases q r with
    | false =>
      simp only [e_int, e_str, e_bl, e_non, e_glob, vr_v, vr_o, e_var, kBin2_ap, kBin1_ap, e_bin, kNeg_ap, e_neg, kNot_ap, e_nott, kAnd_ap, e_and, kOr_ap, e_or, kCmp2_ap, kCmp1_ap, e_cmp, kCh3_ap, kCh2_ap, kCh1_ap, e_cmp2, kIte_ap, e_ite, kTup_ap, e_tup, kLst_ap, e_lst, kSub2_ap, kSub1_ap, e_sub, kSlc3_ap, kSlc2_ap, kSlc1_ap, e_slc, kSlL2_ap, kSlL1_ap, e_slcL, kSlH2_ap, kSlH1_ap, e_slcH, kRev_ap, e_rev, kCall_ap, e_call, kBi_ap, e_bi, kIsi_ap, e_isi, kMu_ap, e_mu, kPm2_ap, kPm1_ap, e_pm, kTn3_ap, kTn2_ap, kTn1_ap, kCE_ap, kComp_ap, e_comp, kTNot_ap, t_nott, kTAnd_ap, t_and, kTOr_ap, t_or, kTVal_ap, t_val, s_nil, kS3_ap, kS2_ap, kS1_ap, s_cons, r_nil, kRr2_ap, kRr1_ap, r_cons, c_nil, kCa_ap, kC2_ap, kC1f_ap, kC1t_ap, c_f, c_t, f_nil, kF_ap, f_cons, kI2_ap, kI1_ap, i_seq, kEn2_ap, kEn1_ap, i_enum, kG1_ap, i_rng1, kG2b_ap, kG2a_ap, i_rng2, st_v, st_o, kSt_ap, st_s, x_nm, kA2_ap, kA1_ap, x_tp, kPar_ap, x_par, kExp_ap, x_exp, kIf_ap, x_ife, kFor_ap, x_for, x_whl, kRet_ap, x_ret, x_retN, x_brk, x_cnt, x_pass, xs_nil, xs_cons, fo_nx, fo_ret, bind_ok_, st_ok_, opd_v, opd_s, opd_o, seq_nx, seq_ret, seq_brk, seq_cnt, optR, optV, optB, view, views, fin, lent, isO, setTg, setAll, setCA, kd, wipes, unwipe, frz, binOp, muOp, truth, seqOf, isNone, callF, lend, slots, back, isLent, List.map_cons, List.map_nil, List.length_cons, List.length_nil, List.cons_append, List.nil_append, List.replicate, Nat.reduceAdd, Nat.reduceSub, List.getElem?_cons_zero, List.getElem?_cons_succ, List.set_cons_zero, List.set_cons_succ, List.getD_cons_zero, List.getD_cons_succ, if_true, if_false, reduceIte, Option.map_some, Option.map_none, List.filterMap_nil, List.filterMap_cons, List.nodup_nil, id_eq, Bool.false_eq_true, nodup1, Wk_Γ, Wk_C, Bool.false_and]
      exact ⟨_, _, rfl⟩
    | true =>
      simp only [e_int, e_str, e_bl, e_non, e_glob, vr_v, vr_o, e_var, kBin2_ap, kBin1_ap, e_bin, kNeg_ap, e_neg, kNot_ap, e_nott, kAnd_ap, e_and, kOr_ap, e_or, kCmp2_ap, kCmp1_ap, e_cmp, kCh3_ap, kCh2_ap, kCh1_ap, e_cmp2, kIte_ap, e_ite, kTup_ap, e_tup, kLst_ap, e_lst, kSub2_ap, kSub1_ap, e_sub, kSlc3_ap, kSlc2_ap, kSlc1_ap, e_slc, kSlL2_ap, kSlL1_ap, e_slcL, kSlH2_ap, kSlH1_ap, e_slcH, kRev_ap, e_rev, kCall_ap, e_call, kBi_ap, e_bi, kIsi_ap, e_isi, kMu_ap, e_mu, kPm2_ap, kPm1_ap, e_pm, kTn3_ap, kTn2_ap, kTn1_ap, kCE_ap, kComp_ap, e_comp, kTNot_ap, t_nott, kTAnd_ap, t_and, kTOr_ap, t_or, kTVal_ap, t_val, s_nil, kS3_ap, kS2_ap, kS1_ap, s_cons, r_nil, kRr2_ap, kRr1_ap, r_cons, c_nil, kCa_ap, kC2_ap, kC1f_ap, kC1t_ap, c_f, c_t, f_nil, kF_ap, f_cons, kI2_ap, kI1_ap, i_seq, kEn2_ap, kEn1_ap, i_enum, kG1_ap, i_rng1, kG2b_ap, kG2a_ap, i_rng2, st_v, st_o, kSt_ap, st_s, x_nm, kA2_ap, kA1_ap, x_tp, kPar_ap, x_par, kExp_ap, x_exp, kIf_ap, x_ife, kFor_ap, x_for, x_whl, kRet_ap, x_ret, x_retN, x_brk, x_cnt, x_pass, xs_nil, xs_cons, fo_nx, fo_ret, bind_ok_, st_ok_, opd_v, opd_s, opd_o, seq_nx, seq_ret, seq_brk, seq_cnt, optR, optV, optB, view, views, fin, lent, isO, setTg, setAll, setCA, kd, wipes, unwipe, frz, binOp, muOp, truth, seqOf, isNone, callF, lend, slots, back, isLent, List.map_cons, List.map_nil, List.length_cons, List.length_nil, List.cons_append, List.nil_append, List.replicate, Nat.reduceAdd, Nat.reduceSub, List.getElem?_cons_zero, List.getElem?_cons_succ, List.set_cons_zero, List.set_cons_succ, List.getD_cons_zero, List.getD_cons_succ, if_true, if_false, reduceIte, Option.map_some, Option.map_none, List.filterMap_nil, List.filterMap_cons, List.nodup_nil, id_eq, Bool.false_eq_true, nodup1, Wk_Γ, Wk_C, hkin, hin, Bool.true_and]
      cases hd : !decide (r.kind ∈ kds q (rs.take i)) with
      | false =>
        simp only [e_int, e_str, e_bl, e_non, e_glob, vr_v, vr_o, e_var, kBin2_ap, kBin1_ap, e_bin, kNeg_ap, e_neg, kNot_ap, e_nott, kAnd_ap, e_and, kOr_ap, e_or, kCmp2_ap, kCmp1_ap, e_cmp, kCh3_ap, kCh2_ap, kCh1_ap, e_cmp2, kIte_ap, e_ite, kTup_ap, e_tup, kLst_ap, e_lst, kSub2_ap, kSub1_ap, e_sub, kSlc3_ap, kSlc2_ap, kSlc1_ap, e_slc, kSlL2_ap, kSlL1_ap, e_slcL, kSlH2_ap, kSlH1_ap, e_slcH, kRev_ap, e_rev, kCall_ap, e_call, kBi_ap, e_bi, kIsi_ap, e_isi, kMu_ap, e_mu, kPm2_ap, kPm1_ap, e_pm, kTn3_ap, kTn2_ap, kTn1_ap, kCE_ap, kComp_ap, e_comp, kTNot_ap, t_nott, kTAnd_ap, t_and, kTOr_ap, t_or, kTVal_ap, t_val, s_nil, kS3_ap, kS2_ap, kS1_ap, s_cons, r_nil, kRr2_ap, kRr1_ap, r_cons, c_nil, kCa_ap, kC2_ap, kC1f_ap, kC1t_ap, c_f, c_t, f_nil, kF_ap, f_cons, kI2_ap, kI1_ap, i_seq, kEn2_ap, kEn1_ap, i_enum, kG1_ap, i_rng1, kG2b_ap, kG2a_ap, i_rng2, st_v, st_o, kSt_ap, st_s, x_nm, kA2_ap, kA1_ap, x_tp, kPar_ap, x_par, kExp_ap, x_exp, kIf_ap, x_ife, kFor_ap, x_for, x_whl, kRet_ap, x_ret, x_retN, x_brk, x_cnt, x_pass, xs_nil, xs_cons, fo_nx, fo_ret, bind_ok_, st_ok_, opd_v, opd_s, opd_o, seq_nx, seq_ret, seq_brk, seq_cnt, optR, optV, optB, view, views, fin, lent, isO, setTg, setAll, setCA, kd, wipes, unwipe, frz, binOp, muOp, truth, seqOf, isNone, callF, lend, slots, back, isLent, List.map_cons, List.map_nil, List.length_cons, List.length_nil, List.cons_append, List.nil_append, List.replicate, Nat.reduceAdd, Nat.reduceSub, List.getElem?_cons_zero, List.getElem?_cons_succ, List.set_cons_zero, List.set_cons_succ, List.getD_cons_zero, List.getD_cons_succ, if_true, if_false, reduceIte, Option.map_some, Option.map_none, List.filterMap_nil, List.filterMap_cons, List.nodup_nil, id_eq, Bool.false_eq_true, nodup1, Wk_Γ, Wk_C, hd]
        exact ⟨_, _, rfl⟩
      | true =>
        simp only [e_int, e_str, e_bl, e_non, e_glob, vr_v, vr_o, e_var, kBin2_ap, kBin1_ap, e_bin, kNeg_ap, e_neg, kNot_ap, e_nott, kAnd_ap, e_and, kOr_ap, e_or, kCmp2_ap, kCmp1_ap, e_cmp, kCh3_ap, kCh2_ap, kCh1_ap, e_cmp2, kIte_ap, e_ite, kTup_ap, e_tup, kLst_ap, e_lst, kSub2_ap, kSub1_ap, e_sub, kSlc3_ap, kSlc2_ap, kSlc1_ap, e_slc, kSlL2_ap, kSlL1_ap, e_slcL, kSlH2_ap, kSlH1_ap, e_slcH, kRev_ap, e_rev, kCall_ap, e_call, kBi_ap, e_bi, kIsi_ap, e_isi, kMu_ap, e_mu, kPm2_ap, kPm1_ap, e_pm, kTn3_ap, kTn2_ap, kTn1_ap, kCE_ap, kComp_ap, e_comp, kTNot_ap, t_nott, kTAnd_ap, t_and, kTOr_ap, t_or, kTVal_ap, t_val, s_nil, kS3_ap, kS2_ap, kS1_ap, s_cons, r_nil, kRr2_ap, kRr1_ap, r_cons, c_nil, kCa_ap, kC2_ap, kC1f_ap, kC1t_ap, c_f, c_t, f_nil, kF_ap, f_cons, kI2_ap, kI1_ap, i_seq, kEn2_ap, kEn1_ap, i_enum, kG1_ap, i_rng1, kG2b_ap, kG2a_ap, i_rng2, st_v, st_o, kSt_ap, st_s, x_nm, kA2_ap, kA1_ap, x_tp, kPar_ap, x_par, kExp_ap, x_exp, kIf_ap, x_ife, kFor_ap, x_for, x_whl, kRet_ap, x_ret, x_retN, x_brk, x_cnt, x_pass, xs_nil, xs_cons, fo_nx, fo_ret, bind_ok_, st_ok_, opd_v, opd_s, opd_o, seq_nx, seq_ret, seq_brk, seq_cnt, optR, optV, optB, view, views, fin, lent, isO, setTg, setAll, setCA, kd, wipes, unwipe, frz, binOp, muOp, truth, seqOf, isNone, callF, lend, slots, back, isLent, List.map_cons, List.map_nil, List.length_cons, List.length_nil, List.cons_append, List.nil_append, List.replicate, Nat.reduceAdd, Nat.reduceSub, List.getElem?_cons_zero, List.getElem?_cons_succ, List.set_cons_zero, List.set_cons_succ, List.getD_cons_zero, List.getD_cons_succ, if_true, if_false, reduceIte, Option.map_some, Option.map_none, List.filterMap_nil, List.filterMap_cons, List.nodup_nil, id_eq, Bool.false_eq_true, nodup1, Wk_Γ, Wk_C, hd, hkin, hL, List.map_append]
        exact ⟨_, _, rfl⟩
  · rintro ρ ⟨x, y, rfl⟩
    rw [numd_length, List.length_map, List.take_length]
    have e : biOp .tuple_ [.list ((kds q rs).map Tx)] = some (.v (.tuple ((kds q rs).map Tx))) := rfl
    simp only [e_int, e_str, e_bl, e_non, e_glob, vr_v, vr_o, e_var, kBin2_ap, kBin1_ap, e_bin, kNeg_ap, e_neg, kNot_ap, e_nott, kAnd_ap, e_and, kOr_ap, e_or, kCmp2_ap, kCmp1_ap, e_cmp, kCh3_ap, kCh2_ap, kCh1_ap, e_cmp2, kIte_ap, e_ite, kTup_ap, e_tup, kLst_ap, e_lst, kSub2_ap, kSub1_ap, e_sub, kSlc3_ap, kSlc2_ap, kSlc1_ap, e_slc, kSlL2_ap, kSlL1_ap, e_slcL, kSlH2_ap, kSlH1_ap, e_slcH, kRev_ap, e_rev, kCall_ap, e_call, kBi_ap, e_bi, kIsi_ap, e_isi, kMu_ap, e_mu, kPm2_ap, kPm1_ap, e_pm, kTn3_ap, kTn2_ap, kTn1_ap, kCE_ap, kComp_ap, e_comp, kTNot_ap, t_nott, kTAnd_ap, t_and, kTOr_ap, t_or, kTVal_ap, t_val, s_nil, kS3_ap, kS2_ap, kS1_ap, s_cons, r_nil, kRr2_ap, kRr1_ap, r_cons, c_nil, kCa_ap, kC2_ap, kC1f_ap, kC1t_ap, c_f, c_t, f_nil, kF_ap, f_cons, kI2_ap, kI1_ap, i_seq, kEn2_ap, kEn1_ap, i_enum, kG1_ap, i_rng1, kG2b_ap, kG2a_ap, i_rng2, st_v, st_o, kSt_ap, st_s, x_nm, kA2_ap, kA1_ap, x_tp, kPar_ap, x_par, kExp_ap, x_exp, kIf_ap, x_ife, kFor_ap, x_for, x_whl, kRet_ap, x_ret, x_retN, x_brk, x_cnt, x_pass, xs_nil, xs_cons, fo_nx, fo_ret, bind_ok_, st_ok_, opd_v, opd_s, opd_o, seq_nx, seq_ret, seq_brk, seq_cnt, optR, optV, optB, view, views, fin, lent, isO, setTg, setAll, setCA, kd, wipes, unwipe, frz, binOp, muOp, truth, seqOf, isNone, callF, lend, slots, back, isLent, List.map_cons, List.map_nil, List.length_cons, List.length_nil, List.cons_append, List.nil_append, List.replicate, Nat.reduceAdd, Nat.reduceSub, List.getElem?_cons_zero, List.getElem?_cons_succ, List.set_cons_zero, List.set_cons_succ, List.getD_cons_zero, List.getD_cons_succ, if_true, if_false, reduceIte, Option.map_some, Option.map_none, List.filterMap_nil, List.filterMap_cons, List.nodup_nil, id_eq, Bool.false_eq_true, nodup1, Wk_Γ, Wk_C, e]
end W6

set_option Elab.async false
set_option linter.all false
set_option maxRecDepth 100000
set_option maxHeartbeats 4000000
/-! K06e: the chain of words; kinds_of. -/
namespace W6
open PySem Rc Lw06
def bord (rs : List Rul) (t : List Nat) (m : Nat) : Nat := sumB (fun r => bn r t m) rs
/-- the sign in front of place m -/
def lastS (t : List Nat) (m : Nat) : Nat := t.getD (m - 1) 0
def fitd (rs : List Rul) (t : List Nat) (m : Nat) : Nat := sumB (fun r => bn r t m && fit r m (lastS t m)) rs
def spelt (rs : List Rul) (t : List Nat) (m : Nat) : Nat := if rs.any (fun r => r.sp && bn r t m) then m else 0
def due (rs : List Rul) (t : List Nat) (m : Nat) : PyData := res3 (bord rs t m) (fitd rs t m) (spelt rs t m)
theorem sumB_cg {p q : Rul → Bool} {rs : List Rul} (h : ∀ r ∈ rs, p r = q r) : sumB p rs = sumB q rs := by
  unfold sumB
  rw [List.map_congr_left h]
theorem any_cg {p q : Rul → Bool} {rs : List Rul} (h : ∀ r ∈ rs, p r = q r) : rs.any p = rs.any q := by
  rw [Bool.eq_iff_iff, List.any_eq_true, List.any_eq_true]
  constructor
  · rintro ⟨r, h1, h2⟩; exact ⟨r, h1, by rw [← h r h1]; exact h2⟩
  · rintro ⟨r, h1, h2⟩; exact ⟨r, h1, by rw [h r h1]; exact h2⟩
theorem sumB_zero {p : Rul → Bool} {rs : List Rul} : sumB p rs = 0 ↔ ∀ r ∈ rs, p r = false := by
  unfold sumB
  rw [msk_zero]
  constructor
  · intro h r hr; exact h _ (List.mem_map.mpr ⟨r, hr, rfl⟩)
  · intro h b hb
    obtain ⟨r, hr, e⟩ := List.mem_map.mp hb
    rw [← e]; exact h r hr
theorem bord_zero {rs : List Rul} {t : List Nat} {m k : Nat} (h : bord rs t m = 0) (hk : m ≤ k) : bord rs t k = 0 := by
  have h := sumB_zero.mp h
  refine sumB_zero.mpr fun r hr => ?_
  cases q : bn r t k with
  | false => rfl
  | true =>
    have := h r hr
    rw [bn_le q hk] at this
    cases this
theorem beg_bn {r : Rul} {t : List Nat} {s : Nat} (h : t[0]? = some s) : beg r s = bn r t 1 := by
  unfold beg
  show _ = (true && (if r.sp then decide (0 < r.a.length) && decide (r.a[0]? = t[0]?) else match t[0]? with
    | some s => decide (s ∈ (if 0 = 0 then r.a else r.b))
    | none => false))
  rw [h, Bool.true_and, if_pos rfl]
  cases q : r.a with
  | nil => cases r.sp <;> simp
  | cons c l => cases r.sp <;> simp
theorem goes_bn {r : Rul} {t : List Nat} {m s : Nat} (h : t[m]? = some s) (hm : m ≠ 0) : (bn r t m && goes r m s) = bn r t (m + 1) := by
  unfold goes
  show _ = (bn r t m && (if r.sp then decide (m < r.a.length) && decide (r.a[m]? = t[m]?) else match t[m]? with
    | some s => decide (s ∈ (if m = 0 then r.a else r.b))
    | none => false))
  rw [h, if_neg hm]
theorem lastS_at {t : List Nat} {m s : Nat} (h : t[m]? = some s) : lastS t (m + 1) = s := by
  unfold lastS
  rw [Nat.add_sub_cancel, List.getD_eq_getElem?_getD, h]
  rfl
theorem due_begin {rs : List Rul} {t : List Nat} {s : Nat} (h : t[0]? = some s) : res3 (sumB (beg · s) rs) (sumB (fun r => beg r s && fit r 1 s) rs) (if rs.any (fun r => r.sp && beg r s) then 1 else 0) = due rs t 1 := by
  have e : ∀ r, beg r s = bn r t 1 := fun r => beg_bn h
  unfold due bord fitd spelt
  simp only [e, lastS_at h]
theorem due_on {rs : List Rul} {t : List Nat} {m s : Nat} (h : t[m]? = some s) (hm : m ≠ 0) :
    res3 (sumB (fun r => bn r t m && goes r (spelt rs t m) s) rs) (sumB (fun r => bn r t m && goes r (spelt rs t m) s && fit r (spelt rs t m + 1) s) rs) (if rs.any (fun r => r.sp && (bn r t m && goes r (spelt rs t m) s)) then spelt rs t m + 1 else 0) = due rs t (m + 1) := by
  have sp : ∀ r ∈ rs, r.sp = true → bn r t m = true → spelt rs t m = m := fun r hr h1 h2 => by
    unfold spelt
    rw [if_pos (List.any_eq_true.mpr ⟨r, hr, by rw [h1, h2]; rfl⟩)]
  have e1 : ∀ r ∈ rs, (bn r t m && goes r (spelt rs t m) s) = bn r t (m + 1) := fun r hr => by
    rw [← goes_bn h hm]
    cases h2 : bn r t m with
    | false => rfl
    | true =>
      cases h1 : r.sp with
      | true => rw [sp r hr h1 h2]
      | false => unfold goes; rw [h1]; rfl
  have e2 : ∀ r ∈ rs, (bn r t m && goes r (spelt rs t m) s && fit r (spelt rs t m + 1) s) = (bn r t (m + 1) && fit r (m + 1) s) := fun r hr => by
    rw [e1 r hr]
    cases h3 : bn r t (m + 1) with
    | false => rfl
    | true =>
      cases h1 : r.sp with
      | true => rw [sp r hr h1 (bn_le h3 (Nat.le_succ m))]
      | false => unfold fit; rw [h1]; rfl
  have e3 : ∀ r ∈ rs, (r.sp && (bn r t m && goes r (spelt rs t m) s)) = (r.sp && bn r t (m + 1)) := fun r hr => by rw [e1 r hr]
  unfold due bord fitd
  rw [sumB_cg e1, sumB_cg e2, any_cg e3, lastS_at h]
  congr 1
  show (if rs.any (fun r => r.sp && bn r t (m + 1)) then spelt rs t m + 1 else 0) = spelt rs t (m + 1)
  conv => rhs; unfold spelt
  by_cases q : rs.any (fun r => r.sp && bn r t (m + 1)) = true
  · rw [if_pos q, if_pos q]
    obtain ⟨r, hr, h1⟩ := List.any_eq_true.mp q
    rw [Bool.and_eq_true] at h1
    rw [sp r hr h1.1 (bn_le h1.2 (Nat.le_succ m))]
  · rw [if_neg q, if_neg q]
end W6

set_option Elab.async false
set_option linter.all false
set_option maxRecDepth 100000
set_option maxHeartbeats 4000000
/-! K06f: kinds_of. -/
namespace W6
open PySem Rc Lw06
/-- the kinds of the word t -/
def kindsT (rs : List Rul) (t : List Nat) (m : Nat) : List (List Nat) := if bord rs t m = 0 then [] else kds (fun r => bn r t m && fit r m (lastS t m)) rs
theorem res3_none (b f m : Nat) : cmpOp .Is (res3 b f m) .none = some (decide (b = 0)) := by
  show some (isNone (res3 b f m)) = _
  unfold res3
  by_cases h : b = 0
  · rw [if_pos h, decide_eq_true h]; rfl
  · rw [if_neg h, decide_eq_false h]; rfl
theorem due_none (rs : List Rul) (t : List Nat) (m : Nat) : cmpOp .Is (due rs t m) .none = some (decide (bord rs t m = 0)) := res3_none _ _ _
theorem slcL_tx {t : List Nat} (h : t.length ≤ Lm) : slcOp (Tx t) (some 1) none = some (.v (Tx (t.drop 1))) := by
  show (if (tx t).length ≤ Lm then some (R.v (.str ⟨(cut (tx t).cps.toList (some 1) none).toArray⟩)) else none) = _
  rw [tx_len, if_pos h, tx_list, show (1 : Int) = ((1 : Nat) : Int) from rfl, cut_from]
  rfl
theorem seqOf_tx (t : List Nat) : seqOf (Tx t) = some (t.map fun c => Tx [c]) := by
  show some (signs (tx t)) = _
  rw [signs_tx]
theorem empty_tx : (.str "" : PyData) = Tx [] := rfl
theorem kindsOf_run (fuel : Nat) (W : Wd) (l4 : W.lm 22 = [false, false]) (l5 : W.lm 23 = [false, false, false]) (l6 : W.lm 24 = [false, false]) (rs : List Rul) (t : List Nat) (hl : t.length ≤ Lm) (h0 : t ≠ [])
    (hB : ∀ s, t[0]? = some s → W.Γ 22 [.v (rulesD rs), .v (Tx [s])] = .v (due rs t 1) [])
    (hO : ∀ m s, m ≠ 0 → t[m]? = some s → bord rs t m ≠ 0 → W.Γ 23 [.v (rulesD rs), .v (due rs t m), .v (Tx [s])] = .v (due rs t (m + 1)) [])
    (hK : bord rs t t.length ≠ 0 → W.Γ 24 [.v (rulesD rs), .v (due rs t t.length)] = .v (.tuple ((kindsT rs t t.length).map Tx)) []) :
    runFn fuel W f_kinds_of [.v (rulesD rs), .v (Tx t)] = .v (.tuple ((kindsT rs t t.length).map Tx)) [] := by
  obtain ⟨s0, hs0⟩ : ∃ s, t[0]? = some s := by
    cases t with
    | nil => exact absurd rfl h0
    | cons s l => exact ⟨s, rfl⟩
  have he : cmpOp .Eq (Tx t) (.str "") = some false := by
    rw [empty_tx, tx_cmp, decide_eq_false h0]
  have len1 : 1 ≤ t.length := by
    have := (List.getElem?_eq_some_iff.mp hs0).1
    omega
  unfold f_kinds_of runFn
  simp only [e_int, e_str, e_bl, e_non, e_glob, vr_v, vr_o, e_var, kBin2_ap, kBin1_ap, e_bin, kNeg_ap, e_neg, kNot_ap, e_nott, kAnd_ap, e_and, kOr_ap, e_or, kCmp2_ap, kCmp1_ap, e_cmp, kCh3_ap, kCh2_ap, kCh1_ap, e_cmp2, kIte_ap, e_ite, kTup_ap, e_tup, kLst_ap, e_lst, kSub2_ap, kSub1_ap, e_sub, kSlc3_ap, kSlc2_ap, kSlc1_ap, e_slc, kSlL2_ap, kSlL1_ap, e_slcL, kSlH2_ap, kSlH1_ap, e_slcH, kRev_ap, e_rev, kCall_ap, e_call, kBi_ap, e_bi, kIsi_ap, e_isi, kMu_ap, e_mu, kPm2_ap, kPm1_ap, e_pm, kTn3_ap, kTn2_ap, kTn1_ap, kCE_ap, kComp_ap, e_comp, kTNot_ap, t_nott, kTAnd_ap, t_and, kTOr_ap, t_or, kTVal_ap, t_val, s_nil, kS3_ap, kS2_ap, kS1_ap, s_cons, r_nil, kRr2_ap, kRr1_ap, r_cons, c_nil, kCa_ap, kC2_ap, kC1f_ap, kC1t_ap, c_f, c_t, f_nil, kF_ap, f_cons, kI2_ap, kI1_ap, i_seq, kEn2_ap, kEn1_ap, i_enum, kG1_ap, i_rng1, kG2b_ap, kG2a_ap, i_rng2, st_v, st_o, kSt_ap, st_s, x_nm, kA2_ap, kA1_ap, x_tp, kPar_ap, x_par, kExp_ap, x_exp, kIf_ap, x_ife, kFor_ap, x_for, x_whl, kRet_ap, x_ret, x_retN, x_brk, x_cnt, x_pass, xs_nil, xs_cons, fo_nx, fo_ret, bind_ok_, st_ok_, opd_v, opd_s, opd_o, seq_nx, seq_ret, seq_brk, seq_cnt, optR, optV, optB, view, views, fin, lent, isO, setTg, setAll, setCA, kd, wipes, unwipe, frz, binOp, muOp, truth, seqOf, isNone, callF, lend, slots, back, isLent, List.map_cons, List.map_nil, List.length_cons, List.length_nil, List.cons_append, List.nil_append, List.replicate, Nat.reduceAdd, Nat.reduceSub, List.getElem?_cons_zero, List.getElem?_cons_succ, List.set_cons_zero, List.set_cons_succ, List.getD_cons_zero, List.getD_cons_succ, if_true, if_false, reduceIte, Option.map_some, Option.map_none, List.filterMap_nil, List.filterMap_cons, List.nodup_nil, id_eq, Bool.false_eq_true, nodup1, Wk_Γ, Wk_C, he, tx_at0 hl hs0, l4, hB s0 hs0, slcL_tx hl, seqOf_tx]
  refine forL_run (I := fun i ρ => ∃ x, ρ = [.v (rulesD rs), .v (Tx t), .v (due rs t (i + 1)), x]) (R := fun o => SO.fo [false, false] (o.seq _) = _) ?_ ?_ ⟨_, rfl⟩
  · rintro i x ρ hx ⟨x0, rfl⟩
    rw [signs_tx, List.getElem?_map] at hx
    obtain ⟨c, hc, rfl⟩ := Option.map_eq_some_iff.mp hx
    rw [List.getElem?_drop] at hc
    have hc : t[i + 1]? = some c := by rw [Nat.add_comm]; exact hc
    have hlt := (List.getElem?_eq_some_iff.mp hc).1
    simp only [turnF_ap, e_int, e_str, e_bl, e_non, e_glob, vr_v, vr_o, e_var, kBin2_ap, kBin1_ap, e_bin, kNeg_ap, e_neg, kNot_ap, e_nott, kAnd_ap, e_and, kOr_ap, e_or, kCmp2_ap, kCmp1_ap, e_cmp, kCh3_ap, kCh2_ap, kCh1_ap, e_cmp2, kIte_ap, e_ite, kTup_ap, e_tup, kLst_ap, e_lst, kSub2_ap, kSub1_ap, e_sub, kSlc3_ap, kSlc2_ap, kSlc1_ap, e_slc, kSlL2_ap, kSlL1_ap, e_slcL, kSlH2_ap, kSlH1_ap, e_slcH, kRev_ap, e_rev, kCall_ap, e_call, kBi_ap, e_bi, kIsi_ap, e_isi, kMu_ap, e_mu, kPm2_ap, kPm1_ap, e_pm, kTn3_ap, kTn2_ap, kTn1_ap, kCE_ap, kComp_ap, e_comp, kTNot_ap, t_nott, kTAnd_ap, t_and, kTOr_ap, t_or, kTVal_ap, t_val, s_nil, kS3_ap, kS2_ap, kS1_ap, s_cons, r_nil, kRr2_ap, kRr1_ap, r_cons, c_nil, kCa_ap, kC2_ap, kC1f_ap, kC1t_ap, c_f, c_t, f_nil, kF_ap, f_cons, kI2_ap, kI1_ap, i_seq, kEn2_ap, kEn1_ap, i_enum, kG1_ap, i_rng1, kG2b_ap, kG2a_ap, i_rng2, st_v, st_o, kSt_ap, st_s, x_nm, kA2_ap, kA1_ap, x_tp, kPar_ap, x_par, kExp_ap, x_exp, kIf_ap, x_ife, kFor_ap, x_for, x_whl, kRet_ap, x_ret, x_retN, x_brk, x_cnt, x_pass, xs_nil, xs_cons, fo_nx, fo_ret, bind_ok_, st_ok_, opd_v, opd_s, opd_o, seq_nx, seq_ret, seq_brk, seq_cnt, optR, optV, optB, view, views, fin, lent, isO, setTg, setAll, setCA, kd, wipes, unwipe, frz, binOp, muOp, truth, seqOf, isNone, callF, lend, slots, back, isLent, List.map_cons, List.map_nil, List.length_cons, List.length_nil, List.cons_append, List.nil_append, List.replicate, Nat.reduceAdd, Nat.reduceSub, List.getElem?_cons_zero, List.getElem?_cons_succ, List.set_cons_zero, List.set_cons_succ, List.getD_cons_zero, List.getD_cons_succ, if_true, if_false, reduceIte, Option.map_some, Option.map_none, List.filterMap_nil, List.filterMap_cons, List.nodup_nil, id_eq, Bool.false_eq_true, nodup1, Wk_Γ, Wk_C, due_none]
    cases hb : decide (bord rs t (i + 1) = 0) with
    | true =>
      have z := bord_zero (of_decide_eq_true hb) (show i + 1 ≤ t.length by omega)
      have e : kindsT rs t t.length = [] := by unfold kindsT; rw [if_pos z]
      simp only [e_int, e_str, e_bl, e_non, e_glob, vr_v, vr_o, e_var, kBin2_ap, kBin1_ap, e_bin, kNeg_ap, e_neg, kNot_ap, e_nott, kAnd_ap, e_and, kOr_ap, e_or, kCmp2_ap, kCmp1_ap, e_cmp, kCh3_ap, kCh2_ap, kCh1_ap, e_cmp2, kIte_ap, e_ite, kTup_ap, e_tup, kLst_ap, e_lst, kSub2_ap, kSub1_ap, e_sub, kSlc3_ap, kSlc2_ap, kSlc1_ap, e_slc, kSlL2_ap, kSlL1_ap, e_slcL, kSlH2_ap, kSlH1_ap, e_slcH, kRev_ap, e_rev, kCall_ap, e_call, kBi_ap, e_bi, kIsi_ap, e_isi, kMu_ap, e_mu, kPm2_ap, kPm1_ap, e_pm, kTn3_ap, kTn2_ap, kTn1_ap, kCE_ap, kComp_ap, e_comp, kTNot_ap, t_nott, kTAnd_ap, t_and, kTOr_ap, t_or, kTVal_ap, t_val, s_nil, kS3_ap, kS2_ap, kS1_ap, s_cons, r_nil, kRr2_ap, kRr1_ap, r_cons, c_nil, kCa_ap, kC2_ap, kC1f_ap, kC1t_ap, c_f, c_t, f_nil, kF_ap, f_cons, kI2_ap, kI1_ap, i_seq, kEn2_ap, kEn1_ap, i_enum, kG1_ap, i_rng1, kG2b_ap, kG2a_ap, i_rng2, st_v, st_o, kSt_ap, st_s, x_nm, kA2_ap, kA1_ap, x_tp, kPar_ap, x_par, kExp_ap, x_exp, kIf_ap, x_ife, kFor_ap, x_for, x_whl, kRet_ap, x_ret, x_retN, x_brk, x_cnt, x_pass, xs_nil, xs_cons, fo_nx, fo_ret, bind_ok_, st_ok_, opd_v, opd_s, opd_o, seq_nx, seq_ret, seq_brk, seq_cnt, optR, optV, optB, view, views, fin, lent, isO, setTg, setAll, setCA, kd, wipes, unwipe, frz, binOp, muOp, truth, seqOf, isNone, callF, lend, slots, back, isLent, List.map_cons, List.map_nil, List.length_cons, List.length_nil, List.cons_append, List.nil_append, List.replicate, Nat.reduceAdd, Nat.reduceSub, List.getElem?_cons_zero, List.getElem?_cons_succ, List.set_cons_zero, List.set_cons_succ, List.getD_cons_zero, List.getD_cons_succ, if_true, if_false, reduceIte, Option.map_some, Option.map_none, List.filterMap_nil, List.filterMap_cons, List.nodup_nil, id_eq, Bool.false_eq_true, nodup1, Wk_Γ, Wk_C, hb, e]
    | false =>
      simp only [e_int, e_str, e_bl, e_non, e_glob, vr_v, vr_o, e_var, kBin2_ap, kBin1_ap, e_bin, kNeg_ap, e_neg, kNot_ap, e_nott, kAnd_ap, e_and, kOr_ap, e_or, kCmp2_ap, kCmp1_ap, e_cmp, kCh3_ap, kCh2_ap, kCh1_ap, e_cmp2, kIte_ap, e_ite, kTup_ap, e_tup, kLst_ap, e_lst, kSub2_ap, kSub1_ap, e_sub, kSlc3_ap, kSlc2_ap, kSlc1_ap, e_slc, kSlL2_ap, kSlL1_ap, e_slcL, kSlH2_ap, kSlH1_ap, e_slcH, kRev_ap, e_rev, kCall_ap, e_call, kBi_ap, e_bi, kIsi_ap, e_isi, kMu_ap, e_mu, kPm2_ap, kPm1_ap, e_pm, kTn3_ap, kTn2_ap, kTn1_ap, kCE_ap, kComp_ap, e_comp, kTNot_ap, t_nott, kTAnd_ap, t_and, kTOr_ap, t_or, kTVal_ap, t_val, s_nil, kS3_ap, kS2_ap, kS1_ap, s_cons, r_nil, kRr2_ap, kRr1_ap, r_cons, c_nil, kCa_ap, kC2_ap, kC1f_ap, kC1t_ap, c_f, c_t, f_nil, kF_ap, f_cons, kI2_ap, kI1_ap, i_seq, kEn2_ap, kEn1_ap, i_enum, kG1_ap, i_rng1, kG2b_ap, kG2a_ap, i_rng2, st_v, st_o, kSt_ap, st_s, x_nm, kA2_ap, kA1_ap, x_tp, kPar_ap, x_par, kExp_ap, x_exp, kIf_ap, x_ife, kFor_ap, x_for, x_whl, kRet_ap, x_ret, x_retN, x_brk, x_cnt, x_pass, xs_nil, xs_cons, fo_nx, fo_ret, bind_ok_, st_ok_, opd_v, opd_s, opd_o, seq_nx, seq_ret, seq_brk, seq_cnt, optR, optV, optB, view, views, fin, lent, isO, setTg, setAll, setCA, kd, wipes, unwipe, frz, binOp, muOp, truth, seqOf, isNone, callF, lend, slots, back, isLent, List.map_cons, List.map_nil, List.length_cons, List.length_nil, List.cons_append, List.nil_append, List.replicate, Nat.reduceAdd, Nat.reduceSub, List.getElem?_cons_zero, List.getElem?_cons_succ, List.set_cons_zero, List.set_cons_succ, List.getD_cons_zero, List.getD_cons_succ, if_true, if_false, reduceIte, Option.map_some, Option.map_none, List.filterMap_nil, List.filterMap_cons, List.nodup_nil, id_eq, Bool.false_eq_true, nodup1, Wk_Γ, Wk_C, hb, l5, hO (i + 1) c (Nat.succ_ne_zero i) hc (of_decide_eq_false hb)]
      exact ⟨_, rfl⟩
  · rintro ρ ⟨x, rfl⟩
    rw [signs_tx, List.length_map, List.length_drop, Nat.sub_add_cancel len1]
    simp only [e_int, e_str, e_bl, e_non, e_glob, vr_v, vr_o, e_var, kBin2_ap, kBin1_ap, e_bin, kNeg_ap, e_neg, kNot_ap, e_nott, kAnd_ap, e_and, kOr_ap, e_or, kCmp2_ap, kCmp1_ap, e_cmp, kCh3_ap, kCh2_ap, kCh1_ap, e_cmp2, kIte_ap, e_ite, kTup_ap, e_tup, kLst_ap, e_lst, kSub2_ap, kSub1_ap, e_sub, kSlc3_ap, kSlc2_ap, kSlc1_ap, e_slc, kSlL2_ap, kSlL1_ap, e_slcL, kSlH2_ap, kSlH1_ap, e_slcH, kRev_ap, e_rev, kCall_ap, e_call, kBi_ap, e_bi, kIsi_ap, e_isi, kMu_ap, e_mu, kPm2_ap, kPm1_ap, e_pm, kTn3_ap, kTn2_ap, kTn1_ap, kCE_ap, kComp_ap, e_comp, kTNot_ap, t_nott, kTAnd_ap, t_and, kTOr_ap, t_or, kTVal_ap, t_val, s_nil, kS3_ap, kS2_ap, kS1_ap, s_cons, r_nil, kRr2_ap, kRr1_ap, r_cons, c_nil, kCa_ap, kC2_ap, kC1f_ap, kC1t_ap, c_f, c_t, f_nil, kF_ap, f_cons, kI2_ap, kI1_ap, i_seq, kEn2_ap, kEn1_ap, i_enum, kG1_ap, i_rng1, kG2b_ap, kG2a_ap, i_rng2, st_v, st_o, kSt_ap, st_s, x_nm, kA2_ap, kA1_ap, x_tp, kPar_ap, x_par, kExp_ap, x_exp, kIf_ap, x_ife, kFor_ap, x_for, x_whl, kRet_ap, x_ret, x_retN, x_brk, x_cnt, x_pass, xs_nil, xs_cons, fo_nx, fo_ret, bind_ok_, st_ok_, opd_v, opd_s, opd_o, seq_nx, seq_ret, seq_brk, seq_cnt, optR, optV, optB, view, views, fin, lent, isO, setTg, setAll, setCA, kd, wipes, unwipe, frz, binOp, muOp, truth, seqOf, isNone, callF, lend, slots, back, isLent, List.map_cons, List.map_nil, List.length_cons, List.length_nil, List.cons_append, List.nil_append, List.replicate, Nat.reduceAdd, Nat.reduceSub, List.getElem?_cons_zero, List.getElem?_cons_succ, List.set_cons_zero, List.set_cons_succ, List.getD_cons_zero, List.getD_cons_succ, if_true, if_false, reduceIte, Option.map_some, Option.map_none, List.filterMap_nil, List.filterMap_cons, List.nodup_nil, id_eq, Bool.false_eq_true, nodup1, Wk_Γ, Wk_C, due_none]
    cases hb : decide (bord rs t t.length = 0) with
    | true =>
      have e : kindsT rs t t.length = [] := by unfold kindsT; rw [if_pos (of_decide_eq_true hb)]
      simp only [e_int, e_str, e_bl, e_non, e_glob, vr_v, vr_o, e_var, kBin2_ap, kBin1_ap, e_bin, kNeg_ap, e_neg, kNot_ap, e_nott, kAnd_ap, e_and, kOr_ap, e_or, kCmp2_ap, kCmp1_ap, e_cmp, kCh3_ap, kCh2_ap, kCh1_ap, e_cmp2, kIte_ap, e_ite, kTup_ap, e_tup, kLst_ap, e_lst, kSub2_ap, kSub1_ap, e_sub, kSlc3_ap, kSlc2_ap, kSlc1_ap, e_slc, kSlL2_ap, kSlL1_ap, e_slcL, kSlH2_ap, kSlH1_ap, e_slcH, kRev_ap, e_rev, kCall_ap, e_call, kBi_ap, e_bi, kIsi_ap, e_isi, kMu_ap, e_mu, kPm2_ap, kPm1_ap, e_pm, kTn3_ap, kTn2_ap, kTn1_ap, kCE_ap, kComp_ap, e_comp, kTNot_ap, t_nott, kTAnd_ap, t_and, kTOr_ap, t_or, kTVal_ap, t_val, s_nil, kS3_ap, kS2_ap, kS1_ap, s_cons, r_nil, kRr2_ap, kRr1_ap, r_cons, c_nil, kCa_ap, kC2_ap, kC1f_ap, kC1t_ap, c_f, c_t, f_nil, kF_ap, f_cons, kI2_ap, kI1_ap, i_seq, kEn2_ap, kEn1_ap, i_enum, kG1_ap, i_rng1, kG2b_ap, kG2a_ap, i_rng2, st_v, st_o, kSt_ap, st_s, x_nm, kA2_ap, kA1_ap, x_tp, kPar_ap, x_par, kExp_ap, x_exp, kIf_ap, x_ife, kFor_ap, x_for, x_whl, kRet_ap, x_ret, x_retN, x_brk, x_cnt, x_pass, xs_nil, xs_cons, fo_nx, fo_ret, bind_ok_, st_ok_, opd_v, opd_s, opd_o, seq_nx, seq_ret, seq_brk, seq_cnt, optR, optV, optB, view, views, fin, lent, isO, setTg, setAll, setCA, kd, wipes, unwipe, frz, binOp, muOp, truth, seqOf, isNone, callF, lend, slots, back, isLent, List.map_cons, List.map_nil, List.length_cons, List.length_nil, List.cons_append, List.nil_append, List.replicate, Nat.reduceAdd, Nat.reduceSub, List.getElem?_cons_zero, List.getElem?_cons_succ, List.set_cons_zero, List.set_cons_succ, List.getD_cons_zero, List.getD_cons_succ, if_true, if_false, reduceIte, Option.map_some, Option.map_none, List.filterMap_nil, List.filterMap_cons, List.nodup_nil, id_eq, Bool.false_eq_true, nodup1, Wk_Γ, Wk_C, hb, e]
    | false => simp only [e_int, e_str, e_bl, e_non, e_glob, vr_v, vr_o, e_var, kBin2_ap, kBin1_ap, e_bin, kNeg_ap, e_neg, kNot_ap, e_nott, kAnd_ap, e_and, kOr_ap, e_or, kCmp2_ap, kCmp1_ap, e_cmp, kCh3_ap, kCh2_ap, kCh1_ap, e_cmp2, kIte_ap, e_ite, kTup_ap, e_tup, kLst_ap, e_lst, kSub2_ap, kSub1_ap, e_sub, kSlc3_ap, kSlc2_ap, kSlc1_ap, e_slc, kSlL2_ap, kSlL1_ap, e_slcL, kSlH2_ap, kSlH1_ap, e_slcH, kRev_ap, e_rev, kCall_ap, e_call, kBi_ap, e_bi, kIsi_ap, e_isi, kMu_ap, e_mu, kPm2_ap, kPm1_ap, e_pm, kTn3_ap, kTn2_ap, kTn1_ap, kCE_ap, kComp_ap, e_comp, kTNot_ap, t_nott, kTAnd_ap, t_and, kTOr_ap, t_or, kTVal_ap, t_val, s_nil, kS3_ap, kS2_ap, kS1_ap, s_cons, r_nil, kRr2_ap, kRr1_ap, r_cons, c_nil, kCa_ap, kC2_ap, kC1f_ap, kC1t_ap, c_f, c_t, f_nil, kF_ap, f_cons, kI2_ap, kI1_ap, i_seq, kEn2_ap, kEn1_ap, i_enum, kG1_ap, i_rng1, kG2b_ap, kG2a_ap, i_rng2, st_v, st_o, kSt_ap, st_s, x_nm, kA2_ap, kA1_ap, x_tp, kPar_ap, x_par, kExp_ap, x_exp, kIf_ap, x_ife, kFor_ap, x_for, x_whl, kRet_ap, x_ret, x_retN, x_brk, x_cnt, x_pass, xs_nil, xs_cons, fo_nx, fo_ret, bind_ok_, st_ok_, opd_v, opd_s, opd_o, seq_nx, seq_ret, seq_brk, seq_cnt, optR, optV, optB, view, views, fin, lent, isO, setTg, setAll, setCA, kd, wipes, unwipe, frz, binOp, muOp, truth, seqOf, isNone, callF, lend, slots, back, isLent, List.map_cons, List.map_nil, List.length_cons, List.length_nil, List.cons_append, List.nil_append, List.replicate, Nat.reduceAdd, Nat.reduceSub, List.getElem?_cons_zero, List.getElem?_cons_succ, List.set_cons_zero, List.set_cons_succ, List.getD_cons_zero, List.getD_cons_succ, if_true, if_false, reduceIte, Option.map_some, Option.map_none, List.filterMap_nil, List.filterMap_cons, List.nodup_nil, id_eq, Bool.false_eq_true, nodup1, Wk_Γ, Wk_C, hb, l6, hK (of_decide_eq_false hb)]
theorem kindsOf_empty (fuel : Nat) (W : Wd) (rs : List Rul) : runFn fuel W f_kinds_of [.v (rulesD rs), .v (Tx [])] = .v (.tuple []) [] := by
  have he : cmpOp .Eq (Tx []) (.str "") = some true := by rw [empty_tx, tx_cmp]; rfl
  unfold f_kinds_of runFn
  simp only [e_int, e_str, e_bl, e_non, e_glob, vr_v, vr_o, e_var, kBin2_ap, kBin1_ap, e_bin, kNeg_ap, e_neg, kNot_ap, e_nott, kAnd_ap, e_and, kOr_ap, e_or, kCmp2_ap, kCmp1_ap, e_cmp, kCh3_ap, kCh2_ap, kCh1_ap, e_cmp2, kIte_ap, e_ite, kTup_ap, e_tup, kLst_ap, e_lst, kSub2_ap, kSub1_ap, e_sub, kSlc3_ap, kSlc2_ap, kSlc1_ap, e_slc, kSlL2_ap, kSlL1_ap, e_slcL, kSlH2_ap, kSlH1_ap, e_slcH, kRev_ap, e_rev, kCall_ap, e_call, kBi_ap, e_bi, kIsi_ap, e_isi, kMu_ap, e_mu, kPm2_ap, kPm1_ap, e_pm, kTn3_ap, kTn2_ap, kTn1_ap, kCE_ap, kComp_ap, e_comp, kTNot_ap, t_nott, kTAnd_ap, t_and, kTOr_ap, t_or, kTVal_ap, t_val, s_nil, kS3_ap, kS2_ap, kS1_ap, s_cons, r_nil, kRr2_ap, kRr1_ap, r_cons, c_nil, kCa_ap, kC2_ap, kC1f_ap, kC1t_ap, c_f, c_t, f_nil, kF_ap, f_cons, kI2_ap, kI1_ap, i_seq, kEn2_ap, kEn1_ap, i_enum, kG1_ap, i_rng1, kG2b_ap, kG2a_ap, i_rng2, st_v, st_o, kSt_ap, st_s, x_nm, kA2_ap, kA1_ap, x_tp, kPar_ap, x_par, kExp_ap, x_exp, kIf_ap, x_ife, kFor_ap, x_for, x_whl, kRet_ap, x_ret, x_retN, x_brk, x_cnt, x_pass, xs_nil, xs_cons, fo_nx, fo_ret, bind_ok_, st_ok_, opd_v, opd_s, opd_o, seq_nx, seq_ret, seq_brk, seq_cnt, optR, optV, optB, view, views, fin, lent, isO, setTg, setAll, setCA, kd, wipes, unwipe, frz, binOp, muOp, truth, seqOf, isNone, callF, lend, slots, back, isLent, List.map_cons, List.map_nil, List.length_cons, List.length_nil, List.cons_append, List.nil_append, List.replicate, Nat.reduceAdd, Nat.reduceSub, List.getElem?_cons_zero, List.getElem?_cons_succ, List.set_cons_zero, List.set_cons_succ, List.getD_cons_zero, List.getD_cons_succ, if_true, if_false, reduceIte, Option.map_some, Option.map_none, List.filterMap_nil, List.filterMap_cons, List.nodup_nil, id_eq, Bool.false_eq_true, nodup1, Wk_Γ, Wk_C, he]
end W6

set_option Elab.async false
set_option linter.all false
set_option maxRecDepth 100000
set_option maxHeartbeats 4000000
/-! K06g: the law's own length, fits. -/
namespace W6
open PySem Rc Lw06
theorem slcH_tx {t : List Nat} (h : t.length ≤ Lm) (k : Nat) : slcOp (Tx t) none (some (k : Int)) = some (.v (Tx (t.take k))) := by
  show (if (tx t).length ≤ Lm then some (R.v (.str ⟨(cut (tx t).cps.toList none (some (k : Int))).toArray⟩)) else none) = _
  rw [tx_len, if_pos h, tx_list, cut_to]
  rfl
theorem slcH1_tx {t : List Nat} (h : t.length ≤ Lm) (k : Nat) : slcOp (Tx t) none (some ((k : Int) + 1)) = some (.v (Tx (t.take (k + 1)))) := slcH_tx h (k + 1)
theorem len_tx {t : List Nat} (h : t.length ≤ Lm) : biOp .len [Tx t] = some (.v (.int (t.length : Nat))) := by
  show (if (tx t).length ≤ Lm then some (R.v (.int ((tx t).length : Nat))) else none) = _
  rw [tx_len, if_pos h]
theorem enc_a (r : Rul) : subOp (enc r) (.int 2) = some (Tx r.a) := by
  cases h : r.sp with
  | true => rw [enc_sp h]; rfl
  | false => rw [enc_wd h]; rfl
theorem enc_b {r : Rul} (h : r.sp = false) : subOp (enc r) (.int 3) = some (Tx r.b) := by rw [enc_wd h]; rfl
theorem enc_c {r : Rul} (h : r.sp = false) : subOp (enc r) (.int 4) = some (Tx r.c) := by rw [enc_wd h]; rfl
/-- one more sign of a spelled rule -/
theorem spell_more {r : Rul} {t : List Nat} {k : Nat} (h : r.sp = true) (hk : k < t.length) (hb : bn r t k = true) : decide (r.a.take (k + 1) = t.take (k + 1)) = bn r t (k + 1) := by
  rw [Bool.eq_iff_iff, decide_eq_true_iff, bn_spell h (show k + 1 ≤ t.length from hk)]
  constructor
  · intro e
    refine ⟨?_, e⟩
    have l := congrArg List.length e
    rw [List.length_take, List.length_take] at l
    omega
  · exact fun e => e.2
theorem word_more {r : Rul} {t : List Nat} {k s : Nat} (h : r.sp = false) (hk : t[k]? = some s) (hb : bn r t k = true) : decide (s ∈ (if k = 0 then r.a else r.b)) = bn r t (k + 1) := by
  show _ = (bn r t k && (if r.sp then decide (k < r.a.length) && decide (r.a[k]? = t[k]?) else match t[k]? with
    | some s => decide (s ∈ (if k = 0 then r.a else r.b))
    | none => false))
  rw [hb, h, hk]
  rfl
/-- how many signs of t are taken -/
def IsLen (r : Rul) (t : List Nat) (n : Nat) : Prop := n ≤ t.length ∧ bn r t n = true ∧ (n < t.length → bn r t (n + 1) = false)
theorem IsLen.iff {r : Rul} {t : List Nat} {n m : Nat} (h : IsLen r t n) (hm : m ≤ t.length) : m ≤ n ↔ bn r t m = true := by
  obtain ⟨h1, h2, h3⟩ := h
  constructor
  · exact bn_le h2
  · intro hb
    rcases Nat.lt_or_ge n m with q | q
    · have := h3 (by omega)
      rw [bn_le hb (show n + 1 ≤ m from q)] at this
      cases this
    · exact q
theorem length_run (fuel : Nat) (W : Wd) (r : Rul) (t : List Nat) (ha : r.a.length ≤ Lm) (hl : t.length < 1000000) : ∃ n : Nat, runFn fuel W f_law_length [.v (enc r), .v (Tx t)] = .v (.int n) [] ∧ IsLen r t n := by
  have hL : t.length ≤ Lm := Nat.le_trans (Nat.le_of_lt hl) (by decide)
  have s62 : small62 (t.length : Int) = true := small_nat hl
  unfold f_law_length runFn
  simp only [e_int, e_str, e_bl, e_non, e_glob, vr_v, vr_o, e_var, kBin2_ap, kBin1_ap, e_bin, kNeg_ap, e_neg, kNot_ap, e_nott, kAnd_ap, e_and, kOr_ap, e_or, kCmp2_ap, kCmp1_ap, e_cmp, kCh3_ap, kCh2_ap, kCh1_ap, e_cmp2, kIte_ap, e_ite, kTup_ap, e_tup, kLst_ap, e_lst, kSub2_ap, kSub1_ap, e_sub, kSlc3_ap, kSlc2_ap, kSlc1_ap, e_slc, kSlL2_ap, kSlL1_ap, e_slcL, kSlH2_ap, kSlH1_ap, e_slcH, kRev_ap, e_rev, kCall_ap, e_call, kBi_ap, e_bi, kIsi_ap, e_isi, kMu_ap, e_mu, kPm2_ap, kPm1_ap, e_pm, kTn3_ap, kTn2_ap, kTn1_ap, kCE_ap, kComp_ap, e_comp, kTNot_ap, t_nott, kTAnd_ap, t_and, kTOr_ap, t_or, kTVal_ap, t_val, s_nil, kS3_ap, kS2_ap, kS1_ap, s_cons, r_nil, kRr2_ap, kRr1_ap, r_cons, c_nil, kCa_ap, kC2_ap, kC1f_ap, kC1t_ap, c_f, c_t, f_nil, kF_ap, f_cons, kI2_ap, kI1_ap, i_seq, kEn2_ap, kEn1_ap, i_enum, kG1_ap, i_rng1, kG2b_ap, kG2a_ap, i_rng2, st_v, st_o, kSt_ap, st_s, x_nm, kA2_ap, kA1_ap, x_tp, kPar_ap, x_par, kExp_ap, x_exp, kIf_ap, x_ife, kFor_ap, x_for, x_whl, kRet_ap, x_ret, x_retN, x_brk, x_cnt, x_pass, xs_nil, xs_cons, fo_nx, fo_ret, bind_ok_, st_ok_, opd_v, opd_s, opd_o, seq_nx, seq_ret, seq_brk, seq_cnt, optR, optV, optB, view, views, fin, lent, isO, setTg, setAll, setCA, kd, wipes, unwipe, frz, binOp, muOp, truth, seqOf, isNone, callF, lend, slots, back, isLent, List.map_cons, List.map_nil, List.length_cons, List.length_nil, List.cons_append, List.nil_append, List.replicate, Nat.reduceAdd, Nat.reduceSub, List.getElem?_cons_zero, List.getElem?_cons_succ, List.set_cons_zero, List.set_cons_succ, List.getD_cons_zero, List.getD_cons_succ, if_true, if_false, reduceIte, Option.map_some, Option.map_none, List.filterMap_nil, List.filterMap_cons, List.nodup_nil, id_eq, Bool.false_eq_true, nodup1, Wk_Γ, Wk_C, len_tx hL, s62]
  refine forL_run (I := fun i ρ => ∃ x y, ρ = [.v (enc r), .v (Tx t), x, y] ∧ bn r t i = true) (R := fun o => ∃ n : Nat, SO.fo [false, false] (o.seq _) = .v (.int n) [] ∧ IsLen r t n) ?_ ?_ ⟨_, _, rfl, rfl⟩
  · rintro i x ρ hx ⟨x0, y0, rfl, hb⟩
    obtain ⟨rfl, hi⟩ := rng1L_get hx
    rw [Int.toNat_natCast] at hi
    obtain ⟨s, hs⟩ : ∃ s, t[i]? = some s := ⟨_, List.getElem?_eq_getElem hi⟩
    obtain ⟨d, hd1, hd2⟩ := spell_is r
    simp only [turnF_ap, e_int, e_str, e_bl, e_non, e_glob, vr_v, vr_o, e_var, kBin2_ap, kBin1_ap, e_bin, kNeg_ap, e_neg, kNot_ap, e_nott, kAnd_ap, e_and, kOr_ap, e_or, kCmp2_ap, kCmp1_ap, e_cmp, kCh3_ap, kCh2_ap, kCh1_ap, e_cmp2, kIte_ap, e_ite, kTup_ap, e_tup, kLst_ap, e_lst, kSub2_ap, kSub1_ap, e_sub, kSlc3_ap, kSlc2_ap, kSlc1_ap, e_slc, kSlL2_ap, kSlL1_ap, e_slcL, kSlH2_ap, kSlH1_ap, e_slcH, kRev_ap, e_rev, kCall_ap, e_call, kBi_ap, e_bi, kIsi_ap, e_isi, kMu_ap, e_mu, kPm2_ap, kPm1_ap, e_pm, kTn3_ap, kTn2_ap, kTn1_ap, kCE_ap, kComp_ap, e_comp, kTNot_ap, t_nott, kTAnd_ap, t_and, kTOr_ap, t_or, kTVal_ap, t_val, s_nil, kS3_ap, kS2_ap, kS1_ap, s_cons, r_nil, kRr2_ap, kRr1_ap, r_cons, c_nil, kCa_ap, kC2_ap, kC1f_ap, kC1t_ap, c_f, c_t, f_nil, kF_ap, f_cons, kI2_ap, kI1_ap, i_seq, kEn2_ap, kEn1_ap, i_enum, kG1_ap, i_rng1, kG2b_ap, kG2a_ap, i_rng2, st_v, st_o, kSt_ap, st_s, x_nm, kA2_ap, kA1_ap, x_tp, kPar_ap, x_par, kExp_ap, x_exp, kIf_ap, x_ife, kFor_ap, x_for, x_whl, kRet_ap, x_ret, x_retN, x_brk, x_cnt, x_pass, xs_nil, xs_cons, fo_nx, fo_ret, bind_ok_, st_ok_, opd_v, opd_s, opd_o, seq_nx, seq_ret, seq_brk, seq_cnt, optR, optV, optB, view, views, fin, lent, isO, setTg, setAll, setCA, kd, wipes, unwipe, frz, binOp, muOp, truth, seqOf, isNone, callF, lend, slots, back, isLent, List.map_cons, List.map_nil, List.length_cons, List.length_nil, List.cons_append, List.nil_append, List.replicate, Nat.reduceAdd, Nat.reduceSub, List.getElem?_cons_zero, List.getElem?_cons_succ, List.set_cons_zero, List.set_cons_succ, List.getD_cons_zero, List.getD_cons_succ, if_true, if_false, reduceIte, Option.map_some, Option.map_none, List.filterMap_nil, List.filterMap_cons, List.nodup_nil, id_eq, Bool.false_eq_true, nodup1, Wk_Γ, Wk_C, hd1, hd2]
    have key : ∀ b : Bool, b = bn r t (i + 1) → match SO.seq (.nx [.v (enc r), .v (Tx t), .v (.int i), .v (.bool b)]) (exs fuel W (.cons (.ife (.nott (.val (.var 3))) (.cons (.ret (.var 2)) .nil) .nil) .nil)) with
        | .nx ρ' => ∃ x y, ρ' = [.v (enc r), .v (Tx t), x, y] ∧ bn r t (i + 1) = true
        | .cnt ρ' => ∃ x y, ρ' = [.v (enc r), .v (Tx t), x, y] ∧ bn r t (i + 1) = true
        | .brk ρ' => ∃ n : Nat, SO.fo [false, false] ((SO.nx ρ').seq (exs fuel W (.cons (.ret (.bi .len (.cons (.var 1) .nil))) .nil))) = .v (.int n) [] ∧ IsLen r t n
        | o => ∃ n : Nat, SO.fo [false, false] (o.seq (exs fuel W (.cons (.ret (.bi .len (.cons (.var 1) .nil))) .nil))) = .v (.int n) [] ∧ IsLen r t n := by
      intro b e
      cases b with
      | true =>
        simp only [e_int, e_str, e_bl, e_non, e_glob, vr_v, vr_o, e_var, kBin2_ap, kBin1_ap, e_bin, kNeg_ap, e_neg, kNot_ap, e_nott, kAnd_ap, e_and, kOr_ap, e_or, kCmp2_ap, kCmp1_ap, e_cmp, kCh3_ap, kCh2_ap, kCh1_ap, e_cmp2, kIte_ap, e_ite, kTup_ap, e_tup, kLst_ap, e_lst, kSub2_ap, kSub1_ap, e_sub, kSlc3_ap, kSlc2_ap, kSlc1_ap, e_slc, kSlL2_ap, kSlL1_ap, e_slcL, kSlH2_ap, kSlH1_ap, e_slcH, kRev_ap, e_rev, kCall_ap, e_call, kBi_ap, e_bi, kIsi_ap, e_isi, kMu_ap, e_mu, kPm2_ap, kPm1_ap, e_pm, kTn3_ap, kTn2_ap, kTn1_ap, kCE_ap, kComp_ap, e_comp, kTNot_ap, t_nott, kTAnd_ap, t_and, kTOr_ap, t_or, kTVal_ap, t_val, s_nil, kS3_ap, kS2_ap, kS1_ap, s_cons, r_nil, kRr2_ap, kRr1_ap, r_cons, c_nil, kCa_ap, kC2_ap, kC1f_ap, kC1t_ap, c_f, c_t, f_nil, kF_ap, f_cons, kI2_ap, kI1_ap, i_seq, kEn2_ap, kEn1_ap, i_enum, kG1_ap, i_rng1, kG2b_ap, kG2a_ap, i_rng2, st_v, st_o, kSt_ap, st_s, x_nm, kA2_ap, kA1_ap, x_tp, kPar_ap, x_par, kExp_ap, x_exp, kIf_ap, x_ife, kFor_ap, x_for, x_whl, kRet_ap, x_ret, x_retN, x_brk, x_cnt, x_pass, xs_nil, xs_cons, fo_nx, fo_ret, bind_ok_, st_ok_, opd_v, opd_s, opd_o, seq_nx, seq_ret, seq_brk, seq_cnt, optR, optV, optB, view, views, fin, lent, isO, setTg, setAll, setCA, kd, wipes, unwipe, frz, binOp, muOp, truth, seqOf, isNone, callF, lend, slots, back, isLent, List.map_cons, List.map_nil, List.length_cons, List.length_nil, List.cons_append, List.nil_append, List.replicate, Nat.reduceAdd, Nat.reduceSub, List.getElem?_cons_zero, List.getElem?_cons_succ, List.set_cons_zero, List.set_cons_succ, List.getD_cons_zero, List.getD_cons_succ, if_true, if_false, reduceIte, Option.map_some, Option.map_none, List.filterMap_nil, List.filterMap_cons, List.nodup_nil, id_eq, Bool.false_eq_true, nodup1, Wk_Γ, Wk_C, Bool.not_true]
        exact ⟨_, _, rfl, e.symm⟩
      | false =>
        simp only [e_int, e_str, e_bl, e_non, e_glob, vr_v, vr_o, e_var, kBin2_ap, kBin1_ap, e_bin, kNeg_ap, e_neg, kNot_ap, e_nott, kAnd_ap, e_and, kOr_ap, e_or, kCmp2_ap, kCmp1_ap, e_cmp, kCh3_ap, kCh2_ap, kCh1_ap, e_cmp2, kIte_ap, e_ite, kTup_ap, e_tup, kLst_ap, e_lst, kSub2_ap, kSub1_ap, e_sub, kSlc3_ap, kSlc2_ap, kSlc1_ap, e_slc, kSlL2_ap, kSlL1_ap, e_slcL, kSlH2_ap, kSlH1_ap, e_slcH, kRev_ap, e_rev, kCall_ap, e_call, kBi_ap, e_bi, kIsi_ap, e_isi, kMu_ap, e_mu, kPm2_ap, kPm1_ap, e_pm, kTn3_ap, kTn2_ap, kTn1_ap, kCE_ap, kComp_ap, e_comp, kTNot_ap, t_nott, kTAnd_ap, t_and, kTOr_ap, t_or, kTVal_ap, t_val, s_nil, kS3_ap, kS2_ap, kS1_ap, s_cons, r_nil, kRr2_ap, kRr1_ap, r_cons, c_nil, kCa_ap, kC2_ap, kC1f_ap, kC1t_ap, c_f, c_t, f_nil, kF_ap, f_cons, kI2_ap, kI1_ap, i_seq, kEn2_ap, kEn1_ap, i_enum, kG1_ap, i_rng1, kG2b_ap, kG2a_ap, i_rng2, st_v, st_o, kSt_ap, st_s, x_nm, kA2_ap, kA1_ap, x_tp, kPar_ap, x_par, kExp_ap, x_exp, kIf_ap, x_ife, kFor_ap, x_for, x_whl, kRet_ap, x_ret, x_retN, x_brk, x_cnt, x_pass, xs_nil, xs_cons, fo_nx, fo_ret, bind_ok_, st_ok_, opd_v, opd_s, opd_o, seq_nx, seq_ret, seq_brk, seq_cnt, optR, optV, optB, view, views, fin, lent, isO, setTg, setAll, setCA, kd, wipes, unwipe, frz, binOp, muOp, truth, seqOf, isNone, callF, lend, slots, back, isLent, List.map_cons, List.map_nil, List.length_cons, List.length_nil, List.cons_append, List.nil_append, List.replicate, Nat.reduceAdd, Nat.reduceSub, List.getElem?_cons_zero, List.getElem?_cons_succ, List.set_cons_zero, List.set_cons_succ, List.getD_cons_zero, List.getD_cons_succ, if_true, if_false, reduceIte, Option.map_some, Option.map_none, List.filterMap_nil, List.filterMap_cons, List.nodup_nil, id_eq, Bool.false_eq_true, nodup1, Wk_Γ, Wk_C, Bool.not_false]
        exact ⟨i, rfl, Nat.le_of_lt hi, hb, fun _ => e.symm⟩
    cases h : r.sp with
    | true =>
      simp only [e_int, e_str, e_bl, e_non, e_glob, vr_v, vr_o, e_var, kBin2_ap, kBin1_ap, e_bin, kNeg_ap, e_neg, kNot_ap, e_nott, kAnd_ap, e_and, kOr_ap, e_or, kCmp2_ap, kCmp1_ap, e_cmp, kCh3_ap, kCh2_ap, kCh1_ap, e_cmp2, kIte_ap, e_ite, kTup_ap, e_tup, kLst_ap, e_lst, kSub2_ap, kSub1_ap, e_sub, kSlc3_ap, kSlc2_ap, kSlc1_ap, e_slc, kSlL2_ap, kSlL1_ap, e_slcL, kSlH2_ap, kSlH1_ap, e_slcH, kRev_ap, e_rev, kCall_ap, e_call, kBi_ap, e_bi, kIsi_ap, e_isi, kMu_ap, e_mu, kPm2_ap, kPm1_ap, e_pm, kTn3_ap, kTn2_ap, kTn1_ap, kCE_ap, kComp_ap, e_comp, kTNot_ap, t_nott, kTAnd_ap, t_and, kTOr_ap, t_or, kTVal_ap, t_val, s_nil, kS3_ap, kS2_ap, kS1_ap, s_cons, r_nil, kRr2_ap, kRr1_ap, r_cons, c_nil, kCa_ap, kC2_ap, kC1f_ap, kC1t_ap, c_f, c_t, f_nil, kF_ap, f_cons, kI2_ap, kI1_ap, i_seq, kEn2_ap, kEn1_ap, i_enum, kG1_ap, i_rng1, kG2b_ap, kG2a_ap, i_rng2, st_v, st_o, kSt_ap, st_s, x_nm, kA2_ap, kA1_ap, x_tp, kPar_ap, x_par, kExp_ap, x_exp, kIf_ap, x_ife, kFor_ap, x_for, x_whl, kRet_ap, x_ret, x_retN, x_brk, x_cnt, x_pass, xs_nil, xs_cons, fo_nx, fo_ret, bind_ok_, st_ok_, opd_v, opd_s, opd_o, seq_nx, seq_ret, seq_brk, seq_cnt, optR, optV, optB, view, views, fin, lent, isO, setTg, setAll, setCA, kd, wipes, unwipe, frz, binOp, muOp, truth, seqOf, isNone, callF, lend, slots, back, isLent, List.map_cons, List.map_nil, List.length_cons, List.length_nil, List.cons_append, List.nil_append, List.replicate, Nat.reduceAdd, Nat.reduceSub, List.getElem?_cons_zero, List.getElem?_cons_succ, List.set_cons_zero, List.set_cons_succ, List.getD_cons_zero, List.getD_cons_succ, if_true, if_false, reduceIte, Option.map_some, Option.map_none, List.filterMap_nil, List.filterMap_cons, List.nodup_nil, id_eq, Bool.false_eq_true, nodup1, Wk_Γ, Wk_C, enc_a, slcH1_tx ha, slcH1_tx hL, tx_cmp]
      exact key _ (spell_more h hi hb)
    | false =>
      have w := word_more h hs hb
      simp only [e_int, e_str, e_bl, e_non, e_glob, vr_v, vr_o, e_var, kBin2_ap, kBin1_ap, e_bin, kNeg_ap, e_neg, kNot_ap, e_nott, kAnd_ap, e_and, kOr_ap, e_or, kCmp2_ap, kCmp1_ap, e_cmp, kCh3_ap, kCh2_ap, kCh1_ap, e_cmp2, kIte_ap, e_ite, kTup_ap, e_tup, kLst_ap, e_lst, kSub2_ap, kSub1_ap, e_sub, kSlc3_ap, kSlc2_ap, kSlc1_ap, e_slc, kSlL2_ap, kSlL1_ap, e_slcL, kSlH2_ap, kSlH1_ap, e_slcH, kRev_ap, e_rev, kCall_ap, e_call, kBi_ap, e_bi, kIsi_ap, e_isi, kMu_ap, e_mu, kPm2_ap, kPm1_ap, e_pm, kTn3_ap, kTn2_ap, kTn1_ap, kCE_ap, kComp_ap, e_comp, kTNot_ap, t_nott, kTAnd_ap, t_and, kTOr_ap, t_or, kTVal_ap, t_val, s_nil, kS3_ap, kS2_ap, kS1_ap, s_cons, r_nil, kRr2_ap, kRr1_ap, r_cons, c_nil, kCa_ap, kC2_ap, kC1f_ap, kC1t_ap, c_f, c_t, f_nil, kF_ap, f_cons, kI2_ap, kI1_ap, i_seq, kEn2_ap, kEn1_ap, i_enum, kG1_ap, i_rng1, kG2b_ap, kG2a_ap, i_rng2, st_v, st_o, kSt_ap, st_s, x_nm, kA2_ap, kA1_ap, x_tp, kPar_ap, x_par, kExp_ap, x_exp, kIf_ap, x_ife, kFor_ap, x_for, x_whl, kRet_ap, x_ret, x_retN, x_brk, x_cnt, x_pass, xs_nil, xs_cons, fo_nx, fo_ret, bind_ok_, st_ok_, opd_v, opd_s, opd_o, seq_nx, seq_ret, seq_brk, seq_cnt, optR, optV, optB, view, views, fin, lent, isO, setTg, setAll, setCA, kd, wipes, unwipe, frz, binOp, muOp, truth, seqOf, isNone, callF, lend, slots, back, isLent, List.map_cons, List.map_nil, List.length_cons, List.length_nil, List.cons_append, List.nil_append, List.replicate, Nat.reduceAdd, Nat.reduceSub, List.getElem?_cons_zero, List.getElem?_cons_succ, List.set_cons_zero, List.set_cons_succ, List.getD_cons_zero, List.getD_cons_succ, if_true, if_false, reduceIte, Option.map_some, Option.map_none, List.filterMap_nil, List.filterMap_cons, List.nodup_nil, id_eq, Bool.false_eq_true, nodup1, Wk_Γ, Wk_C, enc_a, enc_b h, tx_at hL hs, eq0]
      cases hz : decide (i = 0) with
      | true =>
        rw [if_pos (of_decide_eq_true hz)] at w
        simp only [e_int, e_str, e_bl, e_non, e_glob, vr_v, vr_o, e_var, kBin2_ap, kBin1_ap, e_bin, kNeg_ap, e_neg, kNot_ap, e_nott, kAnd_ap, e_and, kOr_ap, e_or, kCmp2_ap, kCmp1_ap, e_cmp, kCh3_ap, kCh2_ap, kCh1_ap, e_cmp2, kIte_ap, e_ite, kTup_ap, e_tup, kLst_ap, e_lst, kSub2_ap, kSub1_ap, e_sub, kSlc3_ap, kSlc2_ap, kSlc1_ap, e_slc, kSlL2_ap, kSlL1_ap, e_slcL, kSlH2_ap, kSlH1_ap, e_slcH, kRev_ap, e_rev, kCall_ap, e_call, kBi_ap, e_bi, kIsi_ap, e_isi, kMu_ap, e_mu, kPm2_ap, kPm1_ap, e_pm, kTn3_ap, kTn2_ap, kTn1_ap, kCE_ap, kComp_ap, e_comp, kTNot_ap, t_nott, kTAnd_ap, t_and, kTOr_ap, t_or, kTVal_ap, t_val, s_nil, kS3_ap, kS2_ap, kS1_ap, s_cons, r_nil, kRr2_ap, kRr1_ap, r_cons, c_nil, kCa_ap, kC2_ap, kC1f_ap, kC1t_ap, c_f, c_t, f_nil, kF_ap, f_cons, kI2_ap, kI1_ap, i_seq, kEn2_ap, kEn1_ap, i_enum, kG1_ap, i_rng1, kG2b_ap, kG2a_ap, i_rng2, st_v, st_o, kSt_ap, st_s, x_nm, kA2_ap, kA1_ap, x_tp, kPar_ap, x_par, kExp_ap, x_exp, kIf_ap, x_ife, kFor_ap, x_for, x_whl, kRet_ap, x_ret, x_retN, x_brk, x_cnt, x_pass, xs_nil, xs_cons, fo_nx, fo_ret, bind_ok_, st_ok_, opd_v, opd_s, opd_o, seq_nx, seq_ret, seq_brk, seq_cnt, optR, optV, optB, view, views, fin, lent, isO, setTg, setAll, setCA, kd, wipes, unwipe, frz, binOp, muOp, truth, seqOf, isNone, callF, lend, slots, back, isLent, List.map_cons, List.map_nil, List.length_cons, List.length_nil, List.cons_append, List.nil_append, List.replicate, Nat.reduceAdd, Nat.reduceSub, List.getElem?_cons_zero, List.getElem?_cons_succ, List.set_cons_zero, List.set_cons_succ, List.getD_cons_zero, List.getD_cons_succ, if_true, if_false, reduceIte, Option.map_some, Option.map_none, List.filterMap_nil, List.filterMap_cons, List.nodup_nil, id_eq, Bool.false_eq_true, nodup1, Wk_Γ, Wk_C, enc_a, hz, tx_in]
        exact key _ w
      | false =>
        rw [if_neg (of_decide_eq_false hz)] at w
        simp only [e_int, e_str, e_bl, e_non, e_glob, vr_v, vr_o, e_var, kBin2_ap, kBin1_ap, e_bin, kNeg_ap, e_neg, kNot_ap, e_nott, kAnd_ap, e_and, kOr_ap, e_or, kCmp2_ap, kCmp1_ap, e_cmp, kCh3_ap, kCh2_ap, kCh1_ap, e_cmp2, kIte_ap, e_ite, kTup_ap, e_tup, kLst_ap, e_lst, kSub2_ap, kSub1_ap, e_sub, kSlc3_ap, kSlc2_ap, kSlc1_ap, e_slc, kSlL2_ap, kSlL1_ap, e_slcL, kSlH2_ap, kSlH1_ap, e_slcH, kRev_ap, e_rev, kCall_ap, e_call, kBi_ap, e_bi, kIsi_ap, e_isi, kMu_ap, e_mu, kPm2_ap, kPm1_ap, e_pm, kTn3_ap, kTn2_ap, kTn1_ap, kCE_ap, kComp_ap, e_comp, kTNot_ap, t_nott, kTAnd_ap, t_and, kTOr_ap, t_or, kTVal_ap, t_val, s_nil, kS3_ap, kS2_ap, kS1_ap, s_cons, r_nil, kRr2_ap, kRr1_ap, r_cons, c_nil, kCa_ap, kC2_ap, kC1f_ap, kC1t_ap, c_f, c_t, f_nil, kF_ap, f_cons, kI2_ap, kI1_ap, i_seq, kEn2_ap, kEn1_ap, i_enum, kG1_ap, i_rng1, kG2b_ap, kG2a_ap, i_rng2, st_v, st_o, kSt_ap, st_s, x_nm, kA2_ap, kA1_ap, x_tp, kPar_ap, x_par, kExp_ap, x_exp, kIf_ap, x_ife, kFor_ap, x_for, x_whl, kRet_ap, x_ret, x_retN, x_brk, x_cnt, x_pass, xs_nil, xs_cons, fo_nx, fo_ret, bind_ok_, st_ok_, opd_v, opd_s, opd_o, seq_nx, seq_ret, seq_brk, seq_cnt, optR, optV, optB, view, views, fin, lent, isO, setTg, setAll, setCA, kd, wipes, unwipe, frz, binOp, muOp, truth, seqOf, isNone, callF, lend, slots, back, isLent, List.map_cons, List.map_nil, List.length_cons, List.length_nil, List.cons_append, List.nil_append, List.replicate, Nat.reduceAdd, Nat.reduceSub, List.getElem?_cons_zero, List.getElem?_cons_succ, List.set_cons_zero, List.set_cons_succ, List.getD_cons_zero, List.getD_cons_succ, if_true, if_false, reduceIte, Option.map_some, Option.map_none, List.filterMap_nil, List.filterMap_cons, List.nodup_nil, id_eq, Bool.false_eq_true, nodup1, Wk_Γ, Wk_C, enc_b h, hz, tx_in]
        exact key _ w
  · rintro ρ ⟨x, y, rfl, hb⟩
    rw [rng1L_len, Int.toNat_natCast] at hb
    simp only [e_int, e_str, e_bl, e_non, e_glob, vr_v, vr_o, e_var, kBin2_ap, kBin1_ap, e_bin, kNeg_ap, e_neg, kNot_ap, e_nott, kAnd_ap, e_and, kOr_ap, e_or, kCmp2_ap, kCmp1_ap, e_cmp, kCh3_ap, kCh2_ap, kCh1_ap, e_cmp2, kIte_ap, e_ite, kTup_ap, e_tup, kLst_ap, e_lst, kSub2_ap, kSub1_ap, e_sub, kSlc3_ap, kSlc2_ap, kSlc1_ap, e_slc, kSlL2_ap, kSlL1_ap, e_slcL, kSlH2_ap, kSlH1_ap, e_slcH, kRev_ap, e_rev, kCall_ap, e_call, kBi_ap, e_bi, kIsi_ap, e_isi, kMu_ap, e_mu, kPm2_ap, kPm1_ap, e_pm, kTn3_ap, kTn2_ap, kTn1_ap, kCE_ap, kComp_ap, e_comp, kTNot_ap, t_nott, kTAnd_ap, t_and, kTOr_ap, t_or, kTVal_ap, t_val, s_nil, kS3_ap, kS2_ap, kS1_ap, s_cons, r_nil, kRr2_ap, kRr1_ap, r_cons, c_nil, kCa_ap, kC2_ap, kC1f_ap, kC1t_ap, c_f, c_t, f_nil, kF_ap, f_cons, kI2_ap, kI1_ap, i_seq, kEn2_ap, kEn1_ap, i_enum, kG1_ap, i_rng1, kG2b_ap, kG2a_ap, i_rng2, st_v, st_o, kSt_ap, st_s, x_nm, kA2_ap, kA1_ap, x_tp, kPar_ap, x_par, kExp_ap, x_exp, kIf_ap, x_ife, kFor_ap, x_for, x_whl, kRet_ap, x_ret, x_retN, x_brk, x_cnt, x_pass, xs_nil, xs_cons, fo_nx, fo_ret, bind_ok_, st_ok_, opd_v, opd_s, opd_o, seq_nx, seq_ret, seq_brk, seq_cnt, optR, optV, optB, view, views, fin, lent, isO, setTg, setAll, setCA, kd, wipes, unwipe, frz, binOp, muOp, truth, seqOf, isNone, callF, lend, slots, back, isLent, List.map_cons, List.map_nil, List.length_cons, List.length_nil, List.cons_append, List.nil_append, List.replicate, Nat.reduceAdd, Nat.reduceSub, List.getElem?_cons_zero, List.getElem?_cons_succ, List.set_cons_zero, List.set_cons_succ, List.getD_cons_zero, List.getD_cons_succ, if_true, if_false, reduceIte, Option.map_some, Option.map_none, List.filterMap_nil, List.filterMap_cons, List.nodup_nil, id_eq, Bool.false_eq_true, nodup1, Wk_Γ, Wk_C, len_tx hL]
    exact ⟨t.length, rfl, Nat.le_refl _, hb, fun h => absurd h (Nat.lt_irrefl _)⟩
end W6

set_option Elab.async false
set_option linter.all false
set_option maxRecDepth 100000
set_option maxHeartbeats 4000000
/-! K06h: the law's own fits, due, kinds. -/
namespace W6
open PySem Rc Lw06
theorem tx_last {l : List Nat} {c : Nat} (hl : l.length ≤ Lm) (h : l[l.length - 1]? = some c) : subOp (Tx l) (.int (-1)) = some (Tx [c]) := by
  show (if (tx l).length ≤ Lm then (L2.atI (tx l).cps.toList (-1)).map sign else none) = _
  rw [tx_len, if_pos hl, tx_list]
  have hn := (List.getElem?_eq_some_iff.mp h).1
  have e : L2.atI l (-1) = some c := by
    unfold L2.atI L2.ixN
    rw [if_neg (by omega), if_pos (by omega)]
    have e2 : ((-1 : Int) + l.length).toNat = l.length - 1 := by omega
    show l[((-1 : Int) + l.length).toNat]? = some c
    rw [e2]
    exact h
  rw [e]
  rfl
theorem lawfits_run (fuel : Nat) (W : Wd) (r : Rul) (t : List Nat) (m : Nat) (hL : t.length ≤ Lm) (hm : m ≠ 0) (hl : m ≤ t.length) (hb : bn r t m = true) : runFn fuel W f_law_fits [.v (enc r), .v (Tx (t.take m))] = .v (.bool (fit r m (lastS t m))) [] := by
  have hw : (t.take m).length ≤ Lm := by rw [List.length_take]; omega
  obtain ⟨d, hd1, hd2⟩ := spell_is r
  unfold f_law_fits runFn
  simp only [e_int, e_str, e_bl, e_non, e_glob, vr_v, vr_o, e_var, kBin2_ap, kBin1_ap, e_bin, kNeg_ap, e_neg, kNot_ap, e_nott, kAnd_ap, e_and, kOr_ap, e_or, kCmp2_ap, kCmp1_ap, e_cmp, kCh3_ap, kCh2_ap, kCh1_ap, e_cmp2, kIte_ap, e_ite, kTup_ap, e_tup, kLst_ap, e_lst, kSub2_ap, kSub1_ap, e_sub, kSlc3_ap, kSlc2_ap, kSlc1_ap, e_slc, kSlL2_ap, kSlL1_ap, e_slcL, kSlH2_ap, kSlH1_ap, e_slcH, kRev_ap, e_rev, kCall_ap, e_call, kBi_ap, e_bi, kIsi_ap, e_isi, kMu_ap, e_mu, kPm2_ap, kPm1_ap, e_pm, kTn3_ap, kTn2_ap, kTn1_ap, kCE_ap, kComp_ap, e_comp, kTNot_ap, t_nott, kTAnd_ap, t_and, kTOr_ap, t_or, kTVal_ap, t_val, s_nil, kS3_ap, kS2_ap, kS1_ap, s_cons, r_nil, kRr2_ap, kRr1_ap, r_cons, c_nil, kCa_ap, kC2_ap, kC1f_ap, kC1t_ap, c_f, c_t, f_nil, kF_ap, f_cons, kI2_ap, kI1_ap, i_seq, kEn2_ap, kEn1_ap, i_enum, kG1_ap, i_rng1, kG2b_ap, kG2a_ap, i_rng2, st_v, st_o, kSt_ap, st_s, x_nm, kA2_ap, kA1_ap, x_tp, kPar_ap, x_par, kExp_ap, x_exp, kIf_ap, x_ife, kFor_ap, x_for, x_whl, kRet_ap, x_ret, x_retN, x_brk, x_cnt, x_pass, xs_nil, xs_cons, fo_nx, fo_ret, bind_ok_, st_ok_, opd_v, opd_s, opd_o, seq_nx, seq_ret, seq_brk, seq_cnt, optR, optV, optB, view, views, fin, lent, isO, setTg, setAll, setCA, kd, wipes, unwipe, frz, binOp, muOp, truth, seqOf, isNone, callF, lend, slots, back, isLent, List.map_cons, List.map_nil, List.length_cons, List.length_nil, List.cons_append, List.nil_append, List.replicate, Nat.reduceAdd, Nat.reduceSub, List.getElem?_cons_zero, List.getElem?_cons_succ, List.set_cons_zero, List.set_cons_succ, List.getD_cons_zero, List.getD_cons_succ, if_true, if_false, reduceIte, Option.map_some, Option.map_none, List.filterMap_nil, List.filterMap_cons, List.nodup_nil, id_eq, Bool.false_eq_true, nodup1, Wk_Γ, Wk_C, hd1, hd2]
  unfold fit
  cases h : r.sp with
  | true =>
    have e : decide (t.take m = r.a) = decide (m = r.a.length) := by
      obtain ⟨h1, h2⟩ := (bn_spell h hl).mp hb
      rw [Bool.eq_iff_iff, decide_eq_true_iff, decide_eq_true_iff]
      constructor
      · intro e
        rw [← e, List.length_take]
        omega
      · intro e
        rw [← h2, e, List.take_length]
    simp only [e_int, e_str, e_bl, e_non, e_glob, vr_v, vr_o, e_var, kBin2_ap, kBin1_ap, e_bin, kNeg_ap, e_neg, kNot_ap, e_nott, kAnd_ap, e_and, kOr_ap, e_or, kCmp2_ap, kCmp1_ap, e_cmp, kCh3_ap, kCh2_ap, kCh1_ap, e_cmp2, kIte_ap, e_ite, kTup_ap, e_tup, kLst_ap, e_lst, kSub2_ap, kSub1_ap, e_sub, kSlc3_ap, kSlc2_ap, kSlc1_ap, e_slc, kSlL2_ap, kSlL1_ap, e_slcL, kSlH2_ap, kSlH1_ap, e_slcH, kRev_ap, e_rev, kCall_ap, e_call, kBi_ap, e_bi, kIsi_ap, e_isi, kMu_ap, e_mu, kPm2_ap, kPm1_ap, e_pm, kTn3_ap, kTn2_ap, kTn1_ap, kCE_ap, kComp_ap, e_comp, kTNot_ap, t_nott, kTAnd_ap, t_and, kTOr_ap, t_or, kTVal_ap, t_val, s_nil, kS3_ap, kS2_ap, kS1_ap, s_cons, r_nil, kRr2_ap, kRr1_ap, r_cons, c_nil, kCa_ap, kC2_ap, kC1f_ap, kC1t_ap, c_f, c_t, f_nil, kF_ap, f_cons, kI2_ap, kI1_ap, i_seq, kEn2_ap, kEn1_ap, i_enum, kG1_ap, i_rng1, kG2b_ap, kG2a_ap, i_rng2, st_v, st_o, kSt_ap, st_s, x_nm, kA2_ap, kA1_ap, x_tp, kPar_ap, x_par, kExp_ap, x_exp, kIf_ap, x_ife, kFor_ap, x_for, x_whl, kRet_ap, x_ret, x_retN, x_brk, x_cnt, x_pass, xs_nil, xs_cons, fo_nx, fo_ret, bind_ok_, st_ok_, opd_v, opd_s, opd_o, seq_nx, seq_ret, seq_brk, seq_cnt, optR, optV, optB, view, views, fin, lent, isO, setTg, setAll, setCA, kd, wipes, unwipe, frz, binOp, muOp, truth, seqOf, isNone, callF, lend, slots, back, isLent, List.map_cons, List.map_nil, List.length_cons, List.length_nil, List.cons_append, List.nil_append, List.replicate, Nat.reduceAdd, Nat.reduceSub, List.getElem?_cons_zero, List.getElem?_cons_succ, List.set_cons_zero, List.set_cons_succ, List.getD_cons_zero, List.getD_cons_succ, if_true, if_false, reduceIte, Option.map_some, Option.map_none, List.filterMap_nil, List.filterMap_cons, List.nodup_nil, id_eq, Bool.false_eq_true, nodup1, Wk_Γ, Wk_C, enc_a, tx_cmp, e]
  | false =>
    have hs : (t.take m)[(t.take m).length - 1]? = some (lastS t m) := by
      have el : (t.take m).length = m := by rw [List.length_take]; omega
      rw [el, List.getElem?_take_of_lt (by omega)]
      unfold lastS
      rw [List.getD_eq_getElem?_getD, List.getElem?_eq_getElem (by omega)]
      rfl
    simp only [e_int, e_str, e_bl, e_non, e_glob, vr_v, vr_o, e_var, kBin2_ap, kBin1_ap, e_bin, kNeg_ap, e_neg, kNot_ap, e_nott, kAnd_ap, e_and, kOr_ap, e_or, kCmp2_ap, kCmp1_ap, e_cmp, kCh3_ap, kCh2_ap, kCh1_ap, e_cmp2, kIte_ap, e_ite, kTup_ap, e_tup, kLst_ap, e_lst, kSub2_ap, kSub1_ap, e_sub, kSlc3_ap, kSlc2_ap, kSlc1_ap, e_slc, kSlL2_ap, kSlL1_ap, e_slcL, kSlH2_ap, kSlH1_ap, e_slcH, kRev_ap, e_rev, kCall_ap, e_call, kBi_ap, e_bi, kIsi_ap, e_isi, kMu_ap, e_mu, kPm2_ap, kPm1_ap, e_pm, kTn3_ap, kTn2_ap, kTn1_ap, kCE_ap, kComp_ap, e_comp, kTNot_ap, t_nott, kTAnd_ap, t_and, kTOr_ap, t_or, kTVal_ap, t_val, s_nil, kS3_ap, kS2_ap, kS1_ap, s_cons, r_nil, kRr2_ap, kRr1_ap, r_cons, c_nil, kCa_ap, kC2_ap, kC1f_ap, kC1t_ap, c_f, c_t, f_nil, kF_ap, f_cons, kI2_ap, kI1_ap, i_seq, kEn2_ap, kEn1_ap, i_enum, kG1_ap, i_rng1, kG2b_ap, kG2a_ap, i_rng2, st_v, st_o, kSt_ap, st_s, x_nm, kA2_ap, kA1_ap, x_tp, kPar_ap, x_par, kExp_ap, x_exp, kIf_ap, x_ife, kFor_ap, x_for, x_whl, kRet_ap, x_ret, x_retN, x_brk, x_cnt, x_pass, xs_nil, xs_cons, fo_nx, fo_ret, bind_ok_, st_ok_, opd_v, opd_s, opd_o, seq_nx, seq_ret, seq_brk, seq_cnt, optR, optV, optB, view, views, fin, lent, isO, setTg, setAll, setCA, kd, wipes, unwipe, frz, binOp, muOp, truth, seqOf, isNone, callF, lend, slots, back, isLent, List.map_cons, List.map_nil, List.length_cons, List.length_nil, List.cons_append, List.nil_append, List.replicate, Nat.reduceAdd, Nat.reduceSub, List.getElem?_cons_zero, List.getElem?_cons_succ, List.set_cons_zero, List.set_cons_succ, List.getD_cons_zero, List.getD_cons_succ, if_true, if_false, reduceIte, Option.map_some, Option.map_none, List.filterMap_nil, List.filterMap_cons, List.nodup_nil, id_eq, Bool.false_eq_true, nodup1, Wk_Γ, Wk_C, enc_c h, tx_last hw hs, tx_in]
theorem shl_nat {i : Nat} (h : i < 6) : binOp .LShift (.int 1) (.int (i : Int)) = some (.v (.int ((2 ^ i : Nat) : Int))) := by
  match i, h with
  | 0, _ => rfl
  | 1, _ => rfl
  | 2, _ => rfl
  | 3, _ => rfl
  | 4, _ => rfl
  | 5, _ => rfl
/-- the lengths of the rules, one by one -/
def Lens (rs : List Rul) (t : List Nat) (ls : List Nat) : Prop := ls.length = rs.length ∧ ∀ (i : Nat) (r : Rul), rs[i]? = some r → ∃ n, ls[i]? = some n ∧ IsLen r t n
def natsD (ls : List Nat) : PyData := .list (ls.map fun n => .int (n : Nat))
theorem natsD_at {ls : List Nat} {i n : Nat} (h : ls[i]? = some n) : subOp (natsD ls) (.int (i : Int)) = some (.int (n : Nat)) :=
  atI_ok (by rw [List.getElem?_map, h]; rfl)
theorem rules_at {rs : List Rul} {i : Nat} {r : Rul} (h : rs[i]? = some r) : subOp (rulesD rs) (.int (i : Int)) = some (enc r) :=
  atI_ok (by rw [List.getElem?_map, h]; rfl)
theorem rules_len (rs : List Rul) : biOp .len [rulesD rs] = some (.v (.int (rs.length : Nat))) := by
  show some (R.v (.int ((rs.map enc).length : Nat))) = _
  rw [List.length_map]
theorem ge_nat (n m : Nat) : cmpOp .GtE (.int (n : Int)) (.int (m : Int)) = some (decide (m ≤ n)) := by
  show some (leI _ _) = _
  rw [leI_eq]
  congr 1
  by_cases q : m ≤ n
  · rw [decide_eq_true q, decide_eq_true (by omega)]
  · rw [decide_eq_false q, decide_eq_false (by omega)]
theorem lawdue_run (fuel : Nat) (W : Wd) (l21 : W.lm 13 = [false, false]) (rs : List Rul) (h6 : rs.length ≤ 6) (t : List Nat) (hL : t.length ≤ Lm) (ls : List Nat) (hls : Lens rs t ls) (m : Nat) (hm : m ≤ t.length)
    (hf : ∀ r ∈ rs, bn r t m = true → W.Γ 13 [.v (enc r), .v (Tx (t.take m))] = .v (.bool (fit r m (lastS t m))) []) :
    runFn fuel W f_law_due [.v (rulesD rs), .v (natsD ls), .v (Tx t), .v (.int m)] = .v (due rs t m) [] := by
  have s62 : small62 (rs.length : Int) = true := small_nat (by omega)
  unfold f_law_due runFn
  simp only [e_int, e_str, e_bl, e_non, e_glob, vr_v, vr_o, e_var, kBin2_ap, kBin1_ap, e_bin, kNeg_ap, e_neg, kNot_ap, e_nott, kAnd_ap, e_and, kOr_ap, e_or, kCmp2_ap, kCmp1_ap, e_cmp, kCh3_ap, kCh2_ap, kCh1_ap, e_cmp2, kIte_ap, e_ite, kTup_ap, e_tup, kLst_ap, e_lst, kSub2_ap, kSub1_ap, e_sub, kSlc3_ap, kSlc2_ap, kSlc1_ap, e_slc, kSlL2_ap, kSlL1_ap, e_slcL, kSlH2_ap, kSlH1_ap, e_slcH, kRev_ap, e_rev, kCall_ap, e_call, kBi_ap, e_bi, kIsi_ap, e_isi, kMu_ap, e_mu, kPm2_ap, kPm1_ap, e_pm, kTn3_ap, kTn2_ap, kTn1_ap, kCE_ap, kComp_ap, e_comp, kTNot_ap, t_nott, kTAnd_ap, t_and, kTOr_ap, t_or, kTVal_ap, t_val, s_nil, kS3_ap, kS2_ap, kS1_ap, s_cons, r_nil, kRr2_ap, kRr1_ap, r_cons, c_nil, kCa_ap, kC2_ap, kC1f_ap, kC1t_ap, c_f, c_t, f_nil, kF_ap, f_cons, kI2_ap, kI1_ap, i_seq, kEn2_ap, kEn1_ap, i_enum, kG1_ap, i_rng1, kG2b_ap, kG2a_ap, i_rng2, st_v, st_o, kSt_ap, st_s, x_nm, kA2_ap, kA1_ap, x_tp, kPar_ap, x_par, kExp_ap, x_exp, kIf_ap, x_ife, kFor_ap, x_for, x_whl, kRet_ap, x_ret, x_retN, x_brk, x_cnt, x_pass, xs_nil, xs_cons, fo_nx, fo_ret, bind_ok_, st_ok_, opd_v, opd_s, opd_o, seq_nx, seq_ret, seq_brk, seq_cnt, optR, optV, optB, view, views, fin, lent, isO, setTg, setAll, setCA, kd, wipes, unwipe, frz, binOp, muOp, truth, seqOf, isNone, callF, lend, slots, back, isLent, List.map_cons, List.map_nil, List.length_cons, List.length_nil, List.cons_append, List.nil_append, List.replicate, Nat.reduceAdd, Nat.reduceSub, List.getElem?_cons_zero, List.getElem?_cons_succ, List.set_cons_zero, List.set_cons_succ, List.getD_cons_zero, List.getD_cons_succ, if_true, if_false, reduceIte, Option.map_some, Option.map_none, List.filterMap_nil, List.filterMap_cons, List.nodup_nil, id_eq, Bool.false_eq_true, nodup1, Wk_Γ, Wk_C, rules_len, s62]
  refine forL_run (I := fun i ρ => ∃ x, ρ = [.v (rulesD rs), .v (natsD ls), .v (Tx t), .v (.int m), x, .v (.int (bord (rs.take i) t m : Nat)), .v (.int (fitd (rs.take i) t m : Nat)), .v (.int (spelt (rs.take i) t m : Nat))])
    (R := fun o => SO.fo [false, false, false, false] (o.seq _) = _) ?_ ?_ ⟨_, rfl⟩
  · rintro i x ρ hx ⟨x0, rfl⟩
    obtain ⟨rfl, hi⟩ := rng1L_get hx
    rw [Int.toNat_natCast] at hi
    obtain ⟨r, hr⟩ : ∃ r, rs[i]? = some r := ⟨_, List.getElem?_eq_getElem hi⟩
    have rm := List.mem_of_getElem? hr
    obtain ⟨t1, t2⟩ := take_snoc hr
    obtain ⟨n, hn, il⟩ := hls.2 i r hr
    obtain ⟨d, hd1, hd2⟩ := spell_is r
    have sh := shl_nat (i := i) (by omega)
    have dec : decide (m ≤ n) = bn r t m := by
      rw [Bool.eq_iff_iff, decide_eq_true_iff]
      exact il.iff hm
    rw [t1]
    unfold bord fitd spelt
    simp only [sumB_snoc, t2, List.any_append, List.any_cons, List.any_nil, Bool.or_false]
    simp only [turnF_ap, e_int, e_str, e_bl, e_non, e_glob, vr_v, vr_o, e_var, kBin2_ap, kBin1_ap, e_bin, kNeg_ap, e_neg, kNot_ap, e_nott, kAnd_ap, e_and, kOr_ap, e_or, kCmp2_ap, kCmp1_ap, e_cmp, kCh3_ap, kCh2_ap, kCh1_ap, e_cmp2, kIte_ap, e_ite, kTup_ap, e_tup, kLst_ap, e_lst, kSub2_ap, kSub1_ap, e_sub, kSlc3_ap, kSlc2_ap, kSlc1_ap, e_slc, kSlL2_ap, kSlL1_ap, e_slcL, kSlH2_ap, kSlH1_ap, e_slcH, kRev_ap, e_rev, kCall_ap, e_call, kBi_ap, e_bi, kIsi_ap, e_isi, kMu_ap, e_mu, kPm2_ap, kPm1_ap, e_pm, kTn3_ap, kTn2_ap, kTn1_ap, kCE_ap, kComp_ap, e_comp, kTNot_ap, t_nott, kTAnd_ap, t_and, kTOr_ap, t_or, kTVal_ap, t_val, s_nil, kS3_ap, kS2_ap, kS1_ap, s_cons, r_nil, kRr2_ap, kRr1_ap, r_cons, c_nil, kCa_ap, kC2_ap, kC1f_ap, kC1t_ap, c_f, c_t, f_nil, kF_ap, f_cons, kI2_ap, kI1_ap, i_seq, kEn2_ap, kEn1_ap, i_enum, kG1_ap, i_rng1, kG2b_ap, kG2a_ap, i_rng2, st_v, st_o, kSt_ap, st_s, x_nm, kA2_ap, kA1_ap, x_tp, kPar_ap, x_par, kExp_ap, x_exp, kIf_ap, x_ife, kFor_ap, x_for, x_whl, kRet_ap, x_ret, x_retN, x_brk, x_cnt, x_pass, xs_nil, xs_cons, fo_nx, fo_ret, bind_ok_, st_ok_, opd_v, opd_s, opd_o, seq_nx, seq_ret, seq_brk, seq_cnt, optR, optV, optB, view, views, fin, lent, isO, setTg, setAll, setCA, kd, wipes, unwipe, frz, muOp, truth, seqOf, isNone, callF, lend, slots, back, isLent, List.map_cons, List.map_nil, List.length_cons, List.length_nil, List.cons_append, List.nil_append, List.replicate, Nat.reduceAdd, Nat.reduceSub, List.getElem?_cons_zero, List.getElem?_cons_succ, List.set_cons_zero, List.set_cons_succ, List.getD_cons_zero, List.getD_cons_succ, if_true, if_false, reduceIte, Option.map_some, Option.map_none, List.filterMap_nil, List.filterMap_cons, List.nodup_nil, id_eq, Bool.false_eq_true, nodup1, Wk_Γ, Wk_C, natsD_at hn, ge_nat, dec]
    cases hb : bn r t m with
    | false =>
      simp only [e_int, e_str, e_bl, e_non, e_glob, vr_v, vr_o, e_var, kBin2_ap, kBin1_ap, e_bin, kNeg_ap, e_neg, kNot_ap, e_nott, kAnd_ap, e_and, kOr_ap, e_or, kCmp2_ap, kCmp1_ap, e_cmp, kCh3_ap, kCh2_ap, kCh1_ap, e_cmp2, kIte_ap, e_ite, kTup_ap, e_tup, kLst_ap, e_lst, kSub2_ap, kSub1_ap, e_sub, kSlc3_ap, kSlc2_ap, kSlc1_ap, e_slc, kSlL2_ap, kSlL1_ap, e_slcL, kSlH2_ap, kSlH1_ap, e_slcH, kRev_ap, e_rev, kCall_ap, e_call, kBi_ap, e_bi, kIsi_ap, e_isi, kMu_ap, e_mu, kPm2_ap, kPm1_ap, e_pm, kTn3_ap, kTn2_ap, kTn1_ap, kCE_ap, kComp_ap, e_comp, kTNot_ap, t_nott, kTAnd_ap, t_and, kTOr_ap, t_or, kTVal_ap, t_val, s_nil, kS3_ap, kS2_ap, kS1_ap, s_cons, r_nil, kRr2_ap, kRr1_ap, r_cons, c_nil, kCa_ap, kC2_ap, kC1f_ap, kC1t_ap, c_f, c_t, f_nil, kF_ap, f_cons, kI2_ap, kI1_ap, i_seq, kEn2_ap, kEn1_ap, i_enum, kG1_ap, i_rng1, kG2b_ap, kG2a_ap, i_rng2, st_v, st_o, kSt_ap, st_s, x_nm, kA2_ap, kA1_ap, x_tp, kPar_ap, x_par, kExp_ap, x_exp, kIf_ap, x_ife, kFor_ap, x_for, x_whl, kRet_ap, x_ret, x_retN, x_brk, x_cnt, x_pass, xs_nil, xs_cons, fo_nx, fo_ret, bind_ok_, st_ok_, opd_v, opd_s, opd_o, seq_nx, seq_ret, seq_brk, seq_cnt, optR, optV, optB, view, views, fin, lent, isO, setTg, setAll, setCA, kd, wipes, unwipe, frz, binOp, muOp, truth, seqOf, isNone, callF, lend, slots, back, isLent, List.map_cons, List.map_nil, List.length_cons, List.length_nil, List.cons_append, List.nil_append, List.replicate, Nat.reduceAdd, Nat.reduceSub, List.getElem?_cons_zero, List.getElem?_cons_succ, List.set_cons_zero, List.set_cons_succ, List.getD_cons_zero, List.getD_cons_succ, if_true, if_false, reduceIte, Option.map_some, Option.map_none, List.filterMap_nil, List.filterMap_cons, List.nodup_nil, id_eq, Bool.false_eq_true, nodup1, Wk_Γ, Wk_C, Bool.false_and, Bool.and_false, Bool.or_false, Nat.add_zero]
      exact ⟨_, rfl⟩
    | true =>
      have hf0 := hf r rm hb
      simp only [e_int, e_str, e_bl, e_non, e_glob, vr_v, vr_o, e_var, kBin2_ap, kBin1_ap, e_bin, kNeg_ap, e_neg, kNot_ap, e_nott, kAnd_ap, e_and, kOr_ap, e_or, kCmp2_ap, kCmp1_ap, e_cmp, kCh3_ap, kCh2_ap, kCh1_ap, e_cmp2, kIte_ap, e_ite, kTup_ap, e_tup, kLst_ap, e_lst, kSub2_ap, kSub1_ap, e_sub, kSlc3_ap, kSlc2_ap, kSlc1_ap, e_slc, kSlL2_ap, kSlL1_ap, e_slcL, kSlH2_ap, kSlH1_ap, e_slcH, kRev_ap, e_rev, kCall_ap, e_call, kBi_ap, e_bi, kIsi_ap, e_isi, kMu_ap, e_mu, kPm2_ap, kPm1_ap, e_pm, kTn3_ap, kTn2_ap, kTn1_ap, kCE_ap, kComp_ap, e_comp, kTNot_ap, t_nott, kTAnd_ap, t_and, kTOr_ap, t_or, kTVal_ap, t_val, s_nil, kS3_ap, kS2_ap, kS1_ap, s_cons, r_nil, kRr2_ap, kRr1_ap, r_cons, c_nil, kCa_ap, kC2_ap, kC1f_ap, kC1t_ap, c_f, c_t, f_nil, kF_ap, f_cons, kI2_ap, kI1_ap, i_seq, kEn2_ap, kEn1_ap, i_enum, kG1_ap, i_rng1, kG2b_ap, kG2a_ap, i_rng2, st_v, st_o, kSt_ap, st_s, x_nm, kA2_ap, kA1_ap, x_tp, kPar_ap, x_par, kExp_ap, x_exp, kIf_ap, x_ife, kFor_ap, x_for, x_whl, kRet_ap, x_ret, x_retN, x_brk, x_cnt, x_pass, xs_nil, xs_cons, fo_nx, fo_ret, bind_ok_, st_ok_, opd_v, opd_s, opd_o, seq_nx, seq_ret, seq_brk, seq_cnt, optR, optV, optB, view, views, fin, lent, isO, setTg, setAll, setCA, kd, wipes, unwipe, frz, muOp, truth, seqOf, isNone, callF, lend, slots, back, isLent, List.map_cons, List.map_nil, List.length_cons, List.length_nil, List.cons_append, List.nil_append, List.replicate, Nat.reduceAdd, Nat.reduceSub, List.getElem?_cons_zero, List.getElem?_cons_succ, List.set_cons_zero, List.set_cons_succ, List.getD_cons_zero, List.getD_cons_succ, if_true, if_false, reduceIte, Option.map_some, Option.map_none, List.filterMap_nil, List.filterMap_cons, List.nodup_nil, id_eq, Bool.false_eq_true, nodup1, Wk_Γ, Wk_C, rules_at hr, sh, add_nat, hd1, hd2, Bool.true_and, Bool.and_true]
      cases hs : r.sp <;> cases hfit : fit r m (lastS t m) <;> (
        simp only [e_int, e_str, e_bl, e_non, e_glob, vr_v, vr_o, e_var, kBin2_ap, kBin1_ap, e_bin, kNeg_ap, e_neg, kNot_ap, e_nott, kAnd_ap, e_and, kOr_ap, e_or, kCmp2_ap, kCmp1_ap, e_cmp, kCh3_ap, kCh2_ap, kCh1_ap, e_cmp2, kIte_ap, e_ite, kTup_ap, e_tup, kLst_ap, e_lst, kSub2_ap, kSub1_ap, e_sub, kSlc3_ap, kSlc2_ap, kSlc1_ap, e_slc, kSlL2_ap, kSlL1_ap, e_slcL, kSlH2_ap, kSlH1_ap, e_slcH, kRev_ap, e_rev, kCall_ap, e_call, kBi_ap, e_bi, kIsi_ap, e_isi, kMu_ap, e_mu, kPm2_ap, kPm1_ap, e_pm, kTn3_ap, kTn2_ap, kTn1_ap, kCE_ap, kComp_ap, e_comp, kTNot_ap, t_nott, kTAnd_ap, t_and, kTOr_ap, t_or, kTVal_ap, t_val, s_nil, kS3_ap, kS2_ap, kS1_ap, s_cons, r_nil, kRr2_ap, kRr1_ap, r_cons, c_nil, kCa_ap, kC2_ap, kC1f_ap, kC1t_ap, c_f, c_t, f_nil, kF_ap, f_cons, kI2_ap, kI1_ap, i_seq, kEn2_ap, kEn1_ap, i_enum, kG1_ap, i_rng1, kG2b_ap, kG2a_ap, i_rng2, st_v, st_o, kSt_ap, st_s, x_nm, kA2_ap, kA1_ap, x_tp, kPar_ap, x_par, kExp_ap, x_exp, kIf_ap, x_ife, kFor_ap, x_for, x_whl, kRet_ap, x_ret, x_retN, x_brk, x_cnt, x_pass, xs_nil, xs_cons, fo_nx, fo_ret, bind_ok_, st_ok_, opd_v, opd_s, opd_o, seq_nx, seq_ret, seq_brk, seq_cnt, optR, optV, optB, view, views, fin, lent, isO, setTg, setAll, setCA, kd, wipes, unwipe, frz, muOp, truth, seqOf, isNone, callF, lend, slots, back, isLent, List.map_cons, List.map_nil, List.length_cons, List.length_nil, List.cons_append, List.nil_append, List.replicate, Nat.reduceAdd, Nat.reduceSub, List.getElem?_cons_zero, List.getElem?_cons_succ, List.set_cons_zero, List.set_cons_succ, List.getD_cons_zero, List.getD_cons_succ, if_true, if_false, reduceIte, Option.map_some, Option.map_none, List.filterMap_nil, List.filterMap_cons, List.nodup_nil, id_eq, Bool.false_eq_true, nodup1, Wk_Γ, Wk_C, l21, rules_at hr, slcH_tx hL, hf0, hfit, sh, add_nat, Bool.or_true, Bool.or_false, Nat.add_zero]
        exact ⟨_, rfl⟩)
  · rintro ρ ⟨x, rfl⟩
    rw [rng1L_len, Int.toNat_natCast, List.take_length]
    simp only [e_int, e_str, e_bl, e_non, e_glob, vr_v, vr_o, e_var, kBin2_ap, kBin1_ap, e_bin, kNeg_ap, e_neg, kNot_ap, e_nott, kAnd_ap, e_and, kOr_ap, e_or, kCmp2_ap, kCmp1_ap, e_cmp, kCh3_ap, kCh2_ap, kCh1_ap, e_cmp2, kIte_ap, e_ite, kTup_ap, e_tup, kLst_ap, e_lst, kSub2_ap, kSub1_ap, e_sub, kSlc3_ap, kSlc2_ap, kSlc1_ap, e_slc, kSlL2_ap, kSlL1_ap, e_slcL, kSlH2_ap, kSlH1_ap, e_slcH, kRev_ap, e_rev, kCall_ap, e_call, kBi_ap, e_bi, kIsi_ap, e_isi, kMu_ap, e_mu, kPm2_ap, kPm1_ap, e_pm, kTn3_ap, kTn2_ap, kTn1_ap, kCE_ap, kComp_ap, e_comp, kTNot_ap, t_nott, kTAnd_ap, t_and, kTOr_ap, t_or, kTVal_ap, t_val, s_nil, kS3_ap, kS2_ap, kS1_ap, s_cons, r_nil, kRr2_ap, kRr1_ap, r_cons, c_nil, kCa_ap, kC2_ap, kC1f_ap, kC1t_ap, c_f, c_t, f_nil, kF_ap, f_cons, kI2_ap, kI1_ap, i_seq, kEn2_ap, kEn1_ap, i_enum, kG1_ap, i_rng1, kG2b_ap, kG2a_ap, i_rng2, st_v, st_o, kSt_ap, st_s, x_nm, kA2_ap, kA1_ap, x_tp, kPar_ap, x_par, kExp_ap, x_exp, kIf_ap, x_ife, kFor_ap, x_for, x_whl, kRet_ap, x_ret, x_retN, x_brk, x_cnt, x_pass, xs_nil, xs_cons, fo_nx, fo_ret, bind_ok_, st_ok_, opd_v, opd_s, opd_o, seq_nx, seq_ret, seq_brk, seq_cnt, optR, optV, optB, view, views, fin, lent, isO, setTg, setAll, setCA, kd, wipes, unwipe, frz, binOp, muOp, truth, seqOf, isNone, callF, lend, slots, back, isLent, List.map_cons, List.map_nil, List.length_cons, List.length_nil, List.cons_append, List.nil_append, List.replicate, Nat.reduceAdd, Nat.reduceSub, List.getElem?_cons_zero, List.getElem?_cons_succ, List.set_cons_zero, List.set_cons_succ, List.getD_cons_zero, List.getD_cons_succ, if_true, if_false, reduceIte, Option.map_some, Option.map_none, List.filterMap_nil, List.filterMap_cons, List.nodup_nil, id_eq, Bool.false_eq_true, nodup1, Wk_Γ, Wk_C, eq0]
    unfold due res3
    cases hb0 : decide (bord rs t m = 0) with
    | true =>
      rw [if_pos (of_decide_eq_true hb0)]
      simp only [e_int, e_str, e_bl, e_non, e_glob, vr_v, vr_o, e_var, kBin2_ap, kBin1_ap, e_bin, kNeg_ap, e_neg, kNot_ap, e_nott, kAnd_ap, e_and, kOr_ap, e_or, kCmp2_ap, kCmp1_ap, e_cmp, kCh3_ap, kCh2_ap, kCh1_ap, e_cmp2, kIte_ap, e_ite, kTup_ap, e_tup, kLst_ap, e_lst, kSub2_ap, kSub1_ap, e_sub, kSlc3_ap, kSlc2_ap, kSlc1_ap, e_slc, kSlL2_ap, kSlL1_ap, e_slcL, kSlH2_ap, kSlH1_ap, e_slcH, kRev_ap, e_rev, kCall_ap, e_call, kBi_ap, e_bi, kIsi_ap, e_isi, kMu_ap, e_mu, kPm2_ap, kPm1_ap, e_pm, kTn3_ap, kTn2_ap, kTn1_ap, kCE_ap, kComp_ap, e_comp, kTNot_ap, t_nott, kTAnd_ap, t_and, kTOr_ap, t_or, kTVal_ap, t_val, s_nil, kS3_ap, kS2_ap, kS1_ap, s_cons, r_nil, kRr2_ap, kRr1_ap, r_cons, c_nil, kCa_ap, kC2_ap, kC1f_ap, kC1t_ap, c_f, c_t, f_nil, kF_ap, f_cons, kI2_ap, kI1_ap, i_seq, kEn2_ap, kEn1_ap, i_enum, kG1_ap, i_rng1, kG2b_ap, kG2a_ap, i_rng2, st_v, st_o, kSt_ap, st_s, x_nm, kA2_ap, kA1_ap, x_tp, kPar_ap, x_par, kExp_ap, x_exp, kIf_ap, x_ife, kFor_ap, x_for, x_whl, kRet_ap, x_ret, x_retN, x_brk, x_cnt, x_pass, xs_nil, xs_cons, fo_nx, fo_ret, bind_ok_, st_ok_, opd_v, opd_s, opd_o, seq_nx, seq_ret, seq_brk, seq_cnt, optR, optV, optB, view, views, fin, lent, isO, setTg, setAll, setCA, kd, wipes, unwipe, frz, binOp, muOp, truth, seqOf, isNone, callF, lend, slots, back, isLent, List.map_cons, List.map_nil, List.length_cons, List.length_nil, List.cons_append, List.nil_append, List.replicate, Nat.reduceAdd, Nat.reduceSub, List.getElem?_cons_zero, List.getElem?_cons_succ, List.set_cons_zero, List.set_cons_succ, List.getD_cons_zero, List.getD_cons_succ, if_true, if_false, reduceIte, Option.map_some, Option.map_none, List.filterMap_nil, List.filterMap_cons, List.nodup_nil, id_eq, Bool.false_eq_true, nodup1, Wk_Γ, Wk_C, hb0]
    | false =>
      rw [if_neg (of_decide_eq_false hb0)]
      simp only [e_int, e_str, e_bl, e_non, e_glob, vr_v, vr_o, e_var, kBin2_ap, kBin1_ap, e_bin, kNeg_ap, e_neg, kNot_ap, e_nott, kAnd_ap, e_and, kOr_ap, e_or, kCmp2_ap, kCmp1_ap, e_cmp, kCh3_ap, kCh2_ap, kCh1_ap, e_cmp2, kIte_ap, e_ite, kTup_ap, e_tup, kLst_ap, e_lst, kSub2_ap, kSub1_ap, e_sub, kSlc3_ap, kSlc2_ap, kSlc1_ap, e_slc, kSlL2_ap, kSlL1_ap, e_slcL, kSlH2_ap, kSlH1_ap, e_slcH, kRev_ap, e_rev, kCall_ap, e_call, kBi_ap, e_bi, kIsi_ap, e_isi, kMu_ap, e_mu, kPm2_ap, kPm1_ap, e_pm, kTn3_ap, kTn2_ap, kTn1_ap, kCE_ap, kComp_ap, e_comp, kTNot_ap, t_nott, kTAnd_ap, t_and, kTOr_ap, t_or, kTVal_ap, t_val, s_nil, kS3_ap, kS2_ap, kS1_ap, s_cons, r_nil, kRr2_ap, kRr1_ap, r_cons, c_nil, kCa_ap, kC2_ap, kC1f_ap, kC1t_ap, c_f, c_t, f_nil, kF_ap, f_cons, kI2_ap, kI1_ap, i_seq, kEn2_ap, kEn1_ap, i_enum, kG1_ap, i_rng1, kG2b_ap, kG2a_ap, i_rng2, st_v, st_o, kSt_ap, st_s, x_nm, kA2_ap, kA1_ap, x_tp, kPar_ap, x_par, kExp_ap, x_exp, kIf_ap, x_ife, kFor_ap, x_for, x_whl, kRet_ap, x_ret, x_retN, x_brk, x_cnt, x_pass, xs_nil, xs_cons, fo_nx, fo_ret, bind_ok_, st_ok_, opd_v, opd_s, opd_o, seq_nx, seq_ret, seq_brk, seq_cnt, optR, optV, optB, view, views, fin, lent, isO, setTg, setAll, setCA, kd, wipes, unwipe, frz, binOp, muOp, truth, seqOf, isNone, callF, lend, slots, back, isLent, List.map_cons, List.map_nil, List.length_cons, List.length_nil, List.cons_append, List.nil_append, List.replicate, Nat.reduceAdd, Nat.reduceSub, List.getElem?_cons_zero, List.getElem?_cons_succ, List.set_cons_zero, List.set_cons_succ, List.getD_cons_zero, List.getD_cons_succ, if_true, if_false, reduceIte, Option.map_some, Option.map_none, List.filterMap_nil, List.filterMap_cons, List.nodup_nil, id_eq, Bool.false_eq_true, nodup1, Wk_Γ, Wk_C, hb0]
end W6

set_option Elab.async false
set_option linter.all false
set_option maxRecDepth 100000
set_option maxHeartbeats 4000000
/-! K06i: the law's own kinds; is. -/
namespace W6
open PySem Rc Lw06
theorem lawkinds_run (fuel : Nat) (W : Wd) (l21 : W.lm 13 = [false, false]) (rs : List Rul) (h6 : rs.length ≤ 6) (hk : ∀ r ∈ rs, PyData.strOk (tx r.kind) = true) (t : List Nat) (hL : t.length ≤ Lm) (ls : List Nat) (hls : Lens rs t ls) (m : Nat) (hm : m ≤ t.length)
    (hf : ∀ r ∈ rs, bn r t m = true → W.Γ 13 [.v (enc r), .v (Tx (t.take m))] = .v (.bool (fit r m (lastS t m))) []) :
    runFn fuel W f_law_kinds [.v (rulesD rs), .v (natsD ls), .v (Tx t), .v (.int m)] = .v (.tuple ((kds (fun r => bn r t m && fit r m (lastS t m)) rs).map Tx)) [] := by
  have s62 : small62 (rs.length : Int) = true := small_nat (by omega)
  generalize hq : (fun r => bn r t m && fit r m (lastS t m)) = q
  unfold f_law_kinds runFn
  simp only [e_int, e_str, e_bl, e_non, e_glob, vr_v, vr_o, e_var, kBin2_ap, kBin1_ap, e_bin, kNeg_ap, e_neg, kNot_ap, e_nott, kAnd_ap, e_and, kOr_ap, e_or, kCmp2_ap, kCmp1_ap, e_cmp, kCh3_ap, kCh2_ap, kCh1_ap, e_cmp2, kIte_ap, e_ite, kTup_ap, e_tup, kLst_ap, e_lst, kSub2_ap, kSub1_ap, e_sub, kSlc3_ap, kSlc2_ap, kSlc1_ap, e_slc, kSlL2_ap, kSlL1_ap, e_slcL, kSlH2_ap, kSlH1_ap, e_slcH, kRev_ap, e_rev, kCall_ap, e_call, kBi_ap, e_bi, kIsi_ap, e_isi, kMu_ap, e_mu, kPm2_ap, kPm1_ap, e_pm, kTn3_ap, kTn2_ap, kTn1_ap, kCE_ap, kComp_ap, e_comp, kTNot_ap, t_nott, kTAnd_ap, t_and, kTOr_ap, t_or, kTVal_ap, t_val, s_nil, kS3_ap, kS2_ap, kS1_ap, s_cons, r_nil, kRr2_ap, kRr1_ap, r_cons, c_nil, kCa_ap, kC2_ap, kC1f_ap, kC1t_ap, c_f, c_t, f_nil, kF_ap, f_cons, kI2_ap, kI1_ap, i_seq, kEn2_ap, kEn1_ap, i_enum, kG1_ap, i_rng1, kG2b_ap, kG2a_ap, i_rng2, st_v, st_o, kSt_ap, st_s, x_nm, kA2_ap, kA1_ap, x_tp, kPar_ap, x_par, kExp_ap, x_exp, kIf_ap, x_ife, kFor_ap, x_for, x_whl, kRet_ap, x_ret, x_retN, x_brk, x_cnt, x_pass, xs_nil, xs_cons, fo_nx, fo_ret, bind_ok_, st_ok_, opd_v, opd_s, opd_o, seq_nx, seq_ret, seq_brk, seq_cnt, optR, optV, optB, view, views, fin, lent, isO, setTg, setAll, setCA, kd, wipes, unwipe, frz, binOp, muOp, truth, seqOf, isNone, callF, lend, slots, back, isLent, List.map_cons, List.map_nil, List.length_cons, List.length_nil, List.cons_append, List.nil_append, List.replicate, Nat.reduceAdd, Nat.reduceSub, List.getElem?_cons_zero, List.getElem?_cons_succ, List.set_cons_zero, List.set_cons_succ, List.getD_cons_zero, List.getD_cons_succ, if_true, if_false, reduceIte, Option.map_some, Option.map_none, List.filterMap_nil, List.filterMap_cons, List.nodup_nil, id_eq, Bool.false_eq_true, nodup1, Wk_Γ, Wk_C, rules_len, s62]
  refine forL_run (I := fun i ρ => ∃ x y, ρ = [.v (rulesD rs), .v (natsD ls), .v (Tx t), .v (.int m), .o (.lst ((kds q (rs.take i)).map Tx)), x, y]) (R := fun o => SO.fo [false, false, false, false] (o.seq _) = _) ?_ ?_ ⟨_, _, rfl⟩
  · rintro i x ρ hx ⟨x0, y0, rfl⟩
    obtain ⟨rfl, hi⟩ := rng1L_get hx
    rw [Int.toNat_natCast] at hi
    obtain ⟨r, hr⟩ : ∃ r, rs[i]? = some r := ⟨_, List.getElem?_eq_getElem hi⟩
    have rm := List.mem_of_getElem? hr
    obtain ⟨t1, t2⟩ := take_snoc hr
    obtain ⟨n, hn, il⟩ := hls.2 i r hr
    have dec : decide (m ≤ n) = bn r t m := by
      rw [Bool.eq_iff_iff, decide_eq_true_iff]
      exact il.iff hm
    have hkin := kind_is r
    have hks : ∀ k ∈ kds q (rs.take i), PyData.strOk (tx k) = true := kds_ok q (fun k => PyData.strOk (tx k) = true) (rs.take i) [] (fun r hr => hk r (List.mem_of_mem_take hr)) (fun k h => by cases h)
    have hin : cmpOp .NotIn (Tx r.kind) (.list ((kds q (rs.take i)).map Tx)) = some (!decide (r.kind ∈ kds q (rs.take i))) := by
      show (inD (Tx r.kind) _).map (!·) = _
      rw [inD_tx (hk r rm) hks]
      rfl
    have hLk : ((kds q (rs.take i)).map Tx).length < Lm := by
      rw [List.length_map]
      have e : (kds q (rs.take i)).length ≤ 0 + (rs.take i).length := kds_len q (rs.take i) []
      rw [List.length_take] at e
      exact Nat.lt_of_le_of_lt (show (kds q (rs.take i)).length ≤ 6 by omega) (by decide)
    rw [t1, kds_snoc]
    unfold kstep
    have qr : q r = (bn r t m && fit r m (lastS t m)) := by rw [← hq]
    rw [qr]
    simp only [turnF_ap, e_int, e_str, e_bl, e_non, e_glob, vr_v, vr_o, e_var, kBin2_ap, kBin1_ap, e_bin, kNeg_ap, e_neg, kNot_ap, e_nott, kAnd_ap, e_and, kOr_ap, e_or, kCmp2_ap, kCmp1_ap, e_cmp, kCh3_ap, kCh2_ap, kCh1_ap, e_cmp2, kIte_ap, e_ite, kTup_ap, e_tup, kLst_ap, e_lst, kSub2_ap, kSub1_ap, e_sub, kSlc3_ap, kSlc2_ap, kSlc1_ap, e_slc, kSlL2_ap, kSlL1_ap, e_slcL, kSlH2_ap, kSlH1_ap, e_slcH, kRev_ap, e_rev, kCall_ap, e_call, kBi_ap, e_bi, kIsi_ap, e_isi, kMu_ap, e_mu, kPm2_ap, kPm1_ap, e_pm, kTn3_ap, kTn2_ap, kTn1_ap, kCE_ap, kComp_ap, e_comp, kTNot_ap, t_nott, kTAnd_ap, t_and, kTOr_ap, t_or, kTVal_ap, t_val, s_nil, kS3_ap, kS2_ap, kS1_ap, s_cons, r_nil, kRr2_ap, kRr1_ap, r_cons, c_nil, kCa_ap, kC2_ap, kC1f_ap, kC1t_ap, c_f, c_t, f_nil, kF_ap, f_cons, kI2_ap, kI1_ap, i_seq, kEn2_ap, kEn1_ap, i_enum, kG1_ap, i_rng1, kG2b_ap, kG2a_ap, i_rng2, st_v, st_o, kSt_ap, st_s, x_nm, kA2_ap, kA1_ap, x_tp, kPar_ap, x_par, kExp_ap, x_exp, kIf_ap, x_ife, kFor_ap, x_for, x_whl, kRet_ap, x_ret, x_retN, x_brk, x_cnt, x_pass, xs_nil, xs_cons, fo_nx, fo_ret, bind_ok_, st_ok_, opd_v, opd_s, opd_o, seq_nx, seq_ret, seq_brk, seq_cnt, optR, optV, optB, view, views, fin, lent, isO, setTg, setAll, setCA, kd, wipes, unwipe, frz, binOp, muOp, truth, seqOf, isNone, callF, lend, slots, back, isLent, List.map_cons, List.map_nil, List.length_cons, List.length_nil, List.cons_append, List.nil_append, List.replicate, Nat.reduceAdd, Nat.reduceSub, List.getElem?_cons_zero, List.getElem?_cons_succ, List.set_cons_zero, List.set_cons_succ, List.getD_cons_zero, List.getD_cons_succ, if_true, if_false, reduceIte, Option.map_some, Option.map_none, List.filterMap_nil, List.filterMap_cons, List.nodup_nil, id_eq, Bool.false_eq_true, nodup1, Wk_Γ, Wk_C, natsD_at hn, rules_at hr, ge_nat, dec]
    cases hb : bn r t m with
    | false =>
      simp only [e_int, e_str, e_bl, e_non, e_glob, vr_v, vr_o, e_var, kBin2_ap, kBin1_ap, e_bin, kNeg_ap, e_neg, kNot_ap, e_nott, kAnd_ap, e_and, kOr_ap, e_or, kCmp2_ap, kCmp1_ap, e_cmp, kCh3_ap, kCh2_ap, kCh1_ap, e_cmp2, kIte_ap, e_ite, kTup_ap, e_tup, kLst_ap, e_lst, kSub2_ap, kSub1_ap, e_sub, kSlc3_ap, kSlc2_ap, kSlc1_ap, e_slc, kSlL2_ap, kSlL1_ap, e_slcL, kSlH2_ap, kSlH1_ap, e_slcH, kRev_ap, e_rev, kCall_ap, e_call, kBi_ap, e_bi, kIsi_ap, e_isi, kMu_ap, e_mu, kPm2_ap, kPm1_ap, e_pm, kTn3_ap, kTn2_ap, kTn1_ap, kCE_ap, kComp_ap, e_comp, kTNot_ap, t_nott, kTAnd_ap, t_and, kTOr_ap, t_or, kTVal_ap, t_val, s_nil, kS3_ap, kS2_ap, kS1_ap, s_cons, r_nil, kRr2_ap, kRr1_ap, r_cons, c_nil, kCa_ap, kC2_ap, kC1f_ap, kC1t_ap, c_f, c_t, f_nil, kF_ap, f_cons, kI2_ap, kI1_ap, i_seq, kEn2_ap, kEn1_ap, i_enum, kG1_ap, i_rng1, kG2b_ap, kG2a_ap, i_rng2, st_v, st_o, kSt_ap, st_s, x_nm, kA2_ap, kA1_ap, x_tp, kPar_ap, x_par, kExp_ap, x_exp, kIf_ap, x_ife, kFor_ap, x_for, x_whl, kRet_ap, x_ret, x_retN, x_brk, x_cnt, x_pass, xs_nil, xs_cons, fo_nx, fo_ret, bind_ok_, st_ok_, opd_v, opd_s, opd_o, seq_nx, seq_ret, seq_brk, seq_cnt, optR, optV, optB, view, views, fin, lent, isO, setTg, setAll, setCA, kd, wipes, unwipe, frz, binOp, muOp, truth, seqOf, isNone, callF, lend, slots, back, isLent, List.map_cons, List.map_nil, List.length_cons, List.length_nil, List.cons_append, List.nil_append, List.replicate, Nat.reduceAdd, Nat.reduceSub, List.getElem?_cons_zero, List.getElem?_cons_succ, List.set_cons_zero, List.set_cons_succ, List.getD_cons_zero, List.getD_cons_succ, if_true, if_false, reduceIte, Option.map_some, Option.map_none, List.filterMap_nil, List.filterMap_cons, List.nodup_nil, id_eq, Bool.false_eq_true, nodup1, Wk_Γ, Wk_C, Bool.false_and]
      exact ⟨_, _, rfl⟩
    | true =>
      have hf0 := hf r rm hb
      simp only [e_int, e_str, e_bl, e_non, e_glob, vr_v, vr_o, e_var, kBin2_ap, kBin1_ap, e_bin, kNeg_ap, e_neg, kNot_ap, e_nott, kAnd_ap, e_and, kOr_ap, e_or, kCmp2_ap, kCmp1_ap, e_cmp, kCh3_ap, kCh2_ap, kCh1_ap, e_cmp2, kIte_ap, e_ite, kTup_ap, e_tup, kLst_ap, e_lst, kSub2_ap, kSub1_ap, e_sub, kSlc3_ap, kSlc2_ap, kSlc1_ap, e_slc, kSlL2_ap, kSlL1_ap, e_slcL, kSlH2_ap, kSlH1_ap, e_slcH, kRev_ap, e_rev, kCall_ap, e_call, kBi_ap, e_bi, kIsi_ap, e_isi, kMu_ap, e_mu, kPm2_ap, kPm1_ap, e_pm, kTn3_ap, kTn2_ap, kTn1_ap, kCE_ap, kComp_ap, e_comp, kTNot_ap, t_nott, kTAnd_ap, t_and, kTOr_ap, t_or, kTVal_ap, t_val, s_nil, kS3_ap, kS2_ap, kS1_ap, s_cons, r_nil, kRr2_ap, kRr1_ap, r_cons, c_nil, kCa_ap, kC2_ap, kC1f_ap, kC1t_ap, c_f, c_t, f_nil, kF_ap, f_cons, kI2_ap, kI1_ap, i_seq, kEn2_ap, kEn1_ap, i_enum, kG1_ap, i_rng1, kG2b_ap, kG2a_ap, i_rng2, st_v, st_o, kSt_ap, st_s, x_nm, kA2_ap, kA1_ap, x_tp, kPar_ap, x_par, kExp_ap, x_exp, kIf_ap, x_ife, kFor_ap, x_for, x_whl, kRet_ap, x_ret, x_retN, x_brk, x_cnt, x_pass, xs_nil, xs_cons, fo_nx, fo_ret, bind_ok_, st_ok_, opd_v, opd_s, opd_o, seq_nx, seq_ret, seq_brk, seq_cnt, optR, optV, optB, view, views, fin, lent, isO, setTg, setAll, setCA, kd, wipes, unwipe, frz, binOp, muOp, truth, seqOf, isNone, callF, lend, slots, back, isLent, List.map_cons, List.map_nil, List.length_cons, List.length_nil, List.cons_append, List.nil_append, List.replicate, Nat.reduceAdd, Nat.reduceSub, List.getElem?_cons_zero, List.getElem?_cons_succ, List.set_cons_zero, List.set_cons_succ, List.getD_cons_zero, List.getD_cons_succ, if_true, if_false, reduceIte, Option.map_some, Option.map_none, List.filterMap_nil, List.filterMap_cons, List.nodup_nil, id_eq, Bool.false_eq_true, nodup1, Wk_Γ, Wk_C, l21, slcH_tx hL, hf0, Bool.true_and]
      cases hfit : fit r m (lastS t m) with
      | false =>
        simp only [e_int, e_str, e_bl, e_non, e_glob, vr_v, vr_o, e_var, kBin2_ap, kBin1_ap, e_bin, kNeg_ap, e_neg, kNot_ap, e_nott, kAnd_ap, e_and, kOr_ap, e_or, kCmp2_ap, kCmp1_ap, e_cmp, kCh3_ap, kCh2_ap, kCh1_ap, e_cmp2, kIte_ap, e_ite, kTup_ap, e_tup, kLst_ap, e_lst, kSub2_ap, kSub1_ap, e_sub, kSlc3_ap, kSlc2_ap, kSlc1_ap, e_slc, kSlL2_ap, kSlL1_ap, e_slcL, kSlH2_ap, kSlH1_ap, e_slcH, kRev_ap, e_rev, kCall_ap, e_call, kBi_ap, e_bi, kIsi_ap, e_isi, kMu_ap, e_mu, kPm2_ap, kPm1_ap, e_pm, kTn3_ap, kTn2_ap, kTn1_ap, kCE_ap, kComp_ap, e_comp, kTNot_ap, t_nott, kTAnd_ap, t_and, kTOr_ap, t_or, kTVal_ap, t_val, s_nil, kS3_ap, kS2_ap, kS1_ap, s_cons, r_nil, kRr2_ap, kRr1_ap, r_cons, c_nil, kCa_ap, kC2_ap, kC1f_ap, kC1t_ap, c_f, c_t, f_nil, kF_ap, f_cons, kI2_ap, kI1_ap, i_seq, kEn2_ap, kEn1_ap, i_enum, kG1_ap, i_rng1, kG2b_ap, kG2a_ap, i_rng2, st_v, st_o, kSt_ap, st_s, x_nm, kA2_ap, kA1_ap, x_tp, kPar_ap, x_par, kExp_ap, x_exp, kIf_ap, x_ife, kFor_ap, x_for, x_whl, kRet_ap, x_ret, x_retN, x_brk, x_cnt, x_pass, xs_nil, xs_cons, fo_nx, fo_ret, bind_ok_, st_ok_, opd_v, opd_s, opd_o, seq_nx, seq_ret, seq_brk, seq_cnt, optR, optV, optB, view, views, fin, lent, isO, setTg, setAll, setCA, kd, wipes, unwipe, frz, binOp, muOp, truth, seqOf, isNone, callF, lend, slots, back, isLent, List.map_cons, List.map_nil, List.length_cons, List.length_nil, List.cons_append, List.nil_append, List.replicate, Nat.reduceAdd, Nat.reduceSub, List.getElem?_cons_zero, List.getElem?_cons_succ, List.set_cons_zero, List.set_cons_succ, List.getD_cons_zero, List.getD_cons_succ, if_true, if_false, reduceIte, Option.map_some, Option.map_none, List.filterMap_nil, List.filterMap_cons, List.nodup_nil, id_eq, Bool.false_eq_true, nodup1, Wk_Γ, Wk_C, Bool.false_and]
        exact ⟨_, _, rfl⟩
      | true =>
        simp only [e_int, e_str, e_bl, e_non, e_glob, vr_v, vr_o, e_var, kBin2_ap, kBin1_ap, e_bin, kNeg_ap, e_neg, kNot_ap, e_nott, kAnd_ap, e_and, kOr_ap, e_or, kCmp2_ap, kCmp1_ap, e_cmp, kCh3_ap, kCh2_ap, kCh1_ap, e_cmp2, kIte_ap, e_ite, kTup_ap, e_tup, kLst_ap, e_lst, kSub2_ap, kSub1_ap, e_sub, kSlc3_ap, kSlc2_ap, kSlc1_ap, e_slc, kSlL2_ap, kSlL1_ap, e_slcL, kSlH2_ap, kSlH1_ap, e_slcH, kRev_ap, e_rev, kCall_ap, e_call, kBi_ap, e_bi, kIsi_ap, e_isi, kMu_ap, e_mu, kPm2_ap, kPm1_ap, e_pm, kTn3_ap, kTn2_ap, kTn1_ap, kCE_ap, kComp_ap, e_comp, kTNot_ap, t_nott, kTAnd_ap, t_and, kTOr_ap, t_or, kTVal_ap, t_val, s_nil, kS3_ap, kS2_ap, kS1_ap, s_cons, r_nil, kRr2_ap, kRr1_ap, r_cons, c_nil, kCa_ap, kC2_ap, kC1f_ap, kC1t_ap, c_f, c_t, f_nil, kF_ap, f_cons, kI2_ap, kI1_ap, i_seq, kEn2_ap, kEn1_ap, i_enum, kG1_ap, i_rng1, kG2b_ap, kG2a_ap, i_rng2, st_v, st_o, kSt_ap, st_s, x_nm, kA2_ap, kA1_ap, x_tp, kPar_ap, x_par, kExp_ap, x_exp, kIf_ap, x_ife, kFor_ap, x_for, x_whl, kRet_ap, x_ret, x_retN, x_brk, x_cnt, x_pass, xs_nil, xs_cons, fo_nx, fo_ret, bind_ok_, st_ok_, opd_v, opd_s, opd_o, seq_nx, seq_ret, seq_brk, seq_cnt, optR, optV, optB, view, views, fin, lent, isO, setTg, setAll, setCA, kd, wipes, unwipe, frz, binOp, muOp, truth, seqOf, isNone, callF, lend, slots, back, isLent, List.map_cons, List.map_nil, List.length_cons, List.length_nil, List.cons_append, List.nil_append, List.replicate, Nat.reduceAdd, Nat.reduceSub, List.getElem?_cons_zero, List.getElem?_cons_succ, List.set_cons_zero, List.set_cons_succ, List.getD_cons_zero, List.getD_cons_succ, if_true, if_false, reduceIte, Option.map_some, Option.map_none, List.filterMap_nil, List.filterMap_cons, List.nodup_nil, id_eq, Bool.false_eq_true, nodup1, Wk_Γ, Wk_C, hkin, hin, Bool.true_and]
        cases hd : !decide (r.kind ∈ kds q (rs.take i)) with
        | false =>
          simp only [e_int, e_str, e_bl, e_non, e_glob, vr_v, vr_o, e_var, kBin2_ap, kBin1_ap, e_bin, kNeg_ap, e_neg, kNot_ap, e_nott, kAnd_ap, e_and, kOr_ap, e_or, kCmp2_ap, kCmp1_ap, e_cmp, kCh3_ap, kCh2_ap, kCh1_ap, e_cmp2, kIte_ap, e_ite, kTup_ap, e_tup, kLst_ap, e_lst, kSub2_ap, kSub1_ap, e_sub, kSlc3_ap, kSlc2_ap, kSlc1_ap, e_slc, kSlL2_ap, kSlL1_ap, e_slcL, kSlH2_ap, kSlH1_ap, e_slcH, kRev_ap, e_rev, kCall_ap, e_call, kBi_ap, e_bi, kIsi_ap, e_isi, kMu_ap, e_mu, kPm2_ap, kPm1_ap, e_pm, kTn3_ap, kTn2_ap, kTn1_ap, kCE_ap, kComp_ap, e_comp, kTNot_ap, t_nott, kTAnd_ap, t_and, kTOr_ap, t_or, kTVal_ap, t_val, s_nil, kS3_ap, kS2_ap, kS1_ap, s_cons, r_nil, kRr2_ap, kRr1_ap, r_cons, c_nil, kCa_ap, kC2_ap, kC1f_ap, kC1t_ap, c_f, c_t, f_nil, kF_ap, f_cons, kI2_ap, kI1_ap, i_seq, kEn2_ap, kEn1_ap, i_enum, kG1_ap, i_rng1, kG2b_ap, kG2a_ap, i_rng2, st_v, st_o, kSt_ap, st_s, x_nm, kA2_ap, kA1_ap, x_tp, kPar_ap, x_par, kExp_ap, x_exp, kIf_ap, x_ife, kFor_ap, x_for, x_whl, kRet_ap, x_ret, x_retN, x_brk, x_cnt, x_pass, xs_nil, xs_cons, fo_nx, fo_ret, bind_ok_, st_ok_, opd_v, opd_s, opd_o, seq_nx, seq_ret, seq_brk, seq_cnt, optR, optV, optB, view, views, fin, lent, isO, setTg, setAll, setCA, kd, wipes, unwipe, frz, binOp, muOp, truth, seqOf, isNone, callF, lend, slots, back, isLent, List.map_cons, List.map_nil, List.length_cons, List.length_nil, List.cons_append, List.nil_append, List.replicate, Nat.reduceAdd, Nat.reduceSub, List.getElem?_cons_zero, List.getElem?_cons_succ, List.set_cons_zero, List.set_cons_succ, List.getD_cons_zero, List.getD_cons_succ, if_true, if_false, reduceIte, Option.map_some, Option.map_none, List.filterMap_nil, List.filterMap_cons, List.nodup_nil, id_eq, Bool.false_eq_true, nodup1, Wk_Γ, Wk_C, hd]
          exact ⟨_, _, rfl⟩
        | true =>
          simp only [e_int, e_str, e_bl, e_non, e_glob, vr_v, vr_o, e_var, kBin2_ap, kBin1_ap, e_bin, kNeg_ap, e_neg, kNot_ap, e_nott, kAnd_ap, e_and, kOr_ap, e_or, kCmp2_ap, kCmp1_ap, e_cmp, kCh3_ap, kCh2_ap, kCh1_ap, e_cmp2, kIte_ap, e_ite, kTup_ap, e_tup, kLst_ap, e_lst, kSub2_ap, kSub1_ap, e_sub, kSlc3_ap, kSlc2_ap, kSlc1_ap, e_slc, kSlL2_ap, kSlL1_ap, e_slcL, kSlH2_ap, kSlH1_ap, e_slcH, kRev_ap, e_rev, kCall_ap, e_call, kBi_ap, e_bi, kIsi_ap, e_isi, kMu_ap, e_mu, kPm2_ap, kPm1_ap, e_pm, kTn3_ap, kTn2_ap, kTn1_ap, kCE_ap, kComp_ap, e_comp, kTNot_ap, t_nott, kTAnd_ap, t_and, kTOr_ap, t_or, kTVal_ap, t_val, s_nil, kS3_ap, kS2_ap, kS1_ap, s_cons, r_nil, kRr2_ap, kRr1_ap, r_cons, c_nil, kCa_ap, kC2_ap, kC1f_ap, kC1t_ap, c_f, c_t, f_nil, kF_ap, f_cons, kI2_ap, kI1_ap, i_seq, kEn2_ap, kEn1_ap, i_enum, kG1_ap, i_rng1, kG2b_ap, kG2a_ap, i_rng2, st_v, st_o, kSt_ap, st_s, x_nm, kA2_ap, kA1_ap, x_tp, kPar_ap, x_par, kExp_ap, x_exp, kIf_ap, x_ife, kFor_ap, x_for, x_whl, kRet_ap, x_ret, x_retN, x_brk, x_cnt, x_pass, xs_nil, xs_cons, fo_nx, fo_ret, bind_ok_, st_ok_, opd_v, opd_s, opd_o, seq_nx, seq_ret, seq_brk, seq_cnt, optR, optV, optB, view, views, fin, lent, isO, setTg, setAll, setCA, kd, wipes, unwipe, frz, binOp, muOp, truth, seqOf, isNone, callF, lend, slots, back, isLent, List.map_cons, List.map_nil, List.length_cons, List.length_nil, List.cons_append, List.nil_append, List.replicate, Nat.reduceAdd, Nat.reduceSub, List.getElem?_cons_zero, List.getElem?_cons_succ, List.set_cons_zero, List.set_cons_succ, List.getD_cons_zero, List.getD_cons_succ, if_true, if_false, reduceIte, Option.map_some, Option.map_none, List.filterMap_nil, List.filterMap_cons, List.nodup_nil, id_eq, Bool.false_eq_true, nodup1, Wk_Γ, Wk_C, hd, hkin, hLk, List.map_append]
          exact ⟨_, _, rfl⟩
  · rintro ρ ⟨x, y, rfl⟩
    rw [rng1L_len, Int.toNat_natCast, List.take_length]
    have e : biOp .tuple_ [.list ((kds q rs).map Tx)] = some (.v (.tuple ((kds q rs).map Tx))) := rfl
    simp only [e_int, e_str, e_bl, e_non, e_glob, vr_v, vr_o, e_var, kBin2_ap, kBin1_ap, e_bin, kNeg_ap, e_neg, kNot_ap, e_nott, kAnd_ap, e_and, kOr_ap, e_or, kCmp2_ap, kCmp1_ap, e_cmp, kCh3_ap, kCh2_ap, kCh1_ap, e_cmp2, kIte_ap, e_ite, kTup_ap, e_tup, kLst_ap, e_lst, kSub2_ap, kSub1_ap, e_sub, kSlc3_ap, kSlc2_ap, kSlc1_ap, e_slc, kSlL2_ap, kSlL1_ap, e_slcL, kSlH2_ap, kSlH1_ap, e_slcH, kRev_ap, e_rev, kCall_ap, e_call, kBi_ap, e_bi, kIsi_ap, e_isi, kMu_ap, e_mu, kPm2_ap, kPm1_ap, e_pm, kTn3_ap, kTn2_ap, kTn1_ap, kCE_ap, kComp_ap, e_comp, kTNot_ap, t_nott, kTAnd_ap, t_and, kTOr_ap, t_or, kTVal_ap, t_val, s_nil, kS3_ap, kS2_ap, kS1_ap, s_cons, r_nil, kRr2_ap, kRr1_ap, r_cons, c_nil, kCa_ap, kC2_ap, kC1f_ap, kC1t_ap, c_f, c_t, f_nil, kF_ap, f_cons, kI2_ap, kI1_ap, i_seq, kEn2_ap, kEn1_ap, i_enum, kG1_ap, i_rng1, kG2b_ap, kG2a_ap, i_rng2, st_v, st_o, kSt_ap, st_s, x_nm, kA2_ap, kA1_ap, x_tp, kPar_ap, x_par, kExp_ap, x_exp, kIf_ap, x_ife, kFor_ap, x_for, x_whl, kRet_ap, x_ret, x_retN, x_brk, x_cnt, x_pass, xs_nil, xs_cons, fo_nx, fo_ret, bind_ok_, st_ok_, opd_v, opd_s, opd_o, seq_nx, seq_ret, seq_brk, seq_cnt, optR, optV, optB, view, views, fin, lent, isO, setTg, setAll, setCA, kd, wipes, unwipe, frz, binOp, muOp, truth, seqOf, isNone, callF, lend, slots, back, isLent, List.map_cons, List.map_nil, List.length_cons, List.length_nil, List.cons_append, List.nil_append, List.replicate, Nat.reduceAdd, Nat.reduceSub, List.getElem?_cons_zero, List.getElem?_cons_succ, List.set_cons_zero, List.set_cons_succ, List.getD_cons_zero, List.getD_cons_succ, if_true, if_false, reduceIte, Option.map_some, Option.map_none, List.filterMap_nil, List.filterMap_cons, List.nodup_nil, id_eq, Bool.false_eq_true, nodup1, Wk_Γ, Wk_C, e]
end W6

set_option Elab.async false
set_option linter.all false
set_option maxRecDepth 100000
set_option maxHeartbeats 4000000
/-! K06j: told as due. -/
namespace W6
open PySem Rc Lw06
structure Plain (xs : List PyData) : Prop where
  sh : SeqAt.shaped (.tuple xs) = true
  eq : PyData.eqv (.tuple xs) (.tuple xs) = true
  nb : ∀ x ∈ xs, isTy (tyOf x) "bool" = false
  len : xs.length ≤ 1000
theorem is_tup (fuel : Nat) (W : Wd) {xs : List PyData} (h : Plain xs) : runFn fuel W f_law_is [.v (.tuple xs), .v (.tuple xs)] = .v (.bool true) [] := by
  have e1 : cmpOp .Is (.tuple xs) .none = some false := rfl
  have e2 : cmpOp .Eq (.tuple xs) (.tuple xs) = some true := by
    show (if SeqAt.shaped (.tuple xs) && SeqAt.shaped (.tuple xs) then some (PyData.eqv (.tuple xs) (.tuple xs)) else none) = _
    rw [h.sh, h.eq]
    rfl
  have e3 : isTy (tyOf (.tuple xs)) "tuple" = true := rfl
  have e4 : biOp .any_ [.list (xs.map fun x => PyData.bool (isTy (tyOf x) "bool"))] = some (.v (.bool false)) := by
    have b : bools (xs.map fun x => PyData.bool (isTy (tyOf x) "bool")) = some (xs.map fun x => isTy (tyOf x) "bool") := by
      have := bools_map (xs.map fun x => isTy (tyOf x) "bool")
      rwa [List.map_map] at this
    show (bools _).map (fun bs => R.v (.bool (bs.any id))) = _
    rw [b]
    show some (R.v (.bool ((xs.map fun x => isTy (tyOf x) "bool").any id))) = _
    congr 2
    congr 1
    rw [List.any_map, List.any_eq_false]
    intro x hx
    show ¬ isTy (tyOf x) "bool" = true
    rw [h.nb x hx]
    exact Bool.false_ne_true
  unfold f_law_is runFn
  simp only [e_int, e_str, e_bl, e_non, e_glob, vr_v, vr_o, e_var, kBin2_ap, kBin1_ap, e_bin, kNeg_ap, e_neg, kNot_ap, e_nott, kAnd_ap, e_and, kOr_ap, e_or, kCmp2_ap, kCmp1_ap, e_cmp, kCh3_ap, kCh2_ap, kCh1_ap, e_cmp2, kIte_ap, e_ite, kTup_ap, e_tup, kLst_ap, e_lst, kSub2_ap, kSub1_ap, e_sub, kSlc3_ap, kSlc2_ap, kSlc1_ap, e_slc, kSlL2_ap, kSlL1_ap, e_slcL, kSlH2_ap, kSlH1_ap, e_slcH, kRev_ap, e_rev, kCall_ap, e_call, kBi_ap, e_bi, kIsi_ap, e_isi, kMu_ap, e_mu, kPm2_ap, kPm1_ap, e_pm, kTn3_ap, kTn2_ap, kTn1_ap, kCE_ap, kComp_ap, e_comp, kTNot_ap, t_nott, kTAnd_ap, t_and, kTOr_ap, t_or, kTVal_ap, t_val, s_nil, kS3_ap, kS2_ap, kS1_ap, s_cons, r_nil, kRr2_ap, kRr1_ap, r_cons, c_nil, kCa_ap, kC2_ap, kC1f_ap, kC1t_ap, c_f, c_t, f_nil, kF_ap, f_cons, kI2_ap, kI1_ap, i_seq, kEn2_ap, kEn1_ap, i_enum, kG1_ap, i_rng1, kG2b_ap, kG2a_ap, i_rng2, st_v, st_o, kSt_ap, st_s, x_nm, kA2_ap, kA1_ap, x_tp, kPar_ap, x_par, kExp_ap, x_exp, kIf_ap, x_ife, kFor_ap, x_for, x_whl, kRet_ap, x_ret, x_retN, x_brk, x_cnt, x_pass, xs_nil, xs_cons, fo_nx, fo_ret, bind_ok_, st_ok_, opd_v, opd_s, opd_o, seq_nx, seq_ret, seq_brk, seq_cnt, optR, optV, optB, view, views, fin, lent, isO, setTg, setAll, setCA, kd, wipes, unwipe, frz, binOp, muOp, truth, seqOf, isNone, callF, lend, slots, back, isLent, List.map_cons, List.map_nil, List.length_cons, List.length_nil, List.cons_append, List.nil_append, List.replicate, Nat.reduceAdd, Nat.reduceSub, List.getElem?_cons_zero, List.getElem?_cons_succ, List.set_cons_zero, List.set_cons_succ, List.getD_cons_zero, List.getD_cons_succ, if_true, if_false, reduceIte, Option.map_some, Option.map_none, List.filterMap_nil, List.filterMap_cons, List.nodup_nil, id_eq, Bool.false_eq_true, nodup1, Wk_Γ, Wk_C, e1, e2, e3]
  rw [compL_eq (g := fun x => some (.bool (isTy (tyOf x) "bool"))) _ _ ?h1 (by rw [List.length_nil, Nat.zero_add]; exact Nat.le_trans h.len (by decide))]
  case h1 =>
    intro x hx
    simp only [turnC_ap, e_int, e_str, e_bl, e_non, e_glob, vr_v, vr_o, e_var, kBin2_ap, kBin1_ap, e_bin, kNeg_ap, e_neg, kNot_ap, e_nott, kAnd_ap, e_and, kOr_ap, e_or, kCmp2_ap, kCmp1_ap, e_cmp, kCh3_ap, kCh2_ap, kCh1_ap, e_cmp2, kIte_ap, e_ite, kTup_ap, e_tup, kLst_ap, e_lst, kSub2_ap, kSub1_ap, e_sub, kSlc3_ap, kSlc2_ap, kSlc1_ap, e_slc, kSlL2_ap, kSlL1_ap, e_slcL, kSlH2_ap, kSlH1_ap, e_slcH, kRev_ap, e_rev, kCall_ap, e_call, kBi_ap, e_bi, kIsi_ap, e_isi, kMu_ap, e_mu, kPm2_ap, kPm1_ap, e_pm, kTn3_ap, kTn2_ap, kTn1_ap, kCE_ap, kComp_ap, e_comp, kTNot_ap, t_nott, kTAnd_ap, t_and, kTOr_ap, t_or, kTVal_ap, t_val, s_nil, kS3_ap, kS2_ap, kS1_ap, s_cons, r_nil, kRr2_ap, kRr1_ap, r_cons, c_nil, kCa_ap, kC2_ap, kC1f_ap, kC1t_ap, c_f, c_t, f_nil, kF_ap, f_cons, kI2_ap, kI1_ap, i_seq, kEn2_ap, kEn1_ap, i_enum, kG1_ap, i_rng1, kG2b_ap, kG2a_ap, i_rng2, st_v, st_o, kSt_ap, st_s, x_nm, kA2_ap, kA1_ap, x_tp, kPar_ap, x_par, kExp_ap, x_exp, kIf_ap, x_ife, kFor_ap, x_for, x_whl, kRet_ap, x_ret, x_retN, x_brk, x_cnt, x_pass, xs_nil, xs_cons, fo_nx, fo_ret, bind_ok_, st_ok_, opd_v, opd_s, opd_o, seq_nx, seq_ret, seq_brk, seq_cnt, optR, optV, optB, view, views, fin, lent, isO, setTg, setAll, setCA, kd, wipes, unwipe, frz, binOp, muOp, truth, seqOf, isNone, callF, lend, slots, back, isLent, List.map_cons, List.map_nil, List.length_cons, List.length_nil, List.cons_append, List.nil_append, List.replicate, Nat.reduceAdd, Nat.reduceSub, List.getElem?_cons_zero, List.getElem?_cons_succ, List.set_cons_zero, List.set_cons_succ, List.getD_cons_zero, List.getD_cons_succ, if_true, if_false, reduceIte, Option.map_some, Option.map_none, List.filterMap_nil, List.filterMap_cons, List.nodup_nil, id_eq, Bool.false_eq_true, nodup1, Wk_Γ, Wk_C]
  have ef : xs.filterMap (fun x => some (PyData.bool (isTy (tyOf x) "bool"))) = xs.map fun x => PyData.bool (isTy (tyOf x) "bool") := by
    rw [← List.filterMap_eq_map]
    rfl
  rw [ef]
  simp only [e_int, e_str, e_bl, e_non, e_glob, vr_v, vr_o, e_var, kBin2_ap, kBin1_ap, e_bin, kNeg_ap, e_neg, kNot_ap, e_nott, kAnd_ap, e_and, kOr_ap, e_or, kCmp2_ap, kCmp1_ap, e_cmp, kCh3_ap, kCh2_ap, kCh1_ap, e_cmp2, kIte_ap, e_ite, kTup_ap, e_tup, kLst_ap, e_lst, kSub2_ap, kSub1_ap, e_sub, kSlc3_ap, kSlc2_ap, kSlc1_ap, e_slc, kSlL2_ap, kSlL1_ap, e_slcL, kSlH2_ap, kSlH1_ap, e_slcH, kRev_ap, e_rev, kCall_ap, e_call, kBi_ap, e_bi, kIsi_ap, e_isi, kMu_ap, e_mu, kPm2_ap, kPm1_ap, e_pm, kTn3_ap, kTn2_ap, kTn1_ap, kCE_ap, kComp_ap, e_comp, kTNot_ap, t_nott, kTAnd_ap, t_and, kTOr_ap, t_or, kTVal_ap, t_val, s_nil, kS3_ap, kS2_ap, kS1_ap, s_cons, r_nil, kRr2_ap, kRr1_ap, r_cons, c_nil, kCa_ap, kC2_ap, kC1f_ap, kC1t_ap, c_f, c_t, f_nil, kF_ap, f_cons, kI2_ap, kI1_ap, i_seq, kEn2_ap, kEn1_ap, i_enum, kG1_ap, i_rng1, kG2b_ap, kG2a_ap, i_rng2, st_v, st_o, kSt_ap, st_s, x_nm, kA2_ap, kA1_ap, x_tp, kPar_ap, x_par, kExp_ap, x_exp, kIf_ap, x_ife, kFor_ap, x_for, x_whl, kRet_ap, x_ret, x_retN, x_brk, x_cnt, x_pass, xs_nil, xs_cons, fo_nx, fo_ret, bind_ok_, st_ok_, opd_v, opd_s, opd_o, seq_nx, seq_ret, seq_brk, seq_cnt, optR, optV, optB, view, views, fin, lent, isO, setTg, setAll, setCA, kd, wipes, unwipe, frz, binOp, muOp, truth, seqOf, isNone, callF, lend, slots, back, isLent, List.map_cons, List.map_nil, List.length_cons, List.length_nil, List.cons_append, List.nil_append, List.replicate, Nat.reduceAdd, Nat.reduceSub, List.getElem?_cons_zero, List.getElem?_cons_succ, List.set_cons_zero, List.set_cons_succ, List.getD_cons_zero, List.getD_cons_succ, if_true, if_false, reduceIte, Option.map_some, Option.map_none, List.filterMap_nil, List.filterMap_cons, List.nodup_nil, id_eq, Bool.false_eq_true, nodup1, Wk_Γ, Wk_C, e4, Bool.not_false]
theorem is_none (fuel : Nat) (W : Wd) : runFn fuel W f_law_is [.v .none, .v .none] = .v (.bool true) [] := by
  have e1 : cmpOp .Is .none .none = some true := rfl
  unfold f_law_is runFn
  simp only [e_int, e_str, e_bl, e_non, e_glob, vr_v, vr_o, e_var, kBin2_ap, kBin1_ap, e_bin, kNeg_ap, e_neg, kNot_ap, e_nott, kAnd_ap, e_and, kOr_ap, e_or, kCmp2_ap, kCmp1_ap, e_cmp, kCh3_ap, kCh2_ap, kCh1_ap, e_cmp2, kIte_ap, e_ite, kTup_ap, e_tup, kLst_ap, e_lst, kSub2_ap, kSub1_ap, e_sub, kSlc3_ap, kSlc2_ap, kSlc1_ap, e_slc, kSlL2_ap, kSlL1_ap, e_slcL, kSlH2_ap, kSlH1_ap, e_slcH, kRev_ap, e_rev, kCall_ap, e_call, kBi_ap, e_bi, kIsi_ap, e_isi, kMu_ap, e_mu, kPm2_ap, kPm1_ap, e_pm, kTn3_ap, kTn2_ap, kTn1_ap, kCE_ap, kComp_ap, e_comp, kTNot_ap, t_nott, kTAnd_ap, t_and, kTOr_ap, t_or, kTVal_ap, t_val, s_nil, kS3_ap, kS2_ap, kS1_ap, s_cons, r_nil, kRr2_ap, kRr1_ap, r_cons, c_nil, kCa_ap, kC2_ap, kC1f_ap, kC1t_ap, c_f, c_t, f_nil, kF_ap, f_cons, kI2_ap, kI1_ap, i_seq, kEn2_ap, kEn1_ap, i_enum, kG1_ap, i_rng1, kG2b_ap, kG2a_ap, i_rng2, st_v, st_o, kSt_ap, st_s, x_nm, kA2_ap, kA1_ap, x_tp, kPar_ap, x_par, kExp_ap, x_exp, kIf_ap, x_ife, kFor_ap, x_for, x_whl, kRet_ap, x_ret, x_retN, x_brk, x_cnt, x_pass, xs_nil, xs_cons, fo_nx, fo_ret, bind_ok_, st_ok_, opd_v, opd_s, opd_o, seq_nx, seq_ret, seq_brk, seq_cnt, optR, optV, optB, view, views, fin, lent, isO, setTg, setAll, setCA, kd, wipes, unwipe, frz, binOp, muOp, truth, seqOf, isNone, callF, lend, slots, back, isLent, List.map_cons, List.map_nil, List.length_cons, List.length_nil, List.cons_append, List.nil_append, List.replicate, Nat.reduceAdd, Nat.reduceSub, List.getElem?_cons_zero, List.getElem?_cons_succ, List.set_cons_zero, List.set_cons_succ, List.getD_cons_zero, List.getD_cons_succ, if_true, if_false, reduceIte, Option.map_some, Option.map_none, List.filterMap_nil, List.filterMap_cons, List.nodup_nil, id_eq, Bool.false_eq_true, nodup1, Wk_Γ, Wk_C, e1]
theorem plain3 (a b c : Nat) : Plain [.int (a : Nat), .int (b : Nat), .int (c : Nat)] := by
  refine ⟨rfl, ?_, fun x hx => ?_, by simp⟩
  · show (((a : Int) == a) && (((b : Int) == b) && (((c : Int) == c) && true))) = true
    simp
  · simp only [List.mem_cons, List.not_mem_nil, or_false] at hx
    rcases hx with rfl | rfl | rfl <;> rfl
theorem eqvAll_tx : ∀ ks : List (List Nat), PyData.eqvAll (ks.map Tx) (ks.map Tx) = true
  | [] => rfl
  | k :: ks => by
    show (PyData.eqv (Tx k) (Tx k) && PyData.eqvAll (ks.map Tx) (ks.map Tx)) = true
    rw [eqvAll_tx ks, eqv_tx]
    simp
theorem plainT {ks : List (List Nat)} (h : ∀ l ∈ ks, PyData.strOk (tx l) = true) (hl : ks.length ≤ 1000) : Plain (ks.map Tx) := by
  refine ⟨?_, eqvAll_tx ks, fun x hx => ?_, by rw [List.length_map]; exact hl⟩
  · unfold SeqAt.shaped
    rw [Bool.and_eq_true]
    have d := depth_tx ks
    refine ⟨canAll_tx h, decide_eq_true ?_⟩
    show PyData.depthAll (ks.map Tx) + 1 ≤ 64
    omega
  · obtain ⟨k, _, rfl⟩ := List.mem_map.mp hx
    rfl
theorem is_due (fuel : Nat) (W : Wd) (rs : List Rul) (t : List Nat) (m : Nat) : runFn fuel W f_law_is [.v (due rs t m), .v (due rs t m)] = .v (.bool true) [] := by
  unfold due res3
  by_cases h : bord rs t m = 0
  · rw [if_pos h]
    exact is_none fuel W
  · rw [if_neg h]
    exact is_tup fuel W (plain3 _ _ _)
end W6

set_option Elab.async false
set_option linter.all false
set_option maxRecDepth 100000
set_option maxHeartbeats 4000000
/-! K06k: the law's walk of a text. -/
namespace W6
open PySem Rc Lw06
theorem compL_two {turn : PyData → Rc.Env → Out (Option PyData)} {ρ : Rc.Env} : ∀ (xs ys acc : List PyData), xs.length = ys.length → (∀ (i : Nat) (x y : PyData), xs[i]? = some x → ys[i]? = some y → turn x ρ = .ok (some y) ρ) → acc.length + xs.length ≤ Lm → compL turn xs acc ρ = .ok (acc ++ ys) ρ
  | [], [], acc, _, _, _ => by rw [List.append_nil]; rfl
  | [], _ :: _, _, h, _, _ => by cases h
  | _ :: _, [], _, h, _, _ => by cases h
  | x :: xs, y :: ys, acc, hl, h, hb => by
    show ((turn x ρ).bind fun r ρ' => match r with
      | none => compL turn xs acc ρ'
      | some d => if acc.length < Lm then compL turn xs (acc ++ [d]) ρ' else .bad) = _
    rw [h 0 x y rfl rfl]
    rw [List.length_cons] at hb
    show (if acc.length < Lm then compL turn xs (acc ++ [y]) ρ else .bad) = _
    rw [if_pos (by omega), compL_two xs ys (acc ++ [y]) (by simpa using hl) (fun i a b ha hb => h (i + 1) a b (by simpa using ha) (by simpa using hb)) (by rw [List.length_append]; simp only [List.length_cons, List.length_nil]; omega), List.append_assoc]
    rfl
theorem bn_take {r : Rul} {t : List Nat} {n : Nat} : ∀ {m : Nat}, m ≤ n → bn r (t.take n) m = bn r t m
  | 0, _ => rfl
  | m + 1, h => by
    have e : (t.take n)[m]? = t[m]? := List.getElem?_take_of_lt (by omega)
    show (bn r (t.take n) m && _) = (bn r t m && _)
    rw [bn_take (show m ≤ n by omega), e]
theorem lens_of {g : Rul → List Nat → PyData → Prop} {t : List Nat} : ∀ {rs : List Rul}, (∀ r ∈ rs, ∃ n : Nat, g r t (.int (n : Nat)) ∧ IsLen r t n) → ∃ ls : List Nat, Lens rs t ls ∧ ∀ (i : Nat) (r : Rul) (n : Nat), rs[i]? = some r → ls[i]? = some n → g r t (.int (n : Nat))
  | [], _ => ⟨[], ⟨rfl, fun i r h => by simp at h⟩, fun i r n h => by simp at h⟩
  | r :: rs, h => by
    obtain ⟨n, h1, h2⟩ := h r List.mem_cons_self
    obtain ⟨ls, ⟨h3, h4⟩, h5⟩ := lens_of (rs := rs) fun r hr => h r (List.mem_cons_of_mem _ hr)
    refine ⟨n :: ls, ⟨by rw [List.length_cons, List.length_cons, h3], fun i x hx => ?_⟩, fun i x k hx hk => ?_⟩
    · cases i with
      | zero =>
        cases (show some r = some x from hx)
        exact ⟨n, rfl, h2⟩
      | succ i => exact h4 i x (by simpa using hx)
    · cases i with
      | zero =>
        cases (show some r = some x from hx)
        cases (show some n = some k from hk)
        exact h1
      | succ i => exact h5 i x k (by simpa using hx) (by simpa using hk)
theorem rng_get {lo : Int} {n i : Nat} {x : PyData} (h : (rng lo n 1)[i]? = some x) : x = .int (lo + (i : Int) * 1) ∧ i < n := by
  unfold rng at h
  rw [List.getElem?_map] at h
  obtain ⟨k, h1, h2⟩ := Option.map_eq_some_iff.mp h
  obtain ⟨hl, h3⟩ := List.getElem?_eq_some_iff.mp h1
  rw [List.length_range] at hl
  rw [List.getElem_range] at h3
  subst h3
  exact ⟨h2.symm, hl⟩
theorem rng_len (lo : Int) (n : Nat) (c : Int) : (rng lo n c).length = n := by
  unfold rng
  rw [List.length_map, List.length_range]
/-- what the walk of t asks of the other defs -/
structure Hyp (W : Wd) (rs : List Rul) (t : List Nat) : Prop where
  l4 : W.lm 22 = [false, false]
  l5 : W.lm 23 = [false, false, false]
  l6 : W.lm 24 = [false, false]
  l7 : W.lm 25 = [false, false]
  l14 : W.lm 6 = [false, false]
  l20 : W.lm 12 = [false, false]
  l22 : W.lm 14 = [false, false, false, false]
  l23 : W.lm 15 = [false, false, false, false]
  g4 : ∀ s, t[0]? = some s → W.Γ 22 [.v (rulesD rs), .v (Tx [s])] = .v (due rs t 1) []
  g5 : ∀ m s, m ≠ 0 → t[m]? = some s → bord rs t m ≠ 0 → W.Γ 23 [.v (rulesD rs), .v (due rs t m), .v (Tx [s])] = .v (due rs t (m + 1)) []
  g6 : ∀ m, m ≠ 0 → m ≤ t.length → bord rs t m ≠ 0 → W.Γ 24 [.v (rulesD rs), .v (due rs t m)] = .v (.tuple ((kds (fun r => bn r t m && fit r m (lastS t m)) rs).map Tx)) []
  g7 : W.Γ 25 [.v (rulesD rs), .v (Tx t)] = .v (.tuple ((kindsT rs t t.length).map Tx)) []
  g7t : ∀ m, m ≠ 0 → m ≤ t.length → bord rs t m = 0 → W.Γ 25 [.v (rulesD rs), .v (Tx (t.take m))] = .v (.tuple []) []
  g14 : ∀ d, ((∃ m, d = due rs t m) ∨ d = .tuple [] ∨ ∃ q, d = .tuple ((kds q rs).map Tx)) → W.Γ 6 [.v d, .v d] = .v (.bool true) []
  g20 : ∀ r ∈ rs, ∃ n : Nat, W.Γ 12 [.v (enc r), .v (Tx t)] = .v (.int (n : Nat)) [] ∧ IsLen r t n
  g22 : ∀ ls, Lens rs t ls → ∀ m, m ≠ 0 → m ≤ t.length → W.Γ 14 [.v (rulesD rs), .v (natsD ls), .v (Tx t), .v (.int (m : Nat))] = .v (due rs t m) []
  g23 : ∀ ls, Lens rs t ls → ∀ m, m ≠ 0 → m ≤ t.length → W.Γ 15 [.v (rulesD rs), .v (natsD ls), .v (Tx t), .v (.int (m : Nat))] = .v (.tuple ((kds (fun r => bn r t m && fit r m (lastS t m)) rs).map Tx)) []
end W6

set_option Elab.async false
set_option linter.all false
set_option maxRecDepth 100000
set_option maxHeartbeats 8000000
/-! K06l: the law's walk of a text holds. -/
namespace W6
open PySem Rc Lw06
theorem lt_nat (n m : Nat) : cmpOp .Lt (.int (n : Int)) (.int (m : Int)) = some (decide (n < m)) := by
  show some (ltI _ _) = _
  rw [ltI_eq]
  congr 1
  by_cases q : n < m
  · rw [decide_eq_true q, decide_eq_true (by omega)]
  · rw [decide_eq_false q, decide_eq_false (by omega)]
theorem walks_run (fuel : Nat) (W : Wd) (rs : List Rul) (h6 : rs.length ≤ 6) (t : List Nat) (h0 : t ≠ []) (hl : t.length < 900000) (H : Hyp W rs t) : runFn fuel W f_law_walks [.v (rulesD rs), .v (Tx t)] = .v (.bool true) [] := by
  have hL : t.length ≤ Lm := Nat.le_trans (Nat.le_of_lt hl) (by decide)
  obtain ⟨s0, hs0⟩ : ∃ s, t[0]? = some s := by
    cases t with
    | nil => exact absurd rfl h0
    | cons s l => exact ⟨s, rfl⟩
  have len1 : 1 ≤ t.length := by
    have := (List.getElem?_eq_some_iff.mp hs0).1
    omega
  obtain ⟨ls, hls, hg⟩ := lens_of (g := fun r t d => W.Γ 12 [.v (enc r), .v (Tx t)] = .v d []) H.g20
  have sd : small62 1 = true := rfl
  have sl : small62 ((t.length : Int) + 1) = true := within_iff.mpr (by omega)
  have ll : ls.length = rs.length := hls.1
  have rlen : (rs.map enc).length = (ls.map fun n => PyData.int (n : Nat)).length := by rw [List.length_map, List.length_map, ll]
  have comp : compL (turnC W (.call 12 (.cons (.var 6) (.cons (.var 1) .nil))) (.nm 6) .nil [6]) (rs.map enc) [] [.v (rulesD rs), .v (Tx t), .un, .un, .un, .un, .un] = .ok ([] ++ ls.map fun n => PyData.int (n : Nat)) [.v (rulesD rs), .v (Tx t), .un, .un, .un, .un, .un]   :=
    compL_two _ _ _ rlen (fun i x y hx hy => by
      rw [List.getElem?_map] at hx hy
      obtain ⟨r, hr, rfl⟩ := Option.map_eq_some_iff.mp hx
      obtain ⟨n, hn, rfl⟩ := Option.map_eq_some_iff.mp hy
      have e := hg i r n hr hn
      simp only [turnC_ap, e_int, e_str, e_bl, e_non, e_glob, vr_v, vr_o, e_var, kBin2_ap, kBin1_ap, e_bin, kNeg_ap, e_neg, kNot_ap, e_nott, kAnd_ap, e_and, kOr_ap, e_or, kCmp2_ap, kCmp1_ap, e_cmp, kCh3_ap, kCh2_ap, kCh1_ap, e_cmp2, kIte_ap, e_ite, kTup_ap, e_tup, kLst_ap, e_lst, kSub2_ap, kSub1_ap, e_sub, kSlc3_ap, kSlc2_ap, kSlc1_ap, e_slc, kSlL2_ap, kSlL1_ap, e_slcL, kSlH2_ap, kSlH1_ap, e_slcH, kRev_ap, e_rev, kCall_ap, e_call, kBi_ap, e_bi, kIsi_ap, e_isi, kMu_ap, e_mu, kPm2_ap, kPm1_ap, e_pm, kTn3_ap, kTn2_ap, kTn1_ap, kCE_ap, kComp_ap, e_comp, kTNot_ap, t_nott, kTAnd_ap, t_and, kTOr_ap, t_or, kTVal_ap, t_val, s_nil, kS3_ap, kS2_ap, kS1_ap, s_cons, r_nil, kRr2_ap, kRr1_ap, r_cons, c_nil, kCa_ap, kC2_ap, kC1f_ap, kC1t_ap, c_f, c_t, f_nil, kF_ap, f_cons, kI2_ap, kI1_ap, i_seq, kEn2_ap, kEn1_ap, i_enum, kG1_ap, i_rng1, kG2b_ap, kG2a_ap, i_rng2, st_v, st_o, kSt_ap, st_s, x_nm, kA2_ap, kA1_ap, x_tp, kPar_ap, x_par, kExp_ap, x_exp, kIf_ap, x_ife, kFor_ap, x_for, x_whl, kRet_ap, x_ret, x_retN, x_brk, x_cnt, x_pass, xs_nil, xs_cons, fo_nx, fo_ret, bind_ok_, st_ok_, opd_v, opd_s, opd_o, seq_nx, seq_ret, seq_brk, seq_cnt, optR, optV, optB, view, views, fin, lent, isO, setTg, setAll, setCA, kd, wipes, unwipe, frz, binOp, muOp, truth, seqOf, isNone, callF, lend, slots, back, isLent, List.map_cons, List.map_nil, List.length_cons, List.length_nil, List.cons_append, List.nil_append, List.replicate, Nat.reduceAdd, Nat.reduceSub, List.getElem?_cons_zero, List.getElem?_cons_succ, List.set_cons_zero, List.set_cons_succ, List.getD_cons_zero, List.getD_cons_succ, if_true, if_false, reduceIte, Option.map_some, Option.map_none, List.filterMap_nil, List.filterMap_cons, List.nodup_nil, id_eq, Bool.false_eq_true, nodup1, Wk_Γ, Wk_C, H.l20, e]) (by rw [List.length_nil, List.length_map, Nat.zero_add]; exact Nat.le_trans h6 (show 6 ≤ Lm by decide))
  have sq : seqOf (rulesD rs) = some (rs.map enc) := rfl
  have nd : (PyData.list ([] ++ ls.map fun n => PyData.int (n : Nat))) = natsD ls := rfl
  unfold f_law_walks runFn
  have nd2 : PyData.list (ls.map fun n => PyData.int (n : Nat)) = natsD ls := rfl
  have eT : ((t.length : Int) + 1 - 1).toNat = t.length := by omega
  have D : ∀ m, W.Γ 6 [.v (due rs t m), .v (due rs t m)] = .v (.bool true) [] := fun m => H.g14 _ (.inl ⟨m, rfl⟩)
  have E0 : W.Γ 6 [.v (.tuple []), .v (.tuple [])] = .v (.bool true) [] := H.g14 _ (.inr (.inl rfl))
  have Kq : ∀ q, W.Γ 6 [.v (.tuple ((kds q rs).map Tx)), .v (.tuple ((kds q rs).map Tx))] = .v (.bool true) [] := fun q => H.g14 _ (.inr (.inr ⟨q, rfl⟩))
  simp only [e_int, e_str, e_bl, e_non, e_glob, vr_v, vr_o, e_var, kBin2_ap, kBin1_ap, e_bin, kNeg_ap, e_neg, kNot_ap, e_nott, kAnd_ap, e_and, kOr_ap, e_or, kCmp2_ap, kCmp1_ap, e_cmp, kCh3_ap, kCh2_ap, kCh1_ap, e_cmp2, kIte_ap, e_ite, kTup_ap, e_tup, kLst_ap, e_lst, kSub2_ap, kSub1_ap, e_sub, kSlc3_ap, kSlc2_ap, kSlc1_ap, e_slc, kSlL2_ap, kSlL1_ap, e_slcL, kSlH2_ap, kSlH1_ap, e_slcH, kRev_ap, e_rev, kCall_ap, e_call, kBi_ap, e_bi, kIsi_ap, e_isi, kMu_ap, e_mu, kPm2_ap, kPm1_ap, e_pm, kTn3_ap, kTn2_ap, kTn1_ap, kCE_ap, kComp_ap, e_comp, kTNot_ap, t_nott, kTAnd_ap, t_and, kTOr_ap, t_or, kTVal_ap, t_val, s_nil, kS3_ap, kS2_ap, kS1_ap, s_cons, r_nil, kRr2_ap, kRr1_ap, r_cons, c_nil, kCa_ap, kC2_ap, kC1f_ap, kC1t_ap, c_f, c_t, f_nil, kF_ap, f_cons, kI2_ap, kI1_ap, i_seq, kEn2_ap, kEn1_ap, i_enum, kG1_ap, i_rng1, kG2b_ap, kG2a_ap, i_rng2, st_v, st_o, kSt_ap, st_s, x_nm, kA2_ap, kA1_ap, x_tp, kPar_ap, x_par, kExp_ap, x_exp, kIf_ap, x_ife, kFor_ap, x_for, x_whl, kRet_ap, x_ret, x_retN, x_brk, x_cnt, x_pass, xs_nil, xs_cons, fo_nx, fo_ret, bind_ok_, st_ok_, opd_v, opd_s, opd_o, seq_nx, seq_ret, seq_brk, seq_cnt, optR, optV, optB, view, views, fin, lent, isO, setTg, setAll, setCA, kd, wipes, unwipe, frz, binOp, muOp, truth, isNone, callF, lend, slots, back, isLent, List.map_cons, List.map_nil, List.length_cons, List.length_nil, List.cons_append, List.nil_append, List.replicate, Nat.reduceAdd, Nat.reduceSub, List.getElem?_cons_zero, List.getElem?_cons_succ, List.set_cons_zero, List.set_cons_succ, List.getD_cons_zero, List.getD_cons_succ, if_true, if_false, reduceIte, Option.map_some, Option.map_none, List.filterMap_nil, List.filterMap_cons, List.nodup_nil, id_eq, Bool.false_eq_true, nodup1, Wk_Γ, Wk_C, sq, comp, H.l4, tx_at0 hL hs0, H.g4 s0 hs0, len_tx hL, sd, sl, Bool.and_self, eT]
  refine forL_run (I := fun i ρ => ∃ s2 w y4 y5, ρ = [.v (rulesD rs), .v (Tx t), s2, .v w, y4, y5, .un] ∧ (s2 = .o (.lst (ls.map fun n => PyData.int (n : Nat))) ∨ s2 = .v (natsD ls)) ∧ (i < t.length → w = due rs t (i + 1)) ∧ (i ≠ 0 → bord rs t i ≠ 0))
    (R := fun o => SO.fo [false, false] (o.seq _) = _) ?_ ?_ ⟨_, _, _, _, rfl, .inl rfl, fun _ => rfl, fun h => absurd rfl h⟩
  · rintro i x ρ hx ⟨s2, w, y4, y5, rfl, hs2, hw, hbz⟩
    obtain ⟨rfl, hi⟩ := rng_get hx
    have em : (1 + (i : Int) * 1) = ((i + 1 : Nat) : Int) := by omega
    rw [em, hw hi]
    have g22 := H.g22 ls hls (i + 1) (Nat.succ_ne_zero i) hi
    have g23 := H.g23 ls hls (i + 1) (Nat.succ_ne_zero i) hi
    rcases hs2 with rfl | rfl
    · simp only [turnF_ap, e_int, e_str, e_bl, e_non, e_glob, vr_v, vr_o, e_var, kBin2_ap, kBin1_ap, e_bin, kNeg_ap, e_neg, kNot_ap, e_nott, kAnd_ap, e_and, kOr_ap, e_or, kCmp2_ap, kCmp1_ap, e_cmp, kCh3_ap, kCh2_ap, kCh1_ap, e_cmp2, kIte_ap, e_ite, kTup_ap, e_tup, kLst_ap, e_lst, kSub2_ap, kSub1_ap, e_sub, kSlc3_ap, kSlc2_ap, kSlc1_ap, e_slc, kSlL2_ap, kSlL1_ap, e_slcL, kSlH2_ap, kSlH1_ap, e_slcH, kRev_ap, e_rev, kCall_ap, e_call, kBi_ap, e_bi, kIsi_ap, e_isi, kMu_ap, e_mu, kPm2_ap, kPm1_ap, e_pm, kTn3_ap, kTn2_ap, kTn1_ap, kCE_ap, kComp_ap, e_comp, kTNot_ap, t_nott, kTAnd_ap, t_and, kTOr_ap, t_or, kTVal_ap, t_val, s_nil, kS3_ap, kS2_ap, kS1_ap, s_cons, r_nil, kRr2_ap, kRr1_ap, r_cons, c_nil, kCa_ap, kC2_ap, kC1f_ap, kC1t_ap, c_f, c_t, f_nil, kF_ap, f_cons, kI2_ap, kI1_ap, i_seq, kEn2_ap, kEn1_ap, i_enum, kG1_ap, i_rng1, kG2b_ap, kG2a_ap, i_rng2, st_v, st_o, kSt_ap, st_s, x_nm, kA2_ap, kA1_ap, x_tp, kPar_ap, x_par, kExp_ap, x_exp, kIf_ap, x_ife, kFor_ap, x_for, x_whl, kRet_ap, x_ret, x_retN, x_brk, x_cnt, x_pass, xs_nil, xs_cons, fo_nx, fo_ret, bind_ok_, st_ok_, opd_v, opd_s, opd_o, seq_nx, seq_ret, seq_brk, seq_cnt, optR, optV, optB, view, views, fin, lent, isO, setTg, setAll, setCA, kd, wipes, unwipe, frz, binOp, muOp, truth, seqOf, isNone, callF, lend, slots, back, isLent, List.map_cons, List.map_nil, List.length_cons, List.length_nil, List.cons_append, List.nil_append, List.replicate, Nat.reduceAdd, Nat.reduceSub, List.getElem?_cons_zero, List.getElem?_cons_succ, List.set_cons_zero, List.set_cons_succ, List.getD_cons_zero, List.getD_cons_succ, if_true, if_false, reduceIte, Option.map_some, Option.map_none, List.filterMap_nil, List.filterMap_cons, List.nodup_nil, id_eq, Bool.false_eq_true, nodup1, Wk_Γ, Wk_C, nd2, H.l22, g22, H.l14, D, Bool.not_true, due_none]
      cases hb : decide (bord rs t (i + 1) = 0) with
      | true =>
        have z := bord_zero (of_decide_eq_true hb) (show i + 1 ≤ t.length from hi)
        have ek : kindsT rs t t.length = [] := by unfold kindsT; rw [if_pos z]
        have g7 := H.g7
        rw [ek, List.map_nil] at g7
        have g7t := H.g7t (i + 1) (Nat.succ_ne_zero i) hi (of_decide_eq_true hb)
        simp only [e_int, e_str, e_bl, e_non, e_glob, vr_v, vr_o, e_var, kBin2_ap, kBin1_ap, e_bin, kNeg_ap, e_neg, kNot_ap, e_nott, kAnd_ap, e_and, kOr_ap, e_or, kCmp2_ap, kCmp1_ap, e_cmp, kCh3_ap, kCh2_ap, kCh1_ap, e_cmp2, kIte_ap, e_ite, kTup_ap, e_tup, kLst_ap, e_lst, kSub2_ap, kSub1_ap, e_sub, kSlc3_ap, kSlc2_ap, kSlc1_ap, e_slc, kSlL2_ap, kSlL1_ap, e_slcL, kSlH2_ap, kSlH1_ap, e_slcH, kRev_ap, e_rev, kCall_ap, e_call, kBi_ap, e_bi, kIsi_ap, e_isi, kMu_ap, e_mu, kPm2_ap, kPm1_ap, e_pm, kTn3_ap, kTn2_ap, kTn1_ap, kCE_ap, kComp_ap, e_comp, kTNot_ap, t_nott, kTAnd_ap, t_and, kTOr_ap, t_or, kTVal_ap, t_val, s_nil, kS3_ap, kS2_ap, kS1_ap, s_cons, r_nil, kRr2_ap, kRr1_ap, r_cons, c_nil, kCa_ap, kC2_ap, kC1f_ap, kC1t_ap, c_f, c_t, f_nil, kF_ap, f_cons, kI2_ap, kI1_ap, i_seq, kEn2_ap, kEn1_ap, i_enum, kG1_ap, i_rng1, kG2b_ap, kG2a_ap, i_rng2, st_v, st_o, kSt_ap, st_s, x_nm, kA2_ap, kA1_ap, x_tp, kPar_ap, x_par, kExp_ap, x_exp, kIf_ap, x_ife, kFor_ap, x_for, x_whl, kRet_ap, x_ret, x_retN, x_brk, x_cnt, x_pass, xs_nil, xs_cons, fo_nx, fo_ret, bind_ok_, st_ok_, opd_v, opd_s, opd_o, seq_nx, seq_ret, seq_brk, seq_cnt, optR, optV, optB, view, views, fin, lent, isO, setTg, setAll, setCA, kd, wipes, unwipe, frz, binOp, muOp, truth, seqOf, isNone, callF, lend, slots, back, isLent, List.map_cons, List.map_nil, List.length_cons, List.length_nil, List.cons_append, List.nil_append, List.replicate, Nat.reduceAdd, Nat.reduceSub, List.getElem?_cons_zero, List.getElem?_cons_succ, List.set_cons_zero, List.set_cons_succ, List.getD_cons_zero, List.getD_cons_succ, if_true, if_false, reduceIte, Option.map_some, Option.map_none, List.filterMap_nil, List.filterMap_cons, List.nodup_nil, id_eq, Bool.false_eq_true, nodup1, Wk_Γ, Wk_C, hb, H.l7, H.l14, g7, E0, slcH_tx hL, g7t]
      | false =>
        have nz := of_decide_eq_false hb
        have g6 := H.g6 (i + 1) (Nat.succ_ne_zero i) hi nz
        simp only [e_int, e_str, e_bl, e_non, e_glob, vr_v, vr_o, e_var, kBin2_ap, kBin1_ap, e_bin, kNeg_ap, e_neg, kNot_ap, e_nott, kAnd_ap, e_and, kOr_ap, e_or, kCmp2_ap, kCmp1_ap, e_cmp, kCh3_ap, kCh2_ap, kCh1_ap, e_cmp2, kIte_ap, e_ite, kTup_ap, e_tup, kLst_ap, e_lst, kSub2_ap, kSub1_ap, e_sub, kSlc3_ap, kSlc2_ap, kSlc1_ap, e_slc, kSlL2_ap, kSlL1_ap, e_slcL, kSlH2_ap, kSlH1_ap, e_slcH, kRev_ap, e_rev, kCall_ap, e_call, kBi_ap, e_bi, kIsi_ap, e_isi, kMu_ap, e_mu, kPm2_ap, kPm1_ap, e_pm, kTn3_ap, kTn2_ap, kTn1_ap, kCE_ap, kComp_ap, e_comp, kTNot_ap, t_nott, kTAnd_ap, t_and, kTOr_ap, t_or, kTVal_ap, t_val, s_nil, kS3_ap, kS2_ap, kS1_ap, s_cons, r_nil, kRr2_ap, kRr1_ap, r_cons, c_nil, kCa_ap, kC2_ap, kC1f_ap, kC1t_ap, c_f, c_t, f_nil, kF_ap, f_cons, kI2_ap, kI1_ap, i_seq, kEn2_ap, kEn1_ap, i_enum, kG1_ap, i_rng1, kG2b_ap, kG2a_ap, i_rng2, st_v, st_o, kSt_ap, st_s, x_nm, kA2_ap, kA1_ap, x_tp, kPar_ap, x_par, kExp_ap, x_exp, kIf_ap, x_ife, kFor_ap, x_for, x_whl, kRet_ap, x_ret, x_retN, x_brk, x_cnt, x_pass, xs_nil, xs_cons, fo_nx, fo_ret, bind_ok_, st_ok_, opd_v, opd_s, opd_o, seq_nx, seq_ret, seq_brk, seq_cnt, optR, optV, optB, view, views, fin, lent, isO, setTg, setAll, setCA, kd, wipes, unwipe, frz, binOp, muOp, truth, seqOf, isNone, callF, lend, slots, back, isLent, List.map_cons, List.map_nil, List.length_cons, List.length_nil, List.cons_append, List.nil_append, List.replicate, Nat.reduceAdd, Nat.reduceSub, List.getElem?_cons_zero, List.getElem?_cons_succ, List.set_cons_zero, List.set_cons_succ, List.getD_cons_zero, List.getD_cons_succ, if_true, if_false, reduceIte, Option.map_some, Option.map_none, List.filterMap_nil, List.filterMap_cons, List.nodup_nil, id_eq, Bool.false_eq_true, nodup1, Wk_Γ, Wk_C, hb, H.l6, H.l14, H.l23, g6, g23, Kq, Bool.not_true, len_tx hL, lt_nat]
        cases hlt : decide (i + 1 < t.length) with
        | true =>
          have hl2 := of_decide_eq_true hlt
          obtain ⟨s, hs⟩ : ∃ s, t[i + 1]? = some s := ⟨_, List.getElem?_eq_getElem hl2⟩
          have g5 := H.g5 (i + 1) s (Nat.succ_ne_zero i) hs nz
          simp only [e_int, e_str, e_bl, e_non, e_glob, vr_v, vr_o, e_var, kBin2_ap, kBin1_ap, e_bin, kNeg_ap, e_neg, kNot_ap, e_nott, kAnd_ap, e_and, kOr_ap, e_or, kCmp2_ap, kCmp1_ap, e_cmp, kCh3_ap, kCh2_ap, kCh1_ap, e_cmp2, kIte_ap, e_ite, kTup_ap, e_tup, kLst_ap, e_lst, kSub2_ap, kSub1_ap, e_sub, kSlc3_ap, kSlc2_ap, kSlc1_ap, e_slc, kSlL2_ap, kSlL1_ap, e_slcL, kSlH2_ap, kSlH1_ap, e_slcH, kRev_ap, e_rev, kCall_ap, e_call, kBi_ap, e_bi, kIsi_ap, e_isi, kMu_ap, e_mu, kPm2_ap, kPm1_ap, e_pm, kTn3_ap, kTn2_ap, kTn1_ap, kCE_ap, kComp_ap, e_comp, kTNot_ap, t_nott, kTAnd_ap, t_and, kTOr_ap, t_or, kTVal_ap, t_val, s_nil, kS3_ap, kS2_ap, kS1_ap, s_cons, r_nil, kRr2_ap, kRr1_ap, r_cons, c_nil, kCa_ap, kC2_ap, kC1f_ap, kC1t_ap, c_f, c_t, f_nil, kF_ap, f_cons, kI2_ap, kI1_ap, i_seq, kEn2_ap, kEn1_ap, i_enum, kG1_ap, i_rng1, kG2b_ap, kG2a_ap, i_rng2, st_v, st_o, kSt_ap, st_s, x_nm, kA2_ap, kA1_ap, x_tp, kPar_ap, x_par, kExp_ap, x_exp, kIf_ap, x_ife, kFor_ap, x_for, x_whl, kRet_ap, x_ret, x_retN, x_brk, x_cnt, x_pass, xs_nil, xs_cons, fo_nx, fo_ret, bind_ok_, st_ok_, opd_v, opd_s, opd_o, seq_nx, seq_ret, seq_brk, seq_cnt, optR, optV, optB, view, views, fin, lent, isO, setTg, setAll, setCA, kd, wipes, unwipe, frz, binOp, muOp, truth, seqOf, isNone, callF, lend, slots, back, isLent, List.map_cons, List.map_nil, List.length_cons, List.length_nil, List.cons_append, List.nil_append, List.replicate, Nat.reduceAdd, Nat.reduceSub, List.getElem?_cons_zero, List.getElem?_cons_succ, List.set_cons_zero, List.set_cons_succ, List.getD_cons_zero, List.getD_cons_succ, if_true, if_false, reduceIte, Option.map_some, Option.map_none, List.filterMap_nil, List.filterMap_cons, List.nodup_nil, id_eq, Bool.false_eq_true, nodup1, Wk_Γ, Wk_C, hlt, H.l5, tx_at hL hs, g5]
          exact ⟨_, _, _, _, rfl, .inr rfl, fun _ => rfl, fun _ => nz⟩
        | false =>
          simp only [e_int, e_str, e_bl, e_non, e_glob, vr_v, vr_o, e_var, kBin2_ap, kBin1_ap, e_bin, kNeg_ap, e_neg, kNot_ap, e_nott, kAnd_ap, e_and, kOr_ap, e_or, kCmp2_ap, kCmp1_ap, e_cmp, kCh3_ap, kCh2_ap, kCh1_ap, e_cmp2, kIte_ap, e_ite, kTup_ap, e_tup, kLst_ap, e_lst, kSub2_ap, kSub1_ap, e_sub, kSlc3_ap, kSlc2_ap, kSlc1_ap, e_slc, kSlL2_ap, kSlL1_ap, e_slcL, kSlH2_ap, kSlH1_ap, e_slcH, kRev_ap, e_rev, kCall_ap, e_call, kBi_ap, e_bi, kIsi_ap, e_isi, kMu_ap, e_mu, kPm2_ap, kPm1_ap, e_pm, kTn3_ap, kTn2_ap, kTn1_ap, kCE_ap, kComp_ap, e_comp, kTNot_ap, t_nott, kTAnd_ap, t_and, kTOr_ap, t_or, kTVal_ap, t_val, s_nil, kS3_ap, kS2_ap, kS1_ap, s_cons, r_nil, kRr2_ap, kRr1_ap, r_cons, c_nil, kCa_ap, kC2_ap, kC1f_ap, kC1t_ap, c_f, c_t, f_nil, kF_ap, f_cons, kI2_ap, kI1_ap, i_seq, kEn2_ap, kEn1_ap, i_enum, kG1_ap, i_rng1, kG2b_ap, kG2a_ap, i_rng2, st_v, st_o, kSt_ap, st_s, x_nm, kA2_ap, kA1_ap, x_tp, kPar_ap, x_par, kExp_ap, x_exp, kIf_ap, x_ife, kFor_ap, x_for, x_whl, kRet_ap, x_ret, x_retN, x_brk, x_cnt, x_pass, xs_nil, xs_cons, fo_nx, fo_ret, bind_ok_, st_ok_, opd_v, opd_s, opd_o, seq_nx, seq_ret, seq_brk, seq_cnt, optR, optV, optB, view, views, fin, lent, isO, setTg, setAll, setCA, kd, wipes, unwipe, frz, binOp, muOp, truth, seqOf, isNone, callF, lend, slots, back, isLent, List.map_cons, List.map_nil, List.length_cons, List.length_nil, List.cons_append, List.nil_append, List.replicate, Nat.reduceAdd, Nat.reduceSub, List.getElem?_cons_zero, List.getElem?_cons_succ, List.set_cons_zero, List.set_cons_succ, List.getD_cons_zero, List.getD_cons_succ, if_true, if_false, reduceIte, Option.map_some, Option.map_none, List.filterMap_nil, List.filterMap_cons, List.nodup_nil, id_eq, Bool.false_eq_true, nodup1, Wk_Γ, Wk_C, hlt]
          exact ⟨_, _, _, _, rfl, .inr rfl, fun h => absurd h (of_decide_eq_false hlt), fun _ => nz⟩
    · simp only [turnF_ap, e_int, e_str, e_bl, e_non, e_glob, vr_v, vr_o, e_var, kBin2_ap, kBin1_ap, e_bin, kNeg_ap, e_neg, kNot_ap, e_nott, kAnd_ap, e_and, kOr_ap, e_or, kCmp2_ap, kCmp1_ap, e_cmp, kCh3_ap, kCh2_ap, kCh1_ap, e_cmp2, kIte_ap, e_ite, kTup_ap, e_tup, kLst_ap, e_lst, kSub2_ap, kSub1_ap, e_sub, kSlc3_ap, kSlc2_ap, kSlc1_ap, e_slc, kSlL2_ap, kSlL1_ap, e_slcL, kSlH2_ap, kSlH1_ap, e_slcH, kRev_ap, e_rev, kCall_ap, e_call, kBi_ap, e_bi, kIsi_ap, e_isi, kMu_ap, e_mu, kPm2_ap, kPm1_ap, e_pm, kTn3_ap, kTn2_ap, kTn1_ap, kCE_ap, kComp_ap, e_comp, kTNot_ap, t_nott, kTAnd_ap, t_and, kTOr_ap, t_or, kTVal_ap, t_val, s_nil, kS3_ap, kS2_ap, kS1_ap, s_cons, r_nil, kRr2_ap, kRr1_ap, r_cons, c_nil, kCa_ap, kC2_ap, kC1f_ap, kC1t_ap, c_f, c_t, f_nil, kF_ap, f_cons, kI2_ap, kI1_ap, i_seq, kEn2_ap, kEn1_ap, i_enum, kG1_ap, i_rng1, kG2b_ap, kG2a_ap, i_rng2, st_v, st_o, kSt_ap, st_s, x_nm, kA2_ap, kA1_ap, x_tp, kPar_ap, x_par, kExp_ap, x_exp, kIf_ap, x_ife, kFor_ap, x_for, x_whl, kRet_ap, x_ret, x_retN, x_brk, x_cnt, x_pass, xs_nil, xs_cons, fo_nx, fo_ret, bind_ok_, st_ok_, opd_v, opd_s, opd_o, seq_nx, seq_ret, seq_brk, seq_cnt, optR, optV, optB, view, views, fin, lent, isO, setTg, setAll, setCA, kd, wipes, unwipe, frz, binOp, muOp, truth, seqOf, isNone, callF, lend, slots, back, isLent, List.map_cons, List.map_nil, List.length_cons, List.length_nil, List.cons_append, List.nil_append, List.replicate, Nat.reduceAdd, Nat.reduceSub, List.getElem?_cons_zero, List.getElem?_cons_succ, List.set_cons_zero, List.set_cons_succ, List.getD_cons_zero, List.getD_cons_succ, if_true, if_false, reduceIte, Option.map_some, Option.map_none, List.filterMap_nil, List.filterMap_cons, List.nodup_nil, id_eq, Bool.false_eq_true, nodup1, Wk_Γ, Wk_C, nd2, H.l22, g22, H.l14, D, Bool.not_true, due_none]
      cases hb : decide (bord rs t (i + 1) = 0) with
      | true =>
        have z := bord_zero (of_decide_eq_true hb) (show i + 1 ≤ t.length from hi)
        have ek : kindsT rs t t.length = [] := by unfold kindsT; rw [if_pos z]
        have g7 := H.g7
        rw [ek, List.map_nil] at g7
        have g7t := H.g7t (i + 1) (Nat.succ_ne_zero i) hi (of_decide_eq_true hb)
        simp only [e_int, e_str, e_bl, e_non, e_glob, vr_v, vr_o, e_var, kBin2_ap, kBin1_ap, e_bin, kNeg_ap, e_neg, kNot_ap, e_nott, kAnd_ap, e_and, kOr_ap, e_or, kCmp2_ap, kCmp1_ap, e_cmp, kCh3_ap, kCh2_ap, kCh1_ap, e_cmp2, kIte_ap, e_ite, kTup_ap, e_tup, kLst_ap, e_lst, kSub2_ap, kSub1_ap, e_sub, kSlc3_ap, kSlc2_ap, kSlc1_ap, e_slc, kSlL2_ap, kSlL1_ap, e_slcL, kSlH2_ap, kSlH1_ap, e_slcH, kRev_ap, e_rev, kCall_ap, e_call, kBi_ap, e_bi, kIsi_ap, e_isi, kMu_ap, e_mu, kPm2_ap, kPm1_ap, e_pm, kTn3_ap, kTn2_ap, kTn1_ap, kCE_ap, kComp_ap, e_comp, kTNot_ap, t_nott, kTAnd_ap, t_and, kTOr_ap, t_or, kTVal_ap, t_val, s_nil, kS3_ap, kS2_ap, kS1_ap, s_cons, r_nil, kRr2_ap, kRr1_ap, r_cons, c_nil, kCa_ap, kC2_ap, kC1f_ap, kC1t_ap, c_f, c_t, f_nil, kF_ap, f_cons, kI2_ap, kI1_ap, i_seq, kEn2_ap, kEn1_ap, i_enum, kG1_ap, i_rng1, kG2b_ap, kG2a_ap, i_rng2, st_v, st_o, kSt_ap, st_s, x_nm, kA2_ap, kA1_ap, x_tp, kPar_ap, x_par, kExp_ap, x_exp, kIf_ap, x_ife, kFor_ap, x_for, x_whl, kRet_ap, x_ret, x_retN, x_brk, x_cnt, x_pass, xs_nil, xs_cons, fo_nx, fo_ret, bind_ok_, st_ok_, opd_v, opd_s, opd_o, seq_nx, seq_ret, seq_brk, seq_cnt, optR, optV, optB, view, views, fin, lent, isO, setTg, setAll, setCA, kd, wipes, unwipe, frz, binOp, muOp, truth, seqOf, isNone, callF, lend, slots, back, isLent, List.map_cons, List.map_nil, List.length_cons, List.length_nil, List.cons_append, List.nil_append, List.replicate, Nat.reduceAdd, Nat.reduceSub, List.getElem?_cons_zero, List.getElem?_cons_succ, List.set_cons_zero, List.set_cons_succ, List.getD_cons_zero, List.getD_cons_succ, if_true, if_false, reduceIte, Option.map_some, Option.map_none, List.filterMap_nil, List.filterMap_cons, List.nodup_nil, id_eq, Bool.false_eq_true, nodup1, Wk_Γ, Wk_C, hb, H.l7, H.l14, g7, E0, slcH_tx hL, g7t]
      | false =>
        have nz := of_decide_eq_false hb
        have g6 := H.g6 (i + 1) (Nat.succ_ne_zero i) hi nz
        simp only [e_int, e_str, e_bl, e_non, e_glob, vr_v, vr_o, e_var, kBin2_ap, kBin1_ap, e_bin, kNeg_ap, e_neg, kNot_ap, e_nott, kAnd_ap, e_and, kOr_ap, e_or, kCmp2_ap, kCmp1_ap, e_cmp, kCh3_ap, kCh2_ap, kCh1_ap, e_cmp2, kIte_ap, e_ite, kTup_ap, e_tup, kLst_ap, e_lst, kSub2_ap, kSub1_ap, e_sub, kSlc3_ap, kSlc2_ap, kSlc1_ap, e_slc, kSlL2_ap, kSlL1_ap, e_slcL, kSlH2_ap, kSlH1_ap, e_slcH, kRev_ap, e_rev, kCall_ap, e_call, kBi_ap, e_bi, kIsi_ap, e_isi, kMu_ap, e_mu, kPm2_ap, kPm1_ap, e_pm, kTn3_ap, kTn2_ap, kTn1_ap, kCE_ap, kComp_ap, e_comp, kTNot_ap, t_nott, kTAnd_ap, t_and, kTOr_ap, t_or, kTVal_ap, t_val, s_nil, kS3_ap, kS2_ap, kS1_ap, s_cons, r_nil, kRr2_ap, kRr1_ap, r_cons, c_nil, kCa_ap, kC2_ap, kC1f_ap, kC1t_ap, c_f, c_t, f_nil, kF_ap, f_cons, kI2_ap, kI1_ap, i_seq, kEn2_ap, kEn1_ap, i_enum, kG1_ap, i_rng1, kG2b_ap, kG2a_ap, i_rng2, st_v, st_o, kSt_ap, st_s, x_nm, kA2_ap, kA1_ap, x_tp, kPar_ap, x_par, kExp_ap, x_exp, kIf_ap, x_ife, kFor_ap, x_for, x_whl, kRet_ap, x_ret, x_retN, x_brk, x_cnt, x_pass, xs_nil, xs_cons, fo_nx, fo_ret, bind_ok_, st_ok_, opd_v, opd_s, opd_o, seq_nx, seq_ret, seq_brk, seq_cnt, optR, optV, optB, view, views, fin, lent, isO, setTg, setAll, setCA, kd, wipes, unwipe, frz, binOp, muOp, truth, seqOf, isNone, callF, lend, slots, back, isLent, List.map_cons, List.map_nil, List.length_cons, List.length_nil, List.cons_append, List.nil_append, List.replicate, Nat.reduceAdd, Nat.reduceSub, List.getElem?_cons_zero, List.getElem?_cons_succ, List.set_cons_zero, List.set_cons_succ, List.getD_cons_zero, List.getD_cons_succ, if_true, if_false, reduceIte, Option.map_some, Option.map_none, List.filterMap_nil, List.filterMap_cons, List.nodup_nil, id_eq, Bool.false_eq_true, nodup1, Wk_Γ, Wk_C, hb, H.l6, H.l14, H.l23, g6, g23, Kq, Bool.not_true, len_tx hL, lt_nat]
        cases hlt : decide (i + 1 < t.length) with
        | true =>
          have hl2 := of_decide_eq_true hlt
          obtain ⟨s, hs⟩ : ∃ s, t[i + 1]? = some s := ⟨_, List.getElem?_eq_getElem hl2⟩
          have g5 := H.g5 (i + 1) s (Nat.succ_ne_zero i) hs nz
          simp only [e_int, e_str, e_bl, e_non, e_glob, vr_v, vr_o, e_var, kBin2_ap, kBin1_ap, e_bin, kNeg_ap, e_neg, kNot_ap, e_nott, kAnd_ap, e_and, kOr_ap, e_or, kCmp2_ap, kCmp1_ap, e_cmp, kCh3_ap, kCh2_ap, kCh1_ap, e_cmp2, kIte_ap, e_ite, kTup_ap, e_tup, kLst_ap, e_lst, kSub2_ap, kSub1_ap, e_sub, kSlc3_ap, kSlc2_ap, kSlc1_ap, e_slc, kSlL2_ap, kSlL1_ap, e_slcL, kSlH2_ap, kSlH1_ap, e_slcH, kRev_ap, e_rev, kCall_ap, e_call, kBi_ap, e_bi, kIsi_ap, e_isi, kMu_ap, e_mu, kPm2_ap, kPm1_ap, e_pm, kTn3_ap, kTn2_ap, kTn1_ap, kCE_ap, kComp_ap, e_comp, kTNot_ap, t_nott, kTAnd_ap, t_and, kTOr_ap, t_or, kTVal_ap, t_val, s_nil, kS3_ap, kS2_ap, kS1_ap, s_cons, r_nil, kRr2_ap, kRr1_ap, r_cons, c_nil, kCa_ap, kC2_ap, kC1f_ap, kC1t_ap, c_f, c_t, f_nil, kF_ap, f_cons, kI2_ap, kI1_ap, i_seq, kEn2_ap, kEn1_ap, i_enum, kG1_ap, i_rng1, kG2b_ap, kG2a_ap, i_rng2, st_v, st_o, kSt_ap, st_s, x_nm, kA2_ap, kA1_ap, x_tp, kPar_ap, x_par, kExp_ap, x_exp, kIf_ap, x_ife, kFor_ap, x_for, x_whl, kRet_ap, x_ret, x_retN, x_brk, x_cnt, x_pass, xs_nil, xs_cons, fo_nx, fo_ret, bind_ok_, st_ok_, opd_v, opd_s, opd_o, seq_nx, seq_ret, seq_brk, seq_cnt, optR, optV, optB, view, views, fin, lent, isO, setTg, setAll, setCA, kd, wipes, unwipe, frz, binOp, muOp, truth, seqOf, isNone, callF, lend, slots, back, isLent, List.map_cons, List.map_nil, List.length_cons, List.length_nil, List.cons_append, List.nil_append, List.replicate, Nat.reduceAdd, Nat.reduceSub, List.getElem?_cons_zero, List.getElem?_cons_succ, List.set_cons_zero, List.set_cons_succ, List.getD_cons_zero, List.getD_cons_succ, if_true, if_false, reduceIte, Option.map_some, Option.map_none, List.filterMap_nil, List.filterMap_cons, List.nodup_nil, id_eq, Bool.false_eq_true, nodup1, Wk_Γ, Wk_C, hlt, H.l5, tx_at hL hs, g5]
          exact ⟨_, _, _, _, rfl, .inr rfl, fun _ => rfl, fun _ => nz⟩
        | false =>
          simp only [e_int, e_str, e_bl, e_non, e_glob, vr_v, vr_o, e_var, kBin2_ap, kBin1_ap, e_bin, kNeg_ap, e_neg, kNot_ap, e_nott, kAnd_ap, e_and, kOr_ap, e_or, kCmp2_ap, kCmp1_ap, e_cmp, kCh3_ap, kCh2_ap, kCh1_ap, e_cmp2, kIte_ap, e_ite, kTup_ap, e_tup, kLst_ap, e_lst, kSub2_ap, kSub1_ap, e_sub, kSlc3_ap, kSlc2_ap, kSlc1_ap, e_slc, kSlL2_ap, kSlL1_ap, e_slcL, kSlH2_ap, kSlH1_ap, e_slcH, kRev_ap, e_rev, kCall_ap, e_call, kBi_ap, e_bi, kIsi_ap, e_isi, kMu_ap, e_mu, kPm2_ap, kPm1_ap, e_pm, kTn3_ap, kTn2_ap, kTn1_ap, kCE_ap, kComp_ap, e_comp, kTNot_ap, t_nott, kTAnd_ap, t_and, kTOr_ap, t_or, kTVal_ap, t_val, s_nil, kS3_ap, kS2_ap, kS1_ap, s_cons, r_nil, kRr2_ap, kRr1_ap, r_cons, c_nil, kCa_ap, kC2_ap, kC1f_ap, kC1t_ap, c_f, c_t, f_nil, kF_ap, f_cons, kI2_ap, kI1_ap, i_seq, kEn2_ap, kEn1_ap, i_enum, kG1_ap, i_rng1, kG2b_ap, kG2a_ap, i_rng2, st_v, st_o, kSt_ap, st_s, x_nm, kA2_ap, kA1_ap, x_tp, kPar_ap, x_par, kExp_ap, x_exp, kIf_ap, x_ife, kFor_ap, x_for, x_whl, kRet_ap, x_ret, x_retN, x_brk, x_cnt, x_pass, xs_nil, xs_cons, fo_nx, fo_ret, bind_ok_, st_ok_, opd_v, opd_s, opd_o, seq_nx, seq_ret, seq_brk, seq_cnt, optR, optV, optB, view, views, fin, lent, isO, setTg, setAll, setCA, kd, wipes, unwipe, frz, binOp, muOp, truth, seqOf, isNone, callF, lend, slots, back, isLent, List.map_cons, List.map_nil, List.length_cons, List.length_nil, List.cons_append, List.nil_append, List.replicate, Nat.reduceAdd, Nat.reduceSub, List.getElem?_cons_zero, List.getElem?_cons_succ, List.set_cons_zero, List.set_cons_succ, List.getD_cons_zero, List.getD_cons_succ, if_true, if_false, reduceIte, Option.map_some, Option.map_none, List.filterMap_nil, List.filterMap_cons, List.nodup_nil, id_eq, Bool.false_eq_true, nodup1, Wk_Γ, Wk_C, hlt]
          exact ⟨_, _, _, _, rfl, .inr rfl, fun h => absurd h (of_decide_eq_false hlt), fun _ => nz⟩
  · rintro ρ ⟨s2, w, y4, y5, rfl, hs2, _, hbz⟩
    rw [rng_len] at hbz
    have bz := hbz (by omega)
    have g23 := H.g23 ls hls t.length (by omega) (Nat.le_refl _)
    have ek : kindsT rs t t.length = kds (fun r => bn r t t.length && fit r t.length (lastS t t.length)) rs := by unfold kindsT; rw [if_neg bz]
    have g7 := H.g7
    rw [ek] at g7
    rcases hs2 with rfl | rfl
    · simp only [e_int, e_str, e_bl, e_non, e_glob, vr_v, vr_o, e_var, kBin2_ap, kBin1_ap, e_bin, kNeg_ap, e_neg, kNot_ap, e_nott, kAnd_ap, e_and, kOr_ap, e_or, kCmp2_ap, kCmp1_ap, e_cmp, kCh3_ap, kCh2_ap, kCh1_ap, e_cmp2, kIte_ap, e_ite, kTup_ap, e_tup, kLst_ap, e_lst, kSub2_ap, kSub1_ap, e_sub, kSlc3_ap, kSlc2_ap, kSlc1_ap, e_slc, kSlL2_ap, kSlL1_ap, e_slcL, kSlH2_ap, kSlH1_ap, e_slcH, kRev_ap, e_rev, kCall_ap, e_call, kBi_ap, e_bi, kIsi_ap, e_isi, kMu_ap, e_mu, kPm2_ap, kPm1_ap, e_pm, kTn3_ap, kTn2_ap, kTn1_ap, kCE_ap, kComp_ap, e_comp, kTNot_ap, t_nott, kTAnd_ap, t_and, kTOr_ap, t_or, kTVal_ap, t_val, s_nil, kS3_ap, kS2_ap, kS1_ap, s_cons, r_nil, kRr2_ap, kRr1_ap, r_cons, c_nil, kCa_ap, kC2_ap, kC1f_ap, kC1t_ap, c_f, c_t, f_nil, kF_ap, f_cons, kI2_ap, kI1_ap, i_seq, kEn2_ap, kEn1_ap, i_enum, kG1_ap, i_rng1, kG2b_ap, kG2a_ap, i_rng2, st_v, st_o, kSt_ap, st_s, x_nm, kA2_ap, kA1_ap, x_tp, kPar_ap, x_par, kExp_ap, x_exp, kIf_ap, x_ife, kFor_ap, x_for, x_whl, kRet_ap, x_ret, x_retN, x_brk, x_cnt, x_pass, xs_nil, xs_cons, fo_nx, fo_ret, bind_ok_, st_ok_, opd_v, opd_s, opd_o, seq_nx, seq_ret, seq_brk, seq_cnt, optR, optV, optB, view, views, fin, lent, isO, setTg, setAll, setCA, kd, wipes, unwipe, frz, binOp, muOp, truth, seqOf, isNone, callF, lend, slots, back, isLent, List.map_cons, List.map_nil, List.length_cons, List.length_nil, List.cons_append, List.nil_append, List.replicate, Nat.reduceAdd, Nat.reduceSub, List.getElem?_cons_zero, List.getElem?_cons_succ, List.set_cons_zero, List.set_cons_succ, List.getD_cons_zero, List.getD_cons_succ, if_true, if_false, reduceIte, Option.map_some, Option.map_none, List.filterMap_nil, List.filterMap_cons, List.nodup_nil, id_eq, Bool.false_eq_true, nodup1, Wk_Γ, Wk_C, nd2, H.l14, H.l7, H.l23, g7, len_tx hL, g23, Kq]
    · simp only [e_int, e_str, e_bl, e_non, e_glob, vr_v, vr_o, e_var, kBin2_ap, kBin1_ap, e_bin, kNeg_ap, e_neg, kNot_ap, e_nott, kAnd_ap, e_and, kOr_ap, e_or, kCmp2_ap, kCmp1_ap, e_cmp, kCh3_ap, kCh2_ap, kCh1_ap, e_cmp2, kIte_ap, e_ite, kTup_ap, e_tup, kLst_ap, e_lst, kSub2_ap, kSub1_ap, e_sub, kSlc3_ap, kSlc2_ap, kSlc1_ap, e_slc, kSlL2_ap, kSlL1_ap, e_slcL, kSlH2_ap, kSlH1_ap, e_slcH, kRev_ap, e_rev, kCall_ap, e_call, kBi_ap, e_bi, kIsi_ap, e_isi, kMu_ap, e_mu, kPm2_ap, kPm1_ap, e_pm, kTn3_ap, kTn2_ap, kTn1_ap, kCE_ap, kComp_ap, e_comp, kTNot_ap, t_nott, kTAnd_ap, t_and, kTOr_ap, t_or, kTVal_ap, t_val, s_nil, kS3_ap, kS2_ap, kS1_ap, s_cons, r_nil, kRr2_ap, kRr1_ap, r_cons, c_nil, kCa_ap, kC2_ap, kC1f_ap, kC1t_ap, c_f, c_t, f_nil, kF_ap, f_cons, kI2_ap, kI1_ap, i_seq, kEn2_ap, kEn1_ap, i_enum, kG1_ap, i_rng1, kG2b_ap, kG2a_ap, i_rng2, st_v, st_o, kSt_ap, st_s, x_nm, kA2_ap, kA1_ap, x_tp, kPar_ap, x_par, kExp_ap, x_exp, kIf_ap, x_ife, kFor_ap, x_for, x_whl, kRet_ap, x_ret, x_retN, x_brk, x_cnt, x_pass, xs_nil, xs_cons, fo_nx, fo_ret, bind_ok_, st_ok_, opd_v, opd_s, opd_o, seq_nx, seq_ret, seq_brk, seq_cnt, optR, optV, optB, view, views, fin, lent, isO, setTg, setAll, setCA, kd, wipes, unwipe, frz, binOp, muOp, truth, seqOf, isNone, callF, lend, slots, back, isLent, List.map_cons, List.map_nil, List.length_cons, List.length_nil, List.cons_append, List.nil_append, List.replicate, Nat.reduceAdd, Nat.reduceSub, List.getElem?_cons_zero, List.getElem?_cons_succ, List.set_cons_zero, List.set_cons_succ, List.getD_cons_zero, List.getD_cons_succ, if_true, if_false, reduceIte, Option.map_some, Option.map_none, List.filterMap_nil, List.filterMap_cons, List.nodup_nil, id_eq, Bool.false_eq_true, nodup1, Wk_Γ, Wk_C, nd2, H.l14, H.l7, H.l23, g7, len_tx hL, g23, Kq]
end W6

set_option Elab.async false
set_option linter.all false
set_option maxRecDepth 100000
set_option maxHeartbeats 4000000
/-! K06n: drawing. -/
namespace W6
open PySem Rc Lw06
/-- a rule as it is drawn -/
structure Dr (r : Rul) : Prop where
  ne : r.a ≠ []
  al : r.a.length ≤ 100
  ak : ∀ c ∈ r.a, c ∈ abc
  bl : r.b.length ≤ 100
  bk : ∀ c ∈ r.b, c ∈ abc
  kd : PyData.strOk (tx r.kind) = true
theorem Dr.ok {r : Rul} (h : Dr r) : ROk r := ⟨Nat.le_trans h.al (by decide), fun _ => h.ne⟩
theorem lm_of {n : Nat} (h : n ≤ 1000000) : n ≤ Lm := Nat.le_trans h (by decide)
theorem gt_nat0 (n : Nat) : cmpOp .Gt (.int (n : Int)) (.int 0) = some (decide (0 < n)) := by
  show some (ltI 0 (n : Int)) = _
  rw [ltI_eq]
  congr 1
  by_cases q : 0 < n
  · rw [decide_eq_true q, decide_eq_true (by omega)]
  · rw [decide_eq_false q, decide_eq_false (by omega)]
theorem c_eq0 (a : Int) : cmpOp .Eq (.int a) (.int 0) = some (decide (a = 0)) := rfl
theorem lt_natL (n : Nat) (m : Nat) : cmpOp .Lt (.int (n : Int)) (.int ((m : Nat) : Int)) = some (decide (n < m)) := lt_nat n m
section
variable (fuel : Nat) (W : Wd) (T : Tk W)
include T
theorem some_run (l4 : W.lm 4 = [true, false]) (l : List Nat) (hl : l.length ≤ Lm) (h0 : l ≠ []) (hlot : ∀ p, ∃ s p', W.Γ 4 [.o (.lst (iL p)), .v (Tx l)] = .v (Tx s) [.lst (iL p')] ∧ s.Sublist l) (p : List Int) :
    ∃ s p', runFn fuel W f_law_some [.o (.lst (iL p)), .v (Tx l)] = .v (Tx s) [.lst (iL p')] ∧ s ≠ [] ∧ s.length ≤ l.length ∧ ∀ c ∈ s, c ∈ l := by
  obtain ⟨s, p', e, hs⟩ := hlot p
  obtain ⟨f, hf⟩ := pickT hl h0
  have hf2 : ∀ p, subOp (Tx l) (.int (tkR p (l.length : Int))) = some (Tx [f p]) := fun p => (hf p).2
  unfold f_law_some runFn
  simp only [e_int, e_str, e_bl, e_non, e_glob, vr_v, vr_o, e_var, kBin2_ap, kBin1_ap, e_bin, kNeg_ap, e_neg, kNot_ap, e_nott, kAnd_ap, e_and, kOr_ap, e_or, kCmp2_ap, kCmp1_ap, e_cmp, kCh3_ap, kCh2_ap, kCh1_ap, e_cmp2, kIte_ap, e_ite, kTup_ap, e_tup, kLst_ap, e_lst, kSub2_ap, kSub1_ap, e_sub, kSlc3_ap, kSlc2_ap, kSlc1_ap, e_slc, kSlL2_ap, kSlL1_ap, e_slcL, kSlH2_ap, kSlH1_ap, e_slcH, kRev_ap, e_rev, kCall_ap, e_call, kBi_ap, e_bi, kIsi_ap, e_isi, kMu_ap, e_mu, kPm2_ap, kPm1_ap, e_pm, kTn3_ap, kTn2_ap, kTn1_ap, kCE_ap, kComp_ap, e_comp, kTNot_ap, t_nott, kTAnd_ap, t_and, kTOr_ap, t_or, kTVal_ap, t_val, s_nil, kS3_ap, kS2_ap, kS1_ap, s_cons, r_nil, kRr2_ap, kRr1_ap, r_cons, c_nil, kCa_ap, kC2_ap, kC1f_ap, kC1t_ap, c_f, c_t, f_nil, kF_ap, f_cons, kI2_ap, kI1_ap, i_seq, kEn2_ap, kEn1_ap, i_enum, kG1_ap, i_rng1, kG2b_ap, kG2a_ap, i_rng2, st_v, st_o, kSt_ap, st_s, x_nm, kA2_ap, kA1_ap, x_tp, kPar_ap, x_par, kExp_ap, x_exp, kIf_ap, x_ife, kFor_ap, x_for, x_whl, kRet_ap, x_ret, x_retN, x_brk, x_cnt, x_pass, xs_nil, xs_cons, fo_nx, fo_ret, bind_ok_, st_ok_, opd_v, opd_s, opd_o, seq_nx, seq_ret, seq_brk, seq_cnt, optR, optV, optB, view, views, fin, lent, isO, setTg, setAll, setCA, kd, wipes, unwipe, frz, binOp, muOp, truth, seqOf, isNone, callF, lend, slots, back, isLent, List.map_cons, List.map_nil, List.length_cons, List.length_nil, List.cons_append, List.nil_append, List.replicate, Nat.reduceAdd, Nat.reduceSub, List.getElem?_cons_zero, List.getElem?_cons_succ, List.set_cons_zero, List.set_cons_succ, List.getD_cons_zero, List.getD_cons_succ, if_true, if_false, reduceIte, Option.map_some, Option.map_none, List.filterMap_nil, List.filterMap_cons, List.nodup_nil, id_eq, Bool.false_eq_true, nodup1, Wk_Γ, Wk_C, l4, e, empty_tx, tx_cmp]
  cases h : decide (s = []) with
  | true =>
    simp only [e_int, e_str, e_bl, e_non, e_glob, vr_v, vr_o, e_var, kBin2_ap, kBin1_ap, e_bin, kNeg_ap, e_neg, kNot_ap, e_nott, kAnd_ap, e_and, kOr_ap, e_or, kCmp2_ap, kCmp1_ap, e_cmp, kCh3_ap, kCh2_ap, kCh1_ap, e_cmp2, kIte_ap, e_ite, kTup_ap, e_tup, kLst_ap, e_lst, kSub2_ap, kSub1_ap, e_sub, kSlc3_ap, kSlc2_ap, kSlc1_ap, e_slc, kSlL2_ap, kSlL1_ap, e_slcL, kSlH2_ap, kSlH1_ap, e_slcH, kRev_ap, e_rev, kCall_ap, e_call, kBi_ap, e_bi, kIsi_ap, e_isi, kMu_ap, e_mu, kPm2_ap, kPm1_ap, e_pm, kTn3_ap, kTn2_ap, kTn1_ap, kCE_ap, kComp_ap, e_comp, kTNot_ap, t_nott, kTAnd_ap, t_and, kTOr_ap, t_or, kTVal_ap, t_val, s_nil, kS3_ap, kS2_ap, kS1_ap, s_cons, r_nil, kRr2_ap, kRr1_ap, r_cons, c_nil, kCa_ap, kC2_ap, kC1f_ap, kC1t_ap, c_f, c_t, f_nil, kF_ap, f_cons, kI2_ap, kI1_ap, i_seq, kEn2_ap, kEn1_ap, i_enum, kG1_ap, i_rng1, kG2b_ap, kG2a_ap, i_rng2, st_v, st_o, kSt_ap, st_s, x_nm, kA2_ap, kA1_ap, x_tp, kPar_ap, x_par, kExp_ap, x_exp, kIf_ap, x_ife, kFor_ap, x_for, x_whl, kRet_ap, x_ret, x_retN, x_brk, x_cnt, x_pass, xs_nil, xs_cons, fo_nx, fo_ret, bind_ok_, st_ok_, opd_v, opd_s, opd_o, seq_nx, seq_ret, seq_brk, seq_cnt, optR, optV, optB, view, views, fin, lent, isO, setTg, setAll, setCA, kd, wipes, unwipe, frz, binOp, muOp, truth, seqOf, isNone, callF, lend, slots, back, isLent, List.map_cons, List.map_nil, List.length_cons, List.length_nil, List.cons_append, List.nil_append, List.replicate, Nat.reduceAdd, Nat.reduceSub, List.getElem?_cons_zero, List.getElem?_cons_succ, List.set_cons_zero, List.set_cons_succ, List.getD_cons_zero, List.getD_cons_succ, if_true, if_false, reduceIte, Option.map_some, Option.map_none, List.filterMap_nil, List.filterMap_cons, List.nodup_nil, id_eq, Bool.false_eq_true, nodup1, Wk_Γ, Wk_C, T.l, T.g, Rc.len_tx hl, hf2]
    refine ⟨_, _, rfl, List.cons_ne_nil _ _, ?_, fun c hc => ?_⟩
    · have := List.length_pos_iff.mpr h0
      simp only [List.length_cons, List.length_nil]
      omega
    · rw [List.mem_singleton.mp hc]
      exact (hf _).1
  | false =>
    simp only [e_int, e_str, e_bl, e_non, e_glob, vr_v, vr_o, e_var, kBin2_ap, kBin1_ap, e_bin, kNeg_ap, e_neg, kNot_ap, e_nott, kAnd_ap, e_and, kOr_ap, e_or, kCmp2_ap, kCmp1_ap, e_cmp, kCh3_ap, kCh2_ap, kCh1_ap, e_cmp2, kIte_ap, e_ite, kTup_ap, e_tup, kLst_ap, e_lst, kSub2_ap, kSub1_ap, e_sub, kSlc3_ap, kSlc2_ap, kSlc1_ap, e_slc, kSlL2_ap, kSlL1_ap, e_slcL, kSlH2_ap, kSlH1_ap, e_slcH, kRev_ap, e_rev, kCall_ap, e_call, kBi_ap, e_bi, kIsi_ap, e_isi, kMu_ap, e_mu, kPm2_ap, kPm1_ap, e_pm, kTn3_ap, kTn2_ap, kTn1_ap, kCE_ap, kComp_ap, e_comp, kTNot_ap, t_nott, kTAnd_ap, t_and, kTOr_ap, t_or, kTVal_ap, t_val, s_nil, kS3_ap, kS2_ap, kS1_ap, s_cons, r_nil, kRr2_ap, kRr1_ap, r_cons, c_nil, kCa_ap, kC2_ap, kC1f_ap, kC1t_ap, c_f, c_t, f_nil, kF_ap, f_cons, kI2_ap, kI1_ap, i_seq, kEn2_ap, kEn1_ap, i_enum, kG1_ap, i_rng1, kG2b_ap, kG2a_ap, i_rng2, st_v, st_o, kSt_ap, st_s, x_nm, kA2_ap, kA1_ap, x_tp, kPar_ap, x_par, kExp_ap, x_exp, kIf_ap, x_ife, kFor_ap, x_for, x_whl, kRet_ap, x_ret, x_retN, x_brk, x_cnt, x_pass, xs_nil, xs_cons, fo_nx, fo_ret, bind_ok_, st_ok_, opd_v, opd_s, opd_o, seq_nx, seq_ret, seq_brk, seq_cnt, optR, optV, optB, view, views, fin, lent, isO, setTg, setAll, setCA, kd, wipes, unwipe, frz, binOp, muOp, truth, seqOf, isNone, callF, lend, slots, back, isLent, List.map_cons, List.map_nil, List.length_cons, List.length_nil, List.cons_append, List.nil_append, List.replicate, Nat.reduceAdd, Nat.reduceSub, List.getElem?_cons_zero, List.getElem?_cons_succ, List.set_cons_zero, List.set_cons_succ, List.getD_cons_zero, List.getD_cons_succ, if_true, if_false, reduceIte, Option.map_some, Option.map_none, List.filterMap_nil, List.filterMap_cons, List.nodup_nil, id_eq, Bool.false_eq_true, nodup1, Wk_Γ, Wk_C]
    exact ⟨_, _, rfl, of_decide_eq_false h, hs.length_le, fun c hc => hs.subset hc⟩
theorem spelled_run (l : List Nat) (hl : l.length ≤ Lm) (h0 : l ≠ []) (es : List (List Nat)) (he : ∀ e ∈ es, e.length ≤ 4 ∧ ∀ c ∈ e, c ∈ l) (p : List Int) :
    ∃ s p', runFn fuel W f_law_spelled [.o (.lst (iL p)), .v (Tx l), .o (.lst (es.map Tx))] = .v (Tx s) [.lst (iL p'), .lst (es.map Tx)] ∧ s ≠ [] ∧ s.length ≤ 4 ∧ ∀ c ∈ s, c ∈ l := by
  obtain ⟨f, hf⟩ := pickT hl h0
  have hf2 : ∀ p, subOp (Tx l) (.int (tkR p (l.length : Int))) = some (Tx [f p]) := fun p => (hf p).2
  have rest : ∀ (q : List Int) (s0 : List Nat) (a b : Sl), s0.length ≤ 4 → (∀ c ∈ s0, c ∈ l) → ∃ s p', SO.fo [true, false, true] (exs fuel W (bodyOf 2 f_law_spelled.body) [.o (.lst (iL q)), .v (Tx l), .o (.lst (es.map Tx)), .v (Tx s0), a, b]) = .v (Tx s) [.lst (iL p'), .lst (es.map Tx)] ∧ s ≠ [] ∧ s.length ≤ 4 ∧ ∀ c ∈ s, c ∈ l := by
    intro q s0 a b h4 hc
    have t0 := tk_nn q 4
    have t1 := tk_lt q (m := 4) (by decide)
    have s62 : small62 (1 + tkR q 4) = true := small_int (by omega) (by omega)
    unfold f_law_spelled
    simp only [bodyOf, e_int, e_str, e_bl, e_non, e_glob, vr_v, vr_o, e_var, kBin2_ap, kBin1_ap, e_bin, kNeg_ap, e_neg, kNot_ap, e_nott, kAnd_ap, e_and, kOr_ap, e_or, kCmp2_ap, kCmp1_ap, e_cmp, kCh3_ap, kCh2_ap, kCh1_ap, e_cmp2, kIte_ap, e_ite, kTup_ap, e_tup, kLst_ap, e_lst, kSub2_ap, kSub1_ap, e_sub, kSlc3_ap, kSlc2_ap, kSlc1_ap, e_slc, kSlL2_ap, kSlL1_ap, e_slcL, kSlH2_ap, kSlH1_ap, e_slcH, kRev_ap, e_rev, kCall_ap, e_call, kBi_ap, e_bi, kIsi_ap, e_isi, kMu_ap, e_mu, kPm2_ap, kPm1_ap, e_pm, kTn3_ap, kTn2_ap, kTn1_ap, kCE_ap, kComp_ap, e_comp, kTNot_ap, t_nott, kTAnd_ap, t_and, kTOr_ap, t_or, kTVal_ap, t_val, s_nil, kS3_ap, kS2_ap, kS1_ap, s_cons, r_nil, kRr2_ap, kRr1_ap, r_cons, c_nil, kCa_ap, kC2_ap, kC1f_ap, kC1t_ap, c_f, c_t, f_nil, kF_ap, f_cons, kI2_ap, kI1_ap, i_seq, kEn2_ap, kEn1_ap, i_enum, kG1_ap, i_rng1, kG2b_ap, kG2a_ap, i_rng2, st_v, st_o, kSt_ap, st_s, x_nm, kA2_ap, kA1_ap, x_tp, kPar_ap, x_par, kExp_ap, x_exp, kIf_ap, x_ife, kFor_ap, x_for, x_whl, kRet_ap, x_ret, x_retN, x_brk, x_cnt, x_pass, xs_nil, xs_cons, fo_nx, fo_ret, bind_ok_, st_ok_, opd_v, opd_s, opd_o, seq_nx, seq_ret, seq_brk, seq_cnt, optR, optV, optB, view, views, fin, lent, isO, setTg, setAll, setCA, kd, wipes, unwipe, frz, binOp, muOp, truth, seqOf, isNone, callF, lend, slots, back, isLent, List.map_cons, List.map_nil, List.length_cons, List.length_nil, List.cons_append, List.nil_append, List.replicate, Nat.reduceAdd, Nat.reduceSub, List.getElem?_cons_zero, List.getElem?_cons_succ, List.set_cons_zero, List.set_cons_succ, List.getD_cons_zero, List.getD_cons_succ, if_true, if_false, reduceIte, Option.map_some, Option.map_none, List.filterMap_nil, List.filterMap_cons, List.nodup_nil, id_eq, Bool.false_eq_true, nodup1, Wk_Γ, Wk_C, T.l, T.g, s62]
    generalize hq : forL _ _ _ = o
    obtain ⟨ρ', rfl, q', s, a', rfl, k1, k2, k3⟩ := forL_ok hq (fun i ρ => ∃ q s a, ρ = [.o (.lst (iL q)), .v (Tx l), .o (.lst (es.map Tx)), .v (Tx s), a, b] ∧ s.length ≤ 4 ∧ (∀ c ∈ s, c ∈ l) ∧ (i ≠ 0 → s ≠ [])) (by
      rintro i x ρ hx ⟨q, s, a, rfl, k1, k2, k3⟩
      simp only [turnF_ap, e_int, e_str, e_bl, e_non, e_glob, vr_v, vr_o, e_var, kBin2_ap, kBin1_ap, e_bin, kNeg_ap, e_neg, kNot_ap, e_nott, kAnd_ap, e_and, kOr_ap, e_or, kCmp2_ap, kCmp1_ap, e_cmp, kCh3_ap, kCh2_ap, kCh1_ap, e_cmp2, kIte_ap, e_ite, kTup_ap, e_tup, kLst_ap, e_lst, kSub2_ap, kSub1_ap, e_sub, kSlc3_ap, kSlc2_ap, kSlc1_ap, e_slc, kSlL2_ap, kSlL1_ap, e_slcL, kSlH2_ap, kSlH1_ap, e_slcH, kRev_ap, e_rev, kCall_ap, e_call, kBi_ap, e_bi, kIsi_ap, e_isi, kMu_ap, e_mu, kPm2_ap, kPm1_ap, e_pm, kTn3_ap, kTn2_ap, kTn1_ap, kCE_ap, kComp_ap, e_comp, kTNot_ap, t_nott, kTAnd_ap, t_and, kTOr_ap, t_or, kTVal_ap, t_val, s_nil, kS3_ap, kS2_ap, kS1_ap, s_cons, r_nil, kRr2_ap, kRr1_ap, r_cons, c_nil, kCa_ap, kC2_ap, kC1f_ap, kC1t_ap, c_f, c_t, f_nil, kF_ap, f_cons, kI2_ap, kI1_ap, i_seq, kEn2_ap, kEn1_ap, i_enum, kG1_ap, i_rng1, kG2b_ap, kG2a_ap, i_rng2, st_v, st_o, kSt_ap, st_s, x_nm, kA2_ap, kA1_ap, x_tp, kPar_ap, x_par, kExp_ap, x_exp, kIf_ap, x_ife, kFor_ap, x_for, x_whl, kRet_ap, x_ret, x_retN, x_brk, x_cnt, x_pass, xs_nil, xs_cons, fo_nx, fo_ret, bind_ok_, st_ok_, opd_v, opd_s, opd_o, seq_nx, seq_ret, seq_brk, seq_cnt, optR, optV, optB, view, views, fin, lent, isO, setTg, setAll, setCA, kd, wipes, unwipe, frz, muOp, truth, seqOf, isNone, callF, lend, slots, back, isLent, List.map_cons, List.map_nil, List.length_cons, List.length_nil, List.cons_append, List.nil_append, List.replicate, Nat.reduceAdd, Nat.reduceSub, List.getElem?_cons_zero, List.getElem?_cons_succ, List.set_cons_zero, List.set_cons_succ, List.getD_cons_zero, List.getD_cons_succ, if_true, if_false, reduceIte, Option.map_some, Option.map_none, List.filterMap_nil, List.filterMap_cons, List.nodup_nil, id_eq, Bool.false_eq_true, nodup1, Wk_Γ, Wk_C, Rc.len_tx (lm_of (show s.length ≤ 1000000 by omega))]
      have hlt := lt_nat s.length 4
      rw [show ((4 : Nat) : Int) = 4 from rfl] at hlt
      cases h : decide (s.length < 4) with
      | true =>
        have h := of_decide_eq_true h
        simp only [e_int, e_str, e_bl, e_non, e_glob, vr_v, vr_o, e_var, kBin2_ap, kBin1_ap, e_bin, kNeg_ap, e_neg, kNot_ap, e_nott, kAnd_ap, e_and, kOr_ap, e_or, kCmp2_ap, kCmp1_ap, e_cmp, kCh3_ap, kCh2_ap, kCh1_ap, e_cmp2, kIte_ap, e_ite, kTup_ap, e_tup, kLst_ap, e_lst, kSub2_ap, kSub1_ap, e_sub, kSlc3_ap, kSlc2_ap, kSlc1_ap, e_slc, kSlL2_ap, kSlL1_ap, e_slcL, kSlH2_ap, kSlH1_ap, e_slcH, kRev_ap, e_rev, kCall_ap, e_call, kBi_ap, e_bi, kIsi_ap, e_isi, kMu_ap, e_mu, kPm2_ap, kPm1_ap, e_pm, kTn3_ap, kTn2_ap, kTn1_ap, kCE_ap, kComp_ap, e_comp, kTNot_ap, t_nott, kTAnd_ap, t_and, kTOr_ap, t_or, kTVal_ap, t_val, s_nil, kS3_ap, kS2_ap, kS1_ap, s_cons, r_nil, kRr2_ap, kRr1_ap, r_cons, c_nil, kCa_ap, kC2_ap, kC1f_ap, kC1t_ap, c_f, c_t, f_nil, kF_ap, f_cons, kI2_ap, kI1_ap, i_seq, kEn2_ap, kEn1_ap, i_enum, kG1_ap, i_rng1, kG2b_ap, kG2a_ap, i_rng2, st_v, st_o, kSt_ap, st_s, x_nm, kA2_ap, kA1_ap, x_tp, kPar_ap, x_par, kExp_ap, x_exp, kIf_ap, x_ife, kFor_ap, x_for, x_whl, kRet_ap, x_ret, x_retN, x_brk, x_cnt, x_pass, xs_nil, xs_cons, fo_nx, fo_ret, bind_ok_, st_ok_, opd_v, opd_s, opd_o, seq_nx, seq_ret, seq_brk, seq_cnt, optR, optV, optB, view, views, fin, lent, isO, setTg, setAll, setCA, kd, wipes, unwipe, frz, muOp, truth, seqOf, isNone, callF, lend, slots, back, isLent, List.map_cons, List.map_nil, List.length_cons, List.length_nil, List.cons_append, List.nil_append, List.replicate, Nat.reduceAdd, Nat.reduceSub, List.getElem?_cons_zero, List.getElem?_cons_succ, List.set_cons_zero, List.set_cons_succ, List.getD_cons_zero, List.getD_cons_succ, if_true, if_false, reduceIte, Option.map_some, Option.map_none, List.filterMap_nil, List.filterMap_cons, List.nodup_nil, id_eq, Bool.false_eq_true, nodup1, Wk_Γ, Wk_C, hlt, decide_eq_true h, T.l, T.g, Rc.len_tx hl, hf2, cat_tx (a := s) (b := [f q]) (lm_of (by simp only [List.length_cons, List.length_nil]; omega))]
        refine ⟨_, .inl rfl, _, s ++ [f q], _, rfl, by rw [List.length_append]; exact h, fun c hc => ?_, fun _ => by simp⟩
        rcases List.mem_append.mp hc with hc | hc
        · exact k2 c hc
        · rw [List.mem_singleton.mp hc]
          exact (hf _).1
      | false =>
        have h := of_decide_eq_false h
        simp only [e_int, e_str, e_bl, e_non, e_glob, vr_v, vr_o, e_var, kBin2_ap, kBin1_ap, e_bin, kNeg_ap, e_neg, kNot_ap, e_nott, kAnd_ap, e_and, kOr_ap, e_or, kCmp2_ap, kCmp1_ap, e_cmp, kCh3_ap, kCh2_ap, kCh1_ap, e_cmp2, kIte_ap, e_ite, kTup_ap, e_tup, kLst_ap, e_lst, kSub2_ap, kSub1_ap, e_sub, kSlc3_ap, kSlc2_ap, kSlc1_ap, e_slc, kSlL2_ap, kSlL1_ap, e_slcL, kSlH2_ap, kSlH1_ap, e_slcH, kRev_ap, e_rev, kCall_ap, e_call, kBi_ap, e_bi, kIsi_ap, e_isi, kMu_ap, e_mu, kPm2_ap, kPm1_ap, e_pm, kTn3_ap, kTn2_ap, kTn1_ap, kCE_ap, kComp_ap, e_comp, kTNot_ap, t_nott, kTAnd_ap, t_and, kTOr_ap, t_or, kTVal_ap, t_val, s_nil, kS3_ap, kS2_ap, kS1_ap, s_cons, r_nil, kRr2_ap, kRr1_ap, r_cons, c_nil, kCa_ap, kC2_ap, kC1f_ap, kC1t_ap, c_f, c_t, f_nil, kF_ap, f_cons, kI2_ap, kI1_ap, i_seq, kEn2_ap, kEn1_ap, i_enum, kG1_ap, i_rng1, kG2b_ap, kG2a_ap, i_rng2, st_v, st_o, kSt_ap, st_s, x_nm, kA2_ap, kA1_ap, x_tp, kPar_ap, x_par, kExp_ap, x_exp, kIf_ap, x_ife, kFor_ap, x_for, x_whl, kRet_ap, x_ret, x_retN, x_brk, x_cnt, x_pass, xs_nil, xs_cons, fo_nx, fo_ret, bind_ok_, st_ok_, opd_v, opd_s, opd_o, seq_nx, seq_ret, seq_brk, seq_cnt, optR, optV, optB, view, views, fin, lent, isO, setTg, setAll, setCA, kd, wipes, unwipe, frz, muOp, truth, seqOf, isNone, callF, lend, slots, back, isLent, List.map_cons, List.map_nil, List.length_cons, List.length_nil, List.cons_append, List.nil_append, List.replicate, Nat.reduceAdd, Nat.reduceSub, List.getElem?_cons_zero, List.getElem?_cons_succ, List.set_cons_zero, List.set_cons_succ, List.getD_cons_zero, List.getD_cons_succ, if_true, if_false, reduceIte, Option.map_some, Option.map_none, List.filterMap_nil, List.filterMap_cons, List.nodup_nil, id_eq, Bool.false_eq_true, nodup1, Wk_Γ, Wk_C, hlt, decide_eq_false h]
        exact ⟨_, .inl rfl, _, s, _, rfl, k1, k2, fun _ e => h (by rw [e]; decide)⟩) ⟨_, s0, _, rfl, h4, hc, fun h => absurd rfl h⟩
    rw [rng1L_len] at k3
    simp only [e_int, e_str, e_bl, e_non, e_glob, vr_v, vr_o, e_var, kBin2_ap, kBin1_ap, e_bin, kNeg_ap, e_neg, kNot_ap, e_nott, kAnd_ap, e_and, kOr_ap, e_or, kCmp2_ap, kCmp1_ap, e_cmp, kCh3_ap, kCh2_ap, kCh1_ap, e_cmp2, kIte_ap, e_ite, kTup_ap, e_tup, kLst_ap, e_lst, kSub2_ap, kSub1_ap, e_sub, kSlc3_ap, kSlc2_ap, kSlc1_ap, e_slc, kSlL2_ap, kSlL1_ap, e_slcL, kSlH2_ap, kSlH1_ap, e_slcH, kRev_ap, e_rev, kCall_ap, e_call, kBi_ap, e_bi, kIsi_ap, e_isi, kMu_ap, e_mu, kPm2_ap, kPm1_ap, e_pm, kTn3_ap, kTn2_ap, kTn1_ap, kCE_ap, kComp_ap, e_comp, kTNot_ap, t_nott, kTAnd_ap, t_and, kTOr_ap, t_or, kTVal_ap, t_val, s_nil, kS3_ap, kS2_ap, kS1_ap, s_cons, r_nil, kRr2_ap, kRr1_ap, r_cons, c_nil, kCa_ap, kC2_ap, kC1f_ap, kC1t_ap, c_f, c_t, f_nil, kF_ap, f_cons, kI2_ap, kI1_ap, i_seq, kEn2_ap, kEn1_ap, i_enum, kG1_ap, i_rng1, kG2b_ap, kG2a_ap, i_rng2, st_v, st_o, kSt_ap, st_s, x_nm, kA2_ap, kA1_ap, x_tp, kPar_ap, x_par, kExp_ap, x_exp, kIf_ap, x_ife, kFor_ap, x_for, x_whl, kRet_ap, x_ret, x_retN, x_brk, x_cnt, x_pass, xs_nil, xs_cons, fo_nx, fo_ret, bind_ok_, st_ok_, opd_v, opd_s, opd_o, seq_nx, seq_ret, seq_brk, seq_cnt, optR, optV, optB, view, views, fin, lent, isO, setTg, setAll, setCA, kd, wipes, unwipe, frz, binOp, muOp, truth, seqOf, isNone, callF, lend, slots, back, isLent, List.map_cons, List.map_nil, List.length_cons, List.length_nil, List.cons_append, List.nil_append, List.replicate, Nat.reduceAdd, Nat.reduceSub, List.getElem?_cons_zero, List.getElem?_cons_succ, List.set_cons_zero, List.set_cons_succ, List.getD_cons_zero, List.getD_cons_succ, if_true, if_false, reduceIte, Option.map_some, Option.map_none, List.filterMap_nil, List.filterMap_cons, List.nodup_nil, id_eq, Bool.false_eq_true, nodup1, Wk_Γ, Wk_C]
    exact ⟨_, _, rfl, k3 (by omega), k1, k2⟩
  have e0 : biOp .len [.list (es.map Tx)] = some (.v (.int (es.length : Nat))) := by
    show some (R.v (.int ((es.map Tx).length : Nat))) = _
    rw [List.length_map]
  unfold f_law_spelled at rest
  simp only [bodyOf, e_int, e_str, e_bl, e_non, e_glob, vr_v, vr_o, e_var, kBin2_ap, kBin1_ap, e_bin, kNeg_ap, e_neg, kNot_ap, e_nott, kAnd_ap, e_and, kOr_ap, e_or, kCmp2_ap, kCmp1_ap, e_cmp, kCh3_ap, kCh2_ap, kCh1_ap, e_cmp2, kIte_ap, e_ite, kTup_ap, e_tup, kLst_ap, e_lst, kSub2_ap, kSub1_ap, e_sub, kSlc3_ap, kSlc2_ap, kSlc1_ap, e_slc, kSlL2_ap, kSlL1_ap, e_slcL, kSlH2_ap, kSlH1_ap, e_slcH, kRev_ap, e_rev, kCall_ap, e_call, kBi_ap, e_bi, kIsi_ap, e_isi, kMu_ap, e_mu, kPm2_ap, kPm1_ap, e_pm, kTn3_ap, kTn2_ap, kTn1_ap, kCE_ap, kComp_ap, e_comp, kTNot_ap, t_nott, kTAnd_ap, t_and, kTOr_ap, t_or, kTVal_ap, t_val, s_nil, kS3_ap, kS2_ap, kS1_ap, s_cons, r_nil, kRr2_ap, kRr1_ap, r_cons, c_nil, kCa_ap, kC2_ap, kC1f_ap, kC1t_ap, c_f, c_t, f_nil, kF_ap, f_cons, kI2_ap, kI1_ap, i_seq, kEn2_ap, kEn1_ap, i_enum, kG1_ap, i_rng1, kG2b_ap, kG2a_ap, i_rng2, st_v, st_o, kSt_ap, st_s, x_nm, kA2_ap, kA1_ap, x_tp, kPar_ap, x_par, kExp_ap, x_exp, kIf_ap, x_ife, kFor_ap, x_for, x_whl, kRet_ap, x_ret, x_retN, x_brk, x_cnt, x_pass, xs_nil, xs_cons, fo_nx, fo_ret, bind_ok_, st_ok_, opd_v, opd_s, opd_o, seq_nx, seq_ret, seq_brk, seq_cnt, optR, optV, optB, view, views, fin, lent, isO, setTg, setAll, setCA, kd, wipes, unwipe, frz, binOp, muOp, truth, seqOf, isNone, callF, lend, slots, back, isLent, List.map_cons, List.map_nil, List.length_cons, List.length_nil, List.cons_append, List.nil_append, List.replicate, Nat.reduceAdd, Nat.reduceSub, List.getElem?_cons_zero, List.getElem?_cons_succ, List.set_cons_zero, List.set_cons_succ, List.getD_cons_zero, List.getD_cons_succ, if_true, if_false, reduceIte, Option.map_some, Option.map_none, List.filterMap_nil, List.filterMap_cons, List.nodup_nil, id_eq, Bool.false_eq_true, nodup1, Wk_Γ, Wk_C, T.l, T.g] at rest
  unfold f_law_spelled runFn
  simp only [e_int, e_str, e_bl, e_non, e_glob, vr_v, vr_o, e_var, kBin2_ap, kBin1_ap, e_bin, kNeg_ap, e_neg, kNot_ap, e_nott, kAnd_ap, e_and, kOr_ap, e_or, kCmp2_ap, kCmp1_ap, e_cmp, kCh3_ap, kCh2_ap, kCh1_ap, e_cmp2, kIte_ap, e_ite, kTup_ap, e_tup, kLst_ap, e_lst, kSub2_ap, kSub1_ap, e_sub, kSlc3_ap, kSlc2_ap, kSlc1_ap, e_slc, kSlL2_ap, kSlL1_ap, e_slcL, kSlH2_ap, kSlH1_ap, e_slcH, kRev_ap, e_rev, kCall_ap, e_call, kBi_ap, e_bi, kIsi_ap, e_isi, kMu_ap, e_mu, kPm2_ap, kPm1_ap, e_pm, kTn3_ap, kTn2_ap, kTn1_ap, kCE_ap, kComp_ap, e_comp, kTNot_ap, t_nott, kTAnd_ap, t_and, kTOr_ap, t_or, kTVal_ap, t_val, s_nil, kS3_ap, kS2_ap, kS1_ap, s_cons, r_nil, kRr2_ap, kRr1_ap, r_cons, c_nil, kCa_ap, kC2_ap, kC1f_ap, kC1t_ap, c_f, c_t, f_nil, kF_ap, f_cons, kI2_ap, kI1_ap, i_seq, kEn2_ap, kEn1_ap, i_enum, kG1_ap, i_rng1, kG2b_ap, kG2a_ap, i_rng2, st_v, st_o, kSt_ap, st_s, x_nm, kA2_ap, kA1_ap, x_tp, kPar_ap, x_par, kExp_ap, x_exp, kIf_ap, x_ife, kFor_ap, x_for, x_whl, kRet_ap, x_ret, x_retN, x_brk, x_cnt, x_pass, xs_nil, xs_cons, fo_nx, fo_ret, bind_ok_, st_ok_, opd_v, opd_s, opd_o, seq_nx, seq_ret, seq_brk, seq_cnt, optR, optV, optB, view, views, fin, lent, isO, setTg, setAll, setCA, kd, wipes, unwipe, frz, binOp, muOp, truth, seqOf, isNone, callF, lend, slots, back, isLent, List.map_cons, List.map_nil, List.length_cons, List.length_nil, List.cons_append, List.nil_append, List.replicate, Nat.reduceAdd, Nat.reduceSub, List.getElem?_cons_zero, List.getElem?_cons_succ, List.set_cons_zero, List.set_cons_succ, List.getD_cons_zero, List.getD_cons_succ, if_true, if_false, reduceIte, Option.map_some, Option.map_none, List.filterMap_nil, List.filterMap_cons, List.nodup_nil, id_eq, Bool.false_eq_true, nodup1, Wk_Γ, Wk_C, e0, gt_nat0, empty_tx]
  cases h : decide (0 < es.length) with
  | false =>
    simp only [e_int, e_str, e_bl, e_non, e_glob, vr_v, vr_o, e_var, kBin2_ap, kBin1_ap, e_bin, kNeg_ap, e_neg, kNot_ap, e_nott, kAnd_ap, e_and, kOr_ap, e_or, kCmp2_ap, kCmp1_ap, e_cmp, kCh3_ap, kCh2_ap, kCh1_ap, e_cmp2, kIte_ap, e_ite, kTup_ap, e_tup, kLst_ap, e_lst, kSub2_ap, kSub1_ap, e_sub, kSlc3_ap, kSlc2_ap, kSlc1_ap, e_slc, kSlL2_ap, kSlL1_ap, e_slcL, kSlH2_ap, kSlH1_ap, e_slcH, kRev_ap, e_rev, kCall_ap, e_call, kBi_ap, e_bi, kIsi_ap, e_isi, kMu_ap, e_mu, kPm2_ap, kPm1_ap, e_pm, kTn3_ap, kTn2_ap, kTn1_ap, kCE_ap, kComp_ap, e_comp, kTNot_ap, t_nott, kTAnd_ap, t_and, kTOr_ap, t_or, kTVal_ap, t_val, s_nil, kS3_ap, kS2_ap, kS1_ap, s_cons, r_nil, kRr2_ap, kRr1_ap, r_cons, c_nil, kCa_ap, kC2_ap, kC1f_ap, kC1t_ap, c_f, c_t, f_nil, kF_ap, f_cons, kI2_ap, kI1_ap, i_seq, kEn2_ap, kEn1_ap, i_enum, kG1_ap, i_rng1, kG2b_ap, kG2a_ap, i_rng2, st_v, st_o, kSt_ap, st_s, x_nm, kA2_ap, kA1_ap, x_tp, kPar_ap, x_par, kExp_ap, x_exp, kIf_ap, x_ife, kFor_ap, x_for, x_whl, kRet_ap, x_ret, x_retN, x_brk, x_cnt, x_pass, xs_nil, xs_cons, fo_nx, fo_ret, bind_ok_, st_ok_, opd_v, opd_s, opd_o, seq_nx, seq_ret, seq_brk, seq_cnt, optR, optV, optB, view, views, fin, lent, isO, setTg, setAll, setCA, kd, wipes, unwipe, frz, binOp, muOp, truth, seqOf, isNone, callF, lend, slots, back, isLent, List.map_cons, List.map_nil, List.length_cons, List.length_nil, List.cons_append, List.nil_append, List.replicate, Nat.reduceAdd, Nat.reduceSub, List.getElem?_cons_zero, List.getElem?_cons_succ, List.set_cons_zero, List.set_cons_succ, List.getD_cons_zero, List.getD_cons_succ, if_true, if_false, reduceIte, Option.map_some, Option.map_none, List.filterMap_nil, List.filterMap_cons, List.nodup_nil, id_eq, Bool.false_eq_true, nodup1, Wk_Γ, Wk_C, T.l, T.g]
    exact rest _ [] _ _ (by decide) (fun c h => by cases h)
  | true =>
    have h := of_decide_eq_true h
    simp only [e_int, e_str, e_bl, e_non, e_glob, vr_v, vr_o, e_var, kBin2_ap, kBin1_ap, e_bin, kNeg_ap, e_neg, kNot_ap, e_nott, kAnd_ap, e_and, kOr_ap, e_or, kCmp2_ap, kCmp1_ap, e_cmp, kCh3_ap, kCh2_ap, kCh1_ap, e_cmp2, kIte_ap, e_ite, kTup_ap, e_tup, kLst_ap, e_lst, kSub2_ap, kSub1_ap, e_sub, kSlc3_ap, kSlc2_ap, kSlc1_ap, e_slc, kSlL2_ap, kSlL1_ap, e_slcL, kSlH2_ap, kSlH1_ap, e_slcH, kRev_ap, e_rev, kCall_ap, e_call, kBi_ap, e_bi, kIsi_ap, e_isi, kMu_ap, e_mu, kPm2_ap, kPm1_ap, e_pm, kTn3_ap, kTn2_ap, kTn1_ap, kCE_ap, kComp_ap, e_comp, kTNot_ap, t_nott, kTAnd_ap, t_and, kTOr_ap, t_or, kTVal_ap, t_val, s_nil, kS3_ap, kS2_ap, kS1_ap, s_cons, r_nil, kRr2_ap, kRr1_ap, r_cons, c_nil, kCa_ap, kC2_ap, kC1f_ap, kC1t_ap, c_f, c_t, f_nil, kF_ap, f_cons, kI2_ap, kI1_ap, i_seq, kEn2_ap, kEn1_ap, i_enum, kG1_ap, i_rng1, kG2b_ap, kG2a_ap, i_rng2, st_v, st_o, kSt_ap, st_s, x_nm, kA2_ap, kA1_ap, x_tp, kPar_ap, x_par, kExp_ap, x_exp, kIf_ap, x_ife, kFor_ap, x_for, x_whl, kRet_ap, x_ret, x_retN, x_brk, x_cnt, x_pass, xs_nil, xs_cons, fo_nx, fo_ret, bind_ok_, st_ok_, opd_v, opd_s, opd_o, seq_nx, seq_ret, seq_brk, seq_cnt, optR, optV, optB, view, views, fin, lent, isO, setTg, setAll, setCA, kd, wipes, unwipe, frz, binOp, muOp, truth, seqOf, isNone, callF, lend, slots, back, isLent, List.map_cons, List.map_nil, List.length_cons, List.length_nil, List.cons_append, List.nil_append, List.replicate, Nat.reduceAdd, Nat.reduceSub, List.getElem?_cons_zero, List.getElem?_cons_succ, List.set_cons_zero, List.set_cons_succ, List.getD_cons_zero, List.getD_cons_succ, if_true, if_false, reduceIte, Option.map_some, Option.map_none, List.filterMap_nil, List.filterMap_cons, List.nodup_nil, id_eq, Bool.false_eq_true, nodup1, Wk_Γ, Wk_C, T.l, T.g, c_eq0]
    cases h2 : decide (tkR p 2 = 0) with
    | false =>
      simp only [e_int, e_str, e_bl, e_non, e_glob, vr_v, vr_o, e_var, kBin2_ap, kBin1_ap, e_bin, kNeg_ap, e_neg, kNot_ap, e_nott, kAnd_ap, e_and, kOr_ap, e_or, kCmp2_ap, kCmp1_ap, e_cmp, kCh3_ap, kCh2_ap, kCh1_ap, e_cmp2, kIte_ap, e_ite, kTup_ap, e_tup, kLst_ap, e_lst, kSub2_ap, kSub1_ap, e_sub, kSlc3_ap, kSlc2_ap, kSlc1_ap, e_slc, kSlL2_ap, kSlL1_ap, e_slcL, kSlH2_ap, kSlH1_ap, e_slcH, kRev_ap, e_rev, kCall_ap, e_call, kBi_ap, e_bi, kIsi_ap, e_isi, kMu_ap, e_mu, kPm2_ap, kPm1_ap, e_pm, kTn3_ap, kTn2_ap, kTn1_ap, kCE_ap, kComp_ap, e_comp, kTNot_ap, t_nott, kTAnd_ap, t_and, kTOr_ap, t_or, kTVal_ap, t_val, s_nil, kS3_ap, kS2_ap, kS1_ap, s_cons, r_nil, kRr2_ap, kRr1_ap, r_cons, c_nil, kCa_ap, kC2_ap, kC1f_ap, kC1t_ap, c_f, c_t, f_nil, kF_ap, f_cons, kI2_ap, kI1_ap, i_seq, kEn2_ap, kEn1_ap, i_enum, kG1_ap, i_rng1, kG2b_ap, kG2a_ap, i_rng2, st_v, st_o, kSt_ap, st_s, x_nm, kA2_ap, kA1_ap, x_tp, kPar_ap, x_par, kExp_ap, x_exp, kIf_ap, x_ife, kFor_ap, x_for, x_whl, kRet_ap, x_ret, x_retN, x_brk, x_cnt, x_pass, xs_nil, xs_cons, fo_nx, fo_ret, bind_ok_, st_ok_, opd_v, opd_s, opd_o, seq_nx, seq_ret, seq_brk, seq_cnt, optR, optV, optB, view, views, fin, lent, isO, setTg, setAll, setCA, kd, wipes, unwipe, frz, binOp, muOp, truth, seqOf, isNone, callF, lend, slots, back, isLent, List.map_cons, List.map_nil, List.length_cons, List.length_nil, List.cons_append, List.nil_append, List.replicate, Nat.reduceAdd, Nat.reduceSub, List.getElem?_cons_zero, List.getElem?_cons_succ, List.set_cons_zero, List.set_cons_succ, List.getD_cons_zero, List.getD_cons_succ, if_true, if_false, reduceIte, Option.map_some, Option.map_none, List.filterMap_nil, List.filterMap_cons, List.nodup_nil, id_eq, Bool.false_eq_true, nodup1, Wk_Γ, Wk_C, T.l, T.g]
      exact rest _ [] _ _ (by decide) (fun c h => by cases h)
    | true =>
      have hn : tkN (tkP p 2) (es.length : Int) < es.length := tkN_lt _ h
      obtain ⟨e, he1⟩ : ∃ e, es[tkN (tkP p 2) (es.length : Int)]? = some e := ⟨_, List.getElem?_eq_getElem hn⟩
      have he2 : subOp (.list (es.map Tx)) (.int (tkR (tkP p 2) (es.length : Int))) = some (Tx e) := by
        rw [tk_N]
        exact atI_nat (by rw [List.getElem?_map, he1]; rfl)
      obtain ⟨h3, h4⟩ := he e (List.mem_of_getElem? he1)
      have hel : e.length ≤ Lm := lm_of (by omega)
      have hcut : ∀ q : List Int, slcOp (Tx e) none (some (tkR q ((e.length : Int) + 1))) = some (.v (Tx (e.take (tkN q ((e.length : Int) + 1))))) := fun q => by
        rw [tk_N]
        exact slcH_tx hel _
      simp only [e_int, e_str, e_bl, e_non, e_glob, vr_v, vr_o, e_var, kBin2_ap, kBin1_ap, e_bin, kNeg_ap, e_neg, kNot_ap, e_nott, kAnd_ap, e_and, kOr_ap, e_or, kCmp2_ap, kCmp1_ap, e_cmp, kCh3_ap, kCh2_ap, kCh1_ap, e_cmp2, kIte_ap, e_ite, kTup_ap, e_tup, kLst_ap, e_lst, kSub2_ap, kSub1_ap, e_sub, kSlc3_ap, kSlc2_ap, kSlc1_ap, e_slc, kSlL2_ap, kSlL1_ap, e_slcL, kSlH2_ap, kSlH1_ap, e_slcH, kRev_ap, e_rev, kCall_ap, e_call, kBi_ap, e_bi, kIsi_ap, e_isi, kMu_ap, e_mu, kPm2_ap, kPm1_ap, e_pm, kTn3_ap, kTn2_ap, kTn1_ap, kCE_ap, kComp_ap, e_comp, kTNot_ap, t_nott, kTAnd_ap, t_and, kTOr_ap, t_or, kTVal_ap, t_val, s_nil, kS3_ap, kS2_ap, kS1_ap, s_cons, r_nil, kRr2_ap, kRr1_ap, r_cons, c_nil, kCa_ap, kC2_ap, kC1f_ap, kC1t_ap, c_f, c_t, f_nil, kF_ap, f_cons, kI2_ap, kI1_ap, i_seq, kEn2_ap, kEn1_ap, i_enum, kG1_ap, i_rng1, kG2b_ap, kG2a_ap, i_rng2, st_v, st_o, kSt_ap, st_s, x_nm, kA2_ap, kA1_ap, x_tp, kPar_ap, x_par, kExp_ap, x_exp, kIf_ap, x_ife, kFor_ap, x_for, x_whl, kRet_ap, x_ret, x_retN, x_brk, x_cnt, x_pass, xs_nil, xs_cons, fo_nx, fo_ret, bind_ok_, st_ok_, opd_v, opd_s, opd_o, seq_nx, seq_ret, seq_brk, seq_cnt, optR, optV, optB, view, views, fin, lent, isO, setTg, setAll, setCA, kd, wipes, unwipe, frz, binOp, muOp, truth, seqOf, isNone, callF, lend, slots, back, isLent, List.map_cons, List.map_nil, List.length_cons, List.length_nil, List.cons_append, List.nil_append, List.replicate, Nat.reduceAdd, Nat.reduceSub, List.getElem?_cons_zero, List.getElem?_cons_succ, List.set_cons_zero, List.set_cons_succ, List.getD_cons_zero, List.getD_cons_succ, if_true, if_false, reduceIte, Option.map_some, Option.map_none, List.filterMap_nil, List.filterMap_cons, List.nodup_nil, id_eq, Bool.false_eq_true, nodup1, Wk_Γ, Wk_C, e0, T.l, T.g, he2, Rc.len_tx hel, hcut]
      exact rest _ (e.take (tkN (tkP (tkP p 2) (es.length : Int)) ((e.length : Int) + 1))) _ _ (by rw [List.length_take]; omega) fun c hc => h4 c (List.mem_of_mem_take hc)
theorem rules_run (l4 : W.lm 4 = [true, false]) (l7 : W.lm 7 = [true, false]) (l71 : W.lm 71 = [true, false, true]) (l : List Nat) (hl : l.length ≤ 100) (hl0 : l ≠ []) (hla : ∀ c ∈ l, c ∈ abc)
    (hlot : ∀ p, ∃ s p', W.Γ 4 [.o (.lst (iL p)), .v (Tx l)] = .v (Tx s) [.lst (iL p')] ∧ s.Sublist l)
    (hsome : ∀ p, ∃ s p', W.Γ 7 [.o (.lst (iL p)), .v (Tx l)] = .v (Tx s) [.lst (iL p')] ∧ s ≠ [] ∧ s.length ≤ l.length ∧ ∀ c ∈ s, c ∈ l)
    (hspell : ∀ (es : List (List Nat)) (p : List Int), (∀ e ∈ es, e.length ≤ 4 ∧ ∀ c ∈ e, c ∈ l) → ∃ s p', W.Γ 71 [.o (.lst (iL p)), .v (Tx l), .o (.lst (es.map Tx))] = .v (Tx s) [.lst (iL p'), .lst (es.map Tx)] ∧ s ≠ [] ∧ s.length ≤ 4 ∧ ∀ c ∈ s, c ∈ l)
    (ks : List (List Nat)) (hk0 : ks ≠ []) (hk : ∀ k ∈ ks, PyData.strOk (tx k) = true) (n : Int) (hn0 : 0 ≤ n) (hn : n ≤ 6) (p : List Int) :
    ∃ rs p', runFn fuel W f_law_rules [.o (.lst (iL p)), .v (Tx l), .v (.list (ks.map Tx)), .v (.int n)] = .v (rulesD rs) [.lst (iL p')] ∧ rs.length = n.toNat ∧ ∀ r ∈ rs, Dr r := by
  have s62 : small62 n = true := small_int (by omega) (by omega)
  obtain ⟨f4, g4, h4⟩ := skol hlot
  obtain ⟨f7, g7, h7⟩ := skol hsome
  have e0 : biOp .len [.list (ks.map Tx)] = some (.v (.int (ks.length : Nat))) := by
    show some (R.v (.int ((ks.map Tx).length : Nat))) = _
    rw [List.length_map]
  obtain ⟨fk, hfk⟩ : ∃ fk : List Int → List Nat, ∀ q, fk q ∈ ks ∧ subOp (.list (ks.map Tx)) (.int (tkR q (ks.length : Int))) = some (Tx (fk q)) :=
    skol1 (P := fun q k => k ∈ ks ∧ subOp (.list (ks.map Tx)) (.int (tkR q (ks.length : Int))) = some (Tx k)) fun q => by
      have hj : tkN q (ks.length : Int) < ks.length := tkN_lt q (List.length_pos_iff.mpr hk0)
      refine ⟨ks[tkN q (ks.length : Int)], List.getElem_mem _, ?_⟩
      rw [tk_N]
      exact atI_nat (by rw [List.getElem?_map, List.getElem?_eq_getElem hj]; rfl)
  have lt2 : ∀ a : Int, cmpOp .Lt (.int a) (.int 2) = some (ltI a 2) := fun _ => rfl
  have app : ∀ (xs : List PyData) (d : PyData), xs.length ≤ 100 → muOp .append xs [d] = some (.none, xs ++ [d]) := fun xs d h => by
    show (if xs.length < Lm then _ else _) = _
    rw [if_pos (Nat.lt_of_le_of_lt h (by decide))]
  unfold f_law_rules runFn
  simp only [e_int, e_str, e_bl, e_non, e_glob, vr_v, vr_o, e_var, kBin2_ap, kBin1_ap, e_bin, kNeg_ap, e_neg, kNot_ap, e_nott, kAnd_ap, e_and, kOr_ap, e_or, kCmp2_ap, kCmp1_ap, e_cmp, kCh3_ap, kCh2_ap, kCh1_ap, e_cmp2, kIte_ap, e_ite, kTup_ap, e_tup, kLst_ap, e_lst, kSub2_ap, kSub1_ap, e_sub, kSlc3_ap, kSlc2_ap, kSlc1_ap, e_slc, kSlL2_ap, kSlL1_ap, e_slcL, kSlH2_ap, kSlH1_ap, e_slcH, kRev_ap, e_rev, kCall_ap, e_call, kBi_ap, e_bi, kIsi_ap, e_isi, kMu_ap, e_mu, kPm2_ap, kPm1_ap, e_pm, kTn3_ap, kTn2_ap, kTn1_ap, kCE_ap, kComp_ap, e_comp, kTNot_ap, t_nott, kTAnd_ap, t_and, kTOr_ap, t_or, kTVal_ap, t_val, s_nil, kS3_ap, kS2_ap, kS1_ap, s_cons, r_nil, kRr2_ap, kRr1_ap, r_cons, c_nil, kCa_ap, kC2_ap, kC1f_ap, kC1t_ap, c_f, c_t, f_nil, kF_ap, f_cons, kI2_ap, kI1_ap, i_seq, kEn2_ap, kEn1_ap, i_enum, kG1_ap, i_rng1, kG2b_ap, kG2a_ap, i_rng2, st_v, st_o, kSt_ap, st_s, x_nm, kA2_ap, kA1_ap, x_tp, kPar_ap, x_par, kExp_ap, x_exp, kIf_ap, x_ife, kFor_ap, x_for, x_whl, kRet_ap, x_ret, x_retN, x_brk, x_cnt, x_pass, xs_nil, xs_cons, fo_nx, fo_ret, bind_ok_, st_ok_, opd_v, opd_s, opd_o, seq_nx, seq_ret, seq_brk, seq_cnt, optR, optV, optB, view, views, fin, lent, isO, setTg, setAll, setCA, kd, wipes, unwipe, frz, binOp, muOp, truth, seqOf, isNone, callF, lend, slots, back, isLent, List.map_cons, List.map_nil, List.length_cons, List.length_nil, List.cons_append, List.nil_append, List.replicate, Nat.reduceAdd, Nat.reduceSub, List.getElem?_cons_zero, List.getElem?_cons_succ, List.set_cons_zero, List.set_cons_succ, List.getD_cons_zero, List.getD_cons_succ, if_true, if_false, reduceIte, Option.map_some, Option.map_none, List.filterMap_nil, List.filterMap_cons, List.nodup_nil, id_eq, Bool.false_eq_true, nodup1, Wk_Γ, Wk_C, s62]
  generalize hq : forL _ _ _ = o
  obtain ⟨ρ', rfl, q, rs, es, a4, a7, a8, a9, a10, rfl, i1, i2, i3, i4⟩ := forL_ok hq (fun i ρ => ∃ (q : List Int) (rs : List Rul) (es : List (List Nat)) (a4 a7 a8 a9 a10 : Sl), ρ = [.o (.lst (iL q)), .v (Tx l), .v (.list (ks.map Tx)), .v (.int n), a4, .o (.lst (rs.map enc)), .o (.lst (es.map Tx)), a7, a8, a9, a10] ∧ rs.length = i ∧ (∀ r ∈ rs, Dr r) ∧ es.length ≤ i ∧ ∀ e ∈ es, e.length ≤ 4 ∧ ∀ c ∈ e, c ∈ l) (by
    rintro i x ρ hx ⟨q, rs, es, a4, a7, a8, a9, a10, rfl, i1, i2, i3, i4⟩
    obtain ⟨rfl, hi⟩ := rng1L_get hx
    obtain ⟨k1, k2⟩ := hfk q
    simp only [turnF_ap, e_int, e_str, e_bl, e_non, e_glob, vr_v, vr_o, e_var, kBin2_ap, kBin1_ap, e_bin, kNeg_ap, e_neg, kNot_ap, e_nott, kAnd_ap, e_and, kOr_ap, e_or, kCmp2_ap, kCmp1_ap, e_cmp, kCh3_ap, kCh2_ap, kCh1_ap, e_cmp2, kIte_ap, e_ite, kTup_ap, e_tup, kLst_ap, e_lst, kSub2_ap, kSub1_ap, e_sub, kSlc3_ap, kSlc2_ap, kSlc1_ap, e_slc, kSlL2_ap, kSlL1_ap, e_slcL, kSlH2_ap, kSlH1_ap, e_slcH, kRev_ap, e_rev, kCall_ap, e_call, kBi_ap, e_bi, kIsi_ap, e_isi, kMu_ap, e_mu, kPm2_ap, kPm1_ap, e_pm, kTn3_ap, kTn2_ap, kTn1_ap, kCE_ap, kComp_ap, e_comp, kTNot_ap, t_nott, kTAnd_ap, t_and, kTOr_ap, t_or, kTVal_ap, t_val, s_nil, kS3_ap, kS2_ap, kS1_ap, s_cons, r_nil, kRr2_ap, kRr1_ap, r_cons, c_nil, kCa_ap, kC2_ap, kC1f_ap, kC1t_ap, c_f, c_t, f_nil, kF_ap, f_cons, kI2_ap, kI1_ap, i_seq, kEn2_ap, kEn1_ap, i_enum, kG1_ap, i_rng1, kG2b_ap, kG2a_ap, i_rng2, st_v, st_o, kSt_ap, st_s, x_nm, kA2_ap, kA1_ap, x_tp, kPar_ap, x_par, kExp_ap, x_exp, kIf_ap, x_ife, kFor_ap, x_for, x_whl, kRet_ap, x_ret, x_retN, x_brk, x_cnt, x_pass, xs_nil, xs_cons, fo_nx, fo_ret, bind_ok_, st_ok_, opd_v, opd_s, opd_o, seq_nx, seq_ret, seq_brk, seq_cnt, optR, optV, optB, view, views, fin, lent, isO, setTg, setAll, setCA, kd, wipes, unwipe, frz, binOp, truth, seqOf, isNone, callF, lend, slots, back, isLent, List.map_cons, List.map_nil, List.length_cons, List.length_nil, List.cons_append, List.nil_append, List.replicate, Nat.reduceAdd, Nat.reduceSub, List.getElem?_cons_zero, List.getElem?_cons_succ, List.set_cons_zero, List.set_cons_succ, List.getD_cons_zero, List.getD_cons_succ, if_true, if_false, reduceIte, Option.map_some, Option.map_none, List.filterMap_nil, List.filterMap_cons, List.nodup_nil, id_eq, Bool.false_eq_true, nodup1, Wk_Γ, Wk_C, T.l, T.g, e0, k2, lt2]
    have kin := hk _ k1
    cases h5 : ltI (tkR (tkP q (ks.length : Int)) 5) 2 with
    | true =>
      obtain ⟨s, p', s1, s2, s3, s4⟩ := hspell es (tkP (tkP q (ks.length : Int)) 5) i4
      simp only [e_int, e_str, e_bl, e_non, e_glob, vr_v, vr_o, e_var, kBin2_ap, kBin1_ap, e_bin, kNeg_ap, e_neg, kNot_ap, e_nott, kAnd_ap, e_and, kOr_ap, e_or, kCmp2_ap, kCmp1_ap, e_cmp, kCh3_ap, kCh2_ap, kCh1_ap, e_cmp2, kIte_ap, e_ite, kTup_ap, e_tup, kLst_ap, e_lst, kSub2_ap, kSub1_ap, e_sub, kSlc3_ap, kSlc2_ap, kSlc1_ap, e_slc, kSlL2_ap, kSlL1_ap, e_slcL, kSlH2_ap, kSlH1_ap, e_slcH, kRev_ap, e_rev, kCall_ap, e_call, kBi_ap, e_bi, kIsi_ap, e_isi, kMu_ap, e_mu, kPm2_ap, kPm1_ap, e_pm, kTn3_ap, kTn2_ap, kTn1_ap, kCE_ap, kComp_ap, e_comp, kTNot_ap, t_nott, kTAnd_ap, t_and, kTOr_ap, t_or, kTVal_ap, t_val, s_nil, kS3_ap, kS2_ap, kS1_ap, s_cons, r_nil, kRr2_ap, kRr1_ap, r_cons, c_nil, kCa_ap, kC2_ap, kC1f_ap, kC1t_ap, c_f, c_t, f_nil, kF_ap, f_cons, kI2_ap, kI1_ap, i_seq, kEn2_ap, kEn1_ap, i_enum, kG1_ap, i_rng1, kG2b_ap, kG2a_ap, i_rng2, st_v, st_o, kSt_ap, st_s, x_nm, kA2_ap, kA1_ap, x_tp, kPar_ap, x_par, kExp_ap, x_exp, kIf_ap, x_ife, kFor_ap, x_for, x_whl, kRet_ap, x_ret, x_retN, x_brk, x_cnt, x_pass, xs_nil, xs_cons, fo_nx, fo_ret, bind_ok_, st_ok_, opd_v, opd_s, opd_o, seq_nx, seq_ret, seq_brk, seq_cnt, optR, optV, optB, view, views, fin, lent, isO, setTg, setAll, setCA, kd, wipes, unwipe, frz, binOp, truth, seqOf, isNone, callF, lend, slots, back, isLent, List.map_cons, List.map_nil, List.length_cons, List.length_nil, List.cons_append, List.nil_append, List.replicate, Nat.reduceAdd, Nat.reduceSub, List.getElem?_cons_zero, List.getElem?_cons_succ, List.set_cons_zero, List.set_cons_succ, List.getD_cons_zero, List.getD_cons_succ, if_true, if_false, reduceIte, Option.map_some, Option.map_none, List.filterMap_nil, List.filterMap_cons, List.nodup_nil, id_eq, Bool.false_eq_true, nodup1, Wk_Γ, Wk_C, h5, l71, s1, show ([0, 6] : List Nat).Nodup from by decide, app (es.map Tx) (Tx s) (by rw [List.length_map]; omega), app (rs.map enc) (.tuple [.str "spell", Tx (fk q), Tx s]) (by rw [List.length_map]; omega)]
      refine ⟨_, .inl rfl, p', rs ++ [⟨true, fk q, s, [], []⟩], es ++ [s], _, _, _, _, _, by (rw [List.map_append, List.map_append]; try rfl), by rw [List.length_append, i1]; rfl, fun r hr => ?_, by rw [List.length_append]; simp only [List.length_cons, List.length_nil]; omega, fun e he => ?_⟩
      · rcases List.mem_append.mp hr with hr | hr
        · exact i2 r hr
        · rw [List.mem_singleton.mp hr]
          exact ⟨s2, Nat.le_trans s3 (by decide), fun c hc => hla c (s4 c hc), Nat.zero_le _, (fun c hc => by cases hc), kin⟩
      · rcases List.mem_append.mp he with he | he
        · exact i4 e he
        · rw [List.mem_singleton.mp he]
          exact ⟨s3, s4⟩
    | false =>
      have fin : ∀ (q' : List Int) (a b c : List Nat) (x4 x7 x8 x9 x10 : Sl), a ≠ [] → a.length ≤ l.length → (∀ x ∈ a, x ∈ l) → b.Sublist l → ∃ (q'' : List Int) (rs' : List Rul) (es' : List (List Nat)) (y4 y7 y8 y9 y10 : Sl), [Sl.o (.lst (iL q')), .v (Tx l), .v (.list (ks.map Tx)), .v (.int n), x4, .o (.lst (rs.map enc ++ [.tuple [.str "word", Tx (fk q), Tx a, Tx b, Tx c]])), .o (.lst (es.map Tx)), x7, x8, x9, x10] = [.o (.lst (iL q'')), .v (Tx l), .v (.list (ks.map Tx)), .v (.int n), y4, .o (.lst (rs'.map enc)), .o (.lst (es'.map Tx)), y7, y8, y9, y10] ∧ rs'.length = i + 1 ∧ (∀ r ∈ rs', Dr r) ∧ es'.length ≤ i + 1 ∧ ∀ e ∈ es', e.length ≤ 4 ∧ ∀ c ∈ e, c ∈ l := by
        intro q' a b c x4 x7 x8 x9 x10 ha1 ha2 ha3 hb
        refine ⟨q', rs ++ [⟨false, fk q, a, b, c⟩], es, _, _, _, _, _, by rw [List.map_append]; rfl, by rw [List.length_append, i1]; rfl, fun r hr => ?_, by omega, i4⟩
        rcases List.mem_append.mp hr with hr | hr
        · exact i2 r hr
        · rw [List.mem_singleton.mp hr]
          exact ⟨ha1, Nat.le_trans ha2 hl, fun x hx => hla x (ha3 x hx), Nat.le_trans hb.length_le hl, fun x hx => hla x (hb.subset hx), kin⟩
      have e7 := fun q => (h7 q).1
      have e4 := fun q => (h4 q).1
      simp only [e_int, e_str, e_bl, e_non, e_glob, vr_v, vr_o, e_var, kBin2_ap, kBin1_ap, e_bin, kNeg_ap, e_neg, kNot_ap, e_nott, kAnd_ap, e_and, kOr_ap, e_or, kCmp2_ap, kCmp1_ap, e_cmp, kCh3_ap, kCh2_ap, kCh1_ap, e_cmp2, kIte_ap, e_ite, kTup_ap, e_tup, kLst_ap, e_lst, kSub2_ap, kSub1_ap, e_sub, kSlc3_ap, kSlc2_ap, kSlc1_ap, e_slc, kSlL2_ap, kSlL1_ap, e_slcL, kSlH2_ap, kSlH1_ap, e_slcH, kRev_ap, e_rev, kCall_ap, e_call, kBi_ap, e_bi, kIsi_ap, e_isi, kMu_ap, e_mu, kPm2_ap, kPm1_ap, e_pm, kTn3_ap, kTn2_ap, kTn1_ap, kCE_ap, kComp_ap, e_comp, kTNot_ap, t_nott, kTAnd_ap, t_and, kTOr_ap, t_or, kTVal_ap, t_val, s_nil, kS3_ap, kS2_ap, kS1_ap, s_cons, r_nil, kRr2_ap, kRr1_ap, r_cons, c_nil, kCa_ap, kC2_ap, kC1f_ap, kC1t_ap, c_f, c_t, f_nil, kF_ap, f_cons, kI2_ap, kI1_ap, i_seq, kEn2_ap, kEn1_ap, i_enum, kG1_ap, i_rng1, kG2b_ap, kG2a_ap, i_rng2, st_v, st_o, kSt_ap, st_s, x_nm, kA2_ap, kA1_ap, x_tp, kPar_ap, x_par, kExp_ap, x_exp, kIf_ap, x_ife, kFor_ap, x_for, x_whl, kRet_ap, x_ret, x_retN, x_brk, x_cnt, x_pass, xs_nil, xs_cons, fo_nx, fo_ret, bind_ok_, st_ok_, opd_v, opd_s, opd_o, seq_nx, seq_ret, seq_brk, seq_cnt, optR, optV, optB, view, views, fin, lent, isO, setTg, setAll, setCA, kd, wipes, unwipe, frz, binOp, truth, seqOf, isNone, callF, lend, slots, back, isLent, List.map_cons, List.map_nil, List.length_cons, List.length_nil, List.cons_append, List.nil_append, List.replicate, Nat.reduceAdd, Nat.reduceSub, List.getElem?_cons_zero, List.getElem?_cons_succ, List.set_cons_zero, List.set_cons_succ, List.getD_cons_zero, List.getD_cons_succ, if_true, if_false, reduceIte, Option.map_some, Option.map_none, List.filterMap_nil, List.filterMap_cons, List.nodup_nil, id_eq, Bool.false_eq_true, nodup1, Wk_Γ, Wk_C, h5, l7, e7, T.l, T.g, c_eq0]
      cases h6 : decide (tkR (g7 (tkP (tkP q (ks.length : Int)) 5)) 6 = 0) with
      | true =>
        simp only [e_int, e_str, e_bl, e_non, e_glob, vr_v, vr_o, e_var, kBin2_ap, kBin1_ap, e_bin, kNeg_ap, e_neg, kNot_ap, e_nott, kAnd_ap, e_and, kOr_ap, e_or, kCmp2_ap, kCmp1_ap, e_cmp, kCh3_ap, kCh2_ap, kCh1_ap, e_cmp2, kIte_ap, e_ite, kTup_ap, e_tup, kLst_ap, e_lst, kSub2_ap, kSub1_ap, e_sub, kSlc3_ap, kSlc2_ap, kSlc1_ap, e_slc, kSlL2_ap, kSlL1_ap, e_slcL, kSlH2_ap, kSlH1_ap, e_slcH, kRev_ap, e_rev, kCall_ap, e_call, kBi_ap, e_bi, kIsi_ap, e_isi, kMu_ap, e_mu, kPm2_ap, kPm1_ap, e_pm, kTn3_ap, kTn2_ap, kTn1_ap, kCE_ap, kComp_ap, e_comp, kTNot_ap, t_nott, kTAnd_ap, t_and, kTOr_ap, t_or, kTVal_ap, t_val, s_nil, kS3_ap, kS2_ap, kS1_ap, s_cons, r_nil, kRr2_ap, kRr1_ap, r_cons, c_nil, kCa_ap, kC2_ap, kC1f_ap, kC1t_ap, c_f, c_t, f_nil, kF_ap, f_cons, kI2_ap, kI1_ap, i_seq, kEn2_ap, kEn1_ap, i_enum, kG1_ap, i_rng1, kG2b_ap, kG2a_ap, i_rng2, st_v, st_o, kSt_ap, st_s, x_nm, kA2_ap, kA1_ap, x_tp, kPar_ap, x_par, kExp_ap, x_exp, kIf_ap, x_ife, kFor_ap, x_for, x_whl, kRet_ap, x_ret, x_retN, x_brk, x_cnt, x_pass, xs_nil, xs_cons, fo_nx, fo_ret, bind_ok_, st_ok_, opd_v, opd_s, opd_o, seq_nx, seq_ret, seq_brk, seq_cnt, optR, optV, optB, view, views, fin, lent, isO, setTg, setAll, setCA, kd, wipes, unwipe, frz, binOp, truth, seqOf, isNone, callF, lend, slots, back, isLent, List.map_cons, List.map_nil, List.length_cons, List.length_nil, List.cons_append, List.nil_append, List.replicate, Nat.reduceAdd, Nat.reduceSub, List.getElem?_cons_zero, List.getElem?_cons_succ, List.set_cons_zero, List.set_cons_succ, List.getD_cons_zero, List.getD_cons_succ, if_true, if_false, reduceIte, Option.map_some, Option.map_none, List.filterMap_nil, List.filterMap_cons, List.nodup_nil, id_eq, Bool.false_eq_true, nodup1, Wk_Γ, Wk_C, l7, e7, app (rs.map enc) _ (show (rs.map enc).length ≤ 100 by rw [List.length_map]; omega), empty_tx]
        obtain ⟨_, n1, n2, n3⟩ := h7 (tkP (tkP q (ks.length : Int)) 5)
        exact ⟨_, .inl rfl, fin _ _ _ _ _ _ _ _ _ n1 n2 n3 (List.nil_sublist _)⟩
      | false =>
        simp only [e_int, e_str, e_bl, e_non, e_glob, vr_v, vr_o, e_var, kBin2_ap, kBin1_ap, e_bin, kNeg_ap, e_neg, kNot_ap, e_nott, kAnd_ap, e_and, kOr_ap, e_or, kCmp2_ap, kCmp1_ap, e_cmp, kCh3_ap, kCh2_ap, kCh1_ap, e_cmp2, kIte_ap, e_ite, kTup_ap, e_tup, kLst_ap, e_lst, kSub2_ap, kSub1_ap, e_sub, kSlc3_ap, kSlc2_ap, kSlc1_ap, e_slc, kSlL2_ap, kSlL1_ap, e_slcL, kSlH2_ap, kSlH1_ap, e_slcH, kRev_ap, e_rev, kCall_ap, e_call, kBi_ap, e_bi, kIsi_ap, e_isi, kMu_ap, e_mu, kPm2_ap, kPm1_ap, e_pm, kTn3_ap, kTn2_ap, kTn1_ap, kCE_ap, kComp_ap, e_comp, kTNot_ap, t_nott, kTAnd_ap, t_and, kTOr_ap, t_or, kTVal_ap, t_val, s_nil, kS3_ap, kS2_ap, kS1_ap, s_cons, r_nil, kRr2_ap, kRr1_ap, r_cons, c_nil, kCa_ap, kC2_ap, kC1f_ap, kC1t_ap, c_f, c_t, f_nil, kF_ap, f_cons, kI2_ap, kI1_ap, i_seq, kEn2_ap, kEn1_ap, i_enum, kG1_ap, i_rng1, kG2b_ap, kG2a_ap, i_rng2, st_v, st_o, kSt_ap, st_s, x_nm, kA2_ap, kA1_ap, x_tp, kPar_ap, x_par, kExp_ap, x_exp, kIf_ap, x_ife, kFor_ap, x_for, x_whl, kRet_ap, x_ret, x_retN, x_brk, x_cnt, x_pass, xs_nil, xs_cons, fo_nx, fo_ret, bind_ok_, st_ok_, opd_v, opd_s, opd_o, seq_nx, seq_ret, seq_brk, seq_cnt, optR, optV, optB, view, views, fin, lent, isO, setTg, setAll, setCA, kd, wipes, unwipe, frz, binOp, truth, seqOf, isNone, callF, lend, slots, back, isLent, List.map_cons, List.map_nil, List.length_cons, List.length_nil, List.cons_append, List.nil_append, List.replicate, Nat.reduceAdd, Nat.reduceSub, List.getElem?_cons_zero, List.getElem?_cons_succ, List.set_cons_zero, List.set_cons_succ, List.getD_cons_zero, List.getD_cons_succ, if_true, if_false, reduceIte, Option.map_some, Option.map_none, List.filterMap_nil, List.filterMap_cons, List.nodup_nil, id_eq, Bool.false_eq_true, nodup1, Wk_Γ, Wk_C, l7, l4, e7, e4, app (rs.map enc) _ (show (rs.map enc).length ≤ 100 by rw [List.length_map]; omega)]
        obtain ⟨_, n1, n2, n3⟩ := h7 (tkP (tkP q (ks.length : Int)) 5)
        exact ⟨_, .inl rfl, fin _ _ _ _ _ _ _ _ _ n1 n2 n3 (h4 _).2⟩) ⟨_, [], [], _, _, _, _, _, rfl, rfl, (fun r h => by cases h), Nat.le_refl _, (fun r h => by cases h)⟩
  rw [rng1L_len] at i1
  have e9 : biOp .tuple_ [.list (rs.map enc)] = some (.v (rulesD rs)) := rfl
  simp only [e_int, e_str, e_bl, e_non, e_glob, vr_v, vr_o, e_var, kBin2_ap, kBin1_ap, e_bin, kNeg_ap, e_neg, kNot_ap, e_nott, kAnd_ap, e_and, kOr_ap, e_or, kCmp2_ap, kCmp1_ap, e_cmp, kCh3_ap, kCh2_ap, kCh1_ap, e_cmp2, kIte_ap, e_ite, kTup_ap, e_tup, kLst_ap, e_lst, kSub2_ap, kSub1_ap, e_sub, kSlc3_ap, kSlc2_ap, kSlc1_ap, e_slc, kSlL2_ap, kSlL1_ap, e_slcL, kSlH2_ap, kSlH1_ap, e_slcH, kRev_ap, e_rev, kCall_ap, e_call, kBi_ap, e_bi, kIsi_ap, e_isi, kMu_ap, e_mu, kPm2_ap, kPm1_ap, e_pm, kTn3_ap, kTn2_ap, kTn1_ap, kCE_ap, kComp_ap, e_comp, kTNot_ap, t_nott, kTAnd_ap, t_and, kTOr_ap, t_or, kTVal_ap, t_val, s_nil, kS3_ap, kS2_ap, kS1_ap, s_cons, r_nil, kRr2_ap, kRr1_ap, r_cons, c_nil, kCa_ap, kC2_ap, kC1f_ap, kC1t_ap, c_f, c_t, f_nil, kF_ap, f_cons, kI2_ap, kI1_ap, i_seq, kEn2_ap, kEn1_ap, i_enum, kG1_ap, i_rng1, kG2b_ap, kG2a_ap, i_rng2, st_v, st_o, kSt_ap, st_s, x_nm, kA2_ap, kA1_ap, x_tp, kPar_ap, x_par, kExp_ap, x_exp, kIf_ap, x_ife, kFor_ap, x_for, x_whl, kRet_ap, x_ret, x_retN, x_brk, x_cnt, x_pass, xs_nil, xs_cons, fo_nx, fo_ret, bind_ok_, st_ok_, opd_v, opd_s, opd_o, seq_nx, seq_ret, seq_brk, seq_cnt, optR, optV, optB, view, views, fin, lent, isO, setTg, setAll, setCA, kd, wipes, unwipe, frz, binOp, muOp, truth, seqOf, isNone, callF, lend, slots, back, isLent, List.map_cons, List.map_nil, List.length_cons, List.length_nil, List.cons_append, List.nil_append, List.replicate, Nat.reduceAdd, Nat.reduceSub, List.getElem?_cons_zero, List.getElem?_cons_succ, List.set_cons_zero, List.set_cons_succ, List.getD_cons_zero, List.getD_cons_succ, if_true, if_false, reduceIte, Option.map_some, Option.map_none, List.filterMap_nil, List.filterMap_cons, List.nodup_nil, id_eq, Bool.false_eq_true, nodup1, Wk_Γ, Wk_C, e9]
  exact ⟨rs, _, rfl, i1, i2⟩
end
end W6

set_option Elab.async false
set_option linter.all false
set_option maxRecDepth 100000
set_option maxHeartbeats 4000000
/-! K06o: drawing of texts. -/
namespace W6
open PySem Rc Lw06
theorem add_lst {xs ys : List PyData} (h : xs.length + ys.length ≤ 1000000) : binOp .Add (.list xs) (.list ys) = some (.o (.lst (xs ++ ys))) := by
  show (if xs.length + ys.length ≤ Lm then _ else _) = _
  rw [if_pos (lm_of h)]
section
variable (fuel : Nat) (W : Wd)
theorem all_run (l : List Nat) (h0 : l ≠ []) (hl : l.length ≤ 8) (most : Nat) (hm0 : 0 < most) (hm : most ≤ 3) :
    ∃ ts : List (List Nat), runFn fuel W f_law_all [.v (Tx l), .v (.int most)] = .o (.lst (ts.map Tx)) [] ∧ ts ≠ [] ∧ ts.length ≤ 100000 ∧ ∀ t ∈ ts, t ≠ [] ∧ t.length ≤ 3 := by
  have s62 : small62 (most : Int) = true := small_nat (by omega)
  unfold f_law_all runFn
  simp only [e_int, e_str, e_bl, e_non, e_glob, vr_v, vr_o, e_var, kBin2_ap, kBin1_ap, e_bin, kNeg_ap, e_neg, kNot_ap, e_nott, kAnd_ap, e_and, kOr_ap, e_or, kCmp2_ap, kCmp1_ap, e_cmp, kCh3_ap, kCh2_ap, kCh1_ap, e_cmp2, kIte_ap, e_ite, kTup_ap, e_tup, kLst_ap, e_lst, kSub2_ap, kSub1_ap, e_sub, kSlc3_ap, kSlc2_ap, kSlc1_ap, e_slc, kSlL2_ap, kSlL1_ap, e_slcL, kSlH2_ap, kSlH1_ap, e_slcH, kRev_ap, e_rev, kCall_ap, e_call, kBi_ap, e_bi, kIsi_ap, e_isi, kMu_ap, e_mu, kPm2_ap, kPm1_ap, e_pm, kTn3_ap, kTn2_ap, kTn1_ap, kCE_ap, kComp_ap, e_comp, kTNot_ap, t_nott, kTAnd_ap, t_and, kTOr_ap, t_or, kTVal_ap, t_val, s_nil, kS3_ap, kS2_ap, kS1_ap, s_cons, r_nil, kRr2_ap, kRr1_ap, r_cons, c_nil, kCa_ap, kC2_ap, kC1f_ap, kC1t_ap, c_f, c_t, f_nil, kF_ap, f_cons, kI2_ap, kI1_ap, i_seq, kEn2_ap, kEn1_ap, i_enum, kG1_ap, i_rng1, kG2b_ap, kG2a_ap, i_rng2, st_v, st_o, kSt_ap, st_s, x_nm, kA2_ap, kA1_ap, x_tp, kPar_ap, x_par, kExp_ap, x_exp, kIf_ap, x_ife, kFor_ap, x_for, x_whl, kRet_ap, x_ret, x_retN, x_brk, x_cnt, x_pass, xs_nil, xs_cons, fo_nx, fo_ret, bind_ok_, st_ok_, opd_v, opd_s, opd_o, seq_nx, seq_ret, seq_brk, seq_cnt, optR, optV, optB, view, views, fin, lent, isO, setTg, setAll, setCA, kd, wipes, unwipe, frz, binOp, muOp, truth, seqOf, isNone, callF, lend, slots, back, isLent, List.map_cons, List.map_nil, List.length_cons, List.length_nil, List.cons_append, List.nil_append, List.replicate, Nat.reduceAdd, Nat.reduceSub, List.getElem?_cons_zero, List.getElem?_cons_succ, List.set_cons_zero, List.set_cons_succ, List.getD_cons_zero, List.getD_cons_succ, if_true, if_false, reduceIte, Option.map_some, Option.map_none, List.filterMap_nil, List.filterMap_cons, List.nodup_nil, id_eq, Bool.false_eq_true, nodup1, Wk_Γ, Wk_C, s62]
  have l1 := List.length_pos_iff.mpr h0
  generalize hq : forL _ _ _ = o
  obtain ⟨ρ', rfl, rs, fs, a2, s3, a5, a6, a7, rfl, h3, i1, i3, ⟨i4, i5⟩, i6⟩ := forL_ok hq (fun i ρ => ∃ (rs fs : List (List Nat)) (a2 s3 a5 a6 a7 : Sl), ρ = [.v (Tx l), .v (.int most), a2, s3, .o (.lst (fs.map Tx)), a5, a6, a7] ∧ (s3 = .o (.lst (rs.map Tx)) ∨ s3 = .v (.list (rs.map Tx))) ∧ (rs ≠ [] ∧ rs.length ≤ 8 ^ i) ∧ (∀ t ∈ rs, t.length = i) ∧ (fs.length ≤ 1000 * i ∧ i ≤ fs.length) ∧ (∀ t ∈ fs, t ≠ [] ∧ t.length ≤ i)) (by
    rintro i x ρ hx ⟨rs, fs, a2, s3, a5, a6, a7, rfl, h3, ⟨i1, i2⟩, i3, ⟨i4, i5⟩, i6⟩
    obtain ⟨rfl, hi⟩ := rng1L_get hx
    have p8 : 8 ^ i ≤ 64 := Nat.le_trans (Nat.pow_le_pow_right (by decide) (show i ≤ 2 by omega)) (by decide)
    have loop : ∀ s3 : Sl, ∃ (ms : List (List Nat)) (b6 b7 : Sl), forL (turnF fuel W (Tg.nm 6) (.cons (.asg (.nm 5) (.bin .Add (.var 5) (.comp (.bin .Add (.var 6) (.var 7)) (.nm 7) (.seq (.var 0)) .nil [7]))) .nil)) (rs.map Tx) [.v (Tx l), .v (.int most), .v (.int i), s3, .o (.lst (fs.map Tx)), .o (.lst []), a6, a7] = .nx [.v (Tx l), .v (.int most), .v (.int i), s3, .o (.lst (fs.map Tx)), .o (.lst (ms.map Tx)), b6, b7] ∧ ms.length = rs.length * l.length ∧ ∀ t ∈ ms, t.length = i + 1 := by
      intro s3
      generalize hq : forL _ _ _ = o
      obtain ⟨ρ', rfl, ms, b6, b7, rfl, j1, j2⟩ := forL_ok hq (fun j ρ => ∃ (ms : List (List Nat)) (b6 b7 : Sl), ρ = [.v (Tx l), .v (.int most), .v (.int i), s3, .o (.lst (fs.map Tx)), .o (.lst (ms.map Tx)), b6, b7] ∧ ms.length = j * l.length ∧ ∀ t ∈ ms, t.length = i + 1) (by
        rintro j x ρ hx ⟨ms, b6, b7, rfl, j1, j2⟩
        rw [List.getElem?_map] at hx
        obtain ⟨t, ht, rfl⟩ := Option.map_eq_some_iff.mp hx
        have tl := i3 t (List.mem_of_getElem? ht)
        have hj := (List.getElem?_eq_some_iff.mp ht).1
        have hm1 : j * l.length ≤ 64 * 8 := Nat.mul_le_mul (by omega) hl
        have comp : ∀ b7 : Sl, compL (turnC W (.bin .Add (.var 6) (.var 7)) (.nm 7) .nil [7]) (l.map fun c => Tx [c]) [] [.v (Tx l), .v (.int most), .v (.int i), s3, .o (.lst (fs.map Tx)), .o (.lst (ms.map Tx)), .v (Tx t), .un] = .ok ([] ++ l.map fun c => Tx (t ++ [c])) [.v (Tx l), .v (.int most), .v (.int i), s3, .o (.lst (fs.map Tx)), .o (.lst (ms.map Tx)), .v (Tx t), .un] := fun b7 =>
          compL_two _ _ _ (by rw [List.length_map, List.length_map]) (fun n x y hx hy => by
            rw [List.getElem?_map] at hx hy
            obtain ⟨c, hc, rfl⟩ := Option.map_eq_some_iff.mp hx
            obtain ⟨c', hc', rfl⟩ := Option.map_eq_some_iff.mp hy
            rw [hc] at hc'
            cases hc'
            simp only [turnC_ap, e_int, e_str, e_bl, e_non, e_glob, vr_v, vr_o, e_var, kBin2_ap, kBin1_ap, e_bin, kNeg_ap, e_neg, kNot_ap, e_nott, kAnd_ap, e_and, kOr_ap, e_or, kCmp2_ap, kCmp1_ap, e_cmp, kCh3_ap, kCh2_ap, kCh1_ap, e_cmp2, kIte_ap, e_ite, kTup_ap, e_tup, kLst_ap, e_lst, kSub2_ap, kSub1_ap, e_sub, kSlc3_ap, kSlc2_ap, kSlc1_ap, e_slc, kSlL2_ap, kSlL1_ap, e_slcL, kSlH2_ap, kSlH1_ap, e_slcH, kRev_ap, e_rev, kCall_ap, e_call, kBi_ap, e_bi, kIsi_ap, e_isi, kMu_ap, e_mu, kPm2_ap, kPm1_ap, e_pm, kTn3_ap, kTn2_ap, kTn1_ap, kCE_ap, kComp_ap, e_comp, kTNot_ap, t_nott, kTAnd_ap, t_and, kTOr_ap, t_or, kTVal_ap, t_val, s_nil, kS3_ap, kS2_ap, kS1_ap, s_cons, r_nil, kRr2_ap, kRr1_ap, r_cons, c_nil, kCa_ap, kC2_ap, kC1f_ap, kC1t_ap, c_f, c_t, f_nil, kF_ap, f_cons, kI2_ap, kI1_ap, i_seq, kEn2_ap, kEn1_ap, i_enum, kG1_ap, i_rng1, kG2b_ap, kG2a_ap, i_rng2, st_v, st_o, kSt_ap, st_s, x_nm, kA2_ap, kA1_ap, x_tp, kPar_ap, x_par, kExp_ap, x_exp, kIf_ap, x_ife, kFor_ap, x_for, x_whl, kRet_ap, x_ret, x_retN, x_brk, x_cnt, x_pass, xs_nil, xs_cons, fo_nx, fo_ret, bind_ok_, st_ok_, opd_v, opd_s, opd_o, seq_nx, seq_ret, seq_brk, seq_cnt, optR, optV, optB, view, views, fin, lent, isO, setTg, setAll, setCA, kd, wipes, unwipe, frz, muOp, truth, seqOf, isNone, callF, lend, slots, back, isLent, List.map_cons, List.map_nil, List.length_cons, List.length_nil, List.cons_append, List.nil_append, List.replicate, Nat.reduceAdd, Nat.reduceSub, List.getElem?_cons_zero, List.getElem?_cons_succ, List.set_cons_zero, List.set_cons_succ, List.getD_cons_zero, List.getD_cons_succ, if_true, if_false, reduceIte, Option.map_some, Option.map_none, List.filterMap_nil, List.filterMap_cons, List.nodup_nil, id_eq, Bool.false_eq_true, nodup1, Wk_Γ, Wk_C, cat_tx (a := t) (b := [c]) (lm_of (by simp only [List.length_cons, List.length_nil]; omega))]) (by rw [List.length_nil, List.length_map, Nat.zero_add]; exact lm_of (by omega))
        have e : binOp .Add (.list (ms.map Tx)) (.list (l.map fun c => Tx (t ++ [c]))) = some (.o (.lst ((ms ++ l.map fun c => t ++ [c]).map Tx))) := by
          rw [add_lst (by rw [List.length_map, List.length_map]; omega), List.map_append, List.map_map]
          rfl
        simp only [turnF_ap, e_int, e_str, e_bl, e_non, e_glob, vr_v, vr_o, e_var, kBin2_ap, kBin1_ap, e_bin, kNeg_ap, e_neg, kNot_ap, e_nott, kAnd_ap, e_and, kOr_ap, e_or, kCmp2_ap, kCmp1_ap, e_cmp, kCh3_ap, kCh2_ap, kCh1_ap, e_cmp2, kIte_ap, e_ite, kTup_ap, e_tup, kLst_ap, e_lst, kSub2_ap, kSub1_ap, e_sub, kSlc3_ap, kSlc2_ap, kSlc1_ap, e_slc, kSlL2_ap, kSlL1_ap, e_slcL, kSlH2_ap, kSlH1_ap, e_slcH, kRev_ap, e_rev, kCall_ap, e_call, kBi_ap, e_bi, kIsi_ap, e_isi, kMu_ap, e_mu, kPm2_ap, kPm1_ap, e_pm, kTn3_ap, kTn2_ap, kTn1_ap, kCE_ap, kComp_ap, e_comp, kTNot_ap, t_nott, kTAnd_ap, t_and, kTOr_ap, t_or, kTVal_ap, t_val, s_nil, kS3_ap, kS2_ap, kS1_ap, s_cons, r_nil, kRr2_ap, kRr1_ap, r_cons, c_nil, kCa_ap, kC2_ap, kC1f_ap, kC1t_ap, c_f, c_t, f_nil, kF_ap, f_cons, kI2_ap, kI1_ap, i_seq, kEn2_ap, kEn1_ap, i_enum, kG1_ap, i_rng1, kG2b_ap, kG2a_ap, i_rng2, st_v, st_o, kSt_ap, st_s, x_nm, kA2_ap, kA1_ap, x_tp, kPar_ap, x_par, kExp_ap, x_exp, kIf_ap, x_ife, kFor_ap, x_for, x_whl, kRet_ap, x_ret, x_retN, x_brk, x_cnt, x_pass, xs_nil, xs_cons, fo_nx, fo_ret, bind_ok_, st_ok_, opd_v, opd_s, opd_o, seq_nx, seq_ret, seq_brk, seq_cnt, optR, optV, optB, view, views, fin, lent, isO, setTg, setAll, setCA, kd, wipes, unwipe, frz, muOp, truth, isNone, callF, lend, slots, back, isLent, List.map_cons, List.map_nil, List.length_cons, List.length_nil, List.cons_append, List.nil_append, List.replicate, Nat.reduceAdd, Nat.reduceSub, List.getElem?_cons_zero, List.getElem?_cons_succ, List.set_cons_zero, List.set_cons_succ, List.getD_cons_zero, List.getD_cons_succ, if_true, if_false, reduceIte, Option.map_some, Option.map_none, List.filterMap_nil, List.filterMap_cons, List.nodup_nil, id_eq, Bool.false_eq_true, nodup1, Wk_Γ, Wk_C, seqOf_tx, comp .un, e]
        refine ⟨_, .inl rfl, _, _, _, rfl, ?_, fun t' h' => ?_⟩
        · rw [List.length_append, List.length_map, j1, Nat.succ_mul]
        · rcases List.mem_append.mp h' with h' | h'
          · exact j2 t' h'
          · obtain ⟨c, _, rfl⟩ := List.mem_map.mp h'
            rw [List.length_append, tl]
            rfl) ⟨[], _, _, rfl, by rw [Nat.zero_mul]; rfl, fun t h => by cases h⟩
      rw [List.length_map] at j1
      exact ⟨ms, b6, b7, rfl, j1, j2⟩
    obtain ⟨ms, b6, b7, e1, e2, e3⟩ := loop (.v (.list (rs.map Tx)))
    have ml : rs.length * l.length ≤ 8 ^ i * 8 := Nat.mul_le_mul i2 hl
    have mp : 0 < rs.length * l.length := Nat.mul_pos (List.length_pos_iff.mpr i1) l1
    have e4 : binOp .Add (.list (fs.map Tx)) (.list (ms.map Tx)) = some (.o (.lst ((fs ++ ms).map Tx))) := by
      rw [add_lst (by rw [List.length_map, List.length_map]; omega), List.map_append]
    have done : ∃ (rs' fs' : List (List Nat)) (y2 y3 y5 y6 y7 : Sl), [Sl.v (Tx l), .v (.int most), .v (.int i), .v (.list (ms.map Tx)), .o (.lst ((fs ++ ms).map Tx)), .v (.list (ms.map Tx)), b6, b7] = [.v (Tx l), .v (.int most), y2, y3, .o (.lst (fs'.map Tx)), y5, y6, y7] ∧ (y3 = .o (.lst (rs'.map Tx)) ∨ y3 = .v (.list (rs'.map Tx))) ∧ (rs' ≠ [] ∧ rs'.length ≤ 8 ^ (i + 1)) ∧ (∀ t ∈ rs', t.length = i + 1) ∧ (fs'.length ≤ 1000 * (i + 1) ∧ i + 1 ≤ fs'.length) ∧ (∀ t ∈ fs', t ≠ [] ∧ t.length ≤ i + 1) :=
      ⟨ms, fs ++ ms, _, _, _, _, _, rfl, .inr rfl, ⟨List.length_pos_iff.mp (by omega), by rw [Nat.pow_succ]; omega⟩, e3, ⟨by rw [List.length_append]; omega, by rw [List.length_append]; omega⟩, fun t ht => by
        rcases List.mem_append.mp ht with ht | ht
        · exact ⟨(i6 t ht).1, Nat.le_succ_of_le (i6 t ht).2⟩
        · have := e3 t ht
          exact ⟨List.length_pos_iff.mp (by omega), by omega⟩⟩
    rcases h3 with rfl | rfl
    · simp only [turnF_ap, e_int, e_str, e_bl, e_non, e_glob, vr_v, vr_o, e_var, kBin2_ap, kBin1_ap, e_bin, kNeg_ap, e_neg, kNot_ap, e_nott, kAnd_ap, e_and, kOr_ap, e_or, kCmp2_ap, kCmp1_ap, e_cmp, kCh3_ap, kCh2_ap, kCh1_ap, e_cmp2, kIte_ap, e_ite, kTup_ap, e_tup, kLst_ap, e_lst, kSub2_ap, kSub1_ap, e_sub, kSlc3_ap, kSlc2_ap, kSlc1_ap, e_slc, kSlL2_ap, kSlL1_ap, e_slcL, kSlH2_ap, kSlH1_ap, e_slcH, kRev_ap, e_rev, kCall_ap, e_call, kBi_ap, e_bi, kIsi_ap, e_isi, kMu_ap, e_mu, kPm2_ap, kPm1_ap, e_pm, kTn3_ap, kTn2_ap, kTn1_ap, kCE_ap, kComp_ap, e_comp, kTNot_ap, t_nott, kTAnd_ap, t_and, kTOr_ap, t_or, kTVal_ap, t_val, s_nil, kS3_ap, kS2_ap, kS1_ap, s_cons, r_nil, kRr2_ap, kRr1_ap, r_cons, c_nil, kCa_ap, kC2_ap, kC1f_ap, kC1t_ap, c_f, c_t, f_nil, kF_ap, f_cons, kI2_ap, kI1_ap, i_seq, kEn2_ap, kEn1_ap, i_enum, kG1_ap, i_rng1, kG2b_ap, kG2a_ap, i_rng2, st_v, st_o, kSt_ap, st_s, x_nm, kA2_ap, kA1_ap, x_tp, kPar_ap, x_par, kExp_ap, x_exp, kIf_ap, x_ife, kFor_ap, x_for, x_whl, kRet_ap, x_ret, x_retN, x_brk, x_cnt, x_pass, xs_nil, xs_cons, fo_nx, fo_ret, bind_ok_, st_ok_, opd_v, opd_s, opd_o, seq_nx, seq_ret, seq_brk, seq_cnt, optR, optV, optB, view, views, fin, lent, isO, setTg, setAll, setCA, kd, wipes, unwipe, frz, muOp, truth, seqOf, isNone, callF, lend, slots, back, isLent, List.map_cons, List.map_nil, List.length_cons, List.length_nil, List.cons_append, List.nil_append, List.replicate, Nat.reduceAdd, Nat.reduceSub, List.getElem?_cons_zero, List.getElem?_cons_succ, List.set_cons_zero, List.set_cons_succ, List.getD_cons_zero, List.getD_cons_succ, if_true, if_false, reduceIte, Option.map_some, Option.map_none, List.filterMap_nil, List.filterMap_cons, List.nodup_nil, id_eq, Bool.false_eq_true, nodup1, Wk_Γ, Wk_C, e1, e4]
      exact ⟨_, .inl rfl, done⟩
    · simp only [turnF_ap, e_int, e_str, e_bl, e_non, e_glob, vr_v, vr_o, e_var, kBin2_ap, kBin1_ap, e_bin, kNeg_ap, e_neg, kNot_ap, e_nott, kAnd_ap, e_and, kOr_ap, e_or, kCmp2_ap, kCmp1_ap, e_cmp, kCh3_ap, kCh2_ap, kCh1_ap, e_cmp2, kIte_ap, e_ite, kTup_ap, e_tup, kLst_ap, e_lst, kSub2_ap, kSub1_ap, e_sub, kSlc3_ap, kSlc2_ap, kSlc1_ap, e_slc, kSlL2_ap, kSlL1_ap, e_slcL, kSlH2_ap, kSlH1_ap, e_slcH, kRev_ap, e_rev, kCall_ap, e_call, kBi_ap, e_bi, kIsi_ap, e_isi, kMu_ap, e_mu, kPm2_ap, kPm1_ap, e_pm, kTn3_ap, kTn2_ap, kTn1_ap, kCE_ap, kComp_ap, e_comp, kTNot_ap, t_nott, kTAnd_ap, t_and, kTOr_ap, t_or, kTVal_ap, t_val, s_nil, kS3_ap, kS2_ap, kS1_ap, s_cons, r_nil, kRr2_ap, kRr1_ap, r_cons, c_nil, kCa_ap, kC2_ap, kC1f_ap, kC1t_ap, c_f, c_t, f_nil, kF_ap, f_cons, kI2_ap, kI1_ap, i_seq, kEn2_ap, kEn1_ap, i_enum, kG1_ap, i_rng1, kG2b_ap, kG2a_ap, i_rng2, st_v, st_o, kSt_ap, st_s, x_nm, kA2_ap, kA1_ap, x_tp, kPar_ap, x_par, kExp_ap, x_exp, kIf_ap, x_ife, kFor_ap, x_for, x_whl, kRet_ap, x_ret, x_retN, x_brk, x_cnt, x_pass, xs_nil, xs_cons, fo_nx, fo_ret, bind_ok_, st_ok_, opd_v, opd_s, opd_o, seq_nx, seq_ret, seq_brk, seq_cnt, optR, optV, optB, view, views, fin, lent, isO, setTg, setAll, setCA, kd, wipes, unwipe, frz, muOp, truth, seqOf, isNone, callF, lend, slots, back, isLent, List.map_cons, List.map_nil, List.length_cons, List.length_nil, List.cons_append, List.nil_append, List.replicate, Nat.reduceAdd, Nat.reduceSub, List.getElem?_cons_zero, List.getElem?_cons_succ, List.set_cons_zero, List.set_cons_succ, List.getD_cons_zero, List.getD_cons_succ, if_true, if_false, reduceIte, Option.map_some, Option.map_none, List.filterMap_nil, List.filterMap_cons, List.nodup_nil, id_eq, Bool.false_eq_true, nodup1, Wk_Γ, Wk_C, e1, e4]
      exact ⟨_, .inl rfl, done⟩) ⟨[[]], [], _, _, _, _, _, rfl, .inl rfl, ⟨by simp, by decide⟩, fun t ht => by rw [List.mem_singleton.mp ht]; rfl, ⟨Nat.le_refl _, Nat.le_refl _⟩, fun t h => by cases h⟩
  rw [rng1L_len, Int.toNat_natCast] at i4 i5 i6
  simp only [e_int, e_str, e_bl, e_non, e_glob, vr_v, vr_o, e_var, kBin2_ap, kBin1_ap, e_bin, kNeg_ap, e_neg, kNot_ap, e_nott, kAnd_ap, e_and, kOr_ap, e_or, kCmp2_ap, kCmp1_ap, e_cmp, kCh3_ap, kCh2_ap, kCh1_ap, e_cmp2, kIte_ap, e_ite, kTup_ap, e_tup, kLst_ap, e_lst, kSub2_ap, kSub1_ap, e_sub, kSlc3_ap, kSlc2_ap, kSlc1_ap, e_slc, kSlL2_ap, kSlL1_ap, e_slcL, kSlH2_ap, kSlH1_ap, e_slcH, kRev_ap, e_rev, kCall_ap, e_call, kBi_ap, e_bi, kIsi_ap, e_isi, kMu_ap, e_mu, kPm2_ap, kPm1_ap, e_pm, kTn3_ap, kTn2_ap, kTn1_ap, kCE_ap, kComp_ap, e_comp, kTNot_ap, t_nott, kTAnd_ap, t_and, kTOr_ap, t_or, kTVal_ap, t_val, s_nil, kS3_ap, kS2_ap, kS1_ap, s_cons, r_nil, kRr2_ap, kRr1_ap, r_cons, c_nil, kCa_ap, kC2_ap, kC1f_ap, kC1t_ap, c_f, c_t, f_nil, kF_ap, f_cons, kI2_ap, kI1_ap, i_seq, kEn2_ap, kEn1_ap, i_enum, kG1_ap, i_rng1, kG2b_ap, kG2a_ap, i_rng2, st_v, st_o, kSt_ap, st_s, x_nm, kA2_ap, kA1_ap, x_tp, kPar_ap, x_par, kExp_ap, x_exp, kIf_ap, x_ife, kFor_ap, x_for, x_whl, kRet_ap, x_ret, x_retN, x_brk, x_cnt, x_pass, xs_nil, xs_cons, fo_nx, fo_ret, bind_ok_, st_ok_, opd_v, opd_s, opd_o, seq_nx, seq_ret, seq_brk, seq_cnt, optR, optV, optB, view, views, fin, lent, isO, setTg, setAll, setCA, kd, wipes, unwipe, frz, binOp, muOp, truth, seqOf, isNone, callF, lend, slots, back, isLent, List.map_cons, List.map_nil, List.length_cons, List.length_nil, List.cons_append, List.nil_append, List.replicate, Nat.reduceAdd, Nat.reduceSub, List.getElem?_cons_zero, List.getElem?_cons_succ, List.set_cons_zero, List.set_cons_succ, List.getD_cons_zero, List.getD_cons_succ, if_true, if_false, reduceIte, Option.map_some, Option.map_none, List.filterMap_nil, List.filterMap_cons, List.nodup_nil, id_eq, Bool.false_eq_true, nodup1, Wk_Γ, Wk_C]
  exact ⟨fs, rfl, List.length_pos_iff.mp (by omega), by omega, fun t ht => ⟨(i6 t ht).1, by have := (i6 t ht).2; omega⟩⟩
theorem near_run (T : Tk W) (l : List Nat) (hl : l.length ≤ 100) (h0 : l ≠ []) (r : Rul) (hr : Dr r) (most : Int) (hm0 : 0 < most) (hm : most ≤ 1000) (p : List Int) :
    ∃ t p', runFn fuel W f_law_near [.o (.lst (iL p)), .v (Tx l), .v (enc r), .v (.int most)] = .v (Tx t) [.lst (iL p')] ∧ t ≠ [] ∧ t.length ≤ 10000 := by
  have hL : l.length ≤ Lm := lm_of (by omega)
  obtain ⟨f, hf⟩ := pickT hL h0
  have hf2 : ∀ p, subOp (Tx l) (.int (tkR p (l.length : Int))) = some (Tx [f p]) := fun p => (hf p).2
  have rest : ∀ (q : List Int) (t : List Nat) (a b : Sl), t ≠ [] → t.length ≤ 5000 → ∃ t' p', SO.fo [true, false, false, false] (exs fuel W (bodyOf 1 f_law_near.body) [.o (.lst (iL q)), .v (Tx l), .v (enc r), .v (.int most), .v (Tx t), a, b]) = .v (Tx t') [.lst (iL p')] ∧ t' ≠ [] ∧ t'.length ≤ 10000 := by
    intro q t a b ht0 ht
    have htL : t.length ≤ Lm := lm_of (by omega)
    unfold f_law_near
    simp only [bodyOf, e_int, e_str, e_bl, e_non, e_glob, vr_v, vr_o, e_var, kBin2_ap, kBin1_ap, e_bin, kNeg_ap, e_neg, kNot_ap, e_nott, kAnd_ap, e_and, kOr_ap, e_or, kCmp2_ap, kCmp1_ap, e_cmp, kCh3_ap, kCh2_ap, kCh1_ap, e_cmp2, kIte_ap, e_ite, kTup_ap, e_tup, kLst_ap, e_lst, kSub2_ap, kSub1_ap, e_sub, kSlc3_ap, kSlc2_ap, kSlc1_ap, e_slc, kSlL2_ap, kSlL1_ap, e_slcL, kSlH2_ap, kSlH1_ap, e_slcH, kRev_ap, e_rev, kCall_ap, e_call, kBi_ap, e_bi, kIsi_ap, e_isi, kMu_ap, e_mu, kPm2_ap, kPm1_ap, e_pm, kTn3_ap, kTn2_ap, kTn1_ap, kCE_ap, kComp_ap, e_comp, kTNot_ap, t_nott, kTAnd_ap, t_and, kTOr_ap, t_or, kTVal_ap, t_val, s_nil, kS3_ap, kS2_ap, kS1_ap, s_cons, r_nil, kRr2_ap, kRr1_ap, r_cons, c_nil, kCa_ap, kC2_ap, kC1f_ap, kC1t_ap, c_f, c_t, f_nil, kF_ap, f_cons, kI2_ap, kI1_ap, i_seq, kEn2_ap, kEn1_ap, i_enum, kG1_ap, i_rng1, kG2b_ap, kG2a_ap, i_rng2, st_v, st_o, kSt_ap, st_s, x_nm, kA2_ap, kA1_ap, x_tp, kPar_ap, x_par, kExp_ap, x_exp, kIf_ap, x_ife, kFor_ap, x_for, x_whl, kRet_ap, x_ret, x_retN, x_brk, x_cnt, x_pass, xs_nil, xs_cons, fo_nx, fo_ret, bind_ok_, st_ok_, opd_v, opd_s, opd_o, seq_nx, seq_ret, seq_brk, seq_cnt, optR, optV, optB, view, views, fin, lent, isO, setTg, setAll, setCA, kd, wipes, unwipe, frz, binOp, muOp, truth, seqOf, isNone, callF, lend, slots, back, isLent, List.map_cons, List.map_nil, List.length_cons, List.length_nil, List.cons_append, List.nil_append, List.replicate, Nat.reduceAdd, Nat.reduceSub, List.getElem?_cons_zero, List.getElem?_cons_succ, List.set_cons_zero, List.set_cons_succ, List.getD_cons_zero, List.getD_cons_succ, if_true, if_false, reduceIte, Option.map_some, Option.map_none, List.filterMap_nil, List.filterMap_cons, List.nodup_nil, id_eq, Bool.false_eq_true, nodup1, Wk_Γ, Wk_C, T.l, T.g, c_eq0]
    cases h : decide (tkR q 2 = 0) with
    | false =>
      simp only [e_int, e_str, e_bl, e_non, e_glob, vr_v, vr_o, e_var, kBin2_ap, kBin1_ap, e_bin, kNeg_ap, e_neg, kNot_ap, e_nott, kAnd_ap, e_and, kOr_ap, e_or, kCmp2_ap, kCmp1_ap, e_cmp, kCh3_ap, kCh2_ap, kCh1_ap, e_cmp2, kIte_ap, e_ite, kTup_ap, e_tup, kLst_ap, e_lst, kSub2_ap, kSub1_ap, e_sub, kSlc3_ap, kSlc2_ap, kSlc1_ap, e_slc, kSlL2_ap, kSlL1_ap, e_slcL, kSlH2_ap, kSlH1_ap, e_slcH, kRev_ap, e_rev, kCall_ap, e_call, kBi_ap, e_bi, kIsi_ap, e_isi, kMu_ap, e_mu, kPm2_ap, kPm1_ap, e_pm, kTn3_ap, kTn2_ap, kTn1_ap, kCE_ap, kComp_ap, e_comp, kTNot_ap, t_nott, kTAnd_ap, t_and, kTOr_ap, t_or, kTVal_ap, t_val, s_nil, kS3_ap, kS2_ap, kS1_ap, s_cons, r_nil, kRr2_ap, kRr1_ap, r_cons, c_nil, kCa_ap, kC2_ap, kC1f_ap, kC1t_ap, c_f, c_t, f_nil, kF_ap, f_cons, kI2_ap, kI1_ap, i_seq, kEn2_ap, kEn1_ap, i_enum, kG1_ap, i_rng1, kG2b_ap, kG2a_ap, i_rng2, st_v, st_o, kSt_ap, st_s, x_nm, kA2_ap, kA1_ap, x_tp, kPar_ap, x_par, kExp_ap, x_exp, kIf_ap, x_ife, kFor_ap, x_for, x_whl, kRet_ap, x_ret, x_retN, x_brk, x_cnt, x_pass, xs_nil, xs_cons, fo_nx, fo_ret, bind_ok_, st_ok_, opd_v, opd_s, opd_o, seq_nx, seq_ret, seq_brk, seq_cnt, optR, optV, optB, view, views, fin, lent, isO, setTg, setAll, setCA, kd, wipes, unwipe, frz, binOp, muOp, truth, seqOf, isNone, callF, lend, slots, back, isLent, List.map_cons, List.map_nil, List.length_cons, List.length_nil, List.cons_append, List.nil_append, List.replicate, Nat.reduceAdd, Nat.reduceSub, List.getElem?_cons_zero, List.getElem?_cons_succ, List.set_cons_zero, List.set_cons_succ, List.getD_cons_zero, List.getD_cons_succ, if_true, if_false, reduceIte, Option.map_some, Option.map_none, List.filterMap_nil, List.filterMap_cons, List.nodup_nil, id_eq, Bool.false_eq_true, nodup1, Wk_Γ, Wk_C]
      exact ⟨t, _, rfl, ht0, by omega⟩
    | true =>
      have hH : ∀ q : List Int, slcOp (Tx t) none (some (tkR q (t.length : Int))) = some (.v (Tx (t.take (tkN q (t.length : Int))))) := fun q => by rw [tk_N]; exact slcH_tx htL _
      have hL2 : ∀ q : List Int, slcOp (Tx t) (some (tkR q (t.length : Int) + 1)) none = some (.v (Tx (t.drop (tkN q (t.length : Int) + 1)))) := fun q => by
        rw [tk_N]
        show (if (tx t).length ≤ Lm then some (R.v (.str ⟨(cut (tx t).cps.toList (some ((tkN q (t.length : Int) : Int) + 1)) none).toArray⟩)) else none) = _
        rw [tx_len, if_pos htL, tx_list, show ((tkN q (t.length : Int) : Int) + 1) = ((tkN q (t.length : Int) + 1 : Nat) : Int) from rfl, cut_from]
        rfl
      have c1 : ∀ (q q' : List Int), binOp .Add (Tx (t.take (tkN q (t.length : Int)))) (Tx [f q']) = some (.v (Tx (t.take (tkN q (t.length : Int)) ++ [f q']))) := fun q q' => cat_tx (lm_of (by rw [List.length_take]; simp only [List.length_cons, List.length_nil]; omega))
      have c2 : ∀ (q q' : List Int), binOp .Add (Tx (t.take (tkN q (t.length : Int)) ++ [f q'])) (Tx (t.drop (tkN q (t.length : Int) + 1))) = some (.v (Tx (t.take (tkN q (t.length : Int)) ++ [f q'] ++ t.drop (tkN q (t.length : Int) + 1)))) := fun q q' => cat_tx (lm_of (by rw [List.length_append, List.length_take, List.length_drop]; simp only [List.length_cons, List.length_nil]; omega))
      simp only [e_int, e_str, e_bl, e_non, e_glob, vr_v, vr_o, e_var, kBin2_ap, kBin1_ap, e_bin, kNeg_ap, e_neg, kNot_ap, e_nott, kAnd_ap, e_and, kOr_ap, e_or, kCmp2_ap, kCmp1_ap, e_cmp, kCh3_ap, kCh2_ap, kCh1_ap, e_cmp2, kIte_ap, e_ite, kTup_ap, e_tup, kLst_ap, e_lst, kSub2_ap, kSub1_ap, e_sub, kSlc3_ap, kSlc2_ap, kSlc1_ap, e_slc, kSlL2_ap, kSlL1_ap, e_slcL, kSlH2_ap, kSlH1_ap, e_slcH, kRev_ap, e_rev, kCall_ap, e_call, kBi_ap, e_bi, kIsi_ap, e_isi, kMu_ap, e_mu, kPm2_ap, kPm1_ap, e_pm, kTn3_ap, kTn2_ap, kTn1_ap, kCE_ap, kComp_ap, e_comp, kTNot_ap, t_nott, kTAnd_ap, t_and, kTOr_ap, t_or, kTVal_ap, t_val, s_nil, kS3_ap, kS2_ap, kS1_ap, s_cons, r_nil, kRr2_ap, kRr1_ap, r_cons, c_nil, kCa_ap, kC2_ap, kC1f_ap, kC1t_ap, c_f, c_t, f_nil, kF_ap, f_cons, kI2_ap, kI1_ap, i_seq, kEn2_ap, kEn1_ap, i_enum, kG1_ap, i_rng1, kG2b_ap, kG2a_ap, i_rng2, st_v, st_o, kSt_ap, st_s, x_nm, kA2_ap, kA1_ap, x_tp, kPar_ap, x_par, kExp_ap, x_exp, kIf_ap, x_ife, kFor_ap, x_for, x_whl, kRet_ap, x_ret, x_retN, x_brk, x_cnt, x_pass, xs_nil, xs_cons, fo_nx, fo_ret, bind_ok_, st_ok_, opd_v, opd_s, opd_o, seq_nx, seq_ret, seq_brk, seq_cnt, optR, optV, optB, view, views, fin, lent, isO, setTg, setAll, setCA, kd, wipes, unwipe, frz, muOp, truth, seqOf, isNone, callF, lend, slots, back, isLent, List.map_cons, List.map_nil, List.length_cons, List.length_nil, List.cons_append, List.nil_append, List.replicate, Nat.reduceAdd, Nat.reduceSub, List.getElem?_cons_zero, List.getElem?_cons_succ, List.set_cons_zero, List.set_cons_succ, List.getD_cons_zero, List.getD_cons_succ, if_true, if_false, reduceIte, Option.map_some, Option.map_none, List.filterMap_nil, List.filterMap_cons, List.nodup_nil, id_eq, Bool.false_eq_true, nodup1, Wk_Γ, Wk_C, T.l, T.g, Rc.len_tx htL, Rc.len_tx hL, o_add, hH, hL2, hf2, c1, c2]
      refine ⟨_, _, rfl, by simp, ?_⟩
      rw [List.length_append, List.length_append, List.length_take, List.length_drop]
      simp only [List.length_cons, List.length_nil]
      omega
  have haL : r.a.length ≤ Lm := hr.ok.lm
  have hbL : r.b.length ≤ Lm := lm_of (by have := hr.bl; omega)
  unfold f_law_near at rest
  simp only [bodyOf, e_int, e_str, e_bl, e_non, e_glob, vr_v, vr_o, e_var, kBin2_ap, kBin1_ap, e_bin, kNeg_ap, e_neg, kNot_ap, e_nott, kAnd_ap, e_and, kOr_ap, e_or, kCmp2_ap, kCmp1_ap, e_cmp, kCh3_ap, kCh2_ap, kCh1_ap, e_cmp2, kIte_ap, e_ite, kTup_ap, e_tup, kLst_ap, e_lst, kSub2_ap, kSub1_ap, e_sub, kSlc3_ap, kSlc2_ap, kSlc1_ap, e_slc, kSlL2_ap, kSlL1_ap, e_slcL, kSlH2_ap, kSlH1_ap, e_slcH, kRev_ap, e_rev, kCall_ap, e_call, kBi_ap, e_bi, kIsi_ap, e_isi, kMu_ap, e_mu, kPm2_ap, kPm1_ap, e_pm, kTn3_ap, kTn2_ap, kTn1_ap, kCE_ap, kComp_ap, e_comp, kTNot_ap, t_nott, kTAnd_ap, t_and, kTOr_ap, t_or, kTVal_ap, t_val, s_nil, kS3_ap, kS2_ap, kS1_ap, s_cons, r_nil, kRr2_ap, kRr1_ap, r_cons, c_nil, kCa_ap, kC2_ap, kC1f_ap, kC1t_ap, c_f, c_t, f_nil, kF_ap, f_cons, kI2_ap, kI1_ap, i_seq, kEn2_ap, kEn1_ap, i_enum, kG1_ap, i_rng1, kG2b_ap, kG2a_ap, i_rng2, st_v, st_o, kSt_ap, st_s, x_nm, kA2_ap, kA1_ap, x_tp, kPar_ap, x_par, kExp_ap, x_exp, kIf_ap, x_ife, kFor_ap, x_for, x_whl, kRet_ap, x_ret, x_retN, x_brk, x_cnt, x_pass, xs_nil, xs_cons, fo_nx, fo_ret, bind_ok_, st_ok_, opd_v, opd_s, opd_o, seq_nx, seq_ret, seq_brk, seq_cnt, optR, optV, optB, view, views, fin, lent, isO, setTg, setAll, setCA, kd, wipes, unwipe, frz, binOp, muOp, truth, seqOf, isNone, callF, lend, slots, back, isLent, List.map_cons, List.map_nil, List.length_cons, List.length_nil, List.cons_append, List.nil_append, List.replicate, Nat.reduceAdd, Nat.reduceSub, List.getElem?_cons_zero, List.getElem?_cons_succ, List.set_cons_zero, List.set_cons_succ, List.getD_cons_zero, List.getD_cons_succ, if_true, if_false, reduceIte, Option.map_some, Option.map_none, List.filterMap_nil, List.filterMap_cons, List.nodup_nil, id_eq, Bool.false_eq_true, nodup1, Wk_Γ, Wk_C, T.l, T.g] at rest
  obtain ⟨d, hd1, hd2⟩ := spell_is r
  unfold f_law_near runFn
  simp only [e_int, e_str, e_bl, e_non, e_glob, vr_v, vr_o, e_var, kBin2_ap, kBin1_ap, e_bin, kNeg_ap, e_neg, kNot_ap, e_nott, kAnd_ap, e_and, kOr_ap, e_or, kCmp2_ap, kCmp1_ap, e_cmp, kCh3_ap, kCh2_ap, kCh1_ap, e_cmp2, kIte_ap, e_ite, kTup_ap, e_tup, kLst_ap, e_lst, kSub2_ap, kSub1_ap, e_sub, kSlc3_ap, kSlc2_ap, kSlc1_ap, e_slc, kSlL2_ap, kSlL1_ap, e_slcL, kSlH2_ap, kSlH1_ap, e_slcH, kRev_ap, e_rev, kCall_ap, e_call, kBi_ap, e_bi, kIsi_ap, e_isi, kMu_ap, e_mu, kPm2_ap, kPm1_ap, e_pm, kTn3_ap, kTn2_ap, kTn1_ap, kCE_ap, kComp_ap, e_comp, kTNot_ap, t_nott, kTAnd_ap, t_and, kTOr_ap, t_or, kTVal_ap, t_val, s_nil, kS3_ap, kS2_ap, kS1_ap, s_cons, r_nil, kRr2_ap, kRr1_ap, r_cons, c_nil, kCa_ap, kC2_ap, kC1f_ap, kC1t_ap, c_f, c_t, f_nil, kF_ap, f_cons, kI2_ap, kI1_ap, i_seq, kEn2_ap, kEn1_ap, i_enum, kG1_ap, i_rng1, kG2b_ap, kG2a_ap, i_rng2, st_v, st_o, kSt_ap, st_s, x_nm, kA2_ap, kA1_ap, x_tp, kPar_ap, x_par, kExp_ap, x_exp, kIf_ap, x_ife, kFor_ap, x_for, x_whl, kRet_ap, x_ret, x_retN, x_brk, x_cnt, x_pass, xs_nil, xs_cons, fo_nx, fo_ret, bind_ok_, st_ok_, opd_v, opd_s, opd_o, seq_nx, seq_ret, seq_brk, seq_cnt, optR, optV, optB, view, views, fin, lent, isO, setTg, setAll, setCA, kd, wipes, unwipe, frz, muOp, truth, seqOf, isNone, callF, lend, slots, back, isLent, List.map_cons, List.map_nil, List.length_cons, List.length_nil, List.cons_append, List.nil_append, List.replicate, Nat.reduceAdd, Nat.reduceSub, List.getElem?_cons_zero, List.getElem?_cons_succ, List.set_cons_zero, List.set_cons_succ, List.getD_cons_zero, List.getD_cons_succ, if_true, if_false, reduceIte, Option.map_some, Option.map_none, List.filterMap_nil, List.filterMap_cons, List.nodup_nil, id_eq, Bool.false_eq_true, nodup1, Wk_Γ, Wk_C, hd1, hd2]
  cases h : r.sp with
  | true =>
    have al := hr.al
    have c1 : ∀ q : List Int, binOp .Add (Tx r.a) (Tx [f q]) = some (.v (Tx (r.a ++ [f q]))) := fun q => cat_tx (lm_of (by simp only [List.length_cons, List.length_nil]; omega))
    have al2 : ∀ q : List Int, (r.a ++ [f q]).length ≤ Lm := fun q => lm_of (by rw [List.length_append]; simp only [List.length_cons, List.length_nil]; omega)
    have hH : ∀ (q q' : List Int), slcOp (Tx (r.a ++ [f q])) none (some (1 + tkR q' ((r.a ++ [f q]).length : Int))) = some (.v (Tx ((r.a ++ [f q]).take (1 + tkN q' ((r.a ++ [f q]).length : Int))))) := fun q q' => by
      rw [tk_N]
      exact slcH_tx (al2 q) _
    have add1 : ∀ z : Int, binOp .Add (.int 1) (.int z) = some (.v (.int (1 + z))) := fun _ => rfl
    simp only [e_int, e_str, e_bl, e_non, e_glob, vr_v, vr_o, e_var, kBin2_ap, kBin1_ap, e_bin, kNeg_ap, e_neg, kNot_ap, e_nott, kAnd_ap, e_and, kOr_ap, e_or, kCmp2_ap, kCmp1_ap, e_cmp, kCh3_ap, kCh2_ap, kCh1_ap, e_cmp2, kIte_ap, e_ite, kTup_ap, e_tup, kLst_ap, e_lst, kSub2_ap, kSub1_ap, e_sub, kSlc3_ap, kSlc2_ap, kSlc1_ap, e_slc, kSlL2_ap, kSlL1_ap, e_slcL, kSlH2_ap, kSlH1_ap, e_slcH, kRev_ap, e_rev, kCall_ap, e_call, kBi_ap, e_bi, kIsi_ap, e_isi, kMu_ap, e_mu, kPm2_ap, kPm1_ap, e_pm, kTn3_ap, kTn2_ap, kTn1_ap, kCE_ap, kComp_ap, e_comp, kTNot_ap, t_nott, kTAnd_ap, t_and, kTOr_ap, t_or, kTVal_ap, t_val, s_nil, kS3_ap, kS2_ap, kS1_ap, s_cons, r_nil, kRr2_ap, kRr1_ap, r_cons, c_nil, kCa_ap, kC2_ap, kC1f_ap, kC1t_ap, c_f, c_t, f_nil, kF_ap, f_cons, kI2_ap, kI1_ap, i_seq, kEn2_ap, kEn1_ap, i_enum, kG1_ap, i_rng1, kG2b_ap, kG2a_ap, i_rng2, st_v, st_o, kSt_ap, st_s, x_nm, kA2_ap, kA1_ap, x_tp, kPar_ap, x_par, kExp_ap, x_exp, kIf_ap, x_ife, kFor_ap, x_for, x_whl, kRet_ap, x_ret, x_retN, x_brk, x_cnt, x_pass, xs_nil, xs_cons, fo_nx, fo_ret, bind_ok_, st_ok_, opd_v, opd_s, opd_o, seq_nx, seq_ret, seq_brk, seq_cnt, optR, optV, optB, view, views, fin, lent, isO, setTg, setAll, setCA, kd, wipes, unwipe, frz, muOp, truth, seqOf, isNone, callF, lend, slots, back, isLent, List.map_cons, List.map_nil, List.length_cons, List.length_nil, List.cons_append, List.nil_append, List.replicate, Nat.reduceAdd, Nat.reduceSub, List.getElem?_cons_zero, List.getElem?_cons_succ, List.set_cons_zero, List.set_cons_succ, List.getD_cons_zero, List.getD_cons_succ, if_true, if_false, reduceIte, Option.map_some, Option.map_none, List.filterMap_nil, List.filterMap_cons, List.nodup_nil, id_eq, Bool.false_eq_true, nodup1, Wk_Γ, Wk_C, enc_a, T.l, T.g, Rc.len_tx hL, hf2, c1, Rc.len_tx (al2 _), add1, hH]
    exact rest _ _ _ _ (by
      intro e
      have := congrArg List.length e
      rw [List.length_take, List.length_append] at this
      simp only [List.length_cons, List.length_nil] at this
      omega) (by rw [List.length_take, List.length_append]; simp only [List.length_cons, List.length_nil]; omega)
  | false =>
    obtain ⟨fa, hfa⟩ := pickT haL hr.ne
    have hfa2 : ∀ p, subOp (Tx r.a) (.int (tkR p (r.a.length : Int))) = some (Tx [fa p]) := fun p => (hfa p).2
    have s62 : ∀ q : List Int, small62 (tkR q most) = true := fun q => by
      have h1 := tk_lt q hm0
      have h2 := tk_nn q most
      exact small_int (by omega) (by omega)
    simp only [e_int, e_str, e_bl, e_non, e_glob, vr_v, vr_o, e_var, kBin2_ap, kBin1_ap, e_bin, kNeg_ap, e_neg, kNot_ap, e_nott, kAnd_ap, e_and, kOr_ap, e_or, kCmp2_ap, kCmp1_ap, e_cmp, kCh3_ap, kCh2_ap, kCh1_ap, e_cmp2, kIte_ap, e_ite, kTup_ap, e_tup, kLst_ap, e_lst, kSub2_ap, kSub1_ap, e_sub, kSlc3_ap, kSlc2_ap, kSlc1_ap, e_slc, kSlL2_ap, kSlL1_ap, e_slcL, kSlH2_ap, kSlH1_ap, e_slcH, kRev_ap, e_rev, kCall_ap, e_call, kBi_ap, e_bi, kIsi_ap, e_isi, kMu_ap, e_mu, kPm2_ap, kPm1_ap, e_pm, kTn3_ap, kTn2_ap, kTn1_ap, kCE_ap, kComp_ap, e_comp, kTNot_ap, t_nott, kTAnd_ap, t_and, kTOr_ap, t_or, kTVal_ap, t_val, s_nil, kS3_ap, kS2_ap, kS1_ap, s_cons, r_nil, kRr2_ap, kRr1_ap, r_cons, c_nil, kCa_ap, kC2_ap, kC1f_ap, kC1t_ap, c_f, c_t, f_nil, kF_ap, f_cons, kI2_ap, kI1_ap, i_seq, kEn2_ap, kEn1_ap, i_enum, kG1_ap, i_rng1, kG2b_ap, kG2a_ap, i_rng2, st_v, st_o, kSt_ap, st_s, x_nm, kA2_ap, kA1_ap, x_tp, kPar_ap, x_par, kExp_ap, x_exp, kIf_ap, x_ife, kFor_ap, x_for, x_whl, kRet_ap, x_ret, x_retN, x_brk, x_cnt, x_pass, xs_nil, xs_cons, fo_nx, fo_ret, bind_ok_, st_ok_, opd_v, opd_s, opd_o, seq_nx, seq_ret, seq_brk, seq_cnt, optR, optV, optB, view, views, fin, lent, isO, setTg, setAll, setCA, kd, wipes, unwipe, frz, binOp, muOp, truth, seqOf, isNone, callF, lend, slots, back, isLent, List.map_cons, List.map_nil, List.length_cons, List.length_nil, List.cons_append, List.nil_append, List.replicate, Nat.reduceAdd, Nat.reduceSub, List.getElem?_cons_zero, List.getElem?_cons_succ, List.set_cons_zero, List.set_cons_succ, List.getD_cons_zero, List.getD_cons_succ, if_true, if_false, reduceIte, Option.map_some, Option.map_none, List.filterMap_nil, List.filterMap_cons, List.nodup_nil, id_eq, Bool.false_eq_true, nodup1, Wk_Γ, Wk_C, enc_a, T.l, T.g, Rc.len_tx haL, hfa2, s62]
    generalize hq : forL _ _ _ = o
    obtain ⟨ρ', rfl, q, t, a5, rfl, i1, i2⟩ := forL_ok hq (fun i ρ => ∃ (q : List Int) (t : List Nat) (a5 : Sl), ρ = [.o (.lst (iL q)), .v (Tx l), .v (enc r), .v (.int most), .v (Tx t), a5, .un] ∧ t ≠ [] ∧ t.length ≤ i + 1) (by
      rintro i x ρ hx ⟨q, t, a5, rfl, i1, i2⟩
      obtain ⟨rfl, hi⟩ := rng1L_get hx
      have h1 := tk_lt (tkP p (r.a.length : Int)) hm0
      have h2 := tk_nn (tkP p (r.a.length : Int)) most
      have ne : cmpOp .NotEq (Tx r.b) (.str "") = some (!decide (r.b = [])) := by
        rw [empty_tx]
        show (eqD (Tx r.b) (Tx [])).map (!·) = _
        show some (!decide (tx r.b = tx [])) = _
        rw [tx_eq]
      simp only [turnF_ap, e_int, e_str, e_bl, e_non, e_glob, vr_v, vr_o, e_var, kBin2_ap, kBin1_ap, e_bin, kNeg_ap, e_neg, kNot_ap, e_nott, kAnd_ap, e_and, kOr_ap, e_or, kCmp2_ap, kCmp1_ap, e_cmp, kCh3_ap, kCh2_ap, kCh1_ap, e_cmp2, kIte_ap, e_ite, kTup_ap, e_tup, kLst_ap, e_lst, kSub2_ap, kSub1_ap, e_sub, kSlc3_ap, kSlc2_ap, kSlc1_ap, e_slc, kSlL2_ap, kSlL1_ap, e_slcL, kSlH2_ap, kSlH1_ap, e_slcH, kRev_ap, e_rev, kCall_ap, e_call, kBi_ap, e_bi, kIsi_ap, e_isi, kMu_ap, e_mu, kPm2_ap, kPm1_ap, e_pm, kTn3_ap, kTn2_ap, kTn1_ap, kCE_ap, kComp_ap, e_comp, kTNot_ap, t_nott, kTAnd_ap, t_and, kTOr_ap, t_or, kTVal_ap, t_val, s_nil, kS3_ap, kS2_ap, kS1_ap, s_cons, r_nil, kRr2_ap, kRr1_ap, r_cons, c_nil, kCa_ap, kC2_ap, kC1f_ap, kC1t_ap, c_f, c_t, f_nil, kF_ap, f_cons, kI2_ap, kI1_ap, i_seq, kEn2_ap, kEn1_ap, i_enum, kG1_ap, i_rng1, kG2b_ap, kG2a_ap, i_rng2, st_v, st_o, kSt_ap, st_s, x_nm, kA2_ap, kA1_ap, x_tp, kPar_ap, x_par, kExp_ap, x_exp, kIf_ap, x_ife, kFor_ap, x_for, x_whl, kRet_ap, x_ret, x_retN, x_brk, x_cnt, x_pass, xs_nil, xs_cons, fo_nx, fo_ret, bind_ok_, st_ok_, opd_v, opd_s, opd_o, seq_nx, seq_ret, seq_brk, seq_cnt, optR, optV, optB, view, views, fin, lent, isO, setTg, setAll, setCA, kd, wipes, unwipe, frz, muOp, truth, seqOf, isNone, callF, lend, slots, back, isLent, List.map_cons, List.map_nil, List.length_cons, List.length_nil, List.cons_append, List.nil_append, List.replicate, Nat.reduceAdd, Nat.reduceSub, List.getElem?_cons_zero, List.getElem?_cons_succ, List.set_cons_zero, List.set_cons_succ, List.getD_cons_zero, List.getD_cons_succ, if_true, if_false, reduceIte, Option.map_some, Option.map_none, List.filterMap_nil, List.filterMap_cons, List.nodup_nil, id_eq, Bool.false_eq_true, nodup1, Wk_Γ, Wk_C, enc_b h, ne]
      cases hb : decide (r.b = []) with
      | true =>
        simp only [e_int, e_str, e_bl, e_non, e_glob, vr_v, vr_o, e_var, kBin2_ap, kBin1_ap, e_bin, kNeg_ap, e_neg, kNot_ap, e_nott, kAnd_ap, e_and, kOr_ap, e_or, kCmp2_ap, kCmp1_ap, e_cmp, kCh3_ap, kCh2_ap, kCh1_ap, e_cmp2, kIte_ap, e_ite, kTup_ap, e_tup, kLst_ap, e_lst, kSub2_ap, kSub1_ap, e_sub, kSlc3_ap, kSlc2_ap, kSlc1_ap, e_slc, kSlL2_ap, kSlL1_ap, e_slcL, kSlH2_ap, kSlH1_ap, e_slcH, kRev_ap, e_rev, kCall_ap, e_call, kBi_ap, e_bi, kIsi_ap, e_isi, kMu_ap, e_mu, kPm2_ap, kPm1_ap, e_pm, kTn3_ap, kTn2_ap, kTn1_ap, kCE_ap, kComp_ap, e_comp, kTNot_ap, t_nott, kTAnd_ap, t_and, kTOr_ap, t_or, kTVal_ap, t_val, s_nil, kS3_ap, kS2_ap, kS1_ap, s_cons, r_nil, kRr2_ap, kRr1_ap, r_cons, c_nil, kCa_ap, kC2_ap, kC1f_ap, kC1t_ap, c_f, c_t, f_nil, kF_ap, f_cons, kI2_ap, kI1_ap, i_seq, kEn2_ap, kEn1_ap, i_enum, kG1_ap, i_rng1, kG2b_ap, kG2a_ap, i_rng2, st_v, st_o, kSt_ap, st_s, x_nm, kA2_ap, kA1_ap, x_tp, kPar_ap, x_par, kExp_ap, x_exp, kIf_ap, x_ife, kFor_ap, x_for, x_whl, kRet_ap, x_ret, x_retN, x_brk, x_cnt, x_pass, xs_nil, xs_cons, fo_nx, fo_ret, bind_ok_, st_ok_, opd_v, opd_s, opd_o, seq_nx, seq_ret, seq_brk, seq_cnt, optR, optV, optB, view, views, fin, lent, isO, setTg, setAll, setCA, kd, wipes, unwipe, frz, muOp, truth, seqOf, isNone, callF, lend, slots, back, isLent, List.map_cons, List.map_nil, List.length_cons, List.length_nil, List.cons_append, List.nil_append, List.replicate, Nat.reduceAdd, Nat.reduceSub, List.getElem?_cons_zero, List.getElem?_cons_succ, List.set_cons_zero, List.set_cons_succ, List.getD_cons_zero, List.getD_cons_succ, if_true, if_false, reduceIte, Option.map_some, Option.map_none, List.filterMap_nil, List.filterMap_cons, List.nodup_nil, id_eq, Bool.false_eq_true, nodup1, Wk_Γ, Wk_C, hb, Bool.not_true]
        exact ⟨_, .inl rfl, q, t, _, rfl, i1, by omega⟩
      | false =>
        obtain ⟨fb, hfb⟩ := pickT hbL (of_decide_eq_false hb)
        have hfb2 : ∀ p, subOp (Tx r.b) (.int (tkR p (r.b.length : Int))) = some (Tx [fb p]) := fun p => (hfb p).2
        have c1 : ∀ q : List Int, binOp .Add (Tx t) (Tx [fb q]) = some (.v (Tx (t ++ [fb q]))) := fun q => cat_tx (lm_of (by simp only [List.length_cons, List.length_nil]; omega))
        simp only [e_int, e_str, e_bl, e_non, e_glob, vr_v, vr_o, e_var, kBin2_ap, kBin1_ap, e_bin, kNeg_ap, e_neg, kNot_ap, e_nott, kAnd_ap, e_and, kOr_ap, e_or, kCmp2_ap, kCmp1_ap, e_cmp, kCh3_ap, kCh2_ap, kCh1_ap, e_cmp2, kIte_ap, e_ite, kTup_ap, e_tup, kLst_ap, e_lst, kSub2_ap, kSub1_ap, e_sub, kSlc3_ap, kSlc2_ap, kSlc1_ap, e_slc, kSlL2_ap, kSlL1_ap, e_slcL, kSlH2_ap, kSlH1_ap, e_slcH, kRev_ap, e_rev, kCall_ap, e_call, kBi_ap, e_bi, kIsi_ap, e_isi, kMu_ap, e_mu, kPm2_ap, kPm1_ap, e_pm, kTn3_ap, kTn2_ap, kTn1_ap, kCE_ap, kComp_ap, e_comp, kTNot_ap, t_nott, kTAnd_ap, t_and, kTOr_ap, t_or, kTVal_ap, t_val, s_nil, kS3_ap, kS2_ap, kS1_ap, s_cons, r_nil, kRr2_ap, kRr1_ap, r_cons, c_nil, kCa_ap, kC2_ap, kC1f_ap, kC1t_ap, c_f, c_t, f_nil, kF_ap, f_cons, kI2_ap, kI1_ap, i_seq, kEn2_ap, kEn1_ap, i_enum, kG1_ap, i_rng1, kG2b_ap, kG2a_ap, i_rng2, st_v, st_o, kSt_ap, st_s, x_nm, kA2_ap, kA1_ap, x_tp, kPar_ap, x_par, kExp_ap, x_exp, kIf_ap, x_ife, kFor_ap, x_for, x_whl, kRet_ap, x_ret, x_retN, x_brk, x_cnt, x_pass, xs_nil, xs_cons, fo_nx, fo_ret, bind_ok_, st_ok_, opd_v, opd_s, opd_o, seq_nx, seq_ret, seq_brk, seq_cnt, optR, optV, optB, view, views, fin, lent, isO, setTg, setAll, setCA, kd, wipes, unwipe, frz, muOp, truth, seqOf, isNone, callF, lend, slots, back, isLent, List.map_cons, List.map_nil, List.length_cons, List.length_nil, List.cons_append, List.nil_append, List.replicate, Nat.reduceAdd, Nat.reduceSub, List.getElem?_cons_zero, List.getElem?_cons_succ, List.set_cons_zero, List.set_cons_succ, List.getD_cons_zero, List.getD_cons_succ, if_true, if_false, reduceIte, Option.map_some, Option.map_none, List.filterMap_nil, List.filterMap_cons, List.nodup_nil, id_eq, Bool.false_eq_true, nodup1, Wk_Γ, Wk_C, hb, Bool.not_false, enc_b h, T.l, T.g, Rc.len_tx hbL, hfb2, c1]
        exact ⟨_, .inl rfl, _, t ++ [fb q], _, rfl, by simp, by rw [List.length_append]; simp only [List.length_cons, List.length_nil]; omega⟩) ⟨_, [fa p], _, rfl, by simp, Nat.le_refl _⟩
    rw [rng1L_len] at i2
    have h1 := tk_lt (tkP p (r.a.length : Int)) hm0
    have h2 := tk_nn (tkP p (r.a.length : Int)) most
    simp only [e_int, e_str, e_bl, e_non, e_glob, vr_v, vr_o, e_var, kBin2_ap, kBin1_ap, e_bin, kNeg_ap, e_neg, kNot_ap, e_nott, kAnd_ap, e_and, kOr_ap, e_or, kCmp2_ap, kCmp1_ap, e_cmp, kCh3_ap, kCh2_ap, kCh1_ap, e_cmp2, kIte_ap, e_ite, kTup_ap, e_tup, kLst_ap, e_lst, kSub2_ap, kSub1_ap, e_sub, kSlc3_ap, kSlc2_ap, kSlc1_ap, e_slc, kSlL2_ap, kSlL1_ap, e_slcL, kSlH2_ap, kSlH1_ap, e_slcH, kRev_ap, e_rev, kCall_ap, e_call, kBi_ap, e_bi, kIsi_ap, e_isi, kMu_ap, e_mu, kPm2_ap, kPm1_ap, e_pm, kTn3_ap, kTn2_ap, kTn1_ap, kCE_ap, kComp_ap, e_comp, kTNot_ap, t_nott, kTAnd_ap, t_and, kTOr_ap, t_or, kTVal_ap, t_val, s_nil, kS3_ap, kS2_ap, kS1_ap, s_cons, r_nil, kRr2_ap, kRr1_ap, r_cons, c_nil, kCa_ap, kC2_ap, kC1f_ap, kC1t_ap, c_f, c_t, f_nil, kF_ap, f_cons, kI2_ap, kI1_ap, i_seq, kEn2_ap, kEn1_ap, i_enum, kG1_ap, i_rng1, kG2b_ap, kG2a_ap, i_rng2, st_v, st_o, kSt_ap, st_s, x_nm, kA2_ap, kA1_ap, x_tp, kPar_ap, x_par, kExp_ap, x_exp, kIf_ap, x_ife, kFor_ap, x_for, x_whl, kRet_ap, x_ret, x_retN, x_brk, x_cnt, x_pass, xs_nil, xs_cons, fo_nx, fo_ret, bind_ok_, st_ok_, opd_v, opd_s, opd_o, seq_nx, seq_ret, seq_brk, seq_cnt, optR, optV, optB, view, views, fin, lent, isO, setTg, setAll, setCA, kd, wipes, unwipe, frz, binOp, muOp, truth, seqOf, isNone, callF, lend, slots, back, isLent, List.map_cons, List.map_nil, List.length_cons, List.length_nil, List.cons_append, List.nil_append, List.replicate, Nat.reduceAdd, Nat.reduceSub, List.getElem?_cons_zero, List.getElem?_cons_succ, List.set_cons_zero, List.set_cons_succ, List.getD_cons_zero, List.getD_cons_succ, if_true, if_false, reduceIte, Option.map_some, Option.map_none, List.filterMap_nil, List.filterMap_cons, List.nodup_nil, id_eq, Bool.false_eq_true, nodup1, Wk_Γ, Wk_C, T.l, T.g]
    exact rest _ _ _ _ i1 (by omega)
end
end W6

set_option Elab.async false
set_option linter.all false
set_option maxRecDepth 100000
set_option maxHeartbeats 4000000
/-! K06p: the walk of any text holds; odd texts have no kinds. -/
namespace W6
open PySem Rc Lw06
structure HP (P : Nat → Option Fn) (C : Nat → PyData) : Prop where
  c0 : C 0 = worths
  p0 : P 0 = some f_law_cell
  p1 : P 1 = some f_law_pool
  p2 : P 2 = some f_law_take
  p3 : P 3 = some f_law_signs
  p4 : P 4 = some f_law_lot
  p5 : P 5 = some f_law_kind
  p6 : P 6 = some f_law_is
  p7 : P 7 = some f_law_some
  p10 : P 10 = some f_law_all
  p11 : P 11 = some f_law_near
  p12 : P 12 = some f_law_length
  p13 : P 13 = some f_law_fits
  p14 : P 14 = some f_law_due
  p15 : P 15 = some f_law_kinds
  p16 : P 16 = some f_law_walks
  p18 : P 18 = some f_has_rule
  p19 : P 19 = some f_begins
  p20 : P 20 = some f_goes_on
  p21 : P 21 = some f_fits
  p22 : P 22 = some f_word_begin
  p23 : P 23 = some f_word_on
  p24 : P 24 = some f_word_kinds
  p25 : P 25 = some f_kinds_of
  p71 : P 71 = some f_law_spelled
  p72 : P 72 = some f_law_rules
section
variable {P : Nat → Option Fn} {C : Nat → PyData} (H : HP P C) {fuel k : Nat} {rs : List Rul} (hd : ∀ r ∈ rs, Dr r) (h6 : rs.length ≤ 6)
include H hd
theorem beg_S {r : Rul} (hr : r ∈ rs) (s : Nat) : sem C P fuel (k + 1) 19 [.v (enc r), .v (Tx [s])] = .v (.bool (beg r s)) [] := by
  rw [sem_at H.p19]
  exact begins_run _ _ r s (hd r hr).ok.lm (hd r hr).ok.ne
theorem goes_S {r : Rul} (hr : r ∈ rs) (m s : Nat) : sem C P fuel (k + 1) 20 [.v (enc r), .v (.int m), .v (Tx [s])] = .v (.bool (goes r m s)) [] := by
  rw [sem_at H.p20]
  exact goes_run _ _ r m s (hd r hr).ok.lm
theorem fits_S {r : Rul} (hr : r ∈ rs) (m s : Nat) : sem C P fuel (k + 1) 21 [.v (enc r), .v (.int m), .v (Tx [s])] = .v (.bool (fit r m s)) [] := by
  rw [sem_at H.p21]
  exact fits_run _ _ r m s (hd r hr).ok.lm
include h6
theorem begin_S {t : List Nat} {s : Nat} (h : t[0]? = some s) : sem C P fuel (k + 2) 22 [.v (rulesD rs), .v (Tx [s])] = .v (due rs t 1) [] := by
  rw [sem_at H.p22, ← due_begin h]
  exact begin_run fuel (Wk fuel P C (k + 1)) H.c0 (lmk H.p19 m_begins) (lmk H.p21 m_fits) rs (fun r hr => (hd r hr).ok) h6 s (fun r hr => beg_S H hd hr s) (fun r hr => fits_S H hd hr 1 s)
theorem on_S {t : List Nat} {m s : Nat} (h0 : m ≠ 0) (h : t[m]? = some s) (hb : bord rs t m ≠ 0) : sem C P fuel (k + 2) 23 [.v (rulesD rs), .v (due rs t m), .v (Tx [s])] = .v (due rs t (m + 1)) [] := by
  have e : due rs t m = .tuple [.int (bord rs t m : Nat), .int (fitd rs t m : Nat), .int (spelt rs t m : Nat)] := by
    unfold due res3
    rw [if_neg hb]
  rw [e, sem_at H.p23, ← due_on h h0]
  refine on_run fuel (Wk fuel P C (k + 1)) H.c0 (lmk H.p18 m_has_rule) (lmk H.p20 m_goes_on) (lmk H.p21 m_fits) rs h6 (fun r => bn r t m) _ _ _ s (fun i r hr => ?_) (fun r hr => goes_S H hd hr _ s) (fun r hr => fits_S H hd hr (spelt rs t m + 1) s)
  have hi := (List.getElem?_eq_some_iff.mp hr).1
  rw [Wk_Γ, sem_at H.p18, has_run fuel _ H.c0 _ (by omega)]
  unfold bord
  rw [has_sum (fun r => bn r t m) hr]
theorem wkinds_S {t : List Nat} {m : Nat} (hb : bord rs t m ≠ 0) : sem C P fuel (k + 2) 24 [.v (rulesD rs), .v (due rs t m)] = .v (.tuple ((kds (fun r => bn r t m && fit r m (lastS t m)) rs).map Tx)) [] := by
  have e : due rs t m = .tuple [.int (bord rs t m : Nat), .int (fitd rs t m : Nat), .int (spelt rs t m : Nat)] := by
    unfold due res3
    rw [if_neg hb]
  rw [e, sem_at H.p24]
  refine kinds_run fuel (Wk fuel P C (k + 1)) (lmk H.p18 m_has_rule) rs h6 (fun r hr => (hd r hr).kd) _ _ _ _ fun i r hr => ?_
  have hi := (List.getElem?_eq_some_iff.mp hr).1
  rw [Wk_Γ, sem_at H.p18, has_run fuel _ H.c0 _ (by omega)]
  unfold fitd
  rw [has_sum (fun r => bn r t m && fit r m (lastS t m)) hr]
theorem kinds_S {t : List Nat} (hl : t.length ≤ Lm) (h0 : t ≠ []) : sem C P fuel (k + 3) 25 [.v (rulesD rs), .v (Tx t)] = .v (.tuple ((kindsT rs t t.length).map Tx)) [] := by
  rw [sem_at H.p25]
  refine kindsOf_run fuel (Wk fuel P C (k + 2)) (lmk H.p22 m_word_begin) (lmk H.p23 m_word_on) (lmk H.p24 m_word_kinds) rs t hl h0 (fun s hs => begin_S H hd h6 hs) (fun m s m0 hs hb => on_S H hd h6 m0 hs hb) fun hb => ?_
  rw [Wk_Γ, wkinds_S H hd h6 hb]
  unfold kindsT
  rw [if_neg hb]
theorem is_S (d : PyData) (h : (∃ t m, d = due rs t m) ∨ d = .tuple [] ∨ ∃ q, d = .tuple ((kds q rs).map Tx)) : sem C P fuel (k + 1) 6 [.v d, .v d] = .v (.bool true) [] := by
  rw [sem_at H.p6]
  rcases h with ⟨t, m, rfl⟩ | rfl | ⟨q, rfl⟩
  · exact is_due _ _ rs t m
  · exact is_tup _ _ (plainT (ks := []) (fun l h => by cases h) (by decide))
  · refine is_tup _ _ (plainT (kds_ok q (fun k => PyData.strOk (tx k) = true) rs [] (fun r hr => (hd r hr).kd) (fun k h => by cases h)) ?_)
    have e : (kds q rs).length ≤ 0 + rs.length := kds_len q rs []
    omega
theorem hyp_S (t : List Nat) (h0 : t ≠ []) (hl : t.length < 900000) : Hyp (Wk fuel P C (k + 3)) rs t := by
  have hL : t.length ≤ Lm := lm_of (by omega)
  exact {
    l4 := lmk H.p22 m_word_begin
    l5 := lmk H.p23 m_word_on
    l6 := lmk H.p24 m_word_kinds
    l7 := lmk H.p25 m_kinds_of
    l14 := lmk H.p6 m_law_is
    l20 := lmk H.p12 m_law_length
    l22 := lmk H.p14 m_law_due
    l23 := lmk H.p15 m_law_kinds
    g4 := fun s hs => begin_S H hd h6 hs
    g5 := fun m s m0 hs hb => on_S H hd h6 m0 hs hb
    g6 := fun m m0 hm hb => wkinds_S H hd h6 hb
    g7 := kinds_S H hd h6 hL h0
    g7t := fun m m0 hm hb => by
      have e1 : (t.take m).length = m := by rw [List.length_take]; omega
      have e2 : t.take m ≠ [] := List.length_pos_iff.mp (by omega)
      rw [Wk_Γ, kinds_S H hd h6 (by omega) e2, e1]
      have e3 : bord rs (t.take m) m = 0 := by
        rw [← hb]
        exact sumB_cg fun r _ => bn_take (Nat.le_refl _)
      unfold kindsT
      rw [if_pos e3]
      rfl
    g14 := fun d h => is_S H hd h6 d (by
      rcases h with ⟨m, h⟩ | h | h
      · exact .inl ⟨t, m, h⟩
      · exact .inr (.inl h)
      · exact .inr (.inr h))
    g20 := fun r hr => by
      rw [Wk_Γ, sem_at H.p12]
      exact length_run _ _ r t (hd r hr).ok.lm (by omega)
    g22 := fun ls hls m m0 hm => by
      rw [Wk_Γ, sem_at H.p14]
      refine lawdue_run _ _ (lmk H.p13 m_law_fits) rs h6 t hL ls hls m hm fun r hr hb => ?_
      rw [Wk_Γ, sem_at H.p13]
      exact lawfits_run _ _ r t m hL m0 hm hb
    g23 := fun ls hls m m0 hm => by
      rw [Wk_Γ, sem_at H.p15]
      refine lawkinds_run _ _ (lmk H.p13 m_law_fits) rs h6 (fun r hr => (hd r hr).kd) t hL ls hls m hm fun r hr hb => ?_
      rw [Wk_Γ, sem_at H.p13]
      exact lawfits_run _ _ r t m hL m0 hm hb }
theorem walks_S (t : List Nat) (h0 : t ≠ []) (hl : t.length < 900000) : sem C P fuel (k + 4) 16 [.v (rulesD rs), .v (Tx t)] = .v (.bool true) [] := by
  rw [sem_at H.p16]
  exact walks_run fuel (Wk fuel P C (k + 3)) rs h6 t h0 hl (hyp_S H hd h6 t h0 hl)
theorem odd_S {t : List Nat} (hl : t.length ≤ Lm) (h : t = [] ∨ ∃ c ∈ t, c ∉ abc) : sem C P fuel (k + 3) 25 [.v (rulesD rs), .v (Tx t)] = .v (.tuple []) [] := by
  by_cases h0 : t = []
  · subst h0
    rw [sem_at H.p25]
    exact kindsOf_empty _ _ rs
  · rw [kinds_S H hd h6 hl h0]
    rcases h with h | ⟨c, hc, hn⟩
    · exact absurd h h0
    · obtain ⟨i, hi⟩ := List.getElem?_of_mem hc
      have il := (List.getElem?_eq_some_iff.mp hi).1
      have z : bord rs t t.length = 0 := bord_zero (m := i + 1) (sumB_zero.mpr fun r hr => by
        have d := hd r hr
        cases q : bn r t (i + 1) with
        | false => rfl
        | true =>
          have q : (bn r t i && (if r.sp then decide (i < r.a.length) && decide (r.a[i]? = t[i]?) else match t[i]? with
            | some s => decide (s ∈ (if i = 0 then r.a else r.b))
            | none => false)) = true := q
          rw [hi] at q
          cases hs : r.sp with
          | true =>
            rw [hs] at q
            simp only [if_true, Bool.and_eq_true, decide_eq_true_eq] at q
            exact absurd (d.ak c (List.mem_of_getElem? q.2.2)) hn
          | false =>
            rw [hs] at q
            simp only [Bool.false_eq_true, if_false, Bool.and_eq_true, decide_eq_true_eq] at q
            by_cases hz : i = 0
            · rw [if_pos hz] at q
              exact absurd (d.ak c q.2) hn
            · rw [if_neg hz] at q
              exact absurd (d.bk c q.2) hn) il
      unfold kindsT
      rw [if_pos z]
      rfl
end
end W6

set_option Elab.async false
set_option linter.all false
set_option maxRecDepth 100000
set_option maxHeartbeats 4000000
/-! K06q: the law. -/
namespace W6
open PySem Rc Lw06
theorem o_nl : (.str (Str.ofString "\n") : PyData) = Tx [10] := Eq.trans rfl rfl
theorem o_bl : (.str (Str.ofString " ") : PyData) = Tx [32] := Eq.trans rfl rfl
theorem o_mi : (.str (Str.ofString "-") : PyData) = Tx [45] := Eq.trans rfl rfl
/-- what the law's end asks of the world -/
structure Ends (W : Wd) (one other : List Rul) : Prop where
  l6 : W.lm 6 = [false, false]
  l16 : W.lm 16 = [false, false]
  l25 : W.lm 25 = [false, false]
  w1 : ∀ t : List Nat, t ≠ [] → t.length < 900000 → W.Γ 16 [.v (rulesD one), .v (Tx t)] = .v (.bool true) []
  w2 : ∀ t : List Nat, t ≠ [] → t.length < 900000 → W.Γ 16 [.v (rulesD other), .v (Tx t)] = .v (.bool true) []
  o1 : ∀ t : List Nat, t.length ≤ 1000000 → (t = [] ∨ ∃ c ∈ t, c ∉ abc) → W.Γ 25 [.v (rulesD one), .v (Tx t)] = .v (.tuple []) []
  o2 : ∀ t : List Nat, t.length ≤ 1000000 → (t = [] ∨ ∃ c ∈ t, c ∉ abc) → W.Γ 25 [.v (rulesD other), .v (Tx t)] = .v (.tuple []) []
  i0 : W.Γ 6 [.v (.tuple []), .v (.tuple [])] = .v (.bool true) []
theorem tail10 (fuel : Nat) (W : Wd) (one other : List Rul) (E : Ends W one other) (ts : List (List Nat)) (h0 : ts ≠ []) (hn : ts.length ≤ 200000) (ht : ∀ t ∈ ts, t ≠ [] ∧ t.length ≤ 20000) (a0 a1 a2 a3 a7 a8 a9 a10 a11 a12 : Sl) :
    SO.fo [false] (exs fuel W (bodyOf 10 f_law.body) [a0, a1, a2, a3, .v (rulesD one), .v (rulesD other), .o (.lst (ts.map Tx)), a7, a8, a9, a10, a11, a12]) = .v (.bool true) [] := by
  obtain ⟨t0, ht0⟩ : ∃ t0, ts[0]? = some t0 := by
    cases ts with
    | nil => exact absurd rfl h0
    | cons t r => exact ⟨t, rfl⟩
  have m0 := List.mem_of_getElem? ht0
  obtain ⟨z0, zl⟩ := ht t0 m0
  have at0 : L2.atI (ts.map Tx) 0 = some (Tx t0) := atI_nat (i := 0) (by rw [List.getElem?_map, ht0]; rfl)
  have cat1 : binOp .Add (.list (ts.map Tx)) (.list [Tx t0]) = some (.o (.lst ((ts ++ [t0]).map Tx))) := by
    rw [o_catL (by rw [List.length_map]; simp only [List.length_cons, List.length_nil]; omega), List.map_append]
    rfl
  unfold f_law
  simp only [bodyOf, e_int, e_str, e_bl, e_non, e_glob, vr_v, vr_o, e_var, kBin2_ap, kBin1_ap, e_bin, kNeg_ap, e_neg, kNot_ap, e_nott, kAnd_ap, e_and, kOr_ap, e_or, kCmp2_ap, kCmp1_ap, e_cmp, kCh3_ap, kCh2_ap, kCh1_ap, e_cmp2, kIte_ap, e_ite, kTup_ap, e_tup, kLst_ap, e_lst, kSub2_ap, kSub1_ap, e_sub, kSlc3_ap, kSlc2_ap, kSlc1_ap, e_slc, kSlL2_ap, kSlL1_ap, e_slcL, kSlH2_ap, kSlH1_ap, e_slcH, kRev_ap, e_rev, kCall_ap, e_call, kBi_ap, e_bi, kIsi_ap, e_isi, kMu_ap, e_mu, kPm2_ap, kPm1_ap, e_pm, kTn3_ap, kTn2_ap, kTn1_ap, kCE_ap, kComp_ap, e_comp, kTNot_ap, t_nott, kTAnd_ap, t_and, kTOr_ap, t_or, kTVal_ap, t_val, s_nil, kS3_ap, kS2_ap, kS1_ap, s_cons, r_nil, kRr2_ap, kRr1_ap, r_cons, c_nil, kCa_ap, kC2_ap, kC1f_ap, kC1t_ap, c_f, c_t, f_nil, kF_ap, f_cons, kI2_ap, kI1_ap, i_seq, kEn2_ap, kEn1_ap, i_enum, kG1_ap, i_rng1, kG2b_ap, kG2a_ap, i_rng2, st_v, st_o, kSt_ap, st_s, x_nm, kA2_ap, kA1_ap, x_tp, kPar_ap, x_par, kExp_ap, x_exp, kIf_ap, x_ife, kFor_ap, x_for, x_whl, kRet_ap, x_ret, x_retN, x_brk, x_cnt, x_pass, xs_nil, xs_cons, fo_nx, fo_ret, bind_ok_, st_ok_, opd_v, opd_s, opd_o, seq_nx, seq_ret, seq_brk, seq_cnt, optR, optV, optB, view, views, fin, lent, isO, setTg, setAll, setCA, kd, wipes, unwipe, frz, truth, isNone, callF, lend, slots, back, isLent, List.map_cons, List.map_nil, List.length_cons, List.length_nil, List.cons_append, List.nil_append, List.replicate, Nat.reduceAdd, Nat.reduceSub, List.getElem?_cons_zero, List.getElem?_cons_succ, List.set_cons_zero, List.set_cons_succ, List.getD_cons_zero, List.getD_cons_succ, if_true, if_false, reduceIte, Option.map_some, Option.map_none, List.filterMap_nil, List.filterMap_cons, List.nodup_nil, id_eq, Bool.false_eq_true, nodup1, Wk_Γ, Wk_C, o_add, o_sub, o_eq, o_ne, o_lt, o_le, o_gt, o_ge, o_isN, o_isnN, o_lenL, o_lenT, o_atL, o_atT, o_sqL, o_sqT, o_tupL, o_listL, o_listT, o_int, o_eqT, o_neT, o_inT, o_ninT, o_sqTx, o_Tx0, at0, cat1]
  generalize hq : forL _ _ _ = o
  obtain ⟨ρ', rfl, b8, rfl⟩ := forL_ok hq (fun i ρ => ∃ b8 : Sl, ρ = [a0, a1, a2, a3, .v (rulesD one), .v (rulesD other), .o (.lst (ts.map Tx)), a7, b8, a9, a10, a11, a12]) (by
    rintro i x ρ hx ⟨b8, rfl⟩
    rw [List.getElem?_map] at hx
    obtain ⟨t, htt, rfl⟩ := Option.map_eq_some_iff.mp hx
    have tm : t ≠ [] ∧ t.length ≤ 20000 := by
      rcases List.mem_append.mp (List.mem_of_getElem? htt) with h | h
      · exact ht t h
      · rw [List.mem_singleton.mp h]
        exact ⟨z0, zl⟩
    have e1 := E.w1 t tm.1 (by omega)
    have e2 := E.w2 t tm.1 (by omega)
    simp only [turnF_ap, e_int, e_str, e_bl, e_non, e_glob, vr_v, vr_o, e_var, kBin2_ap, kBin1_ap, e_bin, kNeg_ap, e_neg, kNot_ap, e_nott, kAnd_ap, e_and, kOr_ap, e_or, kCmp2_ap, kCmp1_ap, e_cmp, kCh3_ap, kCh2_ap, kCh1_ap, e_cmp2, kIte_ap, e_ite, kTup_ap, e_tup, kLst_ap, e_lst, kSub2_ap, kSub1_ap, e_sub, kSlc3_ap, kSlc2_ap, kSlc1_ap, e_slc, kSlL2_ap, kSlL1_ap, e_slcL, kSlH2_ap, kSlH1_ap, e_slcH, kRev_ap, e_rev, kCall_ap, e_call, kBi_ap, e_bi, kIsi_ap, e_isi, kMu_ap, e_mu, kPm2_ap, kPm1_ap, e_pm, kTn3_ap, kTn2_ap, kTn1_ap, kCE_ap, kComp_ap, e_comp, kTNot_ap, t_nott, kTAnd_ap, t_and, kTOr_ap, t_or, kTVal_ap, t_val, s_nil, kS3_ap, kS2_ap, kS1_ap, s_cons, r_nil, kRr2_ap, kRr1_ap, r_cons, c_nil, kCa_ap, kC2_ap, kC1f_ap, kC1t_ap, c_f, c_t, f_nil, kF_ap, f_cons, kI2_ap, kI1_ap, i_seq, kEn2_ap, kEn1_ap, i_enum, kG1_ap, i_rng1, kG2b_ap, kG2a_ap, i_rng2, st_v, st_o, kSt_ap, st_s, x_nm, kA2_ap, kA1_ap, x_tp, kPar_ap, x_par, kExp_ap, x_exp, kIf_ap, x_ife, kFor_ap, x_for, x_whl, kRet_ap, x_ret, x_retN, x_brk, x_cnt, x_pass, xs_nil, xs_cons, fo_nx, fo_ret, bind_ok_, st_ok_, opd_v, opd_s, opd_o, seq_nx, seq_ret, seq_brk, seq_cnt, optR, optV, optB, view, views, fin, lent, isO, setTg, setAll, setCA, kd, wipes, unwipe, frz, truth, isNone, callF, lend, slots, back, isLent, List.map_cons, List.map_nil, List.length_cons, List.length_nil, List.cons_append, List.nil_append, List.replicate, Nat.reduceAdd, Nat.reduceSub, List.getElem?_cons_zero, List.getElem?_cons_succ, List.set_cons_zero, List.set_cons_succ, List.getD_cons_zero, List.getD_cons_succ, if_true, if_false, reduceIte, Option.map_some, Option.map_none, List.filterMap_nil, List.filterMap_cons, List.nodup_nil, id_eq, Bool.false_eq_true, nodup1, Wk_Γ, Wk_C, o_add, o_sub, o_eq, o_ne, o_lt, o_le, o_gt, o_ge, o_isN, o_isnN, o_lenL, o_lenT, o_atL, o_atT, o_sqL, o_sqT, o_tupL, o_listL, o_listT, o_int, o_eqT, o_neT, o_inT, o_ninT, o_sqTx, o_Tx0, E.l16, e1, e2, Bool.not_true]
    exact ⟨_, .inl rfl, _, rfl⟩) ⟨_, rfl⟩
  have c1 : binOp .Add (Tx [10]) (Tx t0) = some (.v (Tx (10 :: t0))) := o_cat (a := [10]) (by simp only [List.length_cons, List.length_nil]; omega)
  have c2 : binOp .Add (Tx t0) (Tx [32]) = some (.v (Tx (t0 ++ [32]))) := o_cat (by simp only [List.length_cons, List.length_nil]; omega)
  have c3 : binOp .Add (Tx t0) (Tx [45]) = some (.v (Tx (t0 ++ [45]))) := o_cat (by simp only [List.length_cons, List.length_nil]; omega)
  have c4 : binOp .Add (Tx (t0 ++ [45])) (Tx t0) = some (.v (Tx (t0 ++ [45] ++ t0))) := o_cat (by rw [List.length_append]; simp only [List.length_cons, List.length_nil]; omega)
  simp only [e_int, e_str, e_bl, e_non, e_glob, vr_v, vr_o, e_var, kBin2_ap, kBin1_ap, e_bin, kNeg_ap, e_neg, kNot_ap, e_nott, kAnd_ap, e_and, kOr_ap, e_or, kCmp2_ap, kCmp1_ap, e_cmp, kCh3_ap, kCh2_ap, kCh1_ap, e_cmp2, kIte_ap, e_ite, kTup_ap, e_tup, kLst_ap, e_lst, kSub2_ap, kSub1_ap, e_sub, kSlc3_ap, kSlc2_ap, kSlc1_ap, e_slc, kSlL2_ap, kSlL1_ap, e_slcL, kSlH2_ap, kSlH1_ap, e_slcH, kRev_ap, e_rev, kCall_ap, e_call, kBi_ap, e_bi, kIsi_ap, e_isi, kMu_ap, e_mu, kPm2_ap, kPm1_ap, e_pm, kTn3_ap, kTn2_ap, kTn1_ap, kCE_ap, kComp_ap, e_comp, kTNot_ap, t_nott, kTAnd_ap, t_and, kTOr_ap, t_or, kTVal_ap, t_val, s_nil, kS3_ap, kS2_ap, kS1_ap, s_cons, r_nil, kRr2_ap, kRr1_ap, r_cons, c_nil, kCa_ap, kC2_ap, kC1f_ap, kC1t_ap, c_f, c_t, f_nil, kF_ap, f_cons, kI2_ap, kI1_ap, i_seq, kEn2_ap, kEn1_ap, i_enum, kG1_ap, i_rng1, kG2b_ap, kG2a_ap, i_rng2, st_v, st_o, kSt_ap, st_s, x_nm, kA2_ap, kA1_ap, x_tp, kPar_ap, x_par, kExp_ap, x_exp, kIf_ap, x_ife, kFor_ap, x_for, x_whl, kRet_ap, x_ret, x_retN, x_brk, x_cnt, x_pass, xs_nil, xs_cons, fo_nx, fo_ret, bind_ok_, st_ok_, opd_v, opd_s, opd_o, seq_nx, seq_ret, seq_brk, seq_cnt, optR, optV, optB, view, views, fin, lent, isO, setTg, setAll, setCA, kd, wipes, unwipe, frz, truth, isNone, callF, lend, slots, back, isLent, List.map_cons, List.map_nil, List.length_cons, List.length_nil, List.cons_append, List.nil_append, List.replicate, Nat.reduceAdd, Nat.reduceSub, List.getElem?_cons_zero, List.getElem?_cons_succ, List.set_cons_zero, List.set_cons_succ, List.getD_cons_zero, List.getD_cons_succ, if_true, if_false, reduceIte, Option.map_some, Option.map_none, List.filterMap_nil, List.filterMap_cons, List.nodup_nil, id_eq, Bool.false_eq_true, nodup1, Wk_Γ, Wk_C, o_add, o_sub, o_eq, o_ne, o_lt, o_le, o_gt, o_ge, o_isN, o_isnN, o_lenL, o_lenT, o_atL, o_atT, o_sqL, o_sqT, o_tupL, o_listL, o_listT, o_int, o_eqT, o_neT, o_inT, o_ninT, o_sqTx, o_Tx0, at0, o_nl, o_bl, o_mi, c1, c2, c3, c4]
  generalize hq : forL _ _ _ = o
  obtain ⟨ρ', rfl, b9, rfl⟩ := forL_ok hq (fun i ρ => ∃ b9 : Sl, ρ = [a0, a1, a2, a3, .v (rulesD one), .v (rulesD other), .o (.lst (ts.map Tx)), a7, b8, b9, a10, a11, a12]) (by
    rintro i x ρ hx ⟨b9, rfl⟩
    obtain ⟨t, rfl, hl, hod⟩ : ∃ t, x = Tx t ∧ t.length ≤ 1000000 ∧ (t = [] ∨ ∃ c ∈ t, c ∉ abc) := by
      have n10 : (10 : Nat) ∉ abc := fun h => absurd (abc_lt 10 h).1 (by decide)
      have n32 : (32 : Nat) ∉ abc := fun h => absurd (abc_lt 32 h).1 (by decide)
      have n45 : (45 : Nat) ∉ abc := fun h => (abc_lt 45 h).2.2 rfl
      have hm := List.mem_of_getElem? hx
      simp only [List.mem_cons, List.not_mem_nil, or_false] at hm
      rcases hm with rfl | rfl | rfl | rfl | rfl | rfl
      · exact ⟨[], rfl, by decide, .inl rfl⟩
      · exact ⟨[32], rfl, by decide, .inr ⟨32, List.mem_cons_self, n32⟩⟩
      · exact ⟨[45], rfl, by decide, .inr ⟨45, List.mem_cons_self, n45⟩⟩
      · exact ⟨10 :: t0, rfl, by rw [List.length_cons]; omega, .inr ⟨10, List.mem_cons_self, n10⟩⟩
      · exact ⟨t0 ++ [32], rfl, by rw [List.length_append]; simp only [List.length_cons, List.length_nil]; omega, .inr ⟨32, List.mem_append_right _ List.mem_cons_self, n32⟩⟩
      · exact ⟨t0 ++ [45] ++ t0, rfl, by rw [List.length_append, List.length_append]; simp only [List.length_cons, List.length_nil]; omega, .inr ⟨45, List.mem_append_left _ (List.mem_append_right _ List.mem_cons_self), n45⟩⟩
    have e1 := E.o1 t hl hod
    have e2 := E.o2 t hl hod
    simp only [turnF_ap, e_int, e_str, e_bl, e_non, e_glob, vr_v, vr_o, e_var, kBin2_ap, kBin1_ap, e_bin, kNeg_ap, e_neg, kNot_ap, e_nott, kAnd_ap, e_and, kOr_ap, e_or, kCmp2_ap, kCmp1_ap, e_cmp, kCh3_ap, kCh2_ap, kCh1_ap, e_cmp2, kIte_ap, e_ite, kTup_ap, e_tup, kLst_ap, e_lst, kSub2_ap, kSub1_ap, e_sub, kSlc3_ap, kSlc2_ap, kSlc1_ap, e_slc, kSlL2_ap, kSlL1_ap, e_slcL, kSlH2_ap, kSlH1_ap, e_slcH, kRev_ap, e_rev, kCall_ap, e_call, kBi_ap, e_bi, kIsi_ap, e_isi, kMu_ap, e_mu, kPm2_ap, kPm1_ap, e_pm, kTn3_ap, kTn2_ap, kTn1_ap, kCE_ap, kComp_ap, e_comp, kTNot_ap, t_nott, kTAnd_ap, t_and, kTOr_ap, t_or, kTVal_ap, t_val, s_nil, kS3_ap, kS2_ap, kS1_ap, s_cons, r_nil, kRr2_ap, kRr1_ap, r_cons, c_nil, kCa_ap, kC2_ap, kC1f_ap, kC1t_ap, c_f, c_t, f_nil, kF_ap, f_cons, kI2_ap, kI1_ap, i_seq, kEn2_ap, kEn1_ap, i_enum, kG1_ap, i_rng1, kG2b_ap, kG2a_ap, i_rng2, st_v, st_o, kSt_ap, st_s, x_nm, kA2_ap, kA1_ap, x_tp, kPar_ap, x_par, kExp_ap, x_exp, kIf_ap, x_ife, kFor_ap, x_for, x_whl, kRet_ap, x_ret, x_retN, x_brk, x_cnt, x_pass, xs_nil, xs_cons, fo_nx, fo_ret, bind_ok_, st_ok_, opd_v, opd_s, opd_o, seq_nx, seq_ret, seq_brk, seq_cnt, optR, optV, optB, view, views, fin, lent, isO, setTg, setAll, setCA, kd, wipes, unwipe, frz, truth, isNone, callF, lend, slots, back, isLent, List.map_cons, List.map_nil, List.length_cons, List.length_nil, List.cons_append, List.nil_append, List.replicate, Nat.reduceAdd, Nat.reduceSub, List.getElem?_cons_zero, List.getElem?_cons_succ, List.set_cons_zero, List.set_cons_succ, List.getD_cons_zero, List.getD_cons_succ, if_true, if_false, reduceIte, Option.map_some, Option.map_none, List.filterMap_nil, List.filterMap_cons, List.nodup_nil, id_eq, Bool.false_eq_true, nodup1, Wk_Γ, Wk_C, o_add, o_sub, o_eq, o_ne, o_lt, o_le, o_gt, o_ge, o_isN, o_isnN, o_lenL, o_lenT, o_atL, o_atT, o_sqL, o_sqT, o_tupL, o_listL, o_listT, o_int, o_eqT, o_neT, o_inT, o_ninT, o_sqTx, o_Tx0, E.l6, E.l25, e1, e2, E.i0, Bool.not_true]
    exact ⟨_, .inl rfl, _, rfl⟩) ⟨_, rfl⟩
  simp only [e_int, e_str, e_bl, e_non, e_glob, vr_v, vr_o, e_var, kBin2_ap, kBin1_ap, e_bin, kNeg_ap, e_neg, kNot_ap, e_nott, kAnd_ap, e_and, kOr_ap, e_or, kCmp2_ap, kCmp1_ap, e_cmp, kCh3_ap, kCh2_ap, kCh1_ap, e_cmp2, kIte_ap, e_ite, kTup_ap, e_tup, kLst_ap, e_lst, kSub2_ap, kSub1_ap, e_sub, kSlc3_ap, kSlc2_ap, kSlc1_ap, e_slc, kSlL2_ap, kSlL1_ap, e_slcL, kSlH2_ap, kSlH1_ap, e_slcH, kRev_ap, e_rev, kCall_ap, e_call, kBi_ap, e_bi, kIsi_ap, e_isi, kMu_ap, e_mu, kPm2_ap, kPm1_ap, e_pm, kTn3_ap, kTn2_ap, kTn1_ap, kCE_ap, kComp_ap, e_comp, kTNot_ap, t_nott, kTAnd_ap, t_and, kTOr_ap, t_or, kTVal_ap, t_val, s_nil, kS3_ap, kS2_ap, kS1_ap, s_cons, r_nil, kRr2_ap, kRr1_ap, r_cons, c_nil, kCa_ap, kC2_ap, kC1f_ap, kC1t_ap, c_f, c_t, f_nil, kF_ap, f_cons, kI2_ap, kI1_ap, i_seq, kEn2_ap, kEn1_ap, i_enum, kG1_ap, i_rng1, kG2b_ap, kG2a_ap, i_rng2, st_v, st_o, kSt_ap, st_s, x_nm, kA2_ap, kA1_ap, x_tp, kPar_ap, x_par, kExp_ap, x_exp, kIf_ap, x_ife, kFor_ap, x_for, x_whl, kRet_ap, x_ret, x_retN, x_brk, x_cnt, x_pass, xs_nil, xs_cons, fo_nx, fo_ret, bind_ok_, st_ok_, opd_v, opd_s, opd_o, seq_nx, seq_ret, seq_brk, seq_cnt, optR, optV, optB, view, views, fin, lent, isO, setTg, setAll, setCA, kd, wipes, unwipe, frz, truth, isNone, callF, lend, slots, back, isLent, List.map_cons, List.map_nil, List.length_cons, List.length_nil, List.cons_append, List.nil_append, List.replicate, Nat.reduceAdd, Nat.reduceSub, List.getElem?_cons_zero, List.getElem?_cons_succ, List.set_cons_zero, List.set_cons_succ, List.getD_cons_zero, List.getD_cons_succ, if_true, if_false, reduceIte, Option.map_some, Option.map_none, List.filterMap_nil, List.filterMap_cons, List.nodup_nil, id_eq, Bool.false_eq_true, nodup1, Wk_Γ, Wk_C, o_add, o_sub, o_eq, o_ne, o_lt, o_le, o_gt, o_ge, o_isN, o_isnN, o_lenL, o_lenT, o_atL, o_atT, o_sqL, o_sqT, o_tupL, o_listL, o_listT, o_int, o_eqT, o_neT, o_inT, o_ninT, o_sqTx, o_Tx0]
end W6

set_option Elab.async false
set_option linter.all false
set_option maxRecDepth 100000
set_option maxHeartbeats 4000000
/-! K06r: the law, from its beginning. -/
namespace W6
open PySem Rc Lw06
theorem cat_rules (a b : List Rul) (h : a.length + b.length ≤ 1000) : binOp .Add (rulesD a) (rulesD b) = some (.v (rulesD (a ++ b))) := by
  unfold rulesD
  rw [o_catT (by rw [List.length_map, List.length_map]; omega), List.map_append]
theorem sq_rules (a : List Rul) : seqOf (rulesD a) = some (a.map enc) := Eq.trans rfl rfl
theorem len_rules (a : List Rul) : biOp .len [rulesD a] = some (.v (.int (a.length : Nat))) := by
  show some (R.v (.int ((a.map enc).length : Nat))) = _
  rw [List.length_map]
theorem tail9 (fuel : Nat) (W : Wd) (one other : List Rul) (E : Ends W one other) (T : Tk W) (ho : ∀ r ∈ other, Dr r) (ho0 : other ≠ []) (l11 : W.lm 11 = [true, false, false, false]) (l1 : W.lm 1 = [false, false, false]) (l : List Nat)
    (ns : List Int) (hp : ∃ p, W.Γ 1 [.v (.list (iL ns)), .v (.int 1), .v (.int 500)] = .o (.lst (iL p)) [])
    (hnear : ∀ r, Dr r → ∀ p, ∃ t p', W.Γ 11 [.o (.lst (iL p)), .v (Tx l), .v (enc r), .v (.int 400)] = .v (Tx t) [.lst (iL p')] ∧ t ≠ [] ∧ t.length ≤ 10000)
    (ts : List (List Nat)) (h0 : ts ≠ []) (hn : ts.length ≤ 190000) (ht : ∀ t ∈ ts, t ≠ [] ∧ t.length ≤ 20000) (p : List Int) (a2 a3 a7 a8 a9 a11 a12 : Sl) :
    SO.fo [false] (exs fuel W (bodyOf 9 f_law.body) [.v (.list (iL ns)), .o (.lst (iL p)), a2, a3, .v (rulesD one), .v (rulesD other), .o (.lst (ts.map Tx)), a7, a8, a9, .v (Tx l), a11, a12]) = .v (.bool true) [] := by
  have key := tail10 fuel W one other E
  unfold f_law at key
  simp only [bodyOf] at key
  unfold f_law
  simp only [bodyOf, e_int, e_str, e_bl, e_non, e_glob, vr_v, vr_o, e_var, kBin2_ap, kBin1_ap, e_bin, kNeg_ap, e_neg, kNot_ap, e_nott, kAnd_ap, e_and, kOr_ap, e_or, kCmp2_ap, kCmp1_ap, e_cmp, kCh3_ap, kCh2_ap, kCh1_ap, e_cmp2, kIte_ap, e_ite, kTup_ap, e_tup, kLst_ap, e_lst, kSub2_ap, kSub1_ap, e_sub, kSlc3_ap, kSlc2_ap, kSlc1_ap, e_slc, kSlL2_ap, kSlL1_ap, e_slcL, kSlH2_ap, kSlH1_ap, e_slcH, kRev_ap, e_rev, kCall_ap, e_call, kBi_ap, e_bi, kIsi_ap, e_isi, kMu_ap, e_mu, kPm2_ap, kPm1_ap, e_pm, kTn3_ap, kTn2_ap, kTn1_ap, kCE_ap, kComp_ap, e_comp, kTNot_ap, t_nott, kTAnd_ap, t_and, kTOr_ap, t_or, kTVal_ap, t_val, s_nil, kS3_ap, kS2_ap, kS1_ap, s_cons, r_nil, kRr2_ap, kRr1_ap, r_cons, c_nil, kCa_ap, kC2_ap, kC1f_ap, kC1t_ap, c_f, c_t, f_nil, kF_ap, f_cons, kI2_ap, kI1_ap, i_seq, kEn2_ap, kEn1_ap, i_enum, kG1_ap, i_rng1, kG2b_ap, kG2a_ap, i_rng2, st_v, st_o, kSt_ap, st_s, x_nm, kA2_ap, kA1_ap, x_tp, kPar_ap, x_par, kExp_ap, x_exp, kIf_ap, x_ife, kFor_ap, x_for, x_whl, kRet_ap, x_ret, x_retN, x_brk, x_cnt, x_pass, xs_nil, xs_cons, fo_nx, fo_ret, bind_ok_, st_ok_, opd_v, opd_s, opd_o, seq_nx, seq_ret, seq_brk, seq_cnt, optR, optV, optB, view, views, fin, lent, isO, setTg, setAll, setCA, kd, wipes, unwipe, frz, truth, isNone, callF, lend, slots, back, isLent, List.map_cons, List.map_nil, List.length_cons, List.length_nil, List.cons_append, List.nil_append, List.replicate, Nat.reduceAdd, Nat.reduceSub, List.getElem?_cons_zero, List.getElem?_cons_succ, List.set_cons_zero, List.set_cons_succ, List.getD_cons_zero, List.getD_cons_succ, if_true, if_false, reduceIte, Option.map_some, Option.map_none, List.filterMap_nil, List.filterMap_cons, List.nodup_nil, id_eq, Bool.false_eq_true, nodup1, Wk_Γ, Wk_C, o_add, o_sub, o_eq, o_ne, o_lt, o_le, o_gt, o_ge, o_isN, o_isnN, o_lenL, o_lenT, o_atL, o_atT, o_sqL, o_sqT, o_tupL, o_listL, o_listT, o_int, o_eqT, o_neT, o_inT, o_ninT, o_sqTx, o_Tx0, T.l, T.g]
  cases h : decide (tkR p 4 = 0) with
  | false =>
    simp only [e_int, e_str, e_bl, e_non, e_glob, vr_v, vr_o, e_var, kBin2_ap, kBin1_ap, e_bin, kNeg_ap, e_neg, kNot_ap, e_nott, kAnd_ap, e_and, kOr_ap, e_or, kCmp2_ap, kCmp1_ap, e_cmp, kCh3_ap, kCh2_ap, kCh1_ap, e_cmp2, kIte_ap, e_ite, kTup_ap, e_tup, kLst_ap, e_lst, kSub2_ap, kSub1_ap, e_sub, kSlc3_ap, kSlc2_ap, kSlc1_ap, e_slc, kSlL2_ap, kSlL1_ap, e_slcL, kSlH2_ap, kSlH1_ap, e_slcH, kRev_ap, e_rev, kCall_ap, e_call, kBi_ap, e_bi, kIsi_ap, e_isi, kMu_ap, e_mu, kPm2_ap, kPm1_ap, e_pm, kTn3_ap, kTn2_ap, kTn1_ap, kCE_ap, kComp_ap, e_comp, kTNot_ap, t_nott, kTAnd_ap, t_and, kTOr_ap, t_or, kTVal_ap, t_val, s_nil, kS3_ap, kS2_ap, kS1_ap, s_cons, r_nil, kRr2_ap, kRr1_ap, r_cons, c_nil, kCa_ap, kC2_ap, kC1f_ap, kC1t_ap, c_f, c_t, f_nil, kF_ap, f_cons, kI2_ap, kI1_ap, i_seq, kEn2_ap, kEn1_ap, i_enum, kG1_ap, i_rng1, kG2b_ap, kG2a_ap, i_rng2, st_v, st_o, kSt_ap, st_s, x_nm, kA2_ap, kA1_ap, x_tp, kPar_ap, x_par, kExp_ap, x_exp, kIf_ap, x_ife, kFor_ap, x_for, x_whl, kRet_ap, x_ret, x_retN, x_brk, x_cnt, x_pass, xs_nil, xs_cons, fo_nx, fo_ret, bind_ok_, st_ok_, opd_v, opd_s, opd_o, seq_nx, seq_ret, seq_brk, seq_cnt, optR, optV, optB, view, views, fin, lent, isO, setTg, setAll, setCA, kd, wipes, unwipe, frz, truth, isNone, callF, lend, slots, back, isLent, List.map_cons, List.map_nil, List.length_cons, List.length_nil, List.cons_append, List.nil_append, List.replicate, Nat.reduceAdd, Nat.reduceSub, List.getElem?_cons_zero, List.getElem?_cons_succ, List.set_cons_zero, List.set_cons_succ, List.getD_cons_zero, List.getD_cons_succ, if_true, if_false, reduceIte, Option.map_some, Option.map_none, List.filterMap_nil, List.filterMap_cons, List.nodup_nil, id_eq, Bool.false_eq_true, nodup1, Wk_Γ, Wk_C, o_add, o_sub, o_eq, o_ne, o_lt, o_le, o_gt, o_ge, o_isN, o_isnN, o_lenL, o_lenT, o_atL, o_atT, o_sqL, o_sqT, o_tupL, o_listL, o_listT, o_int, o_eqT, o_neT, o_inT, o_ninT, o_sqTx, o_Tx0]
    have k := key ts h0 (by omega) ht (.v (.list (iL ns))) (.o (.lst (iL (tkP p 4)))) a2 a3 a7 a8 a9 (.v (Tx l)) a11 a12
    simp only [e_int, e_str, e_bl, e_non, e_glob, vr_v, vr_o, e_var, kBin2_ap, kBin1_ap, e_bin, kNeg_ap, e_neg, kNot_ap, e_nott, kAnd_ap, e_and, kOr_ap, e_or, kCmp2_ap, kCmp1_ap, e_cmp, kCh3_ap, kCh2_ap, kCh1_ap, e_cmp2, kIte_ap, e_ite, kTup_ap, e_tup, kLst_ap, e_lst, kSub2_ap, kSub1_ap, e_sub, kSlc3_ap, kSlc2_ap, kSlc1_ap, e_slc, kSlL2_ap, kSlL1_ap, e_slcL, kSlH2_ap, kSlH1_ap, e_slcH, kRev_ap, e_rev, kCall_ap, e_call, kBi_ap, e_bi, kIsi_ap, e_isi, kMu_ap, e_mu, kPm2_ap, kPm1_ap, e_pm, kTn3_ap, kTn2_ap, kTn1_ap, kCE_ap, kComp_ap, e_comp, kTNot_ap, t_nott, kTAnd_ap, t_and, kTOr_ap, t_or, kTVal_ap, t_val, s_nil, kS3_ap, kS2_ap, kS1_ap, s_cons, r_nil, kRr2_ap, kRr1_ap, r_cons, c_nil, kCa_ap, kC2_ap, kC1f_ap, kC1t_ap, c_f, c_t, f_nil, kF_ap, f_cons, kI2_ap, kI1_ap, i_seq, kEn2_ap, kEn1_ap, i_enum, kG1_ap, i_rng1, kG2b_ap, kG2a_ap, i_rng2, st_v, st_o, kSt_ap, st_s, x_nm, kA2_ap, kA1_ap, x_tp, kPar_ap, x_par, kExp_ap, x_exp, kIf_ap, x_ife, kFor_ap, x_for, x_whl, kRet_ap, x_ret, x_retN, x_brk, x_cnt, x_pass, xs_nil, xs_cons, fo_nx, fo_ret, bind_ok_, st_ok_, opd_v, opd_s, opd_o, seq_nx, seq_ret, seq_brk, seq_cnt, optR, optV, optB, view, views, fin, lent, isO, setTg, setAll, setCA, kd, wipes, unwipe, frz, truth, isNone, callF, lend, slots, back, isLent, List.map_cons, List.map_nil, List.length_cons, List.length_nil, List.cons_append, List.nil_append, List.replicate, Nat.reduceAdd, Nat.reduceSub, List.getElem?_cons_zero, List.getElem?_cons_succ, List.set_cons_zero, List.set_cons_succ, List.getD_cons_zero, List.getD_cons_succ, if_true, if_false, reduceIte, Option.map_some, Option.map_none, List.filterMap_nil, List.filterMap_cons, List.nodup_nil, id_eq, Bool.false_eq_true, nodup1, Wk_Γ, Wk_C, o_add, o_sub, o_eq, o_ne, o_lt, o_le, o_gt, o_ge, o_isN, o_isnN, o_lenL, o_lenT, o_atL, o_atT, o_sqL, o_sqT, o_tupL, o_listL, o_listT, o_int, o_eqT, o_neT, o_inT, o_ninT, o_sqTx, o_Tx0] at k
    exact k
  | true =>
    obtain ⟨q, hq⟩ := hp
    have hj : tkN (tkP p 4) (other.length : Int) < other.length := tkN_lt _ (List.length_pos_iff.mpr ho0)
    obtain ⟨r, hr⟩ : ∃ r, other[tkN (tkP p 4) (other.length : Int)]? = some r := ⟨_, List.getElem?_eq_getElem hj⟩
    have e1 : subOp (rulesD other) (.int (tkR (tkP p 4) (other.length : Int))) = some (enc r) := by
      rw [tk_N]
      exact atI_nat (by rw [List.getElem?_map, hr]; rfl)
    obtain ⟨t, p', e2, n1, n2⟩ := hnear r (ho r (List.mem_of_getElem? hr)) q
    have app : muOp .append (ts.map Tx) [Tx t] = some (.none, (ts ++ [t]).map Tx) := by
      rw [o_app (by rw [List.length_map]; omega), List.map_append]
      rfl
    simp only [e_int, e_str, e_bl, e_non, e_glob, vr_v, vr_o, e_var, kBin2_ap, kBin1_ap, e_bin, kNeg_ap, e_neg, kNot_ap, e_nott, kAnd_ap, e_and, kOr_ap, e_or, kCmp2_ap, kCmp1_ap, e_cmp, kCh3_ap, kCh2_ap, kCh1_ap, e_cmp2, kIte_ap, e_ite, kTup_ap, e_tup, kLst_ap, e_lst, kSub2_ap, kSub1_ap, e_sub, kSlc3_ap, kSlc2_ap, kSlc1_ap, e_slc, kSlL2_ap, kSlL1_ap, e_slcL, kSlH2_ap, kSlH1_ap, e_slcH, kRev_ap, e_rev, kCall_ap, e_call, kBi_ap, e_bi, kIsi_ap, e_isi, kMu_ap, e_mu, kPm2_ap, kPm1_ap, e_pm, kTn3_ap, kTn2_ap, kTn1_ap, kCE_ap, kComp_ap, e_comp, kTNot_ap, t_nott, kTAnd_ap, t_and, kTOr_ap, t_or, kTVal_ap, t_val, s_nil, kS3_ap, kS2_ap, kS1_ap, s_cons, r_nil, kRr2_ap, kRr1_ap, r_cons, c_nil, kCa_ap, kC2_ap, kC1f_ap, kC1t_ap, c_f, c_t, f_nil, kF_ap, f_cons, kI2_ap, kI1_ap, i_seq, kEn2_ap, kEn1_ap, i_enum, kG1_ap, i_rng1, kG2b_ap, kG2a_ap, i_rng2, st_v, st_o, kSt_ap, st_s, x_nm, kA2_ap, kA1_ap, x_tp, kPar_ap, x_par, kExp_ap, x_exp, kIf_ap, x_ife, kFor_ap, x_for, x_whl, kRet_ap, x_ret, x_retN, x_brk, x_cnt, x_pass, xs_nil, xs_cons, fo_nx, fo_ret, bind_ok_, st_ok_, opd_v, opd_s, opd_o, seq_nx, seq_ret, seq_brk, seq_cnt, optR, optV, optB, view, views, fin, lent, isO, setTg, setAll, setCA, kd, wipes, unwipe, frz, truth, isNone, callF, lend, slots, back, isLent, List.map_cons, List.map_nil, List.length_cons, List.length_nil, List.cons_append, List.nil_append, List.replicate, Nat.reduceAdd, Nat.reduceSub, List.getElem?_cons_zero, List.getElem?_cons_succ, List.set_cons_zero, List.set_cons_succ, List.getD_cons_zero, List.getD_cons_succ, if_true, if_false, reduceIte, Option.map_some, Option.map_none, List.filterMap_nil, List.filterMap_cons, List.nodup_nil, id_eq, Bool.false_eq_true, nodup1, Wk_Γ, Wk_C, o_add, o_sub, o_eq, o_ne, o_lt, o_le, o_gt, o_ge, o_isN, o_isnN, o_lenL, o_lenT, o_atL, o_atT, o_sqL, o_sqT, o_tupL, o_listL, o_listT, o_int, o_eqT, o_neT, o_inT, o_ninT, o_sqTx, o_Tx0, T.l, T.g, len_rules, e1, l1, l11, hq, e2, app]
    have k := key (ts ++ [t]) (by simp) (by rw [List.length_append]; simp only [List.length_cons, List.length_nil]; omega) (fun x hx => by
      rcases List.mem_append.mp hx with hx | hx
      · exact ht x hx
      · rw [List.mem_singleton.mp hx]
        exact ⟨n1, by omega⟩) (.v (.list (iL ns))) (.o (.lst (iL (tkP (tkP p 4) (other.length : Int))))) a2 a3 (.v (enc r)) a8 a9 (.v (Tx l)) a11 a12
    simp only [e_int, e_str, e_bl, e_non, e_glob, vr_v, vr_o, e_var, kBin2_ap, kBin1_ap, e_bin, kNeg_ap, e_neg, kNot_ap, e_nott, kAnd_ap, e_and, kOr_ap, e_or, kCmp2_ap, kCmp1_ap, e_cmp, kCh3_ap, kCh2_ap, kCh1_ap, e_cmp2, kIte_ap, e_ite, kTup_ap, e_tup, kLst_ap, e_lst, kSub2_ap, kSub1_ap, e_sub, kSlc3_ap, kSlc2_ap, kSlc1_ap, e_slc, kSlL2_ap, kSlL1_ap, e_slcL, kSlH2_ap, kSlH1_ap, e_slcH, kRev_ap, e_rev, kCall_ap, e_call, kBi_ap, e_bi, kIsi_ap, e_isi, kMu_ap, e_mu, kPm2_ap, kPm1_ap, e_pm, kTn3_ap, kTn2_ap, kTn1_ap, kCE_ap, kComp_ap, e_comp, kTNot_ap, t_nott, kTAnd_ap, t_and, kTOr_ap, t_or, kTVal_ap, t_val, s_nil, kS3_ap, kS2_ap, kS1_ap, s_cons, r_nil, kRr2_ap, kRr1_ap, r_cons, c_nil, kCa_ap, kC2_ap, kC1f_ap, kC1t_ap, c_f, c_t, f_nil, kF_ap, f_cons, kI2_ap, kI1_ap, i_seq, kEn2_ap, kEn1_ap, i_enum, kG1_ap, i_rng1, kG2b_ap, kG2a_ap, i_rng2, st_v, st_o, kSt_ap, st_s, x_nm, kA2_ap, kA1_ap, x_tp, kPar_ap, x_par, kExp_ap, x_exp, kIf_ap, x_ife, kFor_ap, x_for, x_whl, kRet_ap, x_ret, x_retN, x_brk, x_cnt, x_pass, xs_nil, xs_cons, fo_nx, fo_ret, bind_ok_, st_ok_, opd_v, opd_s, opd_o, seq_nx, seq_ret, seq_brk, seq_cnt, optR, optV, optB, view, views, fin, lent, isO, setTg, setAll, setCA, kd, wipes, unwipe, frz, truth, isNone, callF, lend, slots, back, isLent, List.map_cons, List.map_nil, List.length_cons, List.length_nil, List.cons_append, List.nil_append, List.replicate, Nat.reduceAdd, Nat.reduceSub, List.getElem?_cons_zero, List.getElem?_cons_succ, List.set_cons_zero, List.set_cons_succ, List.getD_cons_zero, List.getD_cons_succ, if_true, if_false, reduceIte, Option.map_some, Option.map_none, List.filterMap_nil, List.filterMap_cons, List.nodup_nil, id_eq, Bool.false_eq_true, nodup1, Wk_Γ, Wk_C, o_add, o_sub, o_eq, o_ne, o_lt, o_le, o_gt, o_ge, o_isN, o_isnN, o_lenL, o_lenT, o_atL, o_atT, o_sqL, o_sqT, o_tupL, o_listL, o_listT, o_int, o_eqT, o_neT, o_inT, o_ninT, o_sqTx, o_Tx0] at k
    exact k
theorem tail7 (fuel : Nat) (W : Wd) (one other : List Rul) (E : Ends W one other) (T : Tk W) (h1 : ∀ r ∈ one, Dr r) (ho : ∀ r ∈ other, Dr r) (ho0 : other ≠ []) (n1 : one.length ≤ 6) (n2 : other.length ≤ 6) (l11 : W.lm 11 = [true, false, false, false]) (l1 : W.lm 1 = [false, false, false]) (l dr : List Nat) (fc s0 : Nat) (hl : l.length ≤ Lm) (hs0 : l[0]? = some s0)
    (ns : List Int) (hp : ∃ p, W.Γ 1 [.v (.list (iL ns)), .v (.int 1), .v (.int 500)] = .o (.lst (iL p)) [])
    (hnear : ∀ r, Dr r → ∀ p, ∃ t p', W.Γ 11 [.o (.lst (iL p)), .v (Tx l), .v (enc r), .v (.int 400)] = .v (Tx t) [.lst (iL p')] ∧ t ≠ [] ∧ t.length ≤ 10000)
    (hnear2 : ∀ r, Dr r → ∀ p, ∃ t p', W.Γ 11 [.o (.lst (iL p)), .v (Tx dr), .v (enc r), .v (.int 12)] = .v (Tx t) [.lst (iL p')] ∧ t ≠ [] ∧ t.length ≤ 10000)
    (ts : List (List Nat)) (h0 : ts ≠ []) (hn : ts.length ≤ 100000) (ht : ∀ t ∈ ts, t ≠ [] ∧ t.length ≤ 3) (p : List Int) (a3 a7 a8 a9 a12 : Sl) :
    SO.fo [false] (exs fuel W (bodyOf 7 f_law.body) [.v (.list (iL ns)), .o (.lst (iL p)), .v (Tx dr), a3, .v (rulesD one), .v (rulesD other), .o (.lst (ts.map Tx)), a7, a8, a9, .v (Tx l), .v (Tx [fc]), a12]) = .v (.bool true) [] := by
  have key := tail9 fuel W one other E T ho ho0 l11 l1 l ns hp hnear
  unfold f_law at key
  simp only [bodyOf] at key
  unfold f_law
  simp only [bodyOf, e_int, e_str, e_bl, e_non, e_glob, vr_v, vr_o, e_var, kBin2_ap, kBin1_ap, e_bin, kNeg_ap, e_neg, kNot_ap, e_nott, kAnd_ap, e_and, kOr_ap, e_or, kCmp2_ap, kCmp1_ap, e_cmp, kCh3_ap, kCh2_ap, kCh1_ap, e_cmp2, kIte_ap, e_ite, kTup_ap, e_tup, kLst_ap, e_lst, kSub2_ap, kSub1_ap, e_sub, kSlc3_ap, kSlc2_ap, kSlc1_ap, e_slc, kSlL2_ap, kSlL1_ap, e_slcL, kSlH2_ap, kSlH1_ap, e_slcH, kRev_ap, e_rev, kCall_ap, e_call, kBi_ap, e_bi, kIsi_ap, e_isi, kMu_ap, e_mu, kPm2_ap, kPm1_ap, e_pm, kTn3_ap, kTn2_ap, kTn1_ap, kCE_ap, kComp_ap, e_comp, kTNot_ap, t_nott, kTAnd_ap, t_and, kTOr_ap, t_or, kTVal_ap, t_val, s_nil, kS3_ap, kS2_ap, kS1_ap, s_cons, r_nil, kRr2_ap, kRr1_ap, r_cons, c_nil, kCa_ap, kC2_ap, kC1f_ap, kC1t_ap, c_f, c_t, f_nil, kF_ap, f_cons, kI2_ap, kI1_ap, i_seq, kEn2_ap, kEn1_ap, i_enum, kG1_ap, i_rng1, kG2b_ap, kG2a_ap, i_rng2, st_v, st_o, kSt_ap, st_s, x_nm, kA2_ap, kA1_ap, x_tp, kPar_ap, x_par, kExp_ap, x_exp, kIf_ap, x_ife, kFor_ap, x_for, x_whl, kRet_ap, x_ret, x_retN, x_brk, x_cnt, x_pass, xs_nil, xs_cons, fo_nx, fo_ret, bind_ok_, st_ok_, opd_v, opd_s, opd_o, seq_nx, seq_ret, seq_brk, seq_cnt, optR, optV, optB, view, views, fin, lent, isO, setTg, setAll, setCA, kd, wipes, unwipe, frz, truth, isNone, callF, lend, slots, back, isLent, List.map_cons, List.map_nil, List.length_cons, List.length_nil, List.cons_append, List.nil_append, List.replicate, Nat.reduceAdd, Nat.reduceSub, List.getElem?_cons_zero, List.getElem?_cons_succ, List.set_cons_zero, List.set_cons_succ, List.getD_cons_zero, List.getD_cons_succ, if_true, if_false, reduceIte, Option.map_some, Option.map_none, List.filterMap_nil, List.filterMap_cons, List.nodup_nil, id_eq, Bool.false_eq_true, nodup1, Wk_Γ, Wk_C, o_add, o_sub, o_eq, o_ne, o_lt, o_le, o_gt, o_ge, o_isN, o_isnN, o_lenL, o_lenT, o_atL, o_atT, o_sqL, o_sqT, o_tupL, o_listL, o_listT, o_int, o_eqT, o_neT, o_inT, o_ninT, o_sqTx, o_Tx0, cat_rules one other (by omega), sq_rules]
  generalize hq : forL _ _ _ = o
  obtain ⟨ρ', rfl, q, us, b7, rfl, u0, u1, u2⟩ := forL_ok hq (fun i ρ => ∃ (q : List Int) (us : List (List Nat)) (b7 : Sl), ρ = [.v (.list (iL ns)), .o (.lst (iL q)), .v (Tx dr), a3, .v (rulesD one), .v (rulesD other), .o (.lst (us.map Tx)), b7, a8, a9, .v (Tx l), .v (Tx [fc]), a12] ∧ us ≠ [] ∧ us.length = ts.length + i ∧ ∀ t ∈ us, t ≠ [] ∧ t.length ≤ 10000) (by
    rintro i x ρ hx ⟨q, us, b7, rfl, u0, u1, u2⟩
    rw [List.getElem?_map] at hx
    obtain ⟨r, hr, rfl⟩ := Option.map_eq_some_iff.mp hx
    have hi := (List.getElem?_eq_some_iff.mp hr).1
    rw [List.length_append] at hi
    have rd : Dr r := by
      rcases List.mem_append.mp (List.mem_of_getElem? hr) with h | h
      · exact h1 r h
      · exact ho r h
    obtain ⟨t, p', e2, k1, k2⟩ := hnear2 r rd q
    have app : muOp .append (us.map Tx) [Tx t] = some (.none, (us ++ [t]).map Tx) := by
      rw [o_app (by rw [List.length_map]; omega), List.map_append]
      rfl
    simp only [turnF_ap, e_int, e_str, e_bl, e_non, e_glob, vr_v, vr_o, e_var, kBin2_ap, kBin1_ap, e_bin, kNeg_ap, e_neg, kNot_ap, e_nott, kAnd_ap, e_and, kOr_ap, e_or, kCmp2_ap, kCmp1_ap, e_cmp, kCh3_ap, kCh2_ap, kCh1_ap, e_cmp2, kIte_ap, e_ite, kTup_ap, e_tup, kLst_ap, e_lst, kSub2_ap, kSub1_ap, e_sub, kSlc3_ap, kSlc2_ap, kSlc1_ap, e_slc, kSlL2_ap, kSlL1_ap, e_slcL, kSlH2_ap, kSlH1_ap, e_slcH, kRev_ap, e_rev, kCall_ap, e_call, kBi_ap, e_bi, kIsi_ap, e_isi, kMu_ap, e_mu, kPm2_ap, kPm1_ap, e_pm, kTn3_ap, kTn2_ap, kTn1_ap, kCE_ap, kComp_ap, e_comp, kTNot_ap, t_nott, kTAnd_ap, t_and, kTOr_ap, t_or, kTVal_ap, t_val, s_nil, kS3_ap, kS2_ap, kS1_ap, s_cons, r_nil, kRr2_ap, kRr1_ap, r_cons, c_nil, kCa_ap, kC2_ap, kC1f_ap, kC1t_ap, c_f, c_t, f_nil, kF_ap, f_cons, kI2_ap, kI1_ap, i_seq, kEn2_ap, kEn1_ap, i_enum, kG1_ap, i_rng1, kG2b_ap, kG2a_ap, i_rng2, st_v, st_o, kSt_ap, st_s, x_nm, kA2_ap, kA1_ap, x_tp, kPar_ap, x_par, kExp_ap, x_exp, kIf_ap, x_ife, kFor_ap, x_for, x_whl, kRet_ap, x_ret, x_retN, x_brk, x_cnt, x_pass, xs_nil, xs_cons, fo_nx, fo_ret, bind_ok_, st_ok_, opd_v, opd_s, opd_o, seq_nx, seq_ret, seq_brk, seq_cnt, optR, optV, optB, view, views, fin, lent, isO, setTg, setAll, setCA, kd, wipes, unwipe, frz, truth, isNone, callF, lend, slots, back, isLent, List.map_cons, List.map_nil, List.length_cons, List.length_nil, List.cons_append, List.nil_append, List.replicate, Nat.reduceAdd, Nat.reduceSub, List.getElem?_cons_zero, List.getElem?_cons_succ, List.set_cons_zero, List.set_cons_succ, List.getD_cons_zero, List.getD_cons_succ, if_true, if_false, reduceIte, Option.map_some, Option.map_none, List.filterMap_nil, List.filterMap_cons, List.nodup_nil, id_eq, Bool.false_eq_true, nodup1, Wk_Γ, Wk_C, o_add, o_sub, o_eq, o_ne, o_lt, o_le, o_gt, o_ge, o_isN, o_isnN, o_lenL, o_lenT, o_atL, o_atT, o_sqL, o_sqT, o_tupL, o_listL, o_listT, o_int, o_eqT, o_neT, o_inT, o_ninT, o_sqTx, o_Tx0, l11, e2, app]
    refine ⟨_, .inl rfl, _, us ++ [t], _, rfl, by simp, by rw [List.length_append]; simp only [List.length_cons, List.length_nil]; omega, fun x hx => ?_⟩
    rcases List.mem_append.mp hx with hx | hx
    · exact u2 x hx
    · rw [List.mem_singleton.mp hx]
      exact ⟨k1, k2⟩) ⟨_, ts, _, rfl, h0, rfl, fun t h => ⟨(ht t h).1, by have := (ht t h).2; omega⟩⟩
  rw [List.length_map, List.length_append] at u1
  obtain ⟨tl, htl⟩ : ∃ tl, us[us.length - 1]? = some tl := ⟨_, List.getElem?_eq_getElem (by have := List.length_pos_iff.mpr u0; omega)⟩
  have at1 : L2.atI (us.map Tx) (-1) = some (Tx tl) := atI_last (by rw [List.length_map, List.getElem?_map, htl]; rfl)
  obtain ⟨v0, v1⟩ := u2 tl (List.mem_of_getElem? htl)
  have c1 : binOp .Add (Tx tl) (Tx [fc]) = some (.v (Tx (tl ++ [fc]))) := o_cat (by simp only [List.length_cons, List.length_nil]; omega)
  have c2 : binOp .Add (Tx (tl ++ [fc])) (Tx [s0]) = some (.v (Tx (tl ++ [fc] ++ [s0]))) := o_cat (by rw [List.length_append]; simp only [List.length_cons, List.length_nil]; omega)
  have c3 : binOp .Add (.list (us.map Tx)) (.list [Tx [fc], Tx (tl ++ [fc] ++ [s0])]) = some (.o (.lst ((us ++ [[fc], tl ++ [fc] ++ [s0]]).map Tx))) := by
    rw [o_catL (by rw [List.length_map]; simp only [List.length_cons, List.length_nil]; omega), List.map_append]
    rfl
  simp only [e_int, e_str, e_bl, e_non, e_glob, vr_v, vr_o, e_var, kBin2_ap, kBin1_ap, e_bin, kNeg_ap, e_neg, kNot_ap, e_nott, kAnd_ap, e_and, kOr_ap, e_or, kCmp2_ap, kCmp1_ap, e_cmp, kCh3_ap, kCh2_ap, kCh1_ap, e_cmp2, kIte_ap, e_ite, kTup_ap, e_tup, kLst_ap, e_lst, kSub2_ap, kSub1_ap, e_sub, kSlc3_ap, kSlc2_ap, kSlc1_ap, e_slc, kSlL2_ap, kSlL1_ap, e_slcL, kSlH2_ap, kSlH1_ap, e_slcH, kRev_ap, e_rev, kCall_ap, e_call, kBi_ap, e_bi, kIsi_ap, e_isi, kMu_ap, e_mu, kPm2_ap, kPm1_ap, e_pm, kTn3_ap, kTn2_ap, kTn1_ap, kCE_ap, kComp_ap, e_comp, kTNot_ap, t_nott, kTAnd_ap, t_and, kTOr_ap, t_or, kTVal_ap, t_val, s_nil, kS3_ap, kS2_ap, kS1_ap, s_cons, r_nil, kRr2_ap, kRr1_ap, r_cons, c_nil, kCa_ap, kC2_ap, kC1f_ap, kC1t_ap, c_f, c_t, f_nil, kF_ap, f_cons, kI2_ap, kI1_ap, i_seq, kEn2_ap, kEn1_ap, i_enum, kG1_ap, i_rng1, kG2b_ap, kG2a_ap, i_rng2, st_v, st_o, kSt_ap, st_s, x_nm, kA2_ap, kA1_ap, x_tp, kPar_ap, x_par, kExp_ap, x_exp, kIf_ap, x_ife, kFor_ap, x_for, x_whl, kRet_ap, x_ret, x_retN, x_brk, x_cnt, x_pass, xs_nil, xs_cons, fo_nx, fo_ret, bind_ok_, st_ok_, opd_v, opd_s, opd_o, seq_nx, seq_ret, seq_brk, seq_cnt, optR, optV, optB, view, views, fin, lent, isO, setTg, setAll, setCA, kd, wipes, unwipe, frz, truth, isNone, callF, lend, slots, back, isLent, List.map_cons, List.map_nil, List.length_cons, List.length_nil, List.cons_append, List.nil_append, List.replicate, Nat.reduceAdd, Nat.reduceSub, List.getElem?_cons_zero, List.getElem?_cons_succ, List.set_cons_zero, List.set_cons_succ, List.getD_cons_zero, List.getD_cons_succ, if_true, if_false, reduceIte, Option.map_some, Option.map_none, List.filterMap_nil, List.filterMap_cons, List.nodup_nil, id_eq, Bool.false_eq_true, nodup1, Wk_Γ, Wk_C, o_add, o_sub, o_eq, o_ne, o_lt, o_le, o_gt, o_ge, o_isN, o_isnN, o_lenL, o_lenT, o_atL, o_atT, o_sqL, o_sqT, o_tupL, o_listL, o_listT, o_int, o_eqT, o_neT, o_inT, o_ninT, o_sqTx, o_Tx0, at1, c1, tx_at0 hl hs0, c2, c3]
  have k := key (us ++ [[fc], tl ++ [fc] ++ [s0]]) (by simp) (by rw [List.length_append]; simp only [List.length_cons, List.length_nil]; omega) (fun x hx => by
    rcases List.mem_append.mp hx with hx | hx
    · exact ⟨(u2 x hx).1, by have := (u2 x hx).2; omega⟩
    · simp only [List.mem_cons, List.not_mem_nil, or_false] at hx
      rcases hx with rfl | rfl
      · exact ⟨by simp, by simp⟩
      · exact ⟨by simp, by rw [List.length_append, List.length_append]; simp only [List.length_cons, List.length_nil]; omega⟩) q (.v (Tx dr)) a3 b7 a8 a9 (.v (Tx [fc])) a12
  simp only [e_int, e_str, e_bl, e_non, e_glob, vr_v, vr_o, e_var, kBin2_ap, kBin1_ap, e_bin, kNeg_ap, e_neg, kNot_ap, e_nott, kAnd_ap, e_and, kOr_ap, e_or, kCmp2_ap, kCmp1_ap, e_cmp, kCh3_ap, kCh2_ap, kCh1_ap, e_cmp2, kIte_ap, e_ite, kTup_ap, e_tup, kLst_ap, e_lst, kSub2_ap, kSub1_ap, e_sub, kSlc3_ap, kSlc2_ap, kSlc1_ap, e_slc, kSlL2_ap, kSlL1_ap, e_slcL, kSlH2_ap, kSlH1_ap, e_slcH, kRev_ap, e_rev, kCall_ap, e_call, kBi_ap, e_bi, kIsi_ap, e_isi, kMu_ap, e_mu, kPm2_ap, kPm1_ap, e_pm, kTn3_ap, kTn2_ap, kTn1_ap, kCE_ap, kComp_ap, e_comp, kTNot_ap, t_nott, kTAnd_ap, t_and, kTOr_ap, t_or, kTVal_ap, t_val, s_nil, kS3_ap, kS2_ap, kS1_ap, s_cons, r_nil, kRr2_ap, kRr1_ap, r_cons, c_nil, kCa_ap, kC2_ap, kC1f_ap, kC1t_ap, c_f, c_t, f_nil, kF_ap, f_cons, kI2_ap, kI1_ap, i_seq, kEn2_ap, kEn1_ap, i_enum, kG1_ap, i_rng1, kG2b_ap, kG2a_ap, i_rng2, st_v, st_o, kSt_ap, st_s, x_nm, kA2_ap, kA1_ap, x_tp, kPar_ap, x_par, kExp_ap, x_exp, kIf_ap, x_ife, kFor_ap, x_for, x_whl, kRet_ap, x_ret, x_retN, x_brk, x_cnt, x_pass, xs_nil, xs_cons, fo_nx, fo_ret, bind_ok_, st_ok_, opd_v, opd_s, opd_o, seq_nx, seq_ret, seq_brk, seq_cnt, optR, optV, optB, view, views, fin, lent, isO, setTg, setAll, setCA, kd, wipes, unwipe, frz, truth, isNone, callF, lend, slots, back, isLent, List.map_cons, List.map_nil, List.length_cons, List.length_nil, List.cons_append, List.nil_append, List.replicate, Nat.reduceAdd, Nat.reduceSub, List.getElem?_cons_zero, List.getElem?_cons_succ, List.set_cons_zero, List.set_cons_succ, List.getD_cons_zero, List.getD_cons_succ, if_true, if_false, reduceIte, Option.map_some, Option.map_none, List.filterMap_nil, List.filterMap_cons, List.nodup_nil, id_eq, Bool.false_eq_true, nodup1, Wk_Γ, Wk_C, o_add, o_sub, o_eq, o_ne, o_lt, o_le, o_gt, o_ge, o_isN, o_isnN, o_lenL, o_lenT, o_atL, o_atT, o_sqL, o_sqT, o_tupL, o_listL, o_listT, o_int, o_eqT, o_neT, o_inT, o_ninT, o_sqTx, o_Tx0] at k
  exact k
end W6

set_option Elab.async false
set_option linter.all false
set_option maxRecDepth 100000
set_option maxHeartbeats 4000000
/-! K06s: the law. -/
namespace W6
open PySem Rc Lw06
theorem strOk_ltr {s : List Nat} (hl : s.length ≤ 8) (h : ∀ c ∈ s, 97 ≤ c ∧ c ≤ 122) : PyData.strOk (tx s) = true := by
  unfold PyData.strOk
  rw [Array.all_eq_true']
  intro c hc
  have := h c (by rw [← tx_list s]; exact Array.mem_toList_iff.mpr hc)
  exact decide_eq_true (by omega)
section
variable {P : Nat → Option Fn} {C : Nat → PyData} (H : HP P C) {fuel k : Nat}
include H
theorem some_S (l : List Nat) (hl : l.length ≤ Lm) (h0 : l ≠ []) (p : List Int) : ∃ s p', sem C P fuel (k + 3) 7 [.o (.lst (iL p)), .v (Tx l)] = .v (Tx s) [.lst (iL p')] ∧ s ≠ [] ∧ s.length ≤ l.length ∧ ∀ c ∈ s, c ∈ l := by
  rw [sem_at H.p7]
  exact some_run fuel (Wk fuel P C (k + 2)) (Tk.of H.p2) (lmk H.p4 m_law_lot) l hl h0 (fun p => lot_S H.p2 H.p4 l hl p) p
theorem rules_S (l : List Nat) (hl : l.length ≤ 100) (h0 : l ≠ []) (hla : ∀ c ∈ l, c ∈ abc) (ks : List (List Nat)) (hk0 : ks ≠ []) (hk : ∀ k ∈ ks, PyData.strOk (tx k) = true) (n : Int) (hn0 : 0 ≤ n) (hn : n ≤ 6) (p : List Int) :
    ∃ rs p', sem C P fuel (k + 4) 72 [.o (.lst (iL p)), .v (Tx l), .v (.list (ks.map Tx)), .v (.int n)] = .v (rulesD rs) [.lst (iL p')] ∧ rs.length = n.toNat ∧ ∀ r ∈ rs, Dr r := by
  have hL : l.length ≤ Lm := lm_of (by omega)
  rw [sem_at H.p72]
  refine rules_run fuel (Wk fuel P C (k + 3)) (Tk.of H.p2) (lmk H.p4 m_law_lot) (lmk H.p7 m_law_some) (lmk H.p71 m_law_spelled) l hl h0 hla (fun p => lot_S H.p2 H.p4 l hL p) (fun p => some_S H l hL h0 p) (fun es p he => ?_) ks hk0 hk n hn0 hn p
  rw [Wk_Γ, sem_at H.p71]
  exact spelled_run fuel (Wk fuel P C (k + 2)) (Tk.of H.p2) l hL h0 es he p
theorem near_S (l : List Nat) (hl : l.length ≤ 100) (h0 : l ≠ []) (r : Rul) (hr : Dr r) (most : Int) (hm0 : 0 < most) (hm : most ≤ 1000) (p : List Int) : ∃ t p', sem C P fuel (k + 2) 11 [.o (.lst (iL p)), .v (Tx l), .v (enc r), .v (.int most)] = .v (Tx t) [.lst (iL p')] ∧ t ≠ [] ∧ t.length ≤ 10000 := by
  rw [sem_at H.p11]
  exact near_run fuel (Wk fuel P C (k + 1)) (Tk.of H.p2) l hl h0 r hr most hm0 hm p
theorem ends_S {one other : List Rul} (h1 : ∀ r ∈ one, Dr r) (n1 : one.length ≤ 6) (h2 : ∀ r ∈ other, Dr r) (n2 : other.length ≤ 6) : Ends (Wk fuel P C (k + 4)) one other where
  l6 := lmk H.p6 m_law_is
  l16 := lmk H.p16 m_law_walks
  l25 := lmk H.p25 m_kinds_of
  w1 := fun t h0 hl => walks_S H h1 n1 t h0 hl
  w2 := fun t h0 hl => walks_S H h2 n2 t h0 hl
  o1 := fun t hl h => odd_S H h1 n1 (lm_of hl) h
  o2 := fun t hl h => odd_S H h2 n2 (lm_of hl) h
  i0 := is_S H h1 n1 (.tuple []) (.inr (.inl rfl))
theorem law_S (hL : P 73 = some f_law) (ns : List Int) : sem C P fuel (k + 5) 73 [.v (.list (iL ns))] = .v (.bool true) [] := by
  rw [sem_at hL]
  generalize hW : Wk fuel P C (k + 4) = W
  have T : Tk W := by rw [← hW]; exact Tk.of H.p2
  obtain ⟨p0, e0⟩ : ∃ p, W.Γ 1 [.v (.list (iL ns)), .v (.int 0), .v (.int 700)] = .o (.lst (iL p)) [] := by rw [← hW]; exact pool_S H.p0 H.p1 ns 0 700 (by decide)
  have hp1 : ∃ p, W.Γ 1 [.v (.list (iL ns)), .v (.int 1), .v (.int 500)] = .o (.lst (iL p)) [] := by rw [← hW]; exact pool_S H.p0 H.p1 ns 1 500 (by decide)
  have t7 := tk_lt p0 (m := 7) (by decide)
  have t7' := tk_nn p0 7
  obtain ⟨dr, p1, e1, d1, d2, d3⟩ : ∃ s p', W.Γ 3 [.o (.lst (iL (tkP p0 7))), .v (.int (3 + tkR p0 7))] = .v (Tx s) [.lst (iL p')] ∧ s.length = (3 + tkR p0 7).toNat ∧ s.Nodup ∧ ∀ c ∈ s, c ∈ abc := by
    rw [← hW]
    exact signs_S H.p2 H.p3 (by omega) (by omega) (tkP p0 7)
  have drL : dr.length ≤ Lm := lm_of (by omega)
  obtain ⟨fc, hfc⟩ : ∃ c, dr[dr.length - 1]? = some c := ⟨_, List.getElem?_eq_getElem (by omega)⟩
  have ll : dr.dropLast.length = dr.length - 1 := List.length_dropLast
  obtain ⟨s0, hs0⟩ : ∃ c, dr.dropLast[0]? = some c := ⟨_, List.getElem?_eq_getElem (by omega)⟩
  have lne : dr.dropLast ≠ [] := List.length_pos_iff.mp (by omega)
  have dne : dr ≠ [] := List.length_pos_iff.mp (by omega)
  have la : ∀ c ∈ dr.dropLast, c ∈ abc := fun c hc => d3 c (List.dropLast_subset _ hc)
  have t4 := tk_lt p1 (m := 4) (by decide)
  have t4' := tk_nn p1 4
  have s62 : small62 (1 + tkR p1 4) = true := small_int (by omega) (by omega)
  have sl1 : slcOp (Tx dr) none (some (-1)) = some (.v (Tx dr.dropLast)) := by
    show (if (tx dr).length ≤ Lm then some (R.v (.str ⟨(cut (tx dr).cps.toList none (some (-1))).toArray⟩)) else none) = _
    rw [tx_len, if_pos drL, tx_list, cut_init]
    rfl
  have l1 : W.lm 1 = [false, false, false] := by rw [← hW]; exact lmk H.p1 m_law_pool
  have l3 : W.lm 3 = [true, false] := by rw [← hW]; exact lmk H.p3 m_law_signs
  have l5 : W.lm 5 = [true] := by rw [← hW]; exact lmk H.p5 m_law_kind
  have l72 : W.lm 72 = [true, false, false, false] := by rw [← hW]; exact lmk H.p72 m_law_rules
  have l10 : W.lm 10 = [false, false] := by rw [← hW]; exact lmk H.p10 m_law_all
  have l11 : W.lm 11 = [true, false, false, false] := by rw [← hW]; exact lmk H.p11 m_law_near
  have hk : ∀ p, ∃ s p', W.Γ 5 [.o (.lst (iL p))] = .v (Tx s) [.lst (iL p')] ∧ PyData.strOk (tx s) = true := fun p => by
    rw [← hW]
    obtain ⟨s, p', e, _, h8, hc⟩ := kind_S (C := C) (P := P) (fuel := fuel) (k := k + 2) H.p2 H.p5 p
    exact ⟨s, p', e, strOk_ltr h8 hc⟩
  have hr : ∀ (ks : List (List Nat)) (n : Int) (p : List Int), ks ≠ [] → (∀ k ∈ ks, PyData.strOk (tx k) = true) → 0 ≤ n → n ≤ 6 → ∃ rs p', W.Γ 72 [.o (.lst (iL p)), .v (Tx dr.dropLast), .v (.list (ks.map Tx)), .v (.int n)] = .v (rulesD rs) [.lst (iL p')] ∧ rs.length = n.toNat ∧ ∀ r ∈ rs, Dr r := fun ks n p h1 h2 h3 h4 => by
    rw [← hW]
    exact rules_S H dr.dropLast (by omega) lne la ks h1 h2 n h3 h4 p
  have hall : ∀ most : Nat, 0 < most → most ≤ 3 → ∃ ts : List (List Nat), W.Γ 10 [.v (Tx dr.dropLast), .v (.int most)] = .o (.lst (ts.map Tx)) [] ∧ ts ≠ [] ∧ ts.length ≤ 100000 ∧ ∀ t ∈ ts, t ≠ [] ∧ t.length ≤ 3 := fun most h1 h2 => by
    rw [← hW, Wk_Γ, sem_at H.p10]
    exact all_run fuel _ dr.dropLast lne (by omega) most h1 h2
  have hn1 : ∀ r, Dr r → ∀ p, ∃ t p', W.Γ 11 [.o (.lst (iL p)), .v (Tx dr.dropLast), .v (enc r), .v (.int 400)] = .v (Tx t) [.lst (iL p')] ∧ t ≠ [] ∧ t.length ≤ 10000 := fun r h p => by
    rw [← hW]
    exact near_S H dr.dropLast (by omega) lne r h 400 (by decide) (by decide) p
  have hn2 : ∀ r, Dr r → ∀ p, ∃ t p', W.Γ 11 [.o (.lst (iL p)), .v (Tx dr), .v (enc r), .v (.int 12)] = .v (Tx t) [.lst (iL p')] ∧ t ≠ [] ∧ t.length ≤ 10000 := fun r h p => by
    rw [← hW]
    exact near_S H dr (by omega) dne r h 12 (by decide) (by decide) p
  have hE : ∀ one other : List Rul, (∀ r ∈ one, Dr r) → one.length ≤ 6 → (∀ r ∈ other, Dr r) → other.length ≤ 6 → Ends W one other := fun one other a b c d => by
    rw [← hW]
    exact ends_S H a b c d
  clear hW
  unfold f_law runFn
  simp only [e_int, e_str, e_bl, e_non, e_glob, vr_v, vr_o, e_var, kBin2_ap, kBin1_ap, e_bin, kNeg_ap, e_neg, kNot_ap, e_nott, kAnd_ap, e_and, kOr_ap, e_or, kCmp2_ap, kCmp1_ap, e_cmp, kCh3_ap, kCh2_ap, kCh1_ap, e_cmp2, kIte_ap, e_ite, kTup_ap, e_tup, kLst_ap, e_lst, kSub2_ap, kSub1_ap, e_sub, kSlc3_ap, kSlc2_ap, kSlc1_ap, e_slc, kSlL2_ap, kSlL1_ap, e_slcL, kSlH2_ap, kSlH1_ap, e_slcH, kRev_ap, e_rev, kCall_ap, e_call, kBi_ap, e_bi, kIsi_ap, e_isi, kMu_ap, e_mu, kPm2_ap, kPm1_ap, e_pm, kTn3_ap, kTn2_ap, kTn1_ap, kCE_ap, kComp_ap, e_comp, kTNot_ap, t_nott, kTAnd_ap, t_and, kTOr_ap, t_or, kTVal_ap, t_val, s_nil, kS3_ap, kS2_ap, kS1_ap, s_cons, r_nil, kRr2_ap, kRr1_ap, r_cons, c_nil, kCa_ap, kC2_ap, kC1f_ap, kC1t_ap, c_f, c_t, f_nil, kF_ap, f_cons, kI2_ap, kI1_ap, i_seq, kEn2_ap, kEn1_ap, i_enum, kG1_ap, i_rng1, kG2b_ap, kG2a_ap, i_rng2, st_v, st_o, kSt_ap, st_s, x_nm, kA2_ap, kA1_ap, x_tp, kPar_ap, x_par, kExp_ap, x_exp, kIf_ap, x_ife, kFor_ap, x_for, x_whl, kRet_ap, x_ret, x_retN, x_brk, x_cnt, x_pass, xs_nil, xs_cons, fo_nx, fo_ret, bind_ok_, st_ok_, opd_v, opd_s, opd_o, seq_nx, seq_ret, seq_brk, seq_cnt, optR, optV, optB, view, views, fin, lent, isO, setTg, setAll, setCA, kd, wipes, unwipe, frz, truth, isNone, callF, lend, slots, back, isLent, List.map_cons, List.map_nil, List.length_cons, List.length_nil, List.cons_append, List.nil_append, List.replicate, Nat.reduceAdd, Nat.reduceSub, List.getElem?_cons_zero, List.getElem?_cons_succ, List.set_cons_zero, List.set_cons_succ, List.getD_cons_zero, List.getD_cons_succ, if_true, if_false, reduceIte, Option.map_some, Option.map_none, List.filterMap_nil, List.filterMap_cons, List.nodup_nil, id_eq, Bool.false_eq_true, nodup1, Wk_Γ, Wk_C, o_add, o_sub, o_eq, o_ne, o_lt, o_le, o_gt, o_ge, o_isN, o_isnN, o_lenL, o_lenT, o_atL, o_atT, o_sqL, o_sqT, o_tupL, o_listL, o_listT, o_int, o_eqT, o_neT, o_inT, o_ninT, o_sqTx, o_Tx0, T.l, T.g, l1, l3, e0, e1, sl1, tx_last drL hfc, s62]
  generalize hq : compL _ _ _ _ = o
  obtain ⟨ds, ρ', rfl, p2, ks, b12, rfl, rfl, k1, k2⟩ := compL_ok hq (fun i acc ρ => ∃ (q : List Int) (ks : List (List Nat)) (b12 : Sl), acc = ks.map Tx ∧ ρ = [.v (.list (iL ns)), .o (.lst (iL q)), .v (Tx dr), .un, .un, .un, .un, .un, .un, .un, .v (Tx dr.dropLast), .v (Tx [fc]), b12] ∧ ks.length = i ∧ ∀ k ∈ ks, PyData.strOk (tx k) = true) (by
    rintro i x acc ρ hx ⟨q, ks, b12, rfl, rfl, k1, k2⟩
    obtain ⟨rfl, hi⟩ := rng1L_get hx
    obtain ⟨s, p', es, hs⟩ := hk q
    simp only [turnC_ap, e_int, e_str, e_bl, e_non, e_glob, vr_v, vr_o, e_var, kBin2_ap, kBin1_ap, e_bin, kNeg_ap, e_neg, kNot_ap, e_nott, kAnd_ap, e_and, kOr_ap, e_or, kCmp2_ap, kCmp1_ap, e_cmp, kCh3_ap, kCh2_ap, kCh1_ap, e_cmp2, kIte_ap, e_ite, kTup_ap, e_tup, kLst_ap, e_lst, kSub2_ap, kSub1_ap, e_sub, kSlc3_ap, kSlc2_ap, kSlc1_ap, e_slc, kSlL2_ap, kSlL1_ap, e_slcL, kSlH2_ap, kSlH1_ap, e_slcH, kRev_ap, e_rev, kCall_ap, e_call, kBi_ap, e_bi, kIsi_ap, e_isi, kMu_ap, e_mu, kPm2_ap, kPm1_ap, e_pm, kTn3_ap, kTn2_ap, kTn1_ap, kCE_ap, kComp_ap, e_comp, kTNot_ap, t_nott, kTAnd_ap, t_and, kTOr_ap, t_or, kTVal_ap, t_val, s_nil, kS3_ap, kS2_ap, kS1_ap, s_cons, r_nil, kRr2_ap, kRr1_ap, r_cons, c_nil, kCa_ap, kC2_ap, kC1f_ap, kC1t_ap, c_f, c_t, f_nil, kF_ap, f_cons, kI2_ap, kI1_ap, i_seq, kEn2_ap, kEn1_ap, i_enum, kG1_ap, i_rng1, kG2b_ap, kG2a_ap, i_rng2, st_v, st_o, kSt_ap, st_s, x_nm, kA2_ap, kA1_ap, x_tp, kPar_ap, x_par, kExp_ap, x_exp, kIf_ap, x_ife, kFor_ap, x_for, x_whl, kRet_ap, x_ret, x_retN, x_brk, x_cnt, x_pass, xs_nil, xs_cons, fo_nx, fo_ret, bind_ok_, st_ok_, opd_v, opd_s, opd_o, seq_nx, seq_ret, seq_brk, seq_cnt, optR, optV, optB, view, views, fin, lent, isO, setTg, setAll, setCA, kd, wipes, unwipe, frz, truth, isNone, callF, lend, slots, back, isLent, List.map_cons, List.map_nil, List.length_cons, List.length_nil, List.cons_append, List.nil_append, List.replicate, Nat.reduceAdd, Nat.reduceSub, List.getElem?_cons_zero, List.getElem?_cons_succ, List.set_cons_zero, List.set_cons_succ, List.getD_cons_zero, List.getD_cons_succ, if_true, if_false, reduceIte, Option.map_some, Option.map_none, List.filterMap_nil, List.filterMap_cons, List.nodup_nil, id_eq, Bool.false_eq_true, nodup1, Wk_Γ, Wk_C, o_add, o_sub, o_eq, o_ne, o_lt, o_le, o_gt, o_ge, o_isN, o_isnN, o_lenL, o_lenT, o_atL, o_atT, o_sqL, o_sqT, o_tupL, o_listL, o_listT, o_int, o_eqT, o_neT, o_inT, o_ninT, o_sqTx, o_Tx0, l5, es]
    refine ⟨_, _, rfl, ?_, _, ks ++ [s], _, by rw [List.map_append]; rfl, rfl, by rw [List.length_append, k1]; rfl, fun x hx => ?_⟩
    · rw [List.length_map]
      exact Nat.lt_of_le_of_lt (show ks.length ≤ 10 by omega) (by decide)
    · rcases List.mem_append.mp hx with hx | hx
      · exact k2 x hx
      · rw [List.mem_singleton.mp hx]
        exact hs) ⟨_, [], _, rfl, rfl, rfl, fun k h => by cases h⟩
  rw [rng1L_len] at k1
  have kne : ks ≠ [] := List.length_pos_iff.mp (by omega)
  have t7 := tk_lt p2 (m := 7) (by decide)
  have t7' := tk_nn p2 7
  obtain ⟨one, p3, e3, n1, r1⟩ := hr ks (tkR p2 7) (tkP p2 7) kne k2 (by omega) (by omega)
  have t6 := tk_lt p3 (m := 6) (by decide)
  have t6' := tk_nn p3 6
  obtain ⟨other, p4, e4, n2, r2⟩ := hr ks (1 + tkR p3 6) (tkP p3 6) kne k2 (by omega) (by omega)
  have one0 : other ≠ [] := List.length_pos_iff.mp (by omega)
  have key := tail7 fuel W one other (hE one other r1 (by omega) r2 (by omega)) T r1 r2 one0 (by omega) (by omega) l11 l1 dr.dropLast dr fc s0 (lm_of (by omega)) hs0 ns hp1 hn1 hn2
  unfold f_law at key
  simp only [bodyOf] at key
  have hlen : biOp .len [Tx dr.dropLast] = some (.v (.int (dr.dropLast.length : Nat))) := Rc.len_tx (lm_of (by omega))
  simp only [e_int, e_str, e_bl, e_non, e_glob, vr_v, vr_o, e_var, kBin2_ap, kBin1_ap, e_bin, kNeg_ap, e_neg, kNot_ap, e_nott, kAnd_ap, e_and, kOr_ap, e_or, kCmp2_ap, kCmp1_ap, e_cmp, kCh3_ap, kCh2_ap, kCh1_ap, e_cmp2, kIte_ap, e_ite, kTup_ap, e_tup, kLst_ap, e_lst, kSub2_ap, kSub1_ap, e_sub, kSlc3_ap, kSlc2_ap, kSlc1_ap, e_slc, kSlL2_ap, kSlL1_ap, e_slcL, kSlH2_ap, kSlH1_ap, e_slcH, kRev_ap, e_rev, kCall_ap, e_call, kBi_ap, e_bi, kIsi_ap, e_isi, kMu_ap, e_mu, kPm2_ap, kPm1_ap, e_pm, kTn3_ap, kTn2_ap, kTn1_ap, kCE_ap, kComp_ap, e_comp, kTNot_ap, t_nott, kTAnd_ap, t_and, kTOr_ap, t_or, kTVal_ap, t_val, s_nil, kS3_ap, kS2_ap, kS1_ap, s_cons, r_nil, kRr2_ap, kRr1_ap, r_cons, c_nil, kCa_ap, kC2_ap, kC1f_ap, kC1t_ap, c_f, c_t, f_nil, kF_ap, f_cons, kI2_ap, kI1_ap, i_seq, kEn2_ap, kEn1_ap, i_enum, kG1_ap, i_rng1, kG2b_ap, kG2a_ap, i_rng2, st_v, st_o, kSt_ap, st_s, x_nm, kA2_ap, kA1_ap, x_tp, kPar_ap, x_par, kExp_ap, x_exp, kIf_ap, x_ife, kFor_ap, x_for, x_whl, kRet_ap, x_ret, x_retN, x_brk, x_cnt, x_pass, xs_nil, xs_cons, fo_nx, fo_ret, bind_ok_, st_ok_, opd_v, opd_s, opd_o, seq_nx, seq_ret, seq_brk, seq_cnt, optR, optV, optB, view, views, fin, lent, isO, setTg, setAll, setCA, kd, wipes, unwipe, frz, truth, isNone, callF, lend, slots, back, isLent, List.map_cons, List.map_nil, List.length_cons, List.length_nil, List.cons_append, List.nil_append, List.replicate, Nat.reduceAdd, Nat.reduceSub, List.getElem?_cons_zero, List.getElem?_cons_succ, List.set_cons_zero, List.set_cons_succ, List.getD_cons_zero, List.getD_cons_succ, if_true, if_false, reduceIte, Option.map_some, Option.map_none, List.filterMap_nil, List.filterMap_cons, List.nodup_nil, id_eq, Bool.false_eq_true, nodup1, Wk_Γ, Wk_C, o_add, o_sub, o_eq, o_ne, o_lt, o_le, o_gt, o_ge, o_isN, o_isnN, o_lenL, o_lenT, o_atL, o_atT, o_sqL, o_sqT, o_tupL, o_listL, o_listT, o_int, o_eqT, o_neT, o_inT, o_ninT, o_sqTx, o_Tx0, T.l, T.g, l72, l10, e3, e4, hlen]
  cases h : decide ((dr.dropLast.length : Int) < 4) with
  | true =>
    obtain ⟨ts, a1, a2, a3, a4⟩ := hall 3 (by decide) (by decide)
    rw [show ((3 : Nat) : Int) = 3 from rfl] at a1
    simp only [e_int, e_str, e_bl, e_non, e_glob, vr_v, vr_o, e_var, kBin2_ap, kBin1_ap, e_bin, kNeg_ap, e_neg, kNot_ap, e_nott, kAnd_ap, e_and, kOr_ap, e_or, kCmp2_ap, kCmp1_ap, e_cmp, kCh3_ap, kCh2_ap, kCh1_ap, e_cmp2, kIte_ap, e_ite, kTup_ap, e_tup, kLst_ap, e_lst, kSub2_ap, kSub1_ap, e_sub, kSlc3_ap, kSlc2_ap, kSlc1_ap, e_slc, kSlL2_ap, kSlL1_ap, e_slcL, kSlH2_ap, kSlH1_ap, e_slcH, kRev_ap, e_rev, kCall_ap, e_call, kBi_ap, e_bi, kIsi_ap, e_isi, kMu_ap, e_mu, kPm2_ap, kPm1_ap, e_pm, kTn3_ap, kTn2_ap, kTn1_ap, kCE_ap, kComp_ap, e_comp, kTNot_ap, t_nott, kTAnd_ap, t_and, kTOr_ap, t_or, kTVal_ap, t_val, s_nil, kS3_ap, kS2_ap, kS1_ap, s_cons, r_nil, kRr2_ap, kRr1_ap, r_cons, c_nil, kCa_ap, kC2_ap, kC1f_ap, kC1t_ap, c_f, c_t, f_nil, kF_ap, f_cons, kI2_ap, kI1_ap, i_seq, kEn2_ap, kEn1_ap, i_enum, kG1_ap, i_rng1, kG2b_ap, kG2a_ap, i_rng2, st_v, st_o, kSt_ap, st_s, x_nm, kA2_ap, kA1_ap, x_tp, kPar_ap, x_par, kExp_ap, x_exp, kIf_ap, x_ife, kFor_ap, x_for, x_whl, kRet_ap, x_ret, x_retN, x_brk, x_cnt, x_pass, xs_nil, xs_cons, fo_nx, fo_ret, bind_ok_, st_ok_, opd_v, opd_s, opd_o, seq_nx, seq_ret, seq_brk, seq_cnt, optR, optV, optB, view, views, fin, lent, isO, setTg, setAll, setCA, kd, wipes, unwipe, frz, truth, isNone, callF, lend, slots, back, isLent, List.map_cons, List.map_nil, List.length_cons, List.length_nil, List.cons_append, List.nil_append, List.replicate, Nat.reduceAdd, Nat.reduceSub, List.getElem?_cons_zero, List.getElem?_cons_succ, List.set_cons_zero, List.set_cons_succ, List.getD_cons_zero, List.getD_cons_succ, if_true, if_false, reduceIte, Option.map_some, Option.map_none, List.filterMap_nil, List.filterMap_cons, List.nodup_nil, id_eq, Bool.false_eq_true, nodup1, Wk_Γ, Wk_C, o_add, o_sub, o_eq, o_ne, o_lt, o_le, o_gt, o_ge, o_isN, o_isnN, o_lenL, o_lenT, o_atL, o_atT, o_sqL, o_sqT, o_tupL, o_listL, o_listT, o_int, o_eqT, o_neT, o_inT, o_ninT, o_sqTx, o_Tx0, h, l10, a1]
    have k := key ts a2 a3 a4 p4 (.v (.list (ks.map Tx))) .un .un .un .un
    simp only [e_int, e_str, e_bl, e_non, e_glob, vr_v, vr_o, e_var, kBin2_ap, kBin1_ap, e_bin, kNeg_ap, e_neg, kNot_ap, e_nott, kAnd_ap, e_and, kOr_ap, e_or, kCmp2_ap, kCmp1_ap, e_cmp, kCh3_ap, kCh2_ap, kCh1_ap, e_cmp2, kIte_ap, e_ite, kTup_ap, e_tup, kLst_ap, e_lst, kSub2_ap, kSub1_ap, e_sub, kSlc3_ap, kSlc2_ap, kSlc1_ap, e_slc, kSlL2_ap, kSlL1_ap, e_slcL, kSlH2_ap, kSlH1_ap, e_slcH, kRev_ap, e_rev, kCall_ap, e_call, kBi_ap, e_bi, kIsi_ap, e_isi, kMu_ap, e_mu, kPm2_ap, kPm1_ap, e_pm, kTn3_ap, kTn2_ap, kTn1_ap, kCE_ap, kComp_ap, e_comp, kTNot_ap, t_nott, kTAnd_ap, t_and, kTOr_ap, t_or, kTVal_ap, t_val, s_nil, kS3_ap, kS2_ap, kS1_ap, s_cons, r_nil, kRr2_ap, kRr1_ap, r_cons, c_nil, kCa_ap, kC2_ap, kC1f_ap, kC1t_ap, c_f, c_t, f_nil, kF_ap, f_cons, kI2_ap, kI1_ap, i_seq, kEn2_ap, kEn1_ap, i_enum, kG1_ap, i_rng1, kG2b_ap, kG2a_ap, i_rng2, st_v, st_o, kSt_ap, st_s, x_nm, kA2_ap, kA1_ap, x_tp, kPar_ap, x_par, kExp_ap, x_exp, kIf_ap, x_ife, kFor_ap, x_for, x_whl, kRet_ap, x_ret, x_retN, x_brk, x_cnt, x_pass, xs_nil, xs_cons, fo_nx, fo_ret, bind_ok_, st_ok_, opd_v, opd_s, opd_o, seq_nx, seq_ret, seq_brk, seq_cnt, optR, optV, optB, view, views, fin, lent, isO, setTg, setAll, setCA, kd, wipes, unwipe, frz, truth, isNone, callF, lend, slots, back, isLent, List.map_cons, List.map_nil, List.length_cons, List.length_nil, List.cons_append, List.nil_append, List.replicate, Nat.reduceAdd, Nat.reduceSub, List.getElem?_cons_zero, List.getElem?_cons_succ, List.set_cons_zero, List.set_cons_succ, List.getD_cons_zero, List.getD_cons_succ, if_true, if_false, reduceIte, Option.map_some, Option.map_none, List.filterMap_nil, List.filterMap_cons, List.nodup_nil, id_eq, Bool.false_eq_true, nodup1, Wk_Γ, Wk_C, o_add, o_sub, o_eq, o_ne, o_lt, o_le, o_gt, o_ge, o_isN, o_isnN, o_lenL, o_lenT, o_atL, o_atT, o_sqL, o_sqT, o_tupL, o_listL, o_listT, o_int, o_eqT, o_neT, o_inT, o_ninT, o_sqTx, o_Tx0] at k
    exact k
  | false =>
    obtain ⟨ts, a1, a2, a3, a4⟩ := hall 2 (by decide) (by decide)
    rw [show ((2 : Nat) : Int) = 2 from rfl] at a1
    simp only [e_int, e_str, e_bl, e_non, e_glob, vr_v, vr_o, e_var, kBin2_ap, kBin1_ap, e_bin, kNeg_ap, e_neg, kNot_ap, e_nott, kAnd_ap, e_and, kOr_ap, e_or, kCmp2_ap, kCmp1_ap, e_cmp, kCh3_ap, kCh2_ap, kCh1_ap, e_cmp2, kIte_ap, e_ite, kTup_ap, e_tup, kLst_ap, e_lst, kSub2_ap, kSub1_ap, e_sub, kSlc3_ap, kSlc2_ap, kSlc1_ap, e_slc, kSlL2_ap, kSlL1_ap, e_slcL, kSlH2_ap, kSlH1_ap, e_slcH, kRev_ap, e_rev, kCall_ap, e_call, kBi_ap, e_bi, kIsi_ap, e_isi, kMu_ap, e_mu, kPm2_ap, kPm1_ap, e_pm, kTn3_ap, kTn2_ap, kTn1_ap, kCE_ap, kComp_ap, e_comp, kTNot_ap, t_nott, kTAnd_ap, t_and, kTOr_ap, t_or, kTVal_ap, t_val, s_nil, kS3_ap, kS2_ap, kS1_ap, s_cons, r_nil, kRr2_ap, kRr1_ap, r_cons, c_nil, kCa_ap, kC2_ap, kC1f_ap, kC1t_ap, c_f, c_t, f_nil, kF_ap, f_cons, kI2_ap, kI1_ap, i_seq, kEn2_ap, kEn1_ap, i_enum, kG1_ap, i_rng1, kG2b_ap, kG2a_ap, i_rng2, st_v, st_o, kSt_ap, st_s, x_nm, kA2_ap, kA1_ap, x_tp, kPar_ap, x_par, kExp_ap, x_exp, kIf_ap, x_ife, kFor_ap, x_for, x_whl, kRet_ap, x_ret, x_retN, x_brk, x_cnt, x_pass, xs_nil, xs_cons, fo_nx, fo_ret, bind_ok_, st_ok_, opd_v, opd_s, opd_o, seq_nx, seq_ret, seq_brk, seq_cnt, optR, optV, optB, view, views, fin, lent, isO, setTg, setAll, setCA, kd, wipes, unwipe, frz, truth, isNone, callF, lend, slots, back, isLent, List.map_cons, List.map_nil, List.length_cons, List.length_nil, List.cons_append, List.nil_append, List.replicate, Nat.reduceAdd, Nat.reduceSub, List.getElem?_cons_zero, List.getElem?_cons_succ, List.set_cons_zero, List.set_cons_succ, List.getD_cons_zero, List.getD_cons_succ, if_true, if_false, reduceIte, Option.map_some, Option.map_none, List.filterMap_nil, List.filterMap_cons, List.nodup_nil, id_eq, Bool.false_eq_true, nodup1, Wk_Γ, Wk_C, o_add, o_sub, o_eq, o_ne, o_lt, o_le, o_gt, o_ge, o_isN, o_isnN, o_lenL, o_lenT, o_atL, o_atT, o_sqL, o_sqT, o_tupL, o_listL, o_listT, o_int, o_eqT, o_neT, o_inT, o_ninT, o_sqTx, o_Tx0, h, l10, a1]
    have k := key ts a2 a3 a4 p4 (.v (.list (ks.map Tx))) .un .un .un .un
    simp only [e_int, e_str, e_bl, e_non, e_glob, vr_v, vr_o, e_var, kBin2_ap, kBin1_ap, e_bin, kNeg_ap, e_neg, kNot_ap, e_nott, kAnd_ap, e_and, kOr_ap, e_or, kCmp2_ap, kCmp1_ap, e_cmp, kCh3_ap, kCh2_ap, kCh1_ap, e_cmp2, kIte_ap, e_ite, kTup_ap, e_tup, kLst_ap, e_lst, kSub2_ap, kSub1_ap, e_sub, kSlc3_ap, kSlc2_ap, kSlc1_ap, e_slc, kSlL2_ap, kSlL1_ap, e_slcL, kSlH2_ap, kSlH1_ap, e_slcH, kRev_ap, e_rev, kCall_ap, e_call, kBi_ap, e_bi, kIsi_ap, e_isi, kMu_ap, e_mu, kPm2_ap, kPm1_ap, e_pm, kTn3_ap, kTn2_ap, kTn1_ap, kCE_ap, kComp_ap, e_comp, kTNot_ap, t_nott, kTAnd_ap, t_and, kTOr_ap, t_or, kTVal_ap, t_val, s_nil, kS3_ap, kS2_ap, kS1_ap, s_cons, r_nil, kRr2_ap, kRr1_ap, r_cons, c_nil, kCa_ap, kC2_ap, kC1f_ap, kC1t_ap, c_f, c_t, f_nil, kF_ap, f_cons, kI2_ap, kI1_ap, i_seq, kEn2_ap, kEn1_ap, i_enum, kG1_ap, i_rng1, kG2b_ap, kG2a_ap, i_rng2, st_v, st_o, kSt_ap, st_s, x_nm, kA2_ap, kA1_ap, x_tp, kPar_ap, x_par, kExp_ap, x_exp, kIf_ap, x_ife, kFor_ap, x_for, x_whl, kRet_ap, x_ret, x_retN, x_brk, x_cnt, x_pass, xs_nil, xs_cons, fo_nx, fo_ret, bind_ok_, st_ok_, opd_v, opd_s, opd_o, seq_nx, seq_ret, seq_brk, seq_cnt, optR, optV, optB, view, views, fin, lent, isO, setTg, setAll, setCA, kd, wipes, unwipe, frz, truth, isNone, callF, lend, slots, back, isLent, List.map_cons, List.map_nil, List.length_cons, List.length_nil, List.cons_append, List.nil_append, List.replicate, Nat.reduceAdd, Nat.reduceSub, List.getElem?_cons_zero, List.getElem?_cons_succ, List.set_cons_zero, List.set_cons_succ, List.getD_cons_zero, List.getD_cons_succ, if_true, if_false, reduceIte, Option.map_some, Option.map_none, List.filterMap_nil, List.filterMap_cons, List.nodup_nil, id_eq, Bool.false_eq_true, nodup1, Wk_Γ, Wk_C, o_add, o_sub, o_eq, o_ne, o_lt, o_le, o_gt, o_ge, o_isN, o_isnN, o_lenL, o_lenT, o_atL, o_atT, o_sqL, o_sqT, o_tupL, o_listL, o_listT, o_int, o_eqT, o_neT, o_inT, o_ninT, o_sqTx, o_Tx0] at k
    exact k
end
end W6

set_option Elab.async false
set_option linter.all false
set_option maxRecDepth 100000
set_option maxHeartbeats 0
namespace Lw06
open PySem Rc
theorem plain (ns : List Int) (h : ns.length ≤ 63) : sem C (fnsOf ds) 0 5 73 [.v (.list (ns.map .int))] = .v (.bool true) [] := W6.law_S (k := 0) ⟨C0, P0, P1, P2, P3, P4, P5, P6, P7, P10, P11, P12, P13, P14, P15, P16, P18, P19, P20, P21, P22, P23, P24, P25, P71, P72⟩ P73 ns
end Lw06
namespace Lw06
open PySem PySem.Spec PyProof.Rows L2 Rc
theorem facts {P : Program} {w : World} {K : PySem.W.Frag} {h : Heap} {mg : Str → Option Value} {f : Addr} (X : K.In h) (G : h.Ns mainGlobals mg) (hfa : mg ("law" : Str) = some (.ref f)) (c : He.SaysD fa fn K) (cc : cs.all (conOk K) = true) :
    ∃ fd : FuncData, (∀ (s : Shared) (v : Value), BindsTo s fd ⟨[v], []⟩ [("script", v)]) ∧ ∀ base : Heap, FnOk P w K mg base CX0 5 f fd ["script"] (spOf K 1 (sem C (fnsOf ds) 0 5 73)) := by
  have H := hd X G c cc
  obtain ⟨fd, F⟩ := c.defs (d := dD d_law) (List.mem_map.mpr ⟨d_law, List.mem_of_getElem? (i := 25) rfl, rfl⟩)
  have e := hfa.symm.trans (He.glo_ok X G (c.facts (f := .glo "law") (List.mem_append_left _ (List.mem_map.mpr ⟨d_law, List.mem_of_getElem? (i := 25) rfl, rfl⟩))))
  cases e
  have b := FunD.bindsA (ps := ["script"]) F fun _ _ _ _ _ _ us hl => match us, hl with | [_], _ => rfl
  exact ⟨fd, fun s v => b s [v] rfl, fun base => prog_ok (base := base) ok H 5 73 d_law _ fd rfl F hfa⟩
theorem sp_law {K : PySem.W.Frag} {g : List Sl → FO} {ns : List Int} (h : g [.v (.list (ns.map .int))] = .v (.bool true) []) (H : Hp) (a : Addr) (hS : SqL K H a (ns.map V.int)) : spOf K 1 g [.ref a] H (fun v _ => v = .bl true) fun _ _ _ => False := by
  have dq : ∀ ns : List Int, DqAll K H (ns.map V.int) (ns.map .int) := fun ns => by
    induction ns with
    | nil => exact .nil
    | cons n ns ih => exact .cons (.int n) ih
  refine ⟨rfl, H, [.v (.list (ns.map .int))], Same.refl _, .v (.lst hS (dq ns)) .nil, List.nodup_nil, ?_⟩
  rw [h]
  intro G' H' x _ hx
  cases hx
  rfl
end Lw06
open PySem PySem.W PySem.Calls PyProof.Rows
theorem PySem.Challenge.cw_staleornot_k06_word_states_holds : PySem.Challenge.rw_staleornot_k06_word_states.Holds := by
  w_on; o_law
  refine HandSHeadRun.head_any (r := Lw06.R) (q := view Lw06.R.prog [28]) (H := Lw06.hk) (ob := Lw06.ob) (M := 4000) (loose := Lw06.loose) (d := HandSHeadRun.topDef Lw06.R.prog 28) (kwd := []) Lw06.ob_eq
    (by kernel_rfl) (fun s => by kernel_rfl) Lw06.run (by kernel_rfl) (by kernel_rfl) (by kernel_rfl) (by rfl) (by first | assumption | decide +kernel) (by decide +kernel) ⟨rfl, rfl, rfl, rfl, rfl, by decide +kernel⟩ ?hw ?hc
  case hw => w_witness2
  case hc =>
    refine L2.walk_ofE (l := Lw06.rw) (n := 63) (k := 5) (x := "script") (CX := L2.CX0) rfl (by decide) (by kernel_rfl) ⟨rfl, by decide, by decide⟩ ?F (fun _ _ _ _ z => z)
    intro w mg f h Y G hmg0
    obtain ⟨K, KX, c, cc⟩ := Y
    have hmg : mg ("law" : PySem.Str) = some (.ref f) := by
      have e : (HandSHeadRun.topDef Lw06.R.prog 28).name = ("law" : PySem.Str) := by kernel_rfl
      rw [← e]
      exact hmg0
    obtain ⟨fd, hb, hF⟩ := Lw06.facts (P := (Lw06.rw).prog) (w := w) KX G hmg c cc
    exact ⟨K, fd, _, KX, hb, fun H a ns hl _ hS => Lw06.sp_law (Lw06.plain ns hl) H a hS, fun base _ _ => hF base⟩

