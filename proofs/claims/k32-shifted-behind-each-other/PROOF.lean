import PyProof.Rows.All
import Wide.All
import OpenK.AllK
import Wide.FinOn
import HandS.ForMost
import HandS.Walk
import HandS.Style
import HandS.IsInst
import HandS.Deep
import HandS.TupAny
import HandS.Defaults
import HandS.Exc
import HandS.CallSlots
import KE.GoesMore
import HandS.Iter
import HandS.ExcInit
import HandS.Nested
import KE.KExcSuper
import HandS.RaiseMore
import KE.KExcIs
import HandS.ExcIs
import HandS.ExcField
import HandS.Codes
import HandS.Words
import HandS.Head0
import HandS.Head1
import HandS.Head2
import HandS.HeadEnd
import HandS.HeadHook1
import HandS.HeadHook2
import HandS.HeadHook4
import HandS.HeadNt
import KE.KStateDown
import HandS.Ends
import HandS.More
import HandS.WordsExc
import PySem.Challenge.RW_staleornot_k32_shifted_behind_each_other
set_option Elab.async false
set_option linter.all false
set_option maxRecDepth 100000
namespace Rc
open PySem

/-- the longest list, tuple, text -/
abbrev Lm : Nat := 16777216

/-- what an object that one slot alone knows holds -/
inductive Ob where
  | lst (xs : List PyData)
  | dct (kvs : List (PyData × PyData))
  | set (xs : List PyData)

/-- a slot: nothing, a value, an object of its own -/
inductive Sl where
  | un
  | v (d : PyData)
  | o (b : Ob)

/-- a result: a value, a new object, the object of a slot -/
inductive R where
  | v (d : PyData)
  | o (b : Ob)
  | s (i : Nat)

abbrev Env := List Sl

structure Xc where
  cls : Nat
  fs : List (Str × PyData)

inductive Out (α : Type) where
  | ok (a : α) (ρ : Env)
  | exc (x : Xc) (ρ : Env)
  | bad

def Out.bind {α β : Type} : Out α → (α → Env → Out β) → Out β
  | .ok a ρ, f => f a ρ
  | _, _ => .bad
/-- what a call raises goes on, where b says that a call stands there alone -/
def Out.xif {α : Type} (b : Bool) : Out α → Out α
  | .exc x ρ => match b with
    | true => .exc x ρ
    | false => .bad
  | o => o
/-! ### own exceptions: numbers of their classes -/
def xname : Nat → Str
  | 0 => "ValueError"
  | 1 => "StaleError"
  | 2 => "BadLine"
  | 3 => "TooMany"
  | 4 => "TooLong"
  | 5 => "Unfit"
  | 6 => "Overlap"
  | 7 => "NoDeed"
  | 8 => "Unknown"
  | 9 => "NoTrial"
  | _ => ""
def xfields : Nat → List Str
  | 2 => ["at", "why"]
  | 3 => ["limit"]
  | 4 => ["limit"]
  | 5 => ["part"]
  | 8 => ["name"]
  | _ => []
/-- an exception of the class c is one of the class d -/
def inh (c d : Nat) : Bool := Nat.beq c d || Nat.beq d 1 || Nat.beq d 0

/-- what a def's call comes to; outs: what the objects hold that it was lent -/
inductive FO where
  | v (d : PyData) (outs : List Ob)
  | o (b : Ob) (outs : List Ob)
  | exc (x : Xc) (outs : List Ob)
  | bad

inductive Bi where
  | len | int_ | abs | list_ | tuple_ | all_ | any_ | min2 | max2 | str_ | sum_ | ord_
  deriving DecidableEq
inductive Pm where
  | join | index
  deriving DecidableEq
inductive Mu where
  | append | pop | popAt | extend
  deriving DecidableEq

inductive Tg where
  | nm (i : Nat)
  | tp (is : List Nat)

mutual
inductive Ex where
  | var (i : Nat)
  | int (n : Int)
  | str (s : Str)
  | bl (b : Bool)
  | non
  | glob (g : Nat)
  | bin (op : Operator) (a b : Ex)
  | neg (a : Ex)
  | nott (a : Ex)
  | and (a b : Ex)
  | or (a b : Ex)
  | cmp (op : CmpOp) (a b : Ex)
  | cmp2 (op op' : CmpOp) (a b c : Ex)
  | ite (c : Ts) (a b : Ex)
  | tup (es : Exs)
  | lst (es : Exs)
  | sub (a i : Ex)
  | slc (a : Ex) (lo hi : Ex)
  | slcL (a lo : Ex)
  | slcH (a hi : Ex)
  | rev (a : Ex)
  | call (f : Nat) (es : Exs)
  | bi (b : Bi) (es : Exs)
  | isi (a : Ex) (t : String)
  | pm (m : Pm) (a : Ex) (es : Exs)
  | mu (m : Mu) (i : Nat) (es : Exs)
  | xis (i : Nat) (cs : List Nat)
  | xfl (i : Nat) (f : Str)
  | nope
  | comp (elt : Ex) (tg : Tg) (it : It) (ifs : Tss) (own : List Nat)
inductive Exs where
  | nil
  | cons (e : Ex) (es : Exs)
inductive Ts where
  | val (e : Ex)
  | nott (t : Ts)
  | and (a b : Ts)
  | or (a b : Ts)
inductive Tss where
  | nil
  | cons (t : Ts) (r : Tss)
inductive It where
  | seq (e : Ex)
  | ref (i : Nat)
  | rng1 (a : Ex)
  | rng2 (a b : Ex)
  | rng3 (a b c : Ex)
  | enumS (e : Ex)
  | enumR (i : Nat)
end

mutual
inductive St where
  | asg (tg : Tg) (e : Ex)
  | par (is : List Nat) (m : List Bool) (es : Exs)
  | put (i : Nat) (k e : Ex)
  | exp (e : Ex)
  | ife (c : Ts) (t f : Sts)
  | for_ (tg : Tg) (it : It) (b : Sts)
  | whl (c : Ts) (b : Sts)
  | ret (e : Ex)
  | retN
  | brk
  | cnt
  | pass
  | raise (c : Nat) (es : Exs)
  | tryE (b : Sts) (c i : Nat) (s : Sts)
  | nope
inductive Sts where
  | nil
  | cons (s : St) (r : Sts)
end

def Exs.len : Exs → Nat
  | .nil => 0
  | .cons _ r => r.len + 1

/-- a call that stands alone -/
def Ex.isCall : Ex → Bool
  | .call _ _ => true
  | _ => false
/-! ### the operations on data -/
/-- comparisons that stand still at a value unknown (the kernel would count a great literal down) -/
def within (b : Nat) (i : Int) : Bool := Nat.ble i.natAbs b
theorem within_iff {b : Nat} {i : Int} : within b i = true ↔ -(b : Int) ≤ i ∧ i ≤ b := by
  unfold within
  rw [Nat.ble_eq]
  omega
def leI : Int → Int → Bool
  | .ofNat a, .ofNat b => Nat.ble a b
  | .ofNat _, .negSucc _ => false
  | .negSucc _, .ofNat _ => true
  | .negSucc a, .negSucc b => Nat.ble b a
theorem leI_eq (i j : Int) : leI i j = decide (i ≤ j) := by
  rw [Bool.eq_iff_iff, decide_eq_true_iff]
  cases i <;> cases j <;> simp only [leI, Nat.ble_eq, Bool.false_eq_true, false_iff, true_iff, Int.ofNat_eq_natCast] <;> omega
def ltI (i j : Int) : Bool := !leI j i
theorem ltI_eq (i j : Int) : ltI i j = decide (i < j) := by
  unfold ltI
  rw [leI_eq, Bool.eq_iff_iff, Bool.not_eq_true', decide_eq_false_iff_not, decide_eq_true_iff]
  omega
def cmul (i j : Int) : Bool := within 18446744073709551615 j || within 18446744073709551615 i
def cpow (i j : Int) : Bool := leI 0 j && within 1000000 j && within 18446744073709551615 i

def binOp : Operator → PyData → PyData → Option R
  | .Add, .int i, .int j => some (.v (.int (i + j)))
  | .Add, .str x, .str y => if x.length + y.length ≤ Lm then some (.v (.str (x ++ y))) else none
  | .Add, .list x, .list y => if x.length + y.length ≤ Lm then some (.o (.lst (x ++ y))) else none
  | .Add, .tuple x, .tuple y => if x.length + y.length ≤ Lm then some (.v (.tuple (x ++ y))) else none
  | .Sub, .int i, .int j => some (.v (.int (i - j)))
  | .Mult, .int i, .int j => if cmul i j then some (.v (.int (i * j))) else none
  | .FloorDiv, .int i, .int j => if ltI 0 j && within 1073741823 j then some (.v (.int (i / j))) else none
  | .Mod, .int i, .int j => if ltI 0 j then some (.v (.int (i % j))) else none
  | .Pow, .int i, .int j => if cpow i j then some (.v (.int (i ^ j.toNat))) else none
  | .LShift, .int i, .int j => if cpow i j then some (.v (.int (i * 2 ^ j.toNat))) else none
  | _, _, _ => none

def isNone : PyData → Bool
  | .none => true
  | _ => false

def inStr (x y : Str) : Bool := match x.cps.toList with
  | [c] => decide (c ∈ y.cps.toList)
  | _ => !(Builtin.Str.occurrences y x 0 y.length 1).isEmpty

def eqD : PyData → PyData → Option Bool
  | .int i, .int j => some (decide (i = j))
  | .str i, .str j => some (decide (i = j))
  | .none, .none => some true
  | .bool i, .bool j => some (decide (i = j))
  | a, b => if SeqAt.shaped a && SeqAt.shaped b then some (PyData.eqv a b) else none
def inD (x : PyData) (ys : List PyData) : Option Bool := if SeqAt.shaped x && SeqAt.shaped (.list ys) then some (ys.any fun y => PyData.eqv y x) else none

def intsD : List PyData → Option (List Int)
  | [] => some []
  | .int b :: r => (intsD r).map (b :: ·)
  | _ :: _ => none
def lexI : List Int → List Int → Bool
  | [], [] => false
  | [], _ :: _ => true
  | _ :: _, [] => false
  | x :: xs, y :: ys => match decide (x = y) with
    | true => lexI xs ys
    | false => ltI x y
def ltL : Option (List Int) → Option (List Int) → Option Bool
  | some xs, some ys => some (lexI xs ys)
  | _, _ => none
def cmpOp : CmpOp → PyData → PyData → Option Bool
  | .Eq, a, b => eqD a b
  | .NotEq, a, b => (eqD a b).map (!·)
  | .Lt, .int i, .int j => some (ltI i j)
  | .Lt, .tuple xs, .tuple ys => ltL (intsD xs) (intsD ys)
  | .LtE, .int i, .int j => some (leI i j)
  | .Gt, .int i, .int j => some (ltI j i)
  | .GtE, .int i, .int j => some (leI j i)
  | .Is, a, .none => some (isNone a)
  | .IsNot, a, .none => some (!isNone a)
  | .In, .str x, .str y => some (inStr x y)
  | .NotIn, .str x, .str y => some (!inStr x y)
  | .In, x, .list ys => inD x ys
  | .NotIn, x, .list ys => (inD x ys).map (!·)
  | .In, x, .tuple ys => inD x ys
  | .NotIn, x, .tuple ys => (inD x ys).map (!·)
  | _, _, _ => none

def truth : PyData → Option Bool
  | .none => some false
  | .bool b => some b
  | .int i => some (i != 0)
  | .str x => if x.length ≤ Lm then some (x.length != 0) else none
  | .list xs => some (!xs.isEmpty)
  | .tuple xs => some (!xs.isEmpty)
  | .dict _ => none

def sign (c : Nat) : PyData := .str ⟨#[c]⟩
def signs (x : Str) : List PyData := x.cps.toList.map sign

def subOp : PyData → PyData → Option PyData
  | .list xs, .int i => L2.atI xs i
  | .tuple xs, .int i => L2.atI xs i
  | .str x, .int i => if x.length ≤ Lm then (L2.atI x.cps.toList i).map sign else none
  | _, _ => none

def cut {α : Type} (xs : List α) (lo hi : Option Int) : List α :=
  (xs.drop (HT.sIx xs.length 0 lo)).take (HT.sIx xs.length xs.length hi - HT.sIx xs.length 0 lo)
def slcOp (a : PyData) (lo hi : Option Int) : Option R := match a with
  | .list xs => some (.o (.lst (cut xs lo hi)))
  | .tuple xs => some (.v (.tuple (cut xs lo hi)))
  | .str x => if x.length ≤ Lm then some (.v (.str ⟨(cut x.cps.toList lo hi).toArray⟩)) else none
  | _ => none
def revOp : PyData → Option R
  | .list xs => some (.o (.lst xs.reverse))
  | _ => none

/-- the kind of a value -/
def tyOf : PyData → String
  | .none => "NoneType"
  | .bool _ => "bool"
  | .int _ => "int"
  | .str _ => "str"
  | .list _ => "list"
  | .tuple _ => "tuple"
  | .dict _ => "dict"
def isTy (a t : String) : Bool := a == t || (a == "bool" && t == "int")

def bools : List PyData → Option (List Bool)
  | [] => some []
  | .bool b :: r => (bools r).map (b :: ·)
  | _ :: _ => none
def strsD : List PyData → Option (List Str)
  | [] => some []
  | .str b :: r => (strsD r).map (b :: ·)
  | _ :: _ => none

def biOp : Bi → List PyData → Option R
  | .len, [.list xs] => some (.v (.int xs.length))
  | .len, [.tuple xs] => some (.v (.int xs.length))
  | .len, [.str x] => if x.length ≤ Lm then some (.v (.int x.length)) else none
  | .int_, [.int i] => some (.v (.int i))
  | .abs, [.int i] => some (.v (.int i.natAbs))
  | .list_, [.list xs] => some (.o (.lst xs))
  | .list_, [.tuple xs] => some (.o (.lst xs))
  | .list_, [.str x] => if x.length ≤ Lm then some (.o (.lst (signs x))) else none
  | .tuple_, [.list xs] => some (.v (.tuple xs))
  | .tuple_, [.tuple xs] => some (.v (.tuple xs))
  | .all_, [.list xs] => (bools xs).map fun bs => .v (.bool (bs.all id))
  | .any_, [.list xs] => (bools xs).map fun bs => .v (.bool (bs.any id))
  | .min2, [.int i, .int j] => some (.v (.int (if ltI j i then j else i)))
  | .max2, [.int i, .int j] => some (.v (.int (if ltI i j then j else i)))
  | .sum_, [.list xs] => (intsD xs).map fun ns => .v (.int ns.sum)
  | _, _ => none

/-- list and tuple apart from the texts -/
def kd : PyData → Nat
  | .list _ => 1
  | .str _ => 2
  | _ => 0
def strsOf : PyData → Option (List Str)
  | .list xs => strsD xs
  | .tuple xs => strsD xs
  | _ => none
def pmOp : Pm → PyData → List PyData → Option R
  | .join, .str x, [d] => match strsOf d with
    | some ys => if (ys.map (·.length)).sum + ys.length * x.length ≤ Lm then some (.v (.str (PySem.Txt.join x ys))) else none
    | none => none
  | .index, .str x, [.str y] => match Builtin.Str.occurrences x y 0 x.length 1 with
    | i :: _ => some (.v (.int i))
    | [] => none
  | _, _, _ => none

/-- a method that changes its list: what comes back, what the list holds then -/
def muOp : Mu → List PyData → List PyData → Option (PyData × List PyData)
  | .append, xs, [d] => if xs.length < Lm then some (.none, xs ++ [d]) else none
  | .pop, xs, [] => (xs[xs.length - 1]?).map fun d => (d, xs.dropLast)
  | .popAt, xs, [.int i] => if leI 0 i && within 9223372036854775807 i then (xs[i.toNat]?).map fun d => (d, xs.eraseIdx i.toNat) else none
  | _, _, _ => none

/-! ### slots -/
def view (ρ : Env) : R → Option PyData
  | .v d => some d
  | .o (.lst xs) => some (.list xs)
  | .o _ => none
  | .s i => match ρ[i]? with
    | some (.v d) => some d
    | some (.o (.lst xs)) => some (.list xs)
    | _ => none
/-- a new list is a value from now on -/
def frz1 : R → Option R
  | .o (.lst xs) => some (.v (.list xs))
  | .o _ => none
  | r => some r
/-- a result becomes a value: the list of a slot is shared from now on -/
def frz (r : R) (ρ : Env) : Out PyData := match r with
  | .v d => .ok d ρ
  | .o (.lst xs) => .ok (.list xs) ρ
  | .o _ => .bad
  | .s i => match ρ[i]? with
    | some (.v d) => .ok d ρ
    | some (.o (.lst xs)) => .ok (.list xs) (ρ.set i (.v (.list xs)))
    | _ => .bad
def optR (ρ : Env) : Option R → Out R
  | some r => .ok r ρ
  | none => .bad
def optV (ρ : Env) : Option PyData → Out R
  | some d => .ok (.v d) ρ
  | none => .bad
def optB (ρ : Env) : Option Bool → Out R
  | some b => .ok (.v (.bool b)) ρ
  | none => .bad
def views (ρ : Env) : List R → Option (List PyData)
  | [] => some []
  | r :: rs => match view ρ r, views ρ rs with
    | some d, some ds => some (d :: ds)
    | _, _ => none
def intOf : Option PyData → Option Int
  | some (.int i) => some i
  | _ => none

def setAll (ρ : Env) : List Nat → List PyData → Env
  | i :: is, d :: ds => setAll (ρ.set i (.v d)) is ds
  | _, _ => ρ
def setTg (tg : Tg) (d : PyData) (ρ : Env) : Option Env := match tg with
  | .nm i => some (ρ.set i (.v d))
  | .tp is => match d with
    | .tuple xs => if xs.length = is.length then some (setAll ρ is xs) else none
    | _ => none
def wipes (ρ : Env) : List Nat → Env
  | [] => ρ
  | i :: is => (wipes ρ is).set i .un
/-- the slots of a comprehension's own names: what stood there stands again, if it is a value -/
def unwipe (ρ₀ ρ : Env) : List Nat → Env
  | [] => ρ
  | i :: is => (unwipe ρ₀ ρ is).set i (match ρ₀[i]? with | some (.v d) => .v d | _ => .un)

/-- what is walked: items, or the list of a slot as it stands at each turn; with or without numbers -/
inductive Src where
  | items (xs : List PyData)
  | slot (i : Nat) (num : Bool)
def seqOf : PyData → Option (List PyData)
  | .list xs => some xs
  | .tuple xs => some xs
  | .str x => some (signs x)
  | _ => none
def numd : Nat → List PyData → List PyData
  | _, [] => []
  | k, x :: xs => .tuple [.int (k : Nat), x] :: numd (k + 1) xs
def rng (lo : Int) (n : Nat) (c : Int) : List PyData := (List.range n).map fun (k : Nat) => .int (lo + (k : Int) * c)
def rng1L (n : Int) : List PyData := (List.range n.toNat).map fun (k : Nat) => .int (k : Int)
def small62 (i : Int) : Bool := within 4611686018427387903 i
theorem small62_of {i : Int} (h : small62 i = true) : -(2 ^ 62) ≤ i ∧ i < 2 ^ 62 := by
  have h := within_iff.mp h
  omega

/-- .. a new list among operands is a value -/
def Out.opd (o : Out R) : Out R := o.bind fun r ρ => optR ρ (frz1 r)

/-! ### comprehensions -/
def compL (turn : PyData → Env → Out (Option PyData)) : List PyData → List PyData → Env → Out (List PyData)
  | [], acc, ρ => .ok acc ρ
  | x :: xs, acc, ρ => (turn x ρ).bind fun r ρ' => match r with
    | none => compL turn xs acc ρ'
    | some d => if acc.length < Lm then compL turn xs (acc ++ [d]) ρ' else .bad

/-! ### exceptions made -/
/-- what an exception can hold -/
def tbD : PyData → Bool
  | .int n => leI 0 n && within 999999999 n
  | .str s => Nat.ble s.length 1000
  | _ => false
def mkX (c : Nat) (ds : List PyData) : Option Xc := if Nat.beq ds.length (xfields c).length && ds.all tbD then some ⟨c, ((xfields c).zip ds).reverse⟩ else none
/-! ### calls -/
inductive CA where
  | v (d : PyData)
  | s (i : Nat)
  | o (b : Ob)
def lend (ρ : Env) : List CA → Option (List Sl)
  | [] => some []
  | .v d :: r => (lend ρ r).map (.v d :: ·)
  | .o b :: r => (lend ρ r).map (.o b :: ·)
  | .s i :: r => match ρ[i]? with
    | some (.o b) => (lend ρ r).map (.o b :: ·)
    | _ => none
/-- whose the lent objects are: a slot's, nobody's -/
def slots : List CA → List (Option Nat)
  | [] => []
  | .v _ :: r => slots r
  | .o _ :: r => none :: slots r
  | .s i :: r => some i :: slots r
def back (ρ : Env) : List (Option Nat) → List Ob → Env
  | some i :: is, b :: bs => back (ρ.set i (.o b)) is bs
  | none :: is, _ :: bs => back ρ is bs
  | _, _ => ρ
/-- values and new objects into slots -/
def setCA (ρ : Env) : List Nat → List CA → Option Env
  | [], [] => some ρ
  | i :: is, .v d :: cs => setCA (ρ.set i (.v d)) is cs
  | i :: is, .o b :: cs => setCA (ρ.set i (.o b)) is cs
  | _, _ => none
def callF (g : List Sl → FO) (cas : List CA) (ρ : Env) : Out R :=
  match lend ρ cas with
  | none => .bad
  | some as => if ((slots cas).filterMap id).Nodup then
      (match g as with
      | .v d outs => .ok (.v d) (back ρ (slots cas) outs)
      | .o b outs => .ok (.o b) (back ρ (slots cas) outs)
      | .exc x outs => .exc x (back ρ (slots cas) outs)
      | .bad => .bad)
    else .bad

/-- the module's constants, the defs, which of their arguments are lent -/
structure Wd where
  C : Nat → PyData
  Γ : Nat → List Sl → FO
  lm : Nat → List Bool
  xc : Option Xc := none

section
variable (W : Wd)
mutual
/-- the meaning of an expression -/
def ev : Ex → Env → Out R
  | .var i, ρ => match ρ[i]? with
    | some (.v d) => .ok (.v d) ρ
    | some (.o _) => .ok (.s i) ρ
    | _ => .bad
  | .int n, ρ => .ok (.v (.int n)) ρ
  | .str x, ρ => .ok (.v (.str x)) ρ
  | .bl b, ρ => .ok (.v (.bool b)) ρ
  | .non, ρ => .ok (.v .none) ρ
  | .glob g, ρ => .ok (.v (W.C g)) ρ
  | .bin op a b, ρ => (ev a ρ).opd.bind fun x ρ1 => (ev b ρ1).opd.bind fun y ρ2 => match view ρ2 x, view ρ2 y with
    | some d, some e => optR ρ2 (binOp op d e)
    | _, _ => .bad
  | .neg a, ρ => (ev a ρ).opd.bind fun x ρ1 => match view ρ1 x with
    | some (.int i) => .ok (.v (.int (-i))) ρ1
    | _ => .bad
  | .nott a, ρ => (ev a ρ).bind fun x ρ1 => match x with
    | .v (.bool b) => .ok (.v (.bool (!b))) ρ1
    | _ => .bad
  | .and a b, ρ => (ev a ρ).bind fun x ρ1 => match x with
    | .v (.bool true) => ev b ρ1
    | .v (.bool false) => .ok (.v (.bool false)) ρ1
    | _ => .bad
  | .or a b, ρ => (ev a ρ).bind fun x ρ1 => match x with
    | .v (.bool true) => .ok (.v (.bool true)) ρ1
    | .v (.bool false) => ev b ρ1
    | _ => .bad
  | .cmp op a b, ρ => (ev a ρ).opd.bind fun x ρ1 => (ev b ρ1).opd.bind fun y ρ2 => match view ρ2 x, view ρ2 y with
    | some d, some e => optB ρ2 (cmpOp op d e)
    | _, _ => .bad
  | .cmp2 op op' a b c, ρ => (ev a ρ).opd.bind fun x ρ1 => (ev b ρ1).opd.bind fun y ρ2 => match x, y with
    | .v d, .v e => (match cmpOp op d e with
      | some true => (ev c ρ2).opd.bind fun z ρ3 => (match z with
        | .v f => optB ρ3 (cmpOp op' e f)
        | _ => .bad)
      | some false => .ok (.v (.bool false)) ρ2
      | none => .bad)
    | _, _ => .bad
  | .ite c a b, ρ => (evT c ρ).bind fun t ρ1 => match t with
    | true => ev a ρ1
    | false => ev b ρ1
  | .tup es, ρ => (evs es ρ).bind fun ds ρ1 => .ok (.v (.tuple ds)) ρ1
  | .lst es, ρ => (evs es ρ).bind fun ds ρ1 => .ok (.o (.lst ds)) ρ1
  | .sub a i, ρ => (ev a ρ).opd.bind fun x ρ1 => (ev i ρ1).opd.bind fun y ρ2 => match view ρ2 x, view ρ2 y with
    | some d, some e => optV ρ2 (subOp d e)
    | _, _ => .bad
  | .slc a lo hi, ρ => (ev a ρ).opd.bind fun x ρ1 => (ev lo ρ1).opd.bind fun y ρ2 => (ev hi ρ2).opd.bind fun z ρ3 => match view ρ3 x, y, z with
    | some d, .v (.int i), .v (.int j) => optR ρ3 (slcOp d (some i) (some j))
    | _, _, _ => .bad
  | .slcL a lo, ρ => (ev a ρ).opd.bind fun x ρ1 => (ev lo ρ1).opd.bind fun y ρ2 => match view ρ2 x, y with
    | some d, .v (.int i) => optR ρ2 (slcOp d (some i) none)
    | _, _ => .bad
  | .slcH a hi, ρ => (ev a ρ).opd.bind fun x ρ1 => (ev hi ρ1).opd.bind fun y ρ2 => match view ρ2 x, y with
    | some d, .v (.int i) => optR ρ2 (slcOp d none (some i))
    | _, _ => .bad
  | .rev a, ρ => (ev a ρ).opd.bind fun x ρ1 => match view ρ1 x with
    | some d => optR ρ1 (revOp d)
    | _ => .bad
  | .call f es, ρ => (evC es (W.lm f) ρ).bind fun cas ρ1 => callF (W.Γ f) cas ρ1
  | .bi b es, ρ => (evR es ρ).bind fun rs ρ1 => match views ρ1 rs with
    | some ds => optR ρ1 (biOp b ds)
    | none => .bad
  | .isi a t, ρ => (ev a ρ).opd.bind fun x ρ1 => match view ρ1 x with
    | some d => .ok (.v (.bool (isTy (tyOf d) t))) ρ1
    | none => .bad
  | .pm m a es, ρ => (ev a ρ).opd.bind fun x ρ1 => match view ρ1 x with
    | some d0 => (evR es ρ1).bind fun rs ρ2 => (match view ρ2 x, views ρ2 rs with
      | some d, some ds => if kd d0 = kd d then optR ρ2 (pmOp m d ds) else .bad
      | _, _ => .bad)
    | none => .bad
  | .mu m i es, ρ => match ρ[i]? with
    | some (.o (.lst _)) => (evs es ρ).bind fun ds ρ1 => (match ρ1[i]? with
      | some (.o (.lst xs)) => (match muOp m xs ds with
        | some (d, ys) => .ok (.v d) (ρ1.set i (.o (.lst ys)))
        | none => .bad)
      | _ => .bad)
    | _ => .bad
  | .xis _ cs, ρ => match W.xc with
    | some x => .ok (.v (.bool (cs.any (inh x.cls)))) ρ
    | none => .bad
  | .xfl _ f, ρ => match W.xc with
    | some x => optV ρ (x.fs.lookup f)
    | none => .bad
  | .nope, _ => .bad
  | .comp elt tg it ifs own, ρ => (evI it ρ).bind fun src ρ1 => match src with
    | .items xs => (compL (fun x ρ2 => match setTg tg x ρ2 with
        | none => .bad
        | some ρ3 => (evF ifs ρ3).bind fun t ρ4 => match t with
          | false => .ok none (wipes ρ4 own)
          | true => (ev elt ρ4).bind fun r ρ5 => (frz r ρ5).bind fun d ρ6 => .ok (some d) (wipes ρ6 own)) xs [] (wipes ρ1 own)).bind
        fun ds ρ7 => .ok (.o (.lst ds)) (unwipe ρ1 ρ7 own)
    | .slot _ _ => .bad
/-- a test -/
def evT : Ts → Env → Out Bool
  | .nott a, ρ => (evT a ρ).bind fun b ρ1 => .ok (!b) ρ1
  | .and a b, ρ => (evT a ρ).bind fun t ρ1 => match t with
    | true => evT b ρ1
    | false => .ok false ρ1
  | .or a b, ρ => (evT a ρ).bind fun t ρ1 => match t with
    | true => .ok true ρ1
    | false => evT b ρ1
  | .val e, ρ => (ev e ρ).bind fun r ρ1 => match view ρ1 r with
    | some d => (match truth d with
      | some b => .ok b ρ1
      | none => .bad)
    | none => .bad
/-- values, from the left -/
def evs : Exs → Env → Out (List PyData)
  | .nil, ρ => .ok [] ρ
  | .cons e es, ρ => (ev e ρ).bind fun r ρ1 => (frz r ρ1).bind fun d ρ2 => (evs es ρ2).bind fun ds ρ3 => .ok (d :: ds) ρ3
/-- operands, from the left -/
def evR : Exs → Env → Out (List R)
  | .nil, ρ => .ok [] ρ
  | .cons e es, ρ => (ev e ρ).opd.bind fun r ρ1 => (evR es ρ1).bind fun rs ρ2 => .ok (r :: rs) ρ2
/-- the arguments of a call: values, objects lent -/
def evC : Exs → List Bool → Env → Out (List CA)
  | .nil, _, ρ => .ok [] ρ
  | .cons e es, m, ρ => (ev e ρ).bind fun r ρ1 => match m.headD false with
    | true => (match r with
      | .s i => (evC es m.tail ρ1).bind fun cs ρ2 => .ok (.s i :: cs) ρ2
      | .o b => (evC es m.tail ρ1).bind fun cs ρ2 => .ok (.o b :: cs) ρ2
      | .v d => (evC es m.tail ρ1).bind fun cs ρ2 => .ok (.v d :: cs) ρ2)
    | false => (frz r ρ1).bind fun d ρ2 => (evC es m.tail ρ2).bind fun cs ρ3 => .ok (.v d :: cs) ρ3
/-- all tests -/
def evF : Tss → Env → Out Bool
  | .nil, ρ => .ok true ρ
  | .cons e es, ρ => (evT e ρ).bind fun t ρ1 => match t with
    | true => evF es ρ1
    | false => .ok false ρ1
def evI : It → Env → Out Src
  | .seq e, ρ => (ev e ρ).bind fun r ρ1 => (frz r ρ1).bind fun d ρ2 => match seqOf d with
    | some xs => .ok (.items xs) ρ2
    | none => .bad
  | .ref i, ρ => .ok (.slot i false) ρ
  | .rng1 a, ρ => (ev a ρ).opd.bind fun x ρ1 => match x with
    | .v (.int n) => if small62 n then .ok (.items (rng1L n)) ρ1 else .bad
    | _ => .bad
  | .rng2 a b, ρ => (ev a ρ).opd.bind fun x ρ1 => (ev b ρ1).opd.bind fun y ρ2 => match x, y with
    | .v (.int i), .v (.int j) => if small62 i && small62 j then .ok (.items (rng i (j - i).toNat 1)) ρ2 else .bad
    | _, _ => .bad
  | .rng3 _ _ _, _ => .bad
  | .enumS e, ρ => (ev e ρ).bind fun r ρ1 => (frz r ρ1).bind fun d ρ2 => match d with
    | .list xs => .ok (.items (numd 0 xs)) ρ2
    | .tuple xs => .ok (.items (numd 0 xs)) ρ2
    | _ => .bad
  | .enumR i, ρ => .ok (.slot i true) ρ
end
end
example (W : Wd) (ρ : Env) : ev W (.bin .Add (.int 3) (.int 4)) ρ = .ok (.v (.int 7)) ρ := rfl

/-! ### statements -/
inductive SO where
  | nx (ρ : Env)
  | ret (r : R) (ρ : Env)
  | brk (ρ : Env)
  | cnt (ρ : Env)
  | exc (x : Xc) (ρ : Env)
  | bad
def SO.seq : SO → (Env → SO) → SO
  | .nx ρ, f => f ρ
  | o, _ => o
def Out.st {α : Type} : Out α → (α → Env → SO) → SO
  | .ok a ρ, f => f a ρ
  | .exc x ρ, _ => .exc x ρ
  | .bad, _ => .bad
/-- a loop's turn is over: on to the next one, or out -/
def SO.turn : SO → (Env → SO) → SO
  | .nx ρ, f => f ρ
  | .cnt ρ, f => f ρ
  | .brk ρ, _ => .nx ρ
  | o, _ => o
def forL (body : PyData → Env → SO) : List PyData → Env → SO
  | [], ρ => .nx ρ
  | x :: xs, ρ => (body x ρ).turn fun ρ' => forL body xs ρ'
def forR (i : Nat) (num : Bool) (body : PyData → Env → SO) : Nat → Nat → Env → SO
  | 0, _, _ => .bad
  | n + 1, k, ρ => match view ρ (.s i) with
    | some (.list xs) => (match xs[k]? with
      | none => .nx ρ
      | some x => (body (if num then .tuple [.int (k : Nat), x] else x) ρ).turn fun ρ' => forR i num body n (k + 1) ρ')
    | _ => .bad
def whlL (c : Env → Out Bool) (body : Env → SO) : Nat → Env → SO
  | 0, _ => .bad
  | n + 1, ρ => (c ρ).st fun t ρ1 => match t with
    | true => (body ρ1).turn fun ρ2 => whlL c body n ρ2
    | false => .nx ρ1
/-- the name of an except clause goes -/
def SO.gone (i : Nat) : SO → SO
  | .nx ρ => .nx (ρ.set i .un)
  | .ret (.v d) ρ => .ret (.v d) (ρ.set i .un)
  | .ret (.o b) ρ => .ret (.o b) (ρ.set i .un)
  | .ret (.s j) ρ => (match Nat.beq j i with
    | true => .bad
    | false => .ret (.s j) (ρ.set i .un))
  | .brk ρ => .brk (ρ.set i .un)
  | .cnt ρ => .cnt (ρ.set i .un)
  | _ => .bad
/-- a slot's new content -/
def store (i : Nat) (r : R) (ρ : Env) : SO := match r with
  | .v d => .nx (ρ.set i (.v d))
  | .o b => .nx (ρ.set i (.o b))
  | .s j => (frz (.s j) ρ).st fun d ρ1 => .nx (ρ1.set i (.v d))

section
variable (fuel : Nat)
mutual
def ex (W : Wd) : St → Env → SO
  | .asg (.nm i) e, ρ => ((ev W e ρ).xif e.isCall).st fun r ρ1 => store i r ρ1
  | .asg tg e, ρ => ((ev W e ρ).xif e.isCall).st fun r ρ1 => (frz r ρ1).st fun d ρ2 => match setTg tg d ρ2 with
    | some ρ3 => .nx ρ3
    | none => .bad
  | .par is m es, ρ => ((evC W es m ρ).xif false).st fun cas ρ1 => match setCA ρ1 is cas with
    | some ρ2 => .nx ρ2
    | none => .bad
  | .put _ _ _, _ => .bad
  | .exp e, ρ => ((ev W e ρ).xif e.isCall).st fun _ ρ1 => .nx ρ1
  | .ife c t f, ρ => ((evT W c ρ).xif false).st fun b ρ1 => match b with
    | true => exs W t ρ1
    | false => exs W f ρ1
  | .for_ tg it b, ρ => ((evI W it ρ).xif false).st fun src ρ1 => match src with
    | .items xs => forL (fun x ρ2 => match setTg tg x ρ2 with
      | some ρ3 => exs W b ρ3
      | none => .bad) xs ρ1
    | .slot i num => forR i num (fun x ρ2 => match setTg tg x ρ2 with
      | some ρ3 => exs W b ρ3
      | none => .bad) fuel 0 ρ1
  | .whl c b, ρ => whlL (fun ρ1 => (evT W c ρ1).xif false) (exs W b) fuel ρ
  | .ret e, ρ => ((ev W e ρ).xif e.isCall).st fun r ρ1 => .ret r ρ1
  | .retN, ρ => .ret (.v .none) ρ
  | .brk, ρ => .brk ρ
  | .cnt, ρ => .cnt ρ
  | .pass, ρ => .nx ρ
  | .raise c es, ρ => ((evs W es ρ).xif false).st fun ds ρ1 => match mkX c ds with
    | some x => .exc x ρ1
    | none => .bad
  | .tryE b c i s, ρ => match exs W b ρ with
    | .exc x ρ1 => (match inh x.cls c with
      | true => (match ρ1[i]? with
        | some _ => (exs { W with xc := some x } s (ρ1.set i .un)).gone i
        | none => .bad)
      | false => .exc x ρ1)
    | o => o
  | .nope, _ => .bad
def exs (W : Wd) : Sts → Env → SO
  | .nil, ρ => .nx ρ
  | .cons s r, ρ => (ex W s ρ).seq fun ρ1 => exs W r ρ1
end
end

/-! ### defs -/
structure Fn where
  mask : List Bool
  size : Nat
  body : Sts
def lent : List Bool → Env → Option (List Ob)
  | [], _ => some []
  | _ :: _, [] => none
  | true :: m, .o b :: ρ => (lent m ρ).map (b :: ·)
  | true :: _, _ :: _ => none
  | false :: m, _ :: ρ => lent m ρ
def isLent (m : List Bool) (i : Nat) : Bool := m.getD i false
def fin (m : List Bool) (r : R) (ρ : Env) : FO := match lent m ρ with
  | none => .bad
  | some outs => match r with
    | .v d => .v d outs
    | .o b => .o b outs
    | .s i => if isLent m i then .bad else match ρ[i]? with
      | some (.v d) => .v d outs
      | some (.o b) => .o b outs
      | _ => .bad
def SO.fo (m : List Bool) : SO → FO
  | .nx ρ => fin m (.v .none) ρ
  | .ret r ρ => fin m r ρ
  | .exc x ρ => (match lent m ρ with
    | some outs => .exc x outs
    | none => .bad)
  | _ => .bad
def isO : Sl → Bool
  | .o _ => true
  | _ => false
def runFn (fuel : Nat) (W : Wd) (F : Fn) (as : List Sl) : FO :=
  if as.map isO = F.mask then (exs fuel W F.body (as ++ List.replicate (F.size - as.length) .un)).fo F.mask else .bad
/-- the meaning of all defs of a program, calls k deep; a def's number is its own over all programs -/
def sem (C : Nat → PyData) (P : Nat → Option Fn) (fuel : Nat) : Nat → Nat → List Sl → FO
  | 0, _, _ => .bad
  | k + 1, f, as => match P f with
    | some F => runFn fuel ⟨C, sem C P fuel k, fun g => ((P g).getD ⟨[], 0, .nil⟩).mask, none⟩ F as
    | none => .bad
/-- the world k calls deep -/
def Wk (fuel : Nat) (P : Nat → Option Fn) (C : Nat → PyData) (k : Nat) : Wd := ⟨C, sem C P fuel k, fun g => ((P g).getD ⟨[], 0, .nil⟩).mask, none⟩
theorem sem_at {C : Nat → PyData} {P : Nat → Option Fn} {fuel k f : Nat} {F : Fn} {as : List Sl} (h : P f = some F) : sem C P fuel (k + 1) f as = runFn fuel (Wk fuel P C k) F as := by
  show (match P f with
    | some F => runFn fuel (Wk fuel P C k) F as
    | none => FO.bad) = _
  rw [h]
theorem Wk_Γ {C : Nat → PyData} {P : Nat → Option Fn} {fuel k f : Nat} {as : List Sl} : (Wk fuel P C k).Γ f as = sem C P fuel k f as := Eq.trans rfl rfl
theorem Wk_C {C : Nat → PyData} {P : Nat → Option Fn} {fuel k g : Nat} : (Wk fuel P C k).C g = C g := Eq.trans rfl rfl
theorem lmk {C : Nat → PyData} {P : Nat → Option Fn} {fuel k f : Nat} {F : Fn} {m : List Bool} (h : P f = some F) (hm : F.mask = m) : (Wk fuel P C k).lm f = m := by
  show ((P f).getD ⟨[], 0, .nil⟩).mask = m
  rw [h]
  exact hm
end Rc

set_option Elab.async false
set_option linter.all false
set_option maxRecDepth 100000
set_option maxHeartbeats 1000000
namespace Rc
open PySem PySem.Spec PyProof.Rows L2

/-! ### data in a part of the heap -/
theorem SqT.mono {K : PySem.W.Frag} {G H : Hp} {a : Addr} {xs : List V} (s : Same G H) (h : SqT K G a xs) : SqT K H a xs := by
  rcases h with (h | ⟨o, h⟩) | h
  · exact .inl (.inl (s _ _ h))
  · exact .inl (.inr ⟨o, s _ _ h⟩)
  · exact .inr h
theorem SqL.mono {K : PySem.W.Frag} {G H : Hp} {a : Addr} {xs : List V} (s : Same G H) (h : SqL K G a xs) : SqL K H a xs := by
  rcases h with (h | ⟨o, h⟩) | h
  · exact .inl (.inl (s _ _ h))
  · exact .inl (.inr ⟨o, s _ _ h⟩)
  · exact .inr h
theorem Rd.mono {G H : Hp} {a : Addr} {u : HO} (s : Same G H) (h : Rd G a u) : Rd H a u := by
  rcases h with h | ⟨o, h⟩
  · exact .inl (s _ _ h)
  · exact .inr ⟨o, s _ _ h⟩
mutual
/-- the value v is the datum d, by the objects of H -/
inductive Dq (K : PySem.W.Frag) (H : Hp) : V → PyData → Prop
  | non : Dq K H .non .none
  | bl (b : Bool) : Dq K H (.bl b) (.bool b)
  | int (i : Int) : Dq K H (.int i) (.int i)
  | str (x : Str) : Dq K H (.str x) (.str x)
  | lst {a : Addr} {xs : List V} {ds : List PyData} : SqL K H a xs → DqAll K H xs ds → Dq K H (.ref a) (.list ds)
  | tup {a : Addr} {xs : List V} {ds : List PyData} : SqT K H a xs → DqAll K H xs ds → Dq K H (.ref a) (.tuple ds)
inductive DqAll (K : PySem.W.Frag) (H : Hp) : List V → List PyData → Prop
  | nil : DqAll K H [] []
  | cons {v : V} {vs : List V} {d : PyData} {ds : List PyData} : Dq K H v d → DqAll K H vs ds → DqAll K H (v :: vs) (d :: ds)
end
mutual
theorem Dq.mono {K : PySem.W.Frag} {G H : Hp} (s : Same G H) : ∀ {v : V} {d : PyData}, Dq K G v d → Dq K H v d
  | _, _, .non => .non
  | _, _, .bl b => .bl b
  | _, _, .int i => .int i
  | _, _, .str x => .str x
  | _, _, .lst h1 h2 => .lst (SqL.mono s h1) (DqAll.mono s h2)
  | _, _, .tup h1 h2 => .tup (SqT.mono s h1) (DqAll.mono s h2)
theorem DqAll.mono {K : PySem.W.Frag} {G H : Hp} (s : Same G H) : ∀ {vs : List V} {ds : List PyData}, DqAll K G vs ds → DqAll K H vs ds
  | _, _, .nil => .nil
  | _, _, .cons h1 h2 => .cons (Dq.mono s h1) (DqAll.mono s h2)
end
mutual
theorem Dq.dp {K : PySem.W.Frag} {H : Hp} : ∀ {v : V} {d : PyData}, Dq K H v d → Dp K H v d
  | _, _, .non => .non
  | _, _, .bl b => .bl b
  | _, _, .int i => .int i
  | _, _, .str x => .str x
  | _, _, .lst h1 h2 => .lst h1 (DqAll.dp h2)
  | _, _, .tup h1 h2 => .tup h1 (DqAll.dp h2)
theorem DqAll.dp {K : PySem.W.Frag} {H : Hp} : ∀ {vs : List V} {ds : List PyData}, DqAll K H vs ds → DpAll K H vs ds
  | _, _, .nil => .nil
  | _, _, .cons h1 h2 => .cons (Dq.dp h1) (DqAll.dp h2)
end
section
variable {K : PySem.W.Frag} {G H : Hp}
theorem DqAll.length {vs : List V} {ds : List PyData} (h : DqAll K G vs ds) : vs.length = ds.length := by
  induction ds generalizing vs with
  | nil => cases h; rfl
  | cons d ds ih => cases h with | cons h1 h2 => simp [ih h2]
theorem DqAll.get {vs : List V} {ds : List PyData} (h : DqAll K G vs ds) {i : Nat} {d : PyData} (e : ds[i]? = some d) : ∃ v, vs[i]? = some v ∧ Dq K G v d := by
  induction ds generalizing vs i with
  | nil => simp at e
  | cons d' ds ih =>
    cases h with
    | cons h1 h2 =>
      cases i with
      | zero =>
        simp at e
        subst e
        exact ⟨_, by simp, h1⟩
      | succ i =>
        obtain ⟨v, q1, q2⟩ := ih h2 (by simpa using e)
        exact ⟨v, by simpa using q1, q2⟩
theorem DqAll.append {vs ws : List V} {ds es : List PyData} (h : DqAll K G vs ds) (h' : DqAll K G ws es) : DqAll K G (vs ++ ws) (ds ++ es) := by
  induction ds generalizing vs with
  | nil => cases h; exact h'
  | cons d ds ih => cases h with | cons h1 h2 => exact .cons h1 (ih h2)
theorem DqAll.drop {vs : List V} {ds : List PyData} (n : Nat) (h : DqAll K G vs ds) : DqAll K G (vs.drop n) (ds.drop n) := by
  induction n generalizing vs ds with
  | zero => exact h
  | succ n ih =>
    cases h with
    | nil => exact .nil
    | cons h1 h2 => exact ih h2
theorem DqAll.take {vs : List V} {ds : List PyData} (n : Nat) (h : DqAll K G vs ds) : DqAll K G (vs.take n) (ds.take n) := by
  induction n generalizing vs ds with
  | zero => exact .nil
  | succ n ih =>
    cases h with
    | nil => exact .nil
    | cons h1 h2 => exact .cons h1 (ih h2)
theorem DqAll.eraseIdx {vs : List V} {ds : List PyData} (n : Nat) (h : DqAll K G vs ds) : DqAll K G (vs.eraseIdx n) (ds.eraseIdx n) := by
  induction n generalizing vs ds with
  | zero =>
    cases h with
    | nil => exact .nil
    | cons h1 h2 => exact h2
  | succ n ih =>
    cases h with
    | nil => exact .nil
    | cons h1 h2 => exact .cons h1 (ih h2)
theorem DqAll.one {v : V} {d : PyData} (h : Dq K G v d) : DqAll K G [v] [d] := .cons h .nil
theorem DqAll.reverse {vs : List V} {ds : List PyData} (h : DqAll K G vs ds) : DqAll K G vs.reverse ds.reverse := by
  induction ds generalizing vs with
  | nil => cases h; exact .nil
  | cons d ds ih =>
    cases h with
    | cons h1 h2 =>
      rw [List.reverse_cons, List.reverse_cons]
      exact DqAll.append (ih h2) (DqAll.one h1)
theorem DqAll.dropLast {vs : List V} {ds : List PyData} (h : DqAll K G vs ds) : DqAll K G vs.dropLast ds.dropLast := by
  rw [List.dropLast_eq_take, List.dropLast_eq_take, h.length]
  exact h.take _
end

/-- what an own object holds -/
def OwnAt (K : PySem.W.Frag) (G H : Hp) (a : Addr) : Ob → Prop
  | .lst ds => ∃ vs, H a = some (.lst vs) ∧ DqAll K G vs ds
  | _ => False
theorem OwnAt.mono {K : PySem.W.Frag} {G G' H H' : Hp} {a : Addr} {b : Ob} (s : Same G G') (e : H' a = H a) (h : OwnAt K G H a b) : OwnAt K G' H' a b := by
  cases b with
  | lst ds =>
    obtain ⟨vs, h1, h2⟩ := h
    exact ⟨vs, e.trans h1, DqAll.mono s h2⟩
  | _ => exact h
theorem OwnAt.some {K : PySem.W.Frag} {G H : Hp} {a : Addr} {b : Ob} (h : OwnAt K G H a b) : ∃ o, H a = some o := by
  cases b with
  | lst ds =>
    obtain ⟨vs, h1, h2⟩ := h
    exact ⟨_, h1⟩
  | _ => exact h.elim

/-- what stands still for a def's run: slots that keep their addresses, objects that stay, what an exception is to meet -/
structure Pn where
  l : List (Nat × V)
  o : Hp
  xw : WX
/-- the slots lie in the heap: G the part that stays for ever, B what others know, P the slots that keep their addresses -/
structure Rel (K : PySem.W.Frag) (B : Hp) (P : Pn) (G H : Hp) (σ : L2.St) (ρ : Env) : Prop where
  sub : Same G H
  bys : ∀ b o, B b = some o → H b = some o ∧ G b = none
  pin : ∀ p ∈ P.l, σ[p.1]? = some (some p.2)
  len : ρ.length = σ.length
  val : ∀ (i : Nat) (d : PyData), ρ[i]? = some (.v d) → ∃ x, σ[i]? = some (some x) ∧ Dq K G x d
  own : ∀ (i : Nat) (b : Ob), ρ[i]? = some (.o b) → ∃ a, σ[i]? = some (some (.ref a)) ∧ G a = none ∧ B a = none ∧ OwnAt K G H a b
  sep : ∀ (i j : Nat) (a : Addr) (b c : Ob), ρ[i]? = some (.o b) → ρ[j]? = some (.o c) → σ[i]? = some (some (.ref a)) → σ[j]? = some (some (.ref a)) → i = j
  std : ∀ a o, P.o a = some o → B a = some o

def RRel (K : PySem.W.Frag) (B G H : Hp) (σ : L2.St) (ρ : Env) (r : R) (x : V) : Prop := match r with
  | .v d => Dq K G x d
  | .o b => ∃ a, x = .ref a ∧ G a = none ∧ B a = none ∧ OwnAt K G H a b ∧ ∀ (i : Nat) (c : Ob), ρ[i]? = some (.o c) → σ[i]? ≠ some (some (.ref a))
  | .s i => σ[i]? = some (some x)

/-- x shows d -/
def VRel (K : PySem.W.Frag) (G H : Hp) (x : V) (d : PyData) : Prop := Dq K G x d ∨ ∃ a vs ds, x = .ref a ∧ d = .list ds ∧ H a = some (.lst vs) ∧ DqAll K G vs ds
section
variable {K : PySem.W.Frag} {B : Hp} {P : Pn} {G H G' H' : Hp} {σ : L2.St} {ρ : Env}
theorem VRel.dq {x : V} {d : PyData} (s : Same G H) (h : VRel K G H x d) : Dq K H x d := by
  rcases h with h | ⟨a, vs, ds, rfl, rfl, h1, h2⟩
  · exact Dq.mono s h
  · exact .lst (.inl (.inl h1)) (DqAll.mono s h2)
theorem VRel.list {x : V} {ds : List PyData} (s : Same G H) (h : VRel K G H x (.list ds)) : ∃ a vs, x = .ref a ∧ SqL K H a vs ∧ DqAll K G vs ds := by
  rcases h with h | ⟨a, vs, ds', rfl, e, h1, h2⟩
  · cases h with
    | lst h1 h2 => exact ⟨_, _, rfl, SqL.mono s h1, h2⟩
  · cases e
    exact ⟨a, vs, rfl, .inl (.inl h1), h2⟩
theorem VRel.tup {x : V} {ds : List PyData} (s : Same G H) (h : VRel K G H x (.tuple ds)) : ∃ a vs, x = .ref a ∧ SqT K H a vs ∧ DqAll K G vs ds := by
  rcases h with h | ⟨a, vs, ds', rfl, e, h1, h2⟩
  · cases h with
    | tup h1 h2 => exact ⟨_, _, rfl, SqT.mono s h1, h2⟩
  · cases e
theorem VRel.tupG {x : V} {ds : List PyData} (h : VRel K G H x (.tuple ds)) : Dq K G x (.tuple ds) := by
  rcases h with h | ⟨a, vs, ds', rfl, e, h1, h2⟩
  · exact h
  · cases e
theorem VRel.int {x : V} {i : Int} (h : VRel K G H x (.int i)) : x = .int i := by
  rcases h with h | ⟨a, vs, ds', rfl, e, h1, h2⟩
  · cases h; rfl
  · cases e
theorem VRel.str {x : V} {i : Str} (h : VRel K G H x (.str i)) : x = .str i := by
  rcases h with h | ⟨a, vs, ds', rfl, e, h1, h2⟩
  · cases h; rfl
  · cases e
theorem VRel.bl {x : V} {i : Bool} (h : VRel K G H x (.bool i)) : x = .bl i := by
  rcases h with h | ⟨a, vs, ds', rfl, e, h1, h2⟩
  · cases h; rfl
  · cases e
theorem VRel.non {x : V} (h : VRel K G H x .none) : x = .non := by
  rcases h with h | ⟨a, vs, ds', rfl, e, h1, h2⟩
  · cases h; rfl
  · cases e
theorem Rel.view (rel : Rel K B P G H σ ρ) {r : R} {x : V} {d : PyData} (h : RRel K B G H σ ρ r x) (e : view ρ r = some d) : VRel K G H x d := by
  cases r with
  | v d' => cases e; exact .inl h
  | o b =>
    cases b with
    | lst xs =>
      cases e
      obtain ⟨a, rfl, _, _, ⟨vs, h1, h2⟩, _⟩ := h
      exact .inr ⟨a, vs, xs, rfl, rfl, h1, h2⟩
    | _ => cases e
  | s i =>
    have e' : (match ρ[i]? with
      | some (.v d) => some d
      | some (.o (.lst xs)) => some (.list xs)
      | _ => none) = some d := e
    have h' : σ[i]? = some (some x) := h
    split at e'
    · rename_i d' q
      cases e'
      obtain ⟨y, y1, y2⟩ := rel.val i _ q
      rw [h'] at y1
      cases y1
      exact .inl y2
    · rename_i xs q
      cases e'
      obtain ⟨a, y1, y2, _, vs, y3, y4⟩ := rel.own i _ q
      rw [h'] at y1
      cases y1
      exact .inr ⟨a, vs, xs, rfl, rfl, y3, y4⟩
    · cases e'
/-- the part that stays grows by a new thing -/
theorem Rel.grow {p : Addr} {o : HO} (rel : Rel K B P G H σ ρ) (hp : H p = none) : Same G (upd G p o) ∧ Rel K B P (upd G p o) (upd H p o) σ ρ := by
  have gp : G p = none := Same.free rel.sub hp
  have sg : Same G (upd G p o) := fun b u e => by
    rw [upd_ne (ne_of_none e gp)]
    exact e
  refine ⟨sg, ⟨fun b u e => ?_, fun b u e => ?_, rel.pin, rel.len, fun i d e => ?_, fun i b e => ?_, rel.sep, rel.std⟩⟩
  · by_cases hb : b = p
    · subst hb
      rw [upd_same] at e ⊢
      exact e
    · rw [upd_ne hb] at e ⊢
      exact rel.sub _ _ e
  · obtain ⟨h1, h2⟩ := rel.bys b u e
    have hb : b ≠ p := ne_of_none h1 hp
    rw [upd_ne hb, upd_ne hb]
    exact ⟨h1, h2⟩
  · obtain ⟨x, h1, h2⟩ := rel.val i d e
    exact ⟨x, h1, Dq.mono sg h2⟩
  · obtain ⟨a, h1, h2, h3, h4⟩ := rel.own i b e
    obtain ⟨u, hu⟩ := h4.some
    have ha : a ≠ p := ne_of_none hu hp
    exact ⟨a, h1, (upd_ne ha).trans h2, h3, h4.mono sg (upd_ne ha)⟩
/-- a new object is there that nobody knows yet -/
theorem Rel.fresh {p : Addr} {o : HO} (rel : Rel K B P G H σ ρ) (hp : H p = none) : Rel K B P G (upd H p o) σ ρ := by
  have gp : G p = none := Same.free rel.sub hp
  refine ⟨fun b u e => ?_, fun b u e => ?_, rel.pin, rel.len, rel.val, fun i b e => ?_, rel.sep, rel.std⟩
  · rw [upd_ne (ne_of_none e gp)]
    exact rel.sub _ _ e
  · obtain ⟨h1, h2⟩ := rel.bys b u e
    rw [upd_ne (ne_of_none h1 hp)]
    exact ⟨h1, h2⟩
  · obtain ⟨a, h1, h2, h3, h4⟩ := rel.own i b e
    obtain ⟨u, hu⟩ := h4.some
    exact ⟨a, h1, h2, h3, h4.mono (Same.refl _) (upd_ne (ne_of_none hu hp))⟩
theorem Rel.bnone {p : Addr} (rel : Rel K B P G H σ ρ) (hp : H p = none) : B p = none := by
  cases e : B p with
  | none => rfl
  | some o =>
    rw [(rel.bys p o e).1] at hp
    cases hp
theorem Rel.pnone {p : Addr} (rel : Rel K B P G H σ ρ) (hp : B p = none) : P.o p = none := by
  cases e : P.o p with
  | none => rfl
  | some o =>
    rw [rel.std p o e] at hp
    cases hp
/-- an own object becomes a value -/
theorem Rel.freeze {a : Addr} {vs : List V} (rel : Rel K B P G H σ ρ) (ga : G a = none) (ba : B a = none) (ha : H a = some (.lst vs)) (no : ∀ (i : Nat) (c : Ob), ρ[i]? = some (.o c) → σ[i]? ≠ some (some (.ref a))) :
    Same G (upd G a (.lst vs)) ∧ Rel K B P (upd G a (.lst vs)) H σ ρ := by
  have sg : Same G (upd G a (.lst vs)) := fun b u e => by
    rw [upd_ne (ne_of_none e ga)]
    exact e
  refine ⟨sg, ⟨fun b u e => ?_, fun b u e => ?_, rel.pin, rel.len, fun i d e => ?_, fun i b e => ?_, rel.sep, rel.std⟩⟩
  · by_cases hb : b = a
    · subst hb
      rw [upd_same] at e
      cases e
      exact ha
    · rw [upd_ne hb] at e
      exact rel.sub _ _ e
  · obtain ⟨h1, h2⟩ := rel.bys b u e
    have hb : b ≠ a := by
      rintro rfl
      rw [e] at ba
      cases ba
    rw [upd_ne hb]
    exact ⟨h1, h2⟩
  · obtain ⟨x, h1, h2⟩ := rel.val i d e
    exact ⟨x, h1, Dq.mono sg h2⟩
  · obtain ⟨c, h1, h2, h3, h4⟩ := rel.own i b e
    have hc : c ≠ a := by
      rintro rfl
      exact no i b e h1
    exact ⟨c, h1, (upd_ne hc).trans h2, h3, h4.mono sg rfl⟩
theorem getElem_set_sl {ρ : Env} {i j : Nat} {s t : Sl} (h : (ρ.set i s)[j]? = some t) : (i = j ∧ i < ρ.length ∧ t = s) ∨ (i ≠ j ∧ ρ[j]? = some t) := by
  by_cases e : i = j
  · subst e
    by_cases hl : i < ρ.length
    · rw [List.getElem?_set_self hl] at h
      cases h
      exact .inl ⟨rfl, hl, rfl⟩
    · rw [List.getElem?_eq_none (by simpa using hl)] at h
      cases h
  · rw [List.getElem?_set_ne e] at h
    exact .inr ⟨e, h⟩
/-- a slot's own list is a value from now on -/
theorem Rel.frzSlot {i : Nat} {ds : List PyData} {x : V} (rel : Rel K B P G H σ ρ) (e : ρ[i]? = some (.o (.lst ds))) (hx : σ[i]? = some (some x)) :
    ∃ G', Same G G' ∧ Rel K B P G' H σ (ρ.set i (.v (.list ds))) ∧ Dq K G' x (.list ds) := by
  obtain ⟨a, h1, h2, h3, vs, h4, h5⟩ := rel.own i _ e
  rw [hx] at h1
  cases h1
  have rel' : Rel K B P G H σ (ρ.set i .un) := by
    refine ⟨rel.sub, rel.bys, rel.pin, by rw [List.length_set]; exact rel.len, fun j d q => ?_, fun j b q => ?_, fun j k c b b' q q' r r' => ?_, rel.std⟩
    · rcases getElem_set_sl q with ⟨_, _, z⟩ | ⟨_, q⟩
      · cases z
      · exact rel.val j d q
    · rcases getElem_set_sl q with ⟨_, _, z⟩ | ⟨_, q⟩
      · cases z
      · exact rel.own j b q
    · rcases getElem_set_sl q with ⟨_, _, z⟩ | ⟨_, q⟩
      · cases z
      · rcases getElem_set_sl q' with ⟨_, _, z⟩ | ⟨_, q'⟩
        · cases z
        · exact rel.sep j k c b b' q q' r r'
  obtain ⟨sg, rl⟩ := rel'.freeze h2 h3 h4 fun j c q r => by
    rcases getElem_set_sl q with ⟨_, _, z⟩ | ⟨ne, q⟩
    · cases z
    · exact ne (rel.sep i j a _ _ e q hx r)
  have dp : Dq K (upd G a (.lst vs)) (.ref a) (.list ds) := .lst (.inl (.inl upd_same)) (DqAll.mono sg h5)
  refine ⟨_, sg, ⟨rl.sub, rl.bys, rl.pin, by rw [List.length_set]; exact rel.len, fun j d q => ?_, fun j b q => ?_, fun j k c b b' q q' r r' => ?_, rel.std⟩, dp⟩
  · rcases getElem_set_sl q with ⟨rfl, _, z⟩ | ⟨ne, q⟩
    · cases z
      exact ⟨_, hx, dp⟩
    · exact rl.val j d (by rw [List.getElem?_set_ne ne]; exact q)
  · rcases getElem_set_sl q with ⟨_, _, z⟩ | ⟨ne, q⟩
    · cases z
    · exact rl.own j b (by rw [List.getElem?_set_ne ne]; exact q)
  · rcases getElem_set_sl q with ⟨_, _, z⟩ | ⟨_, q⟩
    · cases z
    · rcases getElem_set_sl q' with ⟨_, _, z⟩ | ⟨_, q'⟩
      · cases z
      · exact rel.sep j k c b b' q q' r r'
theorem RRel.mono {r : R} {x : V} (sg : Same G G') (h : RRel K B G H σ ρ r x) (no : ∀ b, r ≠ .o b) {ρ' : Env} {H'' : Hp} : RRel K B G' H'' σ ρ' r x := by
  cases r with
  | v d => exact Dq.mono sg h
  | o b => exact absurd rfl (no b)
  | s i => exact h
/-- a result becomes a value -/
theorem Rel.frz {r : R} {x : V} {d : PyData} {ρ' : Env} (rel : Rel K B P G H σ ρ) (h : RRel K B G H σ ρ r x) (e : frz r ρ = .ok d ρ') : ∃ G', Same G G' ∧ Rel K B P G' H σ ρ' ∧ Dq K G' x d := by
  cases r with
  | v d' =>
    cases e
    exact ⟨G, Same.refl _, rel, h⟩
  | o b =>
    cases b with
    | lst xs =>
      cases e
      obtain ⟨a, rfl, h1, h2, ⟨vs, h3, h4⟩, h5⟩ := h
      obtain ⟨sg, rl⟩ := rel.freeze h1 h2 h3 h5
      exact ⟨_, sg, rl, .lst (.inl (.inl upd_same)) (DqAll.mono sg h4)⟩
    | _ => cases e
  | s i =>
    have h' : σ[i]? = some (some x) := h
    have e' : (match ρ[i]? with
      | some (.v d) => Out.ok d ρ
      | some (.o (.lst xs)) => .ok (.list xs) (ρ.set i (.v (.list xs)))
      | _ => .bad) = .ok d ρ' := e
    split at e'
    · rename_i d' q
      cases e'
      obtain ⟨y, y1, y2⟩ := rel.val i _ q
      rw [h'] at y1
      cases y1
      exact ⟨G, Same.refl _, rel, y2⟩
    · rename_i xs q
      cases e'
      exact rel.frzSlot q h'
    · cases e'
theorem Rel.frz1 {r r' : R} {x : V} (rel : Rel K B P G H σ ρ) (h : RRel K B G H σ ρ r x) (e : Rc.frz1 r = some r') : ∃ G', Same G G' ∧ Rel K B P G' H σ ρ ∧ RRel K B G' H σ ρ r' x ∧ ∀ b, r' ≠ .o b := by
  cases r with
  | v d' =>
    cases e
    exact ⟨G, Same.refl _, rel, h, fun b z => by cases z⟩
  | o b =>
    cases b with
    | lst xs =>
      cases e
      obtain ⟨a, rfl, h1, h2, ⟨vs, h3, h4⟩, h5⟩ := h
      obtain ⟨sg, rl⟩ := rel.freeze h1 h2 h3 h5
      exact ⟨_, sg, rl, .lst (.inl (.inl upd_same)) (DqAll.mono sg h4), fun b z => by cases z⟩
    | _ => cases e
  | s i =>
    cases e
    exact ⟨G, Same.refl _, rel, h, fun b z => by cases z⟩
/-- a slot is stored -/
theorem Rel.setV {i : Nat} {d : PyData} {x : V} (rel : Rel K B P G H σ ρ) (hd : Dq K G x d) (np : ∀ p ∈ P.l, p.1 ≠ i) : Rel K B P G H (σ.set i (some x)) (ρ.set i (.v d)) := by
  have low : ∀ {j : Nat} {y}, i ≠ j → σ[j]? = some (some y) → (σ.set i (some x))[j]? = some (some y) := fun ne q => by
    rw [List.getElem?_set_ne ne]
    exact q
  refine ⟨rel.sub, rel.bys, fun p hp => low (Ne.symm (np p hp)) (rel.pin p hp), by rw [List.length_set, List.length_set]; exact rel.len, fun j e q => ?_, fun j b q => ?_, fun j k c b b' q q' r r' => ?_, rel.std⟩
  · rcases getElem_set_sl q with ⟨rfl, hl, z⟩ | ⟨ne, q⟩
    · cases z
      exact ⟨x, List.getElem?_set_self (by rw [← rel.len]; exact hl), hd⟩
    · obtain ⟨y, y1, y2⟩ := rel.val j e q
      exact ⟨y, low ne y1, y2⟩
  · rcases getElem_set_sl q with ⟨_, _, z⟩ | ⟨ne, q⟩
    · cases z
    · obtain ⟨a, y1, y2⟩ := rel.own j b q
      exact ⟨a, low ne y1, y2⟩
  · rcases getElem_set_sl q with ⟨_, _, z⟩ | ⟨ne, q⟩
    · cases z
    · rcases getElem_set_sl q' with ⟨_, _, z⟩ | ⟨ne', q'⟩
      · cases z
      · rw [List.getElem?_set_ne ne] at r
        rw [List.getElem?_set_ne ne'] at r'
        exact rel.sep j k c b b' q q' r r'
theorem Rel.setO {i : Nat} {b : Ob} {x : V} (rel : Rel K B P G H σ ρ) (ho : RRel K B G H σ ρ (.o b) x) (np : ∀ p ∈ P.l, p.1 ≠ i) : Rel K B P G H (σ.set i (some x)) (ρ.set i (.o b)) := by
  obtain ⟨a, rfl, h1, h2, h3, h4⟩ := ho
  have low : ∀ {j : Nat} {y}, i ≠ j → σ[j]? = some (some y) → (σ.set i (some (.ref a)))[j]? = some (some y) := fun ne q => by
    rw [List.getElem?_set_ne ne]
    exact q
  refine ⟨rel.sub, rel.bys, fun p hp => low (Ne.symm (np p hp)) (rel.pin p hp), by rw [List.length_set, List.length_set]; exact rel.len, fun j e q => ?_, fun j c q => ?_, fun j k c b1 b2 q q' r r' => ?_, rel.std⟩
  · rcases getElem_set_sl q with ⟨rfl, hl, z⟩ | ⟨ne, q⟩
    · cases z
    · obtain ⟨y, y1, y2⟩ := rel.val j e q
      exact ⟨y, low ne y1, y2⟩
  · rcases getElem_set_sl q with ⟨rfl, hl, z⟩ | ⟨ne, q⟩
    · cases z
      exact ⟨a, List.getElem?_set_self (by rw [← rel.len]; exact hl), h1, h2, h3⟩
    · obtain ⟨a', y1, y2⟩ := rel.own j c q
      exact ⟨a', low ne y1, y2⟩
  · rcases getElem_set_sl q with ⟨rfl, hl, z⟩ | ⟨ne, q⟩
    · rcases getElem_set_sl q' with ⟨e, _, z'⟩ | ⟨ne', q'⟩
      · exact e
      · rw [List.getElem?_set_ne ne'] at r'
        rw [List.getElem?_set_self (by rw [← rel.len]; exact hl)] at r
        cases r
        exact absurd r' (h4 k _ q')
    · rcases getElem_set_sl q' with ⟨rfl, hl, z⟩ | ⟨ne', q'⟩
      · rw [List.getElem?_set_ne ne] at r
        rw [List.getElem?_set_self (by rw [← rel.len]; exact hl)] at r'
        cases r'
        exact absurd r (h4 j _ q)
      · rw [List.getElem?_set_ne ne] at r
        rw [List.getElem?_set_ne ne'] at r'
        exact rel.sep j k c b1 b2 q q' r r'
/-- the own list of a slot changes -/
theorem Rel.put {i : Nat} {b : Ob} {ds : List PyData} {vs : List V} {a : Addr} (rel : Rel K B P G H σ ρ) (e : ρ[i]? = some (.o b)) (ha : σ[i]? = some (some (.ref a))) (hd : DqAll K G vs ds) :
    Rel K B P G (upd H a (.lst vs)) σ (ρ.set i (.o (.lst ds))) := by
  obtain ⟨a', h1, h2, h3, h4⟩ := rel.own i b e
  rw [ha] at h1
  cases h1
  have hi : i < ρ.length := (List.getElem?_eq_some_iff.mp e).1
  refine ⟨fun c u q => ?_, fun c u q => ?_, rel.pin, by rw [List.length_set]; exact rel.len, fun j d q => ?_, fun j c q => ?_, fun j k c b1 b2 q q' r r' => ?_, rel.std⟩
  · rw [upd_ne (ne_of_none q h2)]
    exact rel.sub _ _ q
  · obtain ⟨y1, y2⟩ := rel.bys c u q
    rw [upd_ne (ne_of_none q h3)]
    exact ⟨y1, y2⟩
  · rcases getElem_set_sl q with ⟨_, _, z⟩ | ⟨ne, q⟩
    · cases z
    · exact rel.val j d q
  · rcases getElem_set_sl q with ⟨rfl, hl, z⟩ | ⟨ne, q⟩
    · cases z
      exact ⟨a, ha, h2, h3, vs, upd_same, hd⟩
    · obtain ⟨c', y1, y2, y3, y4⟩ := rel.own j c q
      have hc : c' ≠ a := by
        rintro rfl
        exact ne (rel.sep i j c' b c e q ha y1)
      exact ⟨c', y1, y2, y3, y4.mono (Same.refl _) (upd_ne hc)⟩
  · have back : ∀ {j : Nat} {b1 : Ob}, (ρ.set i (.o (.lst ds)))[j]? = some (.o b1) → ∃ b1', ρ[j]? = some (.o b1') := fun q => by
      rcases getElem_set_sl q with ⟨rfl, _, _⟩ | ⟨_, q⟩
      · exact ⟨b, e⟩
      · exact ⟨_, q⟩
    obtain ⟨_, z1⟩ := back q
    obtain ⟨_, z2⟩ := back q'
    exact rel.sep j k c _ _ z1 z2 r r'
end

/-! ### wishes -/
/-- what comes out is as wished -/
def Post {α : Type} (o : Out α) (ok : α → Env → Prop) : Prop := match o with
  | .ok a ρ => ok a ρ
  | _ => False
theorem Post.out_ {α : Type} {o : Out α} {ok : α → Env → Prop} (h : Post o ok) : ∃ a ρ, o = .ok a ρ ∧ ok a ρ := by
  cases o with
  | ok a ρ => exact ⟨a, ρ, rfl, h⟩
  | _ => exact h.elim
theorem Post.bind {α β : Type} {o : Out α} {f : α → Env → Out β} {ok : β → Env → Prop} (h : Post (o.bind f) ok) : ∃ a ρ, o = .ok a ρ ∧ Post (f a ρ) ok := by
  cases o with
  | ok a ρ => exact ⟨a, ρ, rfl, h⟩
  | exc x ρ => exact h.elim
  | bad => exact h.elim
/-- the fixed part of a def's run -/
structure Fx where
  B : Hp
  P : Pn
abbrev Fx.rel (F : Fx) (K : PySem.W.Frag) := Rel K F.B F.P
abbrev Fx.rr (F : Fx) (K : PySem.W.Frag) := RRel K F.B
section
variable (K : PySem.W.Frag) (F : Fx)
def EndE (G : Hp) (σ : L2.St) (Q : VK) : R → Env → Prop := fun r ρ' => ∀ G' H' x, Same G G' → F.rel K G' H' σ ρ' → F.rr K G' H' σ ρ' r x → Q x H'
def tE (m : Env → Out R) : TE := fun σ H Q => ∃ G ρ, F.rel K G H σ ρ ∧ Post (m ρ) (EndE K F G σ Q)
def EndA {α : Type} (Z : Hp → Hp → L2.St → Env → α → List V → Prop) (G : Hp) (σ : L2.St) (Q : List V → Hp → Prop) : α → Env → Prop := fun r ρ' => ∀ G' H' x, Same G G' → F.rel K G' H' σ ρ' → Z G' H' σ ρ' r x → Q x H'
def tA {α : Type} (Z : Hp → Hp → L2.St → Env → α → List V → Prop) (m : Env → Out α) : TA := fun σ H Q => ∃ G ρ, F.rel K G H σ ρ ∧ Post (m ρ) (EndA K F Z G σ Q)
def EndT (G : Hp) (σ : L2.St) (Q : Bool → Hp → Prop) : Bool → Env → Prop := fun b ρ' => ∀ G' H', Same G G' → F.rel K G' H' σ ρ' → Q b H'
def tT (m : Env → Out Bool) : TT := fun σ H Q => ∃ G ρ, F.rel K G H σ ρ ∧ Post (m ρ) (EndT K F G σ Q)
end
section
variable {K : PySem.W.Frag} {F : Fx} {G H : Hp} {σ : L2.St} {ρ : Env} {Q : VK}
theorem tE_in {m : Env → Out R} {r : R} {ρ' : Env} (rel : F.rel K G H σ ρ) (e : m ρ = .ok r ρ') (k : ∀ G' H' x, Same G G' → F.rel K G' H' σ ρ' → F.rr K G' H' σ ρ' r x → Q x H') : tE K F m σ H Q :=
  ⟨G, ρ, rel, by rw [e]; exact k⟩
/-- .. of an operand: it is no new list -/
theorem tE_opd {m : Env → Out R} {r : R} {ρ' : Env} (rel : F.rel K G H σ ρ) (e : (m ρ).opd = .ok r ρ') (k : ∀ G' H' x, Same G G' → F.rel K G' H' σ ρ' → F.rr K G' H' σ ρ' r x → (∀ b, r ≠ .o b) → Q x H') : tE K F m σ H Q := by
  unfold Out.opd at e
  cases q : m ρ with
  | ok r1 ρ1 =>
    rw [q] at e
    have e' : optR ρ1 (frz1 r1) = .ok r ρ' := e
    cases q2 : frz1 r1 with
    | none =>
      rw [q2] at e'
      cases e'
    | some r2 =>
      rw [q2] at e'
      cases e'
      refine tE_in rel q fun G' H' x s rel' rr => ?_
      obtain ⟨G2, s2, rl, rr2, no⟩ := rel'.frz1 rr q2
      exact k G2 H' x (Same.trans s s2) rl rr2 no
  | exc x ρ1 => rw [q] at e; cases e
  | bad => rw [q] at e; cases e
/-- .. of a value -/
theorem tE_frz {m : Env → Out R} {r : R} {ρ1 : Env} {d : PyData} {ρ' : Env} (rel : F.rel K G H σ ρ) (e : m ρ = .ok r ρ1) (e2 : frz r ρ1 = .ok d ρ') (k : ∀ G' H' x, Same G G' → F.rel K G' H' σ ρ' → Dq K G' x d → Q x H') : tE K F m σ H Q :=
  tE_in rel e fun G' H' x s rel' rr => by
    obtain ⟨G2, s2, rl, dp⟩ := rel'.frz rr e2
    exact k G2 H' x (Same.trans s s2) rl dp
end
section
variable {X : Cx}
/-- the rule is chosen when the wish is known -/
theorem pe_of {e : Expr} {t : TE} (h : ∀ σ H Q, t σ H Q → ∃ t', PE X e t' ∧ t' σ H Q) : PE X e t := ⟨fun pins s σ H Q I q => by
  obtain ⟨t', p, q'⟩ := h σ H Q q
  exact p.run pins s σ H Q I q'⟩
theorem pt_of {e : Expr} {t : TT} (h : ∀ σ H Q, t σ H Q → ∃ t', PT X e t' ∧ t' σ H Q) : PT X e t := ⟨fun pins s σ H Q I q => by
  obtain ⟨t', p, q'⟩ := h σ H Q q
  exact p.run pins s σ H Q I q'⟩
theorem pa_of {es : List Expr} {t : TA} (h : ∀ σ H Q, t σ H Q → ∃ t', PA X es t' ∧ t' σ H Q) : PA X es t := ⟨fun pos pins s σ H Q I q => by
  obtain ⟨t', p, q'⟩ := h σ H Q q
  exact p.run pos pins s σ H Q I q'⟩
theorem ps_of {st : Stmt} {t : TS} (h : ∀ D σ H, t D σ H → ∃ t', PS X st t' ∧ t' D σ H) : PS X st t := ⟨fun pins s σ H D I q => by
  obtain ⟨t', p, q'⟩ := h D σ H q
  exact p.run pins s σ H D I q'⟩
theorem pi_of {tg it : Expr} {t : TI} (h : ∀ σ H R, t σ H R → ∃ t', PI X tg it t' ∧ t' σ H R) : PI X tg it t := ⟨fun pins s σ H R I q => by
  obtain ⟨t', p, q'⟩ := h σ H R q
  exact p.run pins s σ H R I q'⟩
end

/-! ### operators by the data -/
/-- how a result of data in G comes to lie in the heap -/
inductive NewR (K : PySem.W.Frag) (G H : Hp) : Hp → Hp → R → V → Prop
  | val {d : PyData} {x : V} : Dq K G x d → NewR K G H G H (.v d) x
  | tup {p : Addr} {vs : List V} {ds : List PyData} : H p = none → DqAll K G vs ds → NewR K G H (upd G p (.tup vs)) (upd H p (.tup vs)) (.v (.tuple ds)) (.ref p)
  | lst {p : Addr} {vs : List V} {ds : List PyData} : H p = none → DqAll K G vs ds → NewR K G H G (upd H p (.lst vs)) (.o (.lst ds)) (.ref p)
theorem NewR.rel {K : PySem.W.Frag} {B : Hp} {P : Pn} {G H G' H' : Hp} {σ : L2.St} {ρ : Env} {r : R} {x : V} (n : NewR K G H G' H' r x) (rel : Rel K B P G H σ ρ) : Same G G' ∧ Rel K B P G' H' σ ρ ∧ RRel K B G' H' σ ρ r x := by
  cases n with
  | val h => exact ⟨Same.refl _, rel, h⟩
  | tup hp h =>
    obtain ⟨s, rl⟩ := rel.grow (o := .tup _) hp
    exact ⟨s, rl, .tup (SqT.of upd_same) (DqAll.mono s h)⟩
  | lst hp h =>
    refine ⟨Same.refl _, rel.fresh hp, _, rfl, Same.free rel.sub hp, rel.bnone hp, ⟨_, upd_same, h⟩, fun i c e q => ?_⟩
    obtain ⟨a, h1, _, _, h4⟩ := rel.own i c e
    rw [q] at h1
    cases h1
    obtain ⟨u, hu⟩ := h4.some
    rw [hp] at hu
    cases hu
def rOp (K : PySem.W.Frag) (f : PyData → PyData → Option R) : R2 := fun x y H Q => ∃ G d e r, Same G H ∧ VRel K G H x d ∧ VRel K G H y e ∧ f d e = some r ∧ ∀ G' H' z, NewR K G H G' H' r z → Q z H'
def rCm (K : PySem.W.Frag) (f : PyData → PyData → Option Bool) : R2 := fun x y H Q => ∃ G d e b, Same G H ∧ VRel K G H x d ∧ VRel K G H y e ∧ f d e = some b ∧ Q (.bl b) H
theorem _root_.L2.OpR.imp {X : Cx} {f : Value → Value → Sem Value} {r r' : R2} (h : OpR X f r') (k : ∀ x y H Q, r x y H Q → r' x y H Q) : OpR X f r := fun pins s σ H x y v u Q I rx ry q => h pins s σ H x y v u Q I rx ry (k x y H Q q)
theorem _root_.L2.OpR.by_ {X : Cx} {f : Value → Value → Sem Value} {r : R2} (k : ∀ x y H Q, r x y H Q → ∃ r', OpR X f r' ∧ r' x y H Q) : OpR X f r := fun pins s σ H x y v u Q I rx ry q => by
  obtain ⟨r', h, q'⟩ := k x y H Q q
  exact h pins s σ H x y v u Q I rx ry q'
theorem Lm_eq : sizeLine = Lm := sizeLine_eq
theorem cmul_ok {i j : Int} (h : cmul i j = true) : CMul i j := by
  unfold cmul at h
  rw [Bool.or_eq_true, within_iff, within_iff] at h
  rcases h with h | h
  · exact .inr (by omega)
  · exact .inl (by omega)
theorem cpow_ok {i j : Int} (h : cpow i j = true) : CPow i j := by
  unfold cpow at h
  rw [Bool.and_eq_true, Bool.and_eq_true, within_iff, within_iff, leI_eq, decide_eq_true_iff] at h
  exact ⟨h.1.1, by omega, by omega⟩
section
variable {X : Cx}
def rCatL (K : PySem.W.Frag) : R2 := fun x y H Q => ∃ l b xs zs, x = .ref l ∧ y = .ref b ∧ SqL K H l xs ∧ SqL K H b zs ∧ xs.length + zs.length ≤ sizeLine ∧ ∀ p, H p = none → Q (.ref p) (upd H p (.lst (xs ++ zs)))
theorem op_catL : OpR X (binaryOp .Add) (rCatL X.K) := by
  intro pins s σ H x y v u Q I rx ry h
  obtain ⟨l, b, xs, zs, rfl, rfl, hl, hb, hz, q⟩ := h
  cases rx
  cases ry
  obtain ⟨is, r, ⟨⟨cls, dd, data, sl⟩, n, ho, hc, hdn, hd⟩, _⟩ := I.list hl
  obtain ⟨js, r2, ⟨⟨cls2, dd2, data2, sl2⟩, n2, ho2, hc2, hdn2, hd2⟩, _⟩ := I.list hb
  simp only at hc hd hc2 hd2
  subst hc hd hc2 hd2
  have l1 := r.length
  have l2 := r2.length
  refine concat_meets ⟨_, ho, rfl⟩ ⟨_, ho2, rfl⟩ noFill_list_add seq_list_add PySem.F.slot_list_add PySem.F.entry_list_add (PySem.F.args_list_add_2 _ _) (list_addW l b is.toArray js.toArray n n2 dd dd2 sl sl2 (by simp only [List.size_toArray]; omega)) ⟨ho, ho2, ?_⟩
  have ea : is.toArray ++ js.toArray = (is ++ js).toArray := by simp
  rw [ea]
  exact ⟨.ref _, _, Inv.lnew I (t' := s.toks) (r.append r2) (by rw [List.length_append]; exact hz), rfl, q _ (Inv.fresh I)⟩
theorem op_bin (op : Operator) : OpR X (binaryOp op) (rOp X.K (binOp op)) := OpR.by_ fun x y H Q q => by
  obtain ⟨G, d, e, r, sg, hx, hy, er, k⟩ := q
  unfold binOp at er
  split at er
  · cases er
    cases hx.int; cases hy.int
    exact ⟨_, op_add, _, _, rfl, rfl, k _ _ _ (.val (.int _))⟩
  · split at er
    · cases er
      cases hx.str; cases hy.str
      exact ⟨_, op_add_str, _, _, rfl, rfl, by rw [Lm_eq]; assumption, k _ _ _ (.val (.str _))⟩
    · cases er
  · split at er
    · cases er
      obtain ⟨a, vs, rfl, h1, h2⟩ := hx.list sg
      obtain ⟨b, ws, rfl, h3, h4⟩ := hy.list sg
      refine ⟨_, op_catL, _, _, _, _, rfl, rfl, h1, h3, by rw [h2.length, h4.length, Lm_eq]; assumption, fun p hp => k _ _ _ (.lst hp (h2.append h4))⟩
    · cases er
  · split at er
    · cases er
      obtain ⟨a, vs, rfl, h1, h2⟩ := hx.tup sg
      obtain ⟨b, ws, rfl, h3, h4⟩ := hy.tup sg
      refine ⟨_, op_catA, _, _, _, _, rfl, rfl, h1, h3, by rw [h2.length, h4.length, Lm_eq]; assumption, fun e => ?_, fun _ e => ?_, fun _ _ p hp => k _ _ _ (.tup hp (h2.append h4))⟩
      · subst e
        cases h2
        exact k _ _ _ (.val (hy.tupG))
      · subst e
        cases h4
        rw [List.append_nil] at k
        exact k _ _ _ (.val (hx.tupG))
    · cases er
  · cases er
    cases hx.int; cases hy.int
    exact ⟨_, op_sub, _, _, rfl, rfl, k _ _ _ (.val (.int _))⟩
  · split at er
    · cases er
      cases hx.int; cases hy.int
      exact ⟨_, op_mul, _, _, rfl, rfl, cmul_ok (by assumption), k _ _ _ (.val (.int _))⟩
    · cases er
  · split at er
    · rename_i hc
      cases er
      cases hx.int; cases hy.int
      rw [Bool.and_eq_true, within_iff, ltI_eq, decide_eq_true_iff] at hc
      exact ⟨_, op_fdiv, _, _, rfl, rfl, ⟨hc.1, Int.lt_of_le_of_lt hc.2.2 (by decide)⟩, k _ _ _ (.val (.int _))⟩
    · cases er
  · split at er
    · cases er
      cases hx.int; cases hy.int
      exact ⟨_, op_mod, _, _, rfl, rfl, by (rename_i hc; rw [ltI_eq, decide_eq_true_iff] at hc; exact hc), k _ _ _ (.val (.int _))⟩
    · cases er
  · split at er
    · cases er
      cases hx.int; cases hy.int
      exact ⟨_, op_pow, _, _, rfl, rfl, cpow_ok (by assumption), k _ _ _ (.val (.int _))⟩
    · cases er
  · split at er
    · cases er
      cases hx.int; cases hy.int
      exact ⟨_, op_shl, _, _, rfl, rfl, cpow_ok (by assumption), k _ _ _ (.val (.int _))⟩
    · cases er
  · cases er
end
end Rc

set_option Elab.async false
set_option linter.all false
set_option maxRecDepth 100000
set_option maxHeartbeats 1000000
/-! Lst: list of a text. -/
namespace Rc
open PySem PySem.Spec PyProof.Rows L2
theorem vals_signs {acc : Array Value} : ∀ (cs : List Nat) (k : Nat), (∀ (i : Nat) (c : Nat), cs[i]? = some c → ∃ t, acc.toList[k + i]? = some (.str ⟨#[c]⟩ t)) → acc.size = k + cs.length → Vals (cs.map fun c => V.str ⟨#[c]⟩) (acc.toList.drop k)
  | [], k, _, hz => by
    rw [List.drop_eq_nil_of_le (by simp at hz ⊢; omega)]
    exact .nil
  | c :: cs, k, h, hz => by
    obtain ⟨t, e⟩ := h 0 c rfl
    rw [Nat.add_zero] at e
    obtain ⟨hl, e'⟩ := List.getElem?_eq_some_iff.mp e
    rw [List.drop_eq_getElem_cons hl, e']
    refine .cons ⟨t, rfl⟩ (vals_signs cs (k + 1) (fun i d hd => ?_) (by rw [hz, List.length_cons]; omega))
    obtain ⟨t', e2⟩ := h (i + 1) d (by simpa using hd)
    exact ⟨t', by rw [show k + 1 + i = k + (i + 1) by omega]; exact e2⟩
theorem call_list_s {X : Cx} (hc : X.calm = true) : CallR X (.type "list") (fun xs H Q => ∃ z : Str, xs = [.str z] ∧ z.length ≤ sizeLine ∧ ∀ l, H l = none → Q (.ref l) (upd H l (.lst (z.cps.toList.map fun c => V.str ⟨#[c]⟩)))) := by
  intro pins s σ H xs us Q I r h
  obtain ⟨z, rfl, hz, q⟩ := h
  obtain ⟨u, rfl, rx⟩ := vals1 r
  obtain ⟨t, rfl⟩ := rx
  refine call_list_str (I.ok.hd hc) z t (fun h' tk acc c kp e ia => ?_) hz
  have rv : Vals (z.cps.toList.map fun c => V.str ⟨#[c]⟩) acc.toList := by
    have w := vals_signs (acc := acc) z.cps.toList 0 (fun i c hi => ?_) (by rw [ia.1]; simp)
    · exact w
    · rw [Array.getElem?_toList] at hi
      have hl := (Array.getElem?_eq_some_iff.mp hi).1
      have hl2 : i < acc.size := by rw [ia.1]; exact hl
      obtain ⟨c', u, e1, e2⟩ := ia.2 i acc[i] (by simp [hl2])
      rw [hi] at e1
      cases e1
      exact ⟨u, by rw [Nat.zero_add, Array.getElem?_toList, ← e2]; simp [hl2]⟩
  have le : h'.get? s.heap.objs.size = some { cls := .type "list", data := .seq acc.toList.toArray c } := by
    have ea : acc.toList.toArray = acc := by simp
    rw [ea]
    exact e
  exact ⟨.ref s.heap.objs.size, _, I.laid (t' := tk) kp (Nat.le_refl _) (show ObjOk X.prog X.w _ h' _ (.lst _) from ⟨by rw [List.length_map, Array.length_toList]; exact hz, acc.toList, c, rv, le⟩), rfl, q _ (I.hok.fresh (Nat.le_refl _))⟩
end Rc

set_option Elab.async false
set_option linter.all false
set_option maxRecDepth 100000
set_option maxHeartbeats 1000000
namespace Rc
open PySem PySem.Spec PyProof.Rows L2
section
variable {X : Cx}
theorem fl {α : Type} {a b : α} (h : none = some a) : b = b ∧ False := by cases h
theorem scal_int {i j : Int} : scal (.int i) (.int j) = true := rfl
theorem isNone_dq {K : PySem.W.Frag} {G H : Hp} {x : V} {d : PyData} (h : VRel K G H x d) : decide (x = .non) = isNone d := by
  rcases h with h | ⟨a, vs, ds, rfl, rfl, h1, h2⟩
  · cases h <;> rfl
  · rfl
theorem str1 {x : Str} {c : Nat} (h : x.cps.toList = [c]) : x = ⟨#[c]⟩ := by
  obtain ⟨a⟩ := x
  have e : a = #[c] := by
    have := congrArg List.toArray h
    simpa using this
  rw [e]
/-- data of any depth in a tuple -/
theorem op_inT (hu : X.A.units + 65 < cLine) : OpR X (compareOp .In) (fun x y H Q => ∃ d ds, Dp X.K H x d ∧ Dp X.K H y (.tuple ds) ∧ SeqAt.shaped d = true ∧ SeqAt.shaped (.list ds) = true ∧ Q (.bl (ds.any fun z => PyData.eqv z d)) H) := by
  rintro pins s σ H x y v u Q I rx ry ⟨d, ds, hd, he, sd, se, q⟩
  obtain ⟨as, r1⟩ := Dp.reads I _ x v hd rx
  obtain ⟨bs, r2⟩ := Dp.reads I _ y u he ry
  refine SeqAt.in_tuple_reads r2 r1 ?_ (SeqAt.canLay_of_shaped sd) (room_in_shaped sd hu) ⟨.bl _, H, I, rfl, q⟩
  exact SeqAt.canLay_of_shaped se
theorem op_notInT (hu : X.A.units + 65 < cLine) : OpR X (compareOp .NotIn) (fun x y H Q => ∃ d ds, Dp X.K H x d ∧ Dp X.K H y (.tuple ds) ∧ SeqAt.shaped d = true ∧ SeqAt.shaped (.list ds) = true ∧ Q (.bl (!ds.any fun z => PyData.eqv z d)) H) := by
  rintro pins s σ H x y v u Q I rx ry ⟨d, ds, hd, he, sd, se, q⟩
  obtain ⟨as, r1⟩ := Dp.reads I _ x v hd rx
  obtain ⟨bs, r2⟩ := Dp.reads I _ y u he ry
  refine SeqAt.notIn_tuple_reads r2 r1 ?_ (SeqAt.canLay_of_shaped sd) (room_in_shaped sd hu) ⟨.bl _, H, I, rfl, q⟩
  exact SeqAt.canLay_of_shaped se
theorem eqD_general {a b : PyData} {r : Bool} (h : (if SeqAt.shaped a && SeqAt.shaped b then some (PyData.eqv a b) else none) = some r) : SeqAt.shaped a = true ∧ SeqAt.shaped b = true ∧ PyData.eqv a b = r := by
  split at h
  · rename_i hs
    cases h
    simp only [Bool.and_eq_true] at hs
    exact ⟨hs.1, hs.2, rfl⟩
  · cases h
theorem eq_rule (hu : X.A.units + 65 < cLine) {x y : V} {G H : Hp} {d e : PyData} {b : Bool} (sg : Same G H) (hx : VRel X.K G H x d) (hy : VRel X.K G H y e) (h : eqD d e = some b) {Q : VK} (q : Q (.bl b) H) :
    ∃ r', OpR X (compareOp .Eq) r' ∧ r' x y H Q := by
  unfold eqD at h
  split at h
  · cases h
    cases hx.int; cases hy.int
    exact ⟨_, op_eq, rfl, by simpa only [V.int.injEq] using q⟩
  · cases h
    cases hx.str; cases hy.str
    exact ⟨_, op_eq, rfl, by simpa only [V.str.injEq] using q⟩
  · cases h
    cases hx.non; cases hy.non
    exact ⟨_, op_eq, rfl, q⟩
  · cases h
    cases hx.bl; cases hy.bl
    exact ⟨_, op_eq, rfl, by simpa only [V.bl.injEq] using q⟩
  · obtain ⟨h1, h2, h3⟩ := eqD_general h
    exact ⟨_, op_eqD (by omega), _, _, (hx.dq sg).dp, (hy.dq sg).dp, h1, h2, by rw [h3]; exact q⟩
theorem ne_rule (hu : X.A.units + 65 < cLine) {x y : V} {G H : Hp} {d e : PyData} {b : Bool} (sg : Same G H) (hx : VRel X.K G H x d) (hy : VRel X.K G H y e) (h : eqD d e = some b) {Q : VK} (q : Q (.bl (!b)) H) :
    ∃ r', OpR X (compareOp .NotEq) r' ∧ r' x y H Q := by
  unfold eqD at h
  split at h
  · cases h
    cases hx.int; cases hy.int
    exact ⟨_, op_ne, rfl, by simpa only [V.int.injEq] using q⟩
  · cases h
    cases hx.str; cases hy.str
    exact ⟨_, op_ne, rfl, by simpa only [V.str.injEq] using q⟩
  · cases h
    cases hx.non; cases hy.non
    exact ⟨_, op_ne, rfl, q⟩
  · cases h
    cases hx.bl; cases hy.bl
    exact ⟨_, op_ne, rfl, by simpa only [V.bl.injEq] using q⟩
  · obtain ⟨h1, h2, h3⟩ := eqD_general h
    exact ⟨_, op_neD (by omega), _, _, (hx.dq sg).dp, (hy.dq sg).dp, h1, h2, by rw [h3]; exact q⟩
theorem inD_shaped {x : PyData} {ys : List PyData} {b : Bool} (h : inD x ys = some b) : SeqAt.shaped x = true ∧ SeqAt.shaped (.list ys) = true ∧ (ys.any fun y => PyData.eqv y x) = b := by
  unfold inD at h
  split at h
  · rename_i hs
    cases h
    simp only [Bool.and_eq_true] at hs
    exact ⟨hs.1, hs.2, rfl⟩
  · cases h
theorem map_not {o : Option Bool} {b : Bool} (h : o.map (!·) = some b) : o = some (!b) := by
  cases o with
  | none => cases h
  | some c =>
    cases h
    simp
theorem ints_dq {K : PySem.W.Frag} {G : Hp} : ∀ {ds : List PyData} {vs : List V} {bs : List Int}, DqAll K G vs ds → intsD ds = some bs → vs = bs.map V.int
  | [], _, _, h, e => by
    cases h
    cases e
    rfl
  | d :: ds, _, bs, h, e => by
    cases h with
    | cons h1 h2 =>
      cases d with
      | int b =>
        cases h1
        obtain ⟨cs, e1, e2⟩ := Option.map_eq_some_iff.mp (show (intsD ds).map (b :: ·) = some bs from e)
        subst e2
        rw [ints_dq h2 e1]
        rfl
      | _ => cases e
theorem lexI_eq : ∀ xs ys : List Int, lexI xs ys = HT.lexLt xs ys
  | [], [] => rfl
  | [], _ :: _ => rfl
  | _ :: _, [] => rfl
  | x :: xs, y :: ys => by
    rw [HT.lexLt_cons]
    show (match decide (x = y) with
      | true => lexI xs ys
      | false => ltI x y) = _
    by_cases h : x = y
    · rw [if_pos h, decide_eq_true h]
      exact lexI_eq xs ys
    · rw [if_neg h, decide_eq_false h]
      exact ltI_eq x y
theorem ltL_some {a b : Option (List Int)} {c : Bool} (h : ltL a b = some c) : ∃ xs ys, a = some xs ∧ b = some ys ∧ c = HT.lexLt xs ys := by
  cases a <;> cases b <;> cases h
  exact ⟨_, _, rfl, rfl, lexI_eq _ _⟩
theorem op_cm (hu : X.A.units + 65 < cLine) (op : CmpOp) : OpR X (compareOp op) (rCm X.K (cmpOp op)) := OpR.by_ fun x y H Q q => by
  obtain ⟨G, d, e, b, sg, hx, hy, er, k⟩ := q
  unfold cmpOp at er
  simp only [ltI_eq, leI_eq] at er
  split at er
  · exact eq_rule hu sg hx hy er k
  · have e2 := map_not er
    exact ne_rule hu sg hx hy e2 (by rw [Bool.not_not]; exact k)
  · cases er
    cases hx.int; cases hy.int
    exact ⟨_, op_lt, _, _, rfl, rfl, k⟩
  · obtain ⟨ns, ms, e1, e2, rfl⟩ := ltL_some er
    obtain ⟨a, vs, rfl, h1, h2⟩ := hx.tup sg
    obtain ⟨b, ws, rfl, h3, h4⟩ := hy.tup sg
    rw [ints_dq h2 e1] at h1
    rw [ints_dq h4 e2] at h3
    exact ⟨_, op_ltT (by omega), _, _, _, _, rfl, rfl, h1, h3, k⟩
  · cases er
    cases hx.int; cases hy.int
    exact ⟨_, op_le, _, _, rfl, rfl, k⟩
  · cases er
    cases hx.int; cases hy.int
    exact ⟨_, op_gt, _, _, rfl, rfl, k⟩
  · cases er
    cases hx.int; cases hy.int
    exact ⟨_, op_ge, _, _, rfl, rfl, k⟩
  · cases er
    cases hy.non
    exact ⟨_, op_isN, rfl, by rw [isNone_dq hx]; exact k⟩
  · cases er
    cases hy.non
    exact ⟨_, op_notN, rfl, by rw [isNone_dq hx]; exact k⟩
  · cases er
    cases hx.str; cases hy.str
    unfold inStr at k
    split at k
    · rename_i c hc
      rw [str1 hc]
      exact ⟨_, op_in_sign, _, _, rfl, rfl, k⟩
    · exact ⟨_, op_in_str, _, _, rfl, rfl, k⟩
  · cases er
    cases hx.str; cases hy.str
    unfold inStr at k
    split at k
    · rename_i c hc
      rw [str1 hc]
      exact ⟨_, op_notIn_sign, _, _, rfl, rfl, k⟩
    · exact ⟨_, L2.op_notIn_str, _, _, rfl, rfl, k⟩
  · obtain ⟨h1, h2, h3⟩ := inD_shaped er
    exact ⟨_, op_inD hu, _, _, (hx.dq sg).dp, (hy.dq sg).dp, h1, h2, by rw [h3]; exact k⟩
  · obtain ⟨h1, h2, h3⟩ := inD_shaped (map_not er)
    exact ⟨_, op_notInD hu, _, _, (hx.dq sg).dp, (hy.dq sg).dp, h1, h2, by rw [h3, Bool.not_not]; exact k⟩
  · obtain ⟨h1, h2, h3⟩ := inD_shaped er
    exact ⟨_, op_inT hu, _, _, (hx.dq sg).dp, (hy.dq sg).dp, h1, h2, by rw [h3]; exact k⟩
  · obtain ⟨h1, h2, h3⟩ := inD_shaped (map_not er)
    exact ⟨_, op_notInT hu, _, _, (hx.dq sg).dp, (hy.dq sg).dp, h1, h2, by rw [h3, Bool.not_not]; exact k⟩
  · cases er

/-! ### items -/
theorem atI_dq {K : PySem.W.Frag} {G : Hp} {vs : List V} {ds : List PyData} {i : Int} {d : PyData} (h : DqAll K G vs ds) (e : atI ds i = some d) : ∃ v, atI vs i = some v ∧ Dq K G v d := by
  unfold atI at e ⊢
  rw [h.length]
  cases q : ixN ds.length i with
  | none =>
    rw [q] at e
    cases e
  | some j =>
    rw [q] at e
    exact h.get (show ds[j]? = some d from e)
def rSub (K : PySem.W.Frag) : R2 := fun x y H Q => ∃ G d e r, Same G H ∧ VRel K G H x d ∧ VRel K G H y e ∧ subOp d e = some r ∧ ∀ z, Dq K G z r → Q z H
theorem IxR.by_ {r : R2} (k : ∀ x y H Q, r x y H Q → ∃ r', IxR X r' ∧ r' x y H Q) : IxR X r := fun value slice pins s σ H x y v u Q I rx ry q hs => by
  obtain ⟨r', h, q'⟩ := k x y H Q q
  exact h value slice pins s σ H x y v u Q I rx ry q' hs
theorem ix_sub : IxR X (rSub X.K) := IxR.by_ fun x y H Q q => by
  obtain ⟨G, d, e, r, sg, hx, hy, er, k⟩ := q
  unfold subOp at er
  split at er
  · cases hy.int
    obtain ⟨a, vs, rfl, h1, h2⟩ := hx.list sg
    obtain ⟨v, e1, e2⟩ := atI_dq h2 er
    exact ⟨_, ix_list, _, _, _, _, rfl, rfl, h1, e1, k _ e2⟩
  · cases hy.int
    obtain ⟨a, vs, rfl, h1, h2⟩ := hx.tup sg
    obtain ⟨v, e1, e2⟩ := atI_dq h2 er
    exact ⟨_, ix_tup, _, _, _, _, rfl, rfl, h1, e1, k _ e2⟩
  · cases hy.int
    cases hx.str
    split at er
    · obtain ⟨c, e1, e2⟩ := Option.map_eq_some_iff.mp er
      cases e2
      exact ⟨_, ix_str, _, _, _, rfl, rfl, by rw [Lm_eq]; assumption, e1, k _ (.str _)⟩
    · cases er
  · cases er

/-! ### slices -/
def rSlc (K : PySem.W.Frag) : V → Option Int → Option Int → Hp → VK → Prop := fun x lo hi H Q => ∃ G d r, Same G H ∧ VRel K G H x d ∧ slcOp d lo hi = some r ∧ ∀ G' H' z, NewR K G H G' H' r z → Q z H'
theorem SlR.by_ {r : V → Option Int → Option Int → Hp → VK → Prop} (k : ∀ x lo hi H Q, r x lo hi H Q → ∃ r', SlR X r' ∧ r' x lo hi H Q) : SlR X r := fun pins s σ H x v vl vu lo hi sl Q I rx hs pl pu q => by
  obtain ⟨r', h, q'⟩ := k x lo hi H Q q
  exact h pins s σ H x v vl vu lo hi sl Q I rx hs pl pu q'
theorem cut_dq {K : PySem.W.Frag} {G : Hp} {vs : List V} {ds : List PyData} (lo hi : Option Int) (h : DqAll K G vs ds) : DqAll K G (cutV vs lo hi) (cut ds lo hi) := by
  unfold cutV cut
  rw [h.length]
  exact (h.drop _).take _
theorem cut_whole {ds : List PyData} {lo hi : Option Int} (h : HT.sIx ds.length 0 lo = 0 ∧ HT.sIx ds.length ds.length hi = ds.length) : cut ds lo hi = ds := by
  unfold cut
  rw [h.1, h.2, Nat.sub_zero, List.drop_zero, List.take_length]
theorem sl_slc : SlR X (rSlc X.K) := SlR.by_ fun x lo hi H Q q => by
  obtain ⟨G, d, r, sg, hx, er, k⟩ := q
  unfold slcOp at er
  split at er
  · cases er
    obtain ⟨a, vs, rfl, h1, h2⟩ := hx.list sg
    exact ⟨_, sl_list, _, _, rfl, h1, fun p hp => k _ _ _ (.lst hp (cut_dq lo hi h2))⟩
  · cases er
    have hg := hx.tupG
    obtain ⟨a, vs, rfl, h1, h2⟩ := hx.tup sg
    refine ⟨_, sl_tupA, _, _, rfl, h1, fun e => ?_, fun _ p hp => k _ _ _ (.tup hp (cut_dq lo hi h2))⟩
    rw [h2.length] at e
    rw [cut_whole e] at k
    exact k _ _ _ (.val hg)
  · rename_i z
    split at er
    · cases er
      cases hx.str
      refine ⟨_, sl_str, _, rfl, by rw [Lm_eq]; assumption, k _ _ _ (.val ?_)⟩
      have e : cutS z lo hi = ⟨(cut z.cps.toList lo hi).toArray⟩ := by
        unfold cutS cut
        rw [Array.length_toList]
        rfl
      rw [e]
      exact .str _
    · cases er
  · cases er

/-! ### built-ins -/
inductive VAll (K : PySem.W.Frag) (G H : Hp) : List V → List PyData → Prop
  | nil : VAll K G H [] []
  | cons {x : V} {xs : List V} {d : PyData} {ds : List PyData} : VRel K G H x d → VAll K G H xs ds → VAll K G H (x :: xs) (d :: ds)
def rBi (K : PySem.W.Frag) (f : List PyData → Option R) : List V → Hp → VK → Prop := fun xs H Q => ∃ G ds r, Same G H ∧ VAll K G H xs ds ∧ f ds = some r ∧ ∀ G' H' z, NewR K G H G' H' r z → Q z H'
theorem CallR.by_ {f : Value} {r : List V → Hp → VK → Prop} (k : ∀ xs H Q, r xs H Q → ∃ r', CallR X f r' ∧ r' xs H Q) : CallR X f r := fun pins s σ H xs us Q I rv q => by
  obtain ⟨r', h, q'⟩ := k xs H Q q
  exact h pins s σ H xs us Q I rv q'
theorem bools_dq {K : PySem.W.Frag} {G : Hp} : ∀ {ds : List PyData} {vs : List V} {bs : List Bool}, DqAll K G vs ds → bools ds = some bs → vs = bs.map V.bl
  | [], _, _, h, e => by
    cases h
    cases e
    rfl
  | d :: ds, _, bs, h, e => by
    cases h with
    | cons h1 h2 =>
      cases d with
      | bool b =>
        cases h1
        obtain ⟨cs, e1, e2⟩ := Option.map_eq_some_iff.mp (show (bools ds).map (b :: ·) = some bs from e)
        subst e2
        rw [bools_dq h2 e1]
        rfl
      | _ => cases e
theorem strs_dq {K : PySem.W.Frag} {G : Hp} : ∀ {ds : List PyData} {vs : List V} {bs : List Str}, DqAll K G vs ds → strsD ds = some bs → vs = bs.map V.str
  | [], _, _, h, e => by
    cases h
    cases e
    rfl
  | d :: ds, _, bs, h, e => by
    cases h with
    | cons h1 h2 =>
      cases d with
      | str b =>
        cases h1
        obtain ⟨cs, e1, e2⟩ := Option.map_eq_some_iff.mp (show (strsD ds).map (b :: ·) = some bs from e)
        subst e2
        rw [strs_dq h2 e1]
        rfl
      | _ => cases e
/-- what the name of a built-in stands for -/
def biVal : Bi → Value
  | .len => .builtin "len"
  | .int_ => .type "int"
  | .abs => .builtin "abs"
  | .list_ => .type "list"
  | .tuple_ => .type "tuple"
  | .all_ => .builtin "all"
  | .any_ => .builtin "any"
  | .min2 => .builtin "min"
  | .max2 => .builtin "max"
  | .str_ => .type "str"
  | .sum_ => .builtin "sum"
  | .ord_ => .builtin "ord"
theorem bi_ok (hc : X.calm = true) (b : Bi) : CallR X (biVal b) (rBi X.K (biOp b)) := CallR.by_ fun xs H Q q => by
  obtain ⟨G, ds, r, sg, hv, er, k⟩ := q
  unfold biOp at er
  split at er
  · cases er
    cases hv with
    | cons h1 h2 =>
      cases h2
      obtain ⟨a, vs, rfl, g1, g2⟩ := h1.list sg
      exact ⟨_, call_len_seq, _, _, rfl, .inl g1, by rw [g2.length]; exact k _ _ _ (.val (.int _))⟩
  · cases er
    cases hv with
    | cons h1 h2 =>
      cases h2
      obtain ⟨a, vs, rfl, g1, g2⟩ := h1.tup sg
      exact ⟨_, call_len_seq, _, _, rfl, .inr g1, by rw [g2.length]; exact k _ _ _ (.val (.int _))⟩
  · split at er
    · cases er
      cases hv with
      | cons h1 h2 =>
        cases h2
        cases h1.str
        exact ⟨_, call_len_str, _, rfl, by rw [Lm_eq]; assumption, k _ _ _ (.val (.int _))⟩
    · cases er
  · cases er
    cases hv with
    | cons h1 h2 =>
      cases h2
      cases h1.int
      exact ⟨_, call_int1, .inl ⟨_, rfl, k _ _ _ (.val (.int _))⟩⟩
  · cases er
    cases hv with
    | cons h1 h2 =>
      cases h2
      cases h1.int
      rename_i i0
      have ea : ((i0.natAbs : Nat) : Int) = (if i0 < 0 then -i0 else i0) := by omega
      rw [ea] at k
      exact ⟨_, call_abs, _, rfl, k _ _ _ (.val (.int _))⟩
  · cases er
    cases hv with
    | cons h1 h2 =>
      cases h2
      obtain ⟨a, vs, rfl, g1, g2⟩ := h1.list sg
      exact ⟨_, call_list_of, _, _, rfl, .inl g1, fun l hl => k _ _ _ (.lst hl g2)⟩
  · cases er
    cases hv with
    | cons h1 h2 =>
      cases h2
      obtain ⟨a, vs, rfl, g1, g2⟩ := h1.tup sg
      exact ⟨_, call_list_of, _, _, rfl, .inr g1, fun l hl => k _ _ _ (.lst hl g2)⟩
  · split at er
    · rename_i hlen
      cases er
      cases hv with
      | cons h1 h2 =>
        cases h2
        cases h1.str
        rename_i z0
        refine ⟨_, call_list_s hc, _, rfl, by rw [Lm_eq]; exact hlen, fun l hl => k _ _ _ (.lst hl ?_)⟩
        have all : ∀ cs : List Nat, DqAll X.K G (cs.map fun c => V.str ⟨#[c]⟩) (cs.map sign) := fun cs => by
          induction cs with
          | nil => exact .nil
          | cons c cs ih => exact .cons (.str _) ih
        exact all _
    · cases er
  · cases er
    cases hv with
    | cons h1 h2 =>
      cases h2
      obtain ⟨a, vs, rfl, g1, g2⟩ := h1.list sg
      exact ⟨_, call_tuple_of, _, _, rfl, .inl ⟨g1, fun l hl => k _ _ _ (.tup hl g2)⟩⟩
  · cases er
    cases hv with
    | cons h1 h2 =>
      cases h2
      have hg := h1.tupG
      obtain ⟨a, vs, rfl, g1, g2⟩ := h1.tup sg
      exact ⟨_, call_tuple_of, _, _, rfl, .inr ⟨g1, k _ _ _ (.val hg)⟩⟩
  · obtain ⟨bs, e1, e2⟩ := Option.map_eq_some_iff.mp er
    cases e2
    cases hv with
    | cons h1 h2 =>
      cases h2
      obtain ⟨a, vs, rfl, g1, g2⟩ := h1.list sg
      rw [bools_dq g2 e1] at g1
      exact ⟨_, cr_all hc, _, _, rfl, g1, k _ _ _ (.val (.bl _))⟩
  · obtain ⟨bs, e1, e2⟩ := Option.map_eq_some_iff.mp er
    cases e2
    cases hv with
    | cons h1 h2 =>
      cases h2
      obtain ⟨a, vs, rfl, g1, g2⟩ := h1.list sg
      rw [bools_dq g2 e1] at g1
      exact ⟨_, cr_any hc, _, _, rfl, g1, k _ _ _ (.val (.bl _))⟩
  · cases er
    cases hv with
    | cons h1 h2 =>
      cases h2 with
      | cons h3 h4 =>
        cases h4
        cases h1.int
        cases h3.int
        simp only [ltI_eq, decide_eq_true_eq] at k
        exact ⟨_, call_min2 hc, _, _, rfl, k _ _ _ (.val (.int _))⟩
  · cases er
    cases hv with
    | cons h1 h2 =>
      cases h2 with
      | cons h3 h4 =>
        cases h4
        cases h1.int
        cases h3.int
        simp only [ltI_eq, decide_eq_true_eq] at k
        exact ⟨_, call_max2 hc, _, _, rfl, k _ _ _ (.val (.int _))⟩
  · obtain ⟨bs, e1, e2⟩ := Option.map_eq_some_iff.mp er
    cases e2
    cases hv with
    | cons h1 h2 =>
      cases h2
      obtain ⟨a, vs, rfl, g1, g2⟩ := h1.list sg
      rw [ints_dq g2 e1] at g1
      exact ⟨_, cr_sum hc, _, _, rfl, g1, k _ _ _ (.val (.int _))⟩
  · cases er
/-! ### isinstance -/
theorem tyX_dq {K : PySem.W.Frag} {G H : Hp} {x : V} {d : PyData} (sg : Same G H) (h : VRel K G H x d) (nd : tyOf d ≠ "dict") : TyX K H x (.type (tyOf d)) := by
  have key : Dq K H x d := h.dq sg
  cases key with
  | non => exact .base .non
  | bl b => exact .base (.bl b)
  | int i => exact .base (.int i)
  | str i => exact .base (.str i)
  | lst h1 h2 =>
    rcases h1 with (h1 | ⟨o, h1⟩) | ⟨o, its, n, h1, h3, _⟩
    · exact .base (.lst h1)
    · exact .base (.frz h1)
    · exact .kList h1 h3
  | tup h1 h2 =>
    rcases h1 with (h1 | ⟨o, h1⟩) | ⟨o, its, n, h1, h3, _⟩
    · exact .base (.tup h1)
    · exact .fTuple h1
    · exact .kTuple h1 h3
theorem dq_ty {K : PySem.W.Frag} {H : Hp} {x : V} {d : PyData} (h : Dq K H x d) : tyOf d = "NoneType" ∨ tyOf d = "bool" ∨ tyOf d = "int" ∨ tyOf d = "str" ∨ tyOf d = "list" ∨ tyOf d = "tuple" := by
  cases h <;> simp [tyOf]
def isTys : List String := ["int", "bool", "str", "tuple", "list"]
theorem kit_all {K : PySem.W.Frag} {a t : String} (ht : t ∈ isTys) (ha : a = "NoneType" ∨ a = "bool" ∨ a = "int" ∨ a = "str" ∨ a = "list" ∨ a = "tuple") : PySem.W.kitOne K (.type a) (.type t) = some (isTy a t) := by
  refine kit_ty ?_
  have all : (isTys.all fun t => ["NoneType", "bool", "int", "str", "list", "tuple"].all fun a => kitB a t == some (isTy a t)) = true := by decide +kernel
  have h1 := List.all_eq_true.mp all t ht
  have h2 := List.all_eq_true.mp h1 a (by simp only [List.mem_cons, List.not_mem_nil, or_false]; exact ha)
  exact eq_of_beq h2
def rIst (K : PySem.W.Frag) (t : String) : List V → Hp → VK → Prop := fun xs H Q => ∃ G x d, xs = [x, .ty t] ∧ Same G H ∧ VRel K G H x d ∧ Q (.bl (isTy (tyOf d) t)) H
theorem ist_ok {t : String} (ht : t ∈ isTys) : CallR X (.builtin "isinstance") (rIst X.K t) := CallR.by_ fun xs H Q q => by
  obtain ⟨G, x, d, rfl, sg, hx, k⟩ := q
  have hd := dq_ty (hx.dq sg)
  exact ⟨_, call_isi, x, _, _, _, _, rfl, .ty t, tyX_dq sg hx (by rcases hd with e | e | e | e | e | e <;> rw [e] <;> decide), kit_all ht hd, k⟩
end
end Rc

set_option Elab.async false
set_option linter.all false
set_option maxRecDepth 100000
set_option maxHeartbeats 1000000
namespace Rc
open PySem PySem.Spec PyProof.Rows L2
theorem _root_.Rc.Post.no {α : Type} {ok : α → Env → Prop} (h : Post (.bad : Out α) ok) : False := h
theorem optR_post {ρ : Env} {o : Option R} {ok : R → Env → Prop} (h : Post (optR ρ o) ok) : ∃ r, o = some r ∧ ok r ρ := by
  cases o with
  | none => exact h.elim
  | some r => exact ⟨r, rfl, h⟩
theorem optV_post {ρ : Env} {o : Option PyData} {ok : R → Env → Prop} (h : Post (optV ρ o) ok) : ∃ r, o = some r ∧ ok (.v r) ρ := by
  cases o with
  | none => exact h.elim
  | some r => exact ⟨r, rfl, h⟩
theorem optB_post {ρ : Env} {o : Option Bool} {ok : R → Env → Prop} (h : Post (optB ρ o) ok) : ∃ r, o = some r ∧ ok (.v (.bool r)) ρ := by
  cases o with
  | none => exact h.elim
  | some r => exact ⟨r, rfl, h⟩
section
variable {X : Cx} {F : Fx} {W : Wd} {pos : Pos}
abbrev PEv (X : Cx) (F : Fx) (W : Wd) (e : Expr) (d : Ex) : Prop := PE X e (tE X.K F (ev W d))
theorem ev_var {i : Nat} {x : Str} (hN : X.N[i]? = some x) (hv : Vis X.env.scope x) (hd : (x == ("__debug__" : Str)) = false) (hcd : (x == ("__classdict__" : Str)) = false) : PEv X F W (.Name x pos) (.var i) := pe_of fun σ H Q h => by
  obtain ⟨G, ρ, rel, post⟩ := h
  refine ⟨_, pe_var (i := i) hN hv hd hcd, ?_⟩
  have post : Post (match ρ[i]? with
    | some (.v d) => Out.ok (R.v d) ρ
    | some (.o _) => .ok (R.s i) ρ
    | _ => .bad) (EndE X.K F G σ Q) := post
  split at post
  · rename_i d e
    obtain ⟨x, h1, h2⟩ := rel.val i d e
    exact ⟨x, h1, post G H x (Same.refl _) rel h2⟩
  · rename_i b e
    obtain ⟨a, h1, h2⟩ := rel.own i b e
    exact ⟨_, h1, post G H _ (Same.refl _) rel h1⟩
  · exact post.elim
theorem ev_con {e : Expr} {d : Ex} {v : V} {dt : PyData} (h : PE X e (tC v)) (he : ∀ ρ, ev W d ρ = .ok (.v dt) ρ) (hd : ∀ G, Dq X.K G v dt) : PEv X F W e d := pe_of fun σ H Q q => by
  obtain ⟨G, ρ, rel, post⟩ := q
  refine ⟨_, h, ?_⟩
  rw [he] at post
  exact post G H v (Same.refl _) rel (hd G)
theorem ev_int {n : Int} {j : Nat} : PEv X F W (.Constant (.int n) j pos) (.int n) := ev_con pe_int (fun _ => rfl) fun _ => .int n
theorem ev_str {n : Str} {j : Nat} : PEv X F W (.Constant (.str n) j pos) (.str n) := ev_con pe_str (fun _ => rfl) fun _ => .str n
theorem ev_bl {n : Bool} {j : Nat} : PEv X F W (.Constant (.bool n) j pos) (.bl n) := ev_con pe_bl (fun _ => rfl) fun _ => .bl n
theorem ev_non {j : Nat} : PEv X F W (.Constant .none j pos) .non := ev_con pe_non (fun _ => rfl) fun _ => .non
theorem ev_glob {g : Nat} {x : Str} {v : V} {u : Value} (hg : Gl X x) (hm : X.mg x = some u) (r : RelV v u) (hd : ∀ G, Dq X.K G v (W.C g)) (hdb : (x == ("__debug__" : Str)) = false) : PEv X F W (.Name x pos) (.glob g) :=
  ev_con (pe_glob hg hm r hdb) (fun _ => rfl) hd
variable {a b c : Expr} {ea eb ec : Ex}
theorem ev_bin {op : Operator} (ha : PEv X F W a ea) (hb : PEv X F W b eb) : PEv X F W (.BinOp a op b pos) (.bin op ea eb) := pe_of fun σ H Q h => by
  obtain ⟨G, ρ, rel, post⟩ := h
  obtain ⟨x, ρ1, e1, post_⟩ := Post.bind post; clear post; have post := post_; clear post_
  obtain ⟨y, ρ2, e2, post_⟩ := Post.bind post; clear post; have post := post_; clear post_
  split at post
  · rename_i d e hd he
    obtain ⟨r, er, k⟩ := optR_post post
    refine ⟨_, pe_op (op_bin op) ha hb, ?_⟩
    refine tE_opd rel e1 fun G1 H1 vx s1 rel1 rr1 no1 => tE_opd rel1 e2 fun G2 H2 vy s2 rel2 rr2 _ => ?_
    refine ⟨G2, d, e, r, rel2.sub, rel2.view (rr1.mono s2 no1) hd, rel2.view rr2 he, er, fun G' H' z n => ?_⟩
    obtain ⟨s3, rel3, rr3⟩ := n.rel rel2
    exact k G' H' z (s1.trans (s2.trans s3)) rel3 rr3
  · exact post.elim
theorem wish_cmp {op : CmpOp} : ∀ σ H Q, tE X.K F (ev W (.cmp op ea eb)) σ H Q → tOp (rCm X.K (cmpOp op)) (tE X.K F (ev W ea)) (tE X.K F (ev W eb)) σ H Q := fun σ H Q h => by
  obtain ⟨G, ρ, rel, post⟩ := h
  obtain ⟨x, ρ1, e1, post_⟩ := Post.bind post; clear post; have post := post_; clear post_
  obtain ⟨y, ρ2, e2, post_⟩ := Post.bind post; clear post; have post := post_; clear post_
  split at post
  · rename_i d e hd he
    obtain ⟨r, er, k⟩ := optB_post post
    refine tE_opd rel e1 fun G1 H1 vx s1 rel1 rr1 no1 => tE_opd rel1 e2 fun G2 H2 vy s2 rel2 rr2 _ => ?_
    exact ⟨G2, d, e, r, rel2.sub, rel2.view (rr1.mono s2 no1) hd, rel2.view rr2 he, er, k G2 H2 _ (s1.trans s2) rel2 (.bl r)⟩
  · exact post.elim
theorem ev_cmp {op : CmpOp} (hu : X.A.units + 65 < cLine) (ha : PEv X F W a ea) (hb : PEv X F W b eb) (hm : behindInMarks op b = false) : PEv X F W (.Compare a [op] [b] pos) (.cmp op ea eb) := pe_of fun σ H Q h => ⟨_, pe_cmpR (op_cm hu op) ha hb hm, wish_cmp σ H Q h⟩
theorem wish_cmp2 {op op' : CmpOp} : ∀ σ H Q, tE X.K F (ev W (.cmp2 op op' ea eb ec)) σ H Q → tChain (rCm X.K (cmpOp op)) (rCm X.K (cmpOp op')) (tE X.K F (ev W ea)) (tE X.K F (ev W eb)) (tE X.K F (ev W ec)) σ H Q := fun σ H Q h => by
  obtain ⟨G, ρ, rel, post⟩ := h
  obtain ⟨x, ρ1, e1, post_⟩ := Post.bind post; clear post; have post := post_; clear post_
  obtain ⟨y, ρ2, e2, post_⟩ := Post.bind post; clear post; have post := post_; clear post_
  split at post
  · rename_i d e
    refine tE_opd rel e1 fun G1 H1 vx s1 rel1 rr1 no1 => tE_opd rel1 e2 fun G2 H2 vy s2 rel2 rr2 _ => ?_
    have rr2 : Dq X.K G2 vy e := rr2
    have dx : Dq X.K G2 vx d := Dq.mono s2 rr1
    split at post
    · rename_i er
      obtain ⟨z, ρ3, e3, post_⟩ := Post.bind post; clear post; have post := post_; clear post_
      split at post
      · rename_i f
        obtain ⟨r, er', k⟩ := optB_post post
        refine ⟨G2, d, e, true, rel2.sub, .inl dx, .inl rr2, er, true, rfl, ?_⟩
        rw [if_pos rfl]
        refine tE_opd rel2 e3 fun G3 H3 vz s3 rel3 rr3 _ => ?_
        exact ⟨G3, e, f, r, rel3.sub, .inl (Dq.mono s3 rr2), .inl rr3, er', k G3 H3 _ (s1.trans (s2.trans s3)) rel3 (.bl r)⟩
      · exact post.elim
    · rename_i er
      refine ⟨G2, d, e, false, rel2.sub, .inl dx, .inl rr2, er, false, rfl, ?_⟩
      rw [if_neg Bool.false_ne_true]
      exact post G2 H2 _ (s1.trans s2) rel2 (.bl false)
    · exact post.elim
  · exact post.elim
theorem ev_cmp2 {op op' : CmpOp} (hu : X.A.units + 65 < cLine) (ha : PEv X F W a ea) (hb : PEv X F W b eb) (hc : PEv X F W c ec) (hm : lastMarks [op, op'] [b, c] = false) : PEv X F W (.Compare a [op, op'] [b, c] pos) (.cmp2 op op' ea eb ec) := pe_of fun σ H Q h => ⟨_, pe_chain (op_cm hu op) (op_cm hu op') ha hb hc hm, wish_cmp2 σ H Q h⟩
theorem ev_neg (ha : PEv X F W a ea) : PEv X F W (.UnaryOp .USub a pos) (.neg ea) := pe_of fun σ H Q h => by
  obtain ⟨G, ρ, rel, post⟩ := h
  obtain ⟨x, ρ1, e1, post_⟩ := Post.bind post; clear post; have post := post_; clear post_
  split at post
  · rename_i i hi
    refine ⟨_, pe_un un_neg ha, tE_opd rel e1 fun G1 H1 vx s1 rel1 rr1 no1 => ?_⟩
    exact ⟨i, (rel1.view rr1 hi).int, post G1 H1 _ s1 rel1 (.int _)⟩
  · exact post.elim
theorem ev_nott (ha : PEv X F W a ea) : PEv X F W (.UnaryOp .Not a pos) (.nott ea) := pe_of fun σ H Q h => by
  obtain ⟨G, ρ, rel, post⟩ := h
  obtain ⟨x, ρ1, e1, post_⟩ := Post.bind post; clear post; have post := post_; clear post_
  split at post
  · rename_i i
    refine ⟨_, pe_not ha, tE_in rel e1 fun G1 H1 vx s1 rel1 rr1 => ?_⟩
    cases (show Dq X.K G1 vx (.bool i) from rr1)
    exact ⟨i, rfl, post G1 H1 _ s1 rel1 (.bl _)⟩
  · exact post.elim
theorem ev_and {rest : List Expr} (ha : PEv X F W a ea) (hb : PEv X F W (.BoolOp .And (b :: rest) pos) eb) : PEv X F W (.BoolOp .And (a :: b :: rest) pos) (.and ea eb) := pe_of fun σ H Q h => by
  obtain ⟨G, ρ, rel, post⟩ := h
  obtain ⟨x, ρ1, e1, post_⟩ := Post.bind post; clear post; have post := post_; clear post_
  refine ⟨_, pe_and ha hb, tE_in rel e1 fun G1 H1 vx s1 rel1 rr1 => ?_⟩
  split at post
  · cases (show Dq X.K G1 vx (.bool true) from rr1)
    refine ⟨true, rfl, ?_⟩
    rw [if_pos rfl]
    obtain ⟨r, ρ2, e2, k⟩ := Post.out_ post
    exact tE_in rel1 e2 fun G2 H2 z s2 rel2 rr2 => k G2 H2 z (s1.trans s2) rel2 rr2
  · cases (show Dq X.K G1 vx (.bool false) from rr1)
    refine ⟨false, rfl, ?_⟩
    rw [if_neg Bool.false_ne_true]
    exact post G1 H1 _ s1 rel1 (.bl false)
  · exact post.elim
theorem ev_or {rest : List Expr} (ha : PEv X F W a ea) (hb : PEv X F W (.BoolOp .Or (b :: rest) pos) eb) : PEv X F W (.BoolOp .Or (a :: b :: rest) pos) (.or ea eb) := pe_of fun σ H Q h => by
  obtain ⟨G, ρ, rel, post⟩ := h
  obtain ⟨x, ρ1, e1, post_⟩ := Post.bind post; clear post; have post := post_; clear post_
  refine ⟨_, pe_or ha hb, tE_in rel e1 fun G1 H1 vx s1 rel1 rr1 => ?_⟩
  split at post
  · cases (show Dq X.K G1 vx (.bool true) from rr1)
    refine ⟨true, rfl, ?_⟩
    rw [if_pos rfl]
    exact post G1 H1 _ s1 rel1 (.bl true)
  · cases (show Dq X.K G1 vx (.bool false) from rr1)
    refine ⟨false, rfl, ?_⟩
    rw [if_neg Bool.false_ne_true]
    obtain ⟨r, ρ2, e2, k⟩ := Post.out_ post
    exact tE_in rel1 e2 fun G2 H2 z s2 rel2 rr2 => k G2 H2 z (s1.trans s2) rel2 rr2
  · exact post.elim
/-! ### tests -/
abbrev PTv (X : Cx) (F : Fx) (W : Wd) (e : Expr) (d : Ts) : Prop := PT X e (tT X.K F (evT W d))
theorem tT_in {K : PySem.W.Frag} {G H : Hp} {σ : L2.St} {ρ : Env} {Q : Bool → Hp → Prop} {m : Env → Out Bool} {b : Bool} {ρ' : Env} (rel : F.rel K G H σ ρ) (e : m ρ = .ok b ρ') (k : ∀ G' H', Same G G' → F.rel K G' H' σ ρ' → Q b H') : tT K F m σ H Q :=
  ⟨G, ρ, rel, by rw [e]; exact k⟩
theorem truV_of {K : PySem.W.Frag} {G H : Hp} {x : V} {d : PyData} {k : Bool} (sg : Same G H) (h : VRel K G H x d) (e : truth d = some k) : TruV K x H k := by
  cases d with
  | none => cases h.non; cases e; exact rfl
  | bool b => cases h.bl; cases e; exact rfl
  | int i => cases h.int; cases e; exact rfl
  | str s =>
    cases h.str
    have e : (if s.length ≤ Lm then some (s.length != 0) else none) = some k := e
    split at e
    case isFalse => cases e
    cases e
    refine ⟨by rw [Lm_eq]; assumption, ?_⟩
    by_cases z : s.length = 0
    · rw [z]; rfl
    · have z' : ¬ ((s.length : Nat) : Int) = 0 := by omega
      rw [bne_iff_ne.mpr z, bne_iff_ne.mpr z']
  | list xs =>
    obtain ⟨a, vs, rfl, h1, h2⟩ := h.list sg
    cases e
    refine .inl ⟨vs, h1, ?_⟩
    cases h2 <;> rfl
  | tuple xs =>
    obtain ⟨a, vs, rfl, h1, h2⟩ := h.tup sg
    cases e
    refine .inr (.inl ⟨vs, h1, ?_⟩)
    cases h2 <;> rfl
  | dict _ => cases e
theorem evT_val (ha : PEv X F W a ea) (he : ∀ whole, isTrue a X.env whole = (do let v ← whole; standAt a.pos; holding [v] (truthy v))) : PTv X F W a (.val ea) := pt_of fun σ H Q h => by
  obtain ⟨G, ρ, rel, post⟩ := h
  obtain ⟨x, ρ1, e1, post_⟩ := Post.bind post; clear post; have post := post_; clear post_
  split at post
  · rename_i d hd
    split at post
    · rename_i t ht
      refine ⟨_, pt_truth ha he, tE_in rel e1 fun G1 H1 vx s1 rel1 rr1 => ?_⟩
      exact ⟨t, truV_of rel1.sub (rel1.view rr1 hd) ht, post G1 H1 s1 rel1⟩
    · exact post.elim
  · exact post.elim
/-- what comes back is a bool -/
def BoolEx (W : Wd) (e : Ex) : Prop := ∀ ρ r ρ', ev W e ρ = .ok r ρ' → ∃ b, r = .v (.bool b)
theorem boolWish {e : Ex} (hb : BoolEx W e) {σ : L2.St} {H : Hp} {Q : Bool → Hp → Prop} (h : tT X.K F (evT W (.val e)) σ H Q) : tE X.K F (ev W e) σ H fun x H' => ∃ k, x = .bl k ∧ Q k H' := by
  obtain ⟨G, ρ, rel, post⟩ := h
  obtain ⟨x, ρ1, e1, post_⟩ := Post.bind post; clear post; have post := post_; clear post_
  obtain ⟨b, rfl⟩ := hb _ _ _ e1
  have post : Post (Out.ok b ρ1) (EndT X.K F G σ Q) := post
  refine tE_in rel e1 fun G1 H1 vx s1 rel1 rr1 => ⟨b, ?_, post G1 H1 s1 rel1⟩
  cases (show Dq X.K G1 vx (.bool b) from rr1)
  rfl
theorem optB_ok {ρ ρ' : Env} {o : Option Bool} {r : R} (h : optB ρ o = .ok r ρ') : ∃ b, r = .v (.bool b) := by
  cases o with
  | none => cases h
  | some b => cases h; exact ⟨b, rfl⟩
theorem bindOk {α β : Type} {o : Out α} {f : α → Env → Out β} {b : β} {ρ : Env} (h : o.bind f = .ok b ρ) : ∃ a ρ1, o = .ok a ρ1 ∧ f a ρ1 = .ok b ρ := by
  cases o with
  | ok a ρ1 => exact ⟨a, ρ1, rfl, h⟩
  | exc x ρ1 => cases h
  | bad => cases h
theorem boolEx_cmp {op : CmpOp} {ea eb : Ex} : BoolEx W (.cmp op ea eb) := fun ρ r ρ' h => by
  obtain ⟨_, _, _, h⟩ := bindOk h
  obtain ⟨_, _, _, h⟩ := bindOk h
  split at h
  · exact optB_ok h
  · cases h
theorem boolEx_cmp2 {op op' : CmpOp} {ea eb ec : Ex} : BoolEx W (.cmp2 op op' ea eb ec) := fun ρ r ρ' h => by
  obtain ⟨_, _, _, h⟩ := bindOk h
  obtain ⟨_, _, _, h⟩ := bindOk h
  split at h
  · split at h
    · obtain ⟨_, _, _, h⟩ := bindOk h
      split at h
      · exact optB_ok h
      · cases h
    · cases h
      exact ⟨_, rfl⟩
    · cases h
  · cases h
theorem evT_cmp {op : CmpOp} (hu : X.A.units + 65 < cLine) (ha : PEv X F W a ea) (hb : PEv X F W b eb) (hm : behindInMarks op b = false) : PTv X F W (.Compare a [op] [b] pos) (.val (.cmp op ea eb)) := pt_of fun σ H Q h =>
  ⟨_, pt_cmpR (op_cm hu op) ha hb hm, wish_cmp σ H _ (boolWish boolEx_cmp h)⟩
theorem evT_cmp2 {op op' : CmpOp} (hu : X.A.units + 65 < cLine) (ha : PEv X F W a ea) (hb : PEv X F W b eb) (hc : PEv X F W c ec) (hm : lastMarks [op, op'] [b, c] = false) : PTv X F W (.Compare a [op, op'] [b, c] pos) (.val (.cmp2 op op' ea eb ec)) := pt_of fun σ H Q h =>
  ⟨_, pt_chain (op_cm hu op) (op_cm hu op') ha hb hc hm, wish_cmp2 σ H _ (boolWish boolEx_cmp2 h)⟩
theorem evT_nott {ta : Ts} (ha : PTv X F W a ta) : PTv X F W (.UnaryOp .Not a pos) (.nott ta) := pt_of fun σ H Q h => by
  obtain ⟨G, ρ, rel, post⟩ := h
  obtain ⟨x, ρ1, e1, post_⟩ := Post.bind post; clear post; have post := post_; clear post_
  exact ⟨_, pt_not ha, tT_in rel e1 fun G1 H1 s1 rel1 => post G1 H1 s1 rel1⟩
abbrev PWv (X : Cx) (F : Fx) (W : Wd) (e : Expr) (d : Ts) : Prop := PW X e (tT X.K F (evT W d))
theorem pw_of {e : Expr} {t : TT} (h : ∀ σ H Q, t σ H Q → ∃ t', PW X e t' ∧ t' σ H Q) : PW X e t := ⟨fun wh pins s σ H Q I q => by
  obtain ⟨t', p, q'⟩ := h σ H Q q
  exact p.run wh pins s σ H Q I q'⟩
theorem evT_and {rest : List Expr} {ta tb : Ts} (ha : PTv X F W a ta) (hb : PWv X F W (.BoolOp .And (b :: rest) pos) tb) : PWv X F W (.BoolOp .And (a :: b :: rest) pos) (.and ta tb) := pw_of fun σ H Q h => by
  obtain ⟨G, ρ, rel, post⟩ := h
  obtain ⟨x, ρ1, e1, post_⟩ := Post.bind post; clear post; have post := post_; clear post_
  refine ⟨_, pw_and ha hb, tT_in rel e1 fun G1 H1 s1 rel1 => ?_⟩
  split at post
  · rw [if_pos rfl]
    obtain ⟨r, ρ2, e2, k⟩ := Post.out_ post
    exact tT_in rel1 e2 fun G2 H2 s2 rel2 => k G2 H2 (s1.trans s2) rel2
  · rw [if_neg Bool.false_ne_true]
    exact post G1 H1 s1 rel1
theorem evT_or {rest : List Expr} {ta tb : Ts} (ha : PTv X F W a ta) (hb : PWv X F W (.BoolOp .Or (b :: rest) pos) tb) : PWv X F W (.BoolOp .Or (a :: b :: rest) pos) (.or ta tb) := pw_of fun σ H Q h => by
  obtain ⟨G, ρ, rel, post⟩ := h
  obtain ⟨x, ρ1, e1, post_⟩ := Post.bind post; clear post; have post := post_; clear post_
  refine ⟨_, pw_or ha hb, tT_in rel e1 fun G1 H1 s1 rel1 => ?_⟩
  split at post
  · rw [if_pos rfl]
    exact post G1 H1 s1 rel1
  · rw [if_neg Bool.false_ne_true]
    obtain ⟨r, ρ2, e2, k⟩ := Post.out_ post
    exact tT_in rel1 e2 fun G2 H2 s2 rel2 => k G2 H2 (s1.trans s2) rel2
theorem ev_ite {tc : Ts} (hc : PTv X F W c tc) (ha : PEv X F W a ea) (hb : PEv X F W b eb) : PEv X F W (.IfExp c a b pos) (.ite tc ea eb) := pe_of fun σ H Q h => by
  obtain ⟨G, ρ, rel, post⟩ := h
  obtain ⟨x, ρ1, e1, post_⟩ := Post.bind post; clear post; have post := post_; clear post_
  refine ⟨_, pe_ifExp hc ha hb, tT_in rel e1 fun G1 H1 s1 rel1 => ?_⟩
  obtain ⟨r, ρ2, e2, k⟩ := Post.out_ post
  cases x with
  | true =>
    rw [if_pos rfl]
    exact tE_in rel1 e2 fun G2 H2 z s2 rel2 rr2 => k G2 H2 z (s1.trans s2) rel2 rr2
  | false =>
    rw [if_neg Bool.false_ne_true]
    exact tE_in rel1 e2 fun G2 H2 z s2 rel2 rr2 => k G2 H2 z (s1.trans s2) rel2 rr2
/-! ### argument lists -/
def ZV (K : PySem.W.Frag) (G H : Hp) (σ : L2.St) (ρ : Env) (ds : List PyData) (xs : List V) : Prop := DqAll K G xs ds
abbrev PAv (X : Cx) (F : Fx) (W : Wd) (es : List Expr) (d : Exs) : Prop := PA X es (tA X.K F (ZV X.K) (evs W d))
theorem tA_in {α : Type} {K : PySem.W.Frag} {Z : Hp → Hp → L2.St → Env → α → List V → Prop} {G H : Hp} {σ : L2.St} {ρ : Env} {Q : List V → Hp → Prop} {m : Env → Out α} {r : α} {ρ' : Env} (rel : F.rel K G H σ ρ) (e : m ρ = .ok r ρ') (k : ∀ G' H' x, Same G G' → F.rel K G' H' σ ρ' → Z G' H' σ ρ' r x → Q x H') : tA K F Z m σ H Q :=
  ⟨G, ρ, rel, by rw [e]; exact k⟩
theorem evs_nil : PAv X F W [] .nil := pa_of fun σ H Q h => by
  obtain ⟨G, ρ, rel, post⟩ := h
  exact ⟨_, pa_nil, post G H [] (Same.refl _) rel .nil⟩
theorem evs_cons {es : List Expr} {ds : Exs} (ha : PEv X F W a ea) (hr : PAv X F W es ds) (hs : starEach (a :: es) X.env = (false, eval a X.env) :: starEach es X.env) : PAv X F W (a :: es) (.cons ea ds) := pa_of fun σ H Q h => by
  obtain ⟨G, ρ, rel, post⟩ := h
  obtain ⟨x, ρ1, e1, post_⟩ := Post.bind post; clear post; have post := post_; clear post_
  obtain ⟨d, ρ2, e2, post_⟩ := Post.bind post; clear post; have post := post_; clear post_
  obtain ⟨dl, ρ3, e3, post_⟩ := Post.bind post; clear post; have post := post_; clear post_
  refine ⟨_, pa_cons ha hr hs, tE_frz rel e1 e2 fun G1 H1 vx s1 rel1 rr1 => tA_in rel1 e3 fun G2 H2 vs s2 rel2 z2 => ?_⟩
  exact post G2 H2 _ (s1.trans s2) rel2 (.cons (Dq.mono s2 rr1) z2)
theorem evs_len (W : Wd) : ∀ (es : Exs) (ρ : Env) (ds : List PyData) (ρ' : Env), evs W es ρ = .ok ds ρ' → ds.length = es.len
  | .nil, ρ, ds, ρ', e => by
    cases (show Out.ok [] ρ = .ok ds ρ' from e)
    rfl
  | .cons a es, ρ, ds, ρ', e => by
    have e : ((ev W a ρ).bind fun r ρ1 => (frz r ρ1).bind fun d ρ2 => (evs W es ρ2).bind fun ds ρ3 => Out.ok (d :: ds) ρ3) = .ok ds ρ' := e
    cases q : ev W a ρ with
    | ok r ρ1 =>
      rw [q] at e
      cases q2 : frz r ρ1 with
      | ok d ρ2 =>
        have e : ((frz r ρ1).bind fun d ρ2 => (evs W es ρ2).bind fun ds ρ3 => Out.ok (d :: ds) ρ3) = .ok ds ρ' := e
        rw [q2] at e
        cases q3 : evs W es ρ2 with
        | ok dl ρ3 =>
          have e : ((evs W es ρ2).bind fun ds ρ3 => Out.ok (d :: ds) ρ3) = .ok ds ρ' := e
          rw [q3] at e
          cases (show Out.ok (d :: dl) ρ3 = .ok ds ρ' from e)
          rw [List.length_cons, evs_len W es ρ2 dl _ q3]
          rfl
        | exc x ρ3 =>
          have e : ((evs W es ρ2).bind fun ds ρ3 => Out.ok (d :: ds) ρ3) = .ok ds ρ' := e
          rw [q3] at e
          cases e
        | bad =>
          have e : ((evs W es ρ2).bind fun ds ρ3 => Out.ok (d :: ds) ρ3) = .ok ds ρ' := e
          rw [q3] at e
          cases e
      | exc x ρ2 =>
        have e : ((frz r ρ1).bind fun d ρ2 => (evs W es ρ2).bind fun ds ρ3 => Out.ok (d :: ds) ρ3) = .ok ds ρ' := e
        rw [q2] at e
        cases e
      | bad =>
        have e : ((frz r ρ1).bind fun d ρ2 => (evs W es ρ2).bind fun ds ρ3 => Out.ok (d :: ds) ρ3) = .ok ds ρ' := e
        rw [q2] at e
        cases e
    | exc x ρ1 => rw [q] at e; cases e
    | bad => rw [q] at e; cases e
theorem ev_tup {es : List Expr} {ds : Exs} {k : Nat} (h : PAv X F W es ds) (hl : ds.len ≤ Lm) : PEv X F W (.Tuple es k pos) (.tup ds) := pe_of fun σ H Q q => by
  obtain ⟨G, ρ, rel, post⟩ := q
  obtain ⟨dl, ρ1, e1, post_⟩ := Post.bind post; clear post; have post := post_; clear post_
  refine ⟨_, pe_tup h, tA_in rel e1 fun G1 H1 vs s1 rel1 z1 => ?_⟩
  have z1 : DqAll X.K G1 vs dl := z1
  refine ⟨by rw [z1.length, evs_len W _ _ _ _ e1, Lm_eq]; exact hl, fun p hp => ?_⟩
  obtain ⟨s3, rel3, rr3⟩ := (NewR.tup hp z1).rel rel1
  exact post _ _ _ (s1.trans s3) rel3 rr3
theorem ev_lst {es : List Expr} {ds : Exs} (h : PAv X F W es ds) (hl : ds.len ≤ Lm) : PEv X F W (.List es pos) (.lst ds) := pe_of fun σ H Q q => by
  obtain ⟨G, ρ, rel, post⟩ := q
  obtain ⟨dl, ρ1, e1, post_⟩ := Post.bind post; clear post; have post := post_; clear post_
  refine ⟨_, pe_lst h, tA_in rel e1 fun G1 H1 vs s1 rel1 z1 => ?_⟩
  have z1 : DqAll X.K G1 vs dl := z1
  refine ⟨by rw [z1.length, evs_len W _ _ _ _ e1, Lm_eq]; exact hl, fun p hp => ?_⟩
  obtain ⟨s3, rel3, rr3⟩ := (NewR.lst hp z1).rel rel1
  exact post _ _ _ (s1.trans s3) rel3 rr3
/-! ### items, slices -/
theorem ev_sub (ha : PEv X F W a ea) (hb : PEv X F W b eb) (hs : PlainIx b) : PEv X F W (.Subscript a b pos) (.sub ea eb) := pe_of fun σ H Q h => by
  obtain ⟨G, ρ, rel, post⟩ := h
  obtain ⟨x, ρ1, e1, post_⟩ := Post.bind post; clear post; have post := post_; clear post_
  obtain ⟨y, ρ2, e2, post_⟩ := Post.bind post; clear post; have post := post_; clear post_
  split at post
  · rename_i d e hd he
    obtain ⟨r, er, k⟩ := optV_post post
    refine ⟨_, pe_ix ix_sub ha hb hs, ?_⟩
    refine tE_opd rel e1 fun G1 H1 vx s1 rel1 rr1 no1 => tE_opd rel1 e2 fun G2 H2 vy s2 rel2 rr2 _ => ?_
    exact ⟨G2, d, e, r, rel2.sub, rel2.view (rr1.mono s2 no1) hd, rel2.view rr2 he, er, fun z hz => k G2 H2 z (s1.trans s2) rel2 hz⟩
  · exact post.elim
theorem ev_slc {p2 : Pos} (ha : PEv X F W a ea) (hb : PEv X F W b eb) (hc : PEv X F W c ec) : PEv X F W (.Subscript a (.Slice (some b) (some c) none p2) pos) (.slc ea eb ec) := pe_of fun σ H Q h => by
  obtain ⟨G, ρ, rel, post⟩ := h
  obtain ⟨x, ρ1, e1, post_⟩ := Post.bind post; clear post; have post := post_; clear post_
  obtain ⟨y, ρ2, e2, post_⟩ := Post.bind post; clear post; have post := post_; clear post_
  obtain ⟨w, ρ3, e3, post_⟩ := Post.bind post; clear post; have post := post_; clear post_
  split at post
  · rename_i d i j hd
    obtain ⟨r, er, k⟩ := optR_post post
    refine ⟨_, pe_slice sl_slc ha (po_some hb) (po_some hc), ?_⟩
    refine tE_opd rel e1 fun G1 H1 vx s1 rel1 rr1 no1 => tE_opd rel1 e2 fun G2 H2 vy s2 rel2 rr2 _ => ?_
    cases (show Dq X.K G2 vy (.int i) from rr2)
    refine ⟨i, rfl, tE_opd rel2 e3 fun G3 H3 vz s3 rel3 rr3 _ => ?_⟩
    cases (show Dq X.K G3 vz (.int j) from rr3)
    refine ⟨j, rfl, G3, d, r, rel3.sub, rel3.view (rr1.mono (s2.trans s3) no1) hd, er, fun G' H' z n => ?_⟩
    obtain ⟨s4, rel4, rr4⟩ := n.rel rel3
    exact k G' H' z (s1.trans (s2.trans (s3.trans s4))) rel4 rr4
  · exact post.elim
theorem ev_slcL {p2 : Pos} (ha : PEv X F W a ea) (hb : PEv X F W b eb) : PEv X F W (.Subscript a (.Slice (some b) none none p2) pos) (.slcL ea eb) := pe_of fun σ H Q h => by
  obtain ⟨G, ρ, rel, post⟩ := h
  obtain ⟨x, ρ1, e1, post_⟩ := Post.bind post; clear post; have post := post_; clear post_
  obtain ⟨y, ρ2, e2, post_⟩ := Post.bind post; clear post; have post := post_; clear post_
  split at post
  · rename_i d i hd
    obtain ⟨r, er, k⟩ := optR_post post
    refine ⟨_, pe_slice sl_slc ha (po_some hb) po_none, ?_⟩
    refine tE_opd rel e1 fun G1 H1 vx s1 rel1 rr1 no1 => tE_opd rel1 e2 fun G2 H2 vy s2 rel2 rr2 _ => ?_
    cases (show Dq X.K G2 vy (.int i) from rr2)
    refine ⟨i, rfl, G2, d, r, rel2.sub, rel2.view (rr1.mono s2 no1) hd, er, fun G' H' z n => ?_⟩
    obtain ⟨s4, rel4, rr4⟩ := n.rel rel2
    exact k G' H' z (s1.trans (s2.trans s4)) rel4 rr4
  · exact post.elim
theorem ev_slcH {p2 : Pos} (ha : PEv X F W a ea) (hb : PEv X F W b eb) : PEv X F W (.Subscript a (.Slice none (some b) none p2) pos) (.slcH ea eb) := pe_of fun σ H Q h => by
  obtain ⟨G, ρ, rel, post⟩ := h
  obtain ⟨x, ρ1, e1, post_⟩ := Post.bind post; clear post; have post := post_; clear post_
  obtain ⟨y, ρ2, e2, post_⟩ := Post.bind post; clear post; have post := post_; clear post_
  split at post
  · rename_i d i hd
    obtain ⟨r, er, k⟩ := optR_post post
    refine ⟨_, pe_slice sl_slc ha po_none (po_some hb), ?_⟩
    refine tE_opd rel e1 fun G1 H1 vx s1 rel1 rr1 no1 => tE_opd rel1 e2 fun G2 H2 vy s2 rel2 rr2 _ => ?_
    cases (show Dq X.K G2 vy (.int i) from rr2)
    refine ⟨i, rfl, G2, d, r, rel2.sub, rel2.view (rr1.mono s2 no1) hd, er, fun G' H' z n => ?_⟩
    obtain ⟨s4, rel4, rr4⟩ := n.rel rel2
    exact k G' H' z (s1.trans (s2.trans s4)) rel4 rr4
  · exact post.elim
theorem ev_rev {k : Nat} {p1 p2 p3 : Pos} (ha : PEv X F W a ea) : PEv X F W (.Subscript a (.Slice none none (some (.UnaryOp .USub (.Constant (.int 1) k p1) p2)) p3) pos) (.rev ea) := pe_of fun σ H Q h => by
  obtain ⟨G, ρ, rel, post⟩ := h
  obtain ⟨x, ρ1, e1, post_⟩ := Post.bind post; clear post; have post := post_; clear post_
  split at post
  · rename_i d hd
    obtain ⟨r, er, k⟩ := optR_post post
    unfold revOp at er
    split at er
    · cases er
      refine ⟨_, pe_revL ha, tE_opd rel e1 fun G1 H1 vx s1 rel1 rr1 no1 => ?_⟩
      obtain ⟨a, vs, rfl, h1, h2⟩ := (rel1.view rr1 hd).list rel1.sub
      refine ⟨a, vs, rfl, h1, fun p hp => ?_⟩
      obtain ⟨s4, rel4, rr4⟩ := (NewR.lst hp h2.reverse).rel rel1
      exact k _ _ _ (s1.trans s4) rel4 rr4
    · cases er
  · exact post.elim
/-! ### built-ins -/
def ZR (K : PySem.W.Frag) (F : Fx) (G H : Hp) (σ : L2.St) (ρ : Env) (rs : List R) (xs : List V) : Prop := Paired (fun r x => F.rr K G H σ ρ r x ∧ ∀ b, r ≠ .o b) rs xs
abbrev PRv (X : Cx) (F : Fx) (W : Wd) (es : List Expr) (d : Exs) : Prop := PA X es (tA X.K F (ZR X.K F) (evR W d))
theorem evR_nil : PRv X F W [] .nil := pa_of fun σ H Q h => by
  obtain ⟨G, ρ, rel, post⟩ := h
  exact ⟨_, pa_nil, post G H [] (Same.refl _) rel .nil⟩
theorem evR_cons {es : List Expr} {ds : Exs} (ha : PEv X F W a ea) (hr : PRv X F W es ds) (hs : starEach (a :: es) X.env = (false, eval a X.env) :: starEach es X.env) : PRv X F W (a :: es) (.cons ea ds) := pa_of fun σ H Q h => by
  obtain ⟨G, ρ, rel, post⟩ := h
  obtain ⟨x, ρ1, e1, post_⟩ := Post.bind post; clear post; have post := post_; clear post_
  obtain ⟨dl, ρ2, e2, post_⟩ := Post.bind post; clear post; have post := post_; clear post_
  refine ⟨_, pa_cons ha hr hs, tE_opd rel e1 fun G1 H1 vx s1 rel1 rr1 no1 => tA_in rel1 e2 fun G2 H2 vs s2 rel2 z2 => ?_⟩
  exact post G2 H2 _ (s1.trans s2) rel2 (.cons ⟨rr1.mono s2 no1, no1⟩ z2)
theorem views_all {K : PySem.W.Frag} {G H : Hp} {σ : L2.St} {ρ : Env} (rel : F.rel K G H σ ρ) : ∀ {rs : List R} {xs : List V} {ds : List PyData}, ZR K F G H σ ρ rs xs → views ρ rs = some ds → VAll K G H xs ds
  | [], _, ds, z, e => by
    cases z
    cases e
    exact .nil
  | r :: rs, _, ds, z, e => by
    cases z with
    | cons z1 z2 =>
      have e : (match view ρ r, views ρ rs with
        | some d, some ds => some (d :: ds)
        | _, _ => none) = some ds := e
      split at e
      · rename_i d dl h1 h2
        cases e
        exact .cons (rel.view z1.1 h1) (views_all rel z2 h2)
      · cases e
theorem bi_call (hc : X.calm = true) {bi : Bi} {x : Str} {p : Pos} {es : List Expr} {ds : Exs} (h : PRv X F W (a :: es) ds) (hg : Gl X x) (hm : X.mg x = none) (hv : bootBuiltins x = some (biVal bi)) (hn : x ≠ "__name__") (hdb : (x == ("__debug__" : Str)) = false)
    (he : starEach (a :: es) X.env = (false, eval a X.env) :: starEach es X.env) (hpl : (backTo pos (starEach es X.env)).any (·.1) = false) : PEv X F W (.Call (.Name x p) (a :: es) [] pos) (.bi bi ds) := pe_of fun σ H Q q => by
  obtain ⟨G, ρ, rel, post⟩ := q
  obtain ⟨rs, ρ1, e1, post_⟩ := Post.bind post; clear post; have post := post_; clear post_
  split at post
  · rename_i dl hv'
    obtain ⟨r, er, k⟩ := optR_post post
    have rule : ∃ t, PE X (.Call (.Name x p) (a :: es) [] pos) (tCB (rBi X.K (biOp bi)) t) ∧ t = tA X.K F (ZR X.K F) (evR W ds) := by
      refine ⟨_, ?_, rfl⟩
      have hb := bi_ok hc bi
      cases bi <;> first
        | exact pe_callB hb hg hm hv h hn hdb he hpl
        | exact pe_callTy hb hg hm hv h hn hdb he hpl
    obtain ⟨t, hp, rfl⟩ := rule
    refine ⟨_, hp, tA_in rel e1 fun G1 H1 vs s1 rel1 z1 => ?_⟩
    refine ⟨G1, dl, r, rel1.sub, views_all rel1 z1 hv', er, fun G' H' z n => ?_⟩
    obtain ⟨s4, rel4, rr4⟩ := n.rel rel1
    exact k _ _ _ (s1.trans s4) rel4 rr4
  · exact post.elim
theorem ev_isi {t : String} {y : Str} {p p2 : Pos} (ht : t ∈ isTys) (ha : PEv X F W a ea) (hg : Gl X "isinstance") (hm : X.mg "isinstance" = none) (hgy : Gl X y) (hmy : X.mg y = none) (hvy : bootBuiltins y = some (.type t)) (hny : y ≠ "__name__") (hdy : (y == ("__debug__" : Str)) = false)
    (he : starEach [a, .Name y p2] X.env = (false, eval a X.env) :: starEach [.Name y p2] X.env) : PEv X F W (.Call (.Name "isinstance" p) [a, .Name y p2] [] pos) (.isi ea t) := pe_of fun σ H Q q => by
  obtain ⟨G, ρ, rel, post⟩ := q
  obtain ⟨r, ρ1, e1, post_⟩ := Post.bind post; clear post; have post := post_; clear post_
  split at post
  · rename_i d hd
    refine ⟨_, pe_callB (ist_ok (X := X) ht) hg hm (by decide +kernel) (pa_cons ha (pa_cons (pe_bltn (v := .ty t) hgy hmy hvy rfl hny hdy) pa_nil) he) (by decide) (by decide) he, ?_⟩
    refine tE_opd rel e1 fun G1 H1 vx s1 rel1 rr1 no1 => ?_
    exact ⟨G1, vx, d, rfl, rel1.sub, rel1.view rr1 hd, post G1 H1 _ s1 rel1 (.bl _)⟩
  · exact post.elim
end
end Rc

set_option Elab.async false
set_option linter.all false
set_option maxRecDepth 100000
set_option maxHeartbeats 1000000
namespace Rc
open PySem PySem.Spec PyProof.Rows L2

/-! ### methods of lists in slots -/
section
variable {X : Cx} {F : Fx} {W : Wd} {pos apos : Pos} {a : Expr} {ea : Ex}
theorem few1 (hs : starEach [a] X.env = (false, eval a X.env) :: starEach [] X.env) : ((backTo pos (starEach [a] X.env)).all (fun x => !x.1) && (backToKw pos (keywordEach [] X.env)).all (fun x => x.1.isSome)
      && decide ([a].length + ([] : List Keyword).length + (if ([] : List Keyword).isEmpty then 0 else 1) < 30)) = true := by
  rw [hs]
  rfl
theorem mu_slot {ρ : Env} {i : Nat} {f : List PyData → Out R} {ok : R → Env → Prop} (h : Post (match ρ[i]? with
    | some (.o (.lst xs)) => f xs
    | _ => .bad) ok) : ∃ xs, ρ[i]? = some (.o (.lst xs)) ∧ Post (f xs) ok := by
  split at h
  · rename_i xs e
    exact ⟨xs, e, h⟩
  · exact h.elim
theorem Rel.slotL {K : PySem.W.Frag} {G H : Hp} {σ : L2.St} {ρ : Env} (rel : F.rel K G H σ ρ) {i : Nat} {xs : List PyData} (e : ρ[i]? = some (.o (.lst xs))) : ∃ l vs, σ[i]? = some (some (.ref l)) ∧ H l = some (.lst vs) ∧ DqAll K G vs xs := by
  obtain ⟨l, h1, _, _, vs, h2, h3⟩ := rel.own i _ e
  exact ⟨l, vs, h1, h2, h3⟩
theorem mu_app {i : Nat} {x : Str} {p : Pos} (hN : X.N[i]? = some x) (hv : Vis X.env.scope x) (hd : (x == ("__debug__" : Str)) = false) (hcd : (x == ("__classdict__" : Str)) = false) (ha : PEv X F W a ea)
    (hs : starEach [a] X.env = (false, eval a X.env) :: starEach [] X.env) (hl : (apos.endLine == pos.line) = true) : PEv X F W (.Call (.Attribute (.Name x p) "append" apos) [a] [] pos) (.mu .append i (.cons ea .nil)) := pe_of fun σ H Q q => by
  obtain ⟨G, ρ, rel, post⟩ := q
  obtain ⟨xs0, e0, post_⟩ := mu_slot post; clear post; have post := post_; clear post_
  obtain ⟨ds, ρ1, e1, post_⟩ := Post.bind post; clear post; have post := post_; clear post_
  obtain ⟨xs, e2, post_⟩ := mu_slot post; clear post; have post := post_; clear post_
  refine ⟨_, pe_bm PySem.F.plainAttrs_list PySem.F.slot_list_append PySem.F.type_list_append mt_append (pe_var (i := i) hN hv hd hcd) (evs_cons ha evs_nil hs) rfl (few1 hs) hl hs rfl, ?_⟩
  obtain ⟨l, vs0, f1, f2, f3⟩ := Rel.slotL rel e0
  refine ⟨_, f1, .inl ⟨rfl, _, SqL.of f2⟩, tA_in rel e1 fun G1 H1 ys s1 rel1 z1 => ?_⟩
  obtain ⟨l', vs, g1, g2, g3⟩ := Rel.slotL rel1 e2
  rw [f1] at g1
  cases g1
  split at post
  · rename_i d ys' em
    unfold muOp at em
    split at em
    · split at em
      · cases em
        cases z1 with
        | cons w1 w2 =>
          cases w2
          refine ⟨l, vs, _, rfl, rfl, g2, by rw [g3.length, Lm_eq]; assumption, ?_⟩
          have rel2 := rel1.put e2 f1 (g3.append (DqAll.one w1))
          exact post _ _ _ s1 rel2 .non
      · cases em
    all_goals first
      | (cases em; done)
      | (rename_i z; cases z)
      | simp at em
  · exact post.elim
theorem mu_pop {i : Nat} {x : Str} {p : Pos} (hN : X.N[i]? = some x) (hv : Vis X.env.scope x) (hd : (x == ("__debug__" : Str)) = false) (hcd : (x == ("__classdict__" : Str)) = false)
    (hl : (apos.endLine == pos.line) = true) : PEv X F W (.Call (.Attribute (.Name x p) "pop" apos) [] [] pos) (.mu .pop i .nil) := pe_of fun σ H Q q => by
  obtain ⟨G, ρ, rel, post⟩ := q
  obtain ⟨xs0, e0, post_⟩ := mu_slot post; clear post; have post := post_; clear post_
  obtain ⟨xs, e2, post_⟩ := mu_slot post; clear post; have post := post_; clear post_
  refine ⟨_, pe_bm0 PySem.F.plainAttrs_list PySem.F.slot_list_pop PySem.F.type_list_pop mt_pop (pe_var (i := i) hN hv hd hcd) rfl hl, ?_⟩
  obtain ⟨l, vs0, f1, f2, f3⟩ := Rel.slotL rel e0
  refine ⟨_, f1, .inl ⟨rfl, _, SqL.of f2⟩, ?_⟩
  rw [e0] at e2
  cases e2
  split at post
  · rename_i d ys' em
    obtain ⟨d', h1, h2⟩ := Option.map_eq_some_iff.mp (show (xs0[xs0.length - 1]?).map (fun d => (d, xs0.dropLast)) = some (d, ys') from em)
    cases h2
    obtain ⟨v, h3, h4⟩ := f3.get h1
    refine ⟨l, vs0, v, rfl, rfl, f2, by rw [f3.length]; exact h3, ?_⟩
    have rel2 := rel.put e0 f1 f3.dropLast
    exact post _ _ _ (Same.refl _) rel2 h4
  · exact post.elim
theorem muOp_popAt {xs ds ys : List PyData} {d : PyData} (em : muOp .popAt xs ds = some (d, ys)) : ∃ k : Int, ds = [.int k] ∧ 0 ≤ k ∧ k < 2 ^ 63 ∧ xs[k.toNat]? = some d ∧ ys = xs.eraseIdx k.toNat := by
  match ds, em with
  | [.int k], em =>
    have em : (if leI 0 k && within 9223372036854775807 k then (xs[k.toNat]?).map fun d => (d, xs.eraseIdx k.toNat) else none) = some (d, ys) := em
    split at em
    · rename_i hk
      obtain ⟨d', h1, h2⟩ := Option.map_eq_some_iff.mp em
      cases h2
      rw [Bool.and_eq_true, within_iff, leI_eq, decide_eq_true_iff] at hk
      exact ⟨k, rfl, hk.1, by omega, h1, rfl⟩
    · cases em
  | [], em => cases em
  | [.none], em => cases em
  | [.bool _], em => cases em
  | [.str _], em => cases em
  | [.list _], em => cases em
  | [.tuple _], em => cases em
  | [.dict _], em => cases em
  | _ :: _ :: _, em => simp [muOp] at em
theorem mu_popAt {i : Nat} {x : Str} {p : Pos} (hN : X.N[i]? = some x) (hv : Vis X.env.scope x) (hd : (x == ("__debug__" : Str)) = false) (hcd : (x == ("__classdict__" : Str)) = false) (ha : PEv X F W a ea)
    (hs : starEach [a] X.env = (false, eval a X.env) :: starEach [] X.env) (hl : (apos.endLine == pos.line) = true) : PEv X F W (.Call (.Attribute (.Name x p) "pop" apos) [a] [] pos) (.mu .popAt i (.cons ea .nil)) := pe_of fun σ H Q q => by
  obtain ⟨G, ρ, rel, post⟩ := q
  obtain ⟨xs0, e0, post_⟩ := mu_slot post; clear post; have post := post_; clear post_
  obtain ⟨ds, ρ1, e1, post_⟩ := Post.bind post; clear post; have post := post_; clear post_
  obtain ⟨xs, e2, post_⟩ := mu_slot post; clear post; have post := post_; clear post_
  refine ⟨_, pe_bm PySem.F.plainAttrs_list PySem.F.slot_list_pop PySem.F.type_list_pop mt_popAt (pe_var (i := i) hN hv hd hcd) (evs_cons ha evs_nil hs) rfl (few1 hs) hl hs rfl, ?_⟩
  obtain ⟨l, vs0, f1, f2, f3⟩ := Rel.slotL rel e0
  refine ⟨_, f1, .inl ⟨rfl, _, SqL.of f2⟩, tA_in rel e1 fun G1 H1 ys s1 rel1 z1 => ?_⟩
  obtain ⟨l', vs, g1, g2, g3⟩ := Rel.slotL rel1 e2
  rw [f1] at g1
  cases g1
  split at post
  · rename_i d ys' em
    obtain ⟨k, e3, k0, k1, h1, e4⟩ := muOp_popAt em
    subst e3 e4
    cases z1 with
    | cons w1 w2 =>
      cases w2
      cases w1
      obtain ⟨v, h3, h4⟩ := g3.get h1
      have hlen : k.toNat < xs.length := (List.getElem?_eq_some_iff.mp h1).1
      refine ⟨l, vs, k, k.toNat, v, rfl, rfl, g2, by omega, k1, ?_, h3, ?_⟩
      · exact PySem.StrLaws.seqIndex_nonneg k0 (by rw [g3.length]; omega)
      · exact post _ _ _ s1 (rel1.put e2 f1 (g3.eraseIdx k.toNat)) h4
  · exact post.elim
/-! ### methods that change nothing -/
def pmName : Pm → Str
  | .join => "join"
  | .index => "index"
theorem mt_indexS : MtR X "str.index" (fun x xs H Q => ∃ a b i rest, x = .str a ∧ xs = [.str b] ∧ Builtin.Str.occurrences a b 0 a.length 1 = i :: rest ∧ Q (.int (i : Nat)) H) := by
  intro pins s σ H x xs v us Q I rx rs h
  obtain ⟨a, b, i, rest, rfl, rfl, ho, h⟩ := h
  obtain ⟨t, rfl⟩ := rx
  cases rs with
  | cons r1 rs =>
    cases rs
    obtain ⟨u, rfl⟩ := r1
    exact PySem.SC.index ho ⟨.int (i : Nat), H, I.tok _, ⟨_, rfl⟩, h⟩
theorem kd_str {d : PyData} (h : kd d = 2) : ∃ z, d = .str z := by
  cases d with
  | str z => exact ⟨z, rfl⟩
  | _ => cases h
theorem ev_pm {m : Pm} {o : Expr} {eo : Ex} (ho : PEv X F W o eo) (ha : PEv X F W a ea) (hb : ∀ n, attributeBase o n X.env (eval o X.env) = eval o X.env)
    (hs : starEach [a] X.env = (false, eval a X.env) :: starEach [] X.env) (hl : (apos.endLine == pos.line) = true) : PEv X F W (.Call (.Attribute o (pmName m) apos) [a] [] pos) (.pm m eo (.cons ea .nil)) := pe_of fun σ H Q q => by
  obtain ⟨G, ρ, rel, post⟩ := q
  obtain ⟨x, ρ1, e1, post_⟩ := Post.bind post; clear post; have post := post_; clear post_
  split at post
  · rename_i d0 hd0
    obtain ⟨rs, ρ2, e2, post_⟩ := Post.bind post; clear post; have post := post_; clear post_
    split at post
    · rename_i d ds hd hds
      split at post
      · rename_i hk
        obtain ⟨r, er, k⟩ := optR_post post
        unfold pmOp at er
        split at er
        · rename_i y dl
          obtain ⟨z0, rfl⟩ := kd_str (show kd d0 = 2 from hk)
          split at er
          · rename_i ys hys
            split at er
            · rename_i hlen
              cases er
              refine ⟨_, pe_bm PySem.F.plainAttrs_str PySem.F.slot_str_join PySem.F.type_str_join mt_join ho (evR_cons ha evR_nil hs) (hb _) (few1 hs) hl hs rfl, ?_⟩
              refine tE_opd rel e1 fun G1 H1 vx s1 rel1 rr1 no1 => ?_
              have v0 := (rel1.view rr1 hd0).str
              subst v0
              refine ⟨rfl, tA_in rel1 e2 fun G2 H2 vs s2 rel2 z2 => ?_⟩
              have v1 := (rel2.view (rr1.mono s2 no1) hd).str
              cases v1
              cases views_all rel2 z2 hds with
              | cons h1 h2 =>
                cases h2
                cases dl with
                | list xs =>
                  obtain ⟨l, ws, rfl, g1, g2⟩ := h1.list rel2.sub
                  rw [strs_dq g2 hys] at g1
                  exact ⟨_, _, _, rfl, rfl, .inl g1, hlen, k G2 H2 _ (s1.trans s2) rel2 (.str _)⟩
                | tuple xs =>
                  obtain ⟨l, ws, rfl, g1, g2⟩ := h1.tup rel2.sub
                  rw [strs_dq g2 hys] at g1
                  exact ⟨_, _, _, rfl, rfl, .inr g1, hlen, k G2 H2 _ (s1.trans s2) rel2 (.str _)⟩
                | _ => cases hys
            · cases er
          · cases er
        · rename_i y w
          obtain ⟨z0, rfl⟩ := kd_str (show kd d0 = 2 from hk)
          split at er
          · rename_i i rest hi
            cases er
            refine ⟨_, pe_bm PySem.F.plainAttrs_str PySem.F.slot_str_index PySem.F.type_str_index mt_indexS ho (evR_cons ha evR_nil hs) (hb _) (few1 hs) hl hs rfl, ?_⟩
            refine tE_opd rel e1 fun G1 H1 vx s1 rel1 rr1 no1 => ?_
            have v0 := (rel1.view rr1 hd0).str
            subst v0
            refine ⟨rfl, tA_in rel1 e2 fun G2 H2 vs s2 rel2 z2 => ?_⟩
            have v1 := (rel2.view (rr1.mono s2 no1) hd).str
            cases v1
            cases views_all rel2 z2 hds with
            | cons h1 h2 =>
              cases h2
              cases h1.str
              exact ⟨_, _, _, _, rfl, rfl, hi, k G2 H2 _ (s1.trans s2) rel2 (.int _)⟩
          · cases er
        · cases er
      · exact post.elim
    · exact post.elim
  · exact post.elim
end

/-! ### slots forgotten -/
theorem wipe_get : ∀ (σ : L2.St) (vs : List Nat) (j : Nat), (wipe σ vs)[j]? = if j ∈ vs then (σ[j]?).map (fun _ => none) else σ[j]?
  | σ, [], j => by simp [wipe]
  | σ, v :: vs, j => by
    have ih := wipe_get σ vs j
    unfold wipe
    by_cases e : v = j
    · subst e
      rw [if_pos List.mem_cons_self]
      by_cases hl : v < σ.length
      · rw [List.getElem?_set_self (by rw [wipe_length]; exact hl), List.getElem?_eq_getElem hl]
        rfl
      · rw [List.getElem?_eq_none (by rw [List.length_set, wipe_length]; omega), List.getElem?_eq_none (by omega)]
        rfl
    · rw [List.getElem?_set_ne e, ih]
      by_cases h : j ∈ vs
      · rw [if_pos h, if_pos (List.mem_cons_of_mem _ h)]
      · rw [if_neg h, if_neg (by simp only [List.mem_cons, not_or]; exact ⟨Ne.symm e, h⟩)]
theorem wipes_length (ρ : Env) : ∀ vs : List Nat, (wipes ρ vs).length = ρ.length
  | [] => rfl
  | v :: vs => by unfold wipes; rw [List.length_set, wipes_length ρ vs]
theorem wipes_get : ∀ (ρ : Env) (vs : List Nat) (j : Nat), (wipes ρ vs)[j]? = if j ∈ vs then (ρ[j]?).map (fun _ => .un) else ρ[j]?
  | ρ, [], j => by simp [wipes]
  | ρ, v :: vs, j => by
    have ih := wipes_get ρ vs j
    unfold wipes
    by_cases e : v = j
    · subst e
      rw [if_pos List.mem_cons_self]
      by_cases hl : v < ρ.length
      · rw [List.getElem?_set_self (by rw [wipes_length]; exact hl), List.getElem?_eq_getElem hl]
        rfl
      · rw [List.getElem?_eq_none (by rw [List.length_set, wipes_length]; omega), List.getElem?_eq_none (by omega)]
        rfl
    · rw [List.getElem?_set_ne e, ih]
      by_cases h : j ∈ vs
      · rw [if_pos h, if_pos (List.mem_cons_of_mem _ h)]
      · rw [if_neg h, if_neg (by simp only [List.mem_cons, not_or]; exact ⟨Ne.symm e, h⟩)]
theorem unwipe_length (ρ₀ ρ : Env) : ∀ vs : List Nat, (unwipe ρ₀ ρ vs).length = ρ.length
  | [] => rfl
  | v :: vs => by unfold unwipe; rw [List.length_set, unwipe_length ρ₀ ρ vs]
theorem unwipe_get : ∀ (ρ₀ ρ : Env) (vs : List Nat) (j : Nat), (unwipe ρ₀ ρ vs)[j]? = if j ∈ vs then (ρ[j]?).map (fun _ => match ρ₀[j]? with | some (.v d) => .v d | _ => .un) else ρ[j]?
  | ρ₀, ρ, [], j => by simp [unwipe]
  | ρ₀, ρ, v :: vs, j => by
    have ih := unwipe_get ρ₀ ρ vs j
    unfold unwipe
    by_cases e : v = j
    · subst e
      rw [if_pos List.mem_cons_self]
      by_cases hl : v < ρ.length
      · rw [List.getElem?_set_self (by rw [unwipe_length]; exact hl), List.getElem?_eq_getElem hl]
        rfl
      · rw [List.getElem?_eq_none (l := (unwipe ρ₀ ρ vs).set v _) (by rw [List.length_set, unwipe_length]; omega), List.getElem?_eq_none (l := ρ) (by omega)]
        rfl
    · rw [List.getElem?_set_ne e, ih]
      by_cases h : j ∈ vs
      · rw [if_pos h, if_pos (List.mem_cons_of_mem _ h)]
      · rw [if_neg h, if_neg (by simp only [List.mem_cons, not_or]; exact ⟨Ne.symm e, h⟩)]
theorem wipe_eq {σ σ' : L2.St} {vs : List Nat} (hl : σ'.length = σ.length) (h : ∀ j, j ∉ vs → σ'[j]? = σ[j]?) : wipe σ' vs = wipe σ vs := by
  apply List.ext_getElem?
  intro j
  rw [wipe_get, wipe_get]
  by_cases hj : j ∈ vs
  · rw [if_pos hj, if_pos hj]
    by_cases l : j < σ.length
    · rw [List.getElem?_eq_getElem l, List.getElem?_eq_getElem (by omega)]
      rfl
    · rw [List.getElem?_eq_none (by omega), List.getElem?_eq_none (by omega)]
  · rw [if_neg hj, if_neg hj]
    exact h j hj
section
variable {K : PySem.W.Frag} {B : Hp} {P : Pn} {G H G' H' : Hp} {σ : L2.St} {ρ : Env}
theorem Rel.wipe (rel : Rel K B P G H σ ρ) {vs : List Nat} (np : ∀ p ∈ P.l, p.1 ∉ vs) : Rel K B P G H (wipe σ vs) (wipes ρ vs) := by
  have out : ∀ {j : Nat} {s : Sl}, (wipes ρ vs)[j]? = some s → s ≠ .un → j ∉ vs ∧ ρ[j]? = some s := fun {j s} e ne => by
    rw [wipes_get] at e
    by_cases h : j ∈ vs
    · rw [if_pos h] at e
      obtain ⟨a, _, h2⟩ := Option.map_eq_some_iff.mp e
      exact absurd h2.symm ne
    · rw [if_neg h] at e
      exact ⟨h, e⟩
  have same : ∀ {j : Nat}, j ∉ vs → (L2.wipe σ vs)[j]? = σ[j]? := fun {j} h => by rw [wipe_get, if_neg h]
  refine ⟨rel.sub, rel.bys, fun p hp => by rw [same (np p hp)]; exact rel.pin p hp, by rw [wipes_length, wipe_length]; exact rel.len, fun i d e => ?_, fun i b e => ?_, fun i j a b c e e' r r' => ?_, rel.std⟩
  · obtain ⟨n, e⟩ := out e (by intro z; cases z)
    obtain ⟨x, h1, h2⟩ := rel.val i d e
    exact ⟨x, by rw [same n]; exact h1, h2⟩
  · obtain ⟨n, e⟩ := out e (by intro z; cases z)
    obtain ⟨x, h1, h2⟩ := rel.own i b e
    exact ⟨x, by rw [same n]; exact h1, h2⟩
  · obtain ⟨n, e⟩ := out e (by intro z; cases z)
    obtain ⟨n', e'⟩ := out e' (by intro z; cases z)
    rw [same n] at r
    rw [same n'] at r'
    exact rel.sep i j a b c e e' r r'
/-- behind a comprehension -/
theorem Rel.unwipe {ρ₀ : Env} {G₀ H₀ : Hp} (rel₀ : Rel K B P G₀ H₀ σ ρ₀) (rel : Rel K B P G H (L2.wipe σ vs) ρ) (sg : Same G₀ G) : Rel K B P G H σ (unwipe ρ₀ ρ vs) := by
  have same : ∀ {j : Nat}, j ∉ vs → (L2.wipe σ vs)[j]? = σ[j]? := fun {j} h => by rw [wipe_get, if_neg h]
  have own : ∀ {j : Nat} {b : Ob}, (Rc.unwipe ρ₀ ρ vs)[j]? = some (.o b) → j ∉ vs ∧ ρ[j]? = some (.o b) := fun {j b} e => by
    rw [unwipe_get] at e
    by_cases h : j ∈ vs
    · rw [if_pos h] at e
      obtain ⟨a, _, h2⟩ := Option.map_eq_some_iff.mp e
      split at h2 <;> cases h2
    · rw [if_neg h] at e
      exact ⟨h, e⟩
  refine ⟨rel.sub, rel.bys, rel₀.pin, by rw [unwipe_length, rel.len, wipe_length], fun i d e => ?_, fun i b e => ?_, fun i j a b c e e' r r' => ?_, rel.std⟩
  · rw [unwipe_get] at e
    by_cases h : i ∈ vs
    · rw [if_pos h] at e
      obtain ⟨a, _, h2⟩ := Option.map_eq_some_iff.mp e
      split at h2
      · rename_i d' q
        cases h2
        obtain ⟨x, h1, h2⟩ := rel₀.val i d q
        exact ⟨x, h1, Dq.mono sg h2⟩
      · cases h2
    · rw [if_neg h] at e
      obtain ⟨x, h1, h2⟩ := rel.val i d e
      exact ⟨x, by rw [← same h]; exact h1, h2⟩
  · obtain ⟨n, e⟩ := own e
    obtain ⟨x, h1, h2⟩ := rel.own i b e
    exact ⟨x, by rw [← same n]; exact h1, h2⟩
  · obtain ⟨n, e⟩ := own e
    obtain ⟨n', e'⟩ := own e'
    exact rel.sep i j a b c e e' (by rw [same n]; exact r) (by rw [same n']; exact r')
/-- a bystander more -/
theorem Rel.by_ {D : Addr} {o : HO} (rel : Rel K B P G H σ ρ) (hD : H D = some o) (gD : G D = none) (no : ∀ (i : Nat) (c : Ob), ρ[i]? = some (.o c) → σ[i]? ≠ some (some (.ref D))) : Rel K (upd B D o) P G H σ ρ := by
  refine ⟨rel.sub, fun b u e => ?_, rel.pin, rel.len, rel.val, fun i b e => ?_, rel.sep, fun a u e => ?_⟩
  · by_cases h : b = D
    · subst h
      rw [upd_same] at e
      cases e
      exact ⟨hD, gD⟩
    · rw [upd_ne h] at e
      exact rel.bys b u e
  · obtain ⟨a, h1, h2, h3, h4⟩ := rel.own i b e
    have h : a ≠ D := by
      rintro rfl
      exact no i b e h1
    exact ⟨a, h1, h2, (upd_ne h).trans h3, h4⟩
  · have z := rel.std a u e
    by_cases h : a = D
    · subst h
      rw [(rel.bys _ _ z).1] at hD
      rw [upd_same, hD]
    · rw [upd_ne h]
      exact z
/-- .. changes while nobody looks -/
theorem Rel.step {D : Addr} {o o' : HO} (rel : Rel K (upd B D o) P G H σ ρ) (pD : P.o D = none) : Rel K (upd B D o') P G (upd H D o') σ ρ := by
  have gD : G D = none := (rel.bys D o upd_same).2
  refine ⟨fun b u e => ?_, fun b u e => ?_, rel.pin, rel.len, rel.val, fun i b e => ?_, rel.sep, fun a u e => ?_⟩
  · rw [upd_ne (ne_of_none e gD)]
    exact rel.sub _ _ e
  · by_cases h : b = D
    · subst h
      rw [upd_same] at e
      cases e
      exact ⟨upd_same, gD⟩
    · rw [upd_ne h] at e ⊢
      exact rel.bys b u (by rw [upd_ne h]; exact e)
  · obtain ⟨a, h1, h2, h3, h4⟩ := rel.own i b e
    have h : a ≠ D := by
      rintro rfl
      rw [upd_same] at h3
      cases h3
    rw [upd_ne h] at h3
    exact ⟨a, h1, h2, (upd_ne h).trans h3, h4.mono (Same.refl _) (upd_ne h)⟩
  · have z := rel.std a u e
    have h : a ≠ D := ne_of_none e pD
    rw [upd_ne h] at z ⊢
    exact z
/-- .. is known again -/
theorem Rel.unby {D : Addr} {o : HO} (rel : Rel K (upd B D o) P G H σ ρ) (bD : B D = none) (st : ∀ a o, P.o a = some o → B a = some o) : Rel K B P G H σ ρ ∧ H D = some o ∧ G D = none ∧ ∀ (i : Nat) (c : Ob), ρ[i]? = some (.o c) → σ[i]? ≠ some (some (.ref D)) := by
  obtain ⟨q1, q2⟩ := rel.bys D o upd_same
  have ne : ∀ (i : Nat) (c : Ob) (a : Addr), ρ[i]? = some (.o c) → σ[i]? = some (some (.ref a)) → a ≠ D := fun i c a e s => by
    obtain ⟨a', h1, h2, h3, h4⟩ := rel.own i c e
    rw [s] at h1
    cases h1
    rintro rfl
    rw [upd_same] at h3
    cases h3
  refine ⟨⟨rel.sub, fun b u e => ?_, rel.pin, rel.len, rel.val, fun i b e => ?_, rel.sep, st⟩, q1, q2, fun i c e s => ne i c D e s rfl⟩
  · have h : b ≠ D := by
      rintro rfl
      rw [bD] at e
      cases e
    exact rel.bys b u (by rw [upd_ne h]; exact e)
  · obtain ⟨a, h1, h2, h3, h4⟩ := rel.own i b e
    rw [upd_ne (ne i b a e h1)] at h3
    exact ⟨a, h1, h2, h3, h4⟩
end

/-! ### targets -/
def Tg.slots : Tg → List Nat
  | .nm i => [i]
  | .tp is => is
/-- data are laid into a target -/
def tG (K : PySem.W.Frag) (F : Fx) (tg : Tg) : TG := fun v σ H Q => ∃ G ρ d ρ', F.rel K G H σ ρ ∧ Dq K G v d ∧ setTg tg d ρ = some ρ' ∧ ∀ σ', F.rel K G H σ' ρ' → (∀ j, j ∉ tg.slots → σ'[j]? = σ[j]?) → σ'.length = σ.length → Q σ' H
theorem pg_of {X : Cx} {tg : Expr} {t : TG} (h : ∀ v σ H Q, t v σ H Q → ∃ t', PG X tg t' ∧ t' v σ H Q) : PG X tg t := ⟨fun pins s σ H v u Q I r q => by
  obtain ⟨t', p, q'⟩ := h v σ H Q q
  exact p.run pins s σ H v u Q I r q'⟩
section
variable {X : Cx} {F : Fx} {W : Wd} {pos : Pos}
structure TgOk (X : Cx) (F : Fx) (i : Nat) (x : Str) : Prop where
  nm : X.N[i]? = some x
  lc : Loc X.env.scope x
  fn : X.fn x = true ∨ X.env.scope.names.lookup x = some .local
  np : ∀ p ∈ F.P.l, p.1 ≠ i
theorem tg_nm (nd : X.N.Nodup) {i : Nat} {x : Str} (h : TgOk X F i x) : PG X (.Name x pos) (tG X.K F (.nm i)) := pg_of fun v σ H Q q => by
  obtain ⟨G, ρ, d, ρ', rel, hd, e, k⟩ := q
  cases e
  refine ⟨_, pg_name (i := i) nd h.nm h.lc h.fn, k _ (rel.setV hd h.np) (fun j hj => ?_) (by rw [List.length_set])⟩
  rw [List.getElem?_set_ne (by intro z; subst z; exact hj (List.mem_singleton.mpr rfl))]
inductive TgsOk (X : Cx) (F : Fx) : List Nat → List Expr → Prop
  | nil : TgsOk X F [] []
  | cons {i : Nat} {x : Str} {p : Pos} {is : List Nat} {es : List Expr} : TgOk X F i x → TgsOk X F is es → TgsOk X F (i :: is) (.Name x p :: es)
theorem assignEach_len : ∀ {is : List Nat} {es : List Expr}, TgsOk X F is es → (assignEach es X.env).length = is.length ∧ (assignEach es X.env).findIdx? (·.1) = none
  | [], _, .nil => ⟨rfl, rfl⟩
  | i :: is, _, .cons h t => by
    obtain ⟨h1, h2⟩ := assignEach_len t
    refine ⟨by show (assignEach _ X.env).length + 1 = _; rw [h1]; rfl, ?_⟩
    show List.findIdx? _ ((false, _) :: _) = none
    rw [List.findIdx?_cons, h2]
    rfl
theorem tgs_ok (nd : X.N.Nodup) : ∀ {is : List Nat} {es : List Expr}, TgsOk X F is es → PGs X es (fun vs σ H Q => ∃ G ρ ds, F.rel X.K G H σ ρ ∧ DqAll X.K G vs ds ∧ ds.length = is.length ∧
      ∀ σ', F.rel X.K G H σ' (setAll ρ is ds) → (∀ j, j ∉ is → σ'[j]? = σ[j]?) → σ'.length = σ.length → Q σ' H)
  | [], _, .nil => ⟨fun pins s σ H vs us Q I r q => by
      obtain ⟨G, ρ, ds, rel, hd, hl, k⟩ := q
      have e : ds = [] := List.eq_nil_of_length_eq_zero (by rw [hl]; rfl)
      subst e
      cases hd
      exact pgs_nil.run pins s σ H [] us Q I r ⟨rfl, k σ rel (fun _ _ => rfl) rfl⟩⟩
  | i :: is, _, .cons h t => ⟨fun pins s σ H vs us Q I r q => by
      obtain ⟨G, ρ, ds, rel, hd, hl, k⟩ := q
      cases hd with
      | nil => cases hl
      | cons h1 h2 =>
        rename_i v vs d ds
        refine (pgs_cons (pg_name (i := i) nd h.nm h.lc h.fn) (tgs_ok nd t)).run pins s σ H _ us Q I r ⟨_, _, rfl, ?_⟩
        refine ⟨G, ρ.set i (.v d), ds, rel.setV h1 h.np, h2, Nat.succ.inj hl, fun σ' rel' a l => k σ' rel' (fun j hj => ?_) (by rw [l, List.length_set])⟩
        have h1 : j ≠ i := fun z => hj (z ▸ List.mem_cons_self)
        have h2 : j ∉ is := fun z => hj (List.mem_cons_of_mem _ z)
        rw [a j h2, List.getElem?_set_ne (Ne.symm h1)]⟩
theorem tg_tp (hc : X.calm = true) (nd : X.N.Nodup) {is : List Nat} {es : List Expr} {k : Nat} (h : TgsOk X F is es) : PG X (.Tuple es k pos) (tG X.K F (.tp is)) := pg_of fun v σ H Q q => by
  obtain ⟨G, ρ, d, ρ', rel, hd, e, k⟩ := q
  obtain ⟨l1, l2⟩ := assignEach_len h
  refine ⟨_, pg_tup hc (tgs_ok nd h) l1 l2, ?_⟩
  unfold setTg at e
  simp only at e
  split at e
  · rename_i xs
    split at e
    · rename_i hl
      cases e
      cases hd with
      | tup h1 h2 =>
        exact ⟨_, _, rfl, SqT.mono rel.sub h1, by rw [h2.length, hl], G, ρ, xs, rel, h2, hl, k⟩
    · cases e
  · cases e
end
end Rc

set_option Elab.async false
set_option linter.all false
set_option maxRecDepth 100000
set_option maxHeartbeats 1000000
namespace Rc
open PySem PySem.Spec PyProof.Rows L2

/-- J walks the data ds while G stands -/
def WalkD (K : PySem.W.Frag) (G : Hp) (J : L2.It) (ds : List PyData) : Prop := ∃ Gw Y, Walk J ds.length Gw Y ∧ (∀ H, Same G H → Gw H) ∧
  ∀ i H x H' G1, i < ds.length → Same G G1 → Same G1 H → Y i H x H' → ∃ d G2, ds[i]? = some d ∧ NewR K G1 H G2 H' (.v d) x
def tI (K : PySem.W.Frag) (F : Fx) (m : Env → Out Src) : TI := fun σ H R => ∃ G ρ, F.rel K G H σ ρ ∧ Post (m ρ) fun src ρ' => ∃ ds, src = .items ds ∧ ∀ G' H' J, Same G G' → F.rel K G' H' σ ρ' → WalkD K G' J ds → R J H'
theorem walkD_at {K : PySem.W.Frag} {G : Hp} {J : L2.It} {ds : List PyData} {vs : List V} {Gw : Hp → Prop} (w : Walk J vs.length Gw (YAt vs)) (hg : ∀ H, Same G H → Gw H) (hd : DqAll K G vs ds) : WalkD K G J ds := by
  refine ⟨Gw, YAt vs, by rw [← hd.length]; exact w, hg, fun i H x H' G1 hi s1 s2 y => ?_⟩
  obtain ⟨rfl, e⟩ := y
  obtain ⟨v, e1, e2⟩ := hd.get (i := i) (d := ds[i]) (by simp [hi])
  rw [e] at e1
  cases e1
  exact ⟨ds[i], G1, by simp [hi], .val (Dq.mono s1 e2)⟩
section
variable {X : Cx} {F : Fx} {W : Wd} {pos : Pos} {tg a b : Expr} {ea eb : Ex}
theorem it_seq (ha : PEv X F W a ea) : PI X tg a (tI X.K F (evI W (.seq ea))) := pi_of fun σ H R q => by
  obtain ⟨G, ρ, rel, post⟩ := q
  obtain ⟨r, ρ1, e1, post_⟩ := Post.bind post; clear post; have post := post_; clear post_
  obtain ⟨d, ρ2, e2, post_⟩ := Post.bind post; clear post; have post := post_; clear post_
  cases d with
  | list xs =>
    obtain ⟨ds, h, k⟩ := post
    cases h
    refine ⟨_, pi_list ha, tE_frz rel e1 e2 fun G1 H1 x s1 rel1 dq => ?_⟩
    cases dq with
    | lst h1 h2 => exact ⟨_, rfl, ⟨_, SqL.mono rel1.sub h1⟩, k G1 H1 _ s1 rel1 (walkD_at walk_list (fun H s => SqL.mono s h1) h2)⟩
  | tuple xs =>
    obtain ⟨ds, h, k⟩ := post
    cases h
    refine ⟨_, pi_tup ha, tE_frz rel e1 e2 fun G1 H1 x s1 rel1 dq => ?_⟩
    cases dq with
    | tup h1 h2 => exact ⟨_, rfl, ⟨_, SqT.mono rel1.sub h1⟩, k G1 H1 _ s1 rel1 (walkD_at walk_tup (fun H s => SqT.mono s h1) h2)⟩
  | str z =>
    obtain ⟨ds, h, k⟩ := post
    cases h
    refine ⟨_, pi_str ha, tE_frz rel e1 e2 fun G1 H1 x s1 rel1 dq => ?_⟩
    cases dq
    have hl : (signs z).length = z.cps.size := by
      unfold signs
      rw [List.length_map, Array.length_toList]
    refine ⟨z, rfl, k G1 H1 _ s1 rel1 ⟨_, _, by rw [hl]; exact walk_str, fun _ _ => trivial, fun i H2 x H' G2 hi _ _ y => ?_⟩⟩
    obtain ⟨rfl, c, hc, rfl⟩ := y
    refine ⟨sign c, G2, ?_, .val (.str _)⟩
    unfold signs
    rw [List.getElem?_map, Array.getElem?_toList, hc]
    rfl
  | _ => exact post.elim
theorem it_rng1 {p : Pos} (ha : PEv X F W a ea) (hg : Gl X "range") (hm : X.mg "range" = none) (hs : starEach [a] X.env = [(false, eval a X.env)]) : PI X tg (.Call (.Name "range" p) [a] [] pos) (tI X.K F (evI W (.rng1 ea))) := pi_of fun σ H R q => by
  obtain ⟨G, ρ, rel, post⟩ := q
  obtain ⟨r, ρ1, e1, post_⟩ := Post.bind post; clear post; have post := post_; clear post_
  split at post
  · rename_i n
    split at post
    · rename_i hn
      obtain ⟨ds, h, k⟩ := post
      cases h
      have hn := small62_of hn
      refine ⟨_, pi_range1 hg hm (pa_cons ha pa_nil hs) hs, tE_opd rel e1 fun G1 H1 x s1 rel1 dq _ => ?_⟩
      cases (show Dq X.K G1 x (.int n) from dq)
      refine ⟨n, rfl, hn.1, hn.2, k G1 H1 _ s1 rel1 ⟨fun _ => True, YFn fun k => .int (0 + (k : Nat)), ?_, fun _ _ => trivial, fun i H2 x H' G2 hi _ _ y => ?_⟩⟩
      · unfold rng1L
        rw [List.length_map, List.length_range]
        exact walk_range
      · obtain ⟨rfl, rfl⟩ := y
        refine ⟨.int i, G2, ?_, .val ?_⟩
        · unfold rng1L at hi ⊢
          rw [List.length_map, List.length_range] at hi
          rw [List.getElem?_map, List.getElem?_range hi]
          rfl
        · show Dq X.K G2 (.int (0 + (i : Nat))) (.int (i : Nat))
          rw [Int.zero_add]
          exact .int _
    · exact post.elim
  · exact post.elim
theorem it_rng2 {p : Pos} (ha : PEv X F W a ea) (hb : PEv X F W b eb) (hg : Gl X "range") (hm : X.mg "range" = none) (hs : starEach [a, b] X.env = [(false, eval a X.env), (false, eval b X.env)]) (hs2 : starEach [b] X.env = [(false, eval b X.env)]) :
    PI X tg (.Call (.Name "range" p) [a, b] [] pos) (tI X.K F (evI W (.rng2 ea eb))) := pi_of fun σ H R q => by
  obtain ⟨G, ρ, rel, post⟩ := q
  obtain ⟨r, ρ1, e1, post_⟩ := Post.bind post; clear post; have post := post_; clear post_
  obtain ⟨r2, ρ2, e2, post_⟩ := Post.bind post; clear post; have post := post_; clear post_
  split at post
  · rename_i i j
    split at post
    · rename_i hn
      obtain ⟨ds, h, k⟩ := post
      cases h
      rw [Bool.and_eq_true] at hn
      have hn := And.intro (small62_of hn.1) (small62_of hn.2)
      refine ⟨_, pi_range2 hg hm (pa_cons ha (pa_cons hb pa_nil hs2) (by rw [hs, hs2])) hs hs2, tE_opd rel e1 fun G1 H1 x s1 rel1 dq _ => tE_opd rel1 e2 fun G2 H2 y s2 rel2 dq2 _ => ?_⟩
      cases (show Dq X.K G1 x (.int i) from dq)
      cases (show Dq X.K G2 y (.int j) from dq2)
      refine ⟨i, j, rfl, ⟨hn.1.1, hn.1.2, hn.2.1, hn.2.2⟩, k G2 H2 _ (s1.trans s2) rel2 ⟨fun _ => True, YFn fun k => .int (i + (k : Nat)), ?_, fun _ _ => trivial, fun n H2 x H' G2 hi _ _ y => ?_⟩⟩
      · unfold rng
        rw [List.length_map, List.length_range]
        exact walk_range
      · obtain ⟨rfl, rfl⟩ := y
        refine ⟨.int (i + (n : Int) * 1), G2, ?_, .val ?_⟩
        · unfold rng at hi ⊢
          rw [List.length_map, List.length_range] at hi
          rw [List.getElem?_map, List.getElem?_range hi]
          rfl
        · show Dq X.K G2 (.int (i + (n : Nat))) (.int (i + (n : Int) * 1))
          rw [Int.mul_one]
          exact .int _
    · exact post.elim
  · exact post.elim

/-! ### comprehensions -/
theorem compL_cons {turn : PyData → Env → Out (Option PyData)} {x : PyData} {xs acc : List PyData} {ρ : Env} {ds : List PyData} {ρ' : Env} (h : compL turn (x :: xs) acc ρ = .ok ds ρ') :
    ∃ r ρ1, turn x ρ = .ok r ρ1 ∧ ((r = none ∧ compL turn xs acc ρ1 = .ok ds ρ') ∨ ∃ d, r = some d ∧ acc.length < Lm ∧ compL turn xs (acc ++ [d]) ρ1 = .ok ds ρ') := by
  have h : ((turn x ρ).bind fun r ρ' => match r with
    | none => compL turn xs acc ρ'
    | some d => if acc.length < Lm then compL turn xs (acc ++ [d]) ρ' else .bad) = .ok ds ρ' := h
  cases e : turn x ρ with
  | ok r ρ1 =>
    rw [e] at h
    refine ⟨r, ρ1, rfl, ?_⟩
    cases r with
    | none => exact .inl ⟨rfl, h⟩
    | some d =>
      have h : (if acc.length < Lm then compL turn xs (acc ++ [d]) ρ1 else .bad) = .ok ds ρ' := h
      split at h
      · exact .inr ⟨d, rfl, by assumption, h⟩
      · cases h
  | exc x ρ1 => rw [e] at h; cases h
  | bad => rw [e] at h; cases h
theorem bind_ok {α β : Type} {o : Out α} {f : α → Env → Out β} {b : β} {ρ : Env} (h : o.bind f = .ok b ρ) : ∃ a ρ1, o = .ok a ρ1 ∧ f a ρ1 = .ok b ρ := by
  cases o with
  | ok a ρ1 => exact ⟨a, ρ1, rfl, h⟩
  | exc x ρ1 => cases h
  | bad => cases h
/-- one turn of a comprehension -/
def cturn (W : Wd) (elt : Ex) (tg : Tg) (ifs : Tss) (own : List Nat) : PyData → Env → Out (Option PyData) := fun x ρ2 => match setTg tg x ρ2 with
  | none => .bad
  | some ρ3 => (evF W ifs ρ3).bind fun t ρ4 => match t with
    | false => .ok none (wipes ρ4 own)
    | true => (ev W elt ρ4).bind fun r ρ5 => (frz r ρ5).bind fun d ρ6 => .ok (some d) (wipes ρ6 own)
theorem wipe_twice (σ : L2.St) (vs : List Nat) : wipe (wipe σ vs) vs = wipe σ vs := wipe_eq (wipe_length _ _) fun j hj => by rw [wipe_get, if_neg hj]
theorem pts_of {X : Cx} {ifs : List Expr} {t : TT} (h : ∀ σ H Q, t σ H Q → ∃ t', PTs X ifs t' ∧ t' σ H Q) : PTs X ifs t := ⟨fun pins s σ H Q I q => by
  obtain ⟨t', p, q'⟩ := h σ H Q q
  exact p.run pins s σ H Q I q'⟩
def gAny (K : PySem.W.Frag) (P : Pn) (tg : Tg) : TG := fun v σ H Q => ∃ F' : Fx, F'.P = P ∧ tG K F' tg v σ H Q
def tAny (K : PySem.W.Frag) (P : Pn) (m : Env → Out Bool) : TT := fun σ H Q => ∃ F' : Fx, F'.P = P ∧ tT K F' m σ H Q
def eAny (K : PySem.W.Frag) (P : Pn) (m : Env → Out R) : TE := fun σ H Q => ∃ F' : Fx, F'.P = P ∧ tE K F' m σ H Q
theorem lc_wish {ownp : List (Str × Nat)} {eelt : Ex} {etg : Tg} {eit : Rc.It} {eifs : Tss} {own : List Nat} (ho : own = ownp.map (·.2)) (np : ∀ p ∈ F.P.l, p.1 ∉ own) (hsub : ∀ j ∈ etg.slots, j ∈ own) :
    ∀ σ H Q, tE X.K F (ev W (.comp eelt etg eit eifs own)) σ H Q → tLc (tI X.K F (evI W eit)) (gAny X.K F.P etg) (tAny X.K F.P (evF W eifs)) (eAny X.K F.P (ev W eelt)) (ownp.map (·.2)) σ H Q := fun σ H Q q => by
  obtain ⟨G, ρ, rel, post⟩ := q
  obtain ⟨src, ρ1, e1, post_⟩ := Post.bind post; clear post; have post := post_; clear post_
  cases src with
  | slot i n => exact post.elim
  | items xs =>
  obtain ⟨ds, ρ7, e2, post_⟩ := Post.bind post; clear post; have post := post_; clear post_
  have e2 : compL (cturn W eelt etg eifs own) xs [] (wipes ρ1 own) = .ok ds ρ7 := e2
  rw [← ho]
  refine ⟨G, ρ, rel, ?_⟩
  rw [e1]
  refine ⟨xs, rfl, fun G1 H1 J s1 rel1 wd => ?_⟩
  obtain ⟨Gw, Y, wk, wg, wy⟩ := wd
  intro D hD
  have bD : F.B D = none := rel1.bnone hD
  have gD : G1 D = none := Same.free rel1.sub hD
  refine lc_it (g := gAny X.K F.P etg) (tt := tAny X.K F.P (evF W eifs)) (te := eAny X.K F.P (ev W eelt)) (vs := own) (σ := σ) (H1 := H1) (D := D) (Qd := fun H => Q (.ref D) H) wk (fun i H => ∃ Gi ρi acc vs, Same G1 Gi ∧ Rel X.K (upd F.B D (.lst vs)) F.P Gi H (wipe σ own) ρi ∧ DqAll X.K Gi vs acc ∧ compL (cturn W eelt etg eifs own) (xs.drop i) acc ρi = .ok ds ρ7) ?_ ?_ ?_ ?_
  · refine ⟨G1, wipes ρ1 own, [], [], Same.refl _, ?_, .nil, e2⟩
    have r2 := (Rel.wipe rel1 np).fresh (o := .lst []) hD
    refine r2.by_ upd_same gD fun i c e z => ?_
    obtain ⟨a, h1, _, _, h4⟩ := (Rel.wipe rel1 np).own i c e
    rw [z] at h1
    cases h1
    obtain ⟨u, hu⟩ := h4.some
    rw [hD] at hu
    cases hu
  · rintro i H2 _ ⟨Gi, ρi, acc, vs, sg, rl, _, _⟩
    exact wg _ (sg.trans rl.sub)
  · rintro i x H2 H3 hi ⟨Gi, ρi, acc, vs, sg, rl, da, ec⟩ y
    obtain ⟨d, G2, hd, nr⟩ := wy i H2 x H3 Gi hi sg rl.sub y
    obtain ⟨s2, rl2, dq⟩ := nr.rel rl
    have dq : Dq X.K G2 x d := dq
    have ed : xs.drop i = d :: xs.drop (i + 1) := by
      obtain ⟨hl, ex⟩ := List.getElem?_eq_some_iff.mp hd
      rw [List.drop_eq_getElem_cons hl, ex]
    rw [ed] at ec
    obtain ⟨r, ρ', et, ec⟩ := compL_cons ec
    unfold cturn at et
    split at et
    · cases et
    rename_i ρ3 e3
    obtain ⟨t, ρ4, e4, et⟩ := bind_ok et
    refine ⟨⟨upd F.B D (.lst vs), F.P⟩, rfl, G2, ρi, d, ρ3, rl2, dq, e3, fun σ' rl3 ag ln => ?_⟩
    have w1 : wipe σ' own = wipe σ own := by
      rw [wipe_eq ln fun j hj => ag j fun z => hj (hsub j z), wipe_twice]
    refine ⟨w1, ⟨upd F.B D (.lst vs), F.P⟩, rfl, tT_in (F := ⟨upd F.B D (.lst vs), F.P⟩) rl3 e4 fun G4 H4 s4 rl4 => ?_⟩
    cases t with
    | false =>
      cases et
      rw [if_neg Bool.false_ne_true]
      rcases ec with ⟨_, ec⟩ | ⟨d', z, _⟩
      · refine ⟨G4, _, acc, vs, sg.trans (s2.trans s4), ?_, DqAll.mono (s2.trans s4) da, ec⟩
        have w := Rel.wipe rl4 np
        rw [w1] at w
        exact w
      · cases z
    | true =>
      obtain ⟨r5, ρ5, e5, et⟩ := bind_ok et
      obtain ⟨d6, ρ6, e6, et⟩ := bind_ok et
      cases et
      rw [if_pos rfl]
      refine ⟨⟨upd F.B D (.lst vs), F.P⟩, rfl, tE_frz (F := ⟨upd F.B D (.lst vs), F.P⟩) rl4 e5 e6 fun G6 H6 z s6 rl6 dz => ?_⟩
      rcases ec with ⟨z, _⟩ | ⟨d', z, hl, ec⟩
      · cases z
      cases z
      refine ⟨vs, (rl6.bys D _ upd_same).1, by rw [da.length, Lm_eq]; exact hl, ?_⟩
      refine ⟨G6, _, acc ++ [d6], vs ++ [z], sg.trans (s2.trans (s4.trans s6)), ?_, (DqAll.mono (s2.trans (s4.trans s6)) da).append (DqAll.one dz), ec⟩
      have w := Rel.wipe (Rel.step (o' := .lst (vs ++ [z])) rl6 (rel1.pnone bD)) np
      rw [w1] at w
      exact w
  · rintro H2 ⟨Gi, ρi, acc, vs, sg, rl, da, ec⟩
    rw [List.drop_length] at ec
    cases ec
    obtain ⟨r2, hD2, gD2, no⟩ := Rel.unby rl bD rel1.std
    refine post Gi H2 (.ref D) (s1.trans sg) (Rel.unwipe rel1 r2 sg) ⟨D, rfl, gD2, bD, ⟨vs, hD2, da⟩, fun i c e z => ?_⟩
    rw [unwipe_get] at e
    by_cases h : i ∈ own
    · rw [if_pos h] at e
      obtain ⟨u, _, h2⟩ := Option.map_eq_some_iff.mp e
      split at h2 <;> cases h2
    · rw [if_neg h] at e
      exact no i c e (by rw [wipe_get, if_neg h]; exact z)
end
end Rc

set_option Elab.async false
set_option linter.all false
set_option maxRecDepth 100000
set_option maxHeartbeats 2000000
/-! Enm: enumerate over a tuple. -/
namespace Rc
open PySem PySem.Spec PyProof.Rows L2
theorem newEnT (r : Addr) (xs : Array Value) (m : Nat) (dd : Option Addr) (so : Array (Option Value)) :
    Meets (Builtin.«enumerate.__new__» ⟨[.type "enumerate", .ref r], []⟩) (fun _ Z st => st.heap.get? r = some { cls := .type "tuple", dict := dd, data := .seq xs m, slots := so } ∧
      Z (.ok (.ret (.ref (st.heap.push { cls := .type "tuple_iterator", data := .fields #[.ref r, .int 0 0] }).objs.size)))
        { st with heap := (st.heap.push { cls := .type "tuple_iterator", data := .fields #[.ref r, .int 0 0] }).push { cls := .type "enumerate", data := .fields #[.none, .bool false, .ref st.heap.objs.size, rawInt 0, .none, .none] } }) :=
  .of_wp fun pr wd A Z st q => by
    obtain ⟨hp, gn, dr, tk, os⟩ := st; obtain ⟨hr, q⟩ := q
    have hsb := sub_enumerate
    have hT : Heap.IsTuple (Shared.heap ⟨hp, gn, dr, tk, os⟩) r xs := ⟨_, hr, rfl, m, rfl⟩
    wp_walk using AutoSeq1.wpAny_loadPart' hr
    refine wpAny_stack_any fun sk => wpAny_pure ?_
    split
    · rename_i cc _ _ _ _ _
      cases (cc == Value.type "enumerate")
      · wp_walk using AutoSeq1.wpAny_loadPart' hr, wpAny_pyIter_tuple hT
        exact ⟨_, rfl, q⟩
      · wp_walk using AutoSeq1.wpAny_loadPart' hr, wpAny_pyIter_tuple hT
        exact ⟨_, rfl, q⟩
    · wp_walk using AutoSeq1.wpAny_loadPart' hr, wpAny_pyIter_tuple hT
      exact ⟨_, rfl, q⟩
theorem call_enT {pr : Program} {wd : World} {A : Around} {E : Value → Shared → Prop} {st : Shared} {r : Addr} {xs : Array Value} {Q : Value → Shared → Prop} (hT : st.heap.IsTuple r xs)
    (q : ∀ h', IsEnum h' (st.heap.objs.size + 1) st.heap.objs.size 0 .none → h'.IsTupleIter st.heap.objs.size r 0 → h'.objs.size = st.heap.objs.size + 2 → (∀ b o, st.heap.get? b = some o → h'.get? b = some o) → Q (.ref (st.heap.objs.size + 1)) { st with heap := h' }) :
    wpAny (model pr wd) A (call (.type "enumerate") [.ref r]) Q E st := by
  obtain ⟨⟨cc, dd, dt, so⟩, hr, hc, m, hd⟩ := hT
  have hc : cc = .type "tuple" := hc
  have hd : dt = .seq xs m := hd
  subst hc hd
  refine callType_new F.called_enumerate (by decide) (F.typeCall_enumerate_1 _) (F.newCall_enumerate_1 _) (fun ob => F.args_object_init_2 ob _) F.entry_enumerate_new (newEnT r xs m dd so) ⟨hr, ?_⟩
  generalize hI : ({ cls := .type "tuple_iterator", data := .fields #[.ref r, .int 0 0] } : Obj) = oI
  have sz : (st.heap.push oI).objs.size = st.heap.objs.size + 1 := Heap.size_push ..
  show _ ∧ _
  rw [sz]
  generalize hE : ({ cls := .type "enumerate", data := .fields #[.none, .bool false, .ref st.heap.objs.size, rawInt 0, .none, .none] } : Obj) = oE
  have he : ((st.heap.push oI).push oE).get? (st.heap.objs.size + 1) = some oE := by
    have z := Heap.get?_push_size (st.heap.push oI) (o := oE) (by rw [← hE]; rfl)
    rwa [sz] at z
  have hi : ((st.heap.push oI).push oE).get? st.heap.objs.size = some oI := Heap.get?_push_of_some _ (Heap.get?_push_size _ (by rw [← hI]; rfl))
  refine ⟨⟨_, he, by rw [← hE]⟩, q _ (by rw [← hE] at he ⊢; exact he) ⟨_, hi, by rw [← hI], by rw [← hI]; rfl⟩ (by rw [Heap.size_push, sz]) fun b o x => Heap.get?_push_of_some _ (Heap.get?_push_of_some _ x)⟩
/-- the tuple at a, each item in a new pair -/
def IenT (K : PySem.W.Frag) (a : Addr) : L2.It :=
  ⟨fun i H => ∃ (xs : List V) (x : V), SqT K H a xs ∧ xs[i]? = some x, fun i H v H' => ∃ T x, v = .ref T ∧ H T = none ∧ H' = upd H T (.tup [.int (i : Nat), x]) ∧ ∀ xs, SqT K H a xs → xs[i]? = some x, fun i H => ∃ xs : List V, SqT K H a xs ∧ xs.length ≤ i⟩
theorem turn_enT {P : Program} {w : World} {K : PySem.W.Frag} {elts : List Expr} {kk : Nat} {tpos : Pos} (r e j : Addr) :
    Turn P w K (.Tuple elts kk tpos) (IenT K r) [e, j] e (fun i h => (∃ old, IsEnum h e j ((i : Nat) : Int) old) ∧ h.IsTupleIter j r i ∧ e ≠ j ∧ r ≠ j ∧ e ≠ r) where
  mem := by simp
  obj := fun i h st b hb => by
    obtain ⟨⟨od, he⟩, ⟨o, ho, _, hd⟩, _⟩ := st
    rcases List.mem_cons.mp hb with rfl | hb
    · exact ⟨_, he, fun v z => nomatch z⟩
    · rw [List.mem_singleton.mp hb]
      exact ⟨o, ho, fun v z => by rw [hd] at z; cases z⟩
  keep := fun i h h' st k => let ⟨⟨od, he⟩, hj, n⟩ := st; ⟨⟨od, k e (by simp) _ he⟩, hj.at fun o z => k j (by simp) o z, n⟩
  item := by
    intro X hP hw hK hc i pins s σ H E I hf st hg
    subst hP hw hK
    obtain ⟨⟨od, he⟩, hj, ne, nr, nt⟩ := st
    obtain ⟨xs, x, sq, hx⟩ := hg
    obtain ⟨its, rv, tp, _⟩ := I.tuple sq
    obtain ⟨u, hu, ru⟩ := rv.get hx
    have tp : s.heap.IsTuple r its.toArray := tp
    have le : e < s.heap.objs.size := Heap.lt_size he
    have lj : j < s.heap.objs.size := by obtain ⟨_, z, _⟩ := hj; exact Heap.lt_size z
    have hil : i < its.toArray.size := by
      have := (List.getElem?_eq_some_iff.mp hu).1
      simpa using this
    refine wpAny_pyNext_enum_itemD (Draws.tuple (A := X.A.in1) (show X.A.in1.handled = none from I.ok.hd hc) j r nr its.toArray) he ⟨hj, tp⟩ hil ne (by simp [ne, nt]) fun y h' tk py ho hst' hT hz hk => ?_
    have ey : y = u := by
      have py : its.toArray[i]? = some y := py
      rw [List.getElem?_toArray, hu] at py
      exact (Option.some.inj py).symm
    subst ey
    refine ⟨_, rfl, wpAny_letOwnedTupleGo_enum (s := { s with heap := h', toks := tk + 1 }) ho fun h2 he2 sb => ?_⟩
    have hT2 : h2.get? s.heap.objs.size = some { cls := .type "tuple", data := .seq #[.int i tk, y] } := (sb.2 _ (Nat.ne_of_gt le)).trans hT
    have nw : ObjOk X.prog X.w (upd H s.heap.objs.size (.tup [.int (i : Nat), x])) h2 s.heap.objs.size (.tup [.int (i : Nat), x]) :=
      ⟨by show 2 ≤ sizeLine; decide, [.int i tk, y], .cons ⟨_, rfl⟩ (.cons ru .nil), ⟨_, hT2, rfl, _, rfl⟩⟩
    have I1 : Inv X pins σ (upd H s.heap.objs.size (.tup [.int (i : Nat), x])) { s with heap := h2, toks := tk + 1 } :=
      I.turnedNew (ch := [e, j]) (fun b ob hb z => (sb.2 b (fun q => hb (by simp [q]))).trans (hk b ob (fun q => hb (by simp [q])) (fun q => hb (by simp [q])) z)) hf (Nat.le_refl _) nw
    refine ⟨.ref s.heap.objs.size, _, I1, rfl, ⟨_, x, rfl, I.hok.fresh (Nat.le_refl _), rfl, fun ys hy => by rw [I.tuple_inj hy sq]; exact hx⟩, ⟨⟨y, ?_⟩, hst'.1.at fun o z => (sb.2 j (Ne.symm ne)).trans z, ne, nr, nt⟩, fun b hb => ?_⟩
    · have ei : ((i + 1 : Nat) : Int) = (i : Int) + 1 := by omega
      rw [ei]; exact he2
    · have lb : b < s.heap.objs.size := by
        rcases List.mem_cons.mp hb with rfl | hb
        · exact le
        · rw [List.mem_singleton.mp hb]
          exact lj
      rw [upd_ne (Nat.ne_of_lt lb)]
      exact (hf b hb).1
  done := by
    intro X hP hw hK hc i pins s σ H E I hf st hg
    subst hP hw hK
    obtain ⟨⟨od, he⟩, hj, ne, nr, nt⟩ := st
    obtain ⟨xs, sq, hx⟩ := hg
    obtain ⟨its, rv, tp, _⟩ := I.tuple sq
    have tp : s.heap.IsTuple r its.toArray := tp
    obtain ⟨f0, f1, f2, f3, f4, f5⟩ := hf j (by simp)
    have hl := rv.length
    have hn : its.toArray[i]? = none := by
      rw [List.getElem?_toArray]
      exact List.getElem?_eq_none (by omega)
    have D : Draws X.prog X.w X.A.in1 j [j, r] i (fun _ _ => True) (fun k h => k = i ∧ h.IsTupleIter j r k ∧ h.IsTuple r its.toArray) :=
      { live := fun _ _ st => let ⟨o, ho, _⟩ := st.2.1; ⟨o, ho⟩
        frame := fun _ _ _ st k => ⟨st.1, st.2.1.at fun o z => k j (by simp) o z, st.2.2.at fun o z => k r (by simp) o z⟩
        item := fun k s Q E hk st _ => absurd st.1 (Nat.ne_of_lt hk)
        done := fun s Q E st hE => wpAny_nextOf_tuple_end (show X.A.in1.handled = none from I.ok.hd hc) st.2.1 st.2.2 hn hE }
    exact wpAny_pyNext_enum_endD D he ⟨rfl, hj, tp⟩ fun h' eb => ⟨rfl, I.turned (t' := s.toks) (fun b o hb z => eb b o hb z) f0 f1 f3 f4 f5⟩
  self := fun _ _ _ _ _ st q => wpAny_pyIter_enum st.1.choose_spec q
def iEnT (K : PySem.W.Frag) (ta : TA) : TI := fun σ H R => ta σ H fun vs H1 => ∃ a xs, vs = [.ref a] ∧ SqT K H1 a xs ∧ R (IenT K a) H1
theorem pi_enT {X : Cx} {e : Expr} {ta : TA} {p pos tpos : Pos} {elts : List Expr} {kk : Nat} (hg : Gl X "enumerate") (hm : X.mg "enumerate" = none) (ha : PA X [e] ta) (hs : starEach [e] X.env = [(false, eval e X.env)]) :
    PI X (.Tuple elts kk tpos) (.Call (.Name "enumerate" p) [e] [] pos) (iEnT X.K ta) := by
  refine ⟨fun pins s σ H R I h => ?_⟩
  refine Call_ (ld_blt I hg hm boot_enumerate (PyProof.Rows.callWith_type1 (thn (ha.run pos pins s σ H _ I h) fun ws s1 ⟨vs, H1, I1, r1, ⟨r, xs, ev, sq, q⟩⟩ => ?_) hs rfl))
  subst ev
  cases r1 with
  | cons rx rr =>
    cases rr
    cases rx
    obtain ⟨its, rv, tp, _⟩ := I1.tuple sq
    have tp : s1.heap.IsTuple r its.toArray := tp
    have lr : r < s1.heap.objs.size := by obtain ⟨_, z, _⟩ := tp; exact Heap.lt_size z
    refine call_enT tp fun h' he hj hz hk => wpAny_pyIter_enum he ?_
    have Ik : Inv X pins σ H1 { s1 with heap := h' } := I1.kept (t' := s1.toks) hk
    refine ⟨s1.heap.objs.size + 1, [s1.heap.objs.size + 1, s1.heap.objs.size], _, _, H1, rfl, Ik, turn_enT r (s1.heap.objs.size + 1) s1.heap.objs.size, ⟨⟨.none, he⟩, hj, Nat.succ_ne_self _, Nat.ne_of_lt lr, Ne.symm (Nat.ne_of_lt (Nat.lt_succ_of_lt lr))⟩, fun b hb => ?_, q⟩
    have lb : s1.heap.objs.size ≤ b := by
      rcases List.mem_cons.mp hb with rfl | hb
      · exact Nat.le_add_right _ _
      · rw [List.mem_singleton.mp hb]
        exact Nat.le_refl _
    exact I1.fpOk lb (I1.hok.fresh lb)
theorem walk_enT {K : PySem.W.Frag} {a : Addr} {xs : List V} : Walk (IenT K a) xs.length (fun H => SqT K H a xs) (YPair (fun i => some (.int (i : Nat))) (fun i => xs[i]?)) := by
  refine ⟨fun k _ hk sq => ⟨xs, xs[k], sq, by simp [hk]⟩, fun _ sq => ⟨xs, sq, Nat.le_refl _⟩, fun k H v H' _ sq y => ?_⟩
  obtain ⟨p, z, e1, e2, e3, e4⟩ := y
  exact ⟨p, .int (k : Nat), z, e1, e2, e3, rfl, e4 xs sq⟩
theorem numd_get : ∀ (k : Nat) (xs : List PyData) (i : Nat) (d : PyData), xs[i]? = some d → (numd k xs)[i]? = some (.tuple [.int ((k + i : Nat) : Int), d])
  | k, [], i, d, h => by simp at h
  | k, x :: xs, 0, d, h => by
    cases (show some x = some d from h)
    rfl
  | k, x :: xs, i + 1, d, h => by
    have := numd_get (k + 1) xs i d (by simpa using h)
    rw [show k + (i + 1) = k + 1 + i by omega]
    exact this
theorem numd_len : ∀ (k : Nat) (xs : List PyData), (numd k xs).length = xs.length
  | _, [] => rfl
  | k, x :: xs => by
    show (numd (k + 1) xs).length + 1 = xs.length + 1
    rw [numd_len (k + 1) xs]
theorem walkD_num {K : PySem.W.Frag} {G : Hp} {J : L2.It} {ds : List PyData} {vs : List V} {Gw : Hp → Prop} (w : Walk J vs.length Gw (YPair (fun i => some (.int (i : Nat))) (fun i => vs[i]?))) (hg : ∀ H, Same G H → Gw H) (hd : DqAll K G vs ds) : WalkD K G J (numd 0 ds) := by
  refine ⟨Gw, _, by rw [numd_len, ← hd.length]; exact w, hg, fun i H x H' G1 hi s1 s2 y => ?_⟩
  rw [numd_len] at hi
  obtain ⟨T, a, b, rfl, h2, rfl, e1, e2⟩ := y
  cases e1
  obtain ⟨v, e3, e4⟩ := hd.get (i := i) (d := ds[i]) (by simp [hi])
  have e2 : vs[i]? = some b := e2
  rw [e2] at e3
  cases e3
  have z := numd_get 0 ds i ds[i] (by simp [hi])
  rw [Nat.zero_add] at z
  exact ⟨_, _, z, NewR.tup h2 (.cons (.int _) (.cons (Dq.mono s1 e4) .nil))⟩
section
variable {X : Cx} {F : Fx} {W : Wd} {pos tpos : Pos} {a : Expr} {ea : Ex} {elts : List Expr} {kk : Nat}
theorem it_enumS {p : Pos} (ha : PEv X F W a ea) (hg : Gl X "enumerate") (hm : X.mg "enumerate" = none) (hs : starEach [a] X.env = [(false, eval a X.env)]) : PI X (.Tuple elts kk tpos) (.Call (.Name "enumerate" p) [a] [] pos) (tI X.K F (evI W (.enumS ea))) := pi_of fun σ H R q => by
  obtain ⟨G, ρ, rel, post⟩ := q
  obtain ⟨r, ρ1, e1, post_⟩ := Post.bind post; clear post; have post := post_; clear post_
  obtain ⟨d, ρ2, e2, post_⟩ := Post.bind post; clear post; have post := post_; clear post_
  cases d with
  | list xs =>
    obtain ⟨ds, h, k⟩ := post
    cases h
    refine ⟨_, pi_enum hg hm (pa_cons ha pa_nil hs) hs, tE_frz rel e1 e2 fun G1 H1 x s1 rel1 dq => ?_⟩
    cases dq with
    | lst h1 h2 => exact ⟨_, _, rfl, SqL.mono rel1.sub h1, k G1 H1 _ s1 rel1 (walkD_num walk_enum (fun H s => SqL.mono s h1) h2)⟩
  | tuple xs =>
    obtain ⟨ds, h, k⟩ := post
    cases h
    refine ⟨_, pi_enT hg hm (pa_cons ha pa_nil hs) hs, tE_frz rel e1 e2 fun G1 H1 x s1 rel1 dq => ?_⟩
    cases dq with
    | tup h1 h2 => exact ⟨_, _, rfl, SqT.mono rel1.sub h1, k G1 H1 _ s1 rel1 (walkD_num walk_enT (fun H s => SqT.mono s h1) h2)⟩
  | _ => exact post.elim
end
end Rc

set_option Elab.async false
set_option linter.all false
set_option maxRecDepth 100000
set_option maxHeartbeats 1000000
namespace Rc
open PySem PySem.Spec PyProof.Rows L2
section
variable {X : Cx} {F : Fx} {W : Wd} {pos : Pos} {tg a b : Expr} {ea eb : Ex}
abbrev Blk (X : Cx) (s : Shared) (H : Hp) (scope : Scope) (C : Addr) (cl : List (Str × Addr)) (fp : List Addr) : Cx := X.blk s H scope (compEnvC scope cl C X.env) fp
structure CompOk (X : Cx) (F : Fx) (W : Wd) (tg elt : Expr) (ifs : List Expr) (scope : Scope) (etg : Tg) (eifs : Tss) (eelt : Ex) : Prop where
  tg : ∀ (F' : Fx) (s : Shared) (H : Hp) (C : Addr) (cl : List (Str × Addr)) (fp : List Addr), F'.P = F.P → PG (Blk X s H scope C cl fp) tg (tG X.K F' etg)
  ifs : ∀ (F' : Fx) (s : Shared) (H : Hp) (C : Addr) (cl : List (Str × Addr)) (fp : List Addr), F'.P = F.P → PTs (Blk X s H scope C cl fp) ifs (tT X.K F' (evF W eifs))
  elt : ∀ (F' : Fx) (s : Shared) (H : Hp) (C : Addr) (cl : List (Str × Addr)) (fp : List Addr), F'.P = F.P → PE (Blk X s H scope C cl fp) elt (tE X.K F' (ev W eelt))
variable {elt iter : Expr} {ifs : List Expr} {scope : Scope} {ownp : List (Str × Nat)} {eelt : Ex} {etg : Tg} {eit : Rc.It} {eifs : Tss} {own : List Nat}
theorem CompOk.g (c : CompOk X F W tg elt ifs scope etg eifs eelt) (s : Shared) (H : Hp) (C : Addr) (cl : List (Str × Addr)) (fp : List Addr) : PG (Blk X s H scope C cl fp) tg (gAny X.K F.P etg) := pg_of fun v σ H' Q ⟨F', e, q⟩ => ⟨_, c.tg F' s H C cl fp e, q⟩
theorem CompOk.t (c : CompOk X F W tg elt ifs scope etg eifs eelt) (s : Shared) (H : Hp) (C : Addr) (cl : List (Str × Addr)) (fp : List Addr) : PTs (Blk X s H scope C cl fp) ifs (tAny X.K F.P (evF W eifs)) := pts_of fun σ H' Q ⟨F', e, q⟩ => ⟨_, c.ifs F' s H C cl fp e, q⟩
theorem CompOk.e (c : CompOk X F W tg elt ifs scope etg eifs eelt) (s : Shared) (H : Hp) (C : Addr) (cl : List (Str × Addr)) (fp : List Addr) : PE (Blk X s H scope C cl fp) elt (eAny X.K F.P (ev W eelt)) := pe_of fun σ H' Q ⟨F', e, q⟩ => ⟨_, c.elt F' s H C cl fp e, q⟩
theorem ev_comp (hc : X.calm = true) (nd : X.N.Nodup) (hi : PI X tg iter (tI X.K F (evI W eit))) (ok : BlkOk X.N X.env.scope scope ownp) (ho : own = ownp.map (·.2)) (np : ∀ p ∈ F.P.l, p.1 ∉ own) (hsub : ∀ j ∈ etg.slots, j ∈ own)
    (c : CompOk X F W tg elt ifs scope etg eifs eelt) (hs : ∀ x, foldedSetIterable iter X.env x = pure x) : PEv X F W (.ListComp elt [⟨tg, iter, ifs, 0⟩] scope pos) (.comp eelt etg eit eifs own) := pe_of fun σ H Q q =>
  ⟨_, pe_lc hc nd hi ok c.g c.t c.e hs, lc_wish ho np hsub σ H Q q⟩

/-! ### calls of own defs -/
/-- the arguments: values, objects lent -/
inductive ARel (K : PySem.W.Frag) (G H : Hp) : List V → List Sl → Prop
  | nil : ARel K G H [] []
  | v {x : V} {d : PyData} {xs : List V} {as : List Sl} : Dq K G x d → ARel K G H xs as → ARel K G H (x :: xs) (.v d :: as)
  | o {a : Addr} {b : Ob} {xs : List V} {as : List Sl} : G a = none → OwnAt K G H a b → ARel K G H xs as → ARel K G H (.ref a :: xs) (.o b :: as)
/-- the addresses lent -/
def lentA : List V → List Sl → List Addr
  | .ref a :: xs, .o _ :: as => a :: lentA xs as
  | _ :: xs, _ :: as => lentA xs as
  | _, _ => []
/-- behind a call: what stood stands, but for what was lent -/
structure Back (K : PySem.W.Frag) (G H G' H' : Hp) (A : List Addr) (outs : List Ob) : Prop where
  g : Same G G'
  sub : Same G' H'
  rest : ∀ b o, H b = some o → G b = none → b ∉ A → H' b = some o ∧ G' b = none
  outs : Paired (fun a b => G' a = none ∧ OwnAt K G' H' a b) A outs
/-- how an exception lies in the heap -/
def XRel (K : PySem.W.Frag) (mg : Str → Option Value) (B G H : Hp) (x : Xc) (cls : Value) (d : Option Addr) : Prop := (mg (xname x.cls) = some cls ∧ ∀ p ∈ x.fs, p.1 ∈ xfields x.cls) ∧ match d with
  | none => x.fs = []
  | some dd => G dd = none ∧ B dd = none ∧ ∃ fs, H dd = some (.xd fs) ∧ Paired (fun (p : Str × PyData) (q : Str × V) => p.1 = q.1 ∧ Dq K (fun _ => none) q.2 p.2) x.fs fs
/-- what a def promises of its outcome -/
def FoOk (K : PySem.W.Frag) (mg : Str → Option Value) (G H : Hp) (A : List Addr) (Q : VK) (E : XK) : FO → Prop
  | .v d outs => ∀ G' H' x, Back K G H G' H' A outs → Dq K G' x d → Q x H'
  | .o b outs => ∀ G' H' a, Back K G H G' H' A outs → H a = none → G' a = none → OwnAt K G' H' a b → Q (.ref a) H'
  | .exc x outs => ∀ G' H' cls d, Back K G H G' H' A outs → XRel K mg H G' H' x cls d → E cls d H'
  | .bad => False
/-- what a def promises -/
def spOf (K : PySem.W.Frag) (mg : Str → Option Value) (n : Nat) (g : List Sl → FO) : Sp := fun vs H Q E => vs.length = n ∧ ∃ G as, Same G H ∧ ARel K G H vs as ∧ (lentA vs as).Nodup ∧ FoOk K mg G H (lentA vs as) Q E (g as)
/-- the addresses of new objects among the arguments -/
def freshA : List CA → List V → List Addr
  | .o _ :: cs, .ref a :: xs => a :: freshA cs xs
  | _ :: cs, _ :: xs => freshA cs xs
  | _, _ => []
def caOk (K : PySem.W.Frag) (B G H : Hp) (σ : L2.St) (ρ : Env) (c : CA) (x : V) : Prop := match c with
  | .v d => Dq K G x d
  | .s i => σ[i]? = some (some x)
  | .o b => ∃ a, x = .ref a ∧ G a = none ∧ B a = none ∧ OwnAt K G H a b ∧ ∀ (i : Nat) (c : Ob), ρ[i]? = some (.o c) → σ[i]? ≠ some (some (.ref a))
def ZC (K : PySem.W.Frag) (B G H : Hp) (σ : L2.St) (ρ : Env) (cs : List CA) (xs : List V) : Prop := Paired (caOk K B G H σ ρ) cs xs ∧ (freshA cs xs).Nodup
abbrev PCv (X : Cx) (F : Fx) (W : Wd) (es : List Expr) (d : Exs) (m : List Bool) : Prop := PA X es (tA X.K F (ZC X.K F.B) (evC W d m))
theorem evC_nil {m : List Bool} : PCv X F W [] .nil m := pa_of fun σ H Q h => by
  obtain ⟨G, ρ, rel, post⟩ := h
  exact ⟨_, pa_nil, post G H [] (Same.refl _) rel ⟨.nil, List.nodup_nil⟩⟩
def cAny (K : PySem.W.Frag) (P : Pn) (m : Env → Out (List CA)) : TA := fun σ H Q => ∃ F' : Fx, F'.P = P ∧ tA K F' (ZC K F'.B) m σ H Q
theorem fresh_in {K : PySem.W.Frag} {B G H : Hp} {σ : L2.St} {ρ : Env} : ∀ {cs : List CA} {xs : List V}, Paired (caOk K B G H σ ρ) cs xs → ∀ a ∈ freshA cs xs, B a = none
  | [], _, .nil, a, h => by cases h
  | c :: cs, x :: xs, .cons r t, a, h => by
    cases c with
    | v d => exact fresh_in t a (by cases x <;> exact h)
    | s i => exact fresh_in t a (by cases x <;> exact h)
    | o b =>
      obtain ⟨l, rfl, _, q, _⟩ := r
      rcases List.mem_cons.mp (show a ∈ l :: freshA cs xs from h) with rfl | h
      · exact q
      · exact fresh_in t a h
theorem caOk_by {K : PySem.W.Frag} {B G H : Hp} {σ : L2.St} {ρ : Env} {a : Addr} {o : HO} {c : CA} {x : V} (h : caOk K (upd B a o) G H σ ρ c x) : caOk K B G H σ ρ c x := by
  cases c with
  | v d => exact h
  | s i => exact h
  | o b =>
    obtain ⟨l, h1, h2, h3, h4⟩ := h
    refine ⟨l, h1, h2, ?_, h4⟩
    by_cases e : l = a
    · subst e
      rw [upd_same] at h3
      cases h3
    · rw [upd_ne e] at h3
      exact h3
theorem evC_cons {es : List Expr} {ds : Exs} {m : List Bool} (ha : PEv X F W a ea) (hr : ∀ F' : Fx, F'.P = F.P → PCv X F' W es ds m.tail) (hs : starEach (a :: es) X.env = (false, eval a X.env) :: starEach es X.env) : PCv X F W (a :: es) (.cons ea ds) m := pa_of fun σ H Q h => by
  obtain ⟨G, ρ, rel, post⟩ := h
  obtain ⟨r, ρ1, e1, post_⟩ := Post.bind post; clear post; have post := post_; clear post_
  have hr' : PA X es (cAny X.K F.P (evC W ds m.tail)) := pa_of fun σ H Q ⟨F', e, q⟩ => ⟨_, hr F' e, q⟩
  refine ⟨_, pa_cons ha hr' hs, ?_⟩
  have sk : ∀ (d : PyData) (cs : List CA) (x : V) (xs : List V), freshA (.v d :: cs) (x :: xs) = freshA cs xs := fun d cs x xs => by cases x <;> rfl
  have sk2 : ∀ (i : Nat) (cs : List CA) (x : V) (xs : List V), freshA (.s i :: cs) (x :: xs) = freshA cs xs := fun i cs x xs => by cases x <;> rfl
  split at post
  · split at post
    · rename_i i
      obtain ⟨cs, ρ2, e2, post_⟩ := Post.bind post; clear post; have post := post_; clear post_
      refine tE_in rel e1 fun G1 H1 vx s1 rel1 rr1 => ⟨F, rfl, tA_in rel1 e2 fun G2 H2 vs s2 rel2 z2 => ?_⟩
      exact post G2 H2 _ (s1.trans s2) rel2 ⟨.cons rr1 z2.1, by rw [sk2]; exact z2.2⟩
    · rename_i b
      obtain ⟨cs, ρ2, e2, post_⟩ := Post.bind post; clear post; have post := post_; clear post_
      refine tE_in rel e1 fun G1 H1 vx s1 rel1 rr1 => ?_
      obtain ⟨l, rfl, g1, g2, g3, g4⟩ := rr1
      obtain ⟨o, ho⟩ := g3.some
      refine ⟨⟨upd F.B l o, F.P⟩, rfl, tA_in (F := ⟨upd F.B l o, F.P⟩) (Rel.by_ rel1 ho g1 g4) e2 fun G2 H2 vs s2 rel2 z2 => ?_⟩
      obtain ⟨rel3, hl, gl, no⟩ := Rel.unby rel2 g2 rel1.std
      refine post G2 H2 _ (s1.trans s2) rel3 ⟨.cons ⟨l, rfl, gl, g2, g3.mono s2 (by rw [hl, ho]), no⟩ (Paired.mapP z2.1 fun _ _ z => caOk_by z), ?_⟩
      refine List.nodup_cons.mpr ⟨fun hm => ?_, z2.2⟩
      have z := fresh_in z2.1 l hm
      have z : upd F.B l o l = none := z
      rw [upd_same] at z
      cases z
    · rename_i d
      obtain ⟨cs, ρ2, e2, post_⟩ := Post.bind post; clear post; have post := post_; clear post_
      refine tE_in rel e1 fun G1 H1 vx s1 rel1 rr1 => ⟨F, rfl, tA_in rel1 e2 fun G2 H2 vs s2 rel2 z2 => ?_⟩
      exact post G2 H2 _ (s1.trans s2) rel2 ⟨.cons (Dq.mono s2 rr1) z2.1, by rw [sk]; exact z2.2⟩
  · obtain ⟨d, ρ2, e2, post_⟩ := Post.bind post; clear post; have post := post_; clear post_
    obtain ⟨cs, ρ3, e3, post_⟩ := Post.bind post; clear post; have post := post_; clear post_
    refine tE_frz rel e1 e2 fun G1 H1 vx s1 rel1 rr1 => ⟨F, rfl, tA_in rel1 e3 fun G2 H2 vs s2 rel2 z2 => ?_⟩
    exact post G2 H2 _ (s1.trans s2) rel2 ⟨.cons (Dq.mono s2 rr1) z2.1, by rw [sk]; exact z2.2⟩
/-- whose a lent address is -/
def ownerOk (B : Hp) (σ : L2.St) (ρ : Env) (o : Option Nat) (a : Addr) : Prop := B a = none ∧ match o with
  | some i => σ[i]? = some (some (.ref a)) ∧ ∃ b, ρ[i]? = some (.o b)
  | none => ∀ (i : Nat) (c : Ob), ρ[i]? = some (.o c) → σ[i]? ≠ some (some (.ref a))
theorem lend_ok {K : PySem.W.Frag} {G H : Hp} {σ : L2.St} {ρ : Env} (rel : F.rel K G H σ ρ) : ∀ {cs : List CA} {xs : List V} {as : List Sl}, Paired (caOk K F.B G H σ ρ) cs xs → lend ρ cs = some as → ARel K G H xs as ∧
      Paired (ownerOk F.B σ ρ) (slots cs) (lentA xs as)
  | [], _, as, z, e => by
    cases z
    cases e
    exact ⟨.nil, .nil⟩
  | .v d :: cs, _, as, z, e => by
    cases z with
    | cons z1 z2 =>
      obtain ⟨as', e1, e2⟩ := Option.map_eq_some_iff.mp (show (lend ρ cs).map (Sl.v d :: ·) = some as from e)
      subst e2
      obtain ⟨h1, h2⟩ := lend_ok rel z2 e1
      refine ⟨.v z1 h1, ?_⟩
      have q : ∀ (x : V) (xs : List V), lentA (x :: xs) (.v d :: as') = lentA xs as' := fun x xs => by cases x <;> rfl
      rw [q]
      exact h2
  | .o b :: cs, _, as, z, e => by
    cases z with
    | cons z1 z2 =>
      obtain ⟨as', e1, e2⟩ := Option.map_eq_some_iff.mp (show (lend ρ cs).map (Sl.o b :: ·) = some as from e)
      subst e2
      obtain ⟨h1, h2⟩ := lend_ok rel z2 e1
      obtain ⟨l, rfl, g1, g2, g3, g4⟩ := z1
      exact ⟨.o g1 g3 h1, .cons ⟨g2, g4⟩ h2⟩
  | .s i :: cs, _, as, z, e => by
    cases z with
    | cons z1 z2 =>
      have e : (match ρ[i]? with
        | some (.o b) => (lend ρ cs).map (Sl.o b :: ·)
        | _ => none) = some as := e
      split at e
      · rename_i b hb
        obtain ⟨as', e1, e2⟩ := Option.map_eq_some_iff.mp e
        subst e2
        obtain ⟨h1, h2⟩ := lend_ok rel z2 e1
        obtain ⟨l, g1, g2, g3, g4⟩ := rel.own i b hb
        have z1 : σ[i]? = some (some _) := z1
        rw [g1] at z1
        cases z1
        exact ⟨.o g2 g4 h1, .cons ⟨g3, g1, b, hb⟩ h2⟩
      · cases e
theorem paired_mem {α β : Type} {R : α → β → Prop} : ∀ {xs : List α} {ys : List β}, Paired R xs ys → ∀ y ∈ ys, ∃ x ∈ xs, R x y
  | [], _, .nil, y, h => by cases h
  | x :: xs, _, .cons r t, y, h => by
    rcases List.mem_cons.mp h with rfl | h
    · exact ⟨x, List.mem_cons_self, r⟩
    · obtain ⟨z, h1, h2⟩ := paired_mem t y h
      exact ⟨z, List.mem_cons_of_mem _ h1, h2⟩
theorem paired_memL {α β : Type} {R : α → β → Prop} : ∀ {xs : List α} {ys : List β}, Paired R xs ys → ∀ x ∈ xs, ∃ y ∈ ys, R x y
  | [], _, .nil, y, h => by cases h
  | x :: xs, _, .cons r t, y, h => by
    rcases List.mem_cons.mp h with rfl | h
    · exact ⟨_, List.mem_cons_self, r⟩
    · obtain ⟨z, h1, h2⟩ := paired_memL t y h
      exact ⟨z, List.mem_cons_of_mem _ h1, h2⟩
theorem fresh_of {K : PySem.W.Frag} {B G H : Hp} {σ : L2.St} {ρ : Env} : ∀ {cs : List CA} {xs : List V} {as : List Sl}, Paired (caOk K B G H σ ρ) cs xs → lend ρ cs = some as → ∀ a, (∀ i ∈ (slots cs).filterMap id, σ[i]? ≠ some (some (.ref a))) → a ∈ lentA xs as → a ∈ freshA cs xs
  | [], _, as, z, e, a, _, hm => by
    cases z
    cases e
    cases hm
  | .v d :: cs, _, as, .cons (b := x) (l₂ := xs) z1 z2, e, a, no, hm => by
    obtain ⟨as', e1, e2⟩ := Option.map_eq_some_iff.mp (show (lend ρ cs).map (Sl.v d :: ·) = some as from e)
    subst e2
    have h := fresh_of z2 e1 a no (by cases x <;> exact hm)
    cases x <;> exact h
  | .o b :: cs, _, as, .cons (b := x) (l₂ := xs) z1 z2, e, a, no, hm => by
    obtain ⟨as', e1, e2⟩ := Option.map_eq_some_iff.mp (show (lend ρ cs).map (Sl.o b :: ·) = some as from e)
    subst e2
    obtain ⟨l, rfl, _⟩ := z1
    rcases List.mem_cons.mp (show a ∈ l :: lentA xs as' from hm) with rfl | hm
    · exact List.mem_cons_self
    · exact List.mem_cons_of_mem _ (fresh_of z2 e1 a no hm)
  | .s i :: cs, _, as, .cons (b := x) (l₂ := xs) z1 z2, e, a, no, hm => by
    have e : (match ρ[i]? with
      | some (.o b) => (lend ρ cs).map (Sl.o b :: ·)
      | _ => none) = some as := e
    split at e
    · obtain ⟨as', e1, e2⟩ := Option.map_eq_some_iff.mp e
      subst e2
      have z1 : σ[i]? = some (some x) := z1
      have hno : σ[i]? ≠ some (some (.ref a)) := no i List.mem_cons_self
      have h : a ∈ lentA xs as' → a ∈ freshA cs xs := fresh_of z2 e1 a fun j hj => no j (List.mem_cons_of_mem _ hj)
      cases x with
      | ref l =>
        rcases List.mem_cons.mp (show a ∈ l :: lentA xs as' from hm) with rfl | hm
        · exact absurd z1 hno
        · exact h hm
      | _ => exact h hm
    · cases e
theorem lent_nodup {K : PySem.W.Frag} {G H : Hp} {σ : L2.St} {ρ : Env} (rel : F.rel K G H σ ρ) : ∀ {cs : List CA} {xs : List V} {as : List Sl}, Paired (caOk K F.B G H σ ρ) cs xs → lend ρ cs = some as → ((slots cs).filterMap id).Nodup → (freshA cs xs).Nodup → (lentA xs as).Nodup
  | [], _, as, z, e, _, _ => by
    cases z
    cases e
    exact List.nodup_nil
  | .v d :: cs, _, as, .cons (b := x) (l₂ := xs) z1 z2, e, h1, h2 => by
    obtain ⟨as', e1, e2⟩ := Option.map_eq_some_iff.mp (show (lend ρ cs).map (Sl.v d :: ·) = some as from e)
    subst e2
    have h := lent_nodup rel z2 e1 h1 (by cases x <;> exact h2)
    cases x <;> exact h
  | .o b :: cs, _, as, .cons (b := x) (l₂ := xs) z1 z2, e, h1, h2 => by
    obtain ⟨as', e1, e2⟩ := Option.map_eq_some_iff.mp (show (lend ρ cs).map (Sl.o b :: ·) = some as from e)
    subst e2
    obtain ⟨l, rfl, _, _, _, no⟩ := z1
    obtain ⟨k1, k2⟩ := List.nodup_cons.mp (show (l :: freshA cs xs).Nodup from h2)
    refine List.nodup_cons.mpr ⟨fun hm => k1 (fresh_of z2 e1 l (fun i hi q => ?_) hm), lent_nodup rel z2 e1 h1 k2⟩
    have hi : some i ∈ slots cs := by
      obtain ⟨o, ho, e⟩ := List.mem_filterMap.mp hi
      cases e
      exact ho
    obtain ⟨_, _, _, _, c, hc⟩ := paired_memL (lend_ok rel z2 e1).2 _ hi
    exact no i c hc q
  | .s i :: cs, _, as, .cons (b := x) (l₂ := xs) z1 z2, e, h1, h2 => by
    have e0 := e
    have e : (match ρ[i]? with
      | some (.o b) => (lend ρ cs).map (Sl.o b :: ·)
      | _ => none) = some as := e
    split at e
    · rename_i b hb
      obtain ⟨as', e1, e2⟩ := Option.map_eq_some_iff.mp e
      subst e2
      obtain ⟨n1, n2⟩ := List.nodup_cons.mp (show (i :: (slots cs).filterMap id).Nodup from h1)
      have z1 : σ[i]? = some (some x) := z1
      have h2 : (freshA cs xs).Nodup := by cases x <;> exact h2
      have h := lent_nodup rel z2 e1 n2 h2
      cases x with
      | ref l =>
        refine List.nodup_cons.mpr ⟨fun hm => ?_, h⟩
        obtain ⟨o, ho, _, q⟩ := paired_mem (lend_ok rel z2 e1).2 _ hm
        cases o with
        | none => exact q i b hb z1
        | some j =>
          obtain ⟨q1, c, q2⟩ := q
          have := rel.sep i j l b c hb q2 z1 q1
          subst this
          exact n1 (List.mem_filterMap.mpr ⟨some i, ho, rfl⟩)
      | _ => exact h
    · cases e
/-- the lent objects come back into their slots -/
theorem back_ok {K : PySem.W.Frag} {B : Hp} {P : Pn} {G' H' : Hp} {σ : L2.St} : ∀ {is : List (Option Nat)} {A : List Addr} {outs : List Ob} {ρ : Env}, (is.filterMap id).Nodup →
    Paired (ownerOk B σ ρ) is A → Paired (fun a b => G' a = none ∧ OwnAt K G' H' a b) A outs →
    (Same G' H') → (∀ b o, B b = some o → H' b = some o ∧ G' b = none) → (∀ p ∈ P.l, σ[p.1]? = some (some p.2)) → ρ.length = σ.length →
    (∀ (i : Nat) (d : PyData), ρ[i]? = some (.v d) → ∃ x, σ[i]? = some (some x) ∧ Dq K G' x d) →
    (∀ (i : Nat) (b : Ob), some i ∉ is → ρ[i]? = some (.o b) → ∃ a, σ[i]? = some (some (.ref a)) ∧ G' a = none ∧ B a = none ∧ OwnAt K G' H' a b) →
    (∀ (i j : Nat) (a : Addr) (b c : Ob), ρ[i]? = some (.o b) → ρ[j]? = some (.o c) → σ[i]? = some (some (.ref a)) → σ[j]? = some (some (.ref a)) → i = j) → (∀ a o, P.o a = some o → B a = some o) →
    Rel K B P G' H' σ (back ρ is outs)
  | [], _, _, ρ, _, .nil, .nil, h1, h2, h3, h4, h5, h6, h7, h8 => ⟨h1, h2, h3, h4, h5, fun i b e => h6 i b (by simp) e, h7, h8⟩
  | none :: is, a :: A, b :: outs, ρ, nd, .cons r t, .cons q u, h1, h2, h3, h4, h5, h6, h7, h8 => by
    show Rel K B P G' H' σ (back ρ is outs)
    exact back_ok nd t u h1 h2 h3 h4 h5 (fun i b hi e => h6 i b (by simp only [List.mem_cons, not_or]; exact ⟨(by intro z; cases z), hi⟩) e) h7 h8
  | some i :: is, a :: A, b :: outs, ρ, nd, .cons r t, .cons q u, h1, h2, h3, h4, h5, h6, h7, h8 => by
    obtain ⟨n1, n2⟩ := List.nodup_cons.mp (show (i :: is.filterMap id).Nodup from nd)
    obtain ⟨r2, r1, c, r3⟩ := r
    show Rel K B P G' H' σ (back (ρ.set i (.o b)) is outs)
    have bk : ∀ {j : Nat} {o : Ob}, (ρ.set i (.o b))[j]? = some (.o o) → ∃ o', ρ[j]? = some (.o o') := fun e => by
        rcases getElem_set_sl e with ⟨rfl, _, _⟩ | ⟨_, e⟩
        · exact ⟨c, r3⟩
        · exact ⟨_, e⟩
    refine back_ok n2 ?_ u h1 h2 h3 (by rw [List.length_set]; exact h4) (fun j d e => ?_) (fun j o hj e => ?_) (fun j k l o o' e e' => ?_) h8
    · refine Paired.mapP t fun j l z => ?_
      obtain ⟨z2, z⟩ := z
      refine ⟨z2, ?_⟩
      cases j with
      | none =>
        intro k d e
        obtain ⟨o', e'⟩ := bk e
        exact z k o' e'
      | some j =>
        obtain ⟨z1, o, z3⟩ := z
        by_cases hj : i = j
        · subst hj
          exact ⟨z1, b, List.getElem?_set_self (List.getElem?_eq_some_iff.mp r3).1⟩
        · exact ⟨z1, o, by rw [List.getElem?_set_ne hj]; exact z3⟩
    · rcases getElem_set_sl e with ⟨_, _, z⟩ | ⟨_, e⟩
      · cases z
      · exact h5 j d e
    · rcases getElem_set_sl e with ⟨rfl, _, z⟩ | ⟨ne, e⟩
      · cases z
        exact ⟨a, r1, q.1, r2, q.2⟩
      · exact h6 j o (by
          simp only [List.mem_cons, not_or]
          exact ⟨fun z => ne (Option.some.inj z).symm, hj⟩) e
    · obtain ⟨_, z1⟩ := bk e
      obtain ⟨_, z2⟩ := bk e'
      exact h7 j k l _ _ z1 z2
/-- what comes out, or is raised -/
def PostX (o : Out R) (ok : R → Env → Prop) (xc : Xc → Env → Prop) : Prop := match o with
  | .ok a ρ => ok a ρ
  | .exc x ρ => xc x ρ
  | .bad => False
def EndY (K : PySem.W.Frag) (mg : Str → Option Value) (F : Fx) (G : Hp) (σ : L2.St) (E : XK) : Xc → Env → Prop := fun x ρ' => ∀ G' H' cls d, Same G G' → F.rel K G' H' σ ρ' → XRel K mg F.B G' H' x cls d → E cls d H'
abbrev EndX (K : PySem.W.Frag) (mg : Str → Option Value) (F : Fx) (G : Hp) (σ : L2.St) : Xc → Env → Prop := EndY K mg F G σ fun cls d H' => F.P.xw cls d σ H'
theorem PostX.of {o : Out R} {ok : R → Env → Prop} {xc : Xc → Env → Prop} (h : Post o ok) : PostX o ok xc := by
  cases o with
  | ok r ρ => exact h
  | exc x ρ => exact h.elim
  | bad => exact h.elim
/-- the wish behind a call -/
theorem call_wish {f : Nat} {n : Nat} {es : Exs} {cas : List CA} {ρ1 : Env} {G1 H1 : Hp} {σ : L2.St} {vs : List V} {Q : VK} {E : XK} {G : Hp} (s1 : Same G G1) (rel1 : F.rel X.K G1 H1 σ ρ1) (z : ZC X.K F.B G1 H1 σ ρ1 cas vs) (hn : vs.length = n)
    (post : PostX (callF (W.Γ f) cas ρ1) (EndE X.K F G σ Q) (EndY X.K X.mg F G σ E)) : spOf X.K X.mg n (W.Γ f) vs H1 Q E := by
  unfold callF at post
  split at post
  · exact post.elim
  · rename_i as e
    split at post
    · rename_i nd
      obtain ⟨ar, pr⟩ := lend_ok rel1 z.1 e
      have ndA := lent_nodup rel1 z.1 e nd z.2
      refine ⟨hn, G1, as, rel1.sub, ar, ndA, ?_⟩
      have after : ∀ {G' H' : Hp} {outs : List Ob}, Back X.K G1 H1 G' H' (lentA vs as) outs → F.rel X.K G' H' σ (back ρ1 (slots cas) outs) := fun {G' H' outs} bk => by
        refine back_ok nd pr bk.outs bk.sub (fun b o hb => ?_) rel1.pin rel1.len (fun i d h => ?_) (fun i b hi h => ?_) rel1.sep rel1.std
        · obtain ⟨q1, q2⟩ := rel1.bys b o hb
          refine bk.rest b o q1 q2 fun hm => ?_
          obtain ⟨i, _, q3, _⟩ := paired_mem pr b hm
          rw [hb] at q3
          cases q3
        · obtain ⟨x, q1, q2⟩ := rel1.val i d h
          exact ⟨x, q1, Dq.mono bk.g q2⟩
        · obtain ⟨l, q1, q2, q3, q4⟩ := rel1.own i b h
          obtain ⟨u, hu⟩ := q4.some
          have hm : l ∉ lentA vs as := fun hm => by
            obtain ⟨j, hj, _, p⟩ := paired_mem pr l hm
            cases j with
            | none => exact p i b h q1
            | some j =>
              obtain ⟨p1, c, p2⟩ := p
              exact hi (rel1.sep i j l b c h p2 q1 p1 ▸ hj)
          obtain ⟨k1, k2⟩ := bk.rest l u hu q2 hm
          exact ⟨l, q1, k2, q3, q4.mono bk.g (by rw [k1, hu])⟩
      split at post
      · rename_i d outs eg
        rw [eg]
        exact fun G' H' x bk hx => post G' H' x (s1.trans bk.g) (after bk) hx
      · rename_i b outs eg
        rw [eg]
        intro G' H' l bk hl gl ow
        have rel2 := after bk
        refine post G' H' _ (s1.trans bk.g) rel2 ⟨l, rfl, gl, ?_, ow, fun i c h e => ?_⟩
        · cases q : F.B l with
          | none => rfl
          | some o =>
            rw [(rel1.bys l o q).1] at hl
            cases hl
        · -- an own slot's address was there before
          have was : ∃ c', ρ1[i]? = some (.o c') := by
            have key : ∀ (is : List (Option Nat)) (os : List Ob) (ρ : Env) (i : Nat) (c : Ob), (∀ j, some j ∈ is → ∃ b, ρ[j]? = some (.o b)) → (back ρ is os)[i]? = some (.o c) → ∃ c', ρ[i]? = some (.o c') := by
              intro is
              induction is with
              | nil => intro os ρ i c _ h; cases os <;> exact ⟨c, h⟩
              | cons j is ih =>
                intro os ρ i c hj h
                cases os with
                | nil => cases j <;> exact ⟨c, h⟩
                | cons o os =>
                  cases j with
                  | none => exact ih os ρ i c (fun k hk => hj k (List.mem_cons_of_mem _ hk)) h
                  | some j =>
                    obtain ⟨b0, hb0⟩ := hj j List.mem_cons_self
                    obtain ⟨c1, h1⟩ := ih os (ρ.set j (.o o)) i c (fun k hk => by
                      obtain ⟨bk, hbk⟩ := hj k (List.mem_cons_of_mem _ hk)
                      by_cases e : j = k
                      · subst e
                        exact ⟨o, List.getElem?_set_self (List.getElem?_eq_some_iff.mp hb0).1⟩
                      · exact ⟨bk, by rw [List.getElem?_set_ne e]; exact hbk⟩) h
                    rcases getElem_set_sl h1 with ⟨rfl, _, _⟩ | ⟨_, h1⟩
                    · exact ⟨b0, hb0⟩
                    · exact ⟨c1, h1⟩
            refine key _ _ _ _ _ (fun j hj => ?_) h
            obtain ⟨_, _, pj⟩ := paired_memL pr _ hj
            exact pj.2.2
          obtain ⟨c', hc'⟩ := was
          obtain ⟨l', q1, _, _, q4⟩ := rel1.own i c' hc'
          rw [e] at q1
          cases q1
          obtain ⟨u, hu⟩ := q4.some
          rw [hl] at hu
          cases hu
      · rename_i z outs eg
        rw [eg]
        intro G' H' cls d bk xr
        refine post G' H' cls d (s1.trans bk.g) (after bk) ⟨xr.1, ?_⟩
        cases d with
        | none => exact xr.2
        | some dd =>
          obtain ⟨_, g1, g2, g3⟩ := xr
          refine ⟨g1, ?_, g3⟩
          cases q : F.B dd with
          | none => rfl
          | some o =>
            rw [(rel1.bys dd o q).1] at g2
            cases g2
      · exact post.elim
    · exact post.elim
theorem evC_len (W : Wd) : ∀ (es : Exs) (m : List Bool) (ρ : Env) (cs : List CA) (ρ' : Env), evC W es m ρ = .ok cs ρ' → cs.length = es.len
  | .nil, _, ρ, cs, ρ', e => by
    cases (show Out.ok [] ρ = .ok cs ρ' from e)
    rfl
  | .cons a es, m, ρ, cs, ρ', e => by
    have e : ((ev W a ρ).bind fun r ρ1 => match m.headD false with
      | true => (match r with
        | .s i => (evC W es m.tail ρ1).bind fun cs ρ2 => .ok (.s i :: cs) ρ2
        | .o b => (evC W es m.tail ρ1).bind fun cs ρ2 => .ok (.o b :: cs) ρ2
        | .v d => (evC W es m.tail ρ1).bind fun cs ρ2 => .ok (.v d :: cs) ρ2)
      | false => (frz r ρ1).bind fun d ρ2 => (evC W es m.tail ρ2).bind fun cs ρ3 => .ok (.v d :: cs) ρ3) = .ok cs ρ' := e
    obtain ⟨r, ρ1, _, e⟩ := bind_ok e
    split at e
    · split at e
      · obtain ⟨cl, ρ2, e2, e⟩ := bind_ok e
        cases e
        rw [List.length_cons, evC_len W es _ _ _ _ e2]
        rfl
      · obtain ⟨cl, ρ2, e2, e⟩ := bind_ok e
        cases e
        rw [List.length_cons, evC_len W es _ _ _ _ e2]
        rfl
      · obtain ⟨cl, ρ2, e2, e⟩ := bind_ok e
        cases e
        rw [List.length_cons, evC_len W es _ _ _ _ e2]
        rfl
    · obtain ⟨d, ρ2, _, e⟩ := bind_ok e
      obtain ⟨cl, ρ3, e2, e⟩ := bind_ok e
      cases e
      rw [List.length_cons, evC_len W es _ _ _ _ e2]
      rfl
variable {f : Nat} {k : Nat} {x : Str} {fa : Addr} {fd : FuncData} {ps : List Str} {p : Pos} {es : List Expr} {ds : Exs}
/-- what a call lets out when nothing may be raised -/
theorem passL {X : Cx} : Passes (L2.CX X.prog X.w) X (fun _ _ _ => False) := fun _ _ _ _ _ _ _ ⟨_, _, _, _, _, _, _, _, _, _, _, _, h⟩ => h.elim
theorem passW {Wx : WX} (tk : Takes X Wx) (σ : L2.St) : PassesAt (L2.CX X.prog X.w) X σ (fun cls d H' => Wx cls d σ H') := fun _ _ _ e s' I c => tk e s' (XE.of_call I (fun _ _ _ h => h) c)
theorem pe_callS0 {CX : CXT} {sp : Sp} {E : L2.St → XK} (FK : FnOk X.prog X.w X.K X.mg X.base CX k fa fd ps sp) (hr : Room k X.A) (hg : Gl X x) (hm : X.mg x = some (.ref fa)) (hk : PySem.W.keepIn X.K (.ref fa) = true) (hb : Binds X.K fd ps []) (hx : ∀ σ, PassesAt CX X σ (E σ))
    (hdb : (x == ("__debug__" : Str)) = false) : PE X (.Call (.Name x p) [] [] pos) (fun σ H Q => sp [] H Q (E σ)) := by
  refine ⟨fun pins s σ H Q I h => ?_⟩
  refine wpAny_Call_Name_kw (ld_glob I hg hm ?_ hdb)
  exact PySem.W.callWith_K0 I.kIn hk (run_fnSD (us := []) (vs := []) FK hr hb .nil (hx σ) I .nil (by simpa using h))
/-- an expression that may raise, where it stands alone -/
def tX (K : PySem.W.Frag) (mg : Str → Option Value) (F : Fx) (m : Env → Out R) : TE := fun σ H Q => ∃ G ρ, F.rel K G H σ ρ ∧ PostX (m ρ) (EndE K F G σ Q) (EndX K mg F G σ)
abbrev PXv (X : Cx) (F : Fx) (W : Wd) (e : Expr) (d : Ex) : Prop := PE X e (tX X.K X.mg F fun ρ => (ev W d ρ).xif d.isCall)
theorem px_pe {e : Expr} {d : Ex} (h : PEv X F W e d) (hc : d.isCall = false) : PXv X F W e d := pe_of fun σ H Q ⟨G, ρ, rel, post⟩ => by
  refine ⟨_, h, G, ρ, rel, ?_⟩
  have post : PostX ((ev W d ρ).xif d.isCall) (EndE X.K F G σ Q) (EndX X.K X.mg F G σ) := post
  rw [hc] at post
  generalize ev W d ρ = o at post ⊢
  cases o with
  | ok r ρ' => exact post
  | exc x ρ' => exact False.elim post
  | bad => exact False.elim post
theorem ex_call (tk : Takes X F.P.xw) (FK : FnOk X.prog X.w X.K X.mg X.base (L2.CX X.prog X.w) k fa fd ps (spOf X.K X.mg ps.length (W.Γ f))) (hr : Room k X.A) (hg : Gl X x) (hm : X.mg x = some (.ref fa)) (hk : PySem.W.keepIn X.K (.ref fa) = true) (hb : Binds X.K fd ps []) (hl : ds.len = ps.length)
    (h : PCv X F W (a :: es) ds (W.lm f)) (hdb : (x == ("__debug__" : Str)) = false) (he : starEach (a :: es) X.env = (false, eval a X.env) :: starEach es X.env) (hpl : (backTo pos (starEach es X.env)).any (·.1) = false) : PXv X F W (.Call (.Name x p) (a :: es) [] pos) (.call f ds) := pe_of fun σ H Q q => by
  obtain ⟨G, ρ, rel, post⟩ := q
  have post : PostX (((evC W ds (W.lm f) ρ).bind fun cas ρ1 => callF (W.Γ f) cas ρ1).xif true) (EndE X.K F G σ Q) (EndX X.K X.mg F G σ) := post
  cases e1 : evC W ds (W.lm f) ρ with
  | exc z ρ1 => rw [e1] at post; exact post.elim
  | bad => rw [e1] at post; exact post.elim
  | ok cas ρ1 =>
    rw [e1] at post
    have post : PostX ((callF (W.Γ f) cas ρ1).xif true) (EndE X.K F G σ Q) (EndX X.K X.mg F G σ) := post
    have post : PostX (callF (W.Γ f) cas ρ1) (EndE X.K F G σ Q) (EndX X.K X.mg F G σ) := by
      generalize callF (W.Γ f) cas ρ1 = o at post ⊢
      cases o <;> exact post
    refine ⟨_, pe_callSD (E := fun σ cls d H' => F.P.xw cls d σ H') FK hr hg hm hk hb .nil (passW tk) h hdb he hpl, tA_in rel e1 fun G1 H1 vs s1 rel1 z1 => ?_⟩
    have z1 : ZC X.K F.B G1 H1 σ ρ1 cas vs := z1
    rw [List.append_nil]
    exact call_wish (es := ds) s1 rel1 z1 (by rw [← Paired.length z1.1, evC_len W _ _ _ _ _ e1, hl]) post
theorem ex_call0 (tk : Takes X F.P.xw) (FK : FnOk X.prog X.w X.K X.mg X.base (L2.CX X.prog X.w) k fa fd [] (spOf X.K X.mg 0 (W.Γ f))) (hr : Room k X.A) (hg : Gl X x) (hm : X.mg x = some (.ref fa)) (hk : PySem.W.keepIn X.K (.ref fa) = true) (hb : Binds X.K fd [] [])
    (hdb : (x == ("__debug__" : Str)) = false) : PXv X F W (.Call (.Name x p) [] [] pos) (.call f .nil) := pe_of fun σ H Q q => by
  obtain ⟨G, ρ, rel, post⟩ := q
  have post : PostX ((callF (W.Γ f) [] ρ).xif true) (EndE X.K F G σ Q) (EndX X.K X.mg F G σ) := post
  have post : PostX (callF (W.Γ f) [] ρ) (EndE X.K F G σ Q) (EndX X.K X.mg F G σ) := by
    generalize callF (W.Γ f) [] ρ = o at post ⊢
    cases o <;> exact post
  refine ⟨_, pe_callS0 (E := fun σ cls d H' => F.P.xw cls d σ H') FK hr hg hm hk hb (passW tk) hdb, ?_⟩
  exact call_wish (es := .nil) (Same.refl _) rel ⟨.nil, List.nodup_nil⟩ rfl post
/-- .. within an expression: nothing is raised -/
theorem ev_call (FK : FnOk X.prog X.w X.K X.mg X.base (L2.CX X.prog X.w) k fa fd ps (spOf X.K X.mg ps.length (W.Γ f))) (hr : Room k X.A) (hg : Gl X x) (hm : X.mg x = some (.ref fa)) (hk : PySem.W.keepIn X.K (.ref fa) = true) (hb : Binds X.K fd ps []) (hl : ds.len = ps.length)
    (h : PCv X F W (a :: es) ds (W.lm f)) (hdb : (x == ("__debug__" : Str)) = false) (he : starEach (a :: es) X.env = (false, eval a X.env) :: starEach es X.env) (hpl : (backTo pos (starEach es X.env)).any (·.1) = false) : PEv X F W (.Call (.Name x p) (a :: es) [] pos) (.call f ds) := pe_of fun σ H Q q => by
  obtain ⟨G, ρ, rel, post⟩ := q
  obtain ⟨cas, ρ1, e1, post_⟩ := Post.bind post; clear post; have post := post_; clear post_
  refine ⟨_, pe_call FK hr hg hm hk hb .nil passL h hdb he hpl, tA_in rel e1 fun G1 H1 vs s1 rel1 z1 => ?_⟩
  have z1 : ZC X.K F.B G1 H1 σ ρ1 cas vs := z1
  rw [List.append_nil]
  exact call_wish (E := fun _ _ _ => False) (es := ds) s1 rel1 z1 (by rw [← Paired.length z1.1, evC_len W _ _ _ _ _ e1, hl]) (PostX.of post)
theorem ev_call0 (FK : FnOk X.prog X.w X.K X.mg X.base (L2.CX X.prog X.w) k fa fd [] (spOf X.K X.mg 0 (W.Γ f))) (hr : Room k X.A) (hg : Gl X x) (hm : X.mg x = some (.ref fa)) (hk : PySem.W.keepIn X.K (.ref fa) = true) (hb : Binds X.K fd [] [])
    (hdb : (x == ("__debug__" : Str)) = false) : PEv X F W (.Call (.Name x p) [] [] pos) (.call f .nil) := pe_of fun σ H Q q => by
  obtain ⟨G, ρ, rel, post⟩ := q
  obtain ⟨cas, ρ1, e1, post_⟩ := Post.bind post; clear post; have post := post_; clear post_
  cases (show Out.ok [] ρ = .ok cas ρ1 from e1)
  refine ⟨_, pe_call0 FK hr hg hm hk hb .nil passL hdb, ?_⟩
  exact call_wish (E := fun _ _ _ => False) (es := .nil) (Same.refl _) rel ⟨.nil, List.nodup_nil⟩ rfl (PostX.of post)
end
/-! ### several slots at once -/
def setS (σ : L2.St) : List Nat → List V → L2.St
  | i :: is, v :: vs => setS (σ.set i (some v)) is vs
  | _, _ => σ
def caW (K : PySem.W.Frag) (B G H : Hp) (σ : L2.St) (ρ : Env) (c : CA) (x : V) : Prop := match c with
  | .v d => Dq K G x d
  | .s _ => True
  | .o b => ∃ a, x = .ref a ∧ G a = none ∧ B a = none ∧ OwnAt K G H a b ∧ ∀ (i : Nat) (c : Ob), ρ[i]? = some (.o c) → σ[i]? ≠ some (some (.ref a))
theorem caW_v {K : PySem.W.Frag} {B G H : Hp} {σ : L2.St} {ρ : Env} {i : Nat} {d : PyData} {y : V} {c : CA} {x : V} (h : caW K B G H σ ρ c x) : caW K B G H (σ.set i (some y)) (ρ.set i (.v d)) c x := by
  cases c with
  | v e => exact h
  | s j => trivial
  | o b =>
    obtain ⟨a, h1, h2, h3, h4, h5⟩ := h
    refine ⟨a, h1, h2, h3, h4, fun j c e q => ?_⟩
    rcases getElem_set_sl e with ⟨_, _, z⟩ | ⟨ne, e⟩
    · cases z
    · rw [List.getElem?_set_ne ne] at q
      exact h5 j c e q
theorem caW_o {K : PySem.W.Frag} {B G H : Hp} {σ : L2.St} {ρ : Env} {i : Nat} {b0 : Ob} {l : Addr} : ∀ {cs : List CA} {xs : List V}, Paired (caW K B G H σ ρ) cs xs → l ∉ freshA cs xs → Paired (caW K B G H (σ.set i (some (.ref l))) (ρ.set i (.o b0))) cs xs
  | [], _, .nil, _ => .nil
  | c :: cs, _, .cons (b := x) (l₂ := xs) r t, hn => by
    cases c with
    | v d => exact .cons r (caW_o t (by cases x <;> exact hn))
    | s j => exact .cons trivial (caW_o t (by cases x <;> exact hn))
    | o b =>
      obtain ⟨a, rfl, h2, h3, h4, h5⟩ := r
      have hn : l ∉ a :: freshA cs xs := hn
      refine .cons ⟨a, rfl, h2, h3, h4, fun j c e q => ?_⟩ (caW_o t fun z => hn (List.mem_cons_of_mem _ z))
      rcases getElem_set_sl e with ⟨rfl, _, _⟩ | ⟨ne, e⟩
      · have hq := (List.getElem?_eq_some_iff.mp q).1
        rw [List.length_set] at hq
        rw [List.getElem?_set_self hq] at q
        cases q
        exact hn List.mem_cons_self
      · rw [List.getElem?_set_ne ne] at q
        exact h5 j c e q
theorem setCA_ok {K : PySem.W.Frag} {F : Fx} {G H : Hp} : ∀ {is : List Nat} {cs : List CA} {xs : List V} {σ : L2.St} {ρ ρ2 : Env}, F.rel K G H σ ρ → Paired (caW K F.B G H σ ρ) cs xs → (freshA cs xs).Nodup → (∀ i ∈ is, ∀ p ∈ F.P.l, p.1 ≠ i) → setCA ρ is cs = some ρ2 → F.rel K G H (setS σ is xs) ρ2
  | [], [], _, σ, ρ, ρ2, rel, .nil, _, _, e => by
    cases e
    exact rel
  | [], c :: cs, _, σ, ρ, ρ2, rel, _, _, _, e => by cases c <;> cases e
  | i :: is, [], _, σ, ρ, ρ2, rel, _, _, _, e => by cases e
  | i :: is, c :: cs, _, σ, ρ, ρ2, rel, .cons (b := x) (l₂ := xs) r t, nd, np, e => by
    cases c with
    | v d =>
      have nd : (freshA cs xs).Nodup := by cases x <;> exact nd
      show F.rel K G H (setS (σ.set i (some x)) is xs) ρ2
      exact setCA_ok (rel.setV r (np i List.mem_cons_self)) (Paired.mapP t fun _ _ z => caW_v z) nd (fun j hj => np j (List.mem_cons_of_mem _ hj)) e
    | s j => cases e
    | o b =>
      obtain ⟨a, rfl, h2, h3, h4, h5⟩ := r
      obtain ⟨n1, n2⟩ := List.nodup_cons.mp (show (a :: freshA cs xs).Nodup from nd)
      show F.rel K G H (setS (σ.set i (some (.ref a))) is xs) ρ2
      exact setCA_ok (rel.setO ⟨a, rfl, h2, h3, h4, h5⟩ (np i List.mem_cons_self)) (caW_o t n1) n2 (fun j hj => np j (List.mem_cons_of_mem _ hj)) e
theorem caOk_w {K : PySem.W.Frag} {B G H : Hp} {σ : L2.St} {ρ : Env} {c : CA} {x : V} (h : caOk K B G H σ ρ c x) : caW K B G H σ ρ c x := by
  cases c with
  | v d => exact h
  | s j => trivial
  | o b => exact h
end Rc

set_option Elab.async false
set_option linter.all false
set_option maxRecDepth 100000
set_option maxHeartbeats 2000000
/-! Exi: own exceptions whose __init__ keeps its arguments and calls super().__init__. -/
namespace Rc
open PySem PySem.Spec PyProof.Rows L2 NdefX
/-- what the written part says of the class C, its __init__ at fI, the cell of __class__ at cc -/
structure XIn (P : Program) (K : PySem.W.Frag) (C fI cc : Addr) (F : NF) : Prop where
  oex : OexC K C
  fn : ∃ od sl doc pm ctv, K.lookup fI = some ⟨.type "function", od, .func (F.fd doc pm ctv), sl⟩
  code : PySem.W.codeIn K (.ref F.c) F.qual = true
  file : ∃ ccl cdd vs ccs file tf, K.lookup F.c = some ⟨ccl, cdd, .fields vs, ccs⟩ ∧ vs[2]? = some (.str file tf) ∧ ((P.main.file : Str) == file) = true
  top : (P.main.scope.names.lookup ("super" : Str)).isSome = false
  cl : F.cl = [(("__class__" : Str), cc)]
  cell : ∃ ccl cld csl, K.lookup cc = some ⟨ccl, cld, .cell (some (.ref C)), csl⟩
  iC : PySem.W.findIn K (.ref C) "__init__" = some (some (.ref fI))
  tI : PySem.W.typeIn K (.ref fI) = some (.type "function")
  sup : PySem.W.ks_superIn K C C "__init__" = some (some (.builtin "ValueError.__init__"))
  opq : PySem.W.nsIn K cStatics "thirdparty.any" = some none
  subC : PySem.W.mroIn K C (.ref C) = some true
  subV : PySem.W.mroIn K C (.type "ValueError") = some true
section
variable {X : Cx} {F : NF} {fI C cc a : Addr}
theorem sup_eval {o1 e : Expr} {name : Str} {p2 pos : Pos} {env : PySem.Env} (hs : starEach [e] env = (false, eval e env) :: starEach [] env) (hl : (p2.endLine == pos.line) = true) :
    eval (.Call (.Attribute o1 name p2) [e] [] pos) env = (do
      let ov ← attributeBase o1 name env (eval o1 env)
      standAt p2.atName
      let (f, first) ← holding [ov] (getMethod ov name (do return (← importBound o1 env).getD true))
      callWith pos f first (backTo pos (starEach [e] env)) []) := by
  have kw : backToKw pos (keywordEach [] env) = [] := rfl
  have few : ((backTo pos (starEach [e] env)).all (fun x => !x.1) && (backToKw pos (keywordEach [] env)).all (fun x => x.1.isSome) && decide ([e].length + ([] : List Keyword).length + (if (backToKw pos (keywordEach [] env)).isEmpty then 0 else 1) < 30)) = true := by
    rw [hs]
    rfl
  have key : ∀ ov, methodCall o1 name p2 pos env ov ([e].length + ([] : List Keyword).length) (backTo pos (starEach [e] env)) (backToKw pos (keywordEach [] env)) = (do
      let (f, first) ← holding [ov] (getMethod ov name (do return (← importBound o1 env).getD true))
      callWith pos f first (backTo pos (starEach [e] env)) []) := fun ov => by
    have fw : methodCallForm ([e].length + ([] : List Keyword).length) (backTo pos (starEach [e] env)) (backToKw pos (keywordEach [] env)) = true := few
    unfold methodCall
    rw [fw]
    unfold calleeOf methodCallPos
    rw [hl]
    rfl
  show (do
    let ov ← attributeBase o1 name env (eval o1 env)
    standAt p2.atName
    methodCall o1 name p2 pos env ov ([e].length + ([] : List Keyword).length) (backTo pos (starEach [e] env)) (backToKw pos (keywordEach [] env))) = _
  simp only [key]
/-- super().__init__(e) -/
theorem sup_run {ar : Arg} {d : Option Addr} {e : Expr} {p0 p1 p2 pos : Pos} {body : List Stmt} {ta : TA} {R : Hp → Prop} {pins : List (Addr × Obj)} {σ : L2.St} {H : Hp} {s : Shared} (T : XIn X.prog X.K C fI cc F) (hE : X.env = envF F fI X.env.locals)
    (hp : (F.params.posonlyargs ++ F.params.args).head? = some ar) (hN : X.N[0]? = some ar.arg) (ks : F.scope.names.lookup ("super" : Str) = some .globalImplicit) (kc : F.scope.names.lookup ("__class__" : Str) = some .free) (ka : F.scope.names.lookup ar.arg = some .local) (hm : X.mg "super" = none)
    (I : Inv X pins σ H s) (h0 : σ[0]? = some (some (.ref a))) (eo : H a = some (exo a C d)) (ha : PA X [e] ta) (hq : ta σ H fun vs H1 => vs.length ≤ 1000 ∧ H1 a = some (exo a C d) ∧ R H1)
    (hst : starEach [e] X.env = (false, eval e X.env) :: starEach [] X.env) {pl : Sem Bool} {o1 : Expr} (ho1 : o1 = .Call (.Name "super" p0) [] [] p1)
    (hev : eval (.Call (.Attribute o1 "__init__" p2) [e] [] pos) X.env = (do
      let ov ← attributeBase o1 "__init__" X.env (eval o1 X.env)
      standAt p2.atName
      let (f, first) ← holding [ov] (getMethod ov "__init__" pl)
      callWith pos f first (backTo pos (starEach [e] X.env)) [])) :
    _root_.PySem.wpAt (model X.prog X.w) X.A (.func body X.env) (eval (.Call (.Attribute o1 "__init__" p2) [e] [] pos) X.env) (fun _ s' => ∃ H1, Inv X pins σ H1 s' ∧ R H1) X.xe s := by
  have KI := I.kIn
  obtain ⟨od, sl, doc, pm, ctv, hfn⟩ := T.fn
  obtain ⟨ccl, cdd, cvs, ccs, file, tf, hcd, hvs, hfile⟩ := T.file
  obtain ⟨l1, l2, l3, hcell⟩ := T.cell
  obtain ⟨nm, q, NN, bs, bm, sn, sub, ab, col, dd, k0, k1, k2, k3, k5, hC, hbm⟩ := T.oex.cls
  have hcl : PySem.W.clsIn X.K C = some { name := nm, bases := bs, mro := .ref C :: bm, ns := NN, qualname := q, hasDict := true, slotNames := sn, subclasses := sub, abstract := ab, collection := col, hasDel := false } := by unfold PySem.W.clsIn; rw [hC] <;> rfl
  obtain ⟨t1, ho⟩ := exo_at I.hok eo
  have hk1 : X.env.kindOf "super" = some .globalImplicit := by rw [hE]; exact ks
  have hk2 : X.env.kindOf "__class__" = some .free := by rw [hE]; exact kc
  have hk3 : X.env.kindOf ar.arg = some .local := by rw [hE]; exact ka
  have hfu : X.env.func = some fI := by rw [hE]
  have hco : X.env.code = .ref F.c := by rw [hE]
  have hcc : X.env.cells.lookup ("__class__" : Str) = some cc := by
    rw [hE]
    show F.cl.lookup ("__class__" : Str) = _
    rw [T.cl]
    rfl
  refine PySem.ks_wpAt_MethodCall (pl := pl) ?g (he := hev)
  subst ho1
  refine PySem.ks_wpAt_super_base hk1 hk2 (by decide) hfu (KI _ _ hfn) rfl hp hco (KI _ _ hcd) rfl hvs hfile T.top ?_
  obtain ⟨mb, b1, b2⟩ := I.mod.blt
  refine PySem.W.ks_loadName_global I.ok.kind hk1 (Calls.loadGlobal_builtin (by rw [I.ok.glob]; exact I.mod.glob.keeps I.bk) hm (by rw [I.ok.blt]; exact b1.keeps I.bk) ((b2 "super" (by decide)).trans (by decide +kernel)) ⟨rfl, ?_⟩)
  refine wpAny_loadName_free I.ok.kind hk2 hcc ⟨_, KI _ _ hcell, rfl⟩ ?_
  obtain ⟨m, hn, hl⟩ := id I.loc
  obtain ⟨u, hu1, hu2⟩ := hl 0 ar.arg (.ref a) hN h0 (.inl hk3)
  obtain rfl : u = Value.ref a := hu1
  have hmv : m ar.arg = some (.ref a) := by
    rcases hu2 with ⟨_, z⟩ | ⟨z, _⟩
    · exact z
    · rw [hk3] at z
      rcases z with z | z <;> cases z
  refine wpAny_loadName_local I.ok.kind hk3 hn hmv ?_
  refine PySem.ks_wpAny_isType_cls (KI _ _ hC) rfl ⟨rfl, ?_⟩
  obtain ⟨hp0, g, dr, tk, os⟩ := s
  refine PySem.ks_wpAny_call_super (KI _ _ hC) rfl ho rfl (fun c z => by cases z) (PySem.W.looks_mroIn KI T.subC) fun h1 e1 kp1 => ?_
  have KI1 : X.K.In h1 := KI.keeps kp1
  have xC : a ≠ C := by
    intro z
    subst z
    have := (KI _ _ hC).symm.trans ho
    cases this
  have LT : PySem.W.Looks (model X.prog X.w) h1 (typeOf (.ref a)) (.ref C) := fun A Q E s k q => wpAny_typeOf_ref (k _ _ (kp1 _ _ ho)) q
  have hsup : PySem.W.alongIn X.K "__init__" (((Value.ref C :: bm).dropWhile (· != .ref C)).drop 1) = some (some (.builtin "ValueError.__init__")) := by
    have z := T.sup
    unfold PySem.W.ks_superIn at z
    rw [hcl] at z
    exact z
  refine PySem.W.kxs_getMethod PySem.W.kxs_ValueError e1 (PySem.W.looks_opaque KI1 T.opq) (l₀ := .ref C :: bm) ?_ rfl KI1 hsup (LT.andThen (PySem.W.looks_mroIn KI1 T.subV)) xC (by decide) ?_
  · exact (PySem.W.looks_clsIn KI1 hcl).andThen .now
  have kp2 : ∀ b o, hp0.get? b = some o → (h1.push (PySem.W.kxs_mw "ValueError.__init__" a)).get? b = some o := fun b o z => Heap.get?_push_of_some _ (kp1 b o z)
  have I1 : Inv X pins σ H ⟨h1.push (PySem.W.kxs_mw "ValueError.__init__" a), g, dr, tk + 1, os⟩ := I.kept kp2
  have sz : hp0.objs.size ≤ h1.objs.size := Nat.le_of_lt (Heap.lt_size e1)
  have hu : (h1.push (PySem.W.kxs_mw "ValueError.__init__" a)).get? h1.objs.size = some (PySem.W.kxs_mw "ValueError.__init__" a) := Heap.get?_push_at rfl rfl
  have I2 : Inv X ((h1.objs.size, PySem.W.kxs_mw "ValueError.__init__" a) :: pins) σ H ⟨h1.push (PySem.W.kxs_mw "ValueError.__init__" a), g, dr, tk + 1, os⟩ := I1.pins_of fun p hp => by
    rcases List.mem_cons.mp hp with rfl | hp
    · exact ⟨hu, I.hok.fresh sz, Nat.ne_of_gt (Nat.lt_of_lt_of_le I.lt sz), I.nofs sz, fun v z => by cases z⟩
    · exact I1.pin p (List.mem_append_right _ hp)
  show wpAny _ _ (callWith pos (.ref h1.objs.size) [] (backTo pos (starEach [e] X.env)) []) _ _ _
  refine PySem.W.kxs_callWith (i := "ValueError.__init__") (x := a) (by rw [hst]; rfl) ?_
  rw [hst]
  refine Calls.evalArgs_plain ?_
  have hrun := ha.run pos _ _ σ H _ I2 hq
  rw [hst] at hrun
  refine thn hrun fun us s1 ⟨vs, H1, I3, r, hz, e3, hR⟩ => ?_
  have hu3 := (I3.pin (h1.objs.size, PySem.W.kxs_mw "ValueError.__init__" a) (List.mem_append_right _ List.mem_cons_self)).1
  refine ⟨hu3, ?_⟩
  obtain ⟨hp3, g3, dr3, tk3, os3⟩ := s1
  have KI3 := I3.kIn
  obtain ⟨t3, ho3⟩ := exo_at I3.hok e3
  refine wpAny_call (codeAny_of_tree ?_)
  show wpAny _ (Around.in1 _) (callAny (.ref h1.objs.size) ⟨us, []⟩) _ _ _
  simp only [callAny]
  refine wpAny_bind (wpAny_load hu3 ?_)
  simp only [PySem.W.kxs_mw, show (Value.type "method-wrapper" == Value.type "method" || Value.type "method-wrapper" == Value.type "builtin_function_or_method" || Value.type "method-wrapper" == Value.type "method-wrapper") = true by decide, if_true]
  refine PySem.W.KFB.if_so (by decide) ?_
  refine wpAny_bind ?_
  refine PySem.W.check_bound_init PySem.F.excBase_ValueError.toExcCallFacts (KI3 _ _ hC) ho3 rfl ?_
  refine wpAny_bind (wpAny_pure (wpAny_pure ?_))
  refine ⟨plainId_quiet PySem.F.excBase_ValueError.init.plain _, ?_⟩
  refine codeAny_builtin PySem.F.excBase_ValueError.initEntry ?_
  have hus : us.length ≤ sizeLine := by
    rw [← Paired.length r, sizeLine_eq]
    omega
  refine PySem.W.exc_init_tree (cls := .ref C) (t0 := t3) (dv := d) (c2 := .none) (c3 := .none) (b4 := .bool false) ho3 hus fun h' kq eq _ => ?_
  have eu : upd H1 a (exo a C d) = H1 := by
    funext b
    by_cases hb : b = a
    · rw [hb, upd_same, e3]
    · rw [upd_ne hb]
  have J := I3.write (t' := tk3) (x := a) (e := a) (o := exo a C d) (by rw [e3]; exact True.intro) (.inl rfl) kq ⟨_, eq⟩ (exo_ok eq)
  rw [eu] at J
  exact ⟨H1, J.pins_of fun p hp => J.pin p (List.mem_append_right _ (List.mem_cons_of_mem _ hp)), hR⟩
end
/-! ### the message -/
inductive Ms where
  | lit (s : Str)
  | cat (m : Ms) (s : Str)
  | app (m : Ms) (i : Nat)
/-- an argument that can be told -/
def Tb : V → Prop
  | .int n => 0 ≤ n ∧ n < 1000000000
  | .str s => s.length ≤ 1000
  | _ => False
def Ms.ok (σ : L2.St) : Ms → Prop
  | .lit s => s.length ≤ 1000
  | .cat m s => m.ok σ ∧ s.length ≤ 1000
  | .app m i => m.ok σ ∧ ∃ v, σ[i]? = some (some v) ∧ Tb v
def Ms.len : Ms → Nat
  | .lit _ => 1000
  | .cat m _ => m.len + 1000
  | .app m _ => m.len + 1000
def isG (sc : Scope) (x : Str) : Bool := match sc.names.lookup x with
  | some .globalImplicit => true
  | _ => false
def isV (sc : Scope) (x : Str) : Bool := match sc.names.lookup x with
  | some .local => true
  | some .cell => true
  | some .free => true
  | _ => false
def nmK (x : Str) : Bool := !(x == ("__debug__" : Str)) && !(x == ("__classdict__" : Str))
def chkM (N : List Str) (sc : Scope) : Ms → Expr → Bool
  | .lit s, .Constant (.str t) _ _ => decide (s = t)
  | .cat m s, .BinOp x .Add (.Constant (.str t) _ _) _ => decide (s = t) && chkM N sc m x
  | .app m i, .BinOp x .Add (.Call (.Name f _) [.Name y _] [] _) _ => decide (f = "str") && isG sc f && decide (N[i]? = some y) && isV sc y && nmK y && chkM N sc m x
  | _, _ => false
def tMs (m : Ms) : TE := fun σ H Q => m.ok σ ∧ ∀ t : Str, t.length ≤ m.len → Q (.str t) H
theorem num_len {n : Int} (h0 : 0 ≤ n) (h : n < 1000000000) : (Str.ofString (toString n)).length ≤ 1000 := by
  obtain ⟨k, rfl⟩ := Int.eq_ofNat_of_zero_le h0
  have e := congrArg List.length (PySem.W.KIN.signs_num k)
  rw [List.length_map] at e
  have hl : (Nat.toDigits 10 k).length ≤ 9 := (Nat.length_toDigits_le_iff (by decide) (by decide)).mpr (by omega)
  have z : (Str.ofString (toString (k : Int))).cps.toList.length = (Str.ofString (toString (k : Int))).length := Array.length_toList
  rw [z] at e
  show (Str.ofString (toString (k : Int))).length ≤ 1000
  omega
theorem isV_ok {sc : Scope} {x : Str} (h : isV sc x = true) : Vis sc x := by
  unfold isV at h
  split at h
  · rename_i e; exact .inl e
  · rename_i e; exact .inr (.inl e)
  · rename_i e; exact .inr (.inr e)
  · cases h
theorem isG_ok {sc : Scope} {x : Str} (h : isG sc x = true) : sc.names.lookup x = some .globalImplicit := by
  unfold isG at h
  split at h
  · assumption
  · cases h
theorem Ms.small (σ : L2.St) : ∀ m : Ms, m.len ≤ 1000000 → m.len ≤ sizeLine := fun m h => by
  rw [sizeLine_eq]
  omega
theorem pe_ms {X : Cx} (hm : X.mg "str" = none) : ∀ (m : Ms) {e : Expr}, m.len ≤ 1000000 → chkM X.N X.env.scope m e = true → PE X e (tMs m)
  | .lit s, e, hl, h => by
    cases e with
    | Constant c j p =>
      cases c with
      | str t =>
        cases of_decide_eq_true (show decide (s = t) = true from h)
        exact pe_of fun σ H Q q => ⟨_, pe_str, q.2 s q.1⟩
      | _ => exact absurd h Bool.false_ne_true
    | _ => exact absurd h Bool.false_ne_true
  | .cat m s, e, hl, h => by
    cases e with
    | BinOp x op y p =>
      cases y with
      | Constant c j p2 =>
        cases c with
        | str t =>
          cases op with
          | Add =>
            obtain ⟨h1, h2⟩ := Bool.and_eq_true_iff.mp (show (decide (s = t) && chkM X.N X.env.scope m x) = true from h)
            cases of_decide_eq_true h1
            have hl : m.len + 1000 ≤ 1000000 := hl
            refine pe_of fun σ H Q q => ⟨_, pe_op op_add_str (pe_ms hm m (by omega) h2) pe_str, ?_⟩
            obtain ⟨⟨q1, q2⟩, q3⟩ := q
            exact ⟨q1, fun t ht => ⟨t, s, rfl, rfl, by rw [sizeLine_eq]; omega, q3 _ (by rw [Str.length_append]; show _ ≤ m.len + 1000; omega)⟩⟩
          | _ => exact absurd h Bool.false_ne_true
        | _ => cases op <;> exact absurd h Bool.false_ne_true
      | _ => cases op <;> exact absurd h Bool.false_ne_true
    | _ => exact absurd h Bool.false_ne_true
  | .app m i, e, hl, h => by
    cases e with
    | BinOp x op y p =>
      cases y with
      | Call f as ks p2 =>
        rcases as with _ | ⟨a1, _ | ⟨a2, as⟩⟩
        · cases op <;> cases f <;> exact absurd h Bool.false_ne_true
        · cases f with
          | Name f fp =>
            cases a1 with
            | Name y yp =>
              cases ks with
              | cons k ks => cases op <;> exact absurd h Bool.false_ne_true
              | nil =>
                cases op with
                | Add =>
                  have h : (decide (f = "str") && isG X.env.scope f && decide (X.N[i]? = some y) && isV X.env.scope y && nmK y && chkM X.N X.env.scope m x) = true := h
                  simp only [Bool.and_eq_true, decide_eq_true_eq] at h
                  obtain ⟨⟨⟨⟨⟨h1, h2⟩, h3⟩, h4⟩, h5⟩, h6⟩ := h
                  subst h1
                  unfold nmK at h5
                  simp only [Bool.and_eq_true, Bool.not_eq_true'] at h5
                  have hl : m.len + 1000 ≤ 1000000 := hl
                  have pv1 : PE X (.Name y yp) (tVar i) := pe_var h3 (isV_ok h4) h5.1 h5.2
                  have gl : Gl X "str" := isG_ok h2
                  refine pe_of fun σ H Q q => ?_
                  obtain ⟨⟨q1, v, qv, qt⟩, q3⟩ := q
                  have fin : ∀ t z : Str, t.length ≤ m.len → z.length ≤ 1000 → t.length + z.length ≤ sizeLine ∧ Q (.str (t ++ z)) H := fun t z ht hz => ⟨by rw [sizeLine_eq]; omega, q3 _ (by rw [Str.length_append]; show _ ≤ m.len + 1000; omega)⟩
                  cases v with
                  | int n =>
                    refine ⟨_, pe_op op_add_str (pe_ms hm m (by omega) h6) (pe_callTy call_str_int gl hm rfl (pa_cons pv1 pa_nil)), q1, fun t ht => ?_⟩
                    obtain ⟨t1, t2⟩ := (qt : 0 ≤ n ∧ n < 1000000000)
                    have hlog : n.natAbs.log2 < 1920 := by
                      by_cases z : n.natAbs = 0
                      · rw [z]; decide
                      · exact (Nat.log2_lt z).mpr (Nat.lt_of_lt_of_le (show n.natAbs < 2 ^ 30 by omega) (Nat.pow_le_pow_right (by decide) (by decide)))
                    obtain ⟨f1, f2⟩ := fin t (Str.ofString (toString n)) ht (num_len t1 t2)
                    exact ⟨_, qv, n, rfl, hlog, t, _, rfl, rfl, f1, f2⟩
                  | str z =>
                    refine ⟨_, pe_op op_add_str (pe_ms hm m (by omega) h6) (pe_callTy SkE.call_str_str gl hm rfl (pa_cons pv1 pa_nil)), q1, fun t ht => ?_⟩
                    obtain ⟨f1, f2⟩ := fin t z ht qt
                    exact ⟨_, qv, z, rfl, t, z, rfl, rfl, f1, f2⟩
                  | _ => exact qt.elim
                | _ => exact absurd h Bool.false_ne_true
            | _ => cases op <;> exact absurd h Bool.false_ne_true
          | _ => cases op <;> exact absurd h Bool.false_ne_true
        · cases op <;> cases f <;> first
            | exact absurd h Bool.false_ne_true
            | (cases a1 <;> exact absurd h Bool.false_ne_true)
      | _ => cases op <;> exact absurd h Bool.false_ne_true
    | _ => exact absurd h Bool.false_ne_true
/-! ### the stores -/
/-- between the begin and the end of an __init__: at a the exception, its dict D holds acc -/
structure Mid (H0 H : Hp) (a C : Addr) (D : Option Addr) (acc : List (Str × V)) : Prop where
  obj : H a = some (exo a C D)
  dct : match D with
    | none => acc = []
    | some dx => H dx = some (exd dx acc) ∧ dx ≠ a ∧ H0 dx = none ∧ acc ≠ []
  off : ∀ b, b ≠ a → D ≠ some b → H b = H0 b
section
variable {X : Cx} {C a : Addr} {c : Code} {E : Value → Shared → Prop}
theorem at_cons {st : Stmt} {rest : List Stmt} {Q : Flow → Shared → Prop} {t : TS} {W : L2.St → Hp → Prop} {pins : List (Addr × Obj)} {σ : L2.St} {H : Hp} {s : Shared} (hs : PS X st t) (I : Inv X pins σ H s) (h : t { nx := W, rt := fun _ _ => False } σ H)
    (k : ∀ σ' H' s', Inv X pins σ' H' s' → W σ' H' → _root_.PySem.wpAt (model X.prog X.w) X.A c (execs rest X.env) Q X.xe s') : _root_.PySem.wpAt (model X.prog X.w) X.A c (execs (st :: rest) X.env) Q X.xe s := by
  refine PySem.ks_wpAt_execs_cons (wpAt_of_wpAny (wpAny_mono (hs.run pins s σ H _ I h) (fun f s' hf => ?_) fun _ _ z => z))
  cases f with
  | next =>
    obtain ⟨σ', H', J, q⟩ := hf
    exact k σ' H' s' J q
  | brk =>
    obtain ⟨_, _, _, q⟩ := hf
    exact q.elim
  | cont =>
    obtain ⟨_, _, _, q⟩ := hf
    exact q.elim
  | ret u =>
    obtain ⟨_, _, _, _, _, q⟩ := hf
    exact q.elim
/-- self.f = y, y the parameter in slot j -/
structure StF (N : List Str) (sc : Scope) (f : Str) (j : Nat) (st : Stmt) : Prop where
  ex : ∃ x y xp yp ap p, st = .Assign [.Attribute (.Name x xp) f ap] (.Name y yp) p ∧ N[0]? = some x ∧ N[j]? = some y ∧ Vis sc x ∧ Vis sc y ∧ nmK x = true ∧ nmK y = true
theorem nmK_ok {x : Str} (h : nmK x = true) : (x == ("__debug__" : Str)) = false ∧ (x == ("__classdict__" : Str)) = false := by
  unfold nmK at h
  simpa only [Bool.and_eq_true, Bool.not_eq_true'] using h
theorem store_one {f : Str} {j : Nat} {st : Stmt} {rest : List Stmt} {Q : Flow → Shared → Prop} {v : V} {pins : List (Addr × Obj)} {σ : L2.St} {H0 H : Hp} {s : Shared} {D : Option Addr} {acc : List (Str × V)} (hst : StF X.N X.env.scope f j st) (T : OexC X.K C) (hno : PySem.W.findIn X.K (.ref C) f = some none)
    (m : Mid H0 H a C D acc) (I : Inv X pins σ H s) (h0 : σ[0]? = some (some (.ref a))) (hj : σ[j]? = some (some v)) (hl : acc.length ≤ 900)
    (k : ∀ dx H' s', Inv X pins σ H' s' → Mid H0 H' a C (some dx) ((f, v) :: acc) → _root_.PySem.wpAt (model X.prog X.w) X.A c (execs rest X.env) Q X.xe s') : _root_.PySem.wpAt (model X.prog X.w) X.A c (execs (st :: rest) X.env) Q X.xe s := by
  obtain ⟨x, y, xp, yp, ap, p, rfl, n0, nj, vx, vy, kx, ky⟩ := hst.ex
  have pe1 : PE X (.Name x xp) (tVar 0) := pe_var n0 vx (nmK_ok kx).1 (nmK_ok kx).2
  have pe2 : PE X (.Name y yp) (tVar j) := pe_var nj vy (nmK_ok ky).1 (nmK_ok ky).2
  refine at_cons (W := fun σ' H' => σ' = σ ∧ ∃ dx, Mid H0 H' a C (some dx) ((f, v) :: acc)) (ps_ost pe1 pe2) I ?_ fun σ' H' s' J ⟨e, dx, q⟩ => ?_
  · refine ⟨v, hj, .ref a, h0, a, C, rfl, T, hno, ?_⟩
    cases D with
    | none =>
      have e : acc = [] := m.dct
      subst e
      refine .inl ⟨m.obj, fun dx nd na => ⟨rfl, dx, upd_same, ⟨by rw [upd_ne na, upd_same], na, by rw [← m.off dx na (fun z => by cases z)]; exact nd, by simp⟩, fun b hb hD => ?_⟩⟩
      have hbd : b ≠ dx := fun z => hD (by rw [z])
      rw [upd_ne hb, upd_ne hbd]
      exact m.off b hb fun z => by cases z
    | some dx =>
      obtain ⟨m1, m2, m3, _⟩ := (m.dct : H dx = some (exd dx acc) ∧ dx ≠ a ∧ H0 dx = none ∧ acc ≠ [])
      refine .inr ⟨dx, acc, m.obj, m1, hl, rfl, dx, by rw [upd_ne (Ne.symm m2)]; exact m.obj, ⟨upd_same, m2, m3, by simp⟩, fun b hb hD => ?_⟩
      have hbd : b ≠ dx := fun z => hD (by rw [z])
      rw [upd_ne hbd]
      exact m.off b hb hD
  · subst e
    exact k dx H' s' J q
/-- all stores, slots j, j + 1, .. -/
theorem store_all {rest : List Stmt} {Q : Flow → Shared → Prop} {pins : List (Addr × Obj)} {σ : L2.St} {H0 : Hp} (T : OexC X.K C) : ∀ (fs : List (Str × V)) (sts : List Stmt) (j : Nat) {H : Hp} {s : Shared} {D : Option Addr} {acc : List (Str × V)}, sts.length = fs.length → (∀ (i : Nat) f v st, fs[i]? = some (f, v) → sts[i]? = some st → StF X.N X.env.scope f (j + i) st ∧ σ[j + i]? = some (some v) ∧ PySem.W.findIn X.K (.ref C) f = some none) →
    Mid H0 H a C D acc → Inv X pins σ H s → σ[0]? = some (some (.ref a)) → acc.length + fs.length ≤ 900 →
    (∀ D' H' s', Inv X pins σ H' s' → Mid H0 H' a C D' (fs.reverse ++ acc) → _root_.PySem.wpAt (model X.prog X.w) X.A c (execs rest X.env) Q X.xe s') → _root_.PySem.wpAt (model X.prog X.w) X.A c (execs (sts ++ rest) X.env) Q X.xe s
  | [], [], j, H, s, D, acc, _, _, m, I, _, _, k => k D H s I m
  | (f, v) :: fs, st :: sts, j, H, s, D, acc, hl, h, m, I, h0, hz, k => by
    obtain ⟨a1, a2, a3⟩ := h 0 f v st rfl rfl
    rw [List.length_cons] at hz
    refine store_one a1 T a3 m I h0 a2 (by omega) fun dx H' s' J m' => ?_
    refine store_all (rest := rest) T fs sts (j + 1) (by simpa using hl) (fun i g w st' h1 h2 => ?_) m' J h0 (by rw [List.length_cons]; omega) fun D' H2 s2 J2 m2 => k D' H2 s2 J2 ?_
    · have := h (i + 1) g w st' (by simpa using h1) (by simpa using h2)
      rwa [show j + (i + 1) = j + 1 + i by omega] at this
    · rw [List.reverse_cons, List.append_assoc]
      exact m2
  | [], _ :: _, _, _, _, _, _, h, _, _, _, _, _, _ => by cases h
  | _ :: _, [], _, _, _, _, _, h, _, _, _, _, _, _ => by cases h
end
/-! ### the __init__ as a def -/
def Ms.chk (n : Nat) : Ms → Bool
  | .lit s => decide (s.length ≤ 1000)
  | .cat m s => m.chk n && decide (s.length ≤ 1000)
  | .app m i => m.chk n && decide (1 ≤ i) && decide (i ≤ n)
theorem Ms.ok_of {σ : L2.St} {n : Nat} (h : ∀ i, 1 ≤ i → i ≤ n → ∃ v, σ[i]? = some (some v) ∧ Tb v) : ∀ m : Ms, m.chk n = true → m.ok σ
  | .lit s, c => show s.length ≤ 1000 from of_decide_eq_true (show decide (s.length ≤ 1000) = true from c)
  | .cat m s, c => by
    obtain ⟨c1, c2⟩ := Bool.and_eq_true_iff.mp (show (m.chk n && decide (s.length ≤ 1000)) = true from c)
    exact ⟨Ms.ok_of h m c1, of_decide_eq_true c2⟩
  | .app m i, c => by
    obtain ⟨c1, c3⟩ := Bool.and_eq_true_iff.mp (show (m.chk n && decide (1 ≤ i) && decide (i ≤ n)) = true from c)
    obtain ⟨c1, c2⟩ := Bool.and_eq_true_iff.mp c1
    exact ⟨Ms.ok_of h m c1, h i (of_decide_eq_true c2) (of_decide_eq_true c3)⟩
theorem ms_shape {N : List Str} {sc : Scope} {m : Ms} {e : Expr} (h : chkM N sc m e = true) : (∃ c j p, e = .Constant c j p) ∨ ∃ a op b p, e = .BinOp a op b p := by
  cases e with
  | Constant c j p => exact .inl ⟨_, _, _, rfl⟩
  | BinOp a op b p => exact .inr ⟨_, _, _, _, rfl⟩
  | _ => cases m <;> exact absurd h Bool.false_ne_true
/-- how the text of an own exception's __init__ looks -/
structure XTx (F : NF) (N ps : List Str) (fields : List Str) (m : Ms) : Prop where
  sc : NScope N ps ["__class__"] F.scope
  ps : ∃ self, ps = self :: fields ∧ N[0]? = some self ∧ F.scope.names.lookup self = some .local ∧ ∃ ar, (F.params.posonlyargs ++ F.params.args).head? = some ar ∧ ar.arg = self
  ks : F.scope.names.lookup ("super" : Str) = some .globalImplicit
  kc : F.scope.names.lookup ("__class__" : Str) = some .free
  body : ∃ sts e p0 p1 p2 pos pos2, F.body = sts ++ [.Expr (.Call (.Attribute (.Call (.Name "super" p0) [] [] p1) "__init__" p2) [e] [] pos) pos2] ∧ sts.length = fields.length ∧ (∀ (i : Nat) f st, fields[i]? = some f → sts[i]? = some st → StF N F.scope f (1 + i) st) ∧ chkM N F.scope m e = true ∧ (p2.endLine == pos.line) = true
  mlen : m.len ≤ 1000000
  mchk : m.chk fields.length = true
  nf : fields.length ≤ 100
/-- what such an __init__ promises -/
def spIn (K : PySem.W.Frag) (C : Addr) (fields : List Str) : Sp := fun vs H Q _ => ∃ (a : Addr) (args : List V), vs = .ref a :: args ∧ args.length = fields.length ∧ H a = some (exo a C none) ∧ (∀ v ∈ args, Tb v) ∧ ∀ D H', Mid H H' a C D (fields.zip args).reverse → Q .non H'
theorem init_ok {CX : CXT} {P : Program} {w : World} {K : PySem.W.Frag} {mg : Str → Option Value} {base : Heap} {F : NF} {fI C cc : Addr} {k : Nat} {N ps fields : List Str} {m : Ms} (T : XIn P K C fI cc F) (Y : XTx F N ps fields m)
    (hno : ∀ f ∈ fields, PySem.W.findIn K (.ref C) f = some none) (hm : mg "super" = none) (hs : mg "str" = none) :
    ∃ doc pm ctv, FnOk P w K mg base CX (k + 1) fI (F.fd doc pm ctv) ps (spIn K C fields) := by
  obtain ⟨od, sl, doc, pm, ctv, hfn⟩ := T.fn
  obtain ⟨self, rfl, n0, kself, ar, hp, har⟩ := Y.ps
  obtain ⟨sts, e, p0, p1, p2, pos, pos2, hbody, hlen, hst, hchk, hpos⟩ := Y.body
  refine ⟨doc, pm, ctv, fun vs H Q E h => ?_, fun A outer s H args us vs Q E hr e0 hb r hsp => ?_⟩
  · obtain ⟨a, args, rfl, h1, _⟩ := h
    rw [List.length_cons, List.length_cons, h1]
  obtain ⟨a, avs, rfl, hal, ha, htb, hq⟩ := hsp
  have KX : K.In s.heap := e0.mod.kin.keeps fun b o z => (e0.bs b o z).1
  have lim : s.heap.NoLimit := e0.mod.nolimit.keeps fun b o z => (e0.bs b o z).1
  obtain ⟨l1, l2, l3, hcell⟩ := T.cell
  have hcell0 : s.heap.get? cc = some ⟨l1, l2, .cell (some (.ref C)), l3⟩ := KX _ _ hcell
  have CA : CellsAt F.cl ["__class__"] [none] s.heap H := by
    refine ⟨rfl, fun y c z => ?_, fun x y c z1 z2 => ?_, fun i y z => ?_⟩
    · rw [T.cl] at z
      have e1 : y = "__class__" ∧ c = cc := by
        have := PySem.mem_of_lookup z
        simpa using this
      rw [e1.2]
      exact ⟨(e0.bs cc _ (e0.mod.kin _ _ hcell)).2, _, _, hcell0, rfl⟩
    · rw [T.cl] at z1 z2
      have y1 := PySem.mem_of_lookup z1
      have y2 := PySem.mem_of_lookup z2
      simp only [List.mem_singleton, Prod.mk.injEq] at y1 y2
      rw [y1.1, y2.1]
    · refine ⟨cc, ?_, fun v z2 => ?_⟩
      · cases i with
        | zero =>
          cases z
          rw [T.cl]
          rfl
        | succ i => cases z
      · cases i with
        | zero => cases z2
        | succ i => cases z2
  refine PySem.ks_codeAny_call_defAt (body := F.body) hr.depth (KX _ _ hfn) rfl lim (PySem.W.codeRec_of KX T.code) rfl hb Y.sc.nocell (fun ⟨n, v⟩ hx => Y.sc.par n (List.of_mem_zip hx).1) (fun h₁ hns kp => ?_) Y.sc.co Y.sc.gen Y.sc.kind
  have I : Inv (ncx CX P w K mg base N F fI A outer s H E) [] (startF N (.ref a :: avs) [none]) H { s with heap := h₁, toks := s.toks + ((self :: fields).zip us).length } := inv_startN Y.sc hr.hd e0 (by rw [List.length_cons, List.length_cons, hal]) r CA hns kp
  have σ0 : (startF N (.ref a :: avs) [none])[0]? = some (some (.ref a)) := rfl
  have σj : ∀ (i : Nat) v, avs[i]? = some v → (startF N (.ref a :: avs) [none])[1 + i]? = some (some v) := fun i v hv => by
    unfold startF
    have hi := (List.getElem?_eq_some_iff.mp hv).1
    rw [List.getElem?_append_left (by rw [List.length_map, List.length_cons]; omega), List.getElem?_map, Nat.add_comm 1 i, List.getElem?_cons_succ, hv]
    rfl
  have fin : ∀ {σ' : L2.St} {H' : Hp} {v : V} {u : Value} {s' : Shared}, Inv (ncx CX P w K mg base N F fI A outer s H E) [] σ' H' s' → L2.RelV v u → Q v H' → CE outer P w H s Q u s' :=
    fun {σ' H' v u s'} J rv q => ⟨v, H', J.os, J.bare, J.base, J.hok, rv, q⟩
  show _root_.PySem.wpAt (model P w) (ncx CX P w K mg base N F fI A outer s H E).A (.func F.body (ncx CX P w K mg base N F fI A outer s H E).env) (execs F.body (ncx CX P w K mg base N F fI A outer s H E).env) _ _ _
  generalize hc : Code.func F.body (ncx CX P w K mg base N F fI A outer s H E).env = code
  rw [hbody]
  have hz : ∀ (i : Nat) f v st, (fields.zip avs)[i]? = some (f, v) → sts[i]? = some st → StF N F.scope f (1 + i) st ∧ (startF N (.ref a :: avs) [none])[1 + i]? = some (some v) ∧ PySem.W.findIn K (.ref C) f = some none := fun i f v st z1 z2 => by
    obtain ⟨y1, y2⟩ := List.getElem?_zip_eq_some.mp z1
    exact ⟨hst i f st y1 z2, σj i v y2, hno f (List.mem_of_getElem? y1)⟩
  have lz : (fields.zip avs).length = fields.length := by rw [List.length_zip, hal, Nat.min_self]
  have nf := Y.nf
  refine store_all (X := ncx CX P w K mg base N F fI A outer s H E) (C := C) (a := a) (H0 := H) (acc := []) T.oex (fields.zip avs) sts 1 (by rw [lz, hlen]) hz ⟨ha, rfl, fun b _ _ => rfl⟩ I σ0 (by rw [lz]; simp only [List.length_nil]; omega) fun D' H' s' J mid => ?_
  rw [List.append_nil] at mid
  refine PySem.ks_wpAt_execs_cons (PySem.ks_wpAt_Expr_any (hi := by unfold interactive; rw [show (ncx CX P w K mg base N F fI A outer s H E).env.scope.kind = .function from Y.sc.kind]; rfl) ?_)
  subst hc
  have hmo : m.ok (startF N (.ref a :: avs) [none]) := Ms.ok_of (n := fields.length) (fun i i1 i2 => by
    have hi : i - 1 < avs.length := by omega
    have := σj (i - 1) avs[i - 1] (List.getElem?_eq_getElem hi)
    rw [show 1 + (i - 1) = i by omega] at this
    exact ⟨_, this, htb _ (List.getElem_mem _)⟩) m Y.mchk
  have pe : PE (ncx CX P w K mg base N F fI A outer s H E) e (tMs m) := pe_ms hs m Y.mlen hchk
  have hN : N[0]? = some ar.arg := by rw [har]; exact n0
  have hka : F.scope.names.lookup ar.arg = some .local := by rw [har]; exact kself
  have done : ∀ s2, (∃ H2, Inv (ncx CX P w K mg base N F fI A outer s H E) [] (startF N (.ref a :: avs) [none]) H2 s2 ∧ H2 = H') → CE outer P w H s Q .none s2 := fun s2 ⟨H2, J2, e2⟩ => by
    subst e2
    exact fin (v := V.non) (u := Value.none) J2 rfl (hq D' _ mid)
  rcases ms_shape hchk with ⟨c1, j1, p3, rfl⟩ | ⟨a1, op1, b1, p3, rfl⟩
  · refine PySem.ks_wpAt_mono (sup_run (X := ncx CX P w K mg base N F fI A outer s H E) (R := fun H2 => H2 = H') (pl := _) T rfl hp hN Y.ks Y.kc hka hm J σ0 mid.obj (pa_cons pe pa_nil) ⟨hmo, fun t _ => ⟨by simp, mid.obj, rfl⟩⟩ rfl rfl (sup_eval rfl hpos)) (fun _ s2 h2 => ?_) fun _ _ z => z
    exact wpAt_of_wpAny (wpAny_execs_nil (done s2 h2))
  · refine PySem.ks_wpAt_mono (sup_run (X := ncx CX P w K mg base N F fI A outer s H E) (R := fun H2 => H2 = H') (pl := _) T rfl hp hN Y.ks Y.kc hka hm J σ0 mid.obj (pa_cons pe pa_nil) ⟨hmo, fun t _ => ⟨by simp, mid.obj, rfl⟩⟩ rfl rfl (sup_eval rfl hpos)) (fun _ s2 h2 => ?_) fun _ _ z => z
    exact wpAt_of_wpAny (wpAny_execs_nil (done s2 h2))
/-! ### raising it -/
section
variable {X : Cx} {pins : List (Addr × Obj)} {σ : L2.St} {H H1 H2 : Hp} {Q : XK} {C : Addr}
/-- the end of C(): the exception without a dict is let go -/
theorem mk_endN {hp hp2 h2 : Heap} {g1 g2 : Array GenState} {d1 d2 : Drawn} {t1 t2 : Nat} {os1 os2 : OsState} {a : Addr} (T : Raises X (.ref C)) (I1 : Inv X pins σ H1 ⟨hp, g1, d1, t1, os1⟩) (ha : hp.objs.size ≤ a) (k : ∀ b o, hp.get? b = some o → hp2.get? b = some o)
    (un : Un (frs X.stack) [] (upd H1 a (exo a C none)) H2 hp2 h2) (hok : HOk X.prog X.w H2 h2) (ho : os2 = os1) (hb : AllBare g2) (ea : H2 a = some (exo a C none)) (off : ∀ b, b ≠ a → H2 b = H1 b) (q : Q (.ref C) none H1) : MkP X pins σ Q (.ref a) ⟨h2, g2, d2, t2, os2⟩ := by
  obtain ⟨t0, hoe⟩ := exo_at hok ea
  have hn : H1 a = none := I1.hok.fresh ha
  obtain ⟨G, g1', g2'⟩ := restrict h2 fun b => decide (b ≠ a)
  have gk : ∀ b, b ≠ a → G.get? b = h2.get? b := fun b hb => g1' b (decide_eq_true hb)
  have ge : G.get? a = none := g2' a (by simp)
  have nha : ∀ {b : Addr} {o : Obj}, hp.get? b = some o → b ≠ a := fun {b o} z => Nat.ne_of_lt (Nat.lt_of_lt_of_le (Heap.lt_size z) ha)
  have up : ∀ {b : Addr} {r : Option HO}, b ≠ a → H1 b = r → upd H1 a (exo a C none) b = r := fun {b r} hb n => by rw [upd_ne hb]; exact n
  have U : Un (frs X.stack) [] H1 H1 hp G := {
    keep := fun b o z n hf hx => by
      rw [gk b (nha z)]; exact un.keep b o (k b o z) (up (nha z) n) hf hx
    slot := fun b o z n hf hx => by
      rw [gk b (nha z)]; exact un.slot b o (k b o z) (up (nha z) n) hf hx
    free := fun b o z n hx => n
    there := fun b o z hx => by
      rw [gk b (nha z)]; exact un.there b o (k b o z) hx
    tups := fun b xs z => z
    frzs := fun b o v z => z
    tbls := fun b ps z => ⟨#[], by rw [z]; simp⟩ }
  have hok3 : HOk X.prog X.w H1 G := fun b o z => by
    have hba : b ≠ a := ne_of_none z hn
    refine (hok b o (by rw [off b hba]; exact z)).stay (fun c v hc y => ?_) (fun c hc => ?_) fun c xs hc => ?_
    · have hca : c ≠ a := by
        rcases hc with hc | hc
        · rw [hc]; exact hba
        · exact at_ne ea hc exo_own
      rw [gk c hca]; exact y
    · rw [← off c (at_ne ea hc exo_own)]; exact hc
    · rw [← off c (at_ne ea hc exo_tup)]; exact hc
  have J : Inv X pins σ H1 ⟨G, g2, d2, t2, os2⟩ := I1.call' (ch := []) ho U hok3 hb (fun b z => absurd z (by simp))
  have kG : ∀ b o, G.get? b = some o → h2.get? b = some o := fun b o z => by
    by_cases hba : b = a
    · rw [hba, ge] at z; cases z
    · exact (gk b hba).symm.trans z
  exact ⟨a, _, _, ⟨G, g2, d2, t2, os2⟩, _, .ref C, none, rfl, J, kG, ge, hoe, ⟨rfl, rfl⟩, rfl, rfl, hn, rfl, hb, T, q⟩
/-- C(e, ..): what is asked -/
def mkW (C : Addr) (fields : List Str) (vs : List V) (H1 : Hp) (Q : XK) : Prop := vs.length = fields.length ∧ (∀ v ∈ vs, Tb v) ∧ (fields = [] → Q (.ref C) none H1) ∧ ∀ d, H1 d = none → Q (.ref C) (some d) (upd H1 d (.xd (fields.zip vs).reverse))
theorem mk_core {CX : CXT} {fI : Addr} {k : Nat} {fd : FuncData} {ps fields : List Str} {us : List Value} {vs : List V} {s1 : Shared} (T : OexC X.K C) (iC : PySem.W.findIn X.K (.ref C) "__init__" = some (some (.ref fI))) (tI : PySem.W.typeIn X.K (.ref fI) = some (.type "function"))
    (F1 : FnOk X.prog X.w X.K X.mg X.base CX k fI fd ps (spIn X.K C fields)) (hr : Room (k + 1) X.A) (hb : Binds X.K fd ps []) (hx : Passes CX X (fun _ _ _ => False)) (nf : fields.length ≤ 100)
    (I1 : Inv X pins σ H1 s1) (r1 : Vals vs us) (hq : mkW C fields vs H1 Q) : wpAny (model X.prog X.w) X.A (call (.ref C) us) (MkP X pins σ Q) X.xe s1 := by
  obtain ⟨nm, q, N, bs, bm, sn, sub, ab, col, dd, k0, k1, k2, k3, k5, hC, hbm⟩ := T.cls
  obtain ⟨hp, g, dr, tk, os⟩ := s1
  have hsz : hp.objs.size ≤ hp.objs.size + 1 := Nat.le_succ _
  have hn : H1 (hp.objs.size + 1) = none := I1.hok.fresh hsz
  obtain ⟨q1, q2, q3, q4⟩ := hq
  have kk : ∀ b o, hp.get? b = some o → ((hp.push (PySem.W.kdv_tup us)).push (PySem.HandSPX.excO C hp.objs.size)).get? b = some o := fun b o e => Heap.get?_push_of_some _ (Heap.get?_push_of_some _ e)
  have hget : ((hp.push (PySem.W.kdv_tup us)).push (PySem.HandSPX.excO C hp.objs.size)).get? (hp.objs.size + 1) = some (PySem.HandSPX.excO C hp.objs.size) := by heap_get
  have I2 : Inv X pins σ (upd H1 (hp.objs.size + 1) (exo (hp.objs.size + 1) C none)) ⟨(hp.push (PySem.W.kdv_tup us)).push (PySem.HandSPX.excO C hp.objs.size), g, dr, tk, os⟩ :=
    I1.laid (t' := tk) (a := hp.objs.size + 1) (o := exo (hp.objs.size + 1) C none) (h' := (hp.push (PySem.W.kdv_tup us)).push (PySem.HandSPX.excO C hp.objs.size)) kk hsz (exo_ok hget)
  have r2 : Vals (V.ref (hp.objs.size + 1) :: vs) (Value.ref (hp.objs.size + 1) :: us) := .cons rfl r1
  have hsp : spIn X.K C fields (V.ref (hp.objs.size + 1) :: vs) (upd H1 (hp.objs.size + 1) (exo (hp.objs.size + 1) C none)) (fun v H2 => v = .non ∧ ∃ D, Mid (upd H1 (hp.objs.size + 1) (exo (hp.objs.size + 1) C none)) H2 (hp.objs.size + 1) C D (fields.zip vs).reverse) (fun _ _ _ => False) :=
    ⟨_, vs, rfl, q1, upd_same, q2, fun D H' m => ⟨rfl, D, m⟩⟩
  have hl : (Value.ref (hp.objs.size + 1) :: us).length = ps.length := by
    rw [← r2.length]
    exact F1.len _ _ _ _ hsp
  have hus : us.length ≤ sizeLine := by
    rw [← Paired.length r1, sizeLine_eq]
    omega
  have hb1 := hb ⟨(hp.push (PySem.W.kdv_tup us)).push (PySem.HandSPX.excO C hp.objs.size), g, dr, tk, os⟩ (Value.ref (hp.objs.size + 1) :: us) I2.kIn (by rw [List.append_nil]; exact hl)
  rw [List.append_nil] at hb1
  refine wpAny_call (PySem.HandSPX.call_own PySem.F.excBase_ValueError (fun Y => PySem.HandSPX.refsVE_contains Y bm hbm) (I1.kIn _ _ hC) (PySem.W.looks_findIn I1.kIn iC) (fun self => PySem.W.bind_fn I1.kIn self tI) hus
    (codeAny_mono (F1.run _ X.stack _ _ ⟨Value.ref (hp.objs.size + 1) :: us, []⟩ (Value.ref (hp.objs.size + 1) :: us) _ _ (fun _ _ _ => False) (hr.make C us []) (I2.env0.make C us []) hb1 r2 hsp) fun r s' hq' => ?_))
  cases r with
  | error er => exact hx pins σ _ _ er s' I2 hq'
  | ok fl =>
    cases fl with
    | ret u =>
      obtain ⟨v, H2, os2, bare2, un2, hok2, rv, ev, D, m⟩ := hq'
      subst ev
      obtain ⟨h2, g2, d2, t2, os'⟩ := s'
      cases D with
      | none =>
        have e0 : (fields.zip vs).reverse = [] := m.dct
        have ef : fields = [] := by
          cases hf : fields with
          | nil => rfl
          | cons f fs =>
            rw [hf] at e0 q1
            cases vs with
            | nil => cases q1
            | cons v vs => simp at e0
        refine ⟨rv, mk_endN (raises_own T.exC T.tyC) I1 hsz kk un2 hok2 os2 bare2 m.obj (fun b hb => ?_) (q3 ef)⟩
        rw [m.off b hb (fun z => by cases z), upd_ne hb]
      | some d =>
        obtain ⟨m1, m2, m3, _⟩ := (m.dct : H2 d = some (exd d (fields.zip vs).reverse) ∧ d ≠ hp.objs.size + 1 ∧ upd H1 (hp.objs.size + 1) (exo (hp.objs.size + 1) C none) d = none ∧ (fields.zip vs).reverse ≠ [])
        rw [upd_ne m2] at m3
        have eq : upd (del H2 (hp.objs.size + 1)) d (.xd (fields.zip vs).reverse) = upd H1 d (.xd (fields.zip vs).reverse) := by
          funext b
          by_cases hbd : b = d
          · subst hbd
            rw [upd_same, upd_same]
          · rw [upd_ne hbd, upd_ne hbd]
            by_cases hba : b = hp.objs.size + 1
            · subst hba
              rw [del_same, hn]
            · rw [del_ne hba, m.off b hba (fun z => hbd (Option.some.inj z).symm), upd_ne hba]
        exact ⟨rv, mk_end (raises_own T.exC T.tyC) I1 hsz kk un2 hok2 os2 bare2 m.obj m1 m3 (by rw [eq]; exact q4 d m3)⟩
    | next => exact False.elim hq'
    | brk => exact False.elim hq'
    | cont => exact False.elim hq'
end
section
variable {X : Cx} {C fI : Addr} {CX : CXT} {x : Str} {k : Nat} {fd : FuncData} {ps fields : List Str} {e : Expr} {es : List Expr} {ta : TA} {p pos : Pos}
theorem pmk_x (T : OexC X.K C) (iC : PySem.W.findIn X.K (.ref C) "__init__" = some (some (.ref fI))) (tI : PySem.W.typeIn X.K (.ref fI) = some (.type "function")) (F1 : FnOk X.prog X.w X.K X.mg X.base CX k fI fd ps (spIn X.K C fields)) (hr : Room (k + 1) X.A) (hb : Binds X.K fd ps [])
    (hx : Passes CX X (fun _ _ _ => False)) (nf : fields.length ≤ 100) (hg : Gl X x) (hm : X.mg x = some (.ref C)) (ha : PA X (e :: es) ta) (hdb : (x == ("__debug__" : Str)) = false) (he : starEach (e :: es) X.env = (false, eval e X.env) :: starEach es X.env) (hpl : (backTo pos (starEach es X.env)).any (·.1) = false) :
    PMk X (.Call (.Name x p) (e :: es) [] pos) (fun σ H Q => ta σ H fun vs H1 => mkW C fields vs H1 Q) := by
  intro pins s σ H Q I h
  refine wpAny_Call_Name_kw (ld_glob I hg hm ?_ hdb)
  exact PySem.W.callWith_K (h₀ := X.base) I.ok.mod.kin T.kC (thn (ha.run pos pins s σ H _ I h) fun us s1 ⟨vs, H1, I1, r1, q⟩ => ⟨I1.kIn, mk_core T iC tI F1 hr hb hx nf I1 r1 q⟩) he hpl
theorem pmk_x0 (T : OexC X.K C) (iC : PySem.W.findIn X.K (.ref C) "__init__" = some (some (.ref fI))) (tI : PySem.W.typeIn X.K (.ref fI) = some (.type "function")) (F1 : FnOk X.prog X.w X.K X.mg X.base CX k fI fd ps (spIn X.K C [])) (hr : Room (k + 1) X.A) (hb : Binds X.K fd ps [])
    (hx : Passes CX X (fun _ _ _ => False)) (hg : Gl X x) (hm : X.mg x = some (.ref C)) (hdb : (x == ("__debug__" : Str)) = false) :
    PMk X (.Call (.Name x p) [] [] pos) (fun _ H Q => mkW C [] [] H Q) := by
  intro pins s σ H Q I h
  refine wpAny_Call_Name_kw (ld_glob I hg hm ?_ hdb)
  exact PySem.W.callWith_K0 I.kIn T.kC (mk_core (us := []) T iC tI F1 hr hb hx (by decide) I .nil h)
end
end Rc

set_option Elab.async false
set_option linter.all false
set_option maxRecDepth 100000
set_option maxHeartbeats 1000000
namespace Rc
open PySem PySem.Spec PyProof.Rows L2
section
variable (K : PySem.W.Frag) (mg : Str → Option Value) (F : Fx)
def PostS (o : SO) (G : Hp) (D : Ends) : Prop := match o with
  | .nx ρ' => ∀ G' H' σ', Same G G' → F.rel K G' H' σ' ρ' → D.nx σ' H'
  | .ret r ρ' => ∀ G' H' σ' x, Same G G' → F.rel K G' H' σ' ρ' → F.rr K G' H' σ' ρ' r x → D.rt x H'
  | .brk ρ' => ∀ G' H' σ', Same G G' → F.rel K G' H' σ' ρ' → D.bk σ' H'
  | .cnt ρ' => ∀ G' H' σ', Same G G' → F.rel K G' H' σ' ρ' → D.ct σ' H'
  | .exc x ρ' => ∀ G' H' σ' cls d, Same G G' → F.rel K G' H' σ' ρ' → XRel K mg F.B G' H' x cls d → F.P.xw cls d σ' H'
  | .bad => False
def tS (m : Env → SO) : TS := fun D σ H => ∃ G ρ, F.rel K G H σ ρ ∧ PostS K mg F (m ρ) G D
end
section
variable {K : PySem.W.Frag} {mg : Str → Option Value} {F : Fx} {G G' H : Hp} {σ : L2.St} {ρ : Env} {D : Ends} {o : SO}
theorem PostS.mono (s : Same G G') (h : PostS K mg F o G D) : PostS K mg F o G' D := by
  cases o with
  | nx ρ' => exact fun G2 H2 σ' s2 => h G2 H2 σ' (s.trans s2)
  | ret r ρ' => exact fun G2 H2 σ' x s2 => h G2 H2 σ' x (s.trans s2)
  | brk ρ' => exact fun G2 H2 σ' s2 => h G2 H2 σ' (s.trans s2)
  | cnt ρ' => exact fun G2 H2 σ' s2 => h G2 H2 σ' (s.trans s2)
  | exc x ρ' => exact fun G2 H2 σ' cls d s2 => h G2 H2 σ' cls d (s.trans s2)
  | bad => exact h
theorem PostS.st {α : Type} {q : Out α} {f : α → Env → SO} (h : PostS K mg F ((q.xif false).st f) G D) : ∃ a ρ, q = .ok a ρ ∧ PostS K mg F (f a ρ) G D := by
  cases q with
  | ok a ρ => exact ⟨a, ρ, rfl, h⟩
  | exc x ρ => exact False.elim h
  | bad => exact False.elim h
theorem PostS.frz {r : R} {f : PyData → Env → SO} (h : PostS K mg F ((Rc.frz r ρ).st f) G D) : ∃ a ρ', Rc.frz r ρ = .ok a ρ' ∧ PostS K mg F (f a ρ') G D := by
  have key : ∀ x ρ', Rc.frz r ρ ≠ .exc x ρ' := by
    intro x ρ' e
    unfold Rc.frz at e
    split at e
    · cases e
    · cases e
    · cases e
    · split at e <;> cases e
  cases e : Rc.frz r ρ with
  | ok a ρ' => rw [e] at h; exact ⟨a, ρ', rfl, h⟩
  | exc x ρ' => exact absurd e (key x ρ')
  | bad => rw [e] at h; exact False.elim h
/-- in a row -/
theorem PostS.seq {f : Env → SO} (h : PostS K mg F (o.seq f) G D) : PostS K mg F o G { D with nx := fun σ' H' => ∃ G2 ρ2, Same G G2 ∧ F.rel K G2 H' σ' ρ2 ∧ PostS K mg F (f ρ2) G2 D } := by
  cases o with
  | nx ρ' => exact fun G2 H2 σ' s rel => ⟨G2, ρ', s, rel, h.mono s⟩
  | ret r ρ' => exact h
  | brk ρ' => exact h
  | cnt ρ' => exact h
  | exc x ρ' => exact h
  | bad => exact h
/-- a turn, then the rest of the loop -/
theorem PostS.turn {f : Env → SO} (h : PostS K mg F (o.turn f) G D) (N : L2.St → Hp → Prop) (k : ∀ G2 H' σ' ρ2, Same G G2 → F.rel K G2 H' σ' ρ2 → PostS K mg F (f ρ2) G2 D → N σ' H') : PostS K mg F o G { D with nx := N, ct := N, bk := D.nx } := by
  cases o with
  | nx ρ' => exact fun G2 H2 σ' s rel => k G2 H2 σ' ρ' s rel (PostS.mono (o := f ρ') s h)
  | ret r ρ' => exact h
  | brk ρ' => exact h
  | cnt ρ' => exact fun G2 H2 σ' s rel => k G2 H2 σ' ρ' s rel (PostS.mono (o := f ρ') s h)
  | exc x ρ' => exact h
  | bad => exact h
end
section
variable {X : Cx} {F : Fx} {W : Wd} {fuel : Nat} {pos : Pos} {a b c : Expr} {ea eb ec : Ex}
abbrev PSv (X : Cx) (F : Fx) (fuel : Nat) (W : Wd) (s : Stmt) (d : Rc.St) : Prop := PS X s (tS X.K X.mg F (ex fuel W d))
abbrev PSsv (X : Cx) (F : Fx) (fuel : Nat) (W : Wd) (s : List Stmt) (d : Sts) : Prop := PSs X s (tS X.K X.mg F (exs fuel W d))
theorem pss_of {st : List Stmt} {t : TS} (h : ∀ D σ H, t D σ H → ∃ t', PSs X st t' ∧ t' D σ H) : PSs X st t := ⟨fun pins s σ H D I q => by
  obtain ⟨t', p, q'⟩ := h D σ H q
  exact p.run pins s σ H D I q'⟩
/-- a value that may be raised instead -/
theorem tX_in {K : PySem.W.Frag} {mg : Str → Option Value} {G H : Hp} {σ : L2.St} {ρ : Env} {Q : VK} {D : Ends} {m : Env → Out R} {f : R → Env → SO} (rel : F.rel K G H σ ρ) (post : PostS K mg F ((m ρ).st f) G D)
    (k : ∀ r ρ1 G1 H1 x, PostS K mg F (f r ρ1) G D → Same G G1 → F.rel K G1 H1 σ ρ1 → F.rr K G1 H1 σ ρ1 r x → Q x H1) : tX K mg F m σ H Q := by
  refine ⟨G, ρ, rel, ?_⟩
  generalize m ρ = o at post ⊢
  cases o with
  | ok r ρ1 => exact fun G1 H1 x s1 rel1 rr1 => k r ρ1 G1 H1 x post s1 rel1 rr1
  | exc z ρ1 => exact fun G1 H1 cls d s1 rel1 xr => post G1 H1 σ cls d s1 rel1 xr
  | bad => exact post.elim
theorem ex_nil : PSsv X F fuel W [] .nil := pss_of fun D σ H h => by
  obtain ⟨G, ρ, rel, post⟩ := h
  exact ⟨_, pss_nil, post G H σ (Same.refl _) rel⟩
theorem ex_cons {s : Stmt} {r : List Stmt} {d : Rc.St} {ds : Sts} (h1 : PSv X F fuel W s d) (h2 : PSsv X F fuel W r ds) : PSsv X F fuel W (s :: r) (.cons d ds) := pss_of fun D σ H h => by
  obtain ⟨G, ρ, rel, post⟩ := h
  refine ⟨_, pss_cons h1 h2, G, ρ, rel, ?_⟩
  have p2 : PostS X.K X.mg F (ex fuel W d ρ) G _ := PostS.seq (show PostS X.K X.mg F ((ex fuel W d ρ).seq fun ρ1 => exs fuel W ds ρ1) G D from post)
  cases e : ex fuel W d ρ with
  | nx ρ' =>
    rw [e] at p2
    exact fun G2 H2 σ' s rel' => by
      obtain ⟨G3, ρ3, _, h3, h4⟩ := p2 G2 H2 σ' s rel'
      exact ⟨G3, ρ3, h3, h4⟩
  | ret r ρ' => rw [e] at p2; exact p2
  | brk ρ' => rw [e] at p2; exact p2
  | cnt ρ' => rw [e] at p2; exact p2
  | exc x ρ' => rw [e] at p2; exact p2
  | bad => rw [e] at p2; exact p2
theorem ex_pass : PSv X F fuel W (.Pass pos) .pass := ps_of fun D σ H h => by
  obtain ⟨G, ρ, rel, post⟩ := h
  exact ⟨_, ps_pass, post G H σ (Same.refl _) rel⟩
theorem ex_brk : PSv X F fuel W (.Break pos) .brk := ps_of fun D σ H h => by
  obtain ⟨G, ρ, rel, post⟩ := h
  exact ⟨_, ps_break, post G H σ (Same.refl _) rel⟩
theorem ex_cnt : PSv X F fuel W (.Continue pos) .cnt := ps_of fun D σ H h => by
  obtain ⟨G, ρ, rel, post⟩ := h
  exact ⟨_, ps_continue, post G H σ (Same.refl _) rel⟩
theorem ex_retN : PSv X F fuel W (.Return none pos) .retN := ps_of fun D σ H h => by
  obtain ⟨G, ρ, rel, post⟩ := h
  exact ⟨_, ps_retN, post G H σ .non (Same.refl _) rel .non⟩
theorem ex_ret (ha : PXv X F W a ea) : PSv X F fuel W (.Return (some a) pos) (.ret ea) := ps_of fun D σ H h => by
  obtain ⟨G, ρ, rel, post⟩ := h
  exact ⟨_, ps_ret ha, tX_in rel post fun r ρ1 G1 H1 x post s1 rel1 rr1 => post G1 H1 σ x s1 rel1 rr1⟩
theorem ex_exp (ha : PXv X F W a ea) (hs : swapsWith a none pos.line X.env = pure false) : PSv X F fuel W (.Expr a pos) (.exp ea) := ps_of fun D σ H h => by
  obtain ⟨G, ρ, rel, post⟩ := h
  exact ⟨_, ps_expr ha hs, tX_in rel post fun r ρ1 G1 H1 x post s1 rel1 rr1 => post G1 H1 σ s1 rel1⟩
theorem ex_ife {tc : Ts} {t f : List Stmt} {dt df : Sts} (hc : PTv X F W c tc) (ht : PSsv X F fuel W t dt) (hf : PSsv X F fuel W f df) : PSv X F fuel W (.If c t f pos) (.ife tc dt df) := ps_of fun D σ H h => by
  obtain ⟨G, ρ, rel, post⟩ := h
  obtain ⟨b, ρ1, e1, post_⟩ := PostS.st post; clear post; have post := post_; clear post_
  refine ⟨_, ps_if hc ht hf, tT_in rel e1 fun G1 H1 s1 rel1 => ?_⟩
  cases b with
  | true =>
    rw [if_pos rfl]
    exact ⟨G1, ρ1, rel1, PostS.mono s1 post⟩
  | false =>
    rw [if_neg Bool.false_ne_true]
    exact ⟨G1, ρ1, rel1, PostS.mono s1 post⟩
/-- a result is stored -/
theorem store_wish {i : Nat} {r : R} {ρ1 : Env} {G G1 H1 : Hp} {σ : L2.St} {x : V} {D : Ends} (s1 : Same G G1) (rel1 : F.rel X.K G1 H1 σ ρ1) (rr1 : F.rr X.K G1 H1 σ ρ1 r x) (np : ∀ p ∈ F.P.l, p.1 ≠ i) (post : PostS X.K X.mg F (store i r ρ1) G D) : D.nx (σ.set i (some x)) H1 := by
  cases r with
  | v d => exact post G1 H1 _ s1 (rel1.setV rr1 np)
  | o b => exact post G1 H1 _ s1 (rel1.setO rr1 np)
  | s j =>
    obtain ⟨d, ρ2, e2, post_⟩ := PostS.frz (show PostS X.K X.mg F ((frz (.s j) ρ1).st fun d ρ1 => .nx (ρ1.set i (.v d))) G D from post)
    obtain ⟨G2, s2, rel2, dq⟩ := rel1.frz rr1 e2
    exact post_ G2 H1 _ (s1.trans s2) (rel2.setV dq np)
theorem ex_asg {i : Nat} {x : Str} {p : Pos} (nd : X.N.Nodup) (ht : TgOk X F i x) (ha : PXv X F W a ea) (hs : swapsWith a (some (.Name x p)) pos.line X.env = pure false) : PSv X F fuel W (.Assign [.Name x p] a pos) (.asg (.nm i) ea) := ps_of fun D σ H h => by
  obtain ⟨G, ρ, rel, post⟩ := h
  exact ⟨_, ps_set (i := i) nd ht.nm ht.lc ha hs ht.fn, tX_in rel post fun r ρ1 G1 H1 x post s1 rel1 rr1 => store_wish s1 rel1 rr1 ht.np post⟩
theorem ex_asgLc {i : Nat} {x : Str} {p p' : Pos} {tg elt iter : Expr} {ifs : List Expr} {scope : Scope} {ownp : List (Str × Nat)} {eelt : Ex} {etg : Tg} {eit : Rc.It} {eifs : Tss} {own : List Nat} (hc : X.calm = true) (nd : X.N.Nodup) (ht : TgOk X F i x)
    (hyl : X.env.scope.names.lookup x = some .local) (hsw : swapsWith (.ListComp elt [⟨tg, iter, ifs, 0⟩] scope p') (some (.Name x p)) pos.line X.env = pure true)
    (hi : PI X tg iter (tI X.K F (evI W eit))) (ok : BlkOk X.N X.env.scope scope ownp) (ho : own = ownp.map (·.2)) (np : ∀ p ∈ F.P.l, p.1 ∉ own) (hsub : ∀ j ∈ etg.slots, j ∈ own)
    (cc : CompOk X F W tg elt ifs scope etg eifs eelt) (hs : ∀ x, foldedSetIterable iter X.env x = pure x) : PSv X F fuel W (.Assign [.Name x p] (.ListComp elt [⟨tg, iter, ifs, 0⟩] scope p') pos) (.asg (.nm i) (.comp eelt etg eit eifs own)) := ps_of fun D σ H h => by
  obtain ⟨G, ρ, rel, post⟩ := h
  obtain ⟨r, ρ1, e1, post_⟩ := PostS.st post; clear post; have post := post_; clear post_
  refine ⟨_, ps_setLc (i := i) hc nd ht.nm hyl hsw hi ok cc.g cc.t cc.e hs, ?_⟩
  exact lc_wish ho np hsub σ H _ (tE_in rel e1 fun G1 H1 x s1 rel1 rr1 => store_wish s1 rel1 rr1 ht.np post)
theorem ex_asgTp {is : List Nat} {es : List Expr} {k : Nat} {p : Pos} (hc : X.calm = true) (nd : X.N.Nodup) (ht : TgsOk X F is es) (ha : PXv X F W a ea) (hs : swapsWithSole [.Tuple es k p] a pos.line X.env = pure false) (hw : swappedStores [.Tuple es k p] a X.env = pure none) :
    PSv X F fuel W (.Assign [.Tuple es k p] a pos) (.asg (.tp is) ea) := ps_of fun D σ H h => by
  obtain ⟨G, ρ, rel, post⟩ := h
  refine ⟨_, ps_asg ha (tg_tp hc nd ht) hs hw rfl, tX_in rel post fun r ρ1 G1 H1 x post s1 rel1 rr1 => ?_⟩
  obtain ⟨d, ρ2, e2, post⟩ := PostS.frz post
  obtain ⟨G2, s2, rel2, dq⟩ := rel1.frz rr1 e2
  split at post
  · rename_i ρ3 e3
    exact ⟨G2, ρ2, d, ρ3, rel2, dq, e3, fun σ' rel3 _ _ => post G2 H1 σ' (s1.trans s2) rel3⟩
  · exact post.elim
theorem ex_par2 {i j : Nat} {x y : Str} {px py pt : Pos} {kt k2 : Nat} {pt2 : Pos} (hc : X.calm = true) (nd : X.N.Nodup) (hi : TgOk X F i x) (hj : TgOk X F j y) (hij : i ≠ j) (hx : X.env.scope.names.lookup x = some .local) (hy : X.env.scope.names.lookup y = some .local)
    {m : List Bool} {ds : Exs} (hl : ds.len = 2) (ha : PCv X F W [a, b] ds m) (hw : swappedStores [.Tuple [.Name x px, .Name y py] kt pt] (.Tuple [a, b] k2 pt2) X.env = pure (some [x, y])) (hs : swapsWithSole [.Tuple [.Name x px, .Name y py] kt pt] (.Tuple [a, b] k2 pt2) pos.line X.env = pure false) :
    PSv X F fuel W (.Assign [.Tuple [.Name x px, .Name y py] kt pt] (.Tuple [a, b] k2 pt2) pos) (.par [i, j] m ds) := ps_of fun D σ H h => by
  obtain ⟨G, ρ, rel, post⟩ := h
  obtain ⟨cl, ρ1, e1, post_⟩ := PostS.st post; clear post; have post := post_; clear post_
  refine ⟨_, ps_par hc nd hi.nm hj.nm hij hx hy ha hw hs, tA_in rel e1 fun G1 H1 vs s1 rel1 z1 => ?_⟩
  have z1 : ZC X.K F.B G1 H1 σ ρ1 cl vs := z1
  split at post
  · rename_i ρ2 e2
    have l1 := evC_len W _ _ _ _ _ e1
    rw [hl] at l1
    have l2 := Paired.length z1.1
    rw [l1] at l2
    match vs, l2, z1 with
    | [v, w], _, z1 =>
      refine ⟨v, w, rfl, post G1 H1 _ s1 (setCA_ok rel1 (Paired.mapP z1.1 fun _ _ z => caOk_w z) z1.2 (fun k hk => ?_) e2)⟩
      simp only [List.mem_cons, List.not_mem_nil, or_false] at hk
      rcases hk with rfl | rfl
      · exact hi.np
      · exact hj.np
  · exact post.elim
theorem ex_par3 {i j l : Nat} {x y z : Str} {px py pz pt : Pos} {kt k2 : Nat} {pt2 : Pos} (hc : X.calm = true) (nd : X.N.Nodup) (hi : TgOk X F i x) (hj : TgOk X F j y) (hl : TgOk X F l z) (hij : i ≠ j) (hil : i ≠ l) (hjl : j ≠ l) (hx : X.env.scope.names.lookup x = some .local) (hy : X.env.scope.names.lookup y = some .local)
    (hz : X.env.scope.names.lookup z = some .local) {m : List Bool} {ds : Exs} (hn : ds.len = 3) (ha : PCv X F W [a, b, c] ds m) (hw : swappedStores [.Tuple [.Name x px, .Name y py, .Name z pz] kt pt] (.Tuple [a, b, c] k2 pt2) X.env = pure (some [x, y, z]))
    (hs : swapsWithSole [.Tuple [.Name x px, .Name y py, .Name z pz] kt pt] (.Tuple [a, b, c] k2 pt2) pos.line X.env = pure false) :
    PSv X F fuel W (.Assign [.Tuple [.Name x px, .Name y py, .Name z pz] kt pt] (.Tuple [a, b, c] k2 pt2) pos) (.par [i, j, l] m ds) := ps_of fun D σ H h => by
  obtain ⟨G, ρ, rel, post⟩ := h
  obtain ⟨cl, ρ1, e1, post_⟩ := PostS.st post; clear post; have post := post_; clear post_
  refine ⟨_, ps_par3 hc nd hi.nm hj.nm hl.nm hij hil hjl hx hy hz ha hw hs, tA_in rel e1 fun G1 H1 vs s1 rel1 z1 => ?_⟩
  have z1 : ZC X.K F.B G1 H1 σ ρ1 cl vs := z1
  split at post
  · rename_i ρ2 e2
    have l1 := evC_len W _ _ _ _ _ e1
    rw [hn] at l1
    have l2 := Paired.length z1.1
    rw [l1] at l2
    match vs, l2, z1 with
    | [v, w, y0], _, z1 =>
      refine ⟨v, w, y0, rfl, post G1 H1 _ s1 (setCA_ok rel1 (Paired.mapP z1.1 fun _ _ z => caOk_w z) z1.2 (fun k hk => ?_) e2)⟩
      simp only [List.mem_cons, List.not_mem_nil, or_false] at hk
      rcases hk with rfl | rfl | rfl
      · exact hi.np
      · exact hj.np
      · exact hl.np
  · exact post.elim
theorem ex_for {tg iter : Expr} {etg : Tg} {eit : Rc.It} {body : List Stmt} {db : Sts} (hp : PassesOwn (model X.prog X.w) X.A X.env X.xe) (hc : X.calm = true) (hi : PI X tg iter (tI X.K F (evI W eit))) (hg : PG X tg (tG X.K F etg)) (hb : PSsv X F fuel W body db)
    (hs : ∀ x, foldedSetIterable iter X.env x = pure x) (hsl : ∀ (ρ : Env) (i : Nat) (n : Bool) (ρ' : Env), evI W eit ρ ≠ .ok (.slot i n) ρ') : PSv X F fuel W (.For tg iter body [] pos) (.for_ etg eit db) := ps_of fun D σ H h => by
  obtain ⟨G, ρ, rel, post⟩ := h
  obtain ⟨src, ρ1, e1, post_⟩ := PostS.st post; clear post; have post := post_; clear post_
  cases src with
  | slot i n => exact absurd e1 (hsl _ _ _ _)
  | items xs =>
  have post : PostS X.K X.mg F (forL (fun x ρ2 => match setTg etg x ρ2 with
      | some ρ3 => exs fuel W db ρ3
      | none => .bad) xs ρ1) G D := post
  generalize hbd : (fun (x : PyData) (ρ2 : Env) => match setTg etg x ρ2 with
      | some ρ3 => exs fuel W db ρ3
      | none => SO.bad) = bd at post
  refine ⟨_, ps_for hp hc hi hg hb hs, G, ρ, rel, ?_⟩
  rw [e1]
  refine ⟨xs, rfl, fun G1 H1 J s1 rel1 wd => ?_⟩
  obtain ⟨Gw, Y, wk, wg, wy⟩ := wd
  refine for_it (g := tG X.K F etg) (tb := tS X.K X.mg F (exs fuel W db)) wk (fun i σ H => ∃ Gi ρi, Same G1 Gi ∧ F.rel X.K Gi H σ ρi ∧ PostS X.K X.mg F (forL bd (xs.drop i) ρi) Gi D) ⟨G1, ρ1, Same.refl _, rel1, PostS.mono s1 post⟩ ?_ ?_ ?_
  · rintro i σ H _ ⟨Gi, ρi, sg, rl, _⟩
    exact wg _ (sg.trans rl.sub)
  · rintro i x σ H H' hi ⟨Gi, ρi, sg, rl, pf⟩ y
    obtain ⟨d, G2, hd, nr⟩ := wy i H x H' Gi hi sg rl.sub y
    obtain ⟨s2, rl2, dq⟩ := nr.rel rl
    have ed : xs.drop i = d :: xs.drop (i + 1) := by
      obtain ⟨hl, ex⟩ := List.getElem?_eq_some_iff.mp hd
      rw [List.drop_eq_getElem_cons hl, ex]
    rw [ed] at pf
    have pf : PostS X.K X.mg F ((bd d ρi).turn fun ρ' => forL bd (xs.drop (i + 1)) ρ') Gi D := pf
    have eb : bd d ρi = match setTg etg d ρi with
      | some ρ3 => exs fuel W db ρ3
      | none => SO.bad := by rw [← hbd]
    cases e3 : setTg etg d ρi with
    | none =>
      rw [e3] at eb
      rw [eb] at pf
      exact pf.elim
    | some ρ3 =>
      rw [e3] at eb
      rw [eb] at pf
      refine ⟨G2, ρi, d, ρ3, rl2, dq, e3, fun σ' rl3 _ _ => ⟨G2, ρ3, rl3, ?_⟩⟩
      refine PostS.mono s2 (PostS.turn pf _ fun G4 H4 σ4 ρ4 s4 rl4 p4 => ⟨G4, ρ4, sg.trans s4, rl4, p4⟩)
  · rintro σ H ⟨Gi, ρi, sg, rl, pf⟩
    rw [List.drop_length] at pf
    exact pf Gi H σ (Same.refl _) rl
theorem ex_whl {tc : Ts} {body : List Stmt} {db : Sts} (hp : PassesOwn (model X.prog X.w) X.A X.env X.xe) (hc : PTv X F W c tc) (hb : PSsv X F fuel W body db) : PSv X F fuel W (.While c body [] pos) (.whl tc db) := ps_of fun D σ H h => by
  obtain ⟨G, ρ, rel, post⟩ := h
  refine ⟨_, ps_while hp hc hb, fun m σ H => ∃ Gi ρi, F.rel X.K Gi H σ ρi ∧ PostS X.K X.mg F (whlL (fun ρ1 => (evT W tc ρ1).xif false) (exs fuel W db) m ρi) Gi D, ⟨fuel, G, ρ, rel, post⟩, ?_⟩
  rintro m σ H ⟨Gi, ρi, rl, pf⟩
  cases m with
  | zero => exact pf.elim
  | succ m =>
    obtain ⟨t, ρ1, e1, pf_⟩ := PostS.st (show PostS X.K X.mg F (((evT W tc ρi).xif false).st fun t ρ1 => match t with
      | true => (exs fuel W db ρ1).turn fun ρ2 => whlL (fun ρ1 => (evT W tc ρ1).xif false) (exs fuel W db) m ρ2
      | false => .nx ρ1) Gi D from pf)
    refine tT_in rl e1 fun G1 H1 s1 rl1 => ?_
    cases t with
    | true =>
      rw [if_pos rfl]
      refine ⟨fun σ' H' => ∃ Gj ρj, F.rel X.K Gj H' σ' ρj ∧ PostS X.K X.mg F (whlL (fun ρ1 => (evT W tc ρ1).xif false) (exs fuel W db) m ρj) Gj D, fun σ' H' q => ⟨m, Nat.lt_succ_self _, q⟩, G1, ρ1, rl1, ?_⟩
      exact PostS.mono s1 (PostS.turn pf_ _ fun G4 H4 σ4 ρ4 s4 rl4 p4 => ⟨G4, ρ4, rl4, p4⟩)
    | false =>
      rw [if_neg Bool.false_ne_true]
      exact pf_ G1 H1 σ s1 rl1
end

/-! ### a def -/
def pinsOf : Nat → List V → List Sl → List (Nat × V)
  | k, x :: xs, .o _ :: as => (k, x) :: pinsOf (k + 1) xs as
  | k, _ :: xs, _ :: as => pinsOf (k + 1) xs as
  | _, _, _ => []
theorem pinsOf_at : ∀ {k : Nat} {xs : List V} {as : List Sl} {p : Nat × V}, p ∈ pinsOf k xs as → ∃ j, p.1 = k + j ∧ xs[j]? = some p.2 ∧ ∃ b, as[j]? = some (.o b)
  | k, [], as, p, h => by simp [pinsOf] at h
  | k, x :: xs, [], p, h => by simp [pinsOf] at h
  | k, x :: xs, .un :: as, p, h => by
    obtain ⟨j, h1, h2, h3⟩ := pinsOf_at (show p ∈ pinsOf (k + 1) xs as from h)
    exact ⟨j + 1, by omega, by simpa using h2, by simpa using h3⟩
  | k, x :: xs, .v d :: as, p, h => by
    obtain ⟨j, h1, h2, h3⟩ := pinsOf_at (show p ∈ pinsOf (k + 1) xs as from h)
    exact ⟨j + 1, by omega, by simpa using h2, by simpa using h3⟩
  | k, x :: xs, .o b :: as, p, h => by
    rcases List.mem_cons.mp (show p ∈ (k, x) :: pinsOf (k + 1) xs as from h) with rfl | h
    · exact ⟨0, rfl, by simp, b, by simp⟩
    · obtain ⟨j, h1, h2, h3⟩ := pinsOf_at h
      exact ⟨j + 1, by omega, by simpa using h2, by simpa using h3⟩
theorem pinsOf_mem : ∀ {k : Nat} {xs : List V} {as : List Sl} {j : Nat} {x : V} {b : Ob}, xs[j]? = some x → as[j]? = some (.o b) → (k + j, x) ∈ pinsOf k xs as
  | k, [], as, j, x, b, h, _ => by simp at h
  | k, y :: xs, [], j, x, b, _, h => by simp at h
  | k, y :: xs, .un :: as, 0, x, b, _, h => by simp at h
  | k, y :: xs, .v d :: as, 0, x, b, _, h => by simp at h
  | k, y :: xs, .o c :: as, 0, x, b, h, _ => by
    simp at h
    subst h
    exact List.mem_cons_self
  | k, y :: xs, .un :: as, j + 1, x, b, h, h' => by
    have q := pinsOf_mem (k := k + 1) (xs := xs) (as := as) (j := j) (by simpa using h) (by simpa using h')
    rw [show k + (j + 1) = k + 1 + j by omega]
    exact q
  | k, y :: xs, .v d :: as, j + 1, x, b, h, h' => by
    have q := pinsOf_mem (k := k + 1) (xs := xs) (as := as) (j := j) (by simpa using h) (by simpa using h')
    rw [show k + (j + 1) = k + 1 + j by omega]
    exact q
  | k, y :: xs, .o c :: as, j + 1, x, b, h, h' => by
    have q := pinsOf_mem (k := k + 1) (xs := xs) (as := as) (j := j) (by simpa using h) (by simpa using h')
    rw [show k + (j + 1) = k + 1 + j by omega]
    exact List.mem_cons_of_mem _ q
/-- where an address is lent -/
theorem lentA_at : ∀ {xs : List V} {as : List Sl} {a : Addr}, a ∈ lentA xs as → ∃ (j : Nat) (b : Ob), xs[j]? = some (.ref a) ∧ as[j]? = some (.o b)
  | [], as, a, h => by simp [lentA] at h
  | x :: xs, [], a, h => by
    cases x <;> simp [lentA] at h
  | x :: xs, .un :: as, a, h => by
    obtain ⟨j, b, h1, h2⟩ := lentA_at (show a ∈ lentA xs as from by cases x <;> exact h)
    exact ⟨j + 1, b, by simpa using h1, by simpa using h2⟩
  | x :: xs, .v d :: as, a, h => by
    obtain ⟨j, b, h1, h2⟩ := lentA_at (show a ∈ lentA xs as from by cases x <;> exact h)
    exact ⟨j + 1, b, by simpa using h1, by simpa using h2⟩
  | .ref c :: xs, .o b :: as, a, h => by
    rcases List.mem_cons.mp (show a ∈ c :: lentA xs as from h) with rfl | h
    · exact ⟨0, b, by simp, by simp⟩
    · obtain ⟨j, b', h1, h2⟩ := lentA_at h
      exact ⟨j + 1, b', by simpa using h1, by simpa using h2⟩
  | .non :: xs, .o b :: as, a, h => by
    obtain ⟨j, b', h1, h2⟩ := lentA_at (show a ∈ lentA xs as from h)
    exact ⟨j + 1, b', by simpa using h1, by simpa using h2⟩
  | .bl _ :: xs, .o b :: as, a, h => by
    obtain ⟨j, b', h1, h2⟩ := lentA_at (show a ∈ lentA xs as from h)
    exact ⟨j + 1, b', by simpa using h1, by simpa using h2⟩
  | .int _ :: xs, .o b :: as, a, h => by
    obtain ⟨j, b', h1, h2⟩ := lentA_at (show a ∈ lentA xs as from h)
    exact ⟨j + 1, b', by simpa using h1, by simpa using h2⟩
  | .str _ :: xs, .o b :: as, a, h => by
    obtain ⟨j, b', h1, h2⟩ := lentA_at (show a ∈ lentA xs as from h)
    exact ⟨j + 1, b', by simpa using h1, by simpa using h2⟩
  | .byt _ :: xs, .o b :: as, a, h => by
    obtain ⟨j, b', h1, h2⟩ := lentA_at (show a ∈ lentA xs as from h)
    exact ⟨j + 1, b', by simpa using h1, by simpa using h2⟩
  | .flt _ :: xs, .o b :: as, a, h => by
    obtain ⟨j, b', h1, h2⟩ := lentA_at (show a ∈ lentA xs as from h)
    exact ⟨j + 1, b', by simpa using h1, by simpa using h2⟩
  | .ty _ :: xs, .o b :: as, a, h => by
    obtain ⟨j, b', h1, h2⟩ := lentA_at (show a ∈ lentA xs as from h)
    exact ⟨j + 1, b', by simpa using h1, by simpa using h2⟩
theorem ARel.length {K : PySem.W.Frag} {G H : Hp} {vs : List V} {as : List Sl} (h : ARel K G H vs as) : vs.length = as.length := by
  induction h with
  | nil => rfl
  | v _ _ ih => simp [ih]
  | o _ _ _ ih => simp [ih]
theorem ARel.val {K : PySem.W.Frag} {G H : Hp} {vs : List V} {as : List Sl} (h : ARel K G H vs as) : ∀ {i : Nat} {d : PyData}, as[i]? = some (.v d) → ∃ x, vs[i]? = some x ∧ Dq K G x d := by
  induction h with
  | nil => intro i d e; simp at e
  | v h1 _ ih =>
    intro i d e
    cases i with
    | zero =>
      simp at e
      subst e
      exact ⟨_, by simp, h1⟩
    | succ i =>
      obtain ⟨x, q1, q2⟩ := ih (i := i) (by simpa using e)
      exact ⟨x, by simpa using q1, q2⟩
  | o _ _ _ ih =>
    intro i d e
    cases i with
    | zero => simp at e
    | succ i =>
      obtain ⟨x, q1, q2⟩ := ih (i := i) (by simpa using e)
      exact ⟨x, by simpa using q1, q2⟩
theorem ARel.own {K : PySem.W.Frag} {G H : Hp} {vs : List V} {as : List Sl} (h : ARel K G H vs as) : ∀ {i : Nat} {b : Ob}, as[i]? = some (.o b) → ∃ a, vs[i]? = some (.ref a) ∧ G a = none ∧ OwnAt K G H a b ∧ a ∈ lentA vs as := by
  induction h with
  | nil => intro i d e; simp at e
  | @v x d xs as h1 _ ih =>
    intro i b e
    cases i with
    | zero => simp at e
    | succ i =>
      obtain ⟨a, q1, q2, q3, q4⟩ := ih (i := i) (by simpa using e)
      exact ⟨a, by simpa using q1, q2, q3, by cases x <;> exact q4⟩
  | o h1 h2 _ ih =>
    intro i b e
    cases i with
    | zero =>
      simp at e
      subst e
      exact ⟨_, by simp, h1, h2, List.mem_cons_self⟩
    | succ i =>
      obtain ⟨a, q1, q2, q3, q4⟩ := ih (i := i) (by simpa using e)
      exact ⟨a, by simpa using q1, q2, q3, List.mem_cons_of_mem _ q4⟩
theorem lentA_inj : ∀ {xs : List V} {as : List Sl} {i j : Nat} {a : Addr} {b c : Ob}, (lentA xs as).Nodup → xs[i]? = some (.ref a) → xs[j]? = some (.ref a) → as[i]? = some (.o b) → as[j]? = some (.o c) → i = j
  | [], _, i, j, a, b, c, _, h, _, _, _ => by simp at h
  | x :: xs, [], i, j, a, b, c, _, _, _, h, _ => by simp at h
  | x :: xs, s :: as, 0, 0, a, b, c, _, _, _, _, _ => rfl
  | x :: xs, s :: as, i + 1, j + 1, a, b, c, nd, h1, h2, h3, h4 => by
    have nd' : (lentA xs as).Nodup := by
      cases x <;> cases s <;> first
        | exact nd
        | exact (List.nodup_cons.mp nd).2
    rw [lentA_inj (i := i) (j := j) nd' (by simpa using h1) (by simpa using h2) (by simpa using h3) (by simpa using h4)]
  | x :: xs, s :: as, 0, j + 1, a, b, c, nd, h1, h2, h3, h4 => by
    simp at h1 h3
    subst h1 h3
    have hm : a ∈ lentA xs as := by
      have key : ∀ {xs : List V} {as : List Sl} {j : Nat}, xs[j]? = some (.ref a) → as[j]? = some (.o c) → a ∈ lentA xs as := by
        intro xs
        induction xs with
        | nil => intro as j h; simp at h
        | cons y ys ih =>
          intro as j h h'
          cases as with
          | nil => simp at h'
          | cons t ts =>
            cases j with
            | zero =>
              simp at h h'
              subst h h'
              exact List.mem_cons_self
            | succ j =>
              have q := ih (as := ts) (j := j) (by simpa using h) (by simpa using h')
              cases y <;> cases t <;> first
                | exact q
                | exact List.mem_cons_of_mem _ q
      exact key (by simpa using h2) (by simpa using h4)
    exact absurd hm (List.nodup_cons.mp nd).1
  | x :: xs, s :: as, i + 1, 0, a, b, c, nd, h1, h2, h3, h4 => (lentA_inj (i := 0) (j := i + 1) nd h2 h1 h4 h3).symm
section
variable {K : PySem.W.Frag} {G H : Hp} {vs : List V} {as : List Sl}
/-- what stands around a def's run -/
def byst (G H : Hp) (A : List Addr) : Hp := fun b => if (G b).isNone && !A.contains b then H b else none
theorem byst_some {A : List Addr} {b : Addr} {o : HO} (h : byst G H A b = some o) : G b = none ∧ b ∉ A ∧ H b = some o := by
  unfold byst at h
  split at h
  · rename_i q
    simp only [Bool.and_eq_true, Option.isNone_iff_eq_none, Bool.not_eq_true', List.contains_eq_mem, decide_eq_false_iff_not] at q
    exact ⟨q.1, q.2, h⟩
  · cases h
theorem byst_at {A : List Addr} {b : Addr} (h1 : G b = none) (h2 : b ∉ A) : byst G H A b = H b := by
  unfold byst
  rw [if_pos]
  simp only [Bool.and_eq_true, Option.isNone_iff_eq_none, Bool.not_eq_true', List.contains_eq_mem, decide_eq_false_iff_not]
  exact ⟨h1, h2⟩
theorem byst_lent {A : List Addr} {b : Addr} (h2 : b ∈ A) : byst G H A b = none := by
  unfold byst
  rw [if_neg]
  simp [h2]
theorem start_get {N : List Str} {i : Nat} {x : V} (h : vs[i]? = some x) : (start N vs)[i]? = some (some x) := by
  unfold L2.start
  have hl : i < vs.length := (List.getElem?_eq_some_iff.mp h).1
  rw [List.getElem?_append_left (by simpa using hl), List.getElem?_map, h]
  rfl
theorem rel_start {N : List Str} {size : Nat} {Wx : WX} (sg : Same G H) (ar : ARel K G H vs as) (nd : (lentA vs as).Nodup) (hsz : size = N.length) (hle : vs.length ≤ N.length) :
    Rel K (byst G H (lentA vs as)) ⟨pinsOf 0 vs as, fun _ => none, Wx⟩ G H (start N vs) (as ++ List.replicate (size - as.length) .un) := by
  have hl := ar.length
  have low : ∀ {i : Nat} {s : Sl}, (as ++ List.replicate (size - as.length) .un)[i]? = some s → s ≠ .un → as[i]? = some s := fun {i s} e ne => by
    by_cases hi : i < as.length
    · rw [List.getElem?_append_left hi] at e
      exact e
    · rw [List.getElem?_append_right (by omega), List.getElem?_replicate] at e
      split at e
      · exact absurd (Option.some.inj e).symm ne
      · cases e
  refine ⟨sg, fun b o e => ?_, fun p hp => ?_, ?_, fun i d e => ?_, fun i b e => ?_, fun i j a b c e e' r r' => ?_, fun _ _ z => by cases z⟩
  · obtain ⟨h1, h2, h3⟩ := byst_some e
    exact ⟨h3, h1⟩
  · obtain ⟨j, h1, h2, h3⟩ := pinsOf_at hp
    rw [h1, Nat.zero_add]
    exact start_get h2
  · rw [List.length_append, List.length_replicate]
    unfold L2.start
    rw [List.length_append, List.length_map, List.length_replicate]
    omega
  · obtain ⟨x, h1, h2⟩ := ar.val (low e (by intro z; cases z))
    exact ⟨x, start_get h1, h2⟩
  · obtain ⟨a, h1, h2, h3, h4⟩ := ar.own (low e (by intro z; cases z))
    exact ⟨a, start_get h1, h2, byst_lent h4, h3⟩
  · have e1 := low e (by intro z; cases z)
    have e2 := low e' (by intro z; cases z)
    obtain ⟨a1, h1, _⟩ := ar.own e1
    obtain ⟨a2, h2, _⟩ := ar.own e2
    rw [start_get h1] at r
    rw [start_get h2] at r'
    cases r
    cases r'
    exact lentA_inj nd h1 h2 e1 e2
theorem lent_false (m : List Bool) (s : Sl) (r : Env) : lent (false :: m) (s :: r) = lent m r := by cases s <;> rfl
/-- the lent objects at the end -/
theorem lent_outs {B : Hp} {P : Pn} {G' H' : Hp} {σ' : L2.St} {ρ' : Env} (rel : Rel K B P G' H' σ' ρ') : ∀ {k : Nat} {vs : List V} {as : List Sl} {outs : List Ob}, ARel K G H vs as → (∀ p ∈ pinsOf k vs as, p ∈ P.l) →
    lent (as.map isO) (ρ'.drop k) = some outs → Paired (fun a b => G' a = none ∧ OwnAt K G' H' a b) (lentA vs as) outs
  | k, _, _, outs, .nil, _, e => by
    have e : some [] = some outs := by
      have h := e
      unfold lent at h
      exact h
    cases e
    exact .nil
  | k, _, _, outs, .v (x := x) (d := d) (xs := xs) (as := as) h1 h2, hp, e => by
    have q : lentA (x :: xs) (.v d :: as) = lentA xs as := by cases x <;> rfl
    rw [q]
    cases hd : ρ'.drop k with
    | nil =>
      rw [hd] at e
      cases e
    | cons s r =>
      rw [hd] at e
      have hr : ρ'.drop (k + 1) = r := by rw [← List.drop_drop, hd] <;> rfl
      refine lent_outs rel (k := k + 1) h2 (fun p hm => hp p ?_) (by rw [hr, ← lent_false _ s]; exact e)
      cases x <;> exact hm
  | k, _, _, outs, .o (a := a) (b := b) (xs := xs) (as := as) h1 h2 h3, hp, e => by
    cases hd : ρ'.drop k with
    | nil =>
      rw [hd] at e
      cases e
    | cons s r =>
      rw [hd] at e
      have hr : ρ'.drop (k + 1) = r := by rw [← List.drop_drop, hd] <;> rfl
      cases s with
      | o c =>
        obtain ⟨os, e1, e2⟩ := Option.map_eq_some_iff.mp (show (lent (as.map isO) r).map (c :: ·) = some outs from e)
        subst e2
        have hk : ρ'[k]? = some (.o c) := by
          have z : (ρ'.drop k)[0]? = some (.o c) := by rw [hd]; rfl
          rw [List.getElem?_drop] at z
          exact z
        obtain ⟨a', g1, g2, _, g4⟩ := rel.own k c hk
        have hpin := rel.pin (k, .ref a) (hp _ List.mem_cons_self)
        rw [hpin] at g1
        cases g1
        exact .cons ⟨g2, g4⟩ (lent_outs rel (k := k + 1) h3 (fun p hm => hp p (List.mem_cons_of_mem _ hm)) (by rw [hr]; exact e1))
      | un => cases e
      | v d => cases e
end
/-- the slots lent -/
def lentIx : Nat → List Bool → List Nat
  | _, [] => []
  | k, true :: m => k :: lentIx (k + 1) m
  | k, false :: m => lentIx (k + 1) m
theorem lentIx_mem : ∀ {k : Nat} {m : List Bool} {j : Nat}, m[j]? = some true → k + j ∈ lentIx k m
  | k, [], j, h => by simp at h
  | k, true :: m, 0, _ => List.mem_cons_self
  | k, false :: m, 0, h => by simp at h
  | k, true :: m, j + 1, h => by
    have q := lentIx_mem (k := k + 1) (m := m) (j := j) (by simpa using h)
    rw [show k + (j + 1) = k + 1 + j by omega]
    exact List.mem_cons_of_mem _ q
  | k, false :: m, j + 1, h => by
    have q := lentIx_mem (k := k + 1) (m := m) (j := j) (by simpa using h)
    rw [show k + (j + 1) = k + 1 + j by omega]
    exact q
section
variable {P : Program} {w : World} {K : PySem.W.Frag} {mg : Str → Option Value} {base : Heap} {x qual : Str} {params : Arguments} {body : List Stmt} {scope : Scope} {f : Addr} {fd : FuncData} {N ps : List Str}
theorem fn_ok {k fuel : Nat} {W : Wd} {Fn : Rc.Fn} (FD : FunD K x qual params body scope [] [] f fd) (S : FnScope N ps scope) (hm : Fn.mask.length = ps.length) (hsz : Fn.size = N.length)
    (hb : ∀ (cdv : Value) (A : Around) (outer : List PySem.Env) (s : Shared) (H : Hp) (E : XK) (F : Fx), Room k (A.deeper (envOfC qual scope s.heap.objs.size f cdv)) → (∀ p ∈ F.P.l, p.1 ∈ lentIx 0 Fn.mask) → F.P.xw = (fun cls d _ H => E cls d H) →
      PSsv (cxOf (L2.CX P w) P w K mg base N qual scope f cdv A outer s H E) F fuel W body Fn.body) : FnOk P w K mg base (L2.CX P w) (k + 1) f fd ps (spOf K mg ps.length (runFn fuel W Fn)) := by
  refine FD.ok S (fun vs H Q E h => h.1) fun cdv A outer s H vs Q E hr h => ?_
  obtain ⟨hl, G, as, sg, ar, nd, post⟩ := h
  have hle : vs.length ≤ N.length := by
    have := congrArg List.length S.pre
    rw [List.length_take] at this
    omega
  unfold runFn at post
  by_cases hmk : as.map isO = Fn.mask
  · rw [if_pos hmk] at post
    have hP : ∀ p ∈ pinsOf 0 vs as, p.1 ∈ lentIx 0 Fn.mask := fun p hp => by
      obtain ⟨j, h1, _, b, h3⟩ := pinsOf_at hp
      rw [h1]
      refine lentIx_mem ?_
      rw [← hmk, List.getElem?_map, h3]
      rfl
    refine ⟨_, hb cdv A outer s H E ⟨byst G H (lentA vs as), ⟨pinsOf 0 vs as, fun _ => none, fun cls d _ H => E cls d H⟩⟩ hr hP rfl, G, _, rel_start sg ar nd hsz hle, ?_⟩
    generalize exs fuel W Fn.body (as ++ List.replicate (Fn.size - as.length) .un) = o at post
    -- what the end gives
    have back : ∀ {ρ' : Env} {outs : List Ob} {G' H' : Hp} {σ' : L2.St}, lent Fn.mask ρ' = some outs → Same G G' → Rel K (byst G H (lentA vs as)) ⟨pinsOf 0 vs as, fun _ => none, fun cls d _ H => E cls d H⟩ G' H' σ' ρ' → Back K G H G' H' (lentA vs as) outs := fun {ρ' outs G' H' σ'} e s1 rl => by
      refine ⟨s1, rl.sub, fun b o h1 h2 h3 => ?_, ?_⟩
      · exact rl.bys b o (by rw [byst_at h2 h3]; exact h1)
      · rw [← hmk] at e
        exact lent_outs rl (k := 0) ar (fun p hp => hp) e
    have new : ∀ {a : Addr} {G' : Hp}, Same G G' → G' a = none → byst G H (lentA vs as) a = none → a ∉ lentA vs as → H a = none := fun {a G'} s1 g1 b1 n1 => by
      rw [byst_at (Same.free s1 g1) n1] at b1
      exact b1
    have lentO : ∀ {ρ' : Env} {outs : List Ob} {j : Nat} {b : Ob}, lent Fn.mask ρ' = some outs → as[j]? = some (.o b) → ∃ c, ρ'[j]? = some (.o c) := fun {ρ' outs j b} el q => by
      have key : ∀ {m : List Bool} {ρ : Env} {os : List Ob} {j : Nat}, lent m ρ = some os → m[j]? = some true → ∃ c, ρ[j]? = some (.o c) := by
        intro m
        induction m with
        | nil => intro ρ os j _ h; simp at h
        | cons t m ih =>
          intro ρ os j h1 h2
          cases ρ with
          | nil => cases t <;> cases h1
          | cons s ρ =>
            cases j with
            | zero =>
              simp at h2
              subst h2
              cases s with
              | o c => exact ⟨c, rfl⟩
              | un => cases h1
              | v d => cases h1
            | succ j =>
              cases t with
              | true =>
                cases s with
                | o c =>
                  obtain ⟨os', e1, _⟩ := Option.map_eq_some_iff.mp (show (lent m ρ).map (c :: ·) = some os from h1)
                  obtain ⟨c', q⟩ := ih (j := j) e1 (by simpa using h2)
                  exact ⟨c', by simpa using q⟩
                | un => cases h1
                | v d => cases h1
              | false =>
                obtain ⟨c', q⟩ := ih (ρ := ρ) (j := j) (show lent m ρ = some os from by rw [← lent_false _ s]; exact h1) (by simpa using h2)
                exact ⟨c', by simpa using q⟩
      refine key el ?_
      rw [← hmk, List.getElem?_map, q]
      rfl
    have fin_ok : ∀ {r : R} {ρ' : Env} {G' H' : Hp} {σ' : L2.St} {y : V}, FoOk K mg G H (lentA vs as) Q E (fin Fn.mask r ρ') → Same G G' → Rel K (byst G H (lentA vs as)) ⟨pinsOf 0 vs as, fun _ => none, fun cls d _ H => E cls d H⟩ G' H' σ' ρ' → RRel K (byst G H (lentA vs as)) G' H' σ' ρ' r y → Q y H' := fun {r ρ' G' H' σ' y} post s1 rl rr => by
      -- an own slot's address is not lent, but for the lent slots
      have notlent : ∀ {a : Addr}, (∀ (j : Nat) (b : Ob), j < vs.length → as[j]? = some (.o b) → σ'[j]? ≠ some (some (.ref a))) → a ∉ lentA vs as := fun {a} hno hm => by
        obtain ⟨j, b, q1, q2⟩ := lentA_at hm
        have hp := rl.pin (j, .ref a) (by have := pinsOf_mem (k := 0) q1 q2; rwa [Nat.zero_add] at this)
        exact hno j b (List.getElem?_eq_some_iff.mp q1).1 q2 hp
      unfold fin at post
      cases el : lent Fn.mask ρ' with
      | none =>
        rw [el] at post
        exact post.elim
      | some outs =>
        rw [el] at post
        have bk := back el s1 rl
        cases r with
        | v d => exact post G' H' y bk rr
        | o b =>
          obtain ⟨a, rfl, g1, g2, g3, g4⟩ := rr
          refine post G' H' a bk (new s1 g1 g2 (notlent fun j c _ q => ?_)) g1 g3
          obtain ⟨c', q'⟩ := lentO el q
          exact g4 j c' q'
        | s i =>
          have post : FoOk K mg G H (lentA vs as) Q E (if isLent Fn.mask i then FO.bad else match ρ'[i]? with
            | some (.v d) => .v d outs
            | some (.o b) => .o b outs
            | _ => .bad) := post
          have rr : σ'[i]? = some (some y) := rr
          by_cases hi : isLent Fn.mask i = true
          · rw [if_pos hi] at post
            exact post.elim
          · rw [if_neg hi] at post
            cases er : ρ'[i]? with
            | none =>
              rw [er] at post
              exact post.elim
            | some s =>
              cases s with
              | un =>
                rw [er] at post
                exact post.elim
              | v d =>
                rw [er] at post
                obtain ⟨x, q1, q2⟩ := rl.val i d er
                rw [rr] at q1
                cases q1
                exact post G' H' y bk q2
              | o b =>
                rw [er] at post
                obtain ⟨a, q1, q2, q3, q4⟩ := rl.own i b er
                rw [rr] at q1
                cases q1
                refine post G' H' a bk (new s1 q2 q3 (notlent fun j c _ q => ?_)) q2 q4
                obtain ⟨c', q'⟩ := lentO el q
                intro z
                have e := rl.sep i j a b c' er q' rr z
                subst e
                apply hi
                unfold isLent
                rw [← hmk, List.getD_eq_getElem?_getD, List.getElem?_map, q]
                rfl
    cases o with
    | nx ρ' => exact fun G' H' σ' s1 rl => fin_ok (r := .v .none) post s1 rl .non
    | ret r ρ' => exact fun G' H' σ' y s1 rl rr => fin_ok post s1 rl rr
    | brk ρ' => exact post.elim
    | cnt ρ' => exact post.elim
    | exc z ρ' =>
      intro G' H' σ' cls d s1 rl xr
      have post : FoOk K mg G H (lentA vs as) Q E (match lent Fn.mask ρ' with
        | some outs => FO.exc z outs
        | none => .bad) := post
      cases el : lent Fn.mask ρ' with
      | none => rw [el] at post; exact post.elim
      | some outs =>
        rw [el] at post
        refine post G' H' cls d (back el s1 rl) ⟨xr.1, ?_⟩
        cases d with
        | none => exact xr.2
        | some dd =>
          obtain ⟨_, g1, g2, fs, g3, g4⟩ := xr
          refine ⟨g1, new s1 g1 g2 (fun hm => ?_), fs, g3, g4⟩
          obtain ⟨j, b, q1, q2⟩ := lentA_at hm
          have hp := rl.pin (j, .ref dd) (by have := pinsOf_mem (k := 0) q1 q2; rwa [Nat.zero_add] at this)
          obtain ⟨c, hc⟩ := lentO el q2
          obtain ⟨a, h1, _, _, h4⟩ := rl.own j c hc
          rw [hp] at h1
          cases h1
          cases c with
          | lst xs =>
            obtain ⟨_, h5, _⟩ := h4
            rw [g3] at h5
            cases h5
          | _ => exact h4
    | bad => exact post.elim
  · rw [if_neg hmk] at post
    exact post.elim
end
end Rc

set_option Elab.async false
set_option linter.all false
set_option maxRecDepth 100000
set_option maxHeartbeats 1000000
/-! Exs: raise and try. -/
namespace Rc
open PySem PySem.Spec PyProof.Rows L2
section
variable {K : PySem.W.Frag} {mg : Str → Option Value} {B : Hp} {P : Pn} {G G' H : Hp} {σ : L2.St} {ρ : Env}
theorem Rel.wish {Wx : WX} (rel : Rel K B P G H σ ρ) : Rel K B { P with xw := Wx } G H σ ρ := ⟨rel.sub, rel.bys, rel.pin, rel.len, rel.val, rel.own, rel.sep, rel.std⟩
theorem Rel.unwish {Wx : WX} (rel : Rel K B { P with xw := Wx } G H σ ρ) : Rel K B P G H σ ρ := ⟨rel.sub, rel.bys, rel.pin, rel.len, rel.val, rel.own, rel.sep, rel.std⟩
/-- the name of an except clause is bound -/
theorem Rel.catch_ {i : Nat} {v : V} (rel : Rel K B P G H σ ρ) (hi : i < ρ.length) (np : ∀ p ∈ P.l, p.1 ≠ i) : Rel K B { P with l := (i, v) :: P.l } G H (σ.set i (some v)) (ρ.set i .un) := by
  have low : ∀ {j : Nat} {y}, i ≠ j → σ[j]? = some (some y) → (σ.set i (some v))[j]? = some (some y) := fun ne q => by
    rw [List.getElem?_set_ne ne]
    exact q
  refine ⟨rel.sub, rel.bys, fun p hp => ?_, by rw [List.length_set, List.length_set]; exact rel.len, fun j e q => ?_, fun j c q => ?_, fun j k c b1 b2 q q' r r' => ?_, rel.std⟩
  · rcases List.mem_cons.mp hp with rfl | hp
    · exact List.getElem?_set_self (by rw [← rel.len]; exact hi)
    · exact low (Ne.symm (np p hp)) (rel.pin p hp)
  · rcases getElem_set_sl q with ⟨_, _, z⟩ | ⟨ne, q⟩
    · cases z
    · obtain ⟨y, y1, y2⟩ := rel.val j e q
      exact ⟨y, low ne y1, y2⟩
  · rcases getElem_set_sl q with ⟨_, _, z⟩ | ⟨ne, q⟩
    · cases z
    · obtain ⟨a, y1, y2⟩ := rel.own j c q
      exact ⟨a, low ne y1, y2⟩
  · rcases getElem_set_sl q with ⟨_, _, z⟩ | ⟨ne, q⟩
    · cases z
    · rcases getElem_set_sl q' with ⟨_, _, z⟩ | ⟨ne', q'⟩
      · cases z
      · rw [List.getElem?_set_ne ne] at r
        rw [List.getElem?_set_ne ne'] at r'
        exact rel.sep j k c b1 b2 q q' r r'
/-- .. and goes -/
theorem Rel.gone {i : Nat} (rel : Rel K B P G H σ ρ) (np : ∀ p ∈ P.l, p.1 ≠ i) : Rel K B P G H (σ.set i none) (ρ.set i .un) := by
  have low : ∀ {j : Nat} {y}, i ≠ j → σ[j]? = some (some y) → (σ.set i none)[j]? = some (some y) := fun ne q => by
    rw [List.getElem?_set_ne ne]
    exact q
  refine ⟨rel.sub, rel.bys, fun p hp => low (Ne.symm (np p hp)) (rel.pin p hp), by rw [List.length_set, List.length_set]; exact rel.len, fun j e q => ?_, fun j c q => ?_, fun j k c b1 b2 q q' r r' => ?_, rel.std⟩
  · rcases getElem_set_sl q with ⟨_, _, z⟩ | ⟨ne, q⟩
    · cases z
    · obtain ⟨y, y1, y2⟩ := rel.val j e q
      exact ⟨y, low ne y1, y2⟩
  · rcases getElem_set_sl q with ⟨_, _, z⟩ | ⟨ne, q⟩
    · cases z
    · obtain ⟨a, y1, y2⟩ := rel.own j c q
      exact ⟨a, low ne y1, y2⟩
  · rcases getElem_set_sl q with ⟨_, _, z⟩ | ⟨ne, q⟩
    · cases z
    · rcases getElem_set_sl q' with ⟨_, _, z⟩ | ⟨ne', q'⟩
      · cases z
      · rw [List.getElem?_set_ne ne] at r
        rw [List.getElem?_set_ne ne'] at r'
        exact rel.sep j k c b1 b2 q q' r r'
/-- fewer pins -/
theorem Rel.less {P' : Pn} (rel : Rel K B P G H σ ρ) (hl : ∀ p ∈ P'.l, p ∈ P.l) (ho : ∀ a o, P'.o a = some o → P.o a = some o) : Rel K B P' G H σ ρ := ⟨rel.sub, rel.bys, fun p hp => rel.pin p (hl p hp), rel.len, rel.val, rel.own, rel.sep, fun a o e => rel.std a o (ho a o e)⟩
/-- one bystander less -/
theorem Rel.less_by {D : Addr} {o : HO} (rel : Rel K (upd B D o) P G H σ ρ) (bD : B D = none) (st : ∀ a o, P.o a = some o → B a = some o) : Rel K B P G H σ ρ := (Rel.unby rel bD st).1
/-- the exception's fields are pinned -/
theorem Rel.hold {dd : Addr} {o : HO} (rel : Rel K (upd B dd o) P G H σ ρ) : Rel K (upd B dd o) { P with o := upd P.o dd o } G H σ ρ := ⟨rel.sub, rel.bys, rel.pin, rel.len, rel.val, rel.own, rel.sep, fun a u e => by
  by_cases h : a = dd
  · subst h
    have e : (upd P.o a o) a = some u := e
    rw [upd_same] at e ⊢
    exact e
  · have e : (upd P.o dd o) a = some u := e
    rw [upd_ne h] at e
    exact rel.std a u e⟩
/-- what is known of a caught exception -/
structure HotF (K : PySem.W.Frag) (mg : Str → Option Value) (F F' : Fx) (i : Nat) (a : Addr) (cls : Value) (d : Option Addr) (x : Xc) : Prop where
  l : F'.P.l = (i, .ref a) :: F.P.l
  cls : mg (xname x.cls) = some cls ∧ ∀ p ∈ x.fs, p.1 ∈ xfields x.cls
  fs : match d with
    | none => x.fs = []
    | some dd => ∃ fs, F'.P.o dd = some (.xd fs) ∧ Paired (fun (p : Str × PyData) (q : Str × V) => p.1 = q.1 ∧ Dq K (fun _ => none) q.2 p.2) x.fs fs
/-- the way into a suite and back -/
theorem catch_in {F : Fx} {i : Nat} {a : Addr} {cls : Value} {d : Option Addr} {x : Xc} (rel : F.rel K G H σ ρ) (hi : i < ρ.length) (np : ∀ p ∈ F.P.l, p.1 ≠ i) (xr : XRel K mg F.B G H x cls d) :
    ∃ F' : Fx, HotF K mg F F' i a cls d x ∧ F'.rel K G H (σ.set i (some (.ref a))) (ρ.set i .un) ∧ (∀ b, F'.B b = none → F.B b = none) ∧ ∀ {G2 H2 : Hp} {σ2 : L2.St} {ρ2 : Env}, F'.rel K G2 H2 σ2 ρ2 → F.rel K G2 H2 (σ2.set i none) (ρ2.set i .un) := by
  have r1 := rel.catch_ (v := .ref a) hi np
  obtain ⟨hc, hd⟩ := xr
  cases d with
  | none =>
    refine ⟨⟨F.B, { F.P with l := (i, .ref a) :: F.P.l }⟩, ⟨rfl, hc, hd⟩, r1, fun _ h => h, fun {G2 H2 σ2 ρ2} r2 => ?_⟩
    exact (Rel.less (P' := F.P) r2 (fun p hp => List.mem_cons_of_mem _ hp) fun _ _ e => e).gone np
  | some dd =>
    obtain ⟨g1, g2, fs, g3, g4⟩ := hd
    have r2 : Rel K (upd F.B dd (.xd fs)) { F.P with l := (i, .ref a) :: F.P.l } G H (σ.set i (some (.ref a))) (ρ.set i .un) := by
      refine Rel.by_ r1 g3 g1 fun j c e q => ?_
      obtain ⟨a', h1, _, _, h4⟩ := r1.own j c e
      rw [q] at h1
      cases h1
      cases c with
      | lst xs =>
        obtain ⟨_, h5, _⟩ := h4
        rw [g3] at h5
        cases h5
      | _ => exact h4
    refine ⟨⟨upd F.B dd (.xd fs), ⟨(i, .ref a) :: F.P.l, upd F.P.o dd (.xd fs), F.P.xw⟩⟩, ⟨rfl, hc, fs, upd_same, g4⟩, r2.hold, fun b h => ?_, fun {G3 H3 σ3 ρ3} r3 => ?_⟩
    · have h : upd F.B dd (.xd fs) b = none := h
      by_cases e : b = dd
      · subst e
        rw [upd_same] at h
        cases h
      · rw [upd_ne e] at h
        exact h
    · have r4 : Rel K (upd F.B dd (.xd fs)) F.P G3 H3 σ3 ρ3 := Rel.less r3 (fun p hp => List.mem_cons_of_mem _ hp) fun b o e => by
        show upd F.P.o dd (.xd fs) b = some o
        rw [upd_ne]
        · exact e
        · rintro rfl
          rw [rel.std _ _ e] at g2
          cases g2
      exact (Rel.less_by r4 g2 rel.std).gone np
end
section
variable {X : Cx} {F : Fx} {W : Wd} {fuel : Nat} {pos : Pos}
theorem PostS.gone {K : PySem.W.Frag} {mg : Str → Option Value} {F F' : Fx} {G G' : Hp} {D : Ends} {o : SO} {i : Nat} (h : PostS K mg F (o.gone i) G D) (sg : Same G G') (hB : ∀ b, F'.B b = none → F.B b = none)
    (hR : ∀ {G2 H2 : Hp} {σ2 : L2.St} {ρ2 : Env}, F'.rel K G2 H2 σ2 ρ2 → F.rel K G2 H2 (σ2.set i none) (ρ2.set i .un)) :
    PostS K mg F' o G' { nx := fun σ' H' => D.nx (σ'.set i none) H', rt := D.rt, bk := fun σ' H' => D.bk (σ'.set i none) H', ct := fun σ' H' => D.ct (σ'.set i none) H' } := by
  cases o with
  | nx ρ' => exact fun G2 H2 σ' s rel => h G2 H2 _ (sg.trans s) (hR rel)
  | brk ρ' => exact fun G2 H2 σ' s rel => h G2 H2 _ (sg.trans s) (hR rel)
  | cnt ρ' => exact fun G2 H2 σ' s rel => h G2 H2 _ (sg.trans s) (hR rel)
  | ret r ρ' =>
    cases r with
    | v d => exact fun G2 H2 σ' x s rel rr => h G2 H2 _ x (sg.trans s) (hR rel) rr
    | o b =>
      refine fun G2 H2 σ' x s rel rr => h G2 H2 _ x (sg.trans s) (hR rel) ?_
      obtain ⟨a, h1, h2, h3, h4, h5⟩ := rr
      refine ⟨a, h1, h2, hB _ h3, h4, fun j c e q => ?_⟩
      rcases getElem_set_sl e with ⟨_, _, z⟩ | ⟨ne, e⟩
      · cases z
      · rw [List.getElem?_set_ne ne] at q
        exact h5 j c e q
    | s j =>
      have h : PostS K mg F (match Nat.beq j i with
        | true => .bad
        | false => .ret (.s j) (ρ'.set i .un)) G D := h
      cases e : Nat.beq j i with
      | true => rw [e] at h; exact h.elim
      | false =>
        rw [e] at h
        refine fun G2 H2 σ' x s rel rr => h G2 H2 _ x (sg.trans s) (hR rel) ?_
        have ne : i ≠ j := by
          rintro rfl
          rw [Nat.beq_refl] at e
          cases e
        show (σ'.set i none)[j]? = some (some x)
        rw [List.getElem?_set_ne ne]
        exact rr
  | exc x ρ' => exact False.elim h
  | bad => exact False.elim h
theorem ex_try {i c : Nat} {n x : Str} {cv : Value} {body suite : List Stmt} {b₀ : Stmt} {np pos' : Pos} {db ds : Sts} (hs : X.stack = X.env :: X.outer) (hf : X.env.frame = some X.env.locals) (nd : X.N.Nodup) (hi : X.N[i]? = some n) (hln : X.env.kindOf n = some .local) (hc : Names X x cv)
    (tk : Takes X F.P.xw) (npi : ∀ p ∈ F.P.l, p.1 ≠ i) (hex : ∀ z cls, X.mg (xname z) = some cls → PySem.W.exmOne X.K cls cv = some (inh z c))
    (hb : ∀ (Wx : WX) (pn : List (Addr × Obj)) (xe : Value → Shared → Prop), Takes (X.tr pn xe) Wx → PassesOwn (model X.prog X.w) X.A X.env xe → PSsv (X.tr pn xe) ⟨F.B, { F.P with xw := Wx }⟩ fuel W body db)
    (hsu : ∀ (a : Addr) (oe : Obj) (cls : Value) (d : Option Addr) (pn : List (Addr × Obj)) (z : Xc) (F' : Fx), Zc cls d oe → (∃ vs, oe.data = .fields vs) → HotF X.K X.mg F F' i a cls d z → PSsv (X.suite a ((a, oe) :: pn)) F' fuel { W with xc := some z } (b₀ :: suite) ds) :
    PSv X F fuel W (.Try body [.ExceptHandler (some (.Name x np)) (some n) (b₀ :: suite) pos'] [] [] pos) (.tryE db c i ds) := ps_of fun D σ H h => by
  obtain ⟨G, ρ, rel, post⟩ := h
  refine ⟨_, ps_try_as (tb := fun Wx => tS X.K X.mg ⟨F.B, { F.P with xw := Wx }⟩ (exs fuel W db)) (ts := fun a cls d => fun D σ H => ∃ (z : Xc) (F' : Fx), HotF X.K X.mg F F' i a cls d z ∧ tS X.K X.mg F' (exs fuel { W with xc := some z } ds) D σ H) hs hf nd hi hln hc tk hb
    (fun a oe cls d pn hz hv => pss_of fun D σ H ⟨z, F', hot, q⟩ => ⟨_, hsu a oe cls d pn z F' hz hv hot, q⟩), G, ρ, rel.wish, ?_⟩
  have post : PostS X.K X.mg F (match exs fuel W db ρ with
    | .exc x ρ1 => (match inh x.cls c with
      | true => (match ρ1[i]? with
        | some _ => (exs fuel { W with xc := some x } ds (ρ1.set i .un)).gone i
        | none => .bad)
      | false => .exc x ρ1)
    | o => o) G D := post
  show PostS X.K X.mg ⟨F.B, { F.P with xw := _ }⟩ (exs fuel W db ρ) G D
  generalize exs fuel W db ρ = o at post ⊢
  cases o with
  | nx ρ' => exact fun G2 H2 σ' s r => post G2 H2 σ' s r.unwish
  | brk ρ' => exact fun G2 H2 σ' s r => post G2 H2 σ' s r.unwish
  | cnt ρ' => exact fun G2 H2 σ' s r => post G2 H2 σ' s r.unwish
  | ret r ρ' => exact fun G2 H2 σ' x s r rr => post G2 H2 σ' x s r.unwish rr
  | bad => exact False.elim post
  | exc x ρ' =>
    intro G2 H2 σ' cls d s2 r xr
    have r : F.rel X.K G2 H2 σ' ρ' := Rel.unwish (P := F.P) r
    have post : PostS X.K X.mg F (match inh x.cls c with
      | true => (match ρ'[i]? with
        | some _ => (exs fuel { W with xc := some x } ds (ρ'.set i .un)).gone i
        | none => .bad)
      | false => .exc x ρ') G D := post
    refine ⟨inh x.cls c, hex _ _ xr.1.1, fun hb1 a ha => ?_, fun hb1 => ?_⟩
    · rw [hb1] at post
      cases e : ρ'[i]? with
      | none =>
        rw [e] at post
        exact False.elim post
      | some sl =>
        rw [e] at post
        obtain ⟨F', hot, r3, hB, hR⟩ := catch_in (a := a) r (List.getElem?_eq_some_iff.mp e).1 npi xr
        exact ⟨x, F', hot, G2, ρ'.set i .un, r3, PostS.gone post s2 hB hR⟩
    · rw [hb1] at post
      exact post G2 H2 σ' cls d s2 r xr
/-- a class that may be raised -/
structure XcOk (X : Cx) (c : Nat) (C : Addr) : Prop where
  oex : OexC X.K C
  mg : X.mg (xname c) = some (.ref C)
  ini : ∃ (fI : Addr) (k : Nat) (fd : FuncData) (ps : List Str), PySem.W.findIn X.K (.ref C) "__init__" = some (some (.ref fI)) ∧ PySem.W.typeIn X.K (.ref fI) = some (.type "function") ∧ FnOk X.prog X.w X.K X.mg X.base (L2.CX X.prog X.w) k fI fd ps (spIn X.K C (xfields c)) ∧ Room (k + 1) X.A ∧ Binds X.K fd ps []
theorem tb_of {K : PySem.W.Frag} {G : Hp} {v : V} {d : PyData} (h : Dq K G v d) (t : tbD d = true) : Tb v ∧ Dq K (fun _ => none) v d := by
  cases h with
  | int n =>
    obtain ⟨t1, t2⟩ := Bool.and_eq_true_iff.mp (show (leI 0 n && within 999999999 n) = true from t)
    rw [leI_eq, decide_eq_true_iff] at t1
    rw [within_iff] at t2
    exact ⟨⟨t1, by have := t2.2; omega⟩, .int n⟩
  | str x => exact ⟨Nat.le_of_ble_eq_true t, .str x⟩
  | _ => cases t
theorem tbs_of {K : PySem.W.Frag} {G : Hp} : ∀ {vs : List V} {ds : List PyData}, DqAll K G vs ds → ds.all tbD = true → (∀ v ∈ vs, Tb v) ∧ DqAll K (fun _ => none) vs ds
  | [], [], _, _ => ⟨fun v h => by (cases h), .nil⟩
  | v :: vs, d :: ds, .cons h1 h2, t => by
    obtain ⟨t1, t2⟩ := Bool.and_eq_true_iff.mp (show (tbD d && ds.all tbD) = true from t)
    obtain ⟨q1, q2⟩ := tb_of h1 t1
    obtain ⟨q3, q4⟩ := tbs_of h2 t2
    refine ⟨fun w hw => ?_, .cons q2 q4⟩
    rcases List.mem_cons.mp hw with rfl | hw
    · exact q1
    · exact q3 w hw
theorem fs_of {K : PySem.W.Frag} : ∀ {fs : List Str} {vs : List V} {ds : List PyData}, DqAll K (fun _ => none) vs ds → Paired (fun (p : Str × PyData) (q : Str × V) => p.1 = q.1 ∧ Dq K (fun _ => none) q.2 p.2) (fs.zip ds) (fs.zip vs)
  | [], _, _, _ => .nil
  | f :: fs, [], [], _ => .nil
  | f :: fs, v :: vs, d :: ds, .cons h1 h2 => .cons ⟨rfl, h1⟩ (fs_of h2)
theorem paired_app {α β : Type} {R : α → β → Prop} : ∀ {xs : List α} {ys : List β} {xs' : List α} {ys' : List β}, Paired R xs ys → Paired R xs' ys' → Paired R (xs ++ xs') (ys ++ ys')
  | [], _, _, _, .nil, h => h
  | _ :: _, _, _, _, .cons r t, h => .cons r (paired_app t h)
theorem paired_rev {α β : Type} {R : α → β → Prop} : ∀ {xs : List α} {ys : List β}, Paired R xs ys → Paired R xs.reverse ys.reverse
  | [], _, .nil => .nil
  | x :: xs, _, .cons r t => by
    rw [List.reverse_cons, List.reverse_cons]
    exact paired_app (paired_rev t) (.cons r .nil)
/-- the wish behind making it -/
theorem mk_wish {c : Nat} {C : Addr} {ds : List PyData} {vs : List V} {x : Xc} {G H : Hp} {σ : L2.St} {ρ : Env} (ok : X.mg (xname c) = some (.ref C)) (rel : F.rel X.K G H σ ρ) (hd : DqAll X.K G vs ds) (e : mkX c ds = some x)
    (k : ∀ G' H' cls d, Same G G' → F.rel X.K G' H' σ ρ → XRel X.K X.mg F.B G' H' x cls d → F.P.xw cls d σ H') : mkW C (xfields c) vs H (fun cls d H' => F.P.xw cls d σ H') := by
  unfold mkX at e
  split at e
  · rename_i hc
    cases e
    obtain ⟨h1, h2⟩ := Bool.and_eq_true_iff.mp hc
    have h1 := Nat.eq_of_beq_eq_true h1
    obtain ⟨t1, t2⟩ := tbs_of hd h2
    have hk : ∀ p ∈ ((xfields c).zip ds).reverse, p.1 ∈ xfields c := fun p hp => (List.of_mem_zip (show (p.1, p.2) ∈ (xfields c).zip ds from List.mem_reverse.mp hp)).1
    refine ⟨by rw [hd.length, h1], t1, fun h0 => ?_, fun d hdn => ?_⟩
    · refine k G H (.ref C) none (Same.refl _) rel ⟨⟨ok, hk⟩, ?_⟩
      show ((xfields c).zip ds).reverse = []
      rw [h0]
      rfl
    · refine k G _ (.ref C) (some d) (Same.refl _) (rel.fresh (o := .xd _) hdn) ⟨⟨ok, hk⟩, Same.free rel.sub hdn, rel.bnone hdn, _, upd_same, ?_⟩
      exact paired_rev (fs_of t2)
  · cases e
theorem ex_raise {c : Nat} {C : Addr} {x : Str} {p q : Pos} {e : Expr} {es : List Expr} {ds : Exs} (hc : X.calm = true) (tk : Takes X F.P.xw) (ok : XcOk X c C) (hx : x = xname c) (nf : (xfields c).length ≤ 100) (hg : Gl X x) (ha : PAv X F W (e :: es) ds) (hdb : (x == ("__debug__" : Str)) = false)
    (he : starEach (e :: es) X.env = (false, eval e X.env) :: starEach es X.env) (hpl : (backTo q (starEach es X.env)).any (·.1) = false) : PSv X F fuel W (.Raise (some (.Call (.Name x p) (e :: es) [] q)) none pos) (.raise c ds) := ps_of fun D σ H h => by
  subst hx
  obtain ⟨G, ρ, rel, post⟩ := h
  obtain ⟨dl, ρ1, e1, post⟩ := PostS.st post
  obtain ⟨fI, k, fd, ps, i1, i2, i3, i4, i5⟩ := ok.ini
  refine ⟨_, ps_raise hc tk (pmk_x ok.oex i1 i2 i3 i4 i5 passL nf hg ok.mg ha hdb he hpl), tA_in rel e1 fun G1 H1 vs s1 rel1 z1 => ?_⟩
  cases em : mkX c dl with
  | none =>
    rw [em] at post
    exact False.elim post
  | some z =>
    rw [em] at post
    exact mk_wish ok.mg rel1 z1 em fun G' H' cls d s' r' xr => post G' H' σ cls d (s1.trans s') r' xr
theorem ex_raise0 {c : Nat} {C : Addr} {x : Str} {p q : Pos} (hc : X.calm = true) (tk : Takes X F.P.xw) (ok : XcOk X c C) (hx : x = xname c) (nf : xfields c = []) (hg : Gl X x) (hdb : (x == ("__debug__" : Str)) = false) :
    PSv X F fuel W (.Raise (some (.Call (.Name x p) [] [] q)) none pos) (.raise c .nil) := ps_of fun D σ H h => by
  subst hx
  obtain ⟨G, ρ, rel, post⟩ := h
  have post : PostS X.K X.mg F (match mkX c [] with
    | some x => .exc x ρ
    | none => .bad) G D := post
  obtain ⟨fI, k, fd, ps, i1, i2, i3, i4, i5⟩ := ok.ini
  rw [nf] at i3
  refine ⟨_, ps_raise hc tk (pmk_x0 ok.oex i1 i2 i3 i4 i5 passL hg ok.mg hdb), ?_⟩
  cases em : mkX c [] with
  | none =>
    rw [em] at post
    exact False.elim post
  | some z =>
    rw [em] at post
    have := mk_wish ok.mg rel (.nil) em fun G' H' cls d s' r' xr => post G' H' σ cls d s' r' xr
    rw [nf] at this
    exact this
end
end Rc

set_option Elab.async false
set_option linter.all false
set_option maxRecDepth 100000
set_option maxHeartbeats 1000000
/-! Hox: what a suite asks of the exception it holds. -/
namespace Rc
open PySem PySem.Spec PyProof.Rows L2
/-- a class by its number -/
def CU (mg : Str → Option Value) (z : Nat) (u : Value) : Prop := mg (xname z) = some u ∨ (z = 0 ∧ mg "ValueError" = none ∧ u = .type "ValueError")
/-- what the module says of its exceptions -/
structure XKit (K : PySem.W.Frag) (mg : Str → Option Value) : Prop where
  own : ∀ z cls, mg (xname z) = some cls → ∃ D, cls = .ref D ∧ ExcC K D ∧ XfC K D ∧ ∀ f ∈ xfields z, PySem.W.findIn K (.ref D) f = some none
  kit : ∀ z D z' u, mg (xname z) = some (.ref D) → CU mg z' u → PySem.W.kitOne K (.ref D) u = some (inh z z') ∧ PySem.W.exmOne K (.ref D) u = some (inh z z')
/-- one stands in an except suite: its name is slot i's -/
structure HotX (X : Cx) (F : Fx) (W : Wd) (i : Nat) : Prop where
  ex : ∃ (X0 : Cx) (a : Addr) (oe : Obj) (cls : Value) (d : Option Addr) (pn : List (Addr × Obj)) (z : Xc), X = X0.suite a ((a, oe) :: pn) ∧ Zc cls d oe ∧ (∃ vs, oe.data = .fields vs) ∧ W.xc = some z ∧ (i, .ref a) ∈ F.P.l ∧ X.mg (xname z.cls) = some cls ∧ (∀ p ∈ z.fs, p.1 ∈ xfields z.cls) ∧
    match d with
    | none => z.fs = []
    | some dd => ∃ fs, F.P.o dd = some (.xd fs) ∧ Paired (fun (p : Str × PyData) (q : Str × V) => p.1 = q.1 ∧ Dq X.K (fun _ => none) q.2 p.2) z.fs fs
theorem kitAny_of {K : PySem.W.Frag} {t : Value} {z : Nat} : ∀ {cs : List Nat} {us : List Value}, Paired (fun c u => PySem.W.kitOne K t u = some (inh z c)) cs us → PySem.W.kitAny K t us = some (cs.any (inh z))
  | [], _, .nil => rfl
  | c :: cs, u :: us, .cons r t' => by
    show (match PySem.W.kitOne K t u with
      | some true => some true
      | some false => PySem.W.kitAny K t us
      | none => none) = some (inh z c || cs.any (inh z))
    rw [r]
    cases inh z c with
    | true => rfl
    | false =>
      rw [Bool.false_or]
      exact kitAny_of t'
section
variable {X0 : Cx} {F : Fx} {W : Wd} {pos : Pos}
/-- isinstance(e, c) -/
def rIsX (K : PySem.W.Frag) (D a : Addr) (d : Option Addr) (b : Bool) : List V → Hp → VK → Prop := fun xs H Q => (∀ dd, d = some dd → ∃ fs, H dd = some (.xd fs)) ∧ Q (.bl b) H ∧
  ((∃ c u, xs = [.ref a, c] ∧ ClsV c u ∧ PySem.W.kitOne K (.ref D) u = some b) ∨ ∃ tp cs us, xs = [.ref a, .ref tp] ∧ H tp = some (.tup cs) ∧ Paired ClsV cs us ∧ PySem.W.kitAny K (.ref D) us = some b)
theorem call_isX {a D : Addr} {oe : Obj} {d : Option Addr} {pn : List (Addr × Obj)} {b : Bool} (C : ExcC X0.K D) (hz : Zc (.ref D) d oe) (hf : ∃ vs, oe.data = .fields vs) : CallR (X0.suite a ((a, oe) :: pn)) (.builtin "isinstance") (rIsX X0.K D a d b) := by
  intro pins s σ H xs us Q I r h
  obtain ⟨hd, q, h⟩ := h
  obtain ⟨hget, _⟩ := I.pin (a, oe) (List.mem_append.mpr (.inl List.mem_cons_self))
  obtain ⟨vs, hv⟩ := hf
  obtain ⟨od, J⟩ : ∃ od, PySem.W.InstAt s.heap a oe D od := by
    obtain ⟨oc, odi, oda, osl⟩ := oe
    obtain ⟨h1, h2⟩ := hz
    dsimp only at h1 h2 hv
    subst h1 h2 hv
    cases odi with
    | none => exact ⟨none, hget, rfl, rfl, trivial⟩
    | some dd =>
      obtain ⟨fs, ea⟩ := hd dd rfl
      have hx : ObjOk X0.prog X0.w H s.heap dd (.xd fs) := I.hok dd _ ea
      obtain ⟨mA, hns, _⟩ := hx
      obtain ⟨od, ho, _⟩ := lookIn_ns hns
      exact ⟨some od, hget, rfl, rfl, ho⟩
  have hcl : (PySem.W.clsIn X0.K D).isSome = true := by
    have := C.hd
    unfold PySem.W.hasDictIn at this
    cases e : PySem.W.clsIn X0.K D with
    | none => rw [e] at this; cases this
    | some c => rfl
  have Z : PySem.W.KitX X0.K (.ref a) (.ref D) (fun h => PySem.W.InstAt h a oe D od) := PySem.W.kitx_exc hcl C.hg C.hk C.hs C.ha C.hn C.ht C.hm
  rcases h with ⟨c, u, rfl, k, e⟩ | ⟨tp, cs, ws, rfl, hT, k, e⟩
  · obtain ⟨u1, u2, rfl, r1, r2⟩ := vals2 r
    cases (show u1 = Value.ref a from r1)
    have e2 := k.eq r2
    subst e2
    exact PySem.W.kia_one Z I.kIn J e (fun z => nomatch z) fun tk => ⟨.bl b, H, I.tok tk, rfl, q⟩
  · obtain ⟨u1, u2, rfl, r1, r2⟩ := vals2 r
    cases (show u1 = Value.ref a from r1)
    cases (show u2 = Value.ref tp from r2)
    obtain ⟨_, its, rv, o, h1, h2, n, h3⟩ := (show ObjOk X0.prog X0.w H s.heap tp (.tup cs) from I.hok tp _ hT)
    have e3 := ClsV.all k rv
    subst e3
    obtain ⟨oc, od2, dt, sl⟩ := o
    simp only at h2 h3
    subst h2 h3
    exact PySem.W.kia_tup Z I.kIn J h1 e (fun z => nomatch z) fun tk => ⟨.bl b, H, I.tok tk, rfl, q⟩
end
section
variable {X : Cx} {F : Fx} {W : Wd} {pos : Pos}
/-- a class's name -/
theorem pe_cls {z : Nat} {u : Value} {p : Pos} (h : CU X.mg z u) (ho : ∀ cls, X.mg (xname z) = some cls → ∃ D, cls = .ref D) (hg : Gl X (xname z)) (hdb : (xname z == ("__debug__" : Str)) = false) : ∃ v, ClsV v u ∧ PE X (.Name (xname z) p) (tC v) := by
  rcases h with h | ⟨rfl, h2, rfl⟩
  · obtain ⟨D, rfl⟩ := ho _ h
    exact ⟨.ref D, .own D, pe_glob hg h rfl hdb⟩
  · exact ⟨.ty "ValueError", .ty _, pe_bltn hg h2 (by decide +kernel) rfl (by decide) hdb⟩
def clsNames : List Nat → List Expr → Bool
  | [], [] => true
  | z :: zs, .Name x _ :: es => decide (x = xname z) && clsNames zs es
  | _, _ => false
theorem pa_cls : ∀ {zs : List Nat} {es : List Expr}, clsNames zs es = true → (∀ z ∈ zs, (∃ u, CU X.mg z u) ∧ (∀ cls, X.mg (xname z) = some cls → ∃ D, cls = .ref D) ∧ Gl X (xname z) ∧ (xname z == ("__debug__" : Str)) = false) →
    ∃ (us : List Value) (vs : List V), Paired (CU X.mg) zs us ∧ Paired ClsV vs us ∧ vs.length = zs.length ∧ PA X es (fun σ H Q => Q vs H)
  | [], [], _, _ => ⟨[], [], .nil, .nil, rfl, pa_nil⟩
  | [], e :: es, h, _ => by cases h
  | z :: zs, [], h, _ => by cases h
  | z :: zs, e :: es, h, hz => by
    cases e with
    | Name x p =>
      obtain ⟨h1, h2⟩ := Bool.and_eq_true_iff.mp (show (decide (x = xname z) && clsNames zs es) = true from h)
      cases of_decide_eq_true h1
      obtain ⟨⟨u, hu⟩, ho, hg, hdb⟩ := hz z List.mem_cons_self
      obtain ⟨v, c, pe⟩ := pe_cls (p := p) hu ho hg hdb
      obtain ⟨us, vs, k1, k2, k3, pa⟩ := pa_cls h2 fun y hy => hz y (List.mem_cons_of_mem _ hy)
      exact ⟨u :: us, v :: vs, .cons hu k1, .cons c k2, by rw [List.length_cons, List.length_cons, k3], pa_cons pe pa rfl⟩
    | _ => cases h
/-- isinstance(e, C), isinstance(e, (C, ..)) -/
theorem ev_xis {i : Nat} {zs : List Nat} {n : Str} {y : Expr} {p p2 : Pos} (hot : HotX X F W i) (xk : XKit X.K X.mg) (hN : X.N[i]? = some n) (hv : Vis X.env.scope n) (hd : (n == ("__debug__" : Str)) = false) (hcd : (n == ("__classdict__" : Str)) = false) (hg : Gl X "isinstance") (hm : X.mg "isinstance" = none)
    (hy : (∃ z, zs = [z] ∧ clsNames zs [y] = true) ∨ ∃ es k q, y = .Tuple es k q ∧ clsNames zs es = true ∧ zs.length ≤ 1000) (hz : ∀ z ∈ zs, (∃ u, CU X.mg z u) ∧ Gl X (xname z) ∧ (xname z == ("__debug__" : Str)) = false) :
    PEv X F W (.Call (.Name "isinstance" p) [.Name n p2, y] [] pos) (.xis i zs) := pe_of fun σ H Q q => by
  obtain ⟨G, ρ, rel, post⟩ := q
  obtain ⟨X0, a, oe, cls, d, pn, z, rfl, hzc, hf, hx, hp, hmc, _, hfs⟩ := hot.ex
  obtain ⟨D, rfl, eC, xC, _⟩ := xk.own _ _ hmc
  have post : Post (match W.xc with
    | some x => Out.ok (R.v (.bool (zs.any (inh x.cls)))) ρ
    | none => .bad) (EndE X0.K F G σ Q) := post
  rw [hx] at post
  have hpin : σ[i]? = some (some (.ref a)) := rel.pin (i, .ref a) hp
  have hdd : ∀ dd, d = some dd → ∃ fs, H dd = some (.xd fs) := fun dd e => by
    subst e
    obtain ⟨fs, h1, _⟩ := hfs
    exact ⟨fs, (rel.bys _ _ (rel.std _ _ h1)).1⟩
  have own := fun (z : Nat) => fun cls h => (xk.own z cls h).imp fun D q => q.1
  have ne : (n == ("__debug__" : Str)) = false := hd
  rcases hy with ⟨c, rfl, hc⟩ | ⟨es, k, q, rfl, hc, hl⟩
  · cases y with
    | Name x p3 =>
      obtain ⟨h1, _⟩ := Bool.and_eq_true_iff.mp (show (decide (x = xname c) && clsNames [] []) = true from hc)
      cases of_decide_eq_true h1
      obtain ⟨⟨u, hu⟩, hgc, hdc⟩ := hz c List.mem_cons_self
      obtain ⟨v, cv, pe⟩ := pe_cls (p := p3) hu (own c) hgc hdc
      refine ⟨_, pe_callB (call_isX (b := [c].any (inh z.cls)) eC hzc hf) hg hm (by decide +kernel) (pa_cons (pe_var hN hv hd hcd) (pa_cons pe pa_nil) rfl) (by decide) (by decide) rfl, ?_⟩
      refine ⟨_, hpin, hdd, post G H _ (Same.refl _) rel (.bl _), .inl ⟨v, u, rfl, cv, ?_⟩⟩
      rw [(xk.kit _ _ _ _ hmc hu).1]
      show some (inh z.cls c) = some (inh z.cls c || false)
      rw [Bool.or_false]
    | _ => cases hc
  · obtain ⟨us, vs, k1, k2, k3, pa⟩ := pa_cls (X := X0.suite a ((a, oe) :: pn)) hc fun z h => ⟨(hz z h).1, own z, (hz z h).2⟩
    refine ⟨_, pe_callB (call_isX (b := zs.any (inh z.cls)) eC hzc hf) hg hm (by decide +kernel) (pa_cons (pe_var hN hv hd hcd) (pa_cons (pe_tup pa) pa_nil) rfl) (by decide) (by decide) rfl, ?_⟩
    refine ⟨_, hpin, by rw [k3, Lm_eq]; exact Nat.le_trans hl (by decide), fun tp hn => ⟨fun dd e => ?_, ?_, .inr ⟨tp, vs, us, rfl, upd_same, k2, ?_⟩⟩⟩
    · obtain ⟨fs, h1⟩ := hdd dd e
      exact ⟨fs, by rw [upd_ne (ne_of_none h1 hn)]; exact h1⟩
    · exact post G _ _ (Same.refl _) (rel.fresh hn) (.bl _)
    · exact kitAny_of (Paired.mapP k1 fun c u hu => (xk.kit _ _ _ _ hmc hu).1)
theorem lookup_paired {K : PySem.W.Frag} {G : Hp} {f : Str} {d : PyData} : ∀ {xs : List (Str × PyData)} {fs : List (Str × V)}, Paired (fun (p : Str × PyData) (q : Str × V) => p.1 = q.1 ∧ Dq K G q.2 p.2) xs fs → xs.lookup f = some d → ∃ v, fs.lookup f = some v ∧ Dq K G v d
  | [], _, .nil, h => by cases h
  | (g, e) :: xs, (g', v) :: fs, .cons r t, h => by
    obtain ⟨r1, r2⟩ := r
    have r1 : g = g' := r1
    subst r1
    rw [List.lookup_cons] at h ⊢
    cases q : f == g with
    | true =>
      rw [q] at h
      cases h
      exact ⟨v, rfl, r2⟩
    | false =>
      rw [q] at h
      exact lookup_paired t h
theorem lookup_mem {f : Str} {d : PyData} : ∀ {xs : List (Str × PyData)}, xs.lookup f = some d → (f, d) ∈ xs
  | [], h => by cases h
  | (g, e) :: xs, h => by
    rw [List.lookup_cons] at h
    cases q : f == g with
    | true =>
      rw [q] at h
      cases h
      rw [eq_of_beq q]
      exact List.mem_cons_self
    | false =>
      rw [q] at h
      exact List.mem_cons_of_mem _ (lookup_mem h)
/-- e.f -/
theorem ev_xfl {i : Nat} {f n : Str} {p : Pos} (hot : HotX X F W i) (xk : XKit X.K X.mg) (hN : X.N[i]? = some n) (hv : Vis X.env.scope n) (hd : (n == ("__debug__" : Str)) = false) (hcd : (n == ("__classdict__" : Str)) = false) : PEv X F W (.Attribute (.Name n p) f pos) (.xfl i f) := pe_of fun σ H Q q => by
  obtain ⟨G, ρ, rel, post⟩ := q
  obtain ⟨X0, a, oe, cls, d, pn, z, rfl, hzc, hf, hx, hp, hmc, hkey, hfs⟩ := hot.ex
  obtain ⟨D, rfl, eC, xC, hno⟩ := xk.own _ _ hmc
  have post : Post (match W.xc with
    | some x => optV ρ (x.fs.lookup f)
    | none => .bad) (EndE X0.K F G σ Q) := post
  rw [hx] at post
  have post : Post (optV ρ (z.fs.lookup f)) (EndE X0.K F G σ Q) := post
  have hpin : σ[i]? = some (some (.ref a)) := rel.pin (i, .ref a) hp
  cases e : z.fs.lookup f with
  | none =>
    rw [e] at post
    exact post.elim
  | some dv =>
    rw [e] at post
    have hff : f ∈ xfields z.cls := hkey _ (lookup_mem e)
    refine ⟨_, pe_xf xC (hno f hff) hzc hf (pe_var hN hv hd hcd), ?_⟩
    cases d with
    | none =>
      rw [show z.fs = [] from hfs] at e
      cases e
    | some dd =>
      obtain ⟨fs, h1, h2⟩ := hfs
      obtain ⟨v, l1, l2⟩ := lookup_paired h2 e
      exact ⟨_, hpin, rfl, rfl, dd, fs, v, rfl, (rel.bys _ _ (rel.std _ _ h1)).1, l1, post G H _ (Same.refl _) rel (Dq.mono (fun _ _ z => by cases z) l2)⟩
end
end Rc

set_option Elab.async false
set_option linter.all false
set_option maxRecDepth 100000
set_option maxHeartbeats 4000000
namespace Rc
open PySem PySem.Spec PyProof.Rows L2

structure Ct where
  N : List Str
  sc : Scope
  pn : List Nat
  hot : Option Nat := none
structure Tab where
  fns : Nat → Option (Str × List Bool)
  cons : Nat → Option Str
  xs : Nat → Bool
  xr : Nat → Bool
def hotN (c : Ct) : Bool := match c.hot with
  | none => true
  | some _ => false

def nmOk (x : Str) : Bool := !(x == ("__debug__" : Str)) && (!(x == ("__classdict__" : Str)) && !(x == ("__name__" : Str)))
def isVis (sc : Scope) (x : Str) : Bool := match sc.names.lookup x with
  | some .local => true
  | some .cell => true
  | some .free => true
  | _ => false
def isGlo (sc : Scope) (x : Str) : Bool := match sc.names.lookup x with
  | some .globalImplicit => true
  | _ => false
def isLoc (sc : Scope) (x : Str) : Bool := match sc.names.lookup x with
  | some .local => true
  | _ => false
def isLC (sc : Scope) (x : Str) : Bool := match sc.names.lookup x with
  | some .local => true
  | some .cell => true
  | _ => false
def notStar : Expr → Bool
  | .Starred .. => false
  | _ => true
def notSet : Expr → Bool
  | .Set .. => false
  | _ => true
def notSlice : Expr → Bool
  | .Slice .. => false
  | _ => true
/-- no call: what a method is asked of -/
def objOk : Expr → Bool
  | .Call .. => false
  | _ => true
theorem objOk_base {o : Expr} (h : objOk o = true) (env : PySem.Env) (n : Str) (w : Sem Value) : attributeBase o n env w = w := by
  cases o <;> first
    | rfl
    | exact absurd h Bool.false_ne_true
def notComp : Expr → Bool
  | .ListComp .. => false
  | .SetComp .. => false
  | .DictComp .. => false
  | _ => true
/-- an expression whose test is the truth of its value -/
def plainTest : Expr → Bool
  | .UnaryOp .Not _ _ => false
  | .BoolOp .. => false
  | .IfExp .. => false
  | .Compare .. => false
  | _ => true
def slotOk (c : Ct) (i : Nat) (x : Str) : Bool := decide (c.N[i]? = some x) && nmOk x
def biName : Bi → Str
  | .len => "len"
  | .int_ => "int"
  | .abs => "abs"
  | .list_ => "list"
  | .tuple_ => "tuple"
  | .all_ => "all"
  | .any_ => "any"
  | .min2 => "min"
  | .max2 => "max"
  | .str_ => "str"
  | .sum_ => "sum"
  | .ord_ => "ord"
def biNames : List Str := ["len", "int", "abs", "list", "tuple", "all", "any", "min", "max", "str", "sum", "ord", "isinstance", "range", "enumerate", "bool", "sorted", "set", "dict", "repr", "super"]
def ownP (N : List Str) : List Nat → List (Str × Nat)
  | [] => []
  | i :: is => (N.getD i "", i) :: ownP N is
theorem ownP_snd (N : List Str) : ∀ is, (ownP N is).map (·.2) = is
  | [] => rfl
  | i :: is => by show i :: (ownP N is).map (·.2) = _; rw [ownP_snd N is]
def sepB (pn own : List Nat) : Bool := pn.all fun i => !own.contains i
def subB (a b : List Nat) : Bool := a.all fun i => b.contains i
/-- a name that may be stored -/
def tgtOk (c : Ct) (i : Nat) (x : Str) : Bool := decide (c.N[i]? = some x) && isLC c.sc x && !c.pn.contains i
def tgtsOk (c : Ct) : List Nat → List Expr → Bool
  | [], [] => true
  | i :: is, .Name x _ :: es => tgtOk c i x && tgtsOk c is es
  | _, _ => false
def chkTg (c : Ct) : Tg → Expr → Bool
  | .nm i, .Name x _ => tgtOk c i x
  | .tp is, .Tuple es _ _ => hotN c && tgtsOk c is es
  | _, _ => false
/-- the list comprehension's own store: name = [..] -/
def swD (sc : Scope) (x : Str) (p : Pos) (v : Expr) : Bool := match v with
  | .ListComp _ _ s q => isLoc sc x && (p.line == q.line) && !(s.names.any fun (n, k) => n == x && (k == .local || k == .cell))
  | _ => false
def tyName (t : String) : Str := Str.ofString t

def xisOk (T : Tab) (c : Ct) (zs : List Nat) (y : Expr) : Bool := (zs.all fun z => T.xs z && isGlo c.sc (xname z) && !(xname z == ("__debug__" : Str))) && match y with
  | .Tuple es _ _ => clsNames zs es && decide (zs.length ≤ 1000)
  | y => clsNames zs [y]
section
variable (T : Tab)
mutual
def chkE (c : Ct) : Ex → Expr → Bool
  | .var i, .Name x _ => slotOk c i x && isVis c.sc x
  | .int n, .Constant (.int m) _ _ => decide (n = m)
  | .str n, .Constant (.str m) _ _ => decide (n = m)
  | .bl n, .Constant (.bool m) _ _ => decide (n = m)
  | .non, .Constant .none _ _ => true
  | .glob g, .Name x _ => decide (T.cons g = some x) && nmOk x && isGlo c.sc x
  | .bin op a b, .BinOp x op' y _ => decide (op = op') && chkE c a x && chkE c b y
  | .neg a, .UnaryOp .USub x _ => chkE c a x
  | .nott a, .UnaryOp .Not x _ => chkE c a x
  | .and a b, .BoolOp .And (x :: y :: r) p => chkE c a x && (match r with
    | [] => chkE c b y
    | z :: r => chkE c b (.BoolOp .And (y :: z :: r) p))
  | .or a b, .BoolOp .Or (x :: y :: r) p => chkE c a x && (match r with
    | [] => chkE c b y
    | z :: r => chkE c b (.BoolOp .Or (y :: z :: r) p))
  | .cmp op a b, .Compare x [op'] [y] _ => decide (op = op') && notSet y && chkE c a x && chkE c b y
  | .cmp2 o1 o2 a b d, .Compare x [p1, p2] [y, z] _ => decide (o1 = p1) && decide (o2 = p2) && notSet z && chkE c a x && chkE c b y && chkE c d z
  | .ite t a b, .IfExp u x y _ => chkT c t u && chkE c a x && chkE c b y
  | .tup es, .Tuple xs _ _ => decide (es.len ≤ 1000) && chkL c es xs
  | .lst es, .List xs _ => decide (es.len ≤ 1000) && chkL c es xs
  | .sub a i, .Subscript x y _ => notSlice y && chkE c a x && chkE c i y
  | .slc a l h, .Subscript x (.Slice (some y) (some z) none _) _ => chkE c a x && chkE c l y && chkE c h z
  | .slcL a l, .Subscript x (.Slice (some y) none none _) _ => chkE c a x && chkE c l y
  | .slcH a h, .Subscript x (.Slice none (some z) none _) _ => chkE c a x && chkE c h z
  | .rev a, .Subscript x (.Slice none none (some (.UnaryOp .USub (.Constant (.int k) _ _) _)) _) _ => decide (k = 1) && chkE c a x
  | .call f es, .Call (.Name x _) xs [] _ => hotN c && (match T.fns f with
    | some (y, m) => decide (x = y) && decide (es.len = m.length)
    | none => false) && nmOk x && isGlo c.sc x && chkL c es xs
  | .bi b es, .Call (.Name x _) (y :: xs) [] _ => hotN c && decide (biName b = x) && isGlo c.sc x && chkL c es (y :: xs)
  | .isi a t, .Call (.Name x _) [y, .Name z _] [] _ => decide (x = "isinstance") && isGlo c.sc x && decide (z = tyName t) && isTys.contains t && isGlo c.sc z && notStar y && chkE c a y
  | .mu .append i (.cons e .nil), .Call (.Attribute (.Name x _) n ap) [y] [] p => decide (n = "append") && (ap.endLine == p.line) && slotOk c i x && isVis c.sc x && notStar y && chkE c e y
  | .mu .popAt i (.cons e .nil), .Call (.Attribute (.Name x _) n ap) [y] [] p => decide (n = "pop") && (ap.endLine == p.line) && slotOk c i x && isVis c.sc x && notStar y && chkE c e y
  | .mu .pop i .nil, .Call (.Attribute (.Name x _) n ap) [] [] p => decide (n = "pop") && (ap.endLine == p.line) && slotOk c i x && isVis c.sc x
  | .pm m a (.cons e .nil), .Call (.Attribute o n ap) [y] [] p => decide (n = pmName m) && (ap.endLine == p.line) && objOk o && notStar y && chkE c a o && chkE c e y
  | .xis i zs, .Call (.Name x _) [.Name n _, y] [] _ => decide (x = "isinstance") && isGlo c.sc x && decide (c.hot = some i) && slotOk c i n && isVis c.sc n && xisOk T c zs y
  | .xfl i f, .Attribute (.Name n _) g _ => decide (f = g) && decide (c.hot = some i) && slotOk c i n && isVis c.sc n
  | .comp e tg it ifs own, .ListComp x [⟨t, iter, fs, 0⟩] scope _ => hotN c && blkC c.N c.sc scope (ownP c.N own) && sepB c.pn own && subB tg.slots own && notSet iter && chkI c it t iter && chkTg ⟨c.N, scope, c.pn, none⟩ tg t && chkF ⟨c.N, scope, c.pn, none⟩ ifs fs && chkE ⟨c.N, scope, c.pn, none⟩ e x
  | _, _ => false
def chkL (c : Ct) : Exs → List Expr → Bool
  | .nil, [] => true
  | .cons e es, x :: xs => notStar x && chkE c e x && chkL c es xs
  | _, _ => false
def chkT (c : Ct) : Ts → Expr → Bool
  | .nott t, .UnaryOp .Not x _ => chkT c t x
  | .and a b, .BoolOp .And (x :: y :: r) p => chkT c a x && (match r with
    | [] => chkT c b y
    | z :: r => chkT c b (.BoolOp .And (y :: z :: r) p))
  | .or a b, .BoolOp .Or (x :: y :: r) p => chkT c a x && (match r with
    | [] => chkT c b y
    | z :: r => chkT c b (.BoolOp .Or (y :: z :: r) p))
  | .val (.cmp op a b), .Compare x [op'] [y] _ => decide (op = op') && notSet y && chkE c a x && chkE c b y
  | .val (.cmp2 o1 o2 a b d), .Compare x [p1, p2] [y, z] _ => decide (o1 = p1) && decide (o2 = p2) && notSet z && chkE c a x && chkE c b y && chkE c d z
  | .val e, x => plainTest x && chkE c e x
  | _, _ => false
def chkF (c : Ct) : Tss → List Expr → Bool
  | .nil, [] => true
  | .cons t .nil, [x] => chkT c t x
  | _, _ => false
def chkI (c : Ct) : Rc.It → Expr → Expr → Bool
  | .rng1 a, _, .Call (.Name x _) [y] [] _ => decide (x = "range") && isGlo c.sc x && notStar y && chkE c a y
  | .rng2 a b, _, .Call (.Name x _) [y, z] [] _ => decide (x = "range") && isGlo c.sc x && notStar y && notStar z && chkE c a y && chkE c b z
  | .enumS a, .Tuple _ _ _, .Call (.Name x _) [y] [] _ => decide (x = "enumerate") && isGlo c.sc x && notStar y && chkE c a y
  | .seq e, _, x => chkE c e x
  | _, _, _ => false
end
end

/-! ### where one stands -/
structure At (X : Cx) (c : Ct) (F : Fx) (W : Wd) : Prop where
  hot : match c.hot with
    | none => X.calm = true
    | some i => HotX X F W i
  units : X.A.units + 65 < cLine
  nd : X.N.Nodup
  n : X.N = c.N
  kind : X.env.scope.kind = .function
  loc : ∀ x, c.sc.names.lookup x = some .local → X.env.scope.names.lookup x = some .local
  cel : ∀ x, c.sc.names.lookup x = some .cell → X.env.scope.names.lookup x = some .cell ∧ X.fn x = true
  fre : ∀ x, c.sc.names.lookup x = some .free → X.env.scope.names.lookup x = some .cell ∨ X.env.scope.names.lookup x = some .free
  glo : ∀ x, c.sc.names.lookup x = some .globalImplicit → Gl X x
  pn : ∀ p ∈ F.P.l, p.1 ∈ c.pn
/-- what the module holds -/
structure Gb (X : Cx) (T : Tab) (W : Wd) : Prop where
  fns : X.calm = true → ∀ f x m, T.fns f = some (x, m) → W.lm f = m ∧ ∃ (k : Nat) (fa : Addr) (fd : FuncData) (ps : List Str), X.mg x = some (.ref fa) ∧ PySem.W.keepIn X.K (.ref fa) = true ∧ ps.length = m.length ∧ Binds X.K fd ps [] ∧ Room k X.A ∧
    FnOk X.prog X.w X.K X.mg X.base (L2.CX X.prog X.w) k fa fd ps (spOf X.K X.mg ps.length (W.Γ f))
  blt : ∀ x ∈ biNames, X.mg x = none
  cons : ∀ g x, T.cons g = some x → ∃ (v : V) (u : Value), X.mg x = some u ∧ RelV v u ∧ ∀ G, Dq X.K G v (W.C g)
  xk : XKit X.K X.mg
  xs : ∀ z, T.xs z = true → ∃ u, CU X.mg z u
  xr : X.calm = true → ∀ z, T.xr z = true → ∃ C, XcOk X z C
theorem HotX.imp {X : Cx} {F F' : Fx} {W : Wd} {i : Nat} (h : HotX X F W i) (e : F'.P = F.P) : HotX X F' W i := by
  obtain ⟨X0, a, oe, cls, d, pn, z, h1, h2, h3, h4, h5, h6, h7, h8⟩ := h.ex
  exact ⟨X0, a, oe, cls, d, pn, z, h1, h2, h3, h4, by rw [e]; exact h5, h6, h7, by
    cases d with
    | none => exact h8
    | some dd => rw [e]; exact h8⟩
theorem At.hot_imp {X : Cx} {c : Ct} {F F' : Fx} {W : Wd} (h : At X c F W) (e : F'.P = F.P) : match c.hot with
    | none => X.calm = true
    | some i => HotX X F' W i := by
  have := h.hot
  generalize c.hot = o at this ⊢
  cases o with
  | none => exact this
  | some i => exact HotX.imp this e
theorem hot_none {c : Ct} (q : hotN c = true) : c.hot = none := by
  unfold hotN at q
  generalize c.hot = o at q ⊢
  cases o with
  | none => rfl
  | some i => cases q
theorem At.calm {X : Cx} {c : Ct} {F : Fx} {W : Wd} (h : At X c F W) (q : hotN c = true) : X.calm = true := by
  have := h.hot
  rw [hot_none q] at this
  exact this
theorem At.hotx {X : Cx} {c : Ct} {F : Fx} {W : Wd} {i : Nat} (h : At X c F W) (q : c.hot = some i) : HotX X F W i := by
  have := h.hot
  rw [q] at this
  exact this
theorem At.imp {X : Cx} {c : Ct} {F F' : Fx} {W : Wd} (h : At X c F W) (e : F'.P = F.P) : At X c F' W := ⟨h.hot_imp e, h.units, h.nd, h.n, h.kind, h.loc, h.cel, h.fre, h.glo, by rw [e]; exact h.pn⟩
theorem lookup_map {f : Str × NameKind → NameKind} : ∀ {names : List (Str × NameKind)} {x : Str} {k : NameKind}, names.lookup x = some k → (names.map fun y => (y.1, f y)).lookup x = some (f (x, k))
  | [], x, k, h => by simp at h
  | (n, q) :: r, x, k, h => by
    rw [List.map_cons, List.lookup_cons]
    rw [List.lookup_cons] at h
    cases e : x == n with
    | true =>
      rw [e] at h
      cases h
      have e' : x = n := by simpa using e
      rw [e']
    | false =>
      rw [e] at h
      exact lookup_map h
theorem relabel_lookup {scope : Scope} {env : PySem.Env} {x : Str} {k : NameKind} (h : scope.names.lookup x = some k) :
    (relabel scope env).names.lookup x = some (if (k == .free && env.scope.kind == .function && env.kindOf x == some .cell) then .cell else k) := by
  have q := lookup_map (f := fun y => if (y.2 == .free && env.scope.kind == .function && env.kindOf y.1 == some .cell) then .cell else y.2) h
  have e : (relabel scope env).names = scope.names.map fun y => (y.1, if (y.2 == .free && env.scope.kind == .function && env.kindOf y.1 == some .cell) then .cell else y.2) := by
    show (scope.names.map _) = _
    apply List.map_congr_left
    rintro ⟨n, q⟩ _
    dsimp only
    split <;> rfl
  rw [e, q]
theorem At.blk {X : Cx} {c : Ct} {F F' : Fx} {W : Wd} {s : Shared} {H : Hp} {scope : Scope} {C : Addr} {cl : List (Str × Addr)} {fp : List Addr} (h : At X c F W) (q : hotN c = true) (hk : scope.kind = .function) (e : F'.P = F.P) : At (Blk X s H scope C cl fp) ⟨c.N, scope, c.pn, none⟩ F' W := by
  refine ⟨h.calm q, h.units, h.nd, h.n, hk, fun x q => ?_, fun x q => ⟨?_, ?_⟩, fun x q => ?_, fun x q => ?_, by rw [e]; exact h.pn⟩
  · have := relabel_lookup (env := X.env) q
    exact this
  · have := relabel_lookup (env := X.env) q
    exact this
  · show (scope.names.lookup x == some .cell) = true
    rw [q]
    rfl
  · have z := relabel_lookup (env := X.env) q
    by_cases hc : (NameKind.free == .free && X.env.scope.kind == .function && X.env.kindOf x == some .cell) = true
    · rw [if_pos hc] at z
      exact .inl z
    · rw [if_neg hc] at z
      exact .inr z
  · have := relabel_lookup (env := X.env) q
    exact this
theorem Gb.blk {X : Cx} {T : Tab} {W : Wd} {s : Shared} {H : Hp} {scope : Scope} {C : Addr} {cl : List (Str × Addr)} {fp : List Addr} (g : Gb X T W) : Gb (Blk X s H scope C cl fp) T W := ⟨g.fns, g.blt, g.cons, g.xk, g.xs, fun hc z q => (g.xr hc z q).imp fun C k => ⟨k.oex, k.mg, k.ini⟩⟩
theorem b2 {a b : Bool} (h : (a && b) = true) : a = true ∧ b = true := by simpa using h
section
variable {X : Cx} {c : Ct} {F : Fx} {T : Tab} {W : Wd}
theorem At.vis (h : At X c F W) {x : Str} (v : isVis c.sc x = true) : Vis X.env.scope x := by
  unfold isVis at v
  split at v
  · exact .inl (h.loc x (by assumption))
  · exact .inr (.inl (h.cel x (by assumption)).1)
  · exact .inr ((h.fre x (by assumption)))
  · cases v
theorem At.gl (h : At X c F W) {x : Str} (v : isGlo c.sc x = true) : Gl X x := by
  unfold isGlo at v
  split at v
  · exact h.glo x (by assumption)
  · cases v
theorem nm_of {x : Str} (h : nmOk x = true) : (x == ("__debug__" : Str)) = false ∧ (x == ("__classdict__" : Str)) = false ∧ x ≠ "__name__" := by
  unfold nmOk at h
  simp only [Bool.and_eq_true, Bool.not_eq_true'] at h
  exact ⟨h.1, h.2.1, fun e => by have := h.2.2; rw [e] at this; simp at this⟩
theorem At.slot (h : At X c F W) {i : Nat} {x : Str} (q : slotOk c i x = true) : X.N[i]? = some x ∧ (x == ("__debug__" : Str)) = false ∧ (x == ("__classdict__" : Str)) = false := by
  obtain ⟨q1, q2⟩ := b2 q
  obtain ⟨n1, n2, _⟩ := nm_of q2
  exact ⟨by rw [h.n]; exact of_decide_eq_true q1, n1, n2⟩
theorem star_of {e : Expr} {es : List Expr} {env : PySem.Env} (h : notStar e = true) : starEach (e :: es) env = (false, eval e env) :: starEach es env := by
  cases e <;> first
    | rfl
    | exact absurd h Bool.false_ne_true
theorem notSet_marks {op : CmpOp} {e : Expr} (h : notSet e = true) : behindInMarks op e = false := by
  cases e <;> first
    | rfl
    | exact absurd h Bool.false_ne_true
theorem notSet_fold {e : Expr} {env : PySem.Env} (h : notSet e = true) : ∀ x, foldedSetIterable e env x = pure x := by
  intro x
  cases e <;> first
    | rfl
    | exact absurd h Bool.false_ne_true
theorem notSlice_plain {e : Expr} (h : notSlice e = true) : PlainIx e := by
  intro o i
  cases e <;> first
    | rfl
    | exact absurd h Bool.false_ne_true
theorem plain_test {e : Expr} {env : PySem.Env} (h : plainTest e = true) : ∀ whole, isTrue e env whole = (do let v ← whole; standAt e.pos; holding [v] (truthy v)) := by
  intro whole
  cases e with
  | UnaryOp op x p => cases op <;> first
      | rfl
      | exact absurd h Bool.false_ne_true
  | _ => first
      | rfl
      | exact absurd h Bool.false_ne_true
theorem At.tgt (h : At X c F W) {i : Nat} {x : Str} (q : tgtOk c i x = true) : TgOk X F i x := by
  obtain ⟨q1, q3⟩ := b2 q
  obtain ⟨q1, q2⟩ := b2 q1
  have hpn : i ∉ c.pn := by
    intro hm
    rw [List.contains_eq_mem, decide_eq_true hm] at q3
    cases q3
  have hl : Loc X.env.scope x ∧ (X.fn x = true ∨ X.env.scope.names.lookup x = some .local) := by
    unfold isLC at q2
    split at q2
    · have z := h.loc x (by assumption)
      exact ⟨.inl z, .inr z⟩
    · have z := h.cel x (by assumption)
      exact ⟨.inr z.1, .inl z.2⟩
    · cases q2
  exact ⟨by rw [h.n]; exact of_decide_eq_true q1, hl.1, hl.2, fun p hp e => hpn (e ▸ h.pn p hp)⟩
theorem At.tgts (h : At X c F W) : ∀ {is : List Nat} {es : List Expr}, tgtsOk c is es = true → TgsOk X F is es
  | [], [], _ => .nil
  | [], e :: es, q => absurd q Bool.false_ne_true
  | i :: is, [], q => absurd q Bool.false_ne_true
  | i :: is, e :: es, q => by
    cases e with
    | Name x p =>
      obtain ⟨q1, q2⟩ := b2 (show (tgtOk c i x && tgtsOk c is es) = true from q)
      exact .cons (h.tgt q1) (h.tgts q2)
    | _ => exact absurd q Bool.false_ne_true
theorem At.tg (h : At X c F W) {tg : Tg} {e : Expr} (q : chkTg c tg e = true) : PG X e (tG X.K F tg) := by
  cases tg with
  | nm i =>
    cases e with
    | Name x p => exact tg_nm h.nd (h.tgt q)
    | _ => exact absurd q Bool.false_ne_true
  | tp is =>
    cases e with
    | Tuple es k p =>
      obtain ⟨q1, q2⟩ := b2 (show (hotN c && tgtsOk c is es) = true from q)
      exact tg_tp (h.calm q1) h.nd (h.tgts q2)
    | _ => exact absurd q Bool.false_ne_true
theorem At.blkOk (h : At X c F W) {scope : Scope} {own : List (Str × Nat)} (q : blkC c.N c.sc scope own = true) : BlkOk X.N X.env.scope scope own := by
  have b := blkOk_by q
  refine ⟨b.kind, b.uniq, by rw [h.n]; exact b.ix, fun y hy e => ?_, by rw [h.n]; exact b.own⟩
  rcases b.free y hy e with z | z
  · exact .inl (h.cel _ z).1
  · exact h.fre _ z
theorem At.sep (h : At X c F W) {own : List Nat} (q : sepB c.pn own = true) : ∀ p ∈ F.P.l, p.1 ∉ own := fun p hp hm => by
  have z := List.all_eq_true.mp q p.1 (h.pn p hp)
  rw [List.contains_eq_mem, decide_eq_true hm] at z
  cases z
theorem sub_of {a b : List Nat} (q : subB a b = true) : ∀ j ∈ a, j ∈ b := fun j hj => by
  have z := List.all_eq_true.mp q j hj
  rw [List.contains_eq_mem] at z
  exact of_decide_eq_true z
theorem bi_boot (b : Bi) : bootBuiltins (biName b) = some (biVal b) := by cases b <;> decide +kernel
theorem bi_mem (b : Bi) : biName b ∈ biNames := by cases b <;> decide +kernel
theorem bi_ne (b : Bi) : biName b ≠ "__name__" ∧ (biName b == ("__debug__" : Str)) = false := by cases b <;> exact ⟨by decide +kernel, by decide +kernel⟩
theorem ty_boot {t : String} (h : t ∈ isTys) : bootBuiltins (tyName t) = some (.type t) ∧ tyName t ∈ biNames ∧ tyName t ≠ "__name__" ∧ (tyName t == ("__debug__" : Str)) = false := by
  simp only [isTys, List.mem_cons, List.not_mem_nil, or_false] at h
  rcases h with rfl | rfl | rfl | rfl | rfl <;> exact ⟨by decide +kernel, by decide +kernel, by decide +kernel, by decide +kernel⟩
theorem backTo_plain {pos : Pos} {env : PySem.Env} : ∀ {es : Exs} {xs : List Expr}, chkL T c es xs = true → (backTo pos (starEach xs env)).any (·.1) = false
  | .nil, [], _ => rfl
  | .nil, _ :: _, h => absurd h Bool.false_ne_true
  | .cons e es, [], h => absurd h Bool.false_ne_true
  | .cons e es, x :: xs, h => by
    obtain ⟨h1, h3⟩ := b2 (show (notStar x && chkE T c e x && chkL T c es xs) = true from h)
    obtain ⟨h1, h2⟩ := b2 h1
    rw [star_of h1]
    show (false || (backTo pos (starEach xs env)).any (·.1)) = false
    rw [backTo_plain h3]
    rfl
end
/-- an argument list with nothing in it -/
theorem exs_nil_of {T : Tab} {c : Ct} {es : Exs} (h : chkL T c es [] = true) : es = .nil := by
  cases es with
  | nil => rfl
  | cons e es => exact absurd h Bool.false_ne_true
end Rc

set_option Elab.async false
set_option linter.all false
set_option maxRecDepth 100000
set_option maxHeartbeats 8000000
namespace Rc
open PySem PySem.Spec PyProof.Rows L2
theorem pw_one {X : Cx} {e : Expr} {t : TT} {op : BoolOp} {pos : Pos} (h : PT X e t) : PW X (.BoolOp op [e] pos) t := by
  cases op with
  | And => exact pw_and1 h
  | Or => exact pw_or1 h
theorem evF_one {X : Cx} {F : Fx} {W : Wd} {e : Expr} {t : Ts} (h : PTv X F W e t) : PTs X [e] (tT X.K F (evF W (.cons t .nil))) := pts_of fun σ H Q q => by
  obtain ⟨G, ρ, rel, post⟩ := q
  obtain ⟨b, ρ1, e1, post_⟩ := Post.bind post
  refine ⟨_, pts_one h, tT_in rel e1 fun G1 H1 s1 rel1 => ?_⟩
  cases b with
  | true => exact post_ G1 H1 s1 rel1
  | false => exact post_ G1 H1 s1 rel1
theorem evF_nil {X : Cx} {F : Fx} {W : Wd} : PTs X [] (tT X.K F (evF W .nil)) := pts_of fun σ H Q q => by
  obtain ⟨G, ρ, rel, post⟩ := q
  exact ⟨_, pts_nil, post G H (Same.refl _) rel⟩
section
variable {T : Tab} {W : Wd}
mutual
theorem sE : ∀ (d : Ex) {X : Cx} {c : Ct} {F : Fx} {e : Expr}, At X c F W → Gb X T W → chkE T c d e = true → PEv X F W e d
  | .var i, X, c, F, e, a, g, h => by
    cases e with
    | Name x p =>
      obtain ⟨h1, h2⟩ := b2 h
      obtain ⟨q1, q2, q3⟩ := a.slot h1
      exact ev_var q1 (a.vis h2) q2 q3
    | _ => exact absurd h Bool.false_ne_true
  | .int n, X, c, F, e, a, g, h => by
    cases e with
    | Constant v k p =>
      cases v with
      | int m => cases of_decide_eq_true (show decide (n = m) = true from h); exact ev_int
      | _ => exact absurd h Bool.false_ne_true
    | _ => exact absurd h Bool.false_ne_true
  | .str n, X, c, F, e, a, g, h => by
    cases e with
    | Constant v k p =>
      cases v with
      | str m => cases of_decide_eq_true (show decide (n = m) = true from h); exact ev_str
      | _ => exact absurd h Bool.false_ne_true
    | _ => exact absurd h Bool.false_ne_true
  | .bl n, X, c, F, e, a, g, h => by
    cases e with
    | Constant v k p =>
      cases v with
      | bool m => cases of_decide_eq_true (show decide (n = m) = true from h); exact ev_bl
      | _ => exact absurd h Bool.false_ne_true
    | _ => exact absurd h Bool.false_ne_true
  | .non, X, c, F, e, a, g, h => by
    cases e with
    | Constant v k p =>
      cases v with
      | none => exact ev_non
      | _ => exact absurd h Bool.false_ne_true
    | _ => exact absurd h Bool.false_ne_true
  | .glob i, X, c, F, e, a, g, h => by
    cases e with
    | Name x p =>
      obtain ⟨h1, h3⟩ := b2 h
      obtain ⟨h1, h2⟩ := b2 h1
      obtain ⟨v, u, g1, g2, g3⟩ := g.cons i x (of_decide_eq_true h1)
      exact ev_glob (a.gl h3) g1 g2 g3 (nm_of h2).1
    | _ => exact absurd h Bool.false_ne_true
  | .bin op u v, X, c, F, e, a, g, h => by
    cases e with
    | BinOp x op' y p =>
      obtain ⟨h1, h3⟩ := b2 h
      obtain ⟨h1, h2⟩ := b2 h1
      cases of_decide_eq_true h1
      exact ev_bin (sE u a g h2) (sE v a g h3)
    | _ => exact absurd h Bool.false_ne_true
  | .neg u, X, c, F, e, a, g, h => by
    cases e with
    | UnaryOp op x p =>
      cases op with
      | USub => exact ev_neg (sE u a g h)
      | _ => exact absurd h Bool.false_ne_true
    | _ => exact absurd h Bool.false_ne_true
  | .nott u, X, c, F, e, a, g, h => by
    cases e with
    | UnaryOp op x p =>
      cases op with
      | Not => exact ev_nott (sE u a g h)
      | _ => exact absurd h Bool.false_ne_true
    | _ => exact absurd h Bool.false_ne_true
  | .and u v, X, c, F, e, a, g, h => by
    cases e with
    | BoolOp op xs p =>
      cases op with
      | And =>
        rcases xs with _ | ⟨x, _ | ⟨y, _ | ⟨z, r⟩⟩⟩
        · exact absurd h Bool.false_ne_true
        · exact absurd h Bool.false_ne_true
        · obtain ⟨h1, h2⟩ := b2 (show (chkE T c u x && chkE T c v y) = true from h)
          exact ev_and (sE u a g h1) (pe_one (sE v a g h2))
        · obtain ⟨h1, h2⟩ := b2 (show (chkE T c u x && chkE T c v (.BoolOp .And (y :: z :: r) p)) = true from h)
          exact ev_and (sE u a g h1) (sE v a g h2)
      | Or => exact absurd h Bool.false_ne_true
    | _ => exact absurd h Bool.false_ne_true
  | .or u v, X, c, F, e, a, g, h => by
    cases e with
    | BoolOp op xs p =>
      cases op with
      | Or =>
        rcases xs with _ | ⟨x, _ | ⟨y, _ | ⟨z, r⟩⟩⟩
        · exact absurd h Bool.false_ne_true
        · exact absurd h Bool.false_ne_true
        · obtain ⟨h1, h2⟩ := b2 (show (chkE T c u x && chkE T c v y) = true from h)
          exact ev_or (sE u a g h1) (pe_one (sE v a g h2))
        · obtain ⟨h1, h2⟩ := b2 (show (chkE T c u x && chkE T c v (.BoolOp .Or (y :: z :: r) p)) = true from h)
          exact ev_or (sE u a g h1) (sE v a g h2)
      | And => exact absurd h Bool.false_ne_true
    | _ => exact absurd h Bool.false_ne_true
  | .cmp op u v, X, c, F, e, a, g, h => by
    cases e with
    | Compare x ops ys p =>
      rcases ops with _ | ⟨o, _ | ⟨o2, ops⟩⟩ <;> rcases ys with _ | ⟨y, _ | ⟨y2, ys⟩⟩ <;> first
        | exact absurd h Bool.false_ne_true
        | skip
      obtain ⟨h1, h4⟩ := b2 (show (decide (op = o) && notSet y && chkE T c u x && chkE T c v y) = true from h)
      obtain ⟨h1, h3⟩ := b2 h1
      obtain ⟨h1, h2⟩ := b2 h1
      cases of_decide_eq_true h1
      exact ev_cmp a.units (sE u a g h3) (sE v a g h4) (notSet_marks h2)
    | _ => exact absurd h Bool.false_ne_true
  | .cmp2 o1 o2 u v w, X, c, F, e, a, g, h => by
    cases e with
    | Compare x ops ys p =>
      rcases ops with _ | ⟨p1, _ | ⟨p2, _ | ⟨p3, ops⟩⟩⟩ <;> rcases ys with _ | ⟨y, _ | ⟨z, _ | ⟨y3, ys⟩⟩⟩ <;> first
        | exact absurd h Bool.false_ne_true
        | skip
      obtain ⟨h1, h6⟩ := b2 (show (decide (o1 = p1) && decide (o2 = p2) && notSet z && chkE T c u x && chkE T c v y && chkE T c w z) = true from h)
      obtain ⟨h1, h5⟩ := b2 h1
      obtain ⟨h1, h4⟩ := b2 h1
      obtain ⟨h1, h3⟩ := b2 h1
      obtain ⟨h1, h2⟩ := b2 h1
      cases of_decide_eq_true h1
      cases of_decide_eq_true h2
      exact ev_cmp2 a.units (sE u a g h4) (sE v a g h5) (sE w a g h6) (notSet_marks h3)
    | _ => exact absurd h Bool.false_ne_true
  | .ite t u v, X, c, F, e, a, g, h => by
    cases e with
    | IfExp s x y p =>
      obtain ⟨h1, h3⟩ := b2 h
      obtain ⟨h1, h2⟩ := b2 h1
      exact ev_ite (sT t a g h1) (sE u a g h2) (sE v a g h3)
    | _ => exact absurd h Bool.false_ne_true
  | .tup es, X, c, F, e, a, g, h => by
    cases e with
    | Tuple xs k p =>
      obtain ⟨h1, h2⟩ := b2 h
      exact ev_tup (sL es a g h2) (Nat.le_trans (of_decide_eq_true h1) (by decide))
    | _ => exact absurd h Bool.false_ne_true
  | .lst es, X, c, F, e, a, g, h => by
    cases e with
    | List xs p =>
      obtain ⟨h1, h2⟩ := b2 h
      exact ev_lst (sL es a g h2) (Nat.le_trans (of_decide_eq_true h1) (by decide))
    | _ => exact absurd h Bool.false_ne_true
  | .sub u v, X, c, F, e, a, g, h => by
    cases e with
    | Subscript x y p =>
      have h : (notSlice y && chkE T c u x && chkE T c v y) = true := by
        cases y <;> exact h
      obtain ⟨h1, h3⟩ := b2 h
      obtain ⟨h1, h2⟩ := b2 h1
      exact ev_sub (sE u a g h2) (sE v a g h3) (notSlice_plain h1)
    | _ => exact absurd h Bool.false_ne_true
  | .slc u v w, X, c, F, e, a, g, h => by
    cases e with
    | Subscript x y p =>
      cases y with
      | Slice l hi st q =>
        cases l <;> cases hi <;> cases st <;> first
          | exact absurd h Bool.false_ne_true
          | skip
        obtain ⟨h1, h3⟩ := b2 h
        obtain ⟨h1, h2⟩ := b2 h1
        exact ev_slc (sE u a g h1) (sE v a g h2) (sE w a g h3)
      | _ => exact absurd h Bool.false_ne_true
    | _ => exact absurd h Bool.false_ne_true
  | .slcL u v, X, c, F, e, a, g, h => by
    cases e with
    | Subscript x y p =>
      cases y with
      | Slice l hi st q =>
        cases l <;> cases hi <;> cases st <;> first
          | exact absurd h Bool.false_ne_true
          | skip
        obtain ⟨h1, h2⟩ := b2 h
        exact ev_slcL (sE u a g h1) (sE v a g h2)
      | _ => exact absurd h Bool.false_ne_true
    | _ => exact absurd h Bool.false_ne_true
  | .slcH u v, X, c, F, e, a, g, h => by
    cases e with
    | Subscript x y p =>
      cases y with
      | Slice l hi st q =>
        cases l <;> cases hi <;> cases st <;> first
          | exact absurd h Bool.false_ne_true
          | skip
        obtain ⟨h1, h2⟩ := b2 h
        exact ev_slcH (sE u a g h1) (sE v a g h2)
      | _ => exact absurd h Bool.false_ne_true
    | _ => exact absurd h Bool.false_ne_true
  | .rev u, X, c, F, e, a, g, h => by
    cases e with
    | Subscript x y p =>
      cases y with
      | Slice l hi st q =>
        cases l <;> cases hi <;> cases st <;> first
          | exact absurd h Bool.false_ne_true
          | skip
        rename_i st
        cases st with
        | UnaryOp op z q2 =>
          cases op <;> first
            | exact absurd h Bool.false_ne_true
            | skip
          cases z with
          | Constant v k q3 =>
            cases v with
            | int m =>
              obtain ⟨h1, h2⟩ := b2 (show (decide (m = 1) && chkE T c u x) = true from h)
              cases of_decide_eq_true h1
              exact ev_rev (sE u a g h2)
            | _ => exact absurd h Bool.false_ne_true
          | _ => exact absurd h Bool.false_ne_true
        | _ => exact absurd h Bool.false_ne_true
      | _ => exact absurd h Bool.false_ne_true
    | _ => exact absurd h Bool.false_ne_true
  | .call f es, X, c, F, e, a, g, h => by
    cases e with
    | Call fe xs kw p =>
      cases kw with
      | cons k ks => cases fe <;> exact absurd h Bool.false_ne_true
      | nil =>
      cases fe with
      | Name x q =>
        have h : (hotN c && (match T.fns f with
          | some (y, m) => decide (x = y) && decide (es.len = m.length)
          | none => false) && nmOk x && isGlo c.sc x && chkL T c es xs) = true := h
        obtain ⟨h1, h4⟩ := b2 h
        obtain ⟨h1, h3⟩ := b2 h1
        obtain ⟨h1, h2⟩ := b2 h1
        obtain ⟨h0, h1⟩ := b2 h1
        cases ef : T.fns f with
        | none => rw [ef] at h1; exact absurd h1 Bool.false_ne_true
        | some ym =>
          obtain ⟨y, m⟩ := ym
          rw [ef] at h1
          obtain ⟨h1, h5⟩ := b2 h1
          cases of_decide_eq_true h1
          have h5 := of_decide_eq_true h5
          obtain ⟨hm, k, fa, fd, ps, g1, g2, g3, g4, g5, g6⟩ := g.fns (a.calm h0) f x m ef
          cases es with
          | nil =>
            cases xs with
            | cons z zs => exact absurd h4 Bool.false_ne_true
            | nil =>
              have e0 : ps = [] := List.eq_nil_of_length_eq_zero (by rw [g3, ← h5]; rfl)
              subst e0
              exact ev_call0 g6 g5 (a.gl h3) g1 g2 g4 (nm_of h2).1
          | cons d ds =>
            cases xs with
            | nil => exact absurd h4 Bool.false_ne_true
            | cons z zs =>
              have h4' := h4
              obtain ⟨k1, k3⟩ := b2 (show (notStar z && chkE T c d z && chkL T c ds zs) = true from h4)
              obtain ⟨k1, k2⟩ := b2 k1
              exact ev_call g6 g5 (a.gl h3) g1 g2 g4 (by rw [h5, g3]) (evC_cons (sE d a g k2) (fun F' e => sC ds (a.imp e) g k3) (star_of k1)) (nm_of h2).1 (star_of k1) (backTo_plain k3)
      | _ => exact absurd h Bool.false_ne_true
    | _ => exact absurd h Bool.false_ne_true
  | .bi b es, X, c, F, e, a, g, h => by
    cases e with
    | Call fe xs kw p =>
      cases kw with
      | cons k ks => cases fe <;> cases xs <;> exact absurd h Bool.false_ne_true
      | nil =>
      cases fe with
      | Name x q =>
        cases xs with
        | nil => exact absurd h Bool.false_ne_true
        | cons z zs =>
          obtain ⟨h1, h3⟩ := b2 (show (hotN c && decide (biName b = x) && isGlo c.sc x && chkL T c es (z :: zs)) = true from h)
          obtain ⟨h1, h2⟩ := b2 h1
          obtain ⟨h0, h1⟩ := b2 h1
          cases of_decide_eq_true h1
          cases es with
          | nil => exact absurd h3 Bool.false_ne_true
          | cons d ds =>
            obtain ⟨k1, k3⟩ := b2 (show (notStar z && chkE T c d z && chkL T c ds zs) = true from h3)
            obtain ⟨k1, k2⟩ := b2 k1
            exact bi_call (a.calm h0) (evR_cons (sE d a g k2) (sR ds a g k3) (star_of k1)) (a.gl h2) (g.blt _ (bi_mem b)) (bi_boot b) (bi_ne b).1 (bi_ne b).2 (star_of k1) (backTo_plain k3)
      | _ => exact absurd h Bool.false_ne_true
    | _ => exact absurd h Bool.false_ne_true
  | .isi u t, X, c, F, e, a, g, h => by
    cases e with
    | Call fe xs kw p =>
      cases kw with
      | cons k ks => cases fe <;> first
          | exact absurd h Bool.false_ne_true
          | (rcases xs with _ | ⟨y, _ | ⟨z, _ | ⟨w, xs⟩⟩⟩ <;> first
            | exact absurd h Bool.false_ne_true
            | (cases z <;> exact absurd h Bool.false_ne_true))
      | nil =>
      cases fe with
      | Name x q =>
        rcases xs with _ | ⟨y, _ | ⟨z, _ | ⟨w, xs⟩⟩⟩
        · exact absurd h Bool.false_ne_true
        · exact absurd h Bool.false_ne_true
        · cases z with
          | Name z q2 =>
            obtain ⟨h1, h7⟩ := b2 (show (decide (x = "isinstance") && isGlo c.sc x && decide (z = tyName t) && isTys.contains t && isGlo c.sc z && notStar y && chkE T c u y) = true from h)
            obtain ⟨h1, h6⟩ := b2 h1
            obtain ⟨h1, h5⟩ := b2 h1
            obtain ⟨h1, h4⟩ := b2 h1
            obtain ⟨h1, h3⟩ := b2 h1
            obtain ⟨h1, h2⟩ := b2 h1
            cases of_decide_eq_true h1
            cases of_decide_eq_true h3
            have ht : t ∈ isTys := by
              rw [List.contains_eq_mem] at h4
              exact of_decide_eq_true h4
            obtain ⟨t1, t2, t3, t4⟩ := ty_boot ht
            exact ev_isi ht (sE u a g h7) (a.gl h2) (g.blt _ (by decide +kernel)) (a.gl h5) (g.blt _ t2) t1 t3 t4 (star_of h6)
          | _ => exact absurd h Bool.false_ne_true
        · cases z <;> exact absurd h Bool.false_ne_true
      | _ => exact absurd h Bool.false_ne_true
    | _ => exact absurd h Bool.false_ne_true
  | .pm m u es, X, c, F, e, a, g, h => by
    rcases es with _ | ⟨d, _ | ⟨d2, es⟩⟩
    · cases e <;> exact absurd h Bool.false_ne_true
    · cases e with
      | Call fe xs kw p =>
        cases kw with
        | cons k ks =>
          cases fe <;> first
            | exact absurd h Bool.false_ne_true
            | (rcases xs with _ | ⟨y, _ | ⟨z, xs⟩⟩ <;> exact absurd h Bool.false_ne_true)
        | nil =>
        cases fe with
        | Attribute o n ap =>
          rcases xs with _ | ⟨y, _ | ⟨z, xs⟩⟩
          · exact absurd h Bool.false_ne_true
          · obtain ⟨h1, h6⟩ := b2 (show (decide (n = pmName m) && (ap.endLine == p.line) && objOk o && notStar y && chkE T c u o && chkE T c d y) = true from h)
            obtain ⟨h1, h5⟩ := b2 h1
            obtain ⟨h1, h4⟩ := b2 h1
            obtain ⟨h1, h3⟩ := b2 h1
            obtain ⟨h1, h2⟩ := b2 h1
            cases of_decide_eq_true h1
            exact ev_pm (sE u a g h5) (sE d a g h6) (fun n => objOk_base h3 _ n _) (star_of h4) h2
          · exact absurd h Bool.false_ne_true
        | _ => exact absurd h Bool.false_ne_true
      | _ => exact absurd h Bool.false_ne_true
    · cases e <;> exact absurd h Bool.false_ne_true
  | .mu m i es, X, c, F, e, a, g, h => by
    cases e with
    | Call fe xs kw p =>
      cases kw with
      | cons k ks =>
        cases m <;> first
          | (cases es <;> exact absurd h Bool.false_ne_true)
          | (rcases es with _ | ⟨d, _ | ⟨d2, es⟩⟩ <;> first
            | exact absurd h Bool.false_ne_true
            | (cases fe <;> first
              | exact absurd h Bool.false_ne_true
              | (rename_i fv _ _ <;> cases fv <;> first
                | exact absurd h Bool.false_ne_true
                | (rcases xs with _ | ⟨y, _ | ⟨z, xs⟩⟩ <;> exact absurd h Bool.false_ne_true))))
      | nil =>
      cases fe with
      | Attribute o n ap =>
        cases o with
        | Name x q =>
          cases m with
          | append =>
            rcases es with _ | ⟨d, _ | ⟨d2, es⟩⟩ <;> rcases xs with _ | ⟨y, _ | ⟨z, xs⟩⟩ <;> first
              | exact absurd h Bool.false_ne_true
              | skip
            obtain ⟨h1, h6⟩ := b2 (show (decide (n = "append") && (ap.endLine == p.line) && slotOk c i x && isVis c.sc x && notStar y && chkE T c d y) = true from h)
            obtain ⟨h1, h5⟩ := b2 h1
            obtain ⟨h1, h4⟩ := b2 h1
            obtain ⟨h1, h3⟩ := b2 h1
            obtain ⟨h1, h2⟩ := b2 h1
            cases of_decide_eq_true h1
            obtain ⟨q1, q2, q3⟩ := a.slot h3
            exact mu_app q1 (a.vis h4) q2 q3 (sE d a g h6) (star_of h5) h2
          | popAt =>
            rcases es with _ | ⟨d, _ | ⟨d2, es⟩⟩ <;> rcases xs with _ | ⟨y, _ | ⟨z, xs⟩⟩ <;> first
              | exact absurd h Bool.false_ne_true
              | skip
            obtain ⟨h1, h6⟩ := b2 (show (decide (n = "pop") && (ap.endLine == p.line) && slotOk c i x && isVis c.sc x && notStar y && chkE T c d y) = true from h)
            obtain ⟨h1, h5⟩ := b2 h1
            obtain ⟨h1, h4⟩ := b2 h1
            obtain ⟨h1, h3⟩ := b2 h1
            obtain ⟨h1, h2⟩ := b2 h1
            cases of_decide_eq_true h1
            obtain ⟨q1, q2, q3⟩ := a.slot h3
            exact mu_popAt q1 (a.vis h4) q2 q3 (sE d a g h6) (star_of h5) h2
          | pop =>
            rcases es with _ | ⟨d, es⟩ <;> rcases xs with _ | ⟨y, xs⟩ <;> first
              | exact absurd h Bool.false_ne_true
              | skip
            obtain ⟨h1, h4⟩ := b2 (show (decide (n = "pop") && (ap.endLine == p.line) && slotOk c i x && isVis c.sc x) = true from h)
            obtain ⟨h1, h3⟩ := b2 h1
            obtain ⟨h1, h2⟩ := b2 h1
            cases of_decide_eq_true h1
            obtain ⟨q1, q2, q3⟩ := a.slot h3
            exact mu_pop q1 (a.vis h4) q2 q3 h2
          | extend => cases es <;> exact absurd h Bool.false_ne_true
        | _ =>
          cases m <;> first
            | (cases es <;> exact absurd h Bool.false_ne_true)
            | (rcases es with _ | ⟨d, _ | ⟨d2, es⟩⟩ <;> exact absurd h Bool.false_ne_true)
      | _ =>
        cases m <;> first
          | (cases es <;> exact absurd h Bool.false_ne_true)
          | (rcases es with _ | ⟨d, _ | ⟨d2, es⟩⟩ <;> exact absurd h Bool.false_ne_true)
    | _ =>
      cases m <;> first
        | (cases es <;> exact absurd h Bool.false_ne_true)
        | (rcases es with _ | ⟨d, _ | ⟨d2, es⟩⟩ <;> exact absurd h Bool.false_ne_true)
  | .nope, X, c, F, e, a, g, h => by cases e <;> exact absurd h Bool.false_ne_true
  | .xis i zs, X, c, F, e, a, g, h => by
    cases e with
    | Call fe xs kw p =>
      cases kw with
      | cons k ks =>
        cases fe <;> first
          | exact absurd h Bool.false_ne_true
          | (rcases xs with _ | ⟨y, _ | ⟨z, _ | ⟨w, xs⟩⟩⟩ <;> first
            | exact absurd h Bool.false_ne_true
            | (cases y <;> exact absurd h Bool.false_ne_true))
      | nil =>
      cases fe with
      | Name x q =>
        rcases xs with _ | ⟨y, _ | ⟨z, _ | ⟨w, xs⟩⟩⟩
        · exact absurd h Bool.false_ne_true
        · cases y <;> exact absurd h Bool.false_ne_true
        · cases y with
          | Name n q2 =>
            obtain ⟨h1, h6⟩ := b2 (show (decide (x = "isinstance") && isGlo c.sc x && decide (c.hot = some i) && slotOk c i n && isVis c.sc n && xisOk T c zs z) = true from h)
            obtain ⟨h1, h5⟩ := b2 h1
            obtain ⟨h1, h4⟩ := b2 h1
            obtain ⟨h1, h3⟩ := b2 h1
            obtain ⟨h1, h2⟩ := b2 h1
            cases of_decide_eq_true h1
            obtain ⟨q1, q2, q3⟩ := a.slot h4
            unfold xisOk at h6
            obtain ⟨k1, k2⟩ := b2 h6
            have hz : ∀ z ∈ zs, (∃ u, CU X.mg z u) ∧ Gl X (xname z) ∧ (xname z == ("__debug__" : Str)) = false := fun z hz => by
              have k := List.all_eq_true.mp k1 z hz
              obtain ⟨k, k5⟩ := b2 k
              obtain ⟨k3, k4⟩ := b2 k
              exact ⟨g.xs z k3, a.gl k4, by rw [Bool.not_eq_true'] at k5; exact k5⟩
            refine ev_xis (a.hotx (of_decide_eq_true h3)) g.xk q1 (a.vis h5) q2 q3 (a.gl h2) (g.blt _ (by decide +kernel)) ?_ hz
            cases z with
            | Tuple es k q =>
              obtain ⟨k3, k4⟩ := b2 (show (clsNames zs es && decide (zs.length ≤ 1000)) = true from k2)
              exact .inr ⟨es, k, q, rfl, k3, of_decide_eq_true k4⟩
            | Name y q =>
              refine .inl ?_
              rcases zs with _ | ⟨z, _ | ⟨z2, zs⟩⟩
              · cases k2
              · exact ⟨z, rfl, k2⟩
              · exfalso
                obtain ⟨_, k4⟩ := b2 (show (decide (y = xname z) && clsNames (z2 :: zs) []) = true from k2)
                cases k4
            | _ => exact absurd k2 (by cases zs <;> exact Bool.false_ne_true)
          | _ => exact absurd h Bool.false_ne_true
        · cases y <;> exact absurd h Bool.false_ne_true
      | _ => exact absurd h Bool.false_ne_true
    | _ => exact absurd h Bool.false_ne_true
  | .xfl i f, X, c, F, e, a, g, h => by
    cases e with
    | Attribute o n p =>
      cases o with
      | Name x q =>
        obtain ⟨h1, h4⟩ := b2 (show (decide (f = n) && decide (c.hot = some i) && slotOk c i x && isVis c.sc x) = true from h)
        obtain ⟨h1, h3⟩ := b2 h1
        obtain ⟨h1, h2⟩ := b2 h1
        cases of_decide_eq_true h1
        obtain ⟨q1, q2, q3⟩ := a.slot h3
        exact ev_xfl (a.hotx (of_decide_eq_true h2)) g.xk q1 (a.vis h4) q2 q3
      | _ => exact absurd h Bool.false_ne_true
    | _ => exact absurd h Bool.false_ne_true
  | .comp u tg it ifs own, X, c, F, e, a, g, h => by
    cases e with
    | ListComp x gs scope p =>
      rcases gs with _ | ⟨⟨t, iter, fs, asy⟩, _ | ⟨g2, gs⟩⟩
      · exact absurd h Bool.false_ne_true
      · by_cases h0 : asy = 0
        · subst h0
          obtain ⟨h1, h8⟩ := b2 (show (hotN c && blkC c.N c.sc scope (ownP c.N own) && sepB c.pn own && subB tg.slots own && notSet iter && chkI T c it t iter && chkTg ⟨c.N, scope, c.pn, none⟩ tg t && chkF T ⟨c.N, scope, c.pn, none⟩ ifs fs && chkE T ⟨c.N, scope, c.pn, none⟩ u x) = true from h)
          obtain ⟨h1, h7⟩ := b2 h1
          obtain ⟨h1, h6⟩ := b2 h1
          obtain ⟨h1, h5⟩ := b2 h1
          obtain ⟨h1, h4⟩ := b2 h1
          obtain ⟨h1, h3⟩ := b2 h1
          obtain ⟨h1, h2⟩ := b2 h1
          obtain ⟨h0, h1⟩ := b2 h1
          have bk := a.blkOk h1
          refine ev_comp (a.calm h0) a.nd (sI it a g h5) bk (ownP_snd _ _).symm (a.sep h2) (sub_of h3) ⟨fun F' s H C cl fp e => ?_, fun F' s H C cl fp e => ?_, fun F' s H C cl fp e => ?_⟩ (notSet_fold h4)
          · exact (a.blk h0 bk.kind e).tg h6
          · exact sF ifs (a.blk h0 bk.kind e) g.blk h7
          · exact sE u (a.blk h0 bk.kind e) g.blk h8
        · exfalso
          have : chkE T c (.comp u tg it ifs own) (.ListComp x [⟨t, iter, fs, asy⟩] scope p) = false := by
            cases asy with
            | ofNat n =>
              cases n with
              | zero => exact absurd rfl h0
              | succ n => rfl
            | negSucc n => rfl
          rw [this] at h
          cases h
      · exfalso
        have : chkE T c (.comp u tg it ifs own) (.ListComp x (⟨t, iter, fs, asy⟩ :: g2 :: gs) scope p) = false := by
          cases asy with
          | ofNat n =>
            cases n with
            | zero => rfl
            | succ n => rfl
          | negSucc n => rfl
        rw [this] at h
        cases h
    | _ => exact absurd h Bool.false_ne_true
theorem sL : ∀ (d : Exs) {X : Cx} {c : Ct} {F : Fx} {e : List Expr}, At X c F W → Gb X T W → chkL T c d e = true → PAv X F W e d
  | .nil, X, c, F, e, a, g, h => by
    cases e with
    | nil => exact evs_nil
    | cons x xs => exact absurd h Bool.false_ne_true
  | .cons u ds, X, c, F, e, a, g, h => by
    cases e with
    | nil => exact absurd h Bool.false_ne_true
    | cons x xs =>
      obtain ⟨h1, h3⟩ := b2 (show (notStar x && chkE T c u x && chkL T c ds xs) = true from h)
      obtain ⟨h1, h2⟩ := b2 h1
      exact evs_cons (sE u a g h2) (sL ds a g h3) (star_of h1)
theorem sR : ∀ (d : Exs) {X : Cx} {c : Ct} {F : Fx} {e : List Expr}, At X c F W → Gb X T W → chkL T c d e = true → PRv X F W e d
  | .nil, X, c, F, e, a, g, h => by
    cases e with
    | nil => exact evR_nil
    | cons x xs => exact absurd h Bool.false_ne_true
  | .cons u ds, X, c, F, e, a, g, h => by
    cases e with
    | nil => exact absurd h Bool.false_ne_true
    | cons x xs =>
      obtain ⟨h1, h3⟩ := b2 (show (notStar x && chkE T c u x && chkL T c ds xs) = true from h)
      obtain ⟨h1, h2⟩ := b2 h1
      exact evR_cons (sE u a g h2) (sR ds a g h3) (star_of h1)
theorem sC : ∀ (d : Exs) {m : List Bool} {X : Cx} {c : Ct} {F : Fx} {e : List Expr}, At X c F W → Gb X T W → chkL T c d e = true → PCv X F W e d m
  | .nil, m, X, c, F, e, a, g, h => by
    cases e with
    | nil => exact evC_nil
    | cons x xs => exact absurd h Bool.false_ne_true
  | .cons u ds, m, X, c, F, e, a, g, h => by
    cases e with
    | nil => exact absurd h Bool.false_ne_true
    | cons x xs =>
      obtain ⟨h1, h3⟩ := b2 (show (notStar x && chkE T c u x && chkL T c ds xs) = true from h)
      obtain ⟨h1, h2⟩ := b2 h1
      exact evC_cons (sE u a g h2) (fun F' e => sC ds (a.imp e) g h3) (star_of h1)
theorem sT : ∀ (d : Ts) {X : Cx} {c : Ct} {F : Fx} {e : Expr}, At X c F W → Gb X T W → chkT T c d e = true → PTv X F W e d
  | .nott t, X, c, F, e, a, g, h => by
    cases e with
    | UnaryOp op x p =>
      cases op with
      | Not => exact evT_nott (sT t a g h)
      | _ => exact absurd h Bool.false_ne_true
    | _ => exact absurd h Bool.false_ne_true
  | .and u v, X, c, F, e, a, g, h => by
    cases e with
    | BoolOp op xs p =>
      cases op with
      | And =>
        rcases xs with _ | ⟨x, _ | ⟨y, _ | ⟨z, r⟩⟩⟩
        · exact absurd h Bool.false_ne_true
        · exact absurd h Bool.false_ne_true
        · obtain ⟨h1, h2⟩ := b2 (show (chkT T c u x && chkT T c v y) = true from h)
          exact (evT_and (sT u a g h1) (pw_one (sT v a g h2))).pt
        · obtain ⟨h1, h2⟩ := b2 (show (chkT T c u x && chkT T c v (.BoolOp .And (y :: z :: r) p)) = true from h)
          exact (evT_and (sT u a g h1) (sW v a g h2)).pt
      | Or => exact absurd h Bool.false_ne_true
    | _ => exact absurd h Bool.false_ne_true
  | .or u v, X, c, F, e, a, g, h => by
    cases e with
    | BoolOp op xs p =>
      cases op with
      | Or =>
        rcases xs with _ | ⟨x, _ | ⟨y, _ | ⟨z, r⟩⟩⟩
        · exact absurd h Bool.false_ne_true
        · exact absurd h Bool.false_ne_true
        · obtain ⟨h1, h2⟩ := b2 (show (chkT T c u x && chkT T c v y) = true from h)
          exact (evT_or (sT u a g h1) (pw_one (sT v a g h2))).pt
        · obtain ⟨h1, h2⟩ := b2 (show (chkT T c u x && chkT T c v (.BoolOp .Or (y :: z :: r) p)) = true from h)
          exact (evT_or (sT u a g h1) (sW v a g h2)).pt
      | And => exact absurd h Bool.false_ne_true
    | _ => exact absurd h Bool.false_ne_true
  | .val d, X, c, F, e, a, g, h => by
    have plain : (plainTest e && chkE T c d e) = true → PTv X F W e (.val d) := fun h => by
      obtain ⟨h1, h2⟩ := b2 h
      exact evT_val (sE d a g h2) (plain_test h1)
    cases e with
    | Compare x ops ys p =>
      cases d with
      | cmp op u v =>
        rcases ops with _ | ⟨o, _ | ⟨o2, ops⟩⟩ <;> rcases ys with _ | ⟨y, _ | ⟨y2, ys⟩⟩ <;> first
          | exact absurd h Bool.false_ne_true
          | skip
        obtain ⟨h1, h4⟩ := b2 (show (decide (op = o) && notSet y && chkE T c u x && chkE T c v y) = true from h)
        obtain ⟨h1, h3⟩ := b2 h1
        obtain ⟨h1, h2⟩ := b2 h1
        cases of_decide_eq_true h1
        exact evT_cmp a.units (sE u a g h3) (sE v a g h4) (notSet_marks h2)
      | cmp2 o1 o2 u v w =>
        rcases ops with _ | ⟨p1, _ | ⟨p2, _ | ⟨p3, ops⟩⟩⟩ <;> rcases ys with _ | ⟨y, _ | ⟨z, _ | ⟨y3, ys⟩⟩⟩ <;> first
          | exact absurd h Bool.false_ne_true
          | skip
        obtain ⟨h1, h6⟩ := b2 (show (decide (o1 = p1) && decide (o2 = p2) && notSet z && chkE T c u x && chkE T c v y && chkE T c w z) = true from h)
        obtain ⟨h1, h5⟩ := b2 h1
        obtain ⟨h1, h4⟩ := b2 h1
        obtain ⟨h1, h3⟩ := b2 h1
        obtain ⟨h1, h2⟩ := b2 h1
        cases of_decide_eq_true h1
        cases of_decide_eq_true h2
        exact evT_cmp2 a.units (sE u a g h4) (sE v a g h5) (sE w a g h6) (notSet_marks h3)
      | _ => exact absurd h Bool.false_ne_true
    | _ =>
      refine plain ?_
      cases d <;> exact h
theorem sW : ∀ (d : Ts) {X : Cx} {c : Ct} {F : Fx} {op : BoolOp} {x y : Expr} {r : List Expr} {p : Pos}, At X c F W → Gb X T W → chkT T c d (.BoolOp op (x :: y :: r) p) = true → PWv X F W (.BoolOp op (x :: y :: r) p) d
  | .nott t, X, c, F, op, x, y, r, p, a, g, h => absurd h Bool.false_ne_true
  | .and u v, X, c, F, op, x, y, r, p, a, g, h => by
    cases op with
    | Or => exact absurd h Bool.false_ne_true
    | And =>
      cases r with
      | nil =>
        obtain ⟨h1, h2⟩ := b2 (show (chkT T c u x && chkT T c v y) = true from h)
        exact evT_and (sT u a g h1) (pw_one (sT v a g h2))
      | cons z r =>
        obtain ⟨h1, h2⟩ := b2 (show (chkT T c u x && chkT T c v (.BoolOp .And (y :: z :: r) p)) = true from h)
        exact evT_and (sT u a g h1) (sW v a g h2)
  | .or u v, X, c, F, op, x, y, r, p, a, g, h => by
    cases op with
    | And => exact absurd h Bool.false_ne_true
    | Or =>
      cases r with
      | nil =>
        obtain ⟨h1, h2⟩ := b2 (show (chkT T c u x && chkT T c v y) = true from h)
        exact evT_or (sT u a g h1) (pw_one (sT v a g h2))
      | cons z r =>
        obtain ⟨h1, h2⟩ := b2 (show (chkT T c u x && chkT T c v (.BoolOp .Or (y :: z :: r) p)) = true from h)
        exact evT_or (sT u a g h1) (sW v a g h2)
  | .val d, X, c, F, op, x, y, r, p, a, g, h => by cases d <;> exact absurd h Bool.false_ne_true
theorem sF : ∀ (d : Tss) {X : Cx} {c : Ct} {F : Fx} {e : List Expr}, At X c F W → Gb X T W → chkF T c d e = true → PTs X e (tT X.K F (evF W d))
  | .nil, X, c, F, e, a, g, h => by
    cases e with
    | nil => exact evF_nil
    | cons x xs => exact absurd h Bool.false_ne_true
  | .cons t .nil, X, c, F, e, a, g, h => by
    rcases e with _ | ⟨x, _ | ⟨y, xs⟩⟩
    · exact absurd h Bool.false_ne_true
    · exact evF_one (sT t a g h)
    · exact absurd h Bool.false_ne_true
  | .cons t (.cons t2 ts), X, c, F, e, a, g, h => by
    rcases e with _ | ⟨x, _ | ⟨y, xs⟩⟩ <;> exact absurd h Bool.false_ne_true
theorem sI : ∀ (d : Rc.It) {X : Cx} {c : Ct} {F : Fx} {tg e : Expr}, At X c F W → Gb X T W → chkI T c d tg e = true → PI X tg e (tI X.K F (evI W d))
  | .seq u, X, c, F, tg, e, a, g, h => it_seq (sE u a g h)
  | .rng1 u, X, c, F, tg, e, a, g, h => by
    cases e with
    | Call fe xs kw p =>
      cases kw with
      | cons k ks =>
        cases fe <;> first
          | exact absurd h Bool.false_ne_true
          | (rcases xs with _ | ⟨y, _ | ⟨z, xs⟩⟩ <;> exact absurd h Bool.false_ne_true)
      | nil =>
      cases fe with
      | Name x q =>
        rcases xs with _ | ⟨y, _ | ⟨z, xs⟩⟩
        · exact absurd h Bool.false_ne_true
        · obtain ⟨h1, h4⟩ := b2 (show (decide (x = "range") && isGlo c.sc x && notStar y && chkE T c u y) = true from h)
          obtain ⟨h1, h3⟩ := b2 h1
          obtain ⟨h1, h2⟩ := b2 h1
          cases of_decide_eq_true h1
          exact it_rng1 (sE u a g h4) (a.gl h2) (g.blt _ (by decide +kernel)) (star_of h3)
        · exact absurd h Bool.false_ne_true
      | _ => exact absurd h Bool.false_ne_true
    | _ => exact absurd h Bool.false_ne_true
  | .rng2 u v, X, c, F, tg, e, a, g, h => by
    cases e with
    | Call fe xs kw p =>
      cases kw with
      | cons k ks =>
        cases fe <;> first
          | exact absurd h Bool.false_ne_true
          | (rcases xs with _ | ⟨y, _ | ⟨z, _ | ⟨w, xs⟩⟩⟩ <;> exact absurd h Bool.false_ne_true)
      | nil =>
      cases fe with
      | Name x q =>
        rcases xs with _ | ⟨y, _ | ⟨z, _ | ⟨w, xs⟩⟩⟩
        · exact absurd h Bool.false_ne_true
        · exact absurd h Bool.false_ne_true
        · obtain ⟨h1, h6⟩ := b2 (show (decide (x = "range") && isGlo c.sc x && notStar y && notStar z && chkE T c u y && chkE T c v z) = true from h)
          obtain ⟨h1, h5⟩ := b2 h1
          obtain ⟨h1, h4⟩ := b2 h1
          obtain ⟨h1, h3⟩ := b2 h1
          obtain ⟨h1, h2⟩ := b2 h1
          cases of_decide_eq_true h1
          have hz : starEach [z] X.env = [(false, eval z X.env)] := star_of h4
          exact it_rng2 (sE u a g h5) (sE v a g h6) (a.gl h2) (g.blt _ (by decide +kernel)) (by rw [star_of h3, hz]) hz
        · exact absurd h Bool.false_ne_true
      | _ => exact absurd h Bool.false_ne_true
    | _ => exact absurd h Bool.false_ne_true
  | .rng3 u v w, X, c, F, tg, e, a, g, h => by cases tg <;> exact absurd h Bool.false_ne_true
  | .ref i, X, c, F, tg, e, a, g, h => by cases tg <;> exact absurd h Bool.false_ne_true
  | .enumS u, X, c, F, tg, e, a, g, h => by
    cases tg with
    | Tuple elts kk tp =>
      cases e with
      | Call fe xs kw p =>
        cases kw with
        | cons k ks =>
          cases fe <;> first
            | exact absurd h Bool.false_ne_true
            | (rcases xs with _ | ⟨y, _ | ⟨z, xs⟩⟩ <;> exact absurd h Bool.false_ne_true)
        | nil =>
        cases fe with
        | Name x q =>
          rcases xs with _ | ⟨y, _ | ⟨z, xs⟩⟩
          · exact absurd h Bool.false_ne_true
          · obtain ⟨h1, h4⟩ := b2 (show (decide (x = "enumerate") && isGlo c.sc x && notStar y && chkE T c u y) = true from h)
            obtain ⟨h1, h3⟩ := b2 h1
            obtain ⟨h1, h2⟩ := b2 h1
            cases of_decide_eq_true h1
            exact it_enumS (sE u a g h4) (a.gl h2) (g.blt _ (by decide +kernel)) (star_of h3)
          · exact absurd h Bool.false_ne_true
        | _ => exact absurd h Bool.false_ne_true
      | _ => exact absurd h Bool.false_ne_true
    | _ => exact absurd h Bool.false_ne_true
  | .enumR i, X, c, F, tg, e, a, g, h => by cases tg <;> exact absurd h Bool.false_ne_true
end
end
end Rc

set_option Elab.async false
set_option linter.all false
set_option maxRecDepth 100000
set_option maxHeartbeats 8000000
namespace Rc
open PySem PySem.Spec PyProof.Rows L2
def noTup : Expr → Bool
  | .Tuple .. => false
  | _ => true
def isComp : Ex → Bool
  | .comp .. => true
  | _ => false
def constTup : Expr → Bool
  | .Tuple vs _ _ => vs.all (foldedForSure 8) && vs.all notStar
  | _ => false
/-- two or three plain names take the items of a tuple at once -/
def parOk (c : Ct) : List Nat → List Expr → List Expr → Bool
  | [i, j], [.Name x p, .Name y q], [a, b] => tgtOk c i x && tgtOk c j y && isLoc c.sc x && isLoc c.sc y && (q.line == p.line) && !(x == y) && !decide (i = j) && notStar a && notStar b && !([a, b].all (foldedForSure 8)) && !([a, b].all (constantsAlone 8))
  | [i, j, l], [.Name x p, .Name y q, .Name z r], [a, b, d] => tgtOk c i x && tgtOk c j y && tgtOk c l z && isLoc c.sc x && isLoc c.sc y && isLoc c.sc z && (q.line == p.line) && (r.line == p.line) && !(x == y) && !(x == z) && !(y == z) && !decide (i = j) && !decide (i = l) && !decide (j = l) && notStar a && notStar b && notStar d && !([a, b, d].all (foldedForSure 8)) && !([a, b, d].all (constantsAlone 8))
  | _, _, _ => false
def raiseOk (T : Tab) (c : Ct) (z : Nat) : Exs → List Expr → Bool
  | .nil, [] => decide (xfields z = [])
  | .cons e es, x :: xs => decide ((xfields z).length ≤ 100) && chkL T c (.cons e es) (x :: xs)
  | _, _ => false
section
variable (T : Tab)
mutual
def chkS (c : Ct) : Rc.St → Stmt → Bool
  | .asg (.nm i) e, .Assign [.Name x q] v p => tgtOk c i x && (!(swD c.sc x q v) || isComp e) && chkE T c e v
  | .asg (.tp is) e, .Assign [.Tuple ts k q] v p => hotN c && (noTup v || constTup v) && tgtsOk c is ts && chkE T c e v
  | .par is m es, .Assign [.Tuple ts k q] (.Tuple vs k2 q2) p => hotN c && parOk c is ts vs && chkL T c es vs
  | .exp e, .Expr v p => notComp v && chkE T c e v
  | .ife t a b, .If u x y p => chkT T c t u && chkSs c a x && chkSs c b y
  | .for_ tg it b, .For t iter body [] p => hotN c && notSet iter && chkI T c it t iter && chkTg c tg t && chkSs c b body
  | .whl t b, .While u body [] p => chkT T c t u && chkSs c b body
  | .ret e, .Return (some v) p => chkE T c e v
  | .retN, .Return none p => true
  | .brk, .Break p => true
  | .cnt, .Continue p => true
  | .pass, .Pass p => true
  | .raise z es, .Raise (some (.Call (.Name x _) xs [] _)) none _ => hotN c && decide (x = xname z) && T.xr z && isGlo c.sc x && !(x == ("__debug__" : Str)) && raiseOk T c z es xs
  | .tryE b z i s, .Try body [.ExceptHandler (some (.Name x _)) (some n) (b₀ :: suite) _] [] [] _ => hotN c && decide (x = xname z) && T.xs z && isGlo c.sc x && !(x == ("__debug__" : Str)) && (z == 0 || !(x == ("__name__" : Str))) && tgtOk c i n && isLoc c.sc n && chkSs c b body && chkSs { c with hot := some i, pn := i :: c.pn } s (b₀ :: suite)
  | _, _ => false
def chkSs (c : Ct) : Sts → List Stmt → Bool
  | .nil, [] => true
  | .cons s r, x :: xs => chkS c s x && chkSs c r xs
  | _, _ => false
end
end
/-- a statement of a def -/
structure AtS (X : Cx) (c : Ct) (F : Fx) (W : Wd) : Prop extends At X c F W where
  sc : X.env.scope = c.sc
  pass : PassesOwn (model X.prog X.w) X.A X.env X.xe
  tk : X.calm = true → Takes X F.P.xw
  stk : X.stack = X.env :: X.outer
  frm : X.env.frame = some X.env.locals
section
variable {X : Cx} {c : Ct} {F : Fx} {T : Tab} {W : Wd} {fuel : Nat}
theorem isLoc_of {sc : Scope} {x : Str} (h : isLoc sc x = true) : sc.names.lookup x = some .local := by
  unfold isLoc at h
  split at h
  · assumption
  · cases h
theorem isLoc_iff {sc : Scope} {x : Str} : isLoc sc x = (sc.names.lookup x == some NameKind.local) := by
  unfold isLoc
  split
  · rename_i e
    rw [e]
    rfl
  · rename_i e
    cases q : sc.names.lookup x with
    | none => rfl
    | some k =>
      cases k <;> first
        | rfl
        | exact absurd q e
theorem AtS.block (a : AtS X c F W) : X.env.blockKind = .function := by
  unfold PySem.Env.blockKind
  rw [a.kind]
  rfl
theorem AtS.sw (a : AtS X c F W) {x : Str} {q : Pos} {v : Expr} {n : Nat} (h : notComp v = true ∨ ∃ e gs s p, v = .ListComp e gs s p) : swapsWith v (some (.Name x q)) n X.env = pure (swD c.sc x q v) := by
  rcases h with h | ⟨e, gs, s, p, rfl⟩
  · cases v <;> first
      | rfl
      | exact absurd h Bool.false_ne_true
  · unfold swapsWith swD
    rw [isLoc_iff, ← a.sc]
    show pure (X.env.blockKind == .function && X.env.kindOf x == some .local && q.line == p.line && !(s.names.any fun (n, k) => n == x && (k == .local || k == .cell))) = _
    rw [a.block]
    rfl
theorem chk_comp {e : Ex} {v : Expr} (h : chkE T c e v = true) : notComp v = true ∨ ∃ e gs s p, v = .ListComp e gs s p := by
  cases v with
  | ListComp e gs s p => exact .inr ⟨_, _, _, _, rfl⟩
  | SetComp =>
    cases e with
    | mu m i es =>
      cases m <;> rcases es with _ | ⟨d, _ | ⟨d2, es⟩⟩ <;> exact absurd h Bool.false_ne_true
    | pm m u es => rcases es with _ | ⟨d, _ | ⟨d2, es⟩⟩ <;> exact absurd h Bool.false_ne_true
    | _ => exact absurd h Bool.false_ne_true
  | DictComp =>
    cases e with
    | mu m i es =>
      cases m <;> rcases es with _ | ⟨d, _ | ⟨d2, es⟩⟩ <;> exact absurd h Bool.false_ne_true
    | pm m u es => rcases es with _ | ⟨d, _ | ⟨d2, es⟩⟩ <;> exact absurd h Bool.false_ne_true
    | _ => exact absurd h Bool.false_ne_true
  | _ => exact .inl rfl
theorem sw_none {v : Expr} {n : Nat} {env : PySem.Env} (h : notComp v = true) : swapsWith v none n env = pure false := by
  cases v <;> first
    | rfl
    | exact absurd h Bool.false_ne_true
theorem sole_tup {v : Expr} {ts : List Expr} {k : Nat} {q : Pos} {n : Nat} {env : PySem.Env} : swapsWithSole [.Tuple ts k q] v n env = pure false := by
  show swapsWith v (some (.Tuple ts k q)) n env = pure false
  cases v <;> rfl
theorem swapped_none {v : Expr} {ts : List Expr} {k : Nat} {q : Pos} {env : PySem.Env} (h : noTup v = true) : swappedStores [.Tuple ts k q] v env = pure none := by
  cases v <;> first
    | rfl
    | exact absurd h Bool.false_ne_true
theorem swapped_const {v : Expr} {ts : List Expr} {k : Nat} {q : Pos} {env : PySem.Env} (h : constTup v = true) : swappedStores [.Tuple ts k q] v env = pure none := by
  cases v with
  | Tuple vs k2 q2 =>
    obtain ⟨h1, h2⟩ := b2 (show (vs.all (foldedForSure 8) && vs.all notStar) = true from h)
    unfold swappedStores
    dsimp only
    simp only [h1]
    split <;> try rfl
    split <;> try rfl
    split <;> rfl
  | _ => exact absurd h Bool.false_ne_true
theorem slot_no {W : Wd} : ∀ {d : Rc.It} {tg e : Expr}, chkI T c d tg e = true → ∀ (ρ : Env) (i : Nat) (n : Bool) (ρ' : Env), evI W d ρ ≠ .ok (.slot i n) ρ'
  | .seq u, tg, e, h, ρ, i, n, ρ', q => by
    obtain ⟨_, _, _, q⟩ := bindOk q
    obtain ⟨_, _, _, q⟩ := bindOk q
    split at q <;> cases q
  | .rng1 u, tg, e, h, ρ, i, n, ρ', q => by
    obtain ⟨_, _, _, q⟩ := bindOk q
    split at q
    · split at q <;> cases q
    · cases q
  | .rng2 u v, tg, e, h, ρ, i, n, ρ', q => by
    obtain ⟨_, _, _, q⟩ := bindOk q
    obtain ⟨_, _, _, q⟩ := bindOk q
    split at q
    · split at q <;> cases q
    · cases q
  | .rng3 u v w, tg, e, h, ρ, i, n, ρ', q => by cases q
  | .ref j, tg, e, h, ρ, i, n, ρ', q => by cases tg <;> exact absurd h Bool.false_ne_true
  | .enumS u, tg, e, h, ρ, i, n, ρ', q => by
    obtain ⟨_, _, _, q⟩ := bindOk q
    obtain ⟨_, _, _, q⟩ := bindOk q
    split at q <;> cases q
  | .enumR j, tg, e, h, ρ, i, n, ρ', q => by cases tg <;> exact absurd h Bool.false_ne_true
theorem nb {b : Bool} (h : (!b) = true) : b = false := by cases b <;> first | rfl | cases h
theorem nbd {p : Prop} [Decidable p] (h : (!decide p) = true) : ¬ p := of_decide_eq_false (nb h)
theorem chkL_len : ∀ {d : Exs} {e : List Expr}, chkL T c d e = true → d.len = e.length
  | .nil, [], _ => rfl
  | .nil, _ :: _, h => absurd h Bool.false_ne_true
  | .cons e es, [], h => absurd h Bool.false_ne_true
  | .cons e es, x :: xs, h => by
    obtain ⟨_, h3⟩ := b2 (show (notStar x && chkE T c e x && chkL T c es xs) = true from h)
    show es.len + 1 = xs.length + 1
    rw [chkL_len h3]
theorem swapped2 (a : AtS X c F W) {x y : Str} {p q pt p2 : Pos} {kt k2 : Nat} {u v : Expr} (hx : isLoc c.sc x = true) (hy : isLoc c.sc y = true) (hl : (q.line == p.line) = true) (hn : (x == y) = false) (h1 : notStar u = true) (h2 : notStar v = true)
    (h3 : [u, v].all (foldedForSure 8) = false) (h4 : [u, v].all (constantsAlone 8) = false) : swappedStores [.Tuple [.Name x p, .Name y q] kt pt] (.Tuple [u, v] k2 p2) X.env = pure (some [x, y]) := by
  rw [isLoc_iff, ← a.sc] at hx hy
  have kx : (X.env.kindOf x == some NameKind.local) = true := hx
  have ky : (X.env.kindOf y == some NameKind.local) = true := hy
  have st : ([u, v].any fun | .Starred .. => true | _ => false) = false := by
    cases u <;> first
      | exact absurd h1 Bool.false_ne_true
      | (cases v <;> first
        | exact absurd h2 Bool.false_ne_true
        | rfl)
  have hn' : (y == x) = false := by
    cases e : y == x with
    | false => rfl
    | true =>
      have := eq_of_beq e
      subst this
      rw [beq_self_eq_true] at hn
      cases hn
  unfold swappedStores
  dsimp only
  rw [a.block, h3, h4]
  refine (if_neg Bool.false_ne_true).trans ?_
  refine (if_neg fun h => Bool.false_ne_true (st.symm.trans h)).trans ?_
  simp only [List.head?_cons, Option.map_some, Option.getD_some, List.filterMap_cons, List.filterMap_nil, Expr.pos, kx, ky, hl, beq_self_eq_true, Bool.and_true, if_true]
  simp [hn, hn', List.eraseDups, List.eraseDupsBy, List.eraseDupsBy.loop]
theorem swapped3 (a : AtS X c F W) {x y z : Str} {p q r pt p2 : Pos} {kt k2 : Nat} {u v w : Expr} (hx : isLoc c.sc x = true) (hy : isLoc c.sc y = true) (hz : isLoc c.sc z = true) (hl : (q.line == p.line) = true) (hl2 : (r.line == p.line) = true) (hn : (x == y) = false) (hn2 : (x == z) = false) (hn3 : (y == z) = false)
    (h1 : notStar u = true) (h2 : notStar v = true) (h5 : notStar w = true)
    (h3 : [u, v, w].all (foldedForSure 8) = false) (h4 : [u, v, w].all (constantsAlone 8) = false) : swappedStores [.Tuple [.Name x p, .Name y q, .Name z r] kt pt] (.Tuple [u, v, w] k2 p2) X.env = pure (some [x, y, z]) := by
  rw [isLoc_iff, ← a.sc] at hx hy hz
  have kx : (X.env.kindOf x == some NameKind.local) = true := hx
  have ky : (X.env.kindOf y == some NameKind.local) = true := hy
  have kz : (X.env.kindOf z == some NameKind.local) = true := hz
  have st1 : ∀ {e : Expr}, notStar e = true → (match e with | .Starred .. => true | _ => false) = false := fun {e} h => by
    cases e <;> first
      | rfl
      | exact absurd h Bool.false_ne_true
  have st : ([u, v, w].any fun | .Starred .. => true | _ => false) = false := by
    simp only [List.any_cons, List.any_nil, st1 h1, st1 h2, st1 h5, Bool.or_false]
  have sym : ∀ {a b : Str}, (a == b) = false → (b == a) = false := fun {a b} h => by
    cases e : b == a with
    | false => rfl
    | true =>
      have := eq_of_beq e
      subst this
      rw [beq_self_eq_true] at h
      cases h
  unfold swappedStores
  dsimp only
  rw [a.block, h3, h4]
  refine (if_neg Bool.false_ne_true).trans ?_
  refine (if_neg fun h => Bool.false_ne_true (st.symm.trans h)).trans ?_
  simp only [List.head?_cons, Option.map_some, Option.getD_some, List.filterMap_cons, List.filterMap_nil, Expr.pos, kx, ky, kz, hl, hl2, beq_self_eq_true, Bool.and_true, if_true]
  simp [hn, hn2, hn3, sym hn, sym hn2, sym hn3, List.eraseDups, List.eraseDupsBy, List.eraseDupsBy.loop]
/-- what is to be raised stands alone -/
theorem sX {X : Cx} {c : Ct} {F : Fx} {W : Wd} {d : Ex} {e : Expr} (a : AtS X c F W) (g : Gb X T W) (h : chkE T c d e = true) : PXv X F W e d := by
  cases d with
  | call f es =>
    cases e with
    | Call fe xs kw p =>
      cases kw with
      | cons k ks => cases fe <;> exact absurd h Bool.false_ne_true
      | nil =>
      cases fe with
      | Name x q =>
        have h : (hotN c && (match T.fns f with
          | some (y, m) => decide (x = y) && decide (es.len = m.length)
          | none => false) && nmOk x && isGlo c.sc x && chkL T c es xs) = true := h
        obtain ⟨h1, h4⟩ := b2 h
        obtain ⟨h1, h3⟩ := b2 h1
        obtain ⟨h1, h2⟩ := b2 h1
        obtain ⟨h0, h1⟩ := b2 h1
        cases ef : T.fns f with
        | none => rw [ef] at h1; exact absurd h1 Bool.false_ne_true
        | some ym =>
          obtain ⟨y, m⟩ := ym
          rw [ef] at h1
          obtain ⟨h1, h5⟩ := b2 h1
          cases of_decide_eq_true h1
          have h5 := of_decide_eq_true h5
          have cm := a.toAt.calm h0
          obtain ⟨hm, k, fa, fd, ps, g1, g2, g3, g4, g5, g6⟩ := g.fns cm f x m ef
          cases es with
          | nil =>
            cases xs with
            | cons z zs => exact absurd h4 Bool.false_ne_true
            | nil =>
              have e0 : ps = [] := List.eq_nil_of_length_eq_zero (by rw [g3, ← h5]; rfl)
              subst e0
              exact ex_call0 (a.tk cm) g6 g5 (a.gl h3) g1 g2 g4 (nm_of h2).1
          | cons d ds =>
            cases xs with
            | nil => exact absurd h4 Bool.false_ne_true
            | cons z zs =>
              have h4' := h4
              obtain ⟨k1, k3⟩ := b2 (show (notStar z && chkE T c d z && chkL T c ds zs) = true from h4)
              obtain ⟨k1, k2⟩ := b2 k1
              exact ex_call (a.tk cm) g6 g5 (a.gl h3) g1 g2 g4 (by rw [h5, g3]) (evC_cons (sE d a.toAt g k2) (fun F' e => sC ds (a.toAt.imp e) g k3) (star_of k1)) (nm_of h2).1 (star_of k1) (backTo_plain k3)
      | _ => exact absurd h Bool.false_ne_true
    | _ => exact absurd h Bool.false_ne_true
  | _ => exact px_pe (sE _ a.toAt g h) rfl
mutual
theorem sS : ∀ (d : Rc.St) {X : Cx} {c : Ct} {F : Fx} {W : Wd} {e : Stmt}, AtS X c F W → Gb X T W → chkS T c d e = true → PSv X F fuel W e d
  | .asg (.nm i) u, X, c, F, W, e, a, g, h => by
    cases e with
    | Assign ts v p =>
      rcases ts with _ | ⟨t, _ | ⟨t2, ts⟩⟩
      · exact absurd h Bool.false_ne_true
      · cases t with
        | Name x q =>
          obtain ⟨h1, h3⟩ := b2 (show (tgtOk c i x && (!(swD c.sc x q v) || isComp u) && chkE T c u v) = true from h)
          obtain ⟨ht, h2⟩ := b2 h1
          have sw := a.sw (x := x) (q := q) (n := p.line) (chk_comp h3)
          cases e : swD c.sc x q v with
          | false =>
            rw [e] at sw
            exact ex_asg a.nd (a.toAt.tgt ht) (sX a g h3) sw
          | true =>
            rw [e] at sw
            cases v with
            | ListComp elt gs scope q2 =>
              cases u with
              | comp eelt etg eit eifs own =>
                rcases gs with _ | ⟨⟨t, iter, fs, asy⟩, _ | ⟨g2, gs⟩⟩
                · exact absurd h3 Bool.false_ne_true
                · by_cases h0 : asy = 0
                  · subst h0
                    obtain ⟨k1, k8⟩ := b2 (show (hotN c && blkC c.N c.sc scope (ownP c.N own) && sepB c.pn own && subB etg.slots own && notSet iter && chkI T c eit t iter && chkTg ⟨c.N, scope, c.pn, none⟩ etg t && chkF T ⟨c.N, scope, c.pn, none⟩ eifs fs && chkE T ⟨c.N, scope, c.pn, none⟩ eelt elt) = true from h3)
                    obtain ⟨k1, k7⟩ := b2 k1
                    obtain ⟨k1, k6⟩ := b2 k1
                    obtain ⟨k1, k5⟩ := b2 k1
                    obtain ⟨k1, k4⟩ := b2 k1
                    obtain ⟨k1, k3⟩ := b2 k1
                    obtain ⟨k1, k2⟩ := b2 k1
                    obtain ⟨k0, k1⟩ := b2 k1
                    have bk := a.toAt.blkOk k1
                    have hloc : X.env.scope.names.lookup x = some .local := by
                      have e' : (isLoc c.sc x && (q.line == q2.line) && !(scope.names.any fun (n, k) => n == x && (k == .local || k == .cell))) = true := e
                      rw [a.sc]
                      exact isLoc_of (b2 (b2 e').1).1
                    refine ex_asgLc (a.toAt.calm k0) a.nd (a.toAt.tgt ht) hloc sw (sI eit a.toAt g k5) bk (ownP_snd _ _).symm (a.toAt.sep k2) (sub_of k3) ⟨fun F' s H C cl fp e => ?_, fun F' s H C cl fp e => ?_, fun F' s H C cl fp e => ?_⟩ (notSet_fold k4)
                    · exact (a.toAt.blk k0 bk.kind e).tg k6
                    · exact sF eifs (a.toAt.blk k0 bk.kind e) g.blk k7
                    · exact sE eelt (a.toAt.blk k0 bk.kind e) g.blk k8
                  · exfalso
                    have : chkE T c (.comp eelt etg eit eifs own) (.ListComp elt [⟨t, iter, fs, asy⟩] scope q2) = false := by
                      cases asy with
                      | ofNat n =>
                        cases n with
                        | zero => exact absurd rfl h0
                        | succ n => rfl
                      | negSucc n => rfl
                    rw [this] at h3
                    cases h3
                · exfalso
                  have : chkE T c (.comp eelt etg eit eifs own) (.ListComp elt (⟨t, iter, fs, asy⟩ :: g2 :: gs) scope q2) = false := by
                    cases asy with
                    | ofNat n =>
                      cases n with
                      | zero => rfl
                      | succ n => rfl
                    | negSucc n => rfl
                  rw [this] at h3
                  cases h3
              | _ =>
                rw [e] at h2
                exact absurd h2 Bool.false_ne_true
            | _ => exact absurd e Bool.false_ne_true
        | _ => exact absurd h Bool.false_ne_true
      · cases t <;> exact absurd h Bool.false_ne_true
    | _ => exact absurd h Bool.false_ne_true
  | .asg (.tp is) u, X, c, F, W, e, a, g, h => by
    cases e with
    | Assign ts v p =>
      rcases ts with _ | ⟨t, _ | ⟨t2, ts⟩⟩
      · exact absurd h Bool.false_ne_true
      · cases t with
        | Tuple es k q =>
          obtain ⟨h1, h3⟩ := b2 (show (hotN c && (noTup v || constTup v) && tgtsOk c is es && chkE T c u v) = true from h)
          obtain ⟨h1, h2⟩ := b2 h1
          obtain ⟨h0, h1⟩ := b2 h1
          refine ex_asgTp (a.toAt.calm h0) a.nd (a.toAt.tgts h2) (sX a g h3) sole_tup ?_
          cases e : noTup v with
          | true => exact swapped_none e
          | false =>
            rw [e] at h1
            exact swapped_const h1
        | _ => exact absurd h Bool.false_ne_true
      · cases t <;> exact absurd h Bool.false_ne_true
    | _ => exact absurd h Bool.false_ne_true
  | .par is m es, X, c, F, W, e, a, g, h => by
    cases e with
    | Assign ts v p =>
      rcases ts with _ | ⟨t, _ | ⟨t2, ts⟩⟩
      · exact absurd h Bool.false_ne_true
      · cases t with
        | Tuple ts k q =>
          cases v with
          | Tuple vs k2 q2 =>
            obtain ⟨h1, h2⟩ := b2 (show (hotN c && parOk c is ts vs && chkL T c es vs) = true from h)
            obtain ⟨h0, h1⟩ := b2 h1
            unfold parOk at h1
            split at h1
            · simp only [Bool.and_eq_true] at h1
              obtain ⟨⟨⟨⟨⟨⟨⟨⟨⟨⟨q1, q2⟩, q3⟩, q4⟩, q5⟩, q6⟩, q7⟩, q8⟩, q9⟩, q10⟩, q11⟩ := h1
              exact ex_par2 (a.toAt.calm h0) a.nd (a.toAt.tgt q1) (a.toAt.tgt q2) (nbd q7) (by rw [a.sc]; exact isLoc_of q3) (by rw [a.sc]; exact isLoc_of q4) (chkL_len h2) (sC es a.toAt g h2) (swapped2 a q3 q4 q5 (nb q6) q8 q9 (nb q10) (nb q11)) sole_tup
            · simp only [Bool.and_eq_true] at h1
              obtain ⟨⟨⟨⟨⟨⟨⟨⟨⟨⟨⟨⟨⟨⟨⟨⟨⟨⟨q1, q2⟩, q3⟩, q4⟩, q5⟩, q6⟩, q7⟩, q8⟩, q9⟩, q10⟩, q11⟩, q12⟩, q13⟩, q14⟩, q15⟩, q16⟩, q17⟩, q18⟩, q19⟩ := h1
              exact ex_par3 (a.toAt.calm h0) a.nd (a.toAt.tgt q1) (a.toAt.tgt q2) (a.toAt.tgt q3) (nbd q12) (nbd q13) (nbd q14) (by rw [a.sc]; exact isLoc_of q4) (by rw [a.sc]; exact isLoc_of q5) (by rw [a.sc]; exact isLoc_of q6) (chkL_len h2) (sC es a.toAt g h2) (swapped3 a q4 q5 q6 q7 q8 (nb q9) (nb q10) (nb q11) q15 q16 q17 (nb q18) (nb q19)) sole_tup
            · cases h1
          | _ => exact absurd h Bool.false_ne_true
        | _ => exact absurd h Bool.false_ne_true
      · cases t <;> first
          | exact absurd h Bool.false_ne_true
          | (cases v <;> exact absurd h Bool.false_ne_true)
    | _ => exact absurd h Bool.false_ne_true
  | .put i k v, X, c, F, W, e, a, g, h => by cases e <;> exact absurd h Bool.false_ne_true
  | .exp u, X, c, F, W, e, a, g, h => by
    cases e with
    | Expr v p =>
      obtain ⟨h1, h2⟩ := b2 (show (notComp v && chkE T c u v) = true from h)
      exact ex_exp (sX a g h2) (sw_none h1)
    | _ => exact absurd h Bool.false_ne_true
  | .ife t u v, X, c, F, W, e, a, g, h => by
    cases e with
    | If s x y p =>
      obtain ⟨h1, h3⟩ := b2 (show (chkT T c t s && chkSs T c u x && chkSs T c v y) = true from h)
      obtain ⟨h1, h2⟩ := b2 h1
      exact ex_ife (sT t a.toAt g h1) (sSs u a g h2) (sSs v a g h3)
    | _ => exact absurd h Bool.false_ne_true
  | .for_ tg it b, X, c, F, W, e, a, g, h => by
    cases e with
    | For t iter body els p =>
      cases els with
      | cons x xs => exact absurd h Bool.false_ne_true
      | nil =>
        obtain ⟨h1, h4⟩ := b2 (show (hotN c && notSet iter && chkI T c it t iter && chkTg c tg t && chkSs T c b body) = true from h)
        obtain ⟨h1, h3⟩ := b2 h1
        obtain ⟨h1, h2⟩ := b2 h1
        obtain ⟨h0, h1⟩ := b2 h1
        exact ex_for a.pass (a.toAt.calm h0) (sI it a.toAt g h2) (a.toAt.tg h3) (sSs b a g h4) (notSet_fold h1) (slot_no h2)
    | _ => exact absurd h Bool.false_ne_true
  | .whl t b, X, c, F, W, e, a, g, h => by
    cases e with
    | While s body els p =>
      cases els with
      | cons x xs => exact absurd h Bool.false_ne_true
      | nil =>
        obtain ⟨h1, h2⟩ := b2 (show (chkT T c t s && chkSs T c b body) = true from h)
        exact ex_whl a.pass (sT t a.toAt g h1) (sSs b a g h2)
    | _ => exact absurd h Bool.false_ne_true
  | .ret u, X, c, F, W, e, a, g, h => by
    cases e with
    | Return v p =>
      cases v with
      | none => exact absurd h Bool.false_ne_true
      | some v => exact ex_ret (sX a g h)
    | _ => exact absurd h Bool.false_ne_true
  | .retN, X, c, F, W, e, a, g, h => by
    cases e with
    | Return v p =>
      cases v with
      | none => exact ex_retN
      | some v => exact absurd h Bool.false_ne_true
    | _ => exact absurd h Bool.false_ne_true
  | .brk, X, c, F, W, e, a, g, h => by
    cases e <;> first
      | exact ex_brk
      | exact absurd h Bool.false_ne_true
  | .cnt, X, c, F, W, e, a, g, h => by
    cases e <;> first
      | exact ex_cnt
      | exact absurd h Bool.false_ne_true
  | .pass, X, c, F, W, e, a, g, h => by
    cases e <;> first
      | exact ex_pass
      | exact absurd h Bool.false_ne_true
  | .nope, X, c, F, W, e, a, g, h => by cases e <;> exact absurd h Bool.false_ne_true
  | .raise z es, X, c, F, W, e, a, g, h => by
    cases e with
    | Raise o fr p =>
      cases o with
      | none => exact absurd h Bool.false_ne_true
      | some o =>
        cases o with
        | Call fe xs kw q =>
          cases fe with
          | Name x q2 =>
            cases kw with
            | cons k ks => cases fr <;> exact absurd h Bool.false_ne_true
            | nil =>
              cases fr with
              | some f => exact absurd h Bool.false_ne_true
              | none =>
                obtain ⟨h1, h6⟩ := b2 (show (hotN c && decide (x = xname z) && T.xr z && isGlo c.sc x && !(x == ("__debug__" : Str)) && raiseOk T c z es xs) = true from h)
                obtain ⟨h1, h5⟩ := b2 h1
                obtain ⟨h1, h4⟩ := b2 h1
                obtain ⟨h1, h3⟩ := b2 h1
                obtain ⟨h1, h2⟩ := b2 h1
                have cm := a.toAt.calm h1
                have ex := of_decide_eq_true h2
                obtain ⟨C, ok⟩ := g.xr cm z h3
                cases es with
                | nil =>
                  cases xs with
                  | cons y ys => exact absurd h6 Bool.false_ne_true
                  | nil => exact ex_raise0 cm (a.tk cm) ok ex (of_decide_eq_true h6) (a.gl h4) (nb h5)
                | cons d ds =>
                  cases xs with
                  | nil => exact absurd h6 Bool.false_ne_true
                  | cons y ys =>
                    obtain ⟨k0, k4⟩ := b2 (show (decide ((xfields z).length ≤ 100) && chkL T c (.cons d ds) (y :: ys)) = true from h6)
                    obtain ⟨k1, k3⟩ := b2 (show (notStar y && chkE T c d y && chkL T c ds ys) = true from k4)
                    obtain ⟨k1, k2⟩ := b2 k1
                    exact ex_raise cm (a.tk cm) ok ex (of_decide_eq_true k0) (a.gl h4) (sL (.cons d ds) a.toAt g k4) (nb h5) (star_of k1) (backTo_plain k3)
          | _ => exact absurd h Bool.false_ne_true
        | _ => exact absurd h Bool.false_ne_true
    | _ => exact absurd h Bool.false_ne_true
  | .tryE b z i s, X, c, F, W, e, a, g, h => by
    cases e with
    | Try body hs els fin p =>
      rcases hs with _ | ⟨⟨ty, nm, su, hp⟩, _ | ⟨h2, hs⟩⟩
      · exact absurd h Bool.false_ne_true
      · cases ty with
        | none => exact absurd h Bool.false_ne_true
        | some ty =>
          cases ty with
          | Name x q =>
            cases nm with
            | none => exact absurd h Bool.false_ne_true
            | some n =>
              cases su with
              | nil => exact absurd h Bool.false_ne_true
              | cons b₀ suite =>
                cases els with
                | cons y ys => exact absurd h Bool.false_ne_true
                | nil =>
                  cases fin with
                  | cons y ys => exact absurd h Bool.false_ne_true
                  | nil =>
                    obtain ⟨h1, k2⟩ := b2 (show (hotN c && decide (x = xname z) && T.xs z && isGlo c.sc x && !(x == ("__debug__" : Str)) && (z == 0 || !(x == ("__name__" : Str))) && tgtOk c i n && isLoc c.sc n && chkSs T c b body && chkSs T { c with hot := some i, pn := i :: c.pn } s (b₀ :: suite)) = true from h)
                    obtain ⟨h1, k1⟩ := b2 h1
                    obtain ⟨h1, h8⟩ := b2 h1
                    obtain ⟨h1, h7⟩ := b2 h1
                    obtain ⟨h1, h6⟩ := b2 h1
                    obtain ⟨h1, h5⟩ := b2 h1
                    obtain ⟨h1, h4⟩ := b2 h1
                    obtain ⟨h1, h3⟩ := b2 h1
                    obtain ⟨h1, h2⟩ := b2 h1
                    have cm := a.toAt.calm h1
                    have ex := of_decide_eq_true h2
                    have hn0 : hotN c = true := h1
                    subst ex
                    have tg := a.toAt.tgt h7
                    have hk : X.env.kindOf n = some .local := by
                      show X.env.scope.names.lookup n = some .local
                      rw [a.sc]
                      exact isLoc_of h8
                    obtain ⟨u, hu⟩ := g.xs z h3
                    have hnm : Names X (xname z) u := ⟨a.gl h4, nb h5, by
                      rcases hu with hu | ⟨rfl, hu, rfl⟩
                      · exact .inl hu
                      · exact .inr ⟨hu, by decide +kernel, by decide⟩⟩
                    refine ex_try a.stk a.frm a.nd tg.nm hk hnm (a.tk cm) tg.np (fun y cls hy => ?_) (fun Wx pn xe tk ps => ?_) (fun a' oe cls d pn y F' hz hv hot => ?_)
                    · obtain ⟨D, rfl, _⟩ := g.xk.own _ _ hy
                      exact (g.xk.kit _ _ _ _ hy hu).2
                    · refine sSs b (X := X.tr pn xe) (c := c) ⟨⟨?_, a.units, a.nd, a.n, a.kind, a.loc, a.cel, a.fre, a.glo, a.pn⟩, a.sc, ps, fun _ => tk, a.stk, a.frm⟩ ⟨g.fns, g.blt, g.cons, g.xk, g.xs, fun hc z q => (g.xr hc z q).imp fun C k => ⟨k.oex, k.mg, k.ini⟩⟩ k1
                      rw [hot_none hn0]
                      exact cm
                    · refine sSs s (X := X.suite a' ((a', oe) :: pn)) (c := { c with hot := some i, pn := i :: c.pn }) ⟨⟨⟨X, a', oe, cls, d, pn, y, rfl, hz, hv, rfl, ?_, hot.cls.1, hot.cls.2, hot.fs⟩, a.units, a.nd, a.n, a.kind, a.loc, a.cel, a.fre, a.glo, fun p hp => ?_⟩, a.sc, PassesOwn.never, fun hc => absurd hc Bool.false_ne_true, a.stk, a.frm⟩
                        ⟨fun hc => absurd hc Bool.false_ne_true, g.blt, g.cons, g.xk, g.xs, fun hc => absurd hc Bool.false_ne_true⟩ k2
                      · rw [hot.l]
                        exact List.mem_cons_self
                      · rw [hot.l] at hp
                        rcases List.mem_cons.mp hp with rfl | hp
                        · exact List.mem_cons_self
                        · exact List.mem_cons_of_mem _ (a.pn p hp)
          | _ => exact absurd h Bool.false_ne_true
      · cases ty <;> first
          | exact absurd h Bool.false_ne_true
          | (rename_i ty; cases ty <;> first
            | exact absurd h Bool.false_ne_true
            | (cases nm <;> cases su <;> exact absurd h Bool.false_ne_true))
    | _ => exact absurd h Bool.false_ne_true
theorem sSs : ∀ (d : Sts) {X : Cx} {c : Ct} {F : Fx} {W : Wd} {e : List Stmt}, AtS X c F W → Gb X T W → chkSs T c d e = true → PSsv X F fuel W e d
  | .nil, X, c, F, W, e, a, g, h => by
    cases e with
    | nil => exact ex_nil
    | cons x xs => exact absurd h Bool.false_ne_true
  | .cons s r, X, c, F, W, e, a, g, h => by
    cases e with
    | nil => exact absurd h Bool.false_ne_true
    | cons x xs =>
      obtain ⟨h1, h2⟩ := b2 (show (chkS T c s x && chkSs T c r xs) = true from h)
      exact ex_cons (sS s a g h1) (sSs r a g h2)
end
end
end Rc

set_option Elab.async false
set_option linter.all false
set_option maxRecDepth 100000
set_option maxHeartbeats 4000000
namespace Rc
open PySem PySem.Spec PyProof.Rows L2
structure DefI where
  id : Nat
  name : Str
  st : Stmt
  N : List Str
  fn : Fn
def DefI.ps (d : DefI) : List Str := (defArgs d.st).args.map (·.arg)
def findD : List DefI → Nat → Option DefI
  | [], _ => none
  | d :: r, g => match Nat.beq d.id g with
    | true => some d
    | false => findD r g
theorem findD_mem : ∀ {ds : List DefI} {g : Nat} {d : DefI}, findD ds g = some d → d ∈ ds
  | e :: r, g, d, h => by
    unfold findD at h
    split at h
    · cases h
      exact List.mem_cons_self
    · exact List.mem_cons_of_mem _ (findD_mem h)
def findC : List (Nat × (Str × PyData)) → Nat → Option (Str × PyData)
  | [], _ => none
  | d :: r, g => match Nat.beq d.1 g with
    | true => some d.2
    | false => findC r g
theorem findC_mem : ∀ {cs : List (Nat × (Str × PyData))} {g : Nat} {d : Str × PyData}, findC cs g = some d → (g, d) ∈ cs
  | e :: r, g, d, h => by
    unfold findC at h
    split at h
    · rename_i q
      cases h
      rw [← Nat.eq_of_beq_eq_true q]
      exact List.mem_cons_self
    · exact List.mem_cons_of_mem _ (findC_mem h)
def conF (cons : List (Nat × (Str × PyData))) (g : Nat) : PyData := match findC cons g with
  | some c => c.2
  | none => .none
def tabOf (ds : List DefI) (cons : List (Nat × (Str × PyData))) (xs xr : List Nat) : Tab := ⟨fun g => (findD ds g).map fun d => (d.name, d.fn.mask), fun g => (findC cons g).map (·.1), fun z => xs.any (Nat.beq z), fun z => xr.any (Nat.beq z)⟩
theorem conT_at {ds : List DefI} {cons : List (Nat × (Str × PyData))} {xs xr : List Nat} {g : Nat} {x : Str} (h : (tabOf ds cons xs xr).cons g = some x) : ∃ c, (g, c) ∈ cons ∧ c.1 = x ∧ conF cons g = c.2 := by
  have h : (findC cons g).map (·.1) = some x := h
  obtain ⟨c, h1, h2⟩ := Option.map_eq_some_iff.mp h
  refine ⟨c, findC_mem h1, h2, ?_⟩
  unfold conF
  rw [h1]
def chkD (T : Tab) (d : DefI) : Bool := C8.scC d.N d.ps (defScope d.st) && decide (d.fn.mask.length = d.ps.length) && decide (d.fn.size = d.N.length) && chkSs T ⟨d.N, defScope d.st, lentIx 0 d.fn.mask, none⟩ d.fn.body (defBody d.st)
structure DOk (T : Tab) (d : DefI) : Prop where
  chk : chkD T d = true
  binds : ∀ (kV doc pm : Value) (an : Option Addr) (cdv ct : Value) (us : List Value), us.length = d.ps.length → bindArgs (PySem.W.fnOf d.name d.name (defArgs d.st) (defBody d.st) (defScope d.st) .none kV doc pm an cdv ct) ⟨us, []⟩ = pure (d.ps.zip us)
abbrev FunI (K : PySem.W.Frag) (d : DefI) (f : Addr) (fd : FuncData) : Prop := FunD K d.name d.name (defArgs d.st) (defBody d.st) (defScope d.st) [] [] f fd
structure Hd (P : Program) (ds : List DefI) (cons : List (Nat × (Str × PyData))) (xs xr : List Nat) (C : Nat → PyData) (K : PySem.W.Frag) (mg : Str → Option Value) : Prop where
  fns : ∀ d ∈ ds, ∃ (fa : Addr) (fd : FuncData), FunI K d fa fd ∧ mg d.name = some (.ref fa)
  blt : ∀ x ∈ biNames, mg x = none
  cons : ∀ g x, (tabOf ds cons xs xr).cons g = some x → ∃ (v : V) (u : Value), mg x = some u ∧ RelV v u ∧ ∀ G, Dq K G v (C g)
  xk : XKit K mg
  xs : ∀ z, xs.any (Nat.beq z) = true → ∃ u, CU mg z u
  xr : ∀ z, xr.any (Nat.beq z) = true → ∃ C, OexC K C ∧ mg (xname z) = some (.ref C) ∧ ∃ (fI : Addr), PySem.W.findIn K (.ref C) "__init__" = some (some (.ref fI)) ∧ PySem.W.typeIn K (.ref fI) = some (.type "function") ∧
    (∀ (w : World) (base : Heap), ∃ (fd : FuncData) (ps : List Str), FnOk P w K mg base (L2.CX P w) 1 fI fd ps (spIn K C (xfields z)) ∧ Binds K fd ps [])
def fnsOf (ds : List DefI) (g : Nat) : Option Fn := (findD ds g).map (·.fn)
section
variable {P : Program} {w : World} {K : PySem.W.Frag} {mg : Str → Option Value} {base : Heap} {ds : List DefI} {cons : List (Nat × (Str × PyData))} {xs xr : List Nat} {C : Nat → PyData} {fuel : Nat}
theorem prog_ok (hD : ∀ d ∈ ds, DOk (tabOf ds cons xs xr) d) (hH : Hd P ds cons xs xr C K mg) : ∀ (k f : Nat) (d : DefI) (fa : Addr) (fd : FuncData), findD ds f = some d → FunI K d fa fd → mg d.name = some (.ref fa) →
    FnOk P w K mg base (L2.CX P w) (k + 2) fa fd d.ps (spOf K mg d.ps.length (sem C (fnsOf ds) fuel k f))
  | 0, f, d, fa, fd, _, _, _ => ⟨fun vs H Q E h => h.1, fun A outer s H args us vs Q E _ _ _ _ hs => by
      obtain ⟨_, _, _, _, _, _, h⟩ := hs
      exact h.elim⟩
  | k + 1, f, d, fa, fd, hd, FD, hm => by
    have e : sem C (fnsOf ds) fuel (k + 1) f = runFn fuel (Wk fuel (fnsOf ds) C k) d.fn := by
      funext as
      refine sem_at ?_
      unfold fnsOf
      rw [hd]
      rfl
    rw [e]
    have dm : d ∈ ds := findD_mem hd
    have ok := hD d dm
    have c := ok.chk
    unfold chkD at c
    simp only [Bool.and_eq_true, decide_eq_true_eq] at c
    obtain ⟨⟨⟨c1, c2⟩, c3⟩, c4⟩ := c
    have S := C8.fnScope_by c1
    refine fn_ok FD S c2 c3 fun cdv A outer s H E F hr hP hw => ?_
    refine sSs _ (c := ⟨d.N, defScope d.st, lentIx 0 d.fn.mask, none⟩) ⟨⟨rfl, ?_, S.nd, rfl, S.kind, fun x h => h, fun x h => ⟨h, rfl⟩, fun x h => .inr h, fun x h => h, hP⟩, rfl, passes_of rfl, fun _ => by rw [hw]; exact takes_of rfl rfl rfl rfl, rfl, rfl⟩ ⟨fun _ g x m h => ?_, hH.blt, hH.cons, hH.xk, hH.xs, fun _ z hz => ?_⟩ c4
    · have := hr.un
      show (A.deeper (envOfC d.name (defScope d.st) s.heap.objs.size fa cdv)).units + 65 < _
      omega
    · have h : (findD ds g).map (fun d => (d.name, d.fn.mask)) = some (x, m) := h
      obtain ⟨d', h1, h2⟩ := Option.map_eq_some_iff.mp h
      cases h2
      have dm' : d' ∈ ds := findD_mem h1
      obtain ⟨fa', fd', F1, F2⟩ := hH.fns d' dm'
      have ok' := hD d' dm'
      have c' := ok'.chk
      unfold chkD at c'
      simp only [Bool.and_eq_true, decide_eq_true_eq] at c'
      obtain ⟨⟨⟨_, c2'⟩, _⟩, _⟩ := c'
      refine ⟨?_, k + 2, fa', fd', d'.ps, F2, F1.kp, c2'.symm, F1.bindsN ok'.binds, hr, prog_ok hD hH k g d' fa' fd' h1 F1 F2⟩
      refine lmk (F := d'.fn) ?_ rfl
      unfold fnsOf
      rw [h1]
      rfl
    · obtain ⟨C, o1, o2, fI, o3, o4, o5⟩ := hH.xr z hz
      obtain ⟨fd', ps, o5, o6⟩ := o5 w base
      exact ⟨C, o1, o2, fI, 1, fd', ps, o3, o4, o5, hr.mono (by omega), o6⟩
end
end Rc

set_option Elab.async false
set_option linter.all false
set_option maxRecDepth 100000
set_option maxHeartbeats 2000000
/-! Cst: constants of the module; the head that tells them. -/
namespace Rc
open PySem PySem.Spec PyProof.Rows L2
mutual
def dcB (K : PySem.W.Frag) : PyData → Value → Bool
  | .none, .none => true
  | .bool b, .bool c => b == c
  | .int i, .int j _ => decide (i = j)
  | .str x, .str y _ => decide (x = y)
  | .tuple ds, .ref a => (match K.lookup a with
    | some o => (match o.data with
      | .seq its _ => decide (o.cls = .type "tuple") && decide (its.size ≤ 1000000) && dcAll K ds its.toList
      | _ => false)
    | none => false)
  | .list ds, .ref a => (match K.lookup a with
    | some o => (match o.data with
      | .seq its _ => decide (o.cls = .type "list") && o.dict.isNone && decide (its.size ≤ 1000000) && dcAll K ds its.toList
      | _ => false)
    | none => false)
  | _, _ => false
def dcAll (K : PySem.W.Frag) : List PyData → List Value → Bool
  | [], [] => true
  | d :: ds, u :: us => dcB K d u && dcAll K ds us
  | _, _ => false
end
mutual
theorem dcB_ok {K : PySem.W.Frag} : ∀ (d : PyData) {u : Value}, dcB K d u = true → ∃ v, RelV v u ∧ ∀ G, Dq K G v d
  | .none, u, h => by
    cases u with
    | none => exact ⟨.non, rfl, fun _ => .non⟩
    | _ => exact absurd h Bool.false_ne_true
  | .bool b, u, h => by
    cases u with
    | bool c => exact ⟨.bl b, by rw [eq_of_beq (show (b == c) = true from h)]; rfl, fun _ => .bl b⟩
    | _ => exact absurd h Bool.false_ne_true
  | .int i, u, h => by
    cases u with
    | int j t =>
      cases of_decide_eq_true (show decide (i = j) = true from h)
      exact ⟨.int i, ⟨t, rfl⟩, fun _ => .int i⟩
    | _ => exact absurd h Bool.false_ne_true
  | .str i, u, h => by
    cases u with
    | str j t =>
      cases of_decide_eq_true (show decide (i = j) = true from h)
      exact ⟨.str i, ⟨t, rfl⟩, fun _ => .str i⟩
    | _ => exact absurd h Bool.false_ne_true
  | .tuple ds, u, h => by
    cases u with
    | ref a =>
      have h : (match K.lookup a with
        | some o => (match o.data with
          | .seq its _ => decide (o.cls = .type "tuple") && decide (its.size ≤ 1000000) && dcAll K ds its.toList
          | _ => false)
        | none => false) = true := h
      split at h
      · rename_i o ho
        split at h
        · rename_i its n hd
          obtain ⟨h1, h3⟩ := b2 h
          obtain ⟨h1, h2⟩ := b2 h1
          obtain ⟨vs, r, q⟩ := dcAll_ok ds h3
          exact ⟨.ref a, rfl, fun G => .tup (.inr ⟨o, its, n, ho, of_decide_eq_true h1, hd, Nat.le_trans (of_decide_eq_true h2) (by decide), r⟩) (q G)⟩
        · cases h
      · cases h
    | _ => exact absurd h Bool.false_ne_true
  | .list ds, u, h => by
    cases u with
    | ref a =>
      have h : (match K.lookup a with
        | some o => (match o.data with
          | .seq its _ => decide (o.cls = .type "list") && o.dict.isNone && decide (its.size ≤ 1000000) && dcAll K ds its.toList
          | _ => false)
        | none => false) = true := h
      split at h
      · rename_i o ho
        split at h
        · rename_i its n hd
          obtain ⟨h1, h3⟩ := b2 h
          obtain ⟨h1, h2⟩ := b2 h1
          obtain ⟨h1, h4⟩ := b2 h1
          obtain ⟨vs, r, q⟩ := dcAll_ok ds h3
          exact ⟨.ref a, rfl, fun G => .lst (.inr ⟨o, its, n, ho, of_decide_eq_true h1, Option.isNone_iff_eq_none.mp h4, hd, Nat.le_trans (of_decide_eq_true h2) (by decide), r⟩) (q G)⟩
        · cases h
      · cases h
    | _ => exact absurd h Bool.false_ne_true
  | .dict _, u, h => by cases u <;> exact absurd h Bool.false_ne_true
theorem dcAll_ok {K : PySem.W.Frag} : ∀ (ds : List PyData) {us : List Value}, dcAll K ds us = true → ∃ vs, Vals vs us ∧ ∀ G, DqAll K G vs ds
  | [], us, h => by
    cases us with
    | nil => exact ⟨[], .nil, fun _ => .nil⟩
    | cons u us => exact absurd h Bool.false_ne_true
  | d :: ds, us, h => by
    cases us with
    | nil => exact absurd h Bool.false_ne_true
    | cons u us =>
      obtain ⟨h1, h2⟩ := b2 (show (dcB K d u && dcAll K ds us) = true from h)
      obtain ⟨v, r1, q1⟩ := dcB_ok d h1
      obtain ⟨vs, r2, q2⟩ := dcAll_ok ds h2
      exact ⟨v :: vs, .cons r1 r2, fun G => .cons (q1 G) (q2 G)⟩
end
def conOk (K : PySem.W.Frag) (c : Str × PyData) : Bool := match PySem.W.nsIn K mainGlobals c.1 with
  | some (some u) => dcB K c.2 u
  | _ => false
theorem conOk_ok {K : PySem.W.Frag} {h : Heap} {mg : Str → Option Value} (X : K.In h) (G : h.Ns mainGlobals mg) {c : Str × PyData} (q : conOk K c = true) : ∃ (v : V) (u : Value), mg c.1 = some u ∧ RelV v u ∧ ∀ G, Dq K G v c.2 := by
  unfold conOk at q
  split at q
  · rename_i u hu
    obtain ⟨v, r, d⟩ := dcB_ok _ q
    exact ⟨v, u, PySem.W.mg_of X G hu, r, d⟩
  · cases q
abbrev AlC : Type := He.AlD × Bool
def obsC (fa : List He.Fa) (fn : List He.DefD) (cs : List (Str × PyData)) (K : PySem.W.Frag) : AlC := (He.obsD fa fn K, cs.all (conOk K))
def obsCG (n : Nat) (fa : List He.Fa) (fn : List He.DefD) (cs : List (Str × PyData)) (g : Addr → Option Obj) : AlC := obsC fa fn cs (He.frG g (He.asD g n))
def hookC (n : Nat) (fa : List He.Fa) (fn : List He.DefD) (cs : List (Str × PyData)) : PySem.W.Hook where
  α := AlC
  obs := fun s => obsCG n fa fn cs s.heap.get?
  val := fun _ => (He.valD fn, true)
  says := fun _ h => ∃ K : PySem.W.Frag, K.In h ∧ He.SaysD fa fn K ∧ cs.all (conOk K) = true
  of := fun _ _ e => ⟨_, He.frG_in, congrArg Prod.fst e, congrArg Prod.snd e⟩
  keeps := fun _ _ _ ⟨K, hK, c⟩ k => ⟨K, PySem.W.Frag.In.keeps hK k, c⟩
theorem obsCG_eq {n : Nat} {fa : List He.Fa} {fn : List He.DefD} {cs : List (Str × PyData)} {g : Addr → Option Obj} {s : Shared} (h : ∀ a, g a = s.heap.get? a) : obsCG n fa fn cs g = (hookC n fa fn cs).obs s := by
  have e : g = s.heap.get? := funext h
  rw [e] <;> rfl
end Rc

set_option Elab.async false
set_option linter.all false
set_option maxRecDepth 100000
set_option maxHeartbeats 2000000
/-! Cls: what the head tells of the module's exception classes. -/
namespace Rc
open PySem PySem.Spec PyProof.Rows L2 NdefX
/-- a class's __init__ -/
structure XDf where
  z : Nat
  qual : Str
  st : Stmt
  N : List Str
  m : Ms
def XDf.ps (x : XDf) : List Str := (defArgs x.st).args.map (·.arg)
def XDf.nf (x : XDf) (cl : List (Str × Addr)) (c : Addr) : NF := ⟨"__init__", x.qual, defArgs x.st, defBody x.st, defScope x.st, cl, c⟩
/-! ### its text -/
def stB (N : List Str) (sc : Scope) (f : Str) (j : Nat) : Stmt → Bool
  | .Assign [.Attribute (.Name x _) g _] (.Name y _) _ => decide (g = f) && decide (N[0]? = some x) && decide (N[j]? = some y) && isV sc x && isV sc y && nmK x && nmK y
  | _ => false
theorem stB_ok {N : List Str} {sc : Scope} {f : Str} {j : Nat} {st : Stmt} (h : stB N sc f j st = true) : StF N sc f j st := by
  unfold stB at h
  split at h
  · simp only [Bool.and_eq_true, decide_eq_true_eq] at h
    obtain ⟨⟨⟨⟨⟨⟨rfl, h2⟩, h3⟩, h4⟩, h5⟩, h6⟩, h7⟩ := h
    exact ⟨_, _, _, _, _, _, rfl, h2, h3, isV_ok h4, isV_ok h5, h6, h7⟩
  · cases h
def lastB (N : List Str) (sc : Scope) (m : Ms) : Stmt → Bool
  | .Expr (.Call (.Attribute (.Call (.Name s _) [] [] _) i p2) [e] [] pos) _ => decide (s = "super") && decide (i = "__init__") && chkM N sc m e && (p2.endLine == pos.line)
  | _ => false
def stsB (N : List Str) (sc : Scope) (m : Ms) : Nat → List Str → List Stmt → Bool
  | _, [], [l] => lastB N sc m l
  | j, f :: fs, st :: sts => stB N sc f j st && stsB N sc m (j + 1) fs sts
  | _, _, _ => false
theorem stsB_ok {N : List Str} {sc : Scope} {m : Ms} : ∀ {j : Nat} {fs : List Str} {body : List Stmt}, stsB N sc m j fs body = true → ∃ sts e p0 p1 p2 pos pos2, body = sts ++ [.Expr (.Call (.Attribute (.Call (.Name "super" p0) [] [] p1) "__init__" p2) [e] [] pos) pos2] ∧ sts.length = fs.length ∧
      (∀ (i : Nat) f st, fs[i]? = some f → sts[i]? = some st → StF N sc f (j + i) st) ∧ chkM N sc m e = true ∧ (p2.endLine == pos.line) = true
  | j, [], [], h => by cases h
  | j, [], l :: l2 :: ls, h => by cases h
  | j, f :: fs, [], h => by cases h
  | j, [], [l], h => by
    have h : lastB N sc m l = true := h
    unfold lastB at h
    split at h
    · simp only [Bool.and_eq_true, decide_eq_true_eq] at h
      obtain ⟨⟨⟨rfl, rfl⟩, h3⟩, h4⟩ := h
      exact ⟨[], _, _, _, _, _, _, rfl, rfl, fun i f st z => by simp at z, h3, h4⟩
    · cases h
  | j, f :: fs, st :: sts, h => by
    obtain ⟨h1, h2⟩ := b2 (show (stB N sc f j st && stsB N sc m (j + 1) fs sts) = true from h)
    obtain ⟨sts', e, p0, p1, p2, pos, pos2, q1, q2, q3, q4, q5⟩ := stsB_ok h2
    refine ⟨st :: sts', e, p0, p1, p2, pos, pos2, by rw [q1]; rfl, by rw [List.length_cons, List.length_cons, q2], fun i f' st' z1 z2 => ?_, q4, q5⟩
    cases i with
    | zero =>
      simp at z1 z2
      subst z1 z2
      exact stB_ok h1
    | succ i =>
      have := q3 i f' st' (by simpa using z1) (by simpa using z2)
      rw [show j + (i + 1) = j + 1 + i by omega]
      exact this
def xtB (x : XDf) : Bool := nscB x.N x.ps ["__class__"] (defScope x.st) && (match x.ps with
  | s :: fs => decide (fs = xfields x.z) && decide (x.N[0]? = some s) && decide ((defScope x.st).names.lookup s = some .local) && decide ((((defArgs x.st).posonlyargs ++ (defArgs x.st).args).head?.map (·.arg)) = some s)
  | [] => false) && decide ((defScope x.st).names.lookup ("super" : Str) = some .globalImplicit) && decide ((defScope x.st).names.lookup ("__class__" : Str) = some .free) && stsB x.N (defScope x.st) x.m 1 (xfields x.z) (defBody x.st) && decide (x.m.len ≤ 1000000) && x.m.chk (xfields x.z).length && decide ((xfields x.z).length ≤ 100)
theorem xtB_ok {x : XDf} (h : xtB x = true) (cl : List (Str × Addr)) (c : Addr) : XTx (x.nf cl c) x.N x.ps (xfields x.z) x.m := by
  unfold xtB at h
  obtain ⟨h, h8⟩ := b2 h
  obtain ⟨h, h7⟩ := b2 h
  obtain ⟨h, h6⟩ := b2 h
  obtain ⟨h, h5⟩ := b2 h
  obtain ⟨h, h4⟩ := b2 h
  obtain ⟨h, h3⟩ := b2 h
  obtain ⟨h1, h2⟩ := b2 h
  refine ⟨nscope_by h1, ?_, of_decide_eq_true h3, of_decide_eq_true h4, ?_, of_decide_eq_true h6, h7, of_decide_eq_true h8⟩
  · cases e : x.ps with
    | nil => rw [e] at h2; cases h2
    | cons s fs =>
      rw [e] at h2
      obtain ⟨k, k4⟩ := b2 h2
      obtain ⟨k, k3⟩ := b2 k
      obtain ⟨k1, k2⟩ := b2 k
      obtain ⟨ar, z1, z2⟩ := Option.map_eq_some_iff.mp (of_decide_eq_true k4)
      exact ⟨s, by rw [of_decide_eq_true k1], of_decide_eq_true k2, of_decide_eq_true k3, ar, z1, z2⟩
  · exact stsB_ok h5
structure XDOk (x : XDf) : Prop where
  chk : xtB x = true
  binds : ∀ (cl : List (Str × Addr)) (c : Addr) (doc pm ctv : Value) (us : List Value), us.length = x.ps.length → bindArgs ((x.nf cl c).fd doc pm ctv) ⟨us, []⟩ = pure (x.ps.zip us)
/-! ### what the written part says -/
abbrev FnZ : Type := Option (Str × Str × Arguments × FuncBody × Scope × Addr × List Str × Addr)
def fnZ (K : PySem.W.Frag) (x : XDf) : FnZ := (He.fnW K (xname x.z, some "__init__")).map fun q => (q.1, q.2.1, q.2.2.1, q.2.2.2.1, q.2.2.2.2.1, q.2.2.2.2.2.1, q.2.2.2.2.2.2.1.map (·.1), q.2.2.2.2.2.2.2)
def XDf.val (x : XDf) : FnZ := some ("__init__", x.qual, defArgs x.st, .stmts (defBody x.st), defScope x.st, mainGlobals, ["__class__"], builtinsNs)
def oexB (K : PySem.W.Frag) (C : Addr) : Bool := (match K.lookup C with
  | some ⟨.type t, _, .cls cd, sl⟩ => decide (t = "type") && (match cd.mro, sl.toList with
    | .ref C' :: bm, [_, _, _, _, some (.builtin n), _] => C' == C && n == "ValueError.__new__" && !cd.hasDel && cd.hasDict && PySem.HandSPX.refsVE bm
    | _, _ => false)
  | _ => false) && He.eqO (PySem.W.findIn K (.ref C) "__setattr__") (some (some (.builtin "object.__setattr__"))) && decide (PySem.W.subIn K (.ref C) (.type "BaseException") = some true) && decide (PySem.W.typeIn K (.ref C) = some (.type "type")) && PySem.W.keepIn K (.ref C)
theorem oexB_ok {K : PySem.W.Frag} {C : Addr} (h : oexB K C = true) : OexC K C := by
  unfold oexB at h
  obtain ⟨h, h5⟩ := b2 h
  obtain ⟨h, h4⟩ := b2 h
  obtain ⟨h, h3⟩ := b2 h
  obtain ⟨h1, h2⟩ := b2 h
  refine ⟨?_, He.eqO_ok h2, of_decide_eq_true h3, of_decide_eq_true h4, h5⟩
  split at h1
  · rename_i t dd cd sl ho
    obtain ⟨e, g1⟩ := b2 h1
    cases of_decide_eq_true e
    split at g1
    · rename_i C' bm k0 k1 k2 k3 n k5 hm hs
      simp only [Bool.and_eq_true, beq_iff_eq, Bool.not_eq_true'] at g1
      have q1 := g1.1.1.1.1
      have q2 := g1.1.1.1.2
      have hdel := g1.1.1.2
      have hdct := g1.1.2
      have ht := g1.2
      subst q1 q2
      obtain ⟨nm, bs, mro, ns, qn, hd, sn, sub, ab, col, del⟩ := cd
      dsimp only at hm hdel hdct
      subst hm hdel hdct
      have hsl : sl = #[k0, k1, k2, k3, some (.builtin "ValueError.__new__"), k5] := by
        obtain ⟨l⟩ := sl
        simp only at hs
        rw [hs]
      subst hsl
      exact ⟨nm, qn, ns, bs, bm, sn, sub, ab, col, dd, k0, k1, k2, k3, k5, ho, ht⟩
    · cases g1
  · cases h1
def fileB (P : Program) (K : PySem.W.Frag) (c : Addr) : Bool := match K.lookup c with
  | some ⟨_, _, .fields vs, _⟩ => (match (vs[2]? : Option Value) with
    | some (Value.str file _) => (P.main.file : Str) == file
    | _ => false)
  | _ => false
theorem fileB_ok {P : Program} {K : PySem.W.Frag} {c : Addr} (h : fileB P K c = true) : ∃ ccl cdd vs ccs file tf, K.lookup c = some ⟨ccl, cdd, .fields vs, ccs⟩ ∧ vs[2]? = some (.str file tf) ∧ ((P.main.file : Str) == file) = true := by
  unfold fileB at h
  split at h
  · rename_i ho
    split at h
    · rename_i hv
      exact ⟨_, _, _, _, _, _, ho, hv, h⟩
    · cases h
  · cases h
def cellB (K : PySem.W.Frag) (cc C : Addr) : Bool := match K.lookup cc with
  | some ⟨_, _, .cell (some (.ref D)), _⟩ => D == C
  | _ => false
theorem cellB_ok {K : PySem.W.Frag} {cc C : Addr} (h : cellB K cc C = true) : ∃ ccl cld csl, K.lookup cc = some ⟨ccl, cld, .cell (some (.ref C)), csl⟩ := by
  unfold cellB at h
  split at h
  · rename_i ho
    cases eq_of_beq h
    exact ⟨_, _, _, ho⟩
  · cases h
def xinF (P : Program) (K : PySem.W.Frag) (x : XDf) (C fI c cc : Addr) : Bool := oexB K C && PySem.W.codeIn K (.ref c) x.qual && fileB P K c && !((P.main.scope.names.lookup ("super" : Str)).isSome) && cellB K cc C && He.eqO (PySem.W.findIn K (.ref C) "__init__") (some (some (.ref fI))) &&
  He.eqO (PySem.W.ks_superIn K C C "__init__") (some (some (.builtin "ValueError.__init__"))) && He.eqO (PySem.W.nsIn K cStatics "thirdparty.any") (some none) && decide (PySem.W.mroIn K C (.ref C) = some true) && decide (PySem.W.mroIn K C (.type "ValueError") = some true) &&
  (xfields x.z).all (fun f => He.eqO (PySem.W.findIn K (.ref C) f) (some none)) && He.eqO (PySem.W.nsIn K mainGlobals (xname x.z)) (some (some (.ref C)))
def xinB (P : Program) (K : PySem.W.Frag) (x : XDf) : Bool := match K.lookup (He.fAd K (xname x.z, some "__init__")) with
  | some ⟨.type t, _, .func fd, _⟩ => decide (t = "function") && (match fd.code, fd.closure, fd.defaults, fd.kwdefaults, fd.annotations with
    | .ref c, [(_, cc)], .none, .none, none => xinF P K x (He.ga K (xname x.z)) (He.fAd K (xname x.z, some "__init__")) c cc
    | _, _, _, _, _ => false)
  | _ => false
theorem xin_ok {P : Program} {K : PySem.W.Frag} {x : XDf} (h : xinB P K x = true) (e : fnZ K x = x.val) : ∃ C fI cc c, XIn P K C fI cc (x.nf [("__class__", cc)] c) ∧ (∀ f ∈ xfields x.z, PySem.W.findIn K (.ref C) f = some none) ∧ PySem.W.nsIn K mainGlobals (xname x.z) = some (some (.ref C)) := by
  unfold xinB at h
  split at h
  · rename_i t od fd sl ho
    obtain ⟨h1, h⟩ := b2 h
    cases of_decide_eq_true h1
    unfold fnZ He.fnW at e
    rw [ho] at e
    obtain ⟨n1, n2, n3, n4, n5, n6, n7, n8, n9, n10, n11, n12, n13, n14, n15⟩ := fd
    dsimp only at h
    split at h
    · rename_i c nm0 cc _
      have e2 : (some (n1, n2, n3, n4, n5, n6, [nm0], n15) : FnZ) = XDf.val x := e
      unfold XDf.val at e2
      simp only [Option.some.injEq, Prod.mk.injEq, List.map_cons, List.map_nil, List.cons.injEq, and_true] at e2
      obtain ⟨z1, z2, z3, z4, z5, z6, z7, z8⟩ := e2
      subst z1 z2 z3 z4 z5 z6 z7 z8
      unfold xinF at h
      obtain ⟨h, k12⟩ := b2 h
      obtain ⟨h, k11⟩ := b2 h
      obtain ⟨h, k10⟩ := b2 h
      obtain ⟨h, k9⟩ := b2 h
      obtain ⟨h, k8⟩ := b2 h
      obtain ⟨h, k7⟩ := b2 h
      obtain ⟨h, k6⟩ := b2 h
      obtain ⟨h, k5⟩ := b2 h
      obtain ⟨h, k4⟩ := b2 h
      obtain ⟨h, k3⟩ := b2 h
      obtain ⟨k1, k2⟩ := b2 h
      refine ⟨_, _, cc, c, ⟨oexB_ok k1, ⟨od, sl, n10, n11, n14, ho⟩, k2, fileB_ok k3, by rw [Bool.not_eq_true'] at k4; exact k4, rfl, cellB_ok k5, He.eqO_ok k6, ?_, He.eqO_ok k7, He.eqO_ok k8, of_decide_eq_true k9, of_decide_eq_true k10⟩, fun f hf => He.eqO_ok (List.all_eq_true.mp k11 f hf), He.eqO_ok k12⟩
      show (K.lookup _).map (·.cls) = _
      rw [ho]
      rfl
    · cases h
  · cases h
/-! ### classes among each other -/
def excCB (K : PySem.W.Frag) (D : Addr) : Bool := He.eqO (PySem.W.findIn K (.ref D) "__getattribute__") (some (some (.builtin "BaseException.__getattribute__"))) && He.eqO (PySem.W.findIn K (.ref D) "__getattr__") (some none) && decide (PySem.W.subIn K (.ref D) (.type "BaseException") = some true) && PySem.W.hasDictIn K D &&
  He.eqO (PySem.W.findIn K (.ref D) "__class__") (some (some (.builtin "object.__class__"))) && He.eqO (PySem.W.specialIn K (.builtin "object.__class__") "__get__") (some (some (.builtin "getset_descriptor.__get__"))) && decide (PySem.W.takesIn K (.builtin "object.__class__") = some true) && decide (PySem.W.mroIn K D (.type "object") = some true)
theorem excCB_ok {K : PySem.W.Frag} {D : Addr} (h : excCB K D = true) : ExcC K D := by
  unfold excCB at h
  obtain ⟨h, k8⟩ := b2 h
  obtain ⟨h, k7⟩ := b2 h
  obtain ⟨h, k6⟩ := b2 h
  obtain ⟨h, k5⟩ := b2 h
  obtain ⟨h, k4⟩ := b2 h
  obtain ⟨h, k3⟩ := b2 h
  obtain ⟨k1, k2⟩ := b2 h
  exact ⟨He.eqO_ok k1, He.eqO_ok k2, of_decide_eq_true k3, k4, He.eqO_ok k5, He.eqO_ok k6, of_decide_eq_true k7, of_decide_eq_true k8⟩
def cuB (K : PySem.W.Frag) (z : Nat) : Option Value := match PySem.W.nsIn K mainGlobals (xname z) with
  | some (some u) => some u
  | _ => if z = 0 then some (.type "ValueError") else none
def clB (K : PySem.W.Frag) (z : Nat) : Bool := match PySem.W.nsIn K mainGlobals (xname z) with
  | some none => true
  | some (some (.ref D)) => Nat.blt 0 z && Nat.blt z 10 && excCB K D && xfB K D && (xfields z).all (fun f => He.eqO (PySem.W.findIn K (.ref D) f) (some none)) && (List.range 10).all fun z' => match cuB K z' with
    | none => true
    | some u => decide (PySem.W.kitOne K (.ref D) u = some (inh z z')) && decide (PySem.W.exmOne K (.ref D) u = some (inh z z'))
  | _ => false
def xkB (K : PySem.W.Frag) : Bool := (List.range 11).all (clB K)
theorem xname_big {z : Nat} (h : ¬ z < 11) : xname z = xname 10 := by
  match z, h with
  | 0, h => exact absurd (by decide) h
  | 1, h => exact absurd (by decide) h
  | 2, h => exact absurd (by decide) h
  | 3, h => exact absurd (by decide) h
  | 4, h => exact absurd (by decide) h
  | 5, h => exact absurd (by decide) h
  | 6, h => exact absurd (by decide) h
  | 7, h => exact absurd (by decide) h
  | 8, h => exact absurd (by decide) h
  | 9, h => exact absurd (by decide) h
  | 10, h => exact absurd (by decide) h
  | z + 11, _ => rfl
section
variable {K : PySem.W.Frag} {h : Heap} {mg : Str → Option Value}
theorem cl_at (X : K.In h) (G : h.Ns mainGlobals mg) (q : xkB K = true) {z : Nat} {u : Value} (e : mg (xname z) = some u) : z < 10 ∧ 0 < z ∧ ∃ D, u = .ref D ∧ PySem.W.nsIn K mainGlobals (xname z) = some (some u) ∧ clB K z = true := by
  have key : ∀ y, y < 11 → mg (xname y) = some u → y < 10 ∧ 0 < y ∧ ∃ D, u = .ref D ∧ PySem.W.nsIn K mainGlobals (xname y) = some (some u) ∧ clB K y = true := fun y hy e => by
    have c := List.all_eq_true.mp q y (List.mem_range.mpr hy)
    have c0 := c
    unfold clB at c
    cases en : PySem.W.nsIn K mainGlobals (xname y) with
    | none => rw [en] at c; cases c
    | some o =>
      cases o with
      | none =>
        rw [PySem.W.mg_none_of X G en] at e
        cases e
      | some v =>
        have ev := (PySem.W.mg_of X G en).symm.trans e
        cases ev
        rw [en] at c
        cases u with
        | ref D =>
          have c : (Nat.blt 0 y && Nat.blt y 10 && excCB K D && xfB K D && (xfields y).all (fun f => He.eqO (PySem.W.findIn K (.ref D) f) (some none)) && (List.range 10).all fun z' => match cuB K z' with
            | none => true
            | some u => decide (PySem.W.kitOne K (.ref D) u = some (inh y z')) && decide (PySem.W.exmOne K (.ref D) u = some (inh y z'))) = true := c
          obtain ⟨c, _⟩ := b2 c
          obtain ⟨c, _⟩ := b2 c
          obtain ⟨c, _⟩ := b2 c
          obtain ⟨c, _⟩ := b2 c
          obtain ⟨c1, c2⟩ := b2 c
          exact ⟨by simpa using c2, by simpa using c1, D, rfl, rfl, c0⟩
        | _ => cases c
  by_cases hz : z < 11
  · exact key z hz e
  · rw [xname_big hz] at e
    exact absurd (key 10 (by decide) e).1 (by decide)
theorem xk_ok (X : K.In h) (G : h.Ns mainGlobals mg) (q : xkB K = true) : XKit K mg := by
  refine ⟨fun z cls e => ?_, fun z D z' u e cu => ?_⟩
  · obtain ⟨h1, h2, D, rfl, h3, c⟩ := cl_at X G q e
    unfold clB at c
    rw [h3] at c
    obtain ⟨c, _⟩ := b2 (show (Nat.blt 0 z && Nat.blt z 10 && excCB K D && xfB K D && (xfields z).all (fun f => He.eqO (PySem.W.findIn K (.ref D) f) (some none)) && _) = true from c)
    obtain ⟨c, c5⟩ := b2 c
    obtain ⟨c, c4⟩ := b2 c
    obtain ⟨c, c3⟩ := b2 c
    exact ⟨D, rfl, excCB_ok c3, xfB_ok c4, fun f hf => He.eqO_ok (List.all_eq_true.mp c5 f hf)⟩
  · obtain ⟨h1, h2, D', eD, h3, c⟩ := cl_at X G q e
    cases eD
    have cub : z' < 10 ∧ cuB K z' = some u := by
      rcases cu with cu | ⟨rfl, cu, rfl⟩
      · obtain ⟨k1, k2, D2, rfl, k3, _⟩ := cl_at X G q cu
        refine ⟨k1, ?_⟩
        unfold cuB
        rw [k3]
      · refine ⟨by decide, ?_⟩
        have c0 := List.all_eq_true.mp q 0 (List.mem_range.mpr (by decide))
        unfold clB at c0
        unfold cuB
        cases en : PySem.W.nsIn K mainGlobals (xname 0) with
        | none => rw [en] at c0; cases c0
        | some o =>
          cases o with
          | none => rfl
          | some v =>
            have := PySem.W.mg_of X G en
            rw [show xname 0 = "ValueError" from rfl, cu] at this
            cases this
    unfold clB at c
    rw [h3] at c
    obtain ⟨_, c6⟩ := b2 (show (_ && (List.range 10).all fun z' => match cuB K z' with
      | none => true
      | some u => decide (PySem.W.kitOne K (.ref D) u = some (inh z z')) && decide (PySem.W.exmOne K (.ref D) u = some (inh z z'))) = true from c)
    have c7 := List.all_eq_true.mp c6 z' (List.mem_range.mpr cub.1)
    rw [cub.2] at c7
    obtain ⟨c8, c9⟩ := b2 c7
    exact ⟨of_decide_eq_true c8, of_decide_eq_true c9⟩
theorem cu_ok (X : K.In h) (G : h.Ns mainGlobals mg) (q : xkB K = true) {z : Nat} (c : (cuB K z).isSome = true) : ∃ u, CU mg z u := by
  unfold cuB at c
  cases en : PySem.W.nsIn K mainGlobals (xname z) with
  | none =>
    rw [en] at c
    by_cases hz : z = 0
    · subst hz
      have c0 := List.all_eq_true.mp q 0 (List.mem_range.mpr (by decide))
      unfold clB at c0
      rw [en] at c0
      cases c0
    · rw [if_neg hz] at c
      cases c
  | some o =>
    cases o with
    | some v => exact ⟨v, .inl (PySem.W.mg_of X G en)⟩
    | none =>
      rw [en] at c
      by_cases hz : z = 0
      · subst hz
        exact ⟨_, .inr ⟨rfl, PySem.W.mg_none_of X G en, rfl⟩⟩
      · rw [if_neg hz] at c
        cases c
end
/-- a def from which nothing may come but its value -/
theorem fn_never {P : Program} {w : World} {K : PySem.W.Frag} {mg : Str → Option Value} {base : Heap} {k : Nat} {f : Addr} {fd : FuncData} {ps : List Str} {sp : Sp} (F : FnOk P w K mg base (L2.CX P w) k f fd ps sp) : FnOk P w K mg base CX0 k f fd ps (fun vs H Q _ => sp vs H Q fun _ _ _ => False) :=
  ⟨fun vs H Q E h => F.len vs H Q _ h, fun A outer s H args us vs Q E hr e0 hb r h => codeAny_mono (F.run A outer s H args us vs Q _ hr e0 hb r h) fun o s' q => by
    cases o with
    | error e =>
      obtain ⟨_, _, _, _, _, _, _, _, _, _, _, _, z⟩ := q
      exact z.elim
    | ok fl => cases fl <;> exact q⟩
/-- a def's text within a class -/
def clsDef (s : Stmt) (j : Nat) : Stmt := match s with
  | .ClassDef _ _ _ b _ _ _ _ _ _ _ => b.getD j (.Pass ⟨0, 0, 0, 0⟩)
  | _ => .Pass ⟨0, 0, 0, 0⟩
/-! ### the Hook -/
abbrev AlX : Type := AlC × Bool × List FnZ
def obsX (P : Program) (fa : List He.Fa) (fn : List He.DefD) (cs : List (Str × PyData)) (xs : List Nat) (xd : List XDf) (K : PySem.W.Frag) : AlX := (obsC fa fn cs K, xkB K && xs.all (fun z => (cuB K z).isSome) && xd.all (xinB P K), xd.map (fnZ K))
def asX (g : Addr → Option Obj) (n : Nat) : List Addr := He.asD g n ++ [cStatics]
def obsXG (P : Program) (n : Nat) (fa : List He.Fa) (fn : List He.DefD) (cs : List (Str × PyData)) (xs : List Nat) (xd : List XDf) (g : Addr → Option Obj) : AlX := obsX P fa fn cs xs xd (He.frG g (asX g n))
structure SaysX (P : Program) (fa : List He.Fa) (fn : List He.DefD) (cs : List (Str × PyData)) (xs : List Nat) (xd : List XDf) (K : PySem.W.Frag) : Prop where
  d : He.SaysD fa fn K
  c : cs.all (conOk K) = true
  k : xkB K = true
  s : xs.all (fun z => (cuB K z).isSome) = true
  i : xd.all (xinB P K) = true
  f : xd.map (fnZ K) = xd.map XDf.val
def hookX (P : Program) (n : Nat) (fa : List He.Fa) (fn : List He.DefD) (cs : List (Str × PyData)) (xs : List Nat) (xd : List XDf) : PySem.W.Hook where
  α := AlX
  obs := fun s => obsXG P n fa fn cs xs xd s.heap.get?
  val := fun _ => ((He.valD fn, true), true, xd.map XDf.val)
  says := fun _ h => ∃ K : PySem.W.Frag, K.In h ∧ SaysX P fa fn cs xs xd K
  of := fun _ _ e => by
    have e2 := congrArg (fun z : AlX => z.2.1) e
    obtain ⟨e2, e4⟩ := b2 (show (xkB _ && xs.all (fun z => (cuB _ z).isSome) && xd.all (xinB P _)) = true from e2)
    obtain ⟨e2, e3⟩ := b2 e2
    exact ⟨_, He.frG_in, ⟨congrArg (fun z : AlX => z.1.1) e, congrArg (fun z : AlX => z.1.2) e, e2, e3, e4, congrArg (fun z : AlX => z.2.2) e⟩⟩
  keeps := fun _ _ _ ⟨K, hK, c⟩ k => ⟨K, PySem.W.Frag.In.keeps hK k, c⟩
theorem obsXG_eq {P : Program} {n : Nat} {fa : List He.Fa} {fn : List He.DefD} {cs : List (Str × PyData)} {xs : List Nat} {xd : List XDf} {g : Addr → Option Obj} {s : Shared} (h : ∀ a, g a = s.heap.get? a) : obsXG P n fa fn cs xs xd g = (hookX P n fa fn cs xs xd).obs s := by
  have e : g = s.heap.get? := funext h
  rw [e] <;> rfl
/-- a class may be raised -/
theorem xr_ok {P : Program} {K : PySem.W.Frag} {h : Heap} {mg : Str → Option Value} (X : K.In h) (G : h.Ns mainGlobals mg) {fa : List He.Fa} {fn : List He.DefD} {cs : List (Str × PyData)} {xs : List Nat} {xd : List XDf} (c : SaysX P fa fn cs xs xd K) (hx : ∀ x ∈ xd, XDOk x) (hsu : mg "super" = none) (hst : mg "str" = none)
    (z : Nat) (hz : (xd.map (·.z)).any (Nat.beq z) = true) : ∃ C, OexC K C ∧ mg (xname z) = some (.ref C) ∧ ∃ (fI : Addr), PySem.W.findIn K (.ref C) "__init__" = some (some (.ref fI)) ∧ PySem.W.typeIn K (.ref fI) = some (.type "function") ∧
    (∀ (w : World) (base : Heap), ∃ (fd : FuncData) (ps : List Str), FnOk P w K mg base (L2.CX P w) 1 fI fd ps (spIn K C (xfields z)) ∧ Binds K fd ps []) := by
  obtain ⟨y, hy, e⟩ := List.any_eq_true.mp hz
  obtain ⟨x, hxm, rfl⟩ := List.mem_map.mp hy
  cases Nat.eq_of_beq_eq_true e
  obtain ⟨i, hi⟩ := List.mem_iff_getElem?.mp hxm
  have ef : fnZ K x = x.val := by
    have := congrArg (fun l : List FnZ => l[i]?) c.f
    simp only [List.getElem?_map, hi, Option.map_some, Option.some.injEq] at this
    exact this
  obtain ⟨C, fI, cc, cd, T, hno, hns⟩ := xin_ok (List.all_eq_true.mp c.i x hxm) ef
  refine ⟨C, T.oex, PySem.W.mg_of X G hns, fI, T.iC, T.tI, fun w base => ?_⟩
  obtain ⟨doc, pm, ctv, F⟩ := init_ok (CX := L2.CX P w) (w := w) (mg := mg) (base := base) (k := 0) T (xtB_ok (hx x hxm).chk _ _) hno hsu hst
  exact ⟨_, _, F, Binds.all fun us hl => (hx x hxm).binds _ _ _ _ _ us hl⟩
end Rc

set_option Elab.async false
set_option linter.all false
set_option maxRecDepth 100000
set_option maxHeartbeats 1000000
namespace Rc
open PySem
theorem forL_run {body : PyData → Env → SO} {xs : List PyData} (I : Nat → Env → Prop) (R : SO → Prop)
    (step : ∀ i x ρ, xs[i]? = some x → I i ρ → match body x ρ with
      | .nx ρ' => I (i + 1) ρ'
      | .cnt ρ' => I (i + 1) ρ'
      | .brk ρ' => R (.nx ρ')
      | o => R o) (fin : ∀ ρ, I xs.length ρ → R (.nx ρ)) {ρ : Env} (h : I 0 ρ) : R (forL body xs ρ) := by
  have key : ∀ (n : Nat) (ρ : Env), n ≤ xs.length → I (xs.length - n) ρ → R (forL body (xs.drop (xs.length - n)) ρ) := by
    intro n
    induction n with
    | zero =>
      intro ρ _ h
      rw [Nat.sub_zero, List.drop_length]
      exact fin ρ (by rw [Nat.sub_zero] at h; exact h)
    | succ n ih =>
      intro ρ hn h
      have hl : xs.length - (n + 1) < xs.length := by omega
      rw [List.drop_eq_getElem_cons hl]
      have s := step _ _ ρ (List.getElem?_eq_getElem hl) h
      have e : xs.length - (n + 1) + 1 = xs.length - n := by omega
      rw [e] at s ⊢
      show R ((body _ ρ).turn fun ρ' => forL body _ ρ')
      generalize body (xs[xs.length - (n + 1)]) ρ = o at s ⊢
      cases o with
      | nx ρ' => exact ih ρ' (by omega) s
      | cnt ρ' => exact ih ρ' (by omega) s
      | brk ρ' => exact s
      | ret r ρ' => exact s
      | exc x ρ' => exact s
      | bad => exact s
  have z := key xs.length ρ (Nat.le_refl _) (by rw [Nat.sub_self]; exact h)
  rwa [Nat.sub_self, List.drop_zero] at z
theorem whlL_run {c : Env → Out Bool} {body : Env → SO} (I : Nat → Env → Prop) (R : SO → Prop)
    (step : ∀ m ρ, I m ρ → match c ρ with
      | .ok true ρ1 => (match body ρ1 with
        | .nx ρ' => ∃ m', m' < m ∧ I m' ρ'
        | .cnt ρ' => ∃ m', m' < m ∧ I m' ρ'
        | .brk ρ' => R (.nx ρ')
        | o => R o)
      | .ok false ρ1 => R (.nx ρ1)
      | .exc x ρ1 => R (.exc x ρ1)
      | .bad => R .bad) : ∀ (m fuel : Nat) (ρ : Env), m < fuel → I m ρ → R (whlL c body fuel ρ) := by
  intro m
  induction m using Nat.strongRecOn with
  | _ m ih =>
    intro fuel ρ hf h
    cases fuel with
    | zero => omega
    | succ fuel =>
      have s := step m ρ h
      show R ((c ρ).st fun t ρ1 => match t with
        | true => (body ρ1).turn fun ρ2 => whlL c body fuel ρ2
        | false => .nx ρ1)
      cases e : c ρ with
      | ok t ρ1 =>
        rw [e] at s
        cases t with
        | true =>
          show R ((body ρ1).turn fun ρ2 => whlL c body fuel ρ2)
          have s : (match body ρ1 with
            | .nx ρ' => ∃ m', m' < m ∧ I m' ρ'
            | .cnt ρ' => ∃ m', m' < m ∧ I m' ρ'
            | .brk ρ' => R (.nx ρ')
            | o => R o) := s
          generalize body ρ1 = o at s ⊢
          cases o with
          | nx ρ' =>
            obtain ⟨m', h1, h2⟩ := s
            exact ih m' h1 fuel ρ' (by omega) h2
          | cnt ρ' =>
            obtain ⟨m', h1, h2⟩ := s
            exact ih m' h1 fuel ρ' (by omega) h2
          | brk ρ' => exact s
          | ret r ρ' => exact s
          | exc x ρ' => exact s
          | bad => exact s
        | false => exact s
      | exc x ρ1 =>
        rw [e] at s
        exact s
      | bad =>
        rw [e] at s
        exact s
theorem compL_eq {turn : PyData → Env → Out (Option PyData)} {g : PyData → Option PyData} {ρ : Env} : ∀ (xs acc : List PyData), (∀ x ∈ xs, turn x ρ = .ok (g x) ρ) → acc.length + xs.length ≤ Lm → compL turn xs acc ρ = .ok (acc ++ xs.filterMap g) ρ
  | [], acc, _, _ => by rw [List.filterMap_nil, List.append_nil]; rfl
  | x :: xs, acc, h, hl => by
    have e := h x List.mem_cons_self
    show ((turn x ρ).bind fun r ρ' => match r with
      | none => compL turn xs acc ρ'
      | some d => if acc.length < Lm then compL turn xs (acc ++ [d]) ρ' else .bad) = _
    rw [e]
    rw [List.length_cons] at hl
    cases eg : g x with
    | none =>
      rw [List.filterMap_cons_none eg]
      exact compL_eq xs acc (fun y hy => h y (List.mem_cons_of_mem _ hy)) (by omega)
    | some d =>
      rw [List.filterMap_cons_some eg]
      show (if acc.length < Lm then compL turn xs (acc ++ [d]) ρ else .bad) = _
      rw [if_pos (by omega), compL_eq xs (acc ++ [d]) (fun y hy => h y (List.mem_cons_of_mem _ hy)) (by rw [List.length_append]; simp only [List.length_cons, List.length_nil]; omega), List.append_assoc]
      rfl
section
variable {α β : Type} {W : Wd} {ρ : Env}
theorem bind_ok_ {a : α} {f : α → Env → Out β} : Out.bind (.ok a ρ) f = f a ρ := Eq.trans rfl rfl
theorem st_ok_ {a : α} {f : α → Env → SO} : Out.st (.ok a ρ) f = f a ρ := Eq.trans rfl rfl
theorem opd_v {d : PyData} : (Out.ok (.v d) ρ).opd = .ok (.v d) ρ := Eq.trans rfl rfl
theorem opd_s {i : Nat} : (Out.ok (.s i) ρ).opd = .ok (.s i) ρ := Eq.trans rfl rfl
theorem opd_o {xs : List PyData} : (Out.ok (.o (.lst xs)) ρ).opd = .ok (.v (.list xs)) ρ := Eq.trans rfl rfl
theorem seq_nx {f : Env → SO} : SO.seq (.nx ρ) f = f ρ := Eq.trans rfl rfl
theorem seq_ret {f : Env → SO} {r : R} : SO.seq (.ret r ρ) f = .ret r ρ := Eq.trans rfl rfl
theorem seq_brk {f : Env → SO} : SO.seq (.brk ρ) f = .brk ρ := Eq.trans rfl rfl
theorem seq_cnt {f : Env → SO} : SO.seq (.cnt ρ) f = .cnt ρ := Eq.trans rfl rfl
end
abbrev iL (l : List Int) : List PyData := l.map .int
theorem atI_ok {xs : List PyData} {i : Nat} {d : PyData} (h : xs[i]? = some d) : L2.atI xs (i : Int) = some d := by
  have hl := (List.getElem?_eq_some_iff.mp h).1
  unfold L2.atI L2.ixN
  rw [if_pos (by omega), if_pos (by omega)]
  exact h
theorem atI_at {xs : List PyData} {i : Int} {d : PyData} (h0 : 0 ≤ i) (h : xs[i.toNat]? = some d) : L2.atI xs i = some d := by
  have := atI_ok h
  rwa [Int.toNat_of_nonneg h0] at this
theorem atI_last {xs : List PyData} {d : PyData} (h : xs[xs.length - 1]? = some d) : L2.atI xs (-1) = some d := by
  have hl := (List.getElem?_eq_some_iff.mp h).1
  unfold L2.atI L2.ixN
  rw [if_neg (by omega), if_pos (by omega)]
  have e : ((-1 : Int) + xs.length).toNat = xs.length - 1 := by omega
  show xs[((-1 : Int) + xs.length).toNat]? = some d
  rw [e]
  exact h
theorem bools_map (l : List Bool) : bools (l.map .bool) = some l := by
  induction l with
  | nil => rfl
  | cons b l ih => show (bools (l.map .bool)).map (b :: ·) = _; rw [ih]; rfl
theorem intsD_map (l : List Int) : intsD (iL l) = some l := by
  induction l with
  | nil => rfl
  | cons b l ih => show (intsD (iL l)).map (b :: ·) = _; rw [ih]; rfl
theorem rng1L_get {n : Int} {i : Nat} {x : PyData} (h : (rng1L n)[i]? = some x) : x = .int i ∧ i < n.toNat := by
  unfold rng1L at h
  rw [List.getElem?_map] at h
  obtain ⟨k, h1, h2⟩ := Option.map_eq_some_iff.mp h
  obtain ⟨hl, h3⟩ := List.getElem?_eq_some_iff.mp h1
  rw [List.length_range] at hl
  rw [List.getElem_range] at h3
  subst h3
  exact ⟨h2.symm, hl⟩
theorem rng1L_len (n : Int) : (rng1L n).length = n.toNat := by
  unfold rng1L
  rw [List.length_map, List.length_range]
theorem nodup1 {i : Nat} : [i].Nodup := by simp
end Rc

set_option Elab.async false
set_option linter.all false
set_option maxRecDepth 100000
set_option maxHeartbeats 1000000
namespace Rc
open PySem
theorem e_int {W : Wd} {n : Int} {ρ : Env} : ev W (.int n) ρ = .ok (.v (.int n)) ρ := Eq.trans rfl rfl
theorem e_str {W : Wd} {n : Str} {ρ : Env} : ev W (.str n) ρ = .ok (.v (.str n)) ρ := Eq.trans rfl rfl
theorem e_bl {W : Wd} {n : Bool} {ρ : Env} : ev W (.bl n) ρ = .ok (.v (.bool n)) ρ := Eq.trans rfl rfl
theorem e_non {W : Wd} {ρ : Env} : ev W .non ρ = .ok (.v .none) ρ := Eq.trans rfl rfl
theorem e_glob {W : Wd} {g : Nat} {ρ : Env} : ev W (.glob g) ρ = .ok (.v (W.C g)) ρ := Eq.trans rfl rfl
def vr (s : Option Sl) (i : Nat) (ρ : Env) : Out R := match s with
  | some (.v d) => .ok (.v d) ρ
  | some (.o _) => .ok (.s i) ρ
  | _ => .bad
theorem vr_v {d : PyData} {i : Nat} {ρ : Env} : vr (some (.v d)) i ρ = .ok (.v d) ρ := Eq.trans rfl rfl
theorem vr_o {b : Ob} {i : Nat} {ρ : Env} : vr (some (.o b)) i ρ = .ok (.s i) ρ := Eq.trans rfl rfl
theorem e_var {W : Wd} {i : Nat} {ρ : Env} : ev W (.var i) ρ = vr ρ[i]? i ρ := Eq.trans rfl rfl
def kBin2 (op : Operator) (x : R) : R → Env → Out R := fun y ρ => match view ρ x, view ρ y with
  | some d, some e => optR ρ (binOp op d e)
  | _, _ => .bad
theorem kBin2_ap {op : Operator} {x : R} {y : R} {ρ : Env} : kBin2 op x y ρ = match view ρ x, view ρ y with
  | some d, some e => optR ρ (binOp op d e)
  | _, _ => .bad := Eq.trans rfl rfl
def kBin1 (W : Wd) (op : Operator) (b : Ex) : R → Env → Out R := fun x ρ => (ev W b ρ).opd.bind (kBin2 op x)
theorem kBin1_ap {W : Wd} {op : Operator} {b : Ex} {x : R} {ρ : Env} : kBin1 W op b x ρ = (ev W b ρ).opd.bind (kBin2 op x) := Eq.trans rfl rfl
theorem e_bin {W : Wd} {op : Operator} {a : Ex} {b : Ex} {ρ : Env} : ev W (.bin op a b) ρ = (ev W a ρ).opd.bind (kBin1 W op b) := Eq.trans rfl rfl
def kNeg  : R → Env → Out R := fun x ρ => match view ρ x with
  | some (.int i) => .ok (.v (.int (-i))) ρ
  | _ => .bad
theorem kNeg_ap {x : R} {ρ : Env} : kNeg  x ρ = match view ρ x with
  | some (.int i) => .ok (.v (.int (-i))) ρ
  | _ => .bad := Eq.trans rfl rfl
theorem e_neg {W : Wd} {a : Ex} {ρ : Env} : ev W (.neg a) ρ = (ev W a ρ).opd.bind kNeg := Eq.trans rfl rfl
def kNot  : R → Env → Out R := fun x ρ => match x with
  | .v (.bool b) => .ok (.v (.bool (!b))) ρ
  | _ => .bad
theorem kNot_ap {x : R} {ρ : Env} : kNot  x ρ = match x with
  | .v (.bool b) => .ok (.v (.bool (!b))) ρ
  | _ => .bad := Eq.trans rfl rfl
theorem e_nott {W : Wd} {a : Ex} {ρ : Env} : ev W (.nott a) ρ = (ev W a ρ).bind kNot := Eq.trans rfl rfl
def kAnd (W : Wd) (b : Ex) : R → Env → Out R := fun x ρ => match x with
  | .v (.bool true) => ev W b ρ
  | .v (.bool false) => .ok (.v (.bool false)) ρ
  | _ => .bad
theorem kAnd_ap {W : Wd} {b : Ex} {x : R} {ρ : Env} : kAnd W b x ρ = match x with
  | .v (.bool true) => ev W b ρ
  | .v (.bool false) => .ok (.v (.bool false)) ρ
  | _ => .bad := Eq.trans rfl rfl
theorem e_and {W : Wd} {a : Ex} {b : Ex} {ρ : Env} : ev W (.and a b) ρ = (ev W a ρ).bind (kAnd W b) := Eq.trans rfl rfl
def kOr (W : Wd) (b : Ex) : R → Env → Out R := fun x ρ => match x with
  | .v (.bool true) => .ok (.v (.bool true)) ρ
  | .v (.bool false) => ev W b ρ
  | _ => .bad
theorem kOr_ap {W : Wd} {b : Ex} {x : R} {ρ : Env} : kOr W b x ρ = match x with
  | .v (.bool true) => .ok (.v (.bool true)) ρ
  | .v (.bool false) => ev W b ρ
  | _ => .bad := Eq.trans rfl rfl
theorem e_or {W : Wd} {a : Ex} {b : Ex} {ρ : Env} : ev W (.or a b) ρ = (ev W a ρ).bind (kOr W b) := Eq.trans rfl rfl
def kCmp2 (op : CmpOp) (x : R) : R → Env → Out R := fun y ρ => match view ρ x, view ρ y with
  | some d, some e => optB ρ (cmpOp op d e)
  | _, _ => .bad
theorem kCmp2_ap {op : CmpOp} {x : R} {y : R} {ρ : Env} : kCmp2 op x y ρ = match view ρ x, view ρ y with
  | some d, some e => optB ρ (cmpOp op d e)
  | _, _ => .bad := Eq.trans rfl rfl
def kCmp1 (W : Wd) (op : CmpOp) (b : Ex) : R → Env → Out R := fun x ρ => (ev W b ρ).opd.bind (kCmp2 op x)
theorem kCmp1_ap {W : Wd} {op : CmpOp} {b : Ex} {x : R} {ρ : Env} : kCmp1 W op b x ρ = (ev W b ρ).opd.bind (kCmp2 op x) := Eq.trans rfl rfl
theorem e_cmp {W : Wd} {op : CmpOp} {a : Ex} {b : Ex} {ρ : Env} : ev W (.cmp op a b) ρ = (ev W a ρ).opd.bind (kCmp1 W op b) := Eq.trans rfl rfl
def kCh3 (op2 : CmpOp) (e : PyData) : R → Env → Out R := fun z ρ => match z with
  | .v f => optB ρ (cmpOp op2 e f)
  | _ => .bad
theorem kCh3_ap {op2 : CmpOp} {e : PyData} {z : R} {ρ : Env} : kCh3 op2 e z ρ = match z with
  | .v f => optB ρ (cmpOp op2 e f)
  | _ => .bad := Eq.trans rfl rfl
def kCh2 (W : Wd) (op : CmpOp) (op2 : CmpOp) (c : Ex) (x : R) : R → Env → Out R := fun y ρ => match x, y with
  | .v d, .v e => (match cmpOp op d e with
    | some true => (ev W c ρ).opd.bind (kCh3 op2 e)
    | some false => .ok (.v (.bool false)) ρ
    | none => .bad)
  | _, _ => .bad
theorem kCh2_ap {W : Wd} {op : CmpOp} {op2 : CmpOp} {c : Ex} {x : R} {y : R} {ρ : Env} : kCh2 W op op2 c x y ρ = match x, y with
  | .v d, .v e => (match cmpOp op d e with
    | some true => (ev W c ρ).opd.bind (kCh3 op2 e)
    | some false => .ok (.v (.bool false)) ρ
    | none => .bad)
  | _, _ => .bad := Eq.trans rfl rfl
def kCh1 (W : Wd) (op : CmpOp) (op2 : CmpOp) (b : Ex) (c : Ex) : R → Env → Out R := fun x ρ => (ev W b ρ).opd.bind (kCh2 W op op2 c x)
theorem kCh1_ap {W : Wd} {op : CmpOp} {op2 : CmpOp} {b : Ex} {c : Ex} {x : R} {ρ : Env} : kCh1 W op op2 b c x ρ = (ev W b ρ).opd.bind (kCh2 W op op2 c x) := Eq.trans rfl rfl
theorem e_cmp2 {W : Wd} {op : CmpOp} {op2 : CmpOp} {a : Ex} {b : Ex} {c : Ex} {ρ : Env} : ev W (.cmp2 op op2 a b c) ρ = (ev W a ρ).opd.bind (kCh1 W op op2 b c) := Eq.trans rfl rfl
def kIte (W : Wd) (a : Ex) (b : Ex) : Bool → Env → Out R := fun t ρ => match t with
  | true => ev W a ρ
  | false => ev W b ρ
theorem kIte_ap {W : Wd} {a : Ex} {b : Ex} {t : Bool} {ρ : Env} : kIte W a b t ρ = match t with
  | true => ev W a ρ
  | false => ev W b ρ := Eq.trans rfl rfl
theorem e_ite {W : Wd} {c : Ts} {a : Ex} {b : Ex} {ρ : Env} : ev W (.ite c a b) ρ = (evT W c ρ).bind (kIte W a b) := Eq.trans rfl rfl
def kTup  : List PyData → Env → Out R := fun ds ρ => .ok (.v (.tuple ds)) ρ
theorem kTup_ap {ds : List PyData} {ρ : Env} : kTup  ds ρ = .ok (.v (.tuple ds)) ρ := Eq.trans rfl rfl
theorem e_tup {W : Wd} {es : Exs} {ρ : Env} : ev W (.tup es) ρ = (evs W es ρ).bind kTup := Eq.trans rfl rfl
def kLst  : List PyData → Env → Out R := fun ds ρ => .ok (.o (.lst ds)) ρ
theorem kLst_ap {ds : List PyData} {ρ : Env} : kLst  ds ρ = .ok (.o (.lst ds)) ρ := Eq.trans rfl rfl
theorem e_lst {W : Wd} {es : Exs} {ρ : Env} : ev W (.lst es) ρ = (evs W es ρ).bind kLst := Eq.trans rfl rfl
def kSub2 (x : R) : R → Env → Out R := fun y ρ => match view ρ x, view ρ y with
  | some d, some e => optV ρ (subOp d e)
  | _, _ => .bad
theorem kSub2_ap {x : R} {y : R} {ρ : Env} : kSub2 x y ρ = match view ρ x, view ρ y with
  | some d, some e => optV ρ (subOp d e)
  | _, _ => .bad := Eq.trans rfl rfl
def kSub1 (W : Wd) (b : Ex) : R → Env → Out R := fun x ρ => (ev W b ρ).opd.bind (kSub2 x)
theorem kSub1_ap {W : Wd} {b : Ex} {x : R} {ρ : Env} : kSub1 W b x ρ = (ev W b ρ).opd.bind (kSub2 x) := Eq.trans rfl rfl
theorem e_sub {W : Wd} {a : Ex} {b : Ex} {ρ : Env} : ev W (.sub a b) ρ = (ev W a ρ).opd.bind (kSub1 W b) := Eq.trans rfl rfl
def kSlc3 (x : R) (y : R) : R → Env → Out R := fun z ρ => match view ρ x, y, z with
  | some d, .v (.int i), .v (.int j) => optR ρ (slcOp d (some i) (some j))
  | _, _, _ => .bad
theorem kSlc3_ap {x : R} {y : R} {z : R} {ρ : Env} : kSlc3 x y z ρ = match view ρ x, y, z with
  | some d, .v (.int i), .v (.int j) => optR ρ (slcOp d (some i) (some j))
  | _, _, _ => .bad := Eq.trans rfl rfl
def kSlc2 (W : Wd) (hi : Ex) (x : R) : R → Env → Out R := fun y ρ => (ev W hi ρ).opd.bind (kSlc3 x y)
theorem kSlc2_ap {W : Wd} {hi : Ex} {x : R} {y : R} {ρ : Env} : kSlc2 W hi x y ρ = (ev W hi ρ).opd.bind (kSlc3 x y) := Eq.trans rfl rfl
def kSlc1 (W : Wd) (lo : Ex) (hi : Ex) : R → Env → Out R := fun x ρ => (ev W lo ρ).opd.bind (kSlc2 W hi x)
theorem kSlc1_ap {W : Wd} {lo : Ex} {hi : Ex} {x : R} {ρ : Env} : kSlc1 W lo hi x ρ = (ev W lo ρ).opd.bind (kSlc2 W hi x) := Eq.trans rfl rfl
theorem e_slc {W : Wd} {a : Ex} {b : Ex} {c : Ex} {ρ : Env} : ev W (.slc a b c) ρ = (ev W a ρ).opd.bind (kSlc1 W b c) := Eq.trans rfl rfl
def kSlL2 (x : R) : R → Env → Out R := fun y ρ => match view ρ x, y with
  | some d, .v (.int i) => optR ρ (slcOp d (some i) none)
  | _, _ => .bad
theorem kSlL2_ap {x : R} {y : R} {ρ : Env} : kSlL2 x y ρ = match view ρ x, y with
  | some d, .v (.int i) => optR ρ (slcOp d (some i) none)
  | _, _ => .bad := Eq.trans rfl rfl
def kSlL1 (W : Wd) (b : Ex) : R → Env → Out R := fun x ρ => (ev W b ρ).opd.bind (kSlL2 x)
theorem kSlL1_ap {W : Wd} {b : Ex} {x : R} {ρ : Env} : kSlL1 W b x ρ = (ev W b ρ).opd.bind (kSlL2 x) := Eq.trans rfl rfl
theorem e_slcL {W : Wd} {a : Ex} {b : Ex} {ρ : Env} : ev W (.slcL a b) ρ = (ev W a ρ).opd.bind (kSlL1 W b) := Eq.trans rfl rfl
def kSlH2 (x : R) : R → Env → Out R := fun y ρ => match view ρ x, y with
  | some d, .v (.int i) => optR ρ (slcOp d none (some i))
  | _, _ => .bad
theorem kSlH2_ap {x : R} {y : R} {ρ : Env} : kSlH2 x y ρ = match view ρ x, y with
  | some d, .v (.int i) => optR ρ (slcOp d none (some i))
  | _, _ => .bad := Eq.trans rfl rfl
def kSlH1 (W : Wd) (b : Ex) : R → Env → Out R := fun x ρ => (ev W b ρ).opd.bind (kSlH2 x)
theorem kSlH1_ap {W : Wd} {b : Ex} {x : R} {ρ : Env} : kSlH1 W b x ρ = (ev W b ρ).opd.bind (kSlH2 x) := Eq.trans rfl rfl
theorem e_slcH {W : Wd} {a : Ex} {b : Ex} {ρ : Env} : ev W (.slcH a b) ρ = (ev W a ρ).opd.bind (kSlH1 W b) := Eq.trans rfl rfl
def kRev  : R → Env → Out R := fun x ρ => match view ρ x with
  | some d => optR ρ (revOp d)
  | _ => .bad
theorem kRev_ap {x : R} {ρ : Env} : kRev  x ρ = match view ρ x with
  | some d => optR ρ (revOp d)
  | _ => .bad := Eq.trans rfl rfl
theorem e_rev {W : Wd} {a : Ex} {ρ : Env} : ev W (.rev a) ρ = (ev W a ρ).opd.bind kRev := Eq.trans rfl rfl
def kCall (W : Wd) (f : Nat) : List CA → Env → Out R := fun cas ρ => callF (W.Γ f) cas ρ
theorem kCall_ap {W : Wd} {f : Nat} {cas : List CA} {ρ : Env} : kCall W f cas ρ = callF (W.Γ f) cas ρ := Eq.trans rfl rfl
theorem e_call {W : Wd} {f : Nat} {es : Exs} {ρ : Env} : ev W (.call f es) ρ = (evC W es (W.lm f) ρ).bind (kCall W f) := Eq.trans rfl rfl
def kBi (b : Bi) : List R → Env → Out R := fun rs ρ => match views ρ rs with
  | some ds => optR ρ (biOp b ds)
  | none => .bad
theorem kBi_ap {b : Bi} {rs : List R} {ρ : Env} : kBi b rs ρ = match views ρ rs with
  | some ds => optR ρ (biOp b ds)
  | none => .bad := Eq.trans rfl rfl
theorem e_bi {W : Wd} {b : Bi} {es : Exs} {ρ : Env} : ev W (.bi b es) ρ = (evR W es ρ).bind (kBi b) := Eq.trans rfl rfl
def kIsi (t : String) : R → Env → Out R := fun x ρ => match view ρ x with
  | some d => .ok (.v (.bool (isTy (tyOf d) t))) ρ
  | none => .bad
theorem kIsi_ap {t : String} {x : R} {ρ : Env} : kIsi t x ρ = match view ρ x with
  | some d => .ok (.v (.bool (isTy (tyOf d) t))) ρ
  | none => .bad := Eq.trans rfl rfl
theorem e_isi {W : Wd} {a : Ex} {t : String} {ρ : Env} : ev W (.isi a t) ρ = (ev W a ρ).opd.bind (kIsi t) := Eq.trans rfl rfl
def kMu (m : Mu) (i : Nat) : List PyData → Env → Out R := fun ds ρ => match ρ[i]? with
  | some (.o (.lst xs)) => (match muOp m xs ds with
    | some (d, ys) => .ok (.v d) (ρ.set i (.o (.lst ys)))
    | none => .bad)
  | _ => .bad
theorem kMu_ap {m : Mu} {i : Nat} {ds : List PyData} {ρ : Env} : kMu m i ds ρ = match ρ[i]? with
  | some (.o (.lst xs)) => (match muOp m xs ds with
    | some (d, ys) => .ok (.v d) (ρ.set i (.o (.lst ys)))
    | none => .bad)
  | _ => .bad := Eq.trans rfl rfl
theorem e_mu {W : Wd} {m : Mu} {i : Nat} {es : Exs} {ρ : Env} : ev W (.mu m i es) ρ = match ρ[i]? with
  | some (.o (.lst _)) => (evs W es ρ).bind (kMu m i)
  | _ => .bad := Eq.trans rfl rfl
def kPm2 (m : Pm) (d0 : PyData) (x : R) : List R → Env → Out R := fun rs ρ => match view ρ x, views ρ rs with
  | some d, some ds => if kd d0 = kd d then optR ρ (pmOp m d ds) else .bad
  | _, _ => .bad
theorem kPm2_ap {m : Pm} {d0 : PyData} {x : R} {rs : List R} {ρ : Env} : kPm2 m d0 x rs ρ = match view ρ x, views ρ rs with
  | some d, some ds => if kd d0 = kd d then optR ρ (pmOp m d ds) else .bad
  | _, _ => .bad := Eq.trans rfl rfl
def kPm1 (W : Wd) (m : Pm) (es : Exs) : R → Env → Out R := fun x ρ => match view ρ x with
  | some d0 => (evR W es ρ).bind (kPm2 m d0 x)
  | none => .bad
theorem kPm1_ap {W : Wd} {m : Pm} {es : Exs} {x : R} {ρ : Env} : kPm1 W m es x ρ = match view ρ x with
  | some d0 => (evR W es ρ).bind (kPm2 m d0 x)
  | none => .bad := Eq.trans rfl rfl
theorem e_pm {W : Wd} {m : Pm} {a : Ex} {es : Exs} {ρ : Env} : ev W (.pm m a es) ρ = (ev W a ρ).opd.bind (kPm1 W m es) := Eq.trans rfl rfl
def kTn3 (own : List Nat) : PyData → Env → Out (Option PyData) := fun d ρ => .ok (some d) (wipes ρ own)
theorem kTn3_ap {own : List Nat} {d : PyData} {ρ : Env} : kTn3 own d ρ = .ok (some d) (wipes ρ own) := Eq.trans rfl rfl
def kTn2 (own : List Nat) : R → Env → Out (Option PyData) := fun x ρ => (frz x ρ).bind (kTn3 own)
theorem kTn2_ap {own : List Nat} {x : R} {ρ : Env} : kTn2 own x ρ = (frz x ρ).bind (kTn3 own) := Eq.trans rfl rfl
def kTn1 (W : Wd) (elt : Ex) (own : List Nat) : Bool → Env → Out (Option PyData) := fun t ρ => match t with
  | false => .ok none (wipes ρ own)
  | true => (ev W elt ρ).bind (kTn2 own)
theorem kTn1_ap {W : Wd} {elt : Ex} {own : List Nat} {t : Bool} {ρ : Env} : kTn1 W elt own t ρ = match t with
  | false => .ok none (wipes ρ own)
  | true => (ev W elt ρ).bind (kTn2 own) := Eq.trans rfl rfl
def turnC (W : Wd) (elt : Ex) (tg : Tg) (ifs : Tss) (own : List Nat) : PyData → Env → Out (Option PyData) := fun x ρ => match setTg tg x ρ with
  | none => .bad
  | some ρ3 => (evF W ifs ρ3).bind (kTn1 W elt own)
theorem turnC_ap {W : Wd} {elt : Ex} {tg : Tg} {ifs : Tss} {own : List Nat} {x : PyData} {ρ : Env} : turnC W elt tg ifs own x ρ = match setTg tg x ρ with
  | none => .bad
  | some ρ3 => (evF W ifs ρ3).bind (kTn1 W elt own) := Eq.trans rfl rfl
def kCE (ρ1 : Env) (own : List Nat) : List PyData → Env → Out R := fun ds ρ => .ok (.o (.lst ds)) (unwipe ρ1 ρ own)
theorem kCE_ap {ρ1 : Env} {own : List Nat} {ds : List PyData} {ρ : Env} : kCE ρ1 own ds ρ = .ok (.o (.lst ds)) (unwipe ρ1 ρ own) := Eq.trans rfl rfl
def kComp (W : Wd) (elt : Ex) (tg : Tg) (ifs : Tss) (own : List Nat) : Src → Env → Out R := fun s ρ => match s with
  | .items xs => (compL (turnC W elt tg ifs own) xs [] (wipes ρ own)).bind (kCE ρ own)
  | .slot _ _ => .bad
theorem kComp_ap {W : Wd} {elt : Ex} {tg : Tg} {ifs : Tss} {own : List Nat} {s : Src} {ρ : Env} : kComp W elt tg ifs own s ρ = match s with
  | .items xs => (compL (turnC W elt tg ifs own) xs [] (wipes ρ own)).bind (kCE ρ own)
  | .slot _ _ => .bad := Eq.trans rfl rfl
theorem e_comp {W : Wd} {elt : Ex} {tg : Tg} {it : It} {ifs : Tss} {own : List Nat} {ρ : Env} : ev W (.comp elt tg it ifs own) ρ = (evI W it ρ).bind (kComp W elt tg ifs own) := Eq.trans rfl rfl
def kTNot  : Bool → Env → Out Bool := fun t ρ => .ok (!t) ρ
theorem kTNot_ap {t : Bool} {ρ : Env} : kTNot  t ρ = .ok (!t) ρ := Eq.trans rfl rfl
theorem t_nott {W : Wd} {a : Ts} {ρ : Env} : evT W (.nott a) ρ = (evT W a ρ).bind kTNot := Eq.trans rfl rfl
def kTAnd (W : Wd) (b : Ts) : Bool → Env → Out Bool := fun t ρ => match t with
  | true => evT W b ρ
  | false => .ok false ρ
theorem kTAnd_ap {W : Wd} {b : Ts} {t : Bool} {ρ : Env} : kTAnd W b t ρ = match t with
  | true => evT W b ρ
  | false => .ok false ρ := Eq.trans rfl rfl
theorem t_and {W : Wd} {a : Ts} {b : Ts} {ρ : Env} : evT W (.and a b) ρ = (evT W a ρ).bind (kTAnd W b) := Eq.trans rfl rfl
def kTOr (W : Wd) (b : Ts) : Bool → Env → Out Bool := fun t ρ => match t with
  | true => .ok true ρ
  | false => evT W b ρ
theorem kTOr_ap {W : Wd} {b : Ts} {t : Bool} {ρ : Env} : kTOr W b t ρ = match t with
  | true => .ok true ρ
  | false => evT W b ρ := Eq.trans rfl rfl
theorem t_or {W : Wd} {a : Ts} {b : Ts} {ρ : Env} : evT W (.or a b) ρ = (evT W a ρ).bind (kTOr W b) := Eq.trans rfl rfl
def kTVal  : R → Env → Out Bool := fun x ρ => match view ρ x with
  | some d => (match truth d with
    | some b => .ok b ρ
    | none => .bad)
  | none => .bad
theorem kTVal_ap {x : R} {ρ : Env} : kTVal  x ρ = match view ρ x with
  | some d => (match truth d with
    | some b => .ok b ρ
    | none => .bad)
  | none => .bad := Eq.trans rfl rfl
theorem t_val {W : Wd} {a : Ex} {ρ : Env} : evT W (.val a) ρ = (ev W a ρ).bind kTVal := Eq.trans rfl rfl
theorem s_nil {W : Wd} {ρ : Env} : evs W .nil ρ = .ok [] ρ := Eq.trans rfl rfl
def kS3 (d : PyData) : List PyData → Env → Out (List PyData) := fun ds ρ => .ok (d :: ds) ρ
theorem kS3_ap {d : PyData} {ds : List PyData} {ρ : Env} : kS3 d ds ρ = .ok (d :: ds) ρ := Eq.trans rfl rfl
def kS2 (W : Wd) (es : Exs) : PyData → Env → Out (List PyData) := fun d ρ => (evs W es ρ).bind (kS3 d)
theorem kS2_ap {W : Wd} {es : Exs} {d : PyData} {ρ : Env} : kS2 W es d ρ = (evs W es ρ).bind (kS3 d) := Eq.trans rfl rfl
def kS1 (W : Wd) (es : Exs) : R → Env → Out (List PyData) := fun x ρ => (frz x ρ).bind (kS2 W es)
theorem kS1_ap {W : Wd} {es : Exs} {x : R} {ρ : Env} : kS1 W es x ρ = (frz x ρ).bind (kS2 W es) := Eq.trans rfl rfl
theorem s_cons {W : Wd} {a : Ex} {es : Exs} {ρ : Env} : evs W (.cons a es) ρ = (ev W a ρ).bind (kS1 W es) := Eq.trans rfl rfl
theorem r_nil {W : Wd} {ρ : Env} : evR W .nil ρ = .ok [] ρ := Eq.trans rfl rfl
def kRr2 (r : R) : List R → Env → Out (List R) := fun rs ρ => .ok (r :: rs) ρ
theorem kRr2_ap {r : R} {rs : List R} {ρ : Env} : kRr2 r rs ρ = .ok (r :: rs) ρ := Eq.trans rfl rfl
def kRr1 (W : Wd) (es : Exs) : R → Env → Out (List R) := fun x ρ => (evR W es ρ).bind (kRr2 x)
theorem kRr1_ap {W : Wd} {es : Exs} {x : R} {ρ : Env} : kRr1 W es x ρ = (evR W es ρ).bind (kRr2 x) := Eq.trans rfl rfl
theorem r_cons {W : Wd} {a : Ex} {es : Exs} {ρ : Env} : evR W (.cons a es) ρ = (ev W a ρ).opd.bind (kRr1 W es) := Eq.trans rfl rfl
theorem c_nil {W : Wd} {m : List Bool} {ρ : Env} : evC W .nil m ρ = .ok [] ρ := Eq.trans rfl rfl
def kCa (c : CA) : List CA → Env → Out (List CA) := fun cs ρ => .ok (c :: cs) ρ
theorem kCa_ap {c : CA} {cs : List CA} {ρ : Env} : kCa c cs ρ = .ok (c :: cs) ρ := Eq.trans rfl rfl
def kC2 (W : Wd) (es : Exs) (m : List Bool) : PyData → Env → Out (List CA) := fun d ρ => (evC W es m ρ).bind (kCa (.v d))
theorem kC2_ap {W : Wd} {es : Exs} {m : List Bool} {d : PyData} {ρ : Env} : kC2 W es m d ρ = (evC W es m ρ).bind (kCa (.v d)) := Eq.trans rfl rfl
def kC1f (W : Wd) (es : Exs) (m : List Bool) : R → Env → Out (List CA) := fun x ρ => (frz x ρ).bind (kC2 W es m)
theorem kC1f_ap {W : Wd} {es : Exs} {m : List Bool} {x : R} {ρ : Env} : kC1f W es m x ρ = (frz x ρ).bind (kC2 W es m) := Eq.trans rfl rfl
def kC1t (W : Wd) (es : Exs) (m : List Bool) : R → Env → Out (List CA) := fun x ρ => match x with
  | .s i => (evC W es m ρ).bind (kCa (.s i))
  | .o b => (evC W es m ρ).bind (kCa (.o b))
  | .v d => (evC W es m ρ).bind (kCa (.v d))
theorem kC1t_ap {W : Wd} {es : Exs} {m : List Bool} {x : R} {ρ : Env} : kC1t W es m x ρ = match x with
  | .s i => (evC W es m ρ).bind (kCa (.s i))
  | .o b => (evC W es m ρ).bind (kCa (.o b))
  | .v d => (evC W es m ρ).bind (kCa (.v d)) := Eq.trans rfl rfl
theorem c_f {W : Wd} {a : Ex} {es : Exs} {m : List Bool} {ρ : Env} : evC W (.cons a es) (false :: m) ρ = (ev W a ρ).bind (kC1f W es m) := Eq.trans rfl rfl
theorem c_t {W : Wd} {a : Ex} {es : Exs} {m : List Bool} {ρ : Env} : evC W (.cons a es) (true :: m) ρ = (ev W a ρ).bind (kC1t W es m) := Eq.trans rfl rfl
theorem f_nil {W : Wd} {ρ : Env} : evF W .nil ρ = .ok true ρ := Eq.trans rfl rfl
def kF (W : Wd) (es : Tss) : Bool → Env → Out Bool := fun t ρ => match t with
  | true => evF W es ρ
  | false => .ok false ρ
theorem kF_ap {W : Wd} {es : Tss} {t : Bool} {ρ : Env} : kF W es t ρ = match t with
  | true => evF W es ρ
  | false => .ok false ρ := Eq.trans rfl rfl
theorem f_cons {W : Wd} {a : Ts} {es : Tss} {ρ : Env} : evF W (.cons a es) ρ = (evT W a ρ).bind (kF W es) := Eq.trans rfl rfl
def kI2  : PyData → Env → Out Src := fun d ρ => match seqOf d with
  | some xs => .ok (.items xs) ρ
  | none => .bad
theorem kI2_ap {d : PyData} {ρ : Env} : kI2  d ρ = match seqOf d with
  | some xs => .ok (.items xs) ρ
  | none => .bad := Eq.trans rfl rfl
def kI1  : R → Env → Out Src := fun x ρ => (frz x ρ).bind kI2
theorem kI1_ap {x : R} {ρ : Env} : kI1  x ρ = (frz x ρ).bind kI2 := Eq.trans rfl rfl
theorem i_seq {W : Wd} {a : Ex} {ρ : Env} : evI W (.seq a) ρ = (ev W a ρ).bind kI1 := Eq.trans rfl rfl
def kEn2  : PyData → Env → Out Src := fun d ρ => match d with
  | .list xs => .ok (.items (numd 0 xs)) ρ
  | .tuple xs => .ok (.items (numd 0 xs)) ρ
  | _ => .bad
theorem kEn2_ap {d : PyData} {ρ : Env} : kEn2  d ρ = match d with
  | .list xs => .ok (.items (numd 0 xs)) ρ
  | .tuple xs => .ok (.items (numd 0 xs)) ρ
  | _ => .bad := Eq.trans rfl rfl
def kEn1  : R → Env → Out Src := fun x ρ => (frz x ρ).bind kEn2
theorem kEn1_ap {x : R} {ρ : Env} : kEn1  x ρ = (frz x ρ).bind kEn2 := Eq.trans rfl rfl
theorem i_enum {W : Wd} {a : Ex} {ρ : Env} : evI W (.enumS a) ρ = (ev W a ρ).bind kEn1 := Eq.trans rfl rfl
def kG1  : R → Env → Out Src := fun x ρ => match x with
  | .v (.int n) => if small62 n then .ok (.items (rng1L n)) ρ else .bad
  | _ => .bad
theorem kG1_ap {x : R} {ρ : Env} : kG1  x ρ = match x with
  | .v (.int n) => if small62 n then .ok (.items (rng1L n)) ρ else .bad
  | _ => .bad := Eq.trans rfl rfl
theorem i_rng1 {W : Wd} {a : Ex} {ρ : Env} : evI W (.rng1 a) ρ = (ev W a ρ).opd.bind kG1 := Eq.trans rfl rfl
def kG2b (x : R) : R → Env → Out Src := fun y ρ => match x, y with
  | .v (.int i), .v (.int j) => if small62 i && small62 j then .ok (.items (rng i (j - i).toNat 1)) ρ else .bad
  | _, _ => .bad
theorem kG2b_ap {x : R} {y : R} {ρ : Env} : kG2b x y ρ = match x, y with
  | .v (.int i), .v (.int j) => if small62 i && small62 j then .ok (.items (rng i (j - i).toNat 1)) ρ else .bad
  | _, _ => .bad := Eq.trans rfl rfl
def kG2a (W : Wd) (b : Ex) : R → Env → Out Src := fun x ρ => (ev W b ρ).opd.bind (kG2b x)
theorem kG2a_ap {W : Wd} {b : Ex} {x : R} {ρ : Env} : kG2a W b x ρ = (ev W b ρ).opd.bind (kG2b x) := Eq.trans rfl rfl
theorem i_rng2 {W : Wd} {a : Ex} {b : Ex} {ρ : Env} : evI W (.rng2 a b) ρ = (ev W a ρ).opd.bind (kG2a W b) := Eq.trans rfl rfl
theorem st_v {i : Nat} {d : PyData} {ρ : Env} : store i (.v d) ρ = .nx (ρ.set i (.v d)) := Eq.trans rfl rfl
theorem st_o {i : Nat} {b : Ob} {ρ : Env} : store i (.o b) ρ = .nx (ρ.set i (.o b)) := Eq.trans rfl rfl
def kSt (i : Nat) : PyData → Env → SO := fun d ρ => .nx (ρ.set i (.v d))
theorem kSt_ap {i : Nat} {d : PyData} {ρ : Env} : kSt i d ρ = .nx (ρ.set i (.v d)) := Eq.trans rfl rfl
theorem st_s {i : Nat} {j : Nat} {ρ : Env} : store i (.s j) ρ = (frz (.s j) ρ).st (kSt i) := Eq.trans rfl rfl
theorem x_nm {fuel : Nat} {W : Wd} {i : Nat} {a : Ex} {ρ : Env} : ex fuel W (.asg (.nm i) a) ρ = ((ev W a ρ).xif a.isCall).st (store i) := Eq.trans rfl rfl
def kA2 (tg : Tg) : PyData → Env → SO := fun d ρ => match setTg tg d ρ with
  | some ρ3 => .nx ρ3
  | none => .bad
theorem kA2_ap {tg : Tg} {d : PyData} {ρ : Env} : kA2 tg d ρ = match setTg tg d ρ with
  | some ρ3 => .nx ρ3
  | none => .bad := Eq.trans rfl rfl
def kA1 (tg : Tg) : R → Env → SO := fun x ρ => (frz x ρ).st (kA2 tg)
theorem kA1_ap {tg : Tg} {x : R} {ρ : Env} : kA1 tg x ρ = (frz x ρ).st (kA2 tg) := Eq.trans rfl rfl
theorem x_tp {fuel : Nat} {W : Wd} {is : List Nat} {a : Ex} {ρ : Env} : ex fuel W (.asg (.tp is) a) ρ = ((ev W a ρ).xif a.isCall).st (kA1 (.tp is)) := Eq.trans rfl rfl
def kPar (is : List Nat) : List CA → Env → SO := fun cas ρ => match setCA ρ is cas with
  | some ρ2 => .nx ρ2
  | none => .bad
theorem kPar_ap {is : List Nat} {cas : List CA} {ρ : Env} : kPar is cas ρ = match setCA ρ is cas with
  | some ρ2 => .nx ρ2
  | none => .bad := Eq.trans rfl rfl
theorem x_par {fuel : Nat} {W : Wd} {is : List Nat} {m : List Bool} {es : Exs} {ρ : Env} : ex fuel W (.par is m es) ρ = ((evC W es m ρ).xif false).st (kPar is) := Eq.trans rfl rfl
def kExp  : R → Env → SO := fun x ρ => .nx ρ
theorem kExp_ap {x : R} {ρ : Env} : kExp  x ρ = .nx ρ := Eq.trans rfl rfl
theorem x_exp {fuel : Nat} {W : Wd} {a : Ex} {ρ : Env} : ex fuel W (.exp a) ρ = ((ev W a ρ).xif a.isCall).st kExp := Eq.trans rfl rfl
def kIf (fuel : Nat) (W : Wd) (t : Sts) (f : Sts) : Bool → Env → SO := fun b ρ => match b with
  | true => exs fuel W t ρ
  | false => exs fuel W f ρ
theorem kIf_ap {fuel : Nat} {W : Wd} {t : Sts} {f : Sts} {b : Bool} {ρ : Env} : kIf fuel W t f b ρ = match b with
  | true => exs fuel W t ρ
  | false => exs fuel W f ρ := Eq.trans rfl rfl
theorem x_ife {fuel : Nat} {W : Wd} {c : Ts} {t : Sts} {f : Sts} {ρ : Env} : ex fuel W (.ife c t f) ρ = ((evT W c ρ).xif false).st (kIf fuel W t f) := Eq.trans rfl rfl
def turnF (fuel : Nat) (W : Wd) (tg : Tg) (b : Sts) : PyData → Env → SO := fun x ρ => match setTg tg x ρ with
  | some ρ3 => exs fuel W b ρ3
  | none => .bad
theorem turnF_ap {fuel : Nat} {W : Wd} {tg : Tg} {b : Sts} {x : PyData} {ρ : Env} : turnF fuel W tg b x ρ = match setTg tg x ρ with
  | some ρ3 => exs fuel W b ρ3
  | none => .bad := Eq.trans rfl rfl
def kFor (fuel : Nat) (W : Wd) (tg : Tg) (b : Sts) : Src → Env → SO := fun s ρ => match s with
  | .items xs => forL (turnF fuel W tg b) xs ρ
  | .slot i num => forR i num (turnF fuel W tg b) fuel 0 ρ
theorem kFor_ap {fuel : Nat} {W : Wd} {tg : Tg} {b : Sts} {s : Src} {ρ : Env} : kFor fuel W tg b s ρ = match s with
  | .items xs => forL (turnF fuel W tg b) xs ρ
  | .slot i num => forR i num (turnF fuel W tg b) fuel 0 ρ := Eq.trans rfl rfl
theorem x_for {fuel : Nat} {W : Wd} {tg : Tg} {it : It} {b : Sts} {ρ : Env} : ex fuel W (.for_ tg it b) ρ = ((evI W it ρ).xif false).st (kFor fuel W tg b) := Eq.trans rfl rfl
theorem x_whl {fuel : Nat} {W : Wd} {c : Ts} {b : Sts} {ρ : Env} : ex fuel W (.whl c b) ρ = whlL (fun ρ1 => (evT W c ρ1).xif false) (exs fuel W b) fuel ρ := Eq.trans rfl rfl
def kRet  : R → Env → SO := fun x ρ => .ret x ρ
theorem kRet_ap {x : R} {ρ : Env} : kRet  x ρ = .ret x ρ := Eq.trans rfl rfl
theorem x_ret {fuel : Nat} {W : Wd} {a : Ex} {ρ : Env} : ex fuel W (.ret a) ρ = ((ev W a ρ).xif a.isCall).st kRet := Eq.trans rfl rfl
theorem x_retN {fuel : Nat} {W : Wd} {ρ : Env} : ex fuel W .retN ρ = .ret (.v .none) ρ := Eq.trans rfl rfl
theorem x_brk {fuel : Nat} {W : Wd} {ρ : Env} : ex fuel W .brk ρ = .brk ρ := Eq.trans rfl rfl
theorem x_cnt {fuel : Nat} {W : Wd} {ρ : Env} : ex fuel W .cnt ρ = .cnt ρ := Eq.trans rfl rfl
theorem x_pass {fuel : Nat} {W : Wd} {ρ : Env} : ex fuel W .pass ρ = .nx ρ := Eq.trans rfl rfl
theorem xs_nil {fuel : Nat} {W : Wd} {ρ : Env} : exs fuel W .nil ρ = .nx ρ := Eq.trans rfl rfl
theorem xs_cons {fuel : Nat} {W : Wd} {s : St} {r : Sts} {ρ : Env} : exs fuel W (.cons s r) ρ = (ex fuel W s ρ).seq (exs fuel W r) := Eq.trans rfl rfl
theorem fo_nx {m : List Bool} {ρ : Env} : SO.fo m (.nx ρ) = fin m (.v .none) ρ := Eq.trans rfl rfl
theorem fo_ret {m : List Bool} {r : R} {ρ : Env} : SO.fo m (.ret r ρ) = fin m r ρ := Eq.trans rfl rfl
theorem xif_ok {α : Type} {a : α} {ρ : Env} {b : Bool} : (Out.ok a ρ).xif b = .ok a ρ := Eq.trans rfl rfl
theorem xif_exc {α : Type} {x : Xc} {ρ : Env} : (Out.exc x ρ : Out α).xif true = .exc x ρ := Eq.trans rfl rfl
theorem isCall_call {f : Nat} {es : Exs} : Ex.isCall (.call f es) = true := Eq.trans rfl rfl
theorem st_exc {α : Type} {x : Xc} {ρ : Env} {f : α → Env → SO} : (Out.exc x ρ).st f = .exc x ρ := Eq.trans rfl rfl
theorem seq_exc {x : Xc} {ρ : Env} {f : Env → SO} : (SO.exc x ρ).seq f = .exc x ρ := Eq.trans rfl rfl
theorem fo_exc {m : List Bool} {x : Xc} {ρ : Env} : SO.fo m (.exc x ρ) = (match lent m ρ with
  | some outs => .exc x outs
  | none => .bad) := Eq.trans rfl rfl
def kRaise (c : Nat) : List PyData → Env → SO := fun ds ρ => match mkX c ds with
  | some x => .exc x ρ
  | none => .bad
theorem kRaise_ap {c : Nat} {ds : List PyData} {ρ : Env} : kRaise c ds ρ = match mkX c ds with
  | some x => .exc x ρ
  | none => .bad := Eq.trans rfl rfl
theorem x_raise {fuel : Nat} {W : Wd} {c : Nat} {es : Exs} {ρ : Env} : ex fuel W (.raise c es) ρ = ((evs W es ρ).xif false).st (kRaise c) := Eq.trans rfl rfl
def Wd.hot (W : Wd) (x : Xc) : Wd := { W with xc := some x }
theorem hot_Γ {W : Wd} {x : Xc} {f : Nat} {as : List Sl} : (W.hot x).Γ f as = W.Γ f as := Eq.trans rfl rfl
theorem hot_lm {W : Wd} {x : Xc} {f : Nat} : (W.hot x).lm f = W.lm f := Eq.trans rfl rfl
theorem hot_C {W : Wd} {x : Xc} {g : Nat} : (W.hot x).C g = W.C g := Eq.trans rfl rfl
theorem hot_xc {W : Wd} {x : Xc} : (W.hot x).xc = some x := Eq.trans rfl rfl
def tryH (fuel : Nat) (W : Wd) (i : Nat) (s : Sts) (x : Xc) (ρ1 : Env) : Bool → Option Sl → SO
  | true, some _ => (exs fuel (W.hot x) s (ρ1.set i .un)).gone i
  | true, none => .bad
  | false, _ => .exc x ρ1
theorem tryH_t {fuel : Nat} {W : Wd} {i : Nat} {s : Sts} {x : Xc} {ρ1 : Env} {sl : Sl} : tryH fuel W i s x ρ1 true (some sl) = (exs fuel (W.hot x) s (ρ1.set i .un)).gone i := Eq.trans rfl rfl
theorem tryH_f {fuel : Nat} {W : Wd} {i : Nat} {s : Sts} {x : Xc} {ρ1 : Env} {sl : Option Sl} : tryH fuel W i s x ρ1 false sl = .exc x ρ1 := Eq.trans rfl rfl
def tryK (fuel : Nat) (W : Wd) (c i : Nat) (s : Sts) : SO → SO
  | .exc x ρ1 => tryH fuel W i s x ρ1 (inh x.cls c) ρ1[i]?
  | o => o
theorem tryK_exc {fuel : Nat} {W : Wd} {c i : Nat} {s : Sts} {x : Xc} {ρ1 : Env} : tryK fuel W c i s (.exc x ρ1) = tryH fuel W i s x ρ1 (inh x.cls c) ρ1[i]? := Eq.trans rfl rfl
theorem tryK_nx {fuel : Nat} {W : Wd} {c i : Nat} {s : Sts} {ρ1 : Env} : tryK fuel W c i s (.nx ρ1) = .nx ρ1 := Eq.trans rfl rfl
theorem tryK_ret {fuel : Nat} {W : Wd} {c i : Nat} {s : Sts} {r : R} {ρ1 : Env} : tryK fuel W c i s (.ret r ρ1) = .ret r ρ1 := Eq.trans rfl rfl
theorem x_try {fuel : Nat} {W : Wd} {b : Sts} {c i : Nat} {s : Sts} {ρ : Env} : ex fuel W (.tryE b c i s) ρ = tryK fuel W c i s (exs fuel W b ρ) := by
  show (match exs fuel W b ρ with
    | .exc x ρ1 => (match inh x.cls c with
      | true => (match ρ1[i]? with
        | some _ => (exs fuel { W with xc := some x } s (ρ1.set i .un)).gone i
        | none => .bad)
      | false => .exc x ρ1)
    | o => o) = _
  generalize exs fuel W b ρ = o
  cases o with
  | exc x ρ1 =>
    rw [tryK_exc]
    show (match inh x.cls c with
      | true => (match ρ1[i]? with
        | some _ => (exs fuel { W with xc := some x } s (ρ1.set i .un)).gone i
        | none => .bad)
      | false => .exc x ρ1) = _
    generalize inh x.cls c = b
    generalize ρ1[i]? = s
    cases b <;> cases s <;> rfl
  | _ => rfl
theorem gone_nx {i : Nat} {ρ : Env} : (SO.nx ρ).gone i = .nx (ρ.set i .un) := Eq.trans rfl rfl
theorem gone_v {i : Nat} {d : PyData} {ρ : Env} : (SO.ret (.v d) ρ).gone i = .ret (.v d) (ρ.set i .un) := Eq.trans rfl rfl
theorem gone_o {i : Nat} {d : Ob} {ρ : Env} : (SO.ret (.o d) ρ).gone i = .ret (.o d) (ρ.set i .un) := Eq.trans rfl rfl
def kXis (cs : List Nat) (ρ : Env) : Option Xc → Out R
  | some x => .ok (.v (.bool (cs.any (inh x.cls)))) ρ
  | none => .bad
theorem kXis_some {cs : List Nat} {ρ : Env} {x : Xc} : kXis cs ρ (some x) = .ok (.v (.bool (cs.any (inh x.cls)))) ρ := Eq.trans rfl rfl
theorem e_xis {W : Wd} {i : Nat} {cs : List Nat} {ρ : Env} : ev W (.xis i cs) ρ = kXis cs ρ W.xc := by
  show (match W.xc with
    | some x => Out.ok (R.v (.bool (cs.any (inh x.cls)))) ρ
    | none => Out.bad) = _
  generalize W.xc = o
  cases o <;> rfl
def kXfl (f : Str) (ρ : Env) : Option Xc → Out R
  | some x => optV ρ (x.fs.lookup f)
  | none => .bad
theorem kXfl_some {f : Str} {ρ : Env} {x : Xc} : kXfl f ρ (some x) = optV ρ (x.fs.lookup f) := Eq.trans rfl rfl
theorem e_xfl {W : Wd} {i : Nat} {f : Str} {ρ : Env} : ev W (.xfl i f) ρ = kXfl f ρ W.xc := by
  show (match W.xc with
    | some x => optV ρ (x.fs.lookup f)
    | none => Out.bad) = _
  generalize W.xc = o
  cases o <;> rfl
/-- all rests at once, for simp -/
def RCa := And.intro @e_int (And.intro @e_str (And.intro @e_bl (And.intro @e_non (And.intro @e_glob (And.intro @vr_v (And.intro @vr_o (And.intro @e_var (And.intro @kBin2_ap (And.intro @kBin1_ap (And.intro @e_bin (And.intro @kNeg_ap (And.intro @e_neg (And.intro @kNot_ap (And.intro @e_nott (And.intro @kAnd_ap (And.intro @e_and (And.intro @kOr_ap (And.intro @e_or (And.intro @kCmp2_ap (And.intro @kCmp1_ap (And.intro @e_cmp (And.intro @kCh3_ap (And.intro @kCh2_ap (And.intro @kCh1_ap (And.intro @e_cmp2 (And.intro @kIte_ap (And.intro @e_ite (And.intro @kTup_ap (And.intro @e_tup (And.intro @kLst_ap (And.intro @e_lst (And.intro @kSub2_ap (And.intro @kSub1_ap (And.intro @e_sub (And.intro @kSlc3_ap (And.intro @kSlc2_ap (And.intro @kSlc1_ap (And.intro @e_slc (And.intro @kSlL2_ap (And.intro @kSlL1_ap (And.intro @e_slcL (And.intro @kSlH2_ap (And.intro @kSlH1_ap (And.intro @e_slcH (And.intro @kRev_ap (And.intro @e_rev (And.intro @kCall_ap (And.intro @e_call (And.intro @kBi_ap (And.intro @e_bi (And.intro @kIsi_ap (And.intro @e_isi (And.intro @kMu_ap (And.intro @e_mu (And.intro @kPm2_ap (And.intro @kPm1_ap (And.intro @e_pm (And.intro @kTn3_ap (And.intro @kTn2_ap (And.intro @kTn1_ap (And.intro @kCE_ap (And.intro @kComp_ap (And.intro @e_comp (And.intro @kTNot_ap (And.intro @t_nott (And.intro @kTAnd_ap (And.intro @t_and (And.intro @kTOr_ap (And.intro @t_or (And.intro @kTVal_ap (And.intro @t_val (And.intro @s_nil (And.intro @kS3_ap (And.intro @kS2_ap (And.intro @kS1_ap (And.intro @s_cons (And.intro @r_nil (And.intro @kRr2_ap (And.intro @kRr1_ap (And.intro @r_cons (And.intro @c_nil (And.intro @kCa_ap (And.intro @kC2_ap (And.intro @kC1f_ap (And.intro @kC1t_ap (And.intro @c_f (And.intro @c_t (And.intro @f_nil (And.intro @kF_ap (And.intro @f_cons (And.intro @kI2_ap (And.intro @kI1_ap (And.intro @i_seq (And.intro @kEn2_ap (And.intro @kEn1_ap (And.intro @i_enum (And.intro @kG1_ap (And.intro @i_rng1 (And.intro @kG2b_ap (And.intro @kG2a_ap (And.intro @i_rng2 (And.intro @st_v (And.intro @st_o (And.intro @kSt_ap (And.intro @st_s (And.intro @x_nm (And.intro @kA2_ap (And.intro @kA1_ap (And.intro @x_tp (And.intro @kPar_ap (And.intro @x_par (And.intro @kExp_ap (And.intro @x_exp (And.intro @kIf_ap (And.intro @x_ife (And.intro @kFor_ap (And.intro @x_for (And.intro @x_whl (And.intro @kRet_ap (And.intro @x_ret (And.intro @x_retN (And.intro @x_brk (And.intro @x_cnt (And.intro @x_pass (And.intro @xs_nil (And.intro @xs_cons (And.intro @fo_nx (And.intro @fo_ret (And.intro @xif_ok (And.intro @xif_exc (And.intro @isCall_call (And.intro @st_exc (And.intro @seq_exc (And.intro @fo_exc (And.intro @kRaise_ap (And.intro @x_raise (And.intro @hot_Γ (And.intro @hot_lm (And.intro @hot_C (And.intro @hot_xc (And.intro @tryH_t (And.intro @tryH_f (And.intro @tryK_exc (And.intro @tryK_nx (And.intro @tryK_ret (And.intro @x_try (And.intro @gone_nx (And.intro @gone_v (And.intro @gone_o (And.intro @kXis_some (And.intro @e_xis (And.intro @kXfl_some (And.intro @e_xfl (And.intro @bind_ok_ (And.intro @st_ok_ (And.intro @opd_v (And.intro @opd_s (And.intro @opd_o (And.intro @seq_nx (And.intro @seq_ret (And.intro @seq_brk (@seq_cnt))))))))))))))))))))))))))))))))))))))))))))))))))))))))))))))))))))))))))))))))))))))))))))))))))))))))))))))))))))))))))))))))))))))))))))))))))))))))))))))))))
end Rc

set_option Elab.async false
set_option linter.all false
set_option maxRecDepth 100000
set_option maxHeartbeats 4000000
namespace Rc
open PySem
/-- number 0 -/
def f_law_cell : Fn := ⟨[false, false], 2, (.cons (.ife (.val (.cmp .Lt (.var 1) (.bi .len (.cons (.var 0) .nil)))) (.cons (.ret (.bi .int_ (.cons (.sub (.var 0) (.var 1)) .nil)))
        .nil) .nil)
    (.cons (.ret (.bin .Add (.bin .Add (.bin .Mult (.int 31) (.var 1)) (.bin .Mult (.int 7) (.bi .len (.cons (.var 0) .nil)))) (.int 3)))
    .nil))⟩
theorem m_law_cell : f_law_cell.mask = [false, false] := Eq.trans rfl rfl
/-- number 1 -/
def f_law_pool : Fn := ⟨[false, false, false], 7, (.cons (.asg (.nm 3) (.bi .abs (.cons (.call 0 (.cons (.var 0) (.cons (.var 1) .nil))) .nil)))
    (.cons (.asg (.nm 4) (.lst .nil))
    (.cons (.ife (.val (.cmp .GtE (.var 3) (.bin .Pow (.int 10) (.int 18)))) (.cons (.for_ (.nm 6) (.rng1 (.var 2)) (.cons (.ife (.val (.cmp .Gt (.var 3) (.int 0))) (.cons (.exp (.mu .append 4 (.cons (.bin .Mod (.bi .int_ (.cons (.var 3) .nil)) (.int 997)) .nil)))
                (.cons (.asg (.nm 3) (.bin .FloorDiv (.var 3) (.int 997)))
                .nil)) .nil)
            .nil))
        .nil) .nil)
    (.cons (.asg (.nm 5) (.bin .Mod (.bi .int_ (.cons (.bin .Add (.bin .Add (.bin .Add (.bin .Mult (.var 3) (.int 69621)) (.bin .Mult (.int 1009) (.var 1))) (.bin .Mult (.int 17) (.bi .len (.cons (.var 4) .nil)))) (.int 5)) .nil)) (.int 2147483647)))
    (.cons (.asg (.nm 5) (.bin .Mod (.bi .int_ (.cons (.bin .Add (.bin .Mult (.var 5) (.int 16807)) (.int 13)) .nil)) (.int 2147483647)))
    (.cons (.for_ (.nm 6) (.rng1 (.bin .Sub (.var 2) (.bi .len (.cons (.var 4) .nil)))) (.cons (.asg (.nm 5) (.bin .Mod (.bi .int_ (.cons (.bin .Add (.bin .Add (.bin .Mult (.var 5) (.int 48271)) (.int 12345)) (.bin .Mult (.int 7) (.var 6))) .nil)) (.int 2147483647)))
        (.cons (.exp (.mu .append 4 (.cons (.bin .Mod (.bi .int_ (.cons (.bin .FloorDiv (.var 5) (.int 11)) .nil)) (.int 997)) .nil)))
        .nil)))
    (.cons (.ret (.rev (.var 4)))
    .nil)))))))⟩
theorem m_law_pool : f_law_pool.mask = [false, false, false] := Eq.trans rfl rfl
/-- number 2 -/
def f_law_take : Fn := ⟨[true, false], 2, (.cons (.ife (.or (.val (.cmp .LtE (.var 1) (.int 1))) (.val (.cmp .Eq (.bi .len (.cons (.var 0) .nil)) (.int 0)))) (.cons (.ret (.int 0))
        .nil) .nil)
    (.cons (.ret (.bin .Mod (.bi .int_ (.cons (.mu .pop 0 .nil) .nil)) (.var 1)))
    .nil))⟩
theorem m_law_take : f_law_take.mask = [true, false] := Eq.trans rfl rfl
theorem iL_get {cs : List Int} {i : Nat} {y : Int} (h : cs[i]? = some y) : (iL cs)[i]? = some (.int y) := by
  rw [List.getElem?_map, h]
  rfl
theorem small_nat {n : Nat} (h : n < 1000000) : small62 (n : Int) = true := within_iff.mpr (by omega)
theorem cmul_r {i j : Int} (h : within 18446744073709551615 j = true) : cmul i j = true := by
  unfold cmul
  rw [h]
  rfl
theorem cmul_l {i j : Int} (h : within 18446744073709551615 i = true) : cmul i j = true := by
  unfold cmul
  rw [h, Bool.or_true]
theorem cell_run (fuel : Nat) (W : Wd) (ns : List Int) (i : Nat) : ∃ n, runFn fuel W f_law_cell [.v (.list (iL ns)), .v (.int i)] = .v (.int n) [] := by
  unfold f_law_cell runFn
  have c1 : cmul 31 (i : Int) = true := cmul_l rfl
  have c2 : cmul 7 (((iL ns).length : Nat) : Int) = true := cmul_l rfl
  simp only [RCa, optR, optV, optB, view, views, fin, lent, isO, setTg, setAll, setCA, pmOp, strsOf, kd, wipes, unwipe, frz, binOp, cmpOp, biOp, muOp, subOp, truth, seqOf, eqD, isNone, callF, lend, slots, back, isLent, List.map_cons, List.map_nil, List.length_cons, List.length_nil, List.cons_append, List.nil_append, List.replicate, Nat.reduceAdd, Nat.reduceSub, List.getElem?_cons_zero, List.getElem?_cons_succ, List.set_cons_zero, List.set_cons_succ, List.getD_cons_zero, List.getD_cons_succ, if_true, if_false, reduceIte, Option.map_some, Option.map_none, List.filterMap_nil, List.filterMap_cons, List.nodup_nil, id_eq, Bool.false_eq_true, nodup1, Wk_Γ, Wk_C, cmpOp]
  by_cases h : i < ns.length
  · have hl : ltI (i : Int) ((iL ns).length : Int) = true := by rw [ltI_eq, List.length_map]; exact decide_eq_true (by omega)
    have hg : L2.atI (iL ns) (i : Int) = some (.int ns[i]) := atI_ok (iL_get (List.getElem?_eq_getElem h))
    simp only [RCa, optR, optV, optB, view, views, fin, lent, isO, setTg, setAll, setCA, pmOp, strsOf, kd, wipes, unwipe, frz, binOp, cmpOp, biOp, muOp, subOp, truth, seqOf, eqD, isNone, callF, lend, slots, back, isLent, List.map_cons, List.map_nil, List.length_cons, List.length_nil, List.cons_append, List.nil_append, List.replicate, Nat.reduceAdd, Nat.reduceSub, List.getElem?_cons_zero, List.getElem?_cons_succ, List.set_cons_zero, List.set_cons_succ, List.getD_cons_zero, List.getD_cons_succ, if_true, if_false, reduceIte, Option.map_some, Option.map_none, List.filterMap_nil, List.filterMap_cons, List.nodup_nil, id_eq, Bool.false_eq_true, nodup1, Wk_Γ, Wk_C, hl, hg]
    exact ⟨_, rfl⟩
  · have hl : ltI (i : Int) ((iL ns).length : Int) = false := by rw [ltI_eq, List.length_map]; exact decide_eq_false (by omega)
    simp only [RCa, optR, optV, optB, view, views, fin, lent, isO, setTg, setAll, setCA, pmOp, strsOf, kd, wipes, unwipe, frz, binOp, cmpOp, biOp, muOp, subOp, truth, seqOf, eqD, isNone, callF, lend, slots, back, isLent, List.map_cons, List.map_nil, List.length_cons, List.length_nil, List.cons_append, List.nil_append, List.replicate, Nat.reduceAdd, Nat.reduceSub, List.getElem?_cons_zero, List.getElem?_cons_succ, List.set_cons_zero, List.set_cons_succ, List.getD_cons_zero, List.getD_cons_succ, if_true, if_false, reduceIte, Option.map_some, Option.map_none, List.filterMap_nil, List.filterMap_cons, List.nodup_nil, id_eq, Bool.false_eq_true, nodup1, Wk_Γ, Wk_C, hl, c1, c2]
    exact ⟨_, rfl⟩
theorem iL_snoc (p : List Int) (x : Int) : iL p ++ [.int x] = iL (p ++ [x]) := by simp [iL]
/-- what is taken of a pool, and what is left of it -/
def tkR (p : List Int) (m : Int) : Int := if m ≤ 1 then 0 else match p.reverse with
  | [] => 0
  | x :: _ => x % m
def tkP (p : List Int) (m : Int) : List Int := if m ≤ 1 then p else p.dropLast
theorem tk_nn (p : List Int) (m : Int) : 0 ≤ tkR p m := by
  unfold tkR
  split
  · omega
  · split
    · omega
    · exact Int.emod_nonneg _ (by omega)
theorem tk_lt (p : List Int) {m : Int} (h : 0 < m) : tkR p m < m := by
  unfold tkR
  split
  · omega
  · split
    · omega
    · exact Int.emod_lt_of_pos _ (by omega)
theorem tk_le (p : List Int) (m : Int) : tkR p m = 0 ∨ tkR p m < m := by
  by_cases h : 0 < m
  · exact .inr (tk_lt p h)
  · unfold tkR
    rw [if_pos (by omega)]
    exact .inl rfl
/-- .. as a natural number -/
def tkN (p : List Int) (m : Int) : Nat := (tkR p m).toNat
theorem tk_N (p : List Int) (m : Int) : tkR p m = (tkN p m : Int) := (Int.toNat_of_nonneg (tk_nn p m)).symm
theorem tkN_lt (p : List Int) {m : Nat} (h : 0 < m) : tkN p (m : Int) < m := by
  have h1 := tk_lt p (m := (m : Int)) (by omega)
  rw [tk_N] at h1
  omega
theorem take_run (fuel : Nat) (W : Wd) (p : List Int) (m : Int) : runFn fuel W f_law_take [.o (.lst (iL p)), .v (.int m)] = .v (.int (tkR p m)) [.lst (iL (tkP p m))] := by
  unfold f_law_take runFn tkR tkP
  simp only [RCa, optR, optV, optB, view, views, fin, lent, isO, setTg, setAll, setCA, pmOp, strsOf, kd, wipes, unwipe, frz, binOp, cmpOp, biOp, muOp, subOp, truth, seqOf, eqD, isNone, callF, lend, slots, back, isLent, List.map_cons, List.map_nil, List.length_cons, List.length_nil, List.cons_append, List.nil_append, List.replicate, Nat.reduceAdd, Nat.reduceSub, List.getElem?_cons_zero, List.getElem?_cons_succ, List.set_cons_zero, List.set_cons_succ, List.getD_cons_zero, List.getD_cons_succ, if_true, if_false, reduceIte, Option.map_some, Option.map_none, List.filterMap_nil, List.filterMap_cons, List.nodup_nil, id_eq, Bool.false_eq_true, nodup1, Wk_Γ, Wk_C, cmpOp]
  by_cases h : m ≤ 1
  · have hl : leI m 1 = true := by rw [leI_eq]; exact decide_eq_true h
    simp only [RCa, optR, optV, optB, view, views, fin, lent, isO, setTg, setAll, setCA, pmOp, strsOf, kd, wipes, unwipe, frz, binOp, cmpOp, biOp, muOp, subOp, truth, seqOf, eqD, isNone, callF, lend, slots, back, isLent, List.map_cons, List.map_nil, List.length_cons, List.length_nil, List.cons_append, List.nil_append, List.replicate, Nat.reduceAdd, Nat.reduceSub, List.getElem?_cons_zero, List.getElem?_cons_succ, List.set_cons_zero, List.set_cons_succ, List.getD_cons_zero, List.getD_cons_succ, if_true, if_false, reduceIte, Option.map_some, Option.map_none, List.filterMap_nil, List.filterMap_cons, List.nodup_nil, id_eq, Bool.false_eq_true, nodup1, Wk_Γ, Wk_C, hl, h]
  · have hl : leI m 1 = false := by rw [leI_eq]; exact decide_eq_false h
    have hm : ltI 0 m = true := by rw [ltI_eq]; exact decide_eq_true (by omega)
    cases hp : p.reverse with
    | nil =>
      have e : p = [] := List.reverse_eq_nil_iff.mp hp
      subst e
      simp only [RCa, optR, optV, optB, view, views, fin, lent, isO, setTg, setAll, setCA, pmOp, strsOf, kd, wipes, unwipe, frz, binOp, cmpOp, biOp, muOp, subOp, truth, seqOf, eqD, isNone, callF, lend, slots, back, isLent, List.map_cons, List.map_nil, List.length_cons, List.length_nil, List.cons_append, List.nil_append, List.replicate, Nat.reduceAdd, Nat.reduceSub, List.getElem?_cons_zero, List.getElem?_cons_succ, List.set_cons_zero, List.set_cons_succ, List.getD_cons_zero, List.getD_cons_succ, if_true, if_false, reduceIte, Option.map_some, Option.map_none, List.filterMap_nil, List.filterMap_cons, List.nodup_nil, id_eq, Bool.false_eq_true, nodup1, Wk_Γ, Wk_C, hl, h, List.dropLast_nil]
      rfl
    | cons x r =>
      have e : p = r.reverse ++ [x] := by rw [← List.reverse_reverse p, hp, List.reverse_cons]
      subst e
      have h0 : decide ((((iL (r.reverse ++ [x])).length : Nat) : Int) = 0) = false := decide_eq_false (by rw [List.length_map, List.length_append]; simp only [List.length_cons, List.length_nil]; omega)
      have h1 : (iL (r.reverse ++ [x]))[(iL (r.reverse ++ [x])).length - 1]? = some (.int x) := by
        rw [← iL_snoc, List.length_append]
        simp
      have h2 : (iL (r.reverse ++ [x])).dropLast = iL r.reverse := by
        rw [← iL_snoc]
        simp
      simp only [RCa, optR, optV, optB, view, views, fin, lent, isO, setTg, setAll, setCA, pmOp, strsOf, kd, wipes, unwipe, frz, binOp, cmpOp, biOp, muOp, subOp, truth, seqOf, eqD, isNone, callF, lend, slots, back, isLent, List.map_cons, List.map_nil, List.length_cons, List.length_nil, List.cons_append, List.nil_append, List.replicate, Nat.reduceAdd, Nat.reduceSub, List.getElem?_cons_zero, List.getElem?_cons_succ, List.set_cons_zero, List.set_cons_succ, List.getD_cons_zero, List.getD_cons_succ, if_true, if_false, reduceIte, Option.map_some, Option.map_none, List.filterMap_nil, List.filterMap_cons, List.nodup_nil, id_eq, Bool.false_eq_true, nodup1, Wk_Γ, Wk_C, hl, h0, h1, h2, hm, h, List.dropLast_concat]
theorem pool_run (fuel : Nat) (W : Wd) (hl : W.lm 0 = [false, false]) (ns : List Int) (i many : Nat) (hm : many < 1000000) (hc : ∃ n, W.Γ 0 [.v (.list (iL ns)), .v (.int i)] = .v (.int n) []) : ∃ p, runFn fuel W f_law_pool [.v (.list (iL ns)), .v (.int i), .v (.int many)] = .o (.lst (iL p)) [] := by
  unfold f_law_pool runFn
  obtain ⟨n, hn⟩ := hc
  have hp : cpow 10 18 = true := rfl
  have h62 : small62 (many : Int) = true := small_nat hm
  simp only [RCa, optR, optV, optB, view, views, fin, lent, isO, setTg, setAll, setCA, pmOp, strsOf, kd, wipes, unwipe, frz, binOp, cmpOp, biOp, muOp, subOp, truth, seqOf, eqD, isNone, callF, lend, slots, back, isLent, List.map_cons, List.map_nil, List.length_cons, List.length_nil, List.cons_append, List.nil_append, List.replicate, Nat.reduceAdd, Nat.reduceSub, List.getElem?_cons_zero, List.getElem?_cons_succ, List.set_cons_zero, List.set_cons_succ, List.getD_cons_zero, List.getD_cons_succ, if_true, if_false, reduceIte, Option.map_some, Option.map_none, List.filterMap_nil, List.filterMap_cons, List.nodup_nil, id_eq, Bool.false_eq_true, nodup1, Wk_Γ, Wk_C, hl, hn, cmpOp, hp]
  have m997 : ltI 0 997 = true := rfl
  have m21 : ltI 0 2147483647 = true := rfl
  have d11 : (ltI 0 11 && within 1073741823 11) = true := rfl
  have d997 : (ltI 0 997 && within 1073741823 997) = true := rfl
  -- behind the first part
  have rest : ∀ (number : Int) (row : List Int) (a b : Sl), row.length ≤ many → ∃ p, SO.fo [false, false, false] (exs fuel W (match f_law_pool.body with
      | .cons _ (.cons _ (.cons _ r)) => r
      | _ => .nil) [.v (.list (iL ns)), .v (.int i), .v (.int many), .v (.int number), .o (.lst (iL row)), a, b]) = .o (.lst (iL p)) [] := by
    intro number row a b hr
    have c1 : cmul number 69621 = true := cmul_r rfl
    have c2 : cmul 1009 (i : Int) = true := cmul_l rfl
    have c3 : cmul 17 (((iL row).length : Nat) : Int) = true := cmul_l rfl
    have c4 : ∀ j : Int, cmul j 16807 = true := fun j => cmul_r rfl
    have c5 : ∀ j : Int, cmul j 48271 = true := fun j => cmul_r rfl
    have c6 : ∀ j : Int, cmul 7 j = true := fun j => cmul_l rfl
    have s1 : small62 ((many : Int) - (((iL row).length : Nat) : Int)) = true := within_iff.mpr (by rw [List.length_map]; omega)
    unfold f_law_pool
    simp only [RCa, optR, optV, optB, view, views, fin, lent, isO, setTg, setAll, setCA, pmOp, strsOf, kd, wipes, unwipe, frz, binOp, cmpOp, biOp, muOp, subOp, truth, seqOf, eqD, isNone, callF, lend, slots, back, isLent, List.map_cons, List.map_nil, List.length_cons, List.length_nil, List.cons_append, List.nil_append, List.replicate, Nat.reduceAdd, Nat.reduceSub, List.getElem?_cons_zero, List.getElem?_cons_succ, List.set_cons_zero, List.set_cons_succ, List.getD_cons_zero, List.getD_cons_succ, if_true, if_false, reduceIte, Option.map_some, Option.map_none, List.filterMap_nil, List.filterMap_cons, List.nodup_nil, id_eq, Bool.false_eq_true, nodup1, Wk_Γ, Wk_C, c1, c2, c3, c4, m21, s1]
    refine forL_run (I := fun j ρ => ∃ st row2 b, ρ = [.v (.list (iL ns)), .v (.int i), .v (.int many), .v (.int number), .o (.lst (iL row2)), .v (.int st), b] ∧ row2.length = row.length + j) (R := fun o => ∃ p, SO.fo [false, false, false] (o.seq _) = .o (.lst (iL p)) []) ?_ ?_ ⟨_, _, _, rfl, rfl⟩
    · rintro j x ρ hx ⟨st, row2, b, rfl, hl⟩
      obtain ⟨rfl, hj⟩ := rng1L_get hx
      have hL : (iL row2).length < Lm := by
        rw [List.length_map] at hj ⊢
        exact Nat.lt_of_lt_of_le (show row2.length < 2000000 by omega) (by decide)
      simp only [turnF_ap, RCa, optR, optV, optB, view, views, fin, lent, isO, setTg, setAll, setCA, pmOp, strsOf, kd, wipes, unwipe, frz, binOp, cmpOp, biOp, muOp, subOp, truth, seqOf, eqD, isNone, callF, lend, slots, back, isLent, List.map_cons, List.map_nil, List.length_cons, List.length_nil, List.cons_append, List.nil_append, List.replicate, Nat.reduceAdd, Nat.reduceSub, List.getElem?_cons_zero, List.getElem?_cons_succ, List.set_cons_zero, List.set_cons_succ, List.getD_cons_zero, List.getD_cons_succ, if_true, if_false, reduceIte, Option.map_some, Option.map_none, List.filterMap_nil, List.filterMap_cons, List.nodup_nil, id_eq, Bool.false_eq_true, nodup1, Wk_Γ, Wk_C, c5, c6, m21, d11, m997, hL, iL_snoc]
      exact ⟨_, _, _, rfl, by rw [List.length_append]; simp only [List.length_cons, List.length_nil]; omega⟩
    · rintro ρ ⟨st, row2, b, rfl, hl⟩
      simp only [RCa, optR, optV, optB, view, views, fin, lent, isO, setTg, setAll, setCA, pmOp, strsOf, kd, wipes, unwipe, frz, binOp, cmpOp, biOp, muOp, subOp, truth, seqOf, eqD, isNone, callF, lend, slots, back, isLent, List.map_cons, List.map_nil, List.length_cons, List.length_nil, List.cons_append, List.nil_append, List.replicate, Nat.reduceAdd, Nat.reduceSub, List.getElem?_cons_zero, List.getElem?_cons_succ, List.set_cons_zero, List.set_cons_succ, List.getD_cons_zero, List.getD_cons_succ, if_true, if_false, reduceIte, Option.map_some, Option.map_none, List.filterMap_nil, List.filterMap_cons, List.nodup_nil, id_eq, Bool.false_eq_true, nodup1, Wk_Γ, Wk_C, revOp, ← List.map_reverse]
      exact ⟨_, rfl⟩
  cases hb : leI (10 ^ (18 : Int).toNat) (n.natAbs : Int) with
  | false =>
    obtain ⟨p, h⟩ := rest n.natAbs [] .un .un (Nat.zero_le _)
    refine ⟨p, ?_⟩
    unfold f_law_pool at h
    simp only [RCa, optR, optV, optB, view, views, fin, lent, isO, setTg, setAll, setCA, pmOp, strsOf, kd, wipes, unwipe, frz, binOp, cmpOp, biOp, muOp, subOp, truth, seqOf, eqD, isNone, callF, lend, slots, back, isLent, List.map_cons, List.map_nil, List.length_cons, List.length_nil, List.cons_append, List.nil_append, List.replicate, Nat.reduceAdd, Nat.reduceSub, List.getElem?_cons_zero, List.getElem?_cons_succ, List.set_cons_zero, List.set_cons_succ, List.getD_cons_zero, List.getD_cons_succ, if_true, if_false, reduceIte, Option.map_some, Option.map_none, List.filterMap_nil, List.filterMap_cons, List.nodup_nil, id_eq, Bool.false_eq_true, nodup1, Wk_Γ, Wk_C] at h
    simp only [RCa, optR, optV, optB, view, views, fin, lent, isO, setTg, setAll, setCA, pmOp, strsOf, kd, wipes, unwipe, frz, binOp, cmpOp, biOp, muOp, subOp, truth, seqOf, eqD, isNone, callF, lend, slots, back, isLent, List.map_cons, List.map_nil, List.length_cons, List.length_nil, List.cons_append, List.nil_append, List.replicate, Nat.reduceAdd, Nat.reduceSub, List.getElem?_cons_zero, List.getElem?_cons_succ, List.set_cons_zero, List.set_cons_succ, List.getD_cons_zero, List.getD_cons_succ, if_true, if_false, reduceIte, Option.map_some, Option.map_none, List.filterMap_nil, List.filterMap_cons, List.nodup_nil, id_eq, Bool.false_eq_true, nodup1, Wk_Γ, Wk_C, hb]
    exact h
  | true =>
    simp only [RCa, optR, optV, optB, view, views, fin, lent, isO, setTg, setAll, setCA, pmOp, strsOf, kd, wipes, unwipe, frz, binOp, cmpOp, biOp, muOp, subOp, truth, seqOf, eqD, isNone, callF, lend, slots, back, isLent, List.map_cons, List.map_nil, List.length_cons, List.length_nil, List.cons_append, List.nil_append, List.replicate, Nat.reduceAdd, Nat.reduceSub, List.getElem?_cons_zero, List.getElem?_cons_succ, List.set_cons_zero, List.set_cons_succ, List.getD_cons_zero, List.getD_cons_succ, if_true, if_false, reduceIte, Option.map_some, Option.map_none, List.filterMap_nil, List.filterMap_cons, List.nodup_nil, id_eq, Bool.false_eq_true, nodup1, Wk_Γ, Wk_C, hb, h62]
    refine forL_run (I := fun j ρ => ∃ number row b, ρ = [.v (.list (iL ns)), .v (.int i), .v (.int many), .v (.int number), .o (.lst (iL row)), .un, b] ∧ row.length ≤ j) (R := fun o => ∃ p, SO.fo [false, false, false] ((o.seq _).seq _) = .o (.lst (iL p)) []) ?_ ?_ ⟨_, [], _, rfl, Nat.le_refl _⟩
    · rintro j x ρ hx ⟨number, row, b, rfl, hl⟩
      obtain ⟨rfl, hj⟩ := rng1L_get hx
      rw [Int.toNat_natCast] at hj
      have hL : (iL row).length < Lm := by
        rw [List.length_map]
        exact Nat.lt_of_lt_of_le (show row.length < 2000000 by omega) (by decide)
      simp only [turnF_ap, RCa, optR, optV, optB, view, views, fin, lent, isO, setTg, setAll, setCA, pmOp, strsOf, kd, wipes, unwipe, frz, binOp, cmpOp, biOp, muOp, subOp, truth, seqOf, eqD, isNone, callF, lend, slots, back, isLent, List.map_cons, List.map_nil, List.length_cons, List.length_nil, List.cons_append, List.nil_append, List.replicate, Nat.reduceAdd, Nat.reduceSub, List.getElem?_cons_zero, List.getElem?_cons_succ, List.set_cons_zero, List.set_cons_succ, List.getD_cons_zero, List.getD_cons_succ, if_true, if_false, reduceIte, Option.map_some, Option.map_none, List.filterMap_nil, List.filterMap_cons, List.nodup_nil, id_eq, Bool.false_eq_true, nodup1, Wk_Γ, Wk_C, cmpOp]
      cases hc : ltI 0 number with
      | false =>
        simp only [RCa, optR, optV, optB, view, views, fin, lent, isO, setTg, setAll, setCA, pmOp, strsOf, kd, wipes, unwipe, frz, binOp, cmpOp, biOp, muOp, subOp, truth, seqOf, eqD, isNone, callF, lend, slots, back, isLent, List.map_cons, List.map_nil, List.length_cons, List.length_nil, List.cons_append, List.nil_append, List.replicate, Nat.reduceAdd, Nat.reduceSub, List.getElem?_cons_zero, List.getElem?_cons_succ, List.set_cons_zero, List.set_cons_succ, List.getD_cons_zero, List.getD_cons_succ, if_true, if_false, reduceIte, Option.map_some, Option.map_none, List.filterMap_nil, List.filterMap_cons, List.nodup_nil, id_eq, Bool.false_eq_true, nodup1, Wk_Γ, Wk_C, hc]
        exact ⟨_, _, _, rfl, by omega⟩
      | true =>
        simp only [RCa, optR, optV, optB, view, views, fin, lent, isO, setTg, setAll, setCA, pmOp, strsOf, kd, wipes, unwipe, frz, binOp, cmpOp, biOp, muOp, subOp, truth, seqOf, eqD, isNone, callF, lend, slots, back, isLent, List.map_cons, List.map_nil, List.length_cons, List.length_nil, List.cons_append, List.nil_append, List.replicate, Nat.reduceAdd, Nat.reduceSub, List.getElem?_cons_zero, List.getElem?_cons_succ, List.set_cons_zero, List.set_cons_succ, List.getD_cons_zero, List.getD_cons_succ, if_true, if_false, reduceIte, Option.map_some, Option.map_none, List.filterMap_nil, List.filterMap_cons, List.nodup_nil, id_eq, Bool.false_eq_true, nodup1, Wk_Γ, Wk_C, hc, m997, d997, hL, iL_snoc]
        exact ⟨_, _, _, rfl, by rw [List.length_append]; simp only [List.length_cons, List.length_nil]; omega⟩
    · rintro ρ ⟨number, row, b, rfl, hl⟩
      rw [rng1L_len, Int.toNat_natCast] at hl
      obtain ⟨p, h⟩ := rest number row .un b hl
      refine ⟨p, ?_⟩
      unfold f_law_pool at h
      simp only [RCa, optR, optV, optB, view, views, fin, lent, isO, setTg, setAll, setCA, pmOp, strsOf, kd, wipes, unwipe, frz, binOp, cmpOp, biOp, muOp, subOp, truth, seqOf, eqD, isNone, callF, lend, slots, back, isLent, List.map_cons, List.map_nil, List.length_cons, List.length_nil, List.cons_append, List.nil_append, List.replicate, Nat.reduceAdd, Nat.reduceSub, List.getElem?_cons_zero, List.getElem?_cons_succ, List.set_cons_zero, List.set_cons_succ, List.getD_cons_zero, List.getD_cons_succ, if_true, if_false, reduceIte, Option.map_some, Option.map_none, List.filterMap_nil, List.filterMap_cons, List.nodup_nil, id_eq, Bool.false_eq_true, nodup1, Wk_Γ, Wk_C] at h ⊢
      exact h
section
variable {C : Nat → PyData} {P : Nat → Option Fn} {fuel k : Nat}
theorem take_S (h : P 2 = some f_law_take) (p : List Int) (m : Int) : sem C P fuel (k + 1) 2 [.o (.lst (iL p)), .v (.int m)] = .v (.int (tkR p m)) [.lst (iL (tkP p m))] := by
  rw [sem_at h, take_run]
theorem pool_S (h0 : P 0 = some f_law_cell) (h1 : P 1 = some f_law_pool) (ns : List Int) (i many : Nat) (hm : many < 1000000) : ∃ p, sem C P fuel (k + 2) 1 [.v (.list (iL ns)), .v (.int i), .v (.int many)] = .o (.lst (iL p)) [] := by
  rw [sem_at h1]
  refine pool_run fuel _ (lmk h0 m_law_cell) ns i many hm ?_
  rw [Wk_Γ, sem_at h0]
  exact cell_run fuel _ ns i
end
end Rc

set_option Elab.async false
set_option linter.all false
set_option maxRecDepth 100000
set_option maxHeartbeats 1000000
/-! Txs: texts as lists of signs. -/
namespace Rc
open PySem
/-- the text of these signs -/
def tx (l : List Nat) : Str := ⟨l.toArray⟩
def Tx (l : List Nat) : PyData := .str (tx l)
theorem tx_list (l : List Nat) : (tx l).cps.toList = l := by simp [tx]
theorem tx_of (x : Str) : tx x.cps.toList = x := by
  cases x
  simp [tx]
theorem tx_len (l : List Nat) : (tx l).length = l.length := by simp [tx, Str.length]
theorem tx_cat (a b : List Nat) : tx a ++ tx b = tx (a ++ b) := by
  show (⟨(tx a).cps ++ (tx b).cps⟩ : Str) = _
  simp [tx]
theorem tx_inj {a b : List Nat} (h : tx a = tx b) : a = b := by
  have := congrArg (fun x : Str => x.cps.toList) h
  simpa [tx_list] using this
theorem tx_eq (a b : List Nat) : decide (tx a = tx b) = decide (a = b) := by
  by_cases h : a = b
  · subst h
    simp
  · rw [decide_eq_false h, decide_eq_false fun e => h (tx_inj e)]
theorem sign_tx (c : Nat) : sign c = Tx [c] := rfl
theorem signs_tx (l : List Nat) : signs (tx l) = l.map fun c => Tx [c] := by
  unfold signs
  rw [tx_list]
  rfl
theorem in_tx (c : Nat) (l : List Nat) : inStr (tx [c]) (tx l) = decide (c ∈ l) := by
  unfold inStr
  rw [tx_list, tx_list]
theorem lit_tx (s : String) : (Str.ofString s) = tx (Str.ofString s).cps.toList := (tx_of _).symm
/-! ### cuts -/
theorem take_min {α : Type} (xs : List α) (k : Nat) : xs.take (min k xs.length) = xs.take k := by
  rcases Nat.le_total k xs.length with h | h
  · rw [Nat.min_eq_left h]
  · rw [Nat.min_eq_right h, List.take_length, List.take_of_length_le h]
theorem drop_min {α : Type} (xs : List α) (k : Nat) : xs.drop (min k xs.length) = xs.drop k := by
  rcases Nat.le_total k xs.length with h | h
  · rw [Nat.min_eq_left h]
  · rw [Nat.min_eq_right h, List.drop_length, List.drop_eq_nil_of_le h]
theorem cut_to {α : Type} (xs : List α) (k : Nat) : cut xs none (some (k : Int)) = xs.take k := by
  unfold cut
  rw [HT.sIx_none, HT.sIx_nat, List.drop_zero, Nat.sub_zero, take_min]
theorem cut_from {α : Type} (xs : List α) (k : Nat) : cut xs (some (k : Int)) none = xs.drop k := by
  unfold cut
  rw [HT.sIx_none, HT.sIx_nat, drop_min]
  exact List.take_of_length_le (by rw [List.length_drop]; omega)
theorem cut_init {α : Type} (xs : List α) : cut xs none (some (-1)) = xs.dropLast := by
  unfold cut
  have e : HT.sIx xs.length xs.length (some (-1)) = xs.length - 1 := by
    show (if (-1 : Int) < 0 then ((-1 : Int) + (xs.length : Int)).toNat else min (-1 : Int).toNat xs.length) = _
    rw [if_pos (by decide)]
    omega
  rw [HT.sIx_none, e, List.drop_zero, Nat.sub_zero, List.dropLast_eq_take]
end Rc
namespace Rc
open PySem
theorem shaped_tx {l : List Nat} (h : PyData.strOk (tx l) = true) : SeqAt.shaped (Tx l) = true := by
  unfold SeqAt.shaped Tx
  rw [Bool.and_eq_true]
  exact ⟨h, rfl⟩
theorem canAll_tx : ∀ {ks : List (List Nat)}, (∀ l ∈ ks, PyData.strOk (tx l) = true) → PyData.canLayAll0 (ks.map Tx) = true
  | [], _ => rfl
  | k :: ks, h => by
    show (PyData.strOk (tx k) && PyData.canLayAll0 (ks.map Tx)) = true
    rw [canAll_tx fun l hl => h l (List.mem_cons_of_mem _ hl), h k List.mem_cons_self]
    rfl
theorem depth_tx : ∀ ks : List (List Nat), PyData.depthAll (ks.map Tx) ≤ 1
  | [] => by decide
  | k :: ks => by
    have h := depth_tx ks
    have e : PyData.depthAll ((k :: ks).map Tx) = max (PyData.depth (Tx k)) (PyData.depthAll (ks.map Tx)) := rfl
    have e2 : PyData.depth (Tx k) ≤ 1 := by show PyData.depth (.str (tx k)) ≤ 1; simp [PyData.depth]
    omega
theorem eqv_tx (a b : List Nat) : PyData.eqv (Tx a) (Tx b) = decide (a = b) := by
  show (tx a == tx b) = _
  by_cases h : a = b
  · subst h
    simp
  · rw [decide_eq_false h]
    exact beq_eq_false_iff_ne.mpr fun e => h (tx_inj e)
theorem inD_tx {k : List Nat} {ks : List (List Nat)} (h : PyData.strOk (tx k) = true) (hs : ∀ l ∈ ks, PyData.strOk (tx l) = true) : inD (Tx k) (ks.map Tx) = some (decide (k ∈ ks)) := by
  have s1 := shaped_tx h
  have s2 : SeqAt.shaped (.list (ks.map Tx)) = true := by
    unfold SeqAt.shaped
    rw [Bool.and_eq_true]
    have d := depth_tx ks
    refine ⟨canAll_tx hs, decide_eq_true ?_⟩
    show PyData.depthAll (ks.map Tx) + 1 ≤ 64
    omega
  unfold inD
  rw [s1, s2]
  show some ((ks.map Tx).any fun y => PyData.eqv y (Tx k)) = _
  congr 1
  rw [List.any_map, Bool.eq_iff_iff, List.any_eq_true, decide_eq_true_iff]
  constructor
  · rintro ⟨l, hl, e⟩
    have e : PyData.eqv (Tx l) (Tx k) = true := e
    rw [eqv_tx, decide_eq_true_iff] at e
    exact e ▸ hl
  · intro hk
    refine ⟨k, hk, ?_⟩
    show PyData.eqv (Tx k) (Tx k) = true
    rw [eqv_tx]
    simp
end Rc

set_option Elab.async false
set_option linter.all false
set_option maxRecDepth 100000
set_option maxHeartbeats 4000000
/-! Prm: the laws' common drawing defs: signs, lots, texts. -/
namespace Rc
open PySem
theorem skol {α β γ : Type} {P : α → β → γ → Prop} (h : ∀ a, ∃ b c, P a b c) : ∃ (f : α → β) (g : α → γ), ∀ a, P a (f a) (g a) :=
  ⟨fun a => Classical.choose (h a), fun a => Classical.choose (Classical.choose_spec (h a)), fun a => Classical.choose_spec (Classical.choose_spec (h a))⟩
theorem skol1 {α β : Type} {P : α → β → Prop} (h : ∀ a, ∃ b, P a b) : ∃ f : α → β, ∀ a, P a (f a) :=
  ⟨fun a => Classical.choose (h a), fun a => Classical.choose_spec (h a)⟩
/-- a comprehension by an invariant -/
theorem compL_ok {turn : PyData → Env → Out (Option PyData)} : ∀ {xs acc : List PyData} {ρ : Env} {o : Out (List PyData)}, compL turn xs acc ρ = o → ∀ (I : Nat → List PyData → Env → Prop),
    (∀ i x acc ρ, xs[i]? = some x → I i acc ρ → ∃ r ρ', turn x ρ = .ok r ρ' ∧ match r with
      | none => I (i + 1) acc ρ'
      | some d => acc.length < Lm ∧ I (i + 1) (acc ++ [d]) ρ') → I 0 acc ρ → ∃ ds ρ', o = .ok ds ρ' ∧ I xs.length ds ρ'
  | [], acc, ρ, o, hq, I, _, h0 => ⟨acc, ρ, hq.symm, h0⟩
  | x :: xs, acc, ρ, o, hq, I, step, h0 => by
    have hq : ((turn x ρ).bind fun r ρ' => match r with
      | none => compL turn xs acc ρ'
      | some d => if acc.length < Lm then compL turn xs (acc ++ [d]) ρ' else .bad) = o := hq
    obtain ⟨r, ρ', e, h⟩ := step 0 x acc ρ rfl h0
    rw [e] at hq
    cases r with
    | none => exact compL_ok (xs := xs) (show compL turn xs acc ρ' = o from hq) (fun i => I (i + 1)) (fun i y a r hy => step (i + 1) y a r hy) h
    | some d =>
      have hq : (if acc.length < Lm then compL turn xs (acc ++ [d]) ρ' else .bad) = o := hq
      rw [if_pos h.1] at hq
      exact compL_ok (xs := xs) hq (fun i => I (i + 1)) (fun i y a r hy => step (i + 1) y a r hy) h.2
/-- a loop that runs to its end -/
theorem forL_ok {body : PyData → Env → SO} : ∀ {xs : List PyData} {ρ : Env} {o : SO}, forL body xs ρ = o → ∀ (I : Nat → Env → Prop),
    (∀ i x ρ, xs[i]? = some x → I i ρ → ∃ ρ', (body x ρ = .nx ρ' ∨ body x ρ = .cnt ρ') ∧ I (i + 1) ρ') → I 0 ρ → ∃ ρ', o = .nx ρ' ∧ I xs.length ρ'
  | [], ρ, o, hq, I, _, h0 => ⟨ρ, hq.symm, h0⟩
  | x :: xs, ρ, o, hq, I, step, h0 => by
    have hq : ((body x ρ).turn fun ρ' => forL body xs ρ') = o := hq
    obtain ⟨ρ', e, h⟩ := step 0 x ρ rfl h0
    rcases e with e | e
    · rw [e] at hq
      exact forL_ok (xs := xs) (show forL body xs ρ' = o from hq) (fun i => I (i + 1)) (fun i y r hy => step (i + 1) y r hy) h
    · rw [e] at hq
      exact forL_ok (xs := xs) (show forL body xs ρ' = o from hq) (fun i => I (i + 1)) (fun i y r hy => step (i + 1) y r hy) h
/-! ### texts joined -/
theorem strsD_tx : ∀ ls : List (List Nat), strsD (ls.map Tx) = some (ls.map tx)
  | [] => rfl
  | l :: ls => by
    show (strsD (ls.map Tx)).map (tx l :: ·) = _
    rw [strsD_tx ls]
    rfl
theorem join_tx : ∀ ls : List (List Nat), PySem.Str.join (Str.ofString "") (ls.map tx) = tx ls.flatten
  | [] => rfl
  | [l] => by
    show tx l = tx (l ++ [])
    rw [List.append_nil]
  | l :: m :: ls => by
    have h := join_tx (m :: ls)
    show tx l ++ Str.ofString "" ++ PySem.Str.join (Str.ofString "") ((m :: ls).map tx) = _
    rw [h, show (Str.ofString "") = tx [] from rfl, tx_cat, tx_cat, List.append_nil]
    rfl
theorem join_op {ls : List (List Nat)} (h : ls.flatten.length ≤ Lm) : pmOp .join (.str "") [.list (ls.map Tx)] = some (.v (Tx ls.flatten)) := by
  have e : strsOf (.list (ls.map Tx)) = some (ls.map tx) := strsD_tx ls
  have z : ((ls.map tx).map (fun x : PySem.Str => x.length)).sum + (ls.map tx).length * (Str.ofString "").length ≤ Lm := by
    have q : (ls.map tx).map (fun x : PySem.Str => x.length) = ls.map List.length := by
      rw [List.map_map]
      exact List.map_congr_left fun l _ => tx_len l
    rw [q, ← List.length_flatten, show (Str.ofString "").length = 0 from rfl]
    omega
  show (match strsOf (.list (ls.map Tx)) with
    | some ys => if (ys.map (fun x : PySem.Str => x.length)).sum + ys.length * (Str.ofString "").length ≤ Lm then some (R.v (.str (PySem.Txt.join (Str.ofString "") ys))) else none
    | none => none) = _
  rw [e]
  show (if _ then _ else _) = _
  rw [if_pos z]
  show some (R.v (.str (Builtin.Str.glued (Str.ofString "") (ls.map tx)))) = _
  rw [StrLaws.glued_eq_join, join_tx]
  rfl
theorem flat1 (l : List Nat) : (l.map fun c => [c]).flatten = l := by
  induction l with
  | nil => rfl
  | cons c l ih =>
    show c :: (l.map fun c => [c]).flatten = _
    rw [ih]
theorem join_signs {l : List Nat} (h : l.length ≤ Lm) : pmOp .join (.str "") [.list (l.map fun c => Tx [c])] = some (.v (Tx l)) := by
  have := join_op (ls := l.map fun c => [c]) (by rw [flat1]; exact h)
  rw [flat1, List.map_map] at this
  exact this
/-- the statements behind the first n -/
def bodyOf (n : Nat) : Sts → Sts
  | .nil => .nil
  | .cons s r => match n with
    | 0 => .cons s r
    | n + 1 => bodyOf n r
/-! ### operations, one by one -/
theorem o_add (a b : Int) : binOp .Add (.int a) (.int b) = some (.v (.int (a + b))) := Eq.trans rfl rfl
theorem o_sub (a b : Int) : binOp .Sub (.int a) (.int b) = some (.v (.int (a - b))) := Eq.trans rfl rfl
theorem o_eq (a b : Int) : cmpOp .Eq (.int a) (.int b) = some (decide (a = b)) := Eq.trans rfl rfl
theorem o_ne (a b : Int) : cmpOp .NotEq (.int a) (.int b) = some (!decide (a = b)) := Eq.trans rfl rfl
theorem o_lt (a b : Int) : cmpOp .Lt (.int a) (.int b) = some (decide (a < b)) := by rw [← ltI_eq]; rfl
theorem o_le (a b : Int) : cmpOp .LtE (.int a) (.int b) = some (decide (a ≤ b)) := by rw [← leI_eq]; rfl
theorem o_gt (a b : Int) : cmpOp .Gt (.int a) (.int b) = some (decide (b < a)) := by rw [← ltI_eq]; rfl
theorem o_ge (a b : Int) : cmpOp .GtE (.int a) (.int b) = some (decide (b ≤ a)) := by rw [← leI_eq]; rfl
theorem o_isN (d : PyData) : cmpOp .Is d .none = some (isNone d) := Eq.trans rfl rfl
theorem o_isnN (d : PyData) : cmpOp .IsNot d .none = some (!isNone d) := Eq.trans rfl rfl
theorem o_lenL (xs : List PyData) : biOp .len [.list xs] = some (.v (.int (xs.length : Nat))) := Eq.trans rfl rfl
theorem o_lenT (xs : List PyData) : biOp .len [.tuple xs] = some (.v (.int (xs.length : Nat))) := Eq.trans rfl rfl
theorem o_atL (xs : List PyData) (i : Int) : subOp (.list xs) (.int i) = L2.atI xs i := Eq.trans rfl rfl
theorem o_atT (xs : List PyData) (i : Int) : subOp (.tuple xs) (.int i) = L2.atI xs i := Eq.trans rfl rfl
theorem o_sqL (xs : List PyData) : seqOf (.list xs) = some xs := Eq.trans rfl rfl
theorem o_sqT (xs : List PyData) : seqOf (.tuple xs) = some xs := Eq.trans rfl rfl
theorem o_tupL (xs : List PyData) : biOp .tuple_ [.list xs] = some (.v (.tuple xs)) := Eq.trans rfl rfl
theorem o_listL (xs : List PyData) : biOp .list_ [.list xs] = some (.o (.lst xs)) := Eq.trans rfl rfl
theorem o_listT (xs : List PyData) : biOp .list_ [.tuple xs] = some (.o (.lst xs)) := Eq.trans rfl rfl
theorem o_int (a : Int) : biOp .int_ [.int a] = some (.v (.int a)) := Eq.trans rfl rfl
theorem o_cat {a b : List Nat} (h : a.length + b.length ≤ 1000000) : binOp .Add (Tx a) (Tx b) = some (.v (Tx (a ++ b))) := by
  show (if (tx a).length + (tx b).length ≤ Lm then some (R.v (.str (tx a ++ tx b))) else none) = _
  rw [tx_len, tx_len, if_pos (Nat.le_trans h (by decide)), tx_cat]
  rfl
theorem o_catL {xs ys : List PyData} (h : xs.length + ys.length ≤ 1000000) : binOp .Add (.list xs) (.list ys) = some (.o (.lst (xs ++ ys))) := by
  show (if xs.length + ys.length ≤ Lm then _ else _) = _
  rw [if_pos (Nat.le_trans h (by decide))]
theorem o_catT {xs ys : List PyData} (h : xs.length + ys.length ≤ 1000000) : binOp .Add (.tuple xs) (.tuple ys) = some (.v (.tuple (xs ++ ys))) := by
  show (if xs.length + ys.length ≤ Lm then _ else _) = _
  rw [if_pos (Nat.le_trans h (by decide))]
theorem o_app {xs : List PyData} {d : PyData} (h : xs.length < 1000000) : muOp .append xs [d] = some (.none, xs ++ [d]) := by
  show (if xs.length < Lm then _ else _) = _
  rw [if_pos (Nat.lt_of_lt_of_le h (by decide))]
theorem o_eqT (a b : List Nat) : cmpOp .Eq (Tx a) (Tx b) = some (decide (a = b)) := by
  show some (decide (tx a = tx b)) = _
  rw [tx_eq]
theorem o_neT (a b : List Nat) : cmpOp .NotEq (Tx a) (Tx b) = some (!decide (a = b)) := by
  show some (!decide (tx a = tx b)) = _
  rw [tx_eq]
theorem o_inT (c : Nat) (l : List Nat) : cmpOp .In (Tx [c]) (Tx l) = some (decide (c ∈ l)) := by
  show some (inStr (tx [c]) (tx l)) = _
  rw [in_tx]
theorem o_ninT (c : Nat) (l : List Nat) : cmpOp .NotIn (Tx [c]) (Tx l) = some (!decide (c ∈ l)) := by
  show some (!inStr (tx [c]) (tx l)) = _
  rw [in_tx]
theorem o_sqTx (l : List Nat) : seqOf (Tx l) = some (l.map fun c => Tx [c]) := by
  show some (signs (tx l)) = _
  rw [signs_tx]
theorem o_Tx0 : (.str (Str.ofString "") : PyData) = Tx [] := Eq.trans rfl rfl
/-! ### items of lists and texts -/
theorem atI_nat {α : Type} {xs : List α} {i : Nat} {d : α} (h : xs[i]? = some d) : L2.atI xs (i : Int) = some d := by
  have hl := (List.getElem?_eq_some_iff.mp h).1
  unfold L2.atI L2.ixN
  rw [if_pos (by omega), if_pos (by omega)]
  exact h
theorem sub_tx {l : List Nat} {i c : Nat} (hl : l.length ≤ Lm) (h : l[i]? = some c) : subOp (Tx l) (.int (i : Int)) = some (Tx [c]) := by
  show (if (tx l).length ≤ Lm then (L2.atI (tx l).cps.toList (i : Int)).map sign else none) = _
  rw [tx_len, if_pos hl, tx_list, atI_nat h]
  rfl
theorem len_tx {l : List Nat} (hl : l.length ≤ Lm) : biOp .len [Tx l] = some (.v (.int (l.length : Nat))) := by
  show (if (tx l).length ≤ Lm then _ else _) = _
  rw [tx_len, if_pos hl]
/-- a sign drawn of a text -/
theorem pickT {l : List Nat} (hl : l.length ≤ Lm) (h : l ≠ []) : ∃ f : List Int → Nat, ∀ p, f p ∈ l ∧ subOp (Tx l) (.int (tkR p (l.length : Int))) = some (Tx [f p]) :=
  skol1 (P := fun p c => c ∈ l ∧ subOp (Tx l) (.int (tkR p (l.length : Int))) = some (Tx [c])) fun p => by
    have hn : tkN p (l.length : Int) < l.length := tkN_lt p (List.length_pos_iff.mpr h)
    refine ⟨l[tkN p (l.length : Int)], List.getElem_mem _, ?_⟩
    rw [tk_N]
    exact sub_tx hl (List.getElem?_eq_getElem hn)
/-- an item drawn of a list -/
theorem pickL {xs : List PyData} (h : xs ≠ []) : ∃ f : List Int → PyData, ∀ p, f p ∈ xs ∧ L2.atI xs (tkR p (xs.length : Int)) = some (f p) :=
  skol1 (P := fun p d => d ∈ xs ∧ L2.atI xs (tkR p (xs.length : Int)) = some d) fun p => by
    have hn : tkN p (xs.length : Int) < xs.length := tkN_lt p (List.length_pos_iff.mpr h)
    refine ⟨xs[tkN p (xs.length : Int)], List.getElem_mem _, ?_⟩
    rw [tk_N]
    exact atI_nat (List.getElem?_eq_getElem hn)
theorem cat_tx {a b : List Nat} (h : a.length + b.length ≤ Lm) : binOp .Add (Tx a) (Tx b) = some (.v (Tx (a ++ b))) := by
  show (if (tx a).length + (tx b).length ≤ Lm then some (R.v (.str (tx a ++ tx b))) else none) = _
  rw [tx_len, tx_len, if_pos h, tx_cat]
  rfl
theorem small_nat' {n : Nat} (h : n < 1000000) : small62 (n : Int) = true := small_nat h
theorem small_int {n : Int} (h0 : -1000000000000 ≤ n) (h : n < 1000000000000) : small62 n = true := within_iff.mpr (by omega)
/-- taking an item out of a row leaves the same items -/
theorem erase_perm {α : Type} : ∀ {xs : List α} {i : Nat} {x : α}, xs[i]? = some x → (x :: xs.eraseIdx i).Perm xs
  | [], i, x, h => by simp at h
  | y :: ys, 0, x, h => by
    cases (show some y = some x from h)
    exact List.Perm.refl _
  | y :: ys, i + 1, x, h => by
    have h := erase_perm (xs := ys) (i := i) (by simpa using h)
    exact (List.Perm.swap y x _).trans (h.cons y)
theorem er_map {α β : Type} (f : α → β) : ∀ (xs : List α) (i : Nat), (xs.map f).eraseIdx i = (xs.eraseIdx i).map f
  | [], _ => rfl
  | _ :: _, 0 => rfl
  | x :: xs, i + 1 => by
    show f x :: (xs.map f).eraseIdx i = f x :: (xs.eraseIdx i).map f
    rw [er_map f xs i]
/-! ### the defs -/
/-- number 3 -/
def f_law_signs : Fn := ⟨[true, false], 5, (.cons (.asg (.nm 2) (.bi .list_ (.cons (.str "abcdefghijklmnopqrstuvwxyzABCDEFGHIJKLMNOPQRSTUVWXYZ0123456789!#$&'()*+,./:;<=>?\u0040[]^_{|}~\"") .nil)))
    (.cons (.asg (.nm 3) (.str ""))
    (.cons (.for_ (.nm 4) (.rng1 (.var 1)) (.cons (.asg (.nm 3) (.bin .Add (.var 3) (.mu .popAt 2 (.cons (.call 2 (.cons (.var 0) (.cons (.bi .len (.cons (.var 2) .nil)) .nil))) .nil))))
        .nil))
    (.cons (.ret (.var 3))
    .nil))))⟩
theorem m_law_signs : f_law_signs.mask = [true, false] := Eq.trans rfl rfl
/-- number 4 -/
def f_law_lot : Fn := ⟨[true, false], 3, (.cons (.ife (.val (.cmp .Eq (.call 2 (.cons (.var 0) (.cons (.int 4) .nil))) (.int 0))) (.cons (.ret (.var 1))
        .nil) .nil)
    (.cons (.ret (.pm .join (.str "") (.cons (.comp (.var 2) (.nm 2) (.seq (.var 1)) (.cons (.val (.cmp .Eq (.call 2 (.cons (.var 0) (.cons (.int 2) .nil))) (.int 0))) .nil) [2]) .nil)))
    .nil))⟩
theorem m_law_lot : f_law_lot.mask = [true, false] := Eq.trans rfl rfl
/-- number 5 -/
def f_law_kind : Fn := ⟨[true], 3, (.cons (.asg (.nm 1) (.str "abcdefghijklmnopqrstuvwxyz"))
    (.cons (.ret (.pm .join (.str "") (.cons (.comp (.sub (.var 1) (.call 2 (.cons (.var 0) (.cons (.int 26) .nil)))) (.nm 2) (.rng1 (.bin .Add (.int 1) (.call 2 (.cons (.var 0) (.cons (.int 8) .nil))))) .nil [2]) .nil)))
    .nil))⟩
theorem m_law_kind : f_law_kind.mask = [true] := Eq.trans rfl rfl
/-- number 26 -/
def f_law_text : Fn := ⟨[true, false, false], 4, (.cons (.ret (.pm .join (.str "") (.cons (.comp (.sub (.var 1) (.call 2 (.cons (.var 0) (.cons (.bi .len (.cons (.var 1) .nil)) .nil)))) (.nm 3) (.rng1 (.call 2 (.cons (.var 0) (.cons (.bin .Add (.var 2) (.int 1)) .nil)))) .nil [3]) .nil)))
    .nil)⟩
theorem m_law_text : f_law_text.mask = [true, false, false] := Eq.trans rfl rfl
/-- number 53 -/
def f_law_mixed : Fn := ⟨[true, false], 5, (.cons (.asg (.nm 2) (.bi .list_ (.cons (.var 1) .nil)))
    (.cons (.asg (.nm 3) (.lst .nil))
    (.cons (.for_ (.nm 4) (.rng1 (.bi .len (.cons (.var 1) .nil))) (.cons (.exp (.mu .append 3 (.cons (.mu .popAt 2 (.cons (.call 2 (.cons (.var 0) (.cons (.bi .len (.cons (.var 2) .nil)) .nil))) .nil)) .nil)))
        .nil))
    (.cons (.ret (.var 3))
    .nil))))⟩
theorem m_law_mixed : f_law_mixed.mask = [true, false] := Eq.trans rfl rfl
/-- what a world tells of taking -/
structure Tk (W : Wd) : Prop where
  l : W.lm 2 = [true, false]
  g : ∀ p m, W.Γ 2 [.o (.lst (iL p)), .v (.int m)] = .v (.int (tkR p m)) [.lst (iL (tkP p m))]
theorem Tk.of {C : Nat → PyData} {P : Nat → Option Fn} {fuel k : Nat} (h : P 2 = some f_law_take) : Tk (Wk fuel P C (k + 1)) := ⟨lmk h m_law_take, fun p m => by rw [Wk_Γ, take_S h]⟩
/-- the 92 signs -/
def abc : List Nat := (Str.ofString "abcdefghijklmnopqrstuvwxyzABCDEFGHIJKLMNOPQRSTUVWXYZ0123456789!#$&'()*+,./:;<=>?\u0040[]^_{|}~\"").cps.toList
theorem abc_len : abc.length = 90 := by decide +kernel
theorem abc_nd : abc.Nodup := by decide +kernel
theorem abc_lt : ∀ c ∈ abc, 32 < c ∧ c < 127 ∧ c ≠ 45 := by decide +kernel
theorem abc_eq : (Str.ofString "abcdefghijklmnopqrstuvwxyzABCDEFGHIJKLMNOPQRSTUVWXYZ0123456789!#$&'()*+,./:;<=>?\u0040[]^_{|}~\"") = tx abc := (tx_of _).symm
theorem signs_run (fuel : Nat) (W : Wd) (T : Tk W) (n : Nat) (hn : n ≤ 90) (p : List Int) : ∃ s p', runFn fuel W f_law_signs [.o (.lst (iL p)), .v (.int n)] = .v (Tx s) [.lst (iL p')] ∧ s.length = n ∧ s.Nodup ∧ ∀ c ∈ s, c ∈ abc := by
  unfold f_law_signs runFn
  have e1 : biOp .list_ [.str (tx abc)] = some (.o (.lst (abc.map fun c => Tx [c]))) := by
    show (if (tx abc).length ≤ Lm then some (R.o (.lst (signs (tx abc)))) else none) = _
    rw [tx_len, abc_len, if_pos (by decide), signs_tx]
  have s62 : small62 (n : Int) = true := small_nat (by omega)
  simp only [RCa, optR, optV, optB, view, views, fin, lent, isO, setTg, setAll, setCA, kd, wipes, unwipe, frz, binOp, muOp, truth, seqOf, isNone, callF, lend, slots, back, isLent, List.map_cons, List.map_nil, List.length_cons, List.length_nil, List.cons_append, List.nil_append, List.replicate, Nat.reduceAdd, Nat.reduceSub, List.getElem?_cons_zero, List.getElem?_cons_succ, List.set_cons_zero, List.set_cons_succ, List.getD_cons_zero, List.getD_cons_succ, if_true, if_false, reduceIte, Option.map_some, Option.map_none, List.filterMap_nil, List.filterMap_cons, List.nodup_nil, id_eq, Bool.false_eq_true, nodup1, Wk_Γ, Wk_C, abc_eq, e1, s62]
  generalize hq : forL _ _ _ = o
  obtain ⟨ρ', rfl, q, s, left, b, rfl, hs, hp⟩ := forL_ok hq (fun i ρ => ∃ q s left b, ρ = [.o (.lst (iL q)), .v (.int n), .o (.lst (left.map fun c => Tx [c])), .v (Tx s), b] ∧ s.length = i ∧ (s ++ left).Perm abc) (by
    rintro i x ρ hx ⟨q, s, left, b, rfl, hs, hp⟩
    obtain ⟨rfl, hi⟩ := rng1L_get hx
    rw [Int.toNat_natCast] at hi
    have hlen := hp.length_eq
    rw [List.length_append, abc_len] at hlen
    have e2 : biOp .len [.list (left.map fun c => Tx [c])] = some (.v (.int (left.length : Nat))) := by
      show some (R.v (.int ((left.map fun c => Tx [c]).length : Nat))) = _
      rw [List.length_map]
    have hj : tkN q (left.length : Int) < left.length := tkN_lt q (by omega)
    have hg : left[tkN q (left.length : Int)]? = some left[tkN q (left.length : Int)] := List.getElem?_eq_getElem hj
    have e3 : muOp .popAt (left.map fun c => Tx [c]) [.int (tkR q (left.length : Int))] = some (Tx [left[tkN q (left.length : Int)]], (left.eraseIdx (tkN q (left.length : Int))).map fun c => Tx [c]) := by
      have hw : (leI 0 (tkN q (left.length : Int) : Int) && within 9223372036854775807 (tkN q (left.length : Int) : Int)) = true := by
        rw [Bool.and_eq_true, leI_eq, decide_eq_true_iff, within_iff]
        omega
      rw [tk_N]
      show (if _ then _ else _) = _
      rw [if_pos hw, Int.toNat_natCast, List.getElem?_map, hg, er_map]
      rfl
    have e4 : binOp .Add (Tx s) (Tx [left[tkN q (left.length : Int)]]) = some (.v (Tx (s ++ [left[tkN q (left.length : Int)]]))) := cat_tx (by simp only [List.length_cons, List.length_nil]; exact Nat.le_trans (show s.length + 1 ≤ 91 by omega) (by decide))
    refine ⟨_, .inl ?_, tkP q (left.length : Int), s ++ [left[tkN q (left.length : Int)]], left.eraseIdx (tkN q (left.length : Int)), .v (.int (i : Nat)), rfl, by rw [List.length_append, hs]; rfl, ?_⟩
    · simp only [turnF_ap, RCa, optR, optV, optB, view, views, fin, lent, isO, setTg, setAll, setCA, kd, wipes, unwipe, frz, truth, seqOf, isNone, callF, lend, slots, back, isLent, List.map_cons, List.map_nil, List.length_cons, List.length_nil, List.cons_append, List.nil_append, List.replicate, Nat.reduceAdd, Nat.reduceSub, List.getElem?_cons_zero, List.getElem?_cons_succ, List.set_cons_zero, List.set_cons_succ, List.getD_cons_zero, List.getD_cons_succ, if_true, if_false, reduceIte, Option.map_some, Option.map_none, List.filterMap_nil, List.filterMap_cons, List.nodup_nil, id_eq, Bool.false_eq_true, nodup1, Wk_Γ, Wk_C, T.l, e2, T.g, e3, e4]
    · rw [List.append_assoc]
      exact (List.Perm.append_left s (erase_perm hg)).trans hp) ⟨p, [], abc, _, rfl, rfl, List.Perm.refl _⟩
  rw [rng1L_len, Int.toNat_natCast] at hs
  have hnd := hp.nodup_iff.mpr abc_nd
  refine ⟨s, q, ?_, hs, (List.nodup_append.mp hnd).1, fun c hc => hp.mem_iff.mp (List.mem_append_left _ hc)⟩
  simp only [RCa, optR, optV, optB, view, views, fin, lent, isO, setTg, setAll, setCA, kd, wipes, unwipe, frz, binOp, muOp, truth, seqOf, isNone, callF, lend, slots, back, isLent, List.map_cons, List.map_nil, List.length_cons, List.length_nil, List.cons_append, List.nil_append, List.replicate, Nat.reduceAdd, Nat.reduceSub, List.getElem?_cons_zero, List.getElem?_cons_succ, List.set_cons_zero, List.set_cons_succ, List.getD_cons_zero, List.getD_cons_succ, if_true, if_false, reduceIte, Option.map_some, Option.map_none, List.filterMap_nil, List.filterMap_cons, List.nodup_nil, id_eq, Bool.false_eq_true, nodup1, Wk_Γ, Wk_C]
theorem lot_run (fuel : Nat) (W : Wd) (T : Tk W) (l : List Nat) (hl : l.length ≤ Lm) (p : List Int) : ∃ s p', runFn fuel W f_law_lot [.o (.lst (iL p)), .v (Tx l)] = .v (Tx s) [.lst (iL p')] ∧ s.Sublist l := by
  unfold f_law_lot runFn
  have sq : seqOf (Tx l) = some (l.map fun c => Tx [c]) := by
    show some (signs (tx l)) = _
    rw [signs_tx]
  have c4 : ∀ a : Int, cmpOp .Eq (.int a) (.int 0) = some (decide (a = 0)) := fun _ => rfl
  simp only [RCa, optR, optV, optB, view, views, fin, lent, isO, setTg, setAll, setCA, kd, wipes, unwipe, frz, binOp, muOp, truth, isNone, callF, lend, slots, back, isLent, List.map_cons, List.map_nil, List.length_cons, List.length_nil, List.cons_append, List.nil_append, List.replicate, Nat.reduceAdd, Nat.reduceSub, List.getElem?_cons_zero, List.getElem?_cons_succ, List.set_cons_zero, List.set_cons_succ, List.getD_cons_zero, List.getD_cons_succ, if_true, if_false, reduceIte, Option.map_some, Option.map_none, List.filterMap_nil, List.filterMap_cons, List.nodup_nil, id_eq, Bool.false_eq_true, nodup1, Wk_Γ, Wk_C, T.l, T.g, c4]
  cases h4 : decide (tkR p 4 = 0) with
  | true =>
    simp only [RCa, optR, optV, optB, view, views, fin, lent, isO, setTg, setAll, setCA, kd, wipes, unwipe, frz, binOp, muOp, truth, isNone, callF, lend, slots, back, isLent, List.map_cons, List.map_nil, List.length_cons, List.length_nil, List.cons_append, List.nil_append, List.replicate, Nat.reduceAdd, Nat.reduceSub, List.getElem?_cons_zero, List.getElem?_cons_succ, List.set_cons_zero, List.set_cons_succ, List.getD_cons_zero, List.getD_cons_succ, if_true, if_false, reduceIte, Option.map_some, Option.map_none, List.filterMap_nil, List.filterMap_cons, List.nodup_nil, id_eq, Bool.false_eq_true, nodup1, Wk_Γ, Wk_C]
    exact ⟨l, _, rfl, List.Sublist.refl _⟩
  | false =>
    simp only [RCa, optR, optV, optB, view, views, fin, lent, isO, setTg, setAll, setCA, kd, wipes, unwipe, frz, binOp, muOp, truth, isNone, callF, lend, slots, back, isLent, List.map_cons, List.map_nil, List.length_cons, List.length_nil, List.cons_append, List.nil_append, List.replicate, Nat.reduceAdd, Nat.reduceSub, List.getElem?_cons_zero, List.getElem?_cons_succ, List.set_cons_zero, List.set_cons_succ, List.getD_cons_zero, List.getD_cons_succ, if_true, if_false, reduceIte, Option.map_some, Option.map_none, List.filterMap_nil, List.filterMap_cons, List.nodup_nil, id_eq, Bool.false_eq_true, nodup1, Wk_Γ, Wk_C, sq]
    generalize hq : compL _ _ _ _ = o
    obtain ⟨ds, ρ', rfl, q, s, b, rfl, rfl, hs⟩ := compL_ok hq (fun i acc ρ => ∃ q s b, acc = (s.map fun c => Tx [c]) ∧ ρ = [.o (.lst (iL q)), .v (Tx l), b] ∧ s.Sublist (l.take i)) (by
      rintro i x acc ρ hx ⟨q, s, b, rfl, rfl, hs⟩
      rw [List.getElem?_map] at hx
      obtain ⟨c, hc, rfl⟩ := Option.map_eq_some_iff.mp hx
      have hi := (List.getElem?_eq_some_iff.mp hc).1
      have ht : l.take (i + 1) = l.take i ++ [c] := by rw [List.take_succ, hc]; rfl
      simp only [turnC_ap, RCa, optR, optV, optB, view, views, fin, lent, isO, setTg, setAll, setCA, kd, wipes, unwipe, frz, binOp, muOp, truth, isNone, callF, lend, slots, back, isLent, List.map_cons, List.map_nil, List.length_cons, List.length_nil, List.cons_append, List.nil_append, List.replicate, Nat.reduceAdd, Nat.reduceSub, List.getElem?_cons_zero, List.getElem?_cons_succ, List.set_cons_zero, List.set_cons_succ, List.getD_cons_zero, List.getD_cons_succ, if_true, if_false, reduceIte, Option.map_some, Option.map_none, List.filterMap_nil, List.filterMap_cons, List.nodup_nil, id_eq, Bool.false_eq_true, nodup1, Wk_Γ, Wk_C, T.l, T.g, c4]
      cases h2 : decide (tkR q 2 = 0) with
      | false =>
        simp only [RCa, optR, optV, optB, view, views, fin, lent, isO, setTg, setAll, setCA, kd, wipes, unwipe, frz, binOp, muOp, truth, isNone, callF, lend, slots, back, isLent, List.map_cons, List.map_nil, List.length_cons, List.length_nil, List.cons_append, List.nil_append, List.replicate, Nat.reduceAdd, Nat.reduceSub, List.getElem?_cons_zero, List.getElem?_cons_succ, List.set_cons_zero, List.set_cons_succ, List.getD_cons_zero, List.getD_cons_succ, if_true, if_false, reduceIte, Option.map_some, Option.map_none, List.filterMap_nil, List.filterMap_cons, List.nodup_nil, id_eq, Bool.false_eq_true, nodup1, Wk_Γ, Wk_C]
        exact ⟨_, _, rfl, _, s, _, rfl, rfl, by rw [ht]; exact hs.trans (List.sublist_append_left _ _)⟩
      | true =>
        simp only [RCa, optR, optV, optB, view, views, fin, lent, isO, setTg, setAll, setCA, kd, wipes, unwipe, frz, binOp, muOp, truth, isNone, callF, lend, slots, back, isLent, List.map_cons, List.map_nil, List.length_cons, List.length_nil, List.cons_append, List.nil_append, List.replicate, Nat.reduceAdd, Nat.reduceSub, List.getElem?_cons_zero, List.getElem?_cons_succ, List.set_cons_zero, List.set_cons_succ, List.getD_cons_zero, List.getD_cons_succ, if_true, if_false, reduceIte, Option.map_some, Option.map_none, List.filterMap_nil, List.filterMap_cons, List.nodup_nil, id_eq, Bool.false_eq_true, nodup1, Wk_Γ, Wk_C]
        refine ⟨_, _, rfl, ?_, _, s ++ [c], _, by rw [List.map_append]; rfl, rfl, by rw [ht]; exact hs.append (List.Sublist.refl _)⟩
        have := hs.length_le
        rw [List.length_take] at this
        rw [List.length_map]
        exact Nat.lt_of_lt_of_le (show s.length < l.length by omega) hl) ⟨_, [], _, rfl, rfl, List.Sublist.refl _⟩
    rw [List.length_map, List.take_length] at hs
    have hj := join_signs (l := s) (Nat.le_trans hs.length_le hl)
    simp only [RCa, optR, optV, optB, view, views, fin, lent, isO, setTg, setAll, setCA, kd, wipes, unwipe, frz, binOp, muOp, truth, isNone, callF, lend, slots, back, isLent, List.map_cons, List.map_nil, List.length_cons, List.length_nil, List.cons_append, List.nil_append, List.replicate, Nat.reduceAdd, Nat.reduceSub, List.getElem?_cons_zero, List.getElem?_cons_succ, List.set_cons_zero, List.set_cons_succ, List.getD_cons_zero, List.getD_cons_succ, if_true, if_false, reduceIte, Option.map_some, Option.map_none, List.filterMap_nil, List.filterMap_cons, List.nodup_nil, id_eq, Bool.false_eq_true, nodup1, Wk_Γ, Wk_C, hj]
    exact ⟨s, _, rfl, hs⟩
/-- the letters -/
def ltr : List Nat := (Str.ofString "abcdefghijklmnopqrstuvwxyz").cps.toList
theorem ltr_len : ltr.length = 26 := by decide +kernel
theorem ltr_in : ∀ c ∈ ltr, 97 ≤ c ∧ c ≤ 122 := by decide +kernel
theorem ltr_eq : (Str.ofString "abcdefghijklmnopqrstuvwxyz") = tx ltr := (tx_of _).symm
theorem kind_run (fuel : Nat) (W : Wd) (T : Tk W) (p : List Int) : ∃ s p', runFn fuel W f_law_kind [.o (.lst (iL p))] = .v (Tx s) [.lst (iL p')] ∧ s ≠ [] ∧ s.length ≤ 8 ∧ ∀ c ∈ s, 97 ≤ c ∧ c ≤ 122 := by
  unfold f_law_kind runFn
  obtain ⟨f, hf⟩ := pickT (l := ltr) (by rw [ltr_len]; decide) (by intro h; have := ltr_len; rw [h] at this; cases this)
  have hf2 : ∀ p, subOp (.str (tx ltr)) (.int (tkR p 26)) = some (Tx [f p]) := fun p => by
    have := (hf p).2
    rwa [ltr_len] at this
  have h8 := tk_lt p (m := 8) (by decide)
  have h0 := tk_nn p 8
  have s62 : small62 (1 + tkR p 8) = true := small_int (by omega) (by omega)
  simp only [RCa, optR, optV, optB, view, views, fin, lent, isO, setTg, setAll, setCA, kd, wipes, unwipe, frz, binOp, muOp, truth, seqOf, isNone, callF, lend, slots, back, isLent, List.map_cons, List.map_nil, List.length_cons, List.length_nil, List.cons_append, List.nil_append, List.replicate, Nat.reduceAdd, Nat.reduceSub, List.getElem?_cons_zero, List.getElem?_cons_succ, List.set_cons_zero, List.set_cons_succ, List.getD_cons_zero, List.getD_cons_succ, if_true, if_false, reduceIte, Option.map_some, Option.map_none, List.filterMap_nil, List.filterMap_cons, List.nodup_nil, id_eq, Bool.false_eq_true, nodup1, Wk_Γ, Wk_C, ltr_eq, T.l, T.g, s62]
  generalize hq : compL _ _ _ _ = o
  obtain ⟨ds, ρ', rfl, q, s, b, rfl, rfl, hs, hm⟩ := compL_ok hq (fun i acc ρ => ∃ q s b, acc = s.map (fun c => Tx [c]) ∧ ρ = [.o (.lst (iL q)), .v (.str (tx ltr)), b] ∧ s.length = i ∧ ∀ c ∈ s, 97 ≤ c ∧ c ≤ 122) (by
    rintro i x acc ρ hx ⟨q, s, b, rfl, rfl, hs, hm⟩
    obtain ⟨rfl, hi⟩ := rng1L_get hx
    simp only [turnC_ap, RCa, optR, optV, optB, view, views, fin, lent, isO, setTg, setAll, setCA, kd, wipes, unwipe, frz, binOp, muOp, truth, seqOf, isNone, callF, lend, slots, back, isLent, List.map_cons, List.map_nil, List.length_cons, List.length_nil, List.cons_append, List.nil_append, List.replicate, Nat.reduceAdd, Nat.reduceSub, List.getElem?_cons_zero, List.getElem?_cons_succ, List.set_cons_zero, List.set_cons_succ, List.getD_cons_zero, List.getD_cons_succ, if_true, if_false, reduceIte, Option.map_some, Option.map_none, List.filterMap_nil, List.filterMap_cons, List.nodup_nil, id_eq, Bool.false_eq_true, nodup1, Wk_Γ, Wk_C, T.l, T.g, hf2]
    refine ⟨_, _, rfl, ?_, _, s ++ [f q], _, by rw [List.map_append]; rfl, rfl, by rw [List.length_append, hs]; rfl, fun c hc => ?_⟩
    · rw [List.length_map, hs]
      exact Nat.lt_of_lt_of_le (show i < 9 by omega) (by decide)
    · rcases List.mem_append.mp hc with h | h
      · exact hm c h
      · rw [List.mem_singleton.mp h]
        exact ltr_in _ (hf q).1) ⟨_, [], _, rfl, rfl, rfl, fun c h => by cases h⟩
  rw [rng1L_len] at hs
  have hj := join_signs (l := s) (Nat.le_trans (show s.length ≤ 8 by omega) (by decide))
  simp only [RCa, optR, optV, optB, view, views, fin, lent, isO, setTg, setAll, setCA, kd, wipes, unwipe, frz, binOp, muOp, truth, seqOf, isNone, callF, lend, slots, back, isLent, List.map_cons, List.map_nil, List.length_cons, List.length_nil, List.cons_append, List.nil_append, List.replicate, Nat.reduceAdd, Nat.reduceSub, List.getElem?_cons_zero, List.getElem?_cons_succ, List.set_cons_zero, List.set_cons_succ, List.getD_cons_zero, List.getD_cons_succ, if_true, if_false, reduceIte, Option.map_some, Option.map_none, List.filterMap_nil, List.filterMap_cons, List.nodup_nil, id_eq, Bool.false_eq_true, nodup1, Wk_Γ, Wk_C, hj]
  refine ⟨s, _, rfl, ?_, by omega, hm⟩
  rintro rfl
  rw [List.length_nil] at hs
  omega
theorem text_run (fuel : Nat) (W : Wd) (T : Tk W) (l : List Nat) (hl : l.length ≤ Lm) (h0 : l ≠ []) (most : Nat) (hm : most < 1000000) (p : List Int) : ∃ s p', runFn fuel W f_law_text [.o (.lst (iL p)), .v (Tx l), .v (.int most)] = .v (Tx s) [.lst (iL p')] ∧ s.length ≤ most ∧ ∀ c ∈ s, c ∈ l := by
  unfold f_law_text runFn
  obtain ⟨f, hf⟩ := pickT hl h0
  have hf2 : ∀ p, subOp (Tx l) (.int (tkR p (l.length : Int))) = some (Tx [f p]) := fun p => (hf p).2
  have h8 := tk_lt p (m := (most : Int) + 1) (by omega)
  have h00 := tk_nn p ((most : Int) + 1)
  have s62 : small62 (tkR p ((most : Int) + 1)) = true := small_int (by omega) (by omega)
  simp only [RCa, optR, optV, optB, view, views, fin, lent, isO, setTg, setAll, setCA, kd, wipes, unwipe, frz, binOp, muOp, truth, seqOf, isNone, callF, lend, slots, back, isLent, List.map_cons, List.map_nil, List.length_cons, List.length_nil, List.cons_append, List.nil_append, List.replicate, Nat.reduceAdd, Nat.reduceSub, List.getElem?_cons_zero, List.getElem?_cons_succ, List.set_cons_zero, List.set_cons_succ, List.getD_cons_zero, List.getD_cons_succ, if_true, if_false, reduceIte, Option.map_some, Option.map_none, List.filterMap_nil, List.filterMap_cons, List.nodup_nil, id_eq, Bool.false_eq_true, nodup1, Wk_Γ, Wk_C, T.l, T.g, s62]
  generalize hq : compL _ _ _ _ = o
  obtain ⟨ds, ρ', rfl, q, s, b, rfl, rfl, hs, hm⟩ := compL_ok hq (fun i acc ρ => ∃ q s b, acc = s.map (fun c => Tx [c]) ∧ ρ = [.o (.lst (iL q)), .v (Tx l), .v (.int most), b] ∧ s.length = i ∧ ∀ c ∈ s, c ∈ l) (by
    rintro i x acc ρ hx ⟨q, s, b, rfl, rfl, hs, hm⟩
    obtain ⟨rfl, hi⟩ := rng1L_get hx
    simp only [turnC_ap, RCa, optR, optV, optB, view, views, fin, lent, isO, setTg, setAll, setCA, kd, wipes, unwipe, frz, binOp, muOp, truth, seqOf, isNone, callF, lend, slots, back, isLent, List.map_cons, List.map_nil, List.length_cons, List.length_nil, List.cons_append, List.nil_append, List.replicate, Nat.reduceAdd, Nat.reduceSub, List.getElem?_cons_zero, List.getElem?_cons_succ, List.set_cons_zero, List.set_cons_succ, List.getD_cons_zero, List.getD_cons_succ, if_true, if_false, reduceIte, Option.map_some, Option.map_none, List.filterMap_nil, List.filterMap_cons, List.nodup_nil, id_eq, Bool.false_eq_true, nodup1, Wk_Γ, Wk_C, T.l, T.g, len_tx hl, hf2]
    refine ⟨_, _, rfl, ?_, _, s ++ [f q], _, by rw [List.map_append]; rfl, rfl, by rw [List.length_append, hs]; rfl, fun c hc => ?_⟩
    · rw [List.length_map, hs]
      exact Nat.lt_of_lt_of_le (show i < 1000000 by omega) (by decide)
    · rcases List.mem_append.mp hc with h | h
      · exact hm c h
      · rw [List.mem_singleton.mp h]
        exact (hf q).1) ⟨_, [], _, rfl, rfl, rfl, fun c h => by cases h⟩
  rw [rng1L_len] at hs
  have hj := join_signs (l := s) (Nat.le_trans (show s.length ≤ 1000000 by omega) (by decide))
  simp only [RCa, optR, optV, optB, view, views, fin, lent, isO, setTg, setAll, setCA, kd, wipes, unwipe, frz, binOp, muOp, truth, seqOf, isNone, callF, lend, slots, back, isLent, List.map_cons, List.map_nil, List.length_cons, List.length_nil, List.cons_append, List.nil_append, List.replicate, Nat.reduceAdd, Nat.reduceSub, List.getElem?_cons_zero, List.getElem?_cons_succ, List.set_cons_zero, List.set_cons_succ, List.getD_cons_zero, List.getD_cons_succ, if_true, if_false, reduceIte, Option.map_some, Option.map_none, List.filterMap_nil, List.filterMap_cons, List.nodup_nil, id_eq, Bool.false_eq_true, nodup1, Wk_Γ, Wk_C, hj]
  exact ⟨s, _, rfl, by omega, hm⟩
theorem mixed_run (fuel : Nat) (W : Wd) (T : Tk W) (row : PyData) (xs : List PyData) (h1 : biOp .list_ [row] = some (.o (.lst xs))) (h2 : biOp .len [row] = some (.v (.int xs.length))) (hl : xs.length < 1000000) (p : List Int) : ∃ ys p', runFn fuel W f_law_mixed [.o (.lst (iL p)), .v row] = .o (.lst ys) [.lst (iL p')] ∧ ys.Perm xs := by
  unfold f_law_mixed runFn
  have s62 : small62 (xs.length : Int) = true := small_nat hl
  simp only [RCa, optR, optV, optB, view, views, fin, lent, isO, setTg, setAll, setCA, kd, wipes, unwipe, frz, binOp, muOp, truth, seqOf, isNone, callF, lend, slots, back, isLent, List.map_cons, List.map_nil, List.length_cons, List.length_nil, List.cons_append, List.nil_append, List.replicate, Nat.reduceAdd, Nat.reduceSub, List.getElem?_cons_zero, List.getElem?_cons_succ, List.set_cons_zero, List.set_cons_succ, List.getD_cons_zero, List.getD_cons_succ, if_true, if_false, reduceIte, Option.map_some, Option.map_none, List.filterMap_nil, List.filterMap_cons, List.nodup_nil, id_eq, Bool.false_eq_true, nodup1, Wk_Γ, Wk_C, h1, h2, s62]
  generalize hq : forL _ _ _ = o
  obtain ⟨ρ', rfl, q, s, left, b, rfl, hs, hp⟩ := forL_ok hq (fun i ρ => ∃ q s left b, ρ = [.o (.lst (iL q)), .v row, .o (.lst left), .o (.lst s), b] ∧ s.length = i ∧ (s ++ left).Perm xs) (by
    rintro i x ρ hx ⟨q, s, left, b, rfl, hs, hp⟩
    obtain ⟨rfl, hi⟩ := rng1L_get hx
    rw [Int.toNat_natCast] at hi
    have hlen := hp.length_eq
    rw [List.length_append] at hlen
    have e2 : biOp .len [.list left] = some (.v (.int (left.length : Nat))) := rfl
    have hj : tkN q (left.length : Int) < left.length := tkN_lt q (by omega)
    have hg : left[tkN q (left.length : Int)]? = some left[tkN q (left.length : Int)] := List.getElem?_eq_getElem hj
    have e3 : muOp .popAt left [.int (tkR q (left.length : Int))] = some (left[tkN q (left.length : Int)], left.eraseIdx (tkN q (left.length : Int))) := by
      have hw : (leI 0 (tkN q (left.length : Int) : Int) && within 9223372036854775807 (tkN q (left.length : Int) : Int)) = true := by
        rw [Bool.and_eq_true, leI_eq, decide_eq_true_iff, within_iff]
        omega
      rw [tk_N]
      show (if _ then _ else _) = _
      rw [if_pos hw, Int.toNat_natCast, hg]
      rfl
    have e4 : muOp .append s [left[tkN q (left.length : Int)]] = some (.none, s ++ [left[tkN q (left.length : Int)]]) := by
      show (if s.length < Lm then _ else _) = _
      rw [if_pos (Nat.lt_of_lt_of_le (show s.length < 1000000 by omega) (by decide))]
    refine ⟨_, .inl ?_, tkP q (left.length : Int), s ++ [left[tkN q (left.length : Int)]], left.eraseIdx (tkN q (left.length : Int)), .v (.int (i : Nat)), rfl, by rw [List.length_append, hs]; rfl, ?_⟩
    · simp only [turnF_ap, RCa, optR, optV, optB, view, views, fin, lent, isO, setTg, setAll, setCA, kd, wipes, unwipe, frz, truth, seqOf, isNone, callF, lend, slots, back, isLent, List.map_cons, List.map_nil, List.length_cons, List.length_nil, List.cons_append, List.nil_append, List.replicate, Nat.reduceAdd, Nat.reduceSub, List.getElem?_cons_zero, List.getElem?_cons_succ, List.set_cons_zero, List.set_cons_succ, List.getD_cons_zero, List.getD_cons_succ, if_true, if_false, reduceIte, Option.map_some, Option.map_none, List.filterMap_nil, List.filterMap_cons, List.nodup_nil, id_eq, Bool.false_eq_true, nodup1, Wk_Γ, Wk_C, T.l, e2, T.g, e3, e4]
    · rw [List.append_assoc]
      exact (List.Perm.append_left s (erase_perm hg)).trans hp) ⟨p, [], xs, _, rfl, rfl, List.Perm.refl _⟩
  rw [rng1L_len, Int.toNat_natCast] at hs
  have hlen := hp.length_eq
  rw [List.length_append, hs] at hlen
  have hn : left = [] := List.length_eq_zero_iff.mp (by omega)
  rw [hn, List.append_nil] at hp
  simp only [RCa, optR, optV, optB, view, views, fin, lent, isO, setTg, setAll, setCA, kd, wipes, unwipe, frz, binOp, muOp, truth, seqOf, isNone, callF, lend, slots, back, isLent, List.map_cons, List.map_nil, List.length_cons, List.length_nil, List.cons_append, List.nil_append, List.replicate, Nat.reduceAdd, Nat.reduceSub, List.getElem?_cons_zero, List.getElem?_cons_succ, List.set_cons_zero, List.set_cons_succ, List.getD_cons_zero, List.getD_cons_succ, if_true, if_false, reduceIte, Option.map_some, Option.map_none, List.filterMap_nil, List.filterMap_cons, List.nodup_nil, id_eq, Bool.false_eq_true, nodup1, Wk_Γ, Wk_C]
  exact ⟨s, q, rfl, hp⟩
section
variable {C : Nat → PyData} {P : Nat → Option Fn} {fuel k : Nat}
theorem signs_S (h2 : P 2 = some f_law_take) (h : P 3 = some f_law_signs) {z : Int} (h0 : 0 ≤ z) (hn : z ≤ 90) (p : List Int) : ∃ s p', sem C P fuel (k + 2) 3 [.o (.lst (iL p)), .v (.int z)] = .v (Tx s) [.lst (iL p')] ∧ s.length = z.toNat ∧ s.Nodup ∧ ∀ c ∈ s, c ∈ abc := by
  rw [sem_at h, ← Int.toNat_of_nonneg h0]
  exact signs_run _ _ (Tk.of h2) z.toNat (by omega) p
theorem lot_S (h2 : P 2 = some f_law_take) (h : P 4 = some f_law_lot) (l : List Nat) (hl : l.length ≤ Lm) (p : List Int) : ∃ s p', sem C P fuel (k + 2) 4 [.o (.lst (iL p)), .v (Tx l)] = .v (Tx s) [.lst (iL p')] ∧ s.Sublist l := by
  rw [sem_at h]
  exact lot_run _ _ (Tk.of h2) l hl p
theorem kind_S (h2 : P 2 = some f_law_take) (h : P 5 = some f_law_kind) (p : List Int) : ∃ s p', sem C P fuel (k + 2) 5 [.o (.lst (iL p))] = .v (Tx s) [.lst (iL p')] ∧ s ≠ [] ∧ s.length ≤ 8 ∧ ∀ c ∈ s, 97 ≤ c ∧ c ≤ 122 := by
  rw [sem_at h]
  exact kind_run _ _ (Tk.of h2) p
end
end Rc

set_option Elab.async false
set_option linter.all false
set_option maxRecDepth 100000
set_option maxHeartbeats 4000000
/-! Edi: edits: the program's and the laws' common defs. -/
namespace Rc
open PySem
/-- number 46 -/
def f_is_int : Fn := ⟨[false], 1, (.cons (.ret (.and (.isi (.var 0) "int") (.nott (.isi (.var 0) "bool"))))
    .nil)⟩
theorem m_is_int : f_is_int.mask = [false] := Eq.trans rfl rfl
/-- number 47 -/
def f_is_from : Fn := ⟨[false, false, false], 3, (.cons (.ret (.and (.call 46 (.cons (.var 0) .nil)) (.cmp2 .LtE .LtE (.var 1) (.var 0) (.var 2))))
    .nil)⟩
theorem m_is_from : f_is_from.mask = [false, false, false] := Eq.trans rfl rfl
/-- number 48 -/
def f_is_row : Fn := ⟨[false, false], 2, (.cons (.ret (.and (.isi (.var 0) "tuple") (.cmp .Eq (.bi .len (.cons (.var 0) .nil)) (.var 1))))
    .nil)⟩
theorem m_is_row : f_is_row.mask = [false, false] := Eq.trans rfl rfl
/-- number 84 -/
def f_is_edit : Fn := ⟨[false, false], 2, (.cons (.ife (.or (.nott (.val (.call 48 (.cons (.var 1) (.cons (.int 3) .nil))))) (.nott (.val (.isi (.sub (.var 1) (.int 2)) "str")))) (.cons (.ret (.bl false))
        .nil) .nil)
    (.cons (.ife (.nott (.val (.call 47 (.cons (.sub (.var 1) (.int 0)) (.cons (.int 0) (.cons (.bi .len (.cons (.var 0) .nil)) .nil)))))) (.cons (.ret (.bl false))
        .nil) .nil)
    (.cons (.ret (.call 47 (.cons (.sub (.var 1) (.int 1)) (.cons (.int 0) (.cons (.bin .Sub (.bi .len (.cons (.var 0) .nil)) (.sub (.var 1) (.int 0))) .nil)))))
    .nil)))⟩
theorem m_is_edit : f_is_edit.mask = [false, false] := Eq.trans rfl rfl
/-- number 85 -/
def f_check_edit : Fn := ⟨[false, false], 2, (.cons (.ife (.nott (.val (.call 84 (.cons (.var 0) (.cons (.var 1) .nil))))) (.cons (.raise 5 (.cons (.str "edit") .nil))
        .nil) .nil)
    .nil)⟩
theorem m_check_edit : f_check_edit.mask = [false, false] := Eq.trans rfl rfl
/-- number 86 -/
def f_edited : Fn := ⟨[false, false], 5, (.cons (.asg (.tp [2, 3, 4]) (.var 1))
    (.cons (.ret (.bin .Add (.bin .Add (.slcH (.var 0) (.var 2)) (.var 4)) (.slcL (.var 0) (.bin .Add (.var 2) (.var 3)))))
    .nil))⟩
theorem m_edited : f_edited.mask = [false, false] := Eq.trans rfl rfl
/-- number 87 -/
def f_apply_edit : Fn := ⟨[false, false], 2, (.cons (.exp (.call 85 (.cons (.var 0) (.cons (.var 1) .nil))))
    (.cons (.ret (.call 86 (.cons (.var 0) (.cons (.var 1) .nil))))
    .nil))⟩
theorem m_apply_edit : f_apply_edit.mask = [false, false] := Eq.trans rfl rfl
/-- number 88 -/
def f_is_ahead : Fn := ⟨[false, false], 2, (.cons (.ret (.cmp .LtE (.bin .Add (.sub (.var 0) (.int 0)) (.sub (.var 0) (.int 1))) (.sub (.var 1) (.int 0))))
    .nil)⟩
theorem m_is_ahead : f_is_ahead.mask = [false, false] := Eq.trans rfl rfl
/-- number 89 -/
def f_shift_edit : Fn := ⟨[false, false, false], 5, (.cons (.par [3, 4] [true, true] (.cons (.call 88 (.cons (.var 0) (.cons (.var 1) .nil))) (.cons (.call 88 (.cons (.var 1) (.cons (.var 0) .nil))) .nil)))
    (.cons (.ife (.and (.nott (.val (.var 3))) (.nott (.val (.var 4)))) (.cons (.raise 6 .nil)
        .nil) .nil)
    (.cons (.ife (.and (.val (.var 3)) (.val (.var 4))) (.cons (.asg (.nm 3) (.var 2))
        .nil) .nil)
    (.cons (.ife (.val (.var 3)) (.cons (.ret (.var 0))
        .nil) .nil)
    (.cons (.ret (.tup (.cons (.bin .Sub (.bin .Add (.sub (.var 0) (.int 0)) (.bi .len (.cons (.sub (.var 1) (.int 2)) .nil))) (.sub (.var 1) (.int 1))) (.cons (.sub (.var 0) (.int 1)) (.cons (.sub (.var 0) (.int 2)) .nil)))))
    .nil)))))⟩
theorem m_shift_edit : f_shift_edit.mask = [false, false, false] := Eq.trans rfl rfl
/-- number 74 -/
def f_law_edit : Fn := ⟨[true, false, false, false], 6, (.cons (.asg (.nm 4) (.call 2 (.cons (.var 0) (.cons (.bin .Add (.bi .len (.cons (.var 1) .nil)) (.int 1)) .nil))))
    (.cons (.asg (.nm 5) (.call 2 (.cons (.var 0) (.cons (.bin .Add (.bi .min2 (.cons (.bin .Sub (.bi .len (.cons (.var 1) .nil)) (.var 4)) (.cons (.var 3) .nil))) (.int 1)) .nil))))
    (.cons (.ret (.tup (.cons (.var 4) (.cons (.var 5) (.cons (.call 26 (.cons (.var 0) (.cons (.var 2) (.cons (.var 3) .nil)))) .nil)))))
    .nil)))⟩
theorem m_law_edit : f_law_edit.mask = [true, false, false, false] := Eq.trans rfl rfl
/-- number 75 -/
def f_law_same : Fn := ⟨[false, false], 3, (.cons (.ife (.val (.isi (.var 1) "tuple")) (.cons (.ife (.or (.nott (.val (.isi (.var 0) "tuple"))) (.val (.cmp .NotEq (.bi .len (.cons (.var 0) .nil)) (.bi .len (.cons (.var 1) .nil))))) (.cons (.ret (.bl false))
            .nil) .nil)
        (.cons (.ret (.bi .all_ (.cons (.comp (.call 75 (.cons (.sub (.var 0) (.var 2)) (.cons (.sub (.var 1) (.var 2)) .nil))) (.nm 2) (.rng1 (.bi .len (.cons (.var 1) .nil))) .nil [2]) .nil)))
        .nil)) .nil)
    (.cons (.ife (.val (.isi (.var 1) "bool")) (.cons (.ret (.and (.isi (.var 0) "bool") (.cmp .Eq (.var 0) (.var 1))))
        .nil) .nil)
    (.cons (.ife (.val (.isi (.var 1) "int")) (.cons (.ret (.and (.isi (.var 0) "int") (.and (.nott (.isi (.var 0) "bool")) (.cmp .Eq (.var 0) (.var 1)))))
        .nil) .nil)
    (.cons (.ife (.val (.isi (.var 1) "str")) (.cons (.ret (.and (.isi (.var 0) "str") (.cmp .Eq (.var 0) (.var 1))))
        .nil) .nil)
    (.cons (.ret (.cmp .Is (.var 0) .non))
    .nil)))))⟩
theorem m_law_same : f_law_same.mask = [false, false] := Eq.trans rfl rfl
/-- an edit -/
structure Ed where
  a : Nat
  o : Nat
  p : List Nat
def Ed.D (e : Ed) : PyData := .tuple [.int e.a, .int e.o, Tx e.p]
/-- it fits a text of n signs -/
def Ed.fit (e : Ed) (n : Nat) : Prop := e.a + e.o ≤ n
def Ed.on (e : Ed) (t : List Nat) : List Nat := t.take e.a ++ e.p ++ t.drop (e.a + e.o)
theorem sl_to {l : List Nat} (k : Nat) (hl : l.length ≤ Lm) : slcOp (Tx l) none (some (k : Int)) = some (.v (Tx (l.take k))) := by
  show (if (tx l).length ≤ Lm then some (R.v (.str ⟨(cut (tx l).cps.toList none (some (k : Int))).toArray⟩)) else none) = _
  rw [tx_len, if_pos hl, tx_list, cut_to]
  rfl
theorem sl_from {l : List Nat} (k : Nat) (hl : l.length ≤ Lm) : slcOp (Tx l) (some (k : Int)) none = some (.v (Tx (l.drop k))) := by
  show (if (tx l).length ≤ Lm then some (R.v (.str ⟨(cut (tx l).cps.toList (some (k : Int)) none).toArray⟩)) else none) = _
  rw [tx_len, if_pos hl, tx_list, cut_from]
  rfl
theorem ed0 (e : Ed) : L2.atI [PyData.int e.a, .int e.o, Tx e.p] 0 = some (.int e.a) := Eq.trans rfl rfl
theorem ed1 (e : Ed) : L2.atI [PyData.int e.a, .int e.o, Tx e.p] 1 = some (.int e.o) := Eq.trans rfl rfl
theorem ed2 (e : Ed) : L2.atI [PyData.int e.a, .int e.o, Tx e.p] 2 = some (Tx e.p) := Eq.trans rfl rfl
theorem ty_int (i : Int) : tyOf (.int i) = "int" := Eq.trans rfl rfl
theorem ty_tup (xs : List PyData) : tyOf (.tuple xs) = "tuple" := Eq.trans rfl rfl
theorem ty_tx (l : List Nat) : tyOf (Tx l) = "str" := Eq.trans rfl rfl
theorem ty_bool (b : Bool) : tyOf (.bool b) = "bool" := Eq.trans rfl rfl
theorem ii : isTy "int" "int" = true := by decide
theorem ib : isTy "int" "bool" = false := by decide
theorem tt : isTy "tuple" "tuple" = true := by decide
theorem ss : isTy "str" "str" = true := by decide
theorem it_ : isTy "int" "tuple" = false := by decide
theorem st_ : isTy "str" "tuple" = false := by decide
theorem sb : isTy "str" "bool" = false := by decide
theorem si : isTy "str" "int" = false := by decide
theorem bt_ : isTy "bool" "tuple" = false := by decide
theorem bb : isTy "bool" "bool" = true := by decide
section
variable (fuel : Nat) (W : Wd)
theorem is_int_run (i : Int) : runFn fuel W f_is_int [.v (.int i)] = .v (.bool true) [] := by
  unfold f_is_int runFn
  simp only [RCa, optR, optV, optB, view, views, fin, lent, isO, setTg, setAll, setCA, kd, wipes, unwipe, frz, truth, isNone, callF, lend, slots, back, isLent, List.map_cons, List.map_nil, List.length_cons, List.length_nil, List.cons_append, List.nil_append, List.replicate, Nat.reduceAdd, Nat.reduceSub, List.getElem?_cons_zero, List.getElem?_cons_succ, List.set_cons_zero, List.set_cons_succ, List.getD_cons_zero, List.getD_cons_succ, if_true, if_false, reduceIte, Option.map_some, Option.map_none, List.filterMap_nil, List.filterMap_cons, List.nodup_nil, id_eq, Bool.false_eq_true, nodup1, Wk_Γ, Wk_C, o_add, o_sub, o_eq, o_ne, o_lt, o_le, o_gt, o_ge, o_isN, o_isnN, o_lenL, o_lenT, o_atL, o_atT, o_sqL, o_sqT, o_tupL, o_listL, o_listT, o_int, o_eqT, o_neT, o_inT, o_ninT, o_sqTx, o_Tx0, ty_int, ii, ib, Bool.not_false]
theorem is_row_run (xs : List PyData) (n : Int) : runFn fuel W f_is_row [.v (.tuple xs), .v (.int n)] = .v (.bool (decide ((xs.length : Int) = n))) [] := by
  unfold f_is_row runFn
  simp only [RCa, optR, optV, optB, view, views, fin, lent, isO, setTg, setAll, setCA, kd, wipes, unwipe, frz, truth, isNone, callF, lend, slots, back, isLent, List.map_cons, List.map_nil, List.length_cons, List.length_nil, List.cons_append, List.nil_append, List.replicate, Nat.reduceAdd, Nat.reduceSub, List.getElem?_cons_zero, List.getElem?_cons_succ, List.set_cons_zero, List.set_cons_succ, List.getD_cons_zero, List.getD_cons_succ, if_true, if_false, reduceIte, Option.map_some, Option.map_none, List.filterMap_nil, List.filterMap_cons, List.nodup_nil, id_eq, Bool.false_eq_true, nodup1, Wk_Γ, Wk_C, o_add, o_sub, o_eq, o_ne, o_lt, o_le, o_gt, o_ge, o_isN, o_isnN, o_lenL, o_lenT, o_atL, o_atT, o_sqL, o_sqT, o_tupL, o_listL, o_listT, o_int, o_eqT, o_neT, o_inT, o_ninT, o_sqTx, o_Tx0, ty_tup, tt]
theorem is_from_run (l46 : W.lm 46 = [false]) (g46 : ∀ i, W.Γ 46 [.v (.int i)] = .v (.bool true) []) (i l m : Int) : runFn fuel W f_is_from [.v (.int i), .v (.int l), .v (.int m)] = .v (.bool (decide (l ≤ i) && decide (i ≤ m))) [] := by
  unfold f_is_from runFn
  simp only [RCa, optR, optV, optB, view, views, fin, lent, isO, setTg, setAll, setCA, kd, wipes, unwipe, frz, truth, isNone, callF, lend, slots, back, isLent, List.map_cons, List.map_nil, List.length_cons, List.length_nil, List.cons_append, List.nil_append, List.replicate, Nat.reduceAdd, Nat.reduceSub, List.getElem?_cons_zero, List.getElem?_cons_succ, List.set_cons_zero, List.set_cons_succ, List.getD_cons_zero, List.getD_cons_succ, if_true, if_false, reduceIte, Option.map_some, Option.map_none, List.filterMap_nil, List.filterMap_cons, List.nodup_nil, id_eq, Bool.false_eq_true, nodup1, Wk_Γ, Wk_C, o_add, o_sub, o_eq, o_ne, o_lt, o_le, o_gt, o_ge, o_isN, o_isnN, o_lenL, o_lenT, o_atL, o_atT, o_sqL, o_sqT, o_tupL, o_listL, o_listT, o_int, o_eqT, o_neT, o_inT, o_ninT, o_sqTx, o_Tx0, l46, g46]
  by_cases h : l ≤ i
  · simp only [decide_eq_true h, RCa, optR, optV, optB, view, views, fin, lent, isO, setTg, setAll, setCA, kd, wipes, unwipe, frz, truth, isNone, callF, lend, slots, back, isLent, List.map_cons, List.map_nil, List.length_cons, List.length_nil, List.cons_append, List.nil_append, List.replicate, Nat.reduceAdd, Nat.reduceSub, List.getElem?_cons_zero, List.getElem?_cons_succ, List.set_cons_zero, List.set_cons_succ, List.getD_cons_zero, List.getD_cons_succ, if_true, if_false, reduceIte, Option.map_some, Option.map_none, List.filterMap_nil, List.filterMap_cons, List.nodup_nil, id_eq, Bool.false_eq_true, nodup1, Wk_Γ, Wk_C, o_add, o_sub, o_eq, o_ne, o_lt, o_le, o_gt, o_ge, o_isN, o_isnN, o_lenL, o_lenT, o_atL, o_atT, o_sqL, o_sqT, o_tupL, o_listL, o_listT, o_int, o_eqT, o_neT, o_inT, o_ninT, o_sqTx, o_Tx0, Bool.true_and]
  · simp only [decide_eq_false h, RCa, optR, optV, optB, view, views, fin, lent, isO, setTg, setAll, setCA, kd, wipes, unwipe, frz, truth, isNone, callF, lend, slots, back, isLent, List.map_cons, List.map_nil, List.length_cons, List.length_nil, List.cons_append, List.nil_append, List.replicate, Nat.reduceAdd, Nat.reduceSub, List.getElem?_cons_zero, List.getElem?_cons_succ, List.set_cons_zero, List.set_cons_succ, List.getD_cons_zero, List.getD_cons_succ, if_true, if_false, reduceIte, Option.map_some, Option.map_none, List.filterMap_nil, List.filterMap_cons, List.nodup_nil, id_eq, Bool.false_eq_true, nodup1, Wk_Γ, Wk_C, o_add, o_sub, o_eq, o_ne, o_lt, o_le, o_gt, o_ge, o_isN, o_isnN, o_lenL, o_lenT, o_atL, o_atT, o_sqL, o_sqT, o_tupL, o_listL, o_listT, o_int, o_eqT, o_neT, o_inT, o_ninT, o_sqTx, o_Tx0, Bool.false_and]
theorem is_edit_run (l47 : W.lm 47 = [false, false, false]) (l48 : W.lm 48 = [false, false]) (g47 : ∀ i l m : Int, W.Γ 47 [.v (.int i), .v (.int l), .v (.int m)] = .v (.bool (decide (l ≤ i) && decide (i ≤ m))) [])
    (g48 : ∀ (xs : List PyData) (n : Int), W.Γ 48 [.v (.tuple xs), .v (.int n)] = .v (.bool (decide ((xs.length : Int) = n))) []) (t : List Nat) (ht : t.length ≤ 1000000) (e : Ed) (h : e.fit t.length) : runFn fuel W f_is_edit [.v (Tx t), .v e.D] = .v (.bool true) [] := by
  unfold f_is_edit runFn Ed.D
  unfold Ed.fit at h
  have lt := len_tx (l := t) (Nat.le_trans ht (by decide))
  have h1 : decide (((3 : Nat) : Int) = 3) = true := rfl
  have h2 : (decide ((0 : Int) ≤ (e.a : Int)) && decide ((e.a : Int) ≤ (t.length : Int))) = true := by rw [decide_eq_true (by omega), decide_eq_true (by omega)]; rfl
  have h3 : (decide ((0 : Int) ≤ (e.o : Int)) && decide ((e.o : Int) ≤ (t.length : Int) - (e.a : Int))) = true := by rw [decide_eq_true (by omega), decide_eq_true (by omega)]; rfl
  simp only [RCa, optR, optV, optB, view, views, fin, lent, isO, setTg, setAll, setCA, kd, wipes, unwipe, frz, truth, isNone, callF, lend, slots, back, isLent, List.map_cons, List.map_nil, List.length_cons, List.length_nil, List.cons_append, List.nil_append, List.replicate, Nat.reduceAdd, Nat.reduceSub, List.getElem?_cons_zero, List.getElem?_cons_succ, List.set_cons_zero, List.set_cons_succ, List.getD_cons_zero, List.getD_cons_succ, if_true, if_false, reduceIte, Option.map_some, Option.map_none, List.filterMap_nil, List.filterMap_cons, List.nodup_nil, id_eq, Bool.false_eq_true, nodup1, Wk_Γ, Wk_C, o_add, o_sub, o_eq, o_ne, o_lt, o_le, o_gt, o_ge, o_isN, o_isnN, o_lenL, o_lenT, o_atL, o_atT, o_sqL, o_sqT, o_tupL, o_listL, o_listT, o_int, o_eqT, o_neT, o_inT, o_ninT, o_sqTx, o_Tx0, l47, l48, g47, g48, h1, ed0, ed1, ed2, ty_tx, ss, lt, h2, h3, Bool.not_true]
theorem check_edit_run (l84 : W.lm 84 = [false, false]) (t : List Nat) (e : Ed) (g84 : W.Γ 84 [.v (Tx t), .v e.D] = .v (.bool true) []) : runFn fuel W f_check_edit [.v (Tx t), .v e.D] = .v .none [] := by
  unfold f_check_edit runFn
  simp only [RCa, optR, optV, optB, view, views, fin, lent, isO, setTg, setAll, setCA, kd, wipes, unwipe, frz, truth, isNone, callF, lend, slots, back, isLent, List.map_cons, List.map_nil, List.length_cons, List.length_nil, List.cons_append, List.nil_append, List.replicate, Nat.reduceAdd, Nat.reduceSub, List.getElem?_cons_zero, List.getElem?_cons_succ, List.set_cons_zero, List.set_cons_succ, List.getD_cons_zero, List.getD_cons_succ, if_true, if_false, reduceIte, Option.map_some, Option.map_none, List.filterMap_nil, List.filterMap_cons, List.nodup_nil, id_eq, Bool.false_eq_true, nodup1, Wk_Γ, Wk_C, o_add, o_sub, o_eq, o_ne, o_lt, o_le, o_gt, o_ge, o_isN, o_isnN, o_lenL, o_lenT, o_atL, o_atT, o_sqL, o_sqT, o_tupL, o_listL, o_listT, o_int, o_eqT, o_neT, o_inT, o_ninT, o_sqTx, o_Tx0, l84, g84, Bool.not_true]
theorem edited_run (t : List Nat) (ht : t.length ≤ 400000) (e : Ed) (hp : e.p.length ≤ 400000) (h : e.fit t.length) : runFn fuel W f_edited [.v (Tx t), .v e.D] = .v (Tx (e.on t)) [] := by
  unfold f_edited runFn Ed.D Ed.on
  unfold Ed.fit at h
  have s1 := sl_to (l := t) e.a (Nat.le_trans ht (by decide))
  have s2 := sl_from (l := t) (e.a + e.o) (Nat.le_trans ht (by decide))
  have c1 : binOp .Add (Tx (t.take e.a)) (Tx e.p) = some (.v (Tx (t.take e.a ++ e.p))) := o_cat (by rw [List.length_take]; omega)
  have c2 : binOp .Add (Tx (t.take e.a ++ e.p)) (Tx (t.drop (e.a + e.o))) = some (.v (Tx (t.take e.a ++ e.p ++ t.drop (e.a + e.o)))) := o_cat (by rw [List.length_append, List.length_take, List.length_drop]; omega)
  have ca : ((e.a : Int) + (e.o : Int)) = ((e.a + e.o : Nat) : Int) := by omega
  simp only [RCa, optR, optV, optB, view, views, fin, lent, isO, setTg, setAll, setCA, kd, wipes, unwipe, frz, truth, isNone, callF, lend, slots, back, isLent, List.map_cons, List.map_nil, List.length_cons, List.length_nil, List.cons_append, List.nil_append, List.replicate, Nat.reduceAdd, Nat.reduceSub, List.getElem?_cons_zero, List.getElem?_cons_succ, List.set_cons_zero, List.set_cons_succ, List.getD_cons_zero, List.getD_cons_succ, if_true, if_false, reduceIte, Option.map_some, Option.map_none, List.filterMap_nil, List.filterMap_cons, List.nodup_nil, id_eq, Bool.false_eq_true, nodup1, Wk_Γ, Wk_C, o_add, o_sub, o_eq, o_ne, o_lt, o_le, o_gt, o_ge, o_isN, o_isnN, o_lenL, o_lenT, o_atL, o_atT, o_sqL, o_sqT, o_tupL, o_listL, o_listT, o_int, o_eqT, o_neT, o_inT, o_ninT, o_sqTx, o_Tx0, ca, s1, s2, c1, c2]
theorem apply_edit_run (l85 : W.lm 85 = [false, false]) (l86 : W.lm 86 = [false, false]) (t : List Nat) (e : Ed) (g85 : W.Γ 85 [.v (Tx t), .v e.D] = .v .none []) (g86 : W.Γ 86 [.v (Tx t), .v e.D] = .v (Tx (e.on t)) []) :
    runFn fuel W f_apply_edit [.v (Tx t), .v e.D] = .v (Tx (e.on t)) [] := by
  unfold f_apply_edit runFn
  simp only [RCa, optR, optV, optB, view, views, fin, lent, isO, setTg, setAll, setCA, kd, wipes, unwipe, frz, truth, isNone, callF, lend, slots, back, isLent, List.map_cons, List.map_nil, List.length_cons, List.length_nil, List.cons_append, List.nil_append, List.replicate, Nat.reduceAdd, Nat.reduceSub, List.getElem?_cons_zero, List.getElem?_cons_succ, List.set_cons_zero, List.set_cons_succ, List.getD_cons_zero, List.getD_cons_succ, if_true, if_false, reduceIte, Option.map_some, Option.map_none, List.filterMap_nil, List.filterMap_cons, List.nodup_nil, id_eq, Bool.false_eq_true, nodup1, Wk_Γ, Wk_C, o_add, o_sub, o_eq, o_ne, o_lt, o_le, o_gt, o_ge, o_isN, o_isnN, o_lenL, o_lenT, o_atL, o_atT, o_sqL, o_sqT, o_tupL, o_listL, o_listT, o_int, o_eqT, o_neT, o_inT, o_ninT, o_sqTx, o_Tx0, l85, l86, g85, g86]
theorem is_ahead_run (e f : Ed) : runFn fuel W f_is_ahead [.v e.D, .v f.D] = .v (.bool (decide (e.a + e.o ≤ f.a))) [] := by
  unfold f_is_ahead runFn Ed.D
  have ca : decide ((e.a : Int) + (e.o : Int) ≤ (f.a : Int)) = decide (e.a + e.o ≤ f.a) := by
    by_cases h : e.a + e.o ≤ f.a
    · rw [decide_eq_true h, decide_eq_true (by omega)]
    · rw [decide_eq_false h, decide_eq_false (by omega)]
  simp only [RCa, optR, optV, optB, view, views, fin, lent, isO, setTg, setAll, setCA, kd, wipes, unwipe, frz, truth, isNone, callF, lend, slots, back, isLent, List.map_cons, List.map_nil, List.length_cons, List.length_nil, List.cons_append, List.nil_append, List.replicate, Nat.reduceAdd, Nat.reduceSub, List.getElem?_cons_zero, List.getElem?_cons_succ, List.set_cons_zero, List.set_cons_succ, List.getD_cons_zero, List.getD_cons_succ, if_true, if_false, reduceIte, Option.map_some, Option.map_none, List.filterMap_nil, List.filterMap_cons, List.nodup_nil, id_eq, Bool.false_eq_true, nodup1, Wk_Γ, Wk_C, o_add, o_sub, o_eq, o_ne, o_lt, o_le, o_gt, o_ge, o_isN, o_isnN, o_lenL, o_lenT, o_atL, o_atT, o_sqL, o_sqT, o_tupL, o_listL, o_listT, o_int, o_eqT, o_neT, o_inT, o_ninT, o_sqTx, o_Tx0, ed0, ed1, ca]
/-- as it is to be done behind the other one -/
def Ed.sh (e f : Ed) : Ed := ⟨e.a + f.p.length - f.o, e.o, e.p⟩
theorem shift_edit_run (l88 : W.lm 88 = [false, false]) (e f : Ed) (hp : f.p.length ≤ 1000000) (g1 : W.Γ 88 [.v e.D, .v f.D] = .v (.bool (decide (e.a + e.o ≤ f.a))) []) (g2 : W.Γ 88 [.v f.D, .v e.D] = .v (.bool (decide (f.a + f.o ≤ e.a))) []) (b : Bool) :
    runFn fuel W f_shift_edit [.v e.D, .v f.D, .v (.bool b)] = if e.a + e.o ≤ f.a then (if f.a + f.o ≤ e.a then (if b then .v e.D [] else .v (e.sh f).D []) else .v e.D []) else (if f.a + f.o ≤ e.a then .v (e.sh f).D [] else .exc ⟨6, []⟩ []) := by
  have lp := len_tx (l := f.p) (Nat.le_trans hp (by decide))
  have m0 : mkX 6 [] = some ⟨6, []⟩ := rfl
  have hfin : f.a + f.o ≤ e.a → (PyData.tuple [.int ((e.a : Int) + (f.p.length : Int) - (f.o : Int)), .int e.o, Tx e.p]) = (e.sh f).D := fun h => by
    unfold Ed.D Ed.sh
    have : ((e.a + f.p.length - f.o : Nat) : Int) = (e.a : Int) + (f.p.length : Int) - (f.o : Int) := by omega
    rw [this]
  unfold f_shift_edit runFn
  by_cases h1 : e.a + e.o ≤ f.a
  · by_cases h2 : f.a + f.o ≤ e.a
    · rw [if_pos h1, if_pos h2]
      rw [decide_eq_true h1] at g1
      rw [decide_eq_true h2] at g2
      cases b with
      | true => simp only [RCa, optR, optV, optB, view, views, fin, lent, isO, setTg, setAll, setCA, kd, wipes, unwipe, frz, truth, isNone, callF, lend, slots, back, isLent, List.map_cons, List.map_nil, List.length_cons, List.length_nil, List.cons_append, List.nil_append, List.replicate, Nat.reduceAdd, Nat.reduceSub, List.getElem?_cons_zero, List.getElem?_cons_succ, List.set_cons_zero, List.set_cons_succ, List.getD_cons_zero, List.getD_cons_succ, if_true, if_false, reduceIte, Option.map_some, Option.map_none, List.filterMap_nil, List.filterMap_cons, List.nodup_nil, id_eq, Bool.false_eq_true, nodup1, Wk_Γ, Wk_C, o_add, o_sub, o_eq, o_ne, o_lt, o_le, o_gt, o_ge, o_isN, o_isnN, o_lenL, o_lenT, o_atL, o_atT, o_sqL, o_sqT, o_tupL, o_listL, o_listT, o_int, o_eqT, o_neT, o_inT, o_ninT, o_sqTx, o_Tx0, l88, g1, g2, Bool.not_true]
      | false =>
        have := hfin h2
        rw [if_neg Bool.false_ne_true]
        rw [← this]
        unfold Ed.D at g1 g2 ⊢
        simp only [RCa, optR, optV, optB, view, views, fin, lent, isO, setTg, setAll, setCA, kd, wipes, unwipe, frz, truth, isNone, callF, lend, slots, back, isLent, List.map_cons, List.map_nil, List.length_cons, List.length_nil, List.cons_append, List.nil_append, List.replicate, Nat.reduceAdd, Nat.reduceSub, List.getElem?_cons_zero, List.getElem?_cons_succ, List.set_cons_zero, List.set_cons_succ, List.getD_cons_zero, List.getD_cons_succ, if_true, if_false, reduceIte, Option.map_some, Option.map_none, List.filterMap_nil, List.filterMap_cons, List.nodup_nil, id_eq, Bool.false_eq_true, nodup1, Wk_Γ, Wk_C, o_add, o_sub, o_eq, o_ne, o_lt, o_le, o_gt, o_ge, o_isN, o_isnN, o_lenL, o_lenT, o_atL, o_atT, o_sqL, o_sqT, o_tupL, o_listL, o_listT, o_int, o_eqT, o_neT, o_inT, o_ninT, o_sqTx, o_Tx0, l88, g1, g2, Bool.not_true, ed0, ed1, ed2, lp]
    · rw [if_pos h1, if_neg h2]
      rw [decide_eq_true h1] at g1
      rw [decide_eq_false h2] at g2
      simp only [RCa, optR, optV, optB, view, views, fin, lent, isO, setTg, setAll, setCA, kd, wipes, unwipe, frz, truth, isNone, callF, lend, slots, back, isLent, List.map_cons, List.map_nil, List.length_cons, List.length_nil, List.cons_append, List.nil_append, List.replicate, Nat.reduceAdd, Nat.reduceSub, List.getElem?_cons_zero, List.getElem?_cons_succ, List.set_cons_zero, List.set_cons_succ, List.getD_cons_zero, List.getD_cons_succ, if_true, if_false, reduceIte, Option.map_some, Option.map_none, List.filterMap_nil, List.filterMap_cons, List.nodup_nil, id_eq, Bool.false_eq_true, nodup1, Wk_Γ, Wk_C, o_add, o_sub, o_eq, o_ne, o_lt, o_le, o_gt, o_ge, o_isN, o_isnN, o_lenL, o_lenT, o_atL, o_atT, o_sqL, o_sqT, o_tupL, o_listL, o_listT, o_int, o_eqT, o_neT, o_inT, o_ninT, o_sqTx, o_Tx0, l88, g1, g2, Bool.not_true, Bool.not_false]
  · by_cases h2 : f.a + f.o ≤ e.a
    · rw [if_neg h1, if_pos h2]
      rw [decide_eq_false h1] at g1
      rw [decide_eq_true h2] at g2
      have := hfin h2
      rw [← this]
      unfold Ed.D at g1 g2 ⊢
      simp only [RCa, optR, optV, optB, view, views, fin, lent, isO, setTg, setAll, setCA, kd, wipes, unwipe, frz, truth, isNone, callF, lend, slots, back, isLent, List.map_cons, List.map_nil, List.length_cons, List.length_nil, List.cons_append, List.nil_append, List.replicate, Nat.reduceAdd, Nat.reduceSub, List.getElem?_cons_zero, List.getElem?_cons_succ, List.set_cons_zero, List.set_cons_succ, List.getD_cons_zero, List.getD_cons_succ, if_true, if_false, reduceIte, Option.map_some, Option.map_none, List.filterMap_nil, List.filterMap_cons, List.nodup_nil, id_eq, Bool.false_eq_true, nodup1, Wk_Γ, Wk_C, o_add, o_sub, o_eq, o_ne, o_lt, o_le, o_gt, o_ge, o_isN, o_isnN, o_lenL, o_lenT, o_atL, o_atT, o_sqL, o_sqT, o_tupL, o_listL, o_listT, o_int, o_eqT, o_neT, o_inT, o_ninT, o_sqTx, o_Tx0, l88, g1, g2, Bool.not_true, Bool.not_false, ed0, ed1, ed2, lp]
    · rw [if_neg h1, if_neg h2]
      rw [decide_eq_false h1] at g1
      rw [decide_eq_false h2] at g2
      simp only [RCa, optR, optV, optB, view, views, fin, lent, isO, setTg, setAll, setCA, kd, wipes, unwipe, frz, truth, isNone, callF, lend, slots, back, isLent, List.map_cons, List.map_nil, List.length_cons, List.length_nil, List.cons_append, List.nil_append, List.replicate, Nat.reduceAdd, Nat.reduceSub, List.getElem?_cons_zero, List.getElem?_cons_succ, List.set_cons_zero, List.set_cons_succ, List.getD_cons_zero, List.getD_cons_succ, if_true, if_false, reduceIte, Option.map_some, Option.map_none, List.filterMap_nil, List.filterMap_cons, List.nodup_nil, id_eq, Bool.false_eq_true, nodup1, Wk_Γ, Wk_C, o_add, o_sub, o_eq, o_ne, o_lt, o_le, o_gt, o_ge, o_isN, o_isnN, o_lenL, o_lenT, o_atL, o_atT, o_sqL, o_sqT, o_tupL, o_listL, o_listT, o_int, o_eqT, o_neT, o_inT, o_ninT, o_sqTx, o_Tx0, l88, g1, g2, Bool.not_true, Bool.not_false, m0]
theorem o_min2 (a b : Int) : biOp .min2 [.int a, .int b] = some (.v (.int (min a b))) := by
  show some (R.v (.int (if ltI b a then b else a))) = _
  rw [ltI_eq]
  congr 2
  by_cases h : b < a
  · rw [decide_eq_true h, if_pos rfl]
    congr 1
    omega
  · rw [decide_eq_false h, if_neg Bool.false_ne_true]
    congr 1
    omega
theorem o_max2 (a b : Int) : biOp .max2 [.int a, .int b] = some (.v (.int (max a b))) := by
  show some (R.v (.int (if ltI a b then b else a))) = _
  rw [ltI_eq]
  congr 2
  by_cases h : a < b
  · rw [decide_eq_true h, if_pos rfl]
    congr 1
    omega
  · rw [decide_eq_false h, if_neg Bool.false_ne_true]
    congr 1
    omega
theorem ed_of {x y : Int} {p q : List Int} {s : List Nat} {n : Nat} (hx : 0 ≤ x) (hy : 0 ≤ y) (h : x + y ≤ n) : ∃ (e : Ed) (p' : List Int), FO.v (.tuple [.int x, .int y, Tx s]) [.lst (iL q)] = .v e.D [.lst (iL p')] ∧ e.fit n ∧ e.p = s :=
  ⟨⟨x.toNat, y.toNat, s⟩, q, by unfold Ed.D; rw [Int.toNat_of_nonneg hx, Int.toNat_of_nonneg hy], by unfold Ed.fit; show x.toNat + y.toNat ≤ n; omega, rfl⟩
theorem edit_run (T : Tk W) (l26 : W.lm 26 = [true, false, false]) (t l : List Nat) (ht : t.length ≤ 400000) (most : Nat) (g26 : ∀ p, ∃ s p', W.Γ 26 [.o (.lst (iL p)), .v (Tx l), .v (.int most)] = .v (Tx s) [.lst (iL p')] ∧ s.length ≤ most ∧ ∀ c ∈ s, c ∈ l) (p : List Int) :
    ∃ (e : Ed) (p' : List Int), runFn fuel W f_law_edit [.o (.lst (iL p)), .v (Tx t), .v (Tx l), .v (.int most)] = .v e.D [.lst (iL p')] ∧ e.fit t.length ∧ e.p.length ≤ most ∧ ∀ c ∈ e.p, c ∈ l := by
  have lt := len_tx (l := t) (Nat.le_trans ht (by decide))
  have a1 := tk_lt p (m := (t.length : Int) + 1) (by omega)
  have a2 := tk_nn p ((t.length : Int) + 1)
  unfold f_law_edit runFn
  simp only [RCa, optR, optV, optB, view, views, fin, lent, isO, setTg, setAll, setCA, kd, wipes, unwipe, frz, truth, isNone, callF, lend, slots, back, isLent, List.map_cons, List.map_nil, List.length_cons, List.length_nil, List.cons_append, List.nil_append, List.replicate, Nat.reduceAdd, Nat.reduceSub, List.getElem?_cons_zero, List.getElem?_cons_succ, List.set_cons_zero, List.set_cons_succ, List.getD_cons_zero, List.getD_cons_succ, if_true, if_false, reduceIte, Option.map_some, Option.map_none, List.filterMap_nil, List.filterMap_cons, List.nodup_nil, id_eq, Bool.false_eq_true, nodup1, Wk_Γ, Wk_C, o_add, o_sub, o_eq, o_ne, o_lt, o_le, o_gt, o_ge, o_isN, o_isnN, o_lenL, o_lenT, o_atL, o_atT, o_sqL, o_sqT, o_tupL, o_listL, o_listT, o_int, o_eqT, o_neT, o_inT, o_ninT, o_sqTx, o_Tx0, T.l, T.g, lt, o_min2]
  generalize tkR p ((t.length : Int) + 1) = x at a1 a2 ⊢
  generalize tkP p ((t.length : Int) + 1) = p1
  have b1 := tk_lt p1 (m := min ((t.length : Int) - x) most + 1) (by omega)
  have b2 := tk_nn p1 (min ((t.length : Int) - x) most + 1)
  generalize tkR p1 (min ((t.length : Int) - x) most + 1) = y at b1 b2 ⊢
  generalize tkP p1 (min ((t.length : Int) - x) most + 1) = p2
  obtain ⟨s, p3, e1, e2, e3⟩ := g26 p2
  simp only [RCa, optR, optV, optB, view, views, fin, lent, isO, setTg, setAll, setCA, kd, wipes, unwipe, frz, truth, isNone, callF, lend, slots, back, isLent, List.map_cons, List.map_nil, List.length_cons, List.length_nil, List.cons_append, List.nil_append, List.replicate, Nat.reduceAdd, Nat.reduceSub, List.getElem?_cons_zero, List.getElem?_cons_succ, List.set_cons_zero, List.set_cons_succ, List.getD_cons_zero, List.getD_cons_succ, if_true, if_false, reduceIte, Option.map_some, Option.map_none, List.filterMap_nil, List.filterMap_cons, List.nodup_nil, id_eq, Bool.false_eq_true, nodup1, Wk_Γ, Wk_C, o_add, o_sub, o_eq, o_ne, o_lt, o_le, o_gt, o_ge, o_isN, o_isnN, o_lenL, o_lenT, o_atL, o_atT, o_sqL, o_sqT, o_tupL, o_listL, o_listT, o_int, o_eqT, o_neT, o_inT, o_ninT, o_sqTx, o_Tx0, l26, e1]
  obtain ⟨e, p', h1, h2, h3⟩ := ed_of (p := p) (q := p3) (s := s) (n := t.length) a2 b2 (by omega)
  exact ⟨e, p', h1, h2, by rw [h3]; exact e2, by rw [h3]; exact e3⟩
/-! ### the same -/
theorem same_int (i : Int) : runFn fuel W f_law_same [.v (.int i), .v (.int i)] = .v (.bool true) [] := by
  unfold f_law_same runFn
  simp only [RCa, optR, optV, optB, view, views, fin, lent, isO, setTg, setAll, setCA, kd, wipes, unwipe, frz, truth, isNone, callF, lend, slots, back, isLent, List.map_cons, List.map_nil, List.length_cons, List.length_nil, List.cons_append, List.nil_append, List.replicate, Nat.reduceAdd, Nat.reduceSub, List.getElem?_cons_zero, List.getElem?_cons_succ, List.set_cons_zero, List.set_cons_succ, List.getD_cons_zero, List.getD_cons_succ, if_true, if_false, reduceIte, Option.map_some, Option.map_none, List.filterMap_nil, List.filterMap_cons, List.nodup_nil, id_eq, Bool.false_eq_true, nodup1, Wk_Γ, Wk_C, o_add, o_sub, o_eq, o_ne, o_lt, o_le, o_gt, o_ge, o_isN, o_isnN, o_lenL, o_lenT, o_atL, o_atT, o_sqL, o_sqT, o_tupL, o_listL, o_listT, o_int, o_eqT, o_neT, o_inT, o_ninT, o_sqTx, o_Tx0, ty_int, it_, ib, ii, Bool.not_false, Bool.not_true, decide_true]
theorem same_tx (l : List Nat) : runFn fuel W f_law_same [.v (Tx l), .v (Tx l)] = .v (.bool true) [] := by
  unfold f_law_same runFn
  simp only [RCa, optR, optV, optB, view, views, fin, lent, isO, setTg, setAll, setCA, kd, wipes, unwipe, frz, truth, isNone, callF, lend, slots, back, isLent, List.map_cons, List.map_nil, List.length_cons, List.length_nil, List.cons_append, List.nil_append, List.replicate, Nat.reduceAdd, Nat.reduceSub, List.getElem?_cons_zero, List.getElem?_cons_succ, List.set_cons_zero, List.set_cons_succ, List.getD_cons_zero, List.getD_cons_succ, if_true, if_false, reduceIte, Option.map_some, Option.map_none, List.filterMap_nil, List.filterMap_cons, List.nodup_nil, id_eq, Bool.false_eq_true, nodup1, Wk_Γ, Wk_C, o_add, o_sub, o_eq, o_ne, o_lt, o_le, o_gt, o_ge, o_isN, o_isnN, o_lenL, o_lenT, o_atL, o_atT, o_sqL, o_sqT, o_tupL, o_listL, o_listT, o_int, o_eqT, o_neT, o_inT, o_ninT, o_sqTx, o_Tx0, ty_tx, st_, sb, si, ss, Bool.not_false, Bool.not_true, decide_true]
end
end Rc

set_option Elab.async false
set_option linter.all false
set_option maxRecDepth 100000
set_option maxHeartbeats 4000000
/-! K32a: two edits, plainly. -/
namespace W32
open PySem Rc
/-- both, x ahead of y -/
def D2 (t : List Nat) (x y : Ed) : List Nat := t.take x.a ++ x.p ++ (t.take y.a).drop (x.a + x.o) ++ y.p ++ t.drop (y.a + y.o)
theorem on_a {t : List Nat} {x y : Ed} (h : x.a + x.o ≤ y.a) (hy : y.a + y.o ≤ t.length) : x.on (y.on t) = D2 t x y := by
  unfold Ed.on D2
  have l1 : (t.take y.a).length = y.a := by rw [List.length_take]; omega
  have e1 : (t.take y.a ++ y.p ++ t.drop (y.a + y.o)).take x.a = t.take x.a := by
    rw [List.append_assoc, List.take_append_of_le_length (by omega), List.take_take, Nat.min_eq_left (by omega)]
  have e2 : (t.take y.a ++ y.p ++ t.drop (y.a + y.o)).drop (x.a + x.o) = (t.take y.a).drop (x.a + x.o) ++ y.p ++ t.drop (y.a + y.o) := by
    rw [List.append_assoc, List.drop_append_of_le_length (by omega), List.append_assoc]
  rw [e1, e2]
  simp only [List.append_assoc]
theorem on_b {t : List Nat} {x y : Ed} (h : x.a + x.o ≤ y.a) (hy : y.a + y.o ≤ t.length) : (y.sh x).on (x.on t) = D2 t x y := by
  unfold Ed.on D2 Ed.sh
  dsimp only
  have l1 : (t.take x.a).length = x.a := by rw [List.length_take]; omega
  have l2 : (t.take x.a ++ x.p).length = x.a + x.p.length := by rw [List.length_append, l1]
  have e1 : (t.take x.a ++ x.p ++ t.drop (x.a + x.o)).take (y.a + x.p.length - x.o) = t.take x.a ++ x.p ++ (t.take y.a).drop (x.a + x.o) := by
    rw [List.take_append, l2, List.take_of_length_le (by omega), List.drop_take]
    congr 2
    omega
  have e2 : (t.take x.a ++ x.p ++ t.drop (x.a + x.o)).drop (y.a + x.p.length - x.o + y.o) = t.drop (y.a + y.o) := by
    rw [List.drop_append, l2, List.drop_eq_nil_of_le (by omega), List.nil_append, List.drop_drop]
    congr 1
    omega
  rw [e1, e2]
/-- what is told ahead of place i -/
def Q (t : List Nat) (x y : Ed) (i : Nat) : List Nat := t.take (min i x.a) ++ (if x.a < i then x.p else []) ++ (t.take (min i y.a)).drop (x.a + x.o) ++ (if y.a < i then y.p else []) ++ (t.take i).drop (y.a + y.o)
def puts (x y : Ed) (i : Nat) : List Nat := (if x.a = i then x.p else []) ++ (if y.a = i then y.p else [])
def gone (e : Ed) (i : Nat) : Bool := decide (e.a ≤ i) && decide (i < e.a + e.o)
def chr (t : List Nat) (x y : Ed) (i : Nat) : List Nat := if gone x i || gone y i then [] else t[i]?.toList
theorem take_s (t : List Nat) (i : Nat) : t.take (i + 1) = t.take i ++ t[i]?.toList := List.take_succ
theorem drop_s (t : List Nat) (i k : Nat) (h : i ≤ t.length) : (t.take (i + 1)).drop k = (t.take i).drop k ++ if k ≤ i then t[i]?.toList else [] := by
  have l : (t.take i).length = i := by rw [List.length_take]; omega
  by_cases hk : k ≤ i
  · rw [if_pos hk, take_s, List.drop_append_of_le_length (by omega)]
  · rw [if_neg hk, List.drop_eq_nil_of_le (by rw [List.length_take]; omega), List.drop_eq_nil_of_le (by omega)]
    rfl
theorem Q_z {t : List Nat} {x y : Ed} : Q t x y 0 = [] := by
  unfold Q
  rw [if_neg (by omega), if_neg (by omega), Nat.zero_min, Nat.zero_min]
  simp
theorem Q_end {t : List Nat} {x y : Ed} (h : x.a + x.o ≤ y.a) (hy : y.a + y.o ≤ t.length) : Q t x y (t.length + 1) = D2 t x y := by
  unfold Q D2
  rw [if_pos (by omega), if_pos (by omega), Nat.min_eq_right (by omega), Nat.min_eq_right (by omega), List.take_of_length_le (i := t.length + 1) (by omega)]
theorem Q_s {t : List Nat} {x y : Ed} (h : x.a + x.o ≤ y.a) (hy : y.a + y.o ≤ t.length) {i : Nat} (hi : i ≤ t.length) : Q t x y (i + 1) = Q t x y i ++ puts x y i ++ chr t x y i := by
  unfold Q puts chr gone
  have dn : ∀ {k j : Nat}, j ≤ k → (t.take j).drop k = [] := fun {k j} hk => List.drop_eq_nil_of_le (by rw [List.length_take]; omega)
  rcases Nat.lt_or_ge i x.a with c1 | c1
  · -- ahead of both
    rw [Nat.min_eq_left (a := i + 1) (b := x.a) (by omega), Nat.min_eq_left (a := i) (b := x.a) (by omega), Nat.min_eq_left (a := i + 1) (b := y.a) (by omega), Nat.min_eq_left (a := i) (b := y.a) (by omega), if_neg (by omega), if_neg (by omega), if_neg (by omega), if_neg (by omega), if_neg (by omega), if_neg (by omega)]
    rw [dn (k := x.a + x.o) (j := i + 1) (by omega), dn (k := y.a + y.o) (j := i + 1) (by omega), dn (k := x.a + x.o) (j := i) (by omega), dn (k := y.a + y.o) (j := i) (by omega)]
    rw [decide_eq_false (show ¬ x.a ≤ i by omega), decide_eq_false (show ¬ y.a ≤ i by omega), take_s]
    simp
  rcases Nat.lt_or_ge i y.a with c2 | c2
  · rw [Nat.min_eq_right (a := i + 1) (b := x.a) (by omega), Nat.min_eq_right (a := i) (b := x.a) (by omega), Nat.min_eq_left (a := i + 1) (b := y.a) (by omega), Nat.min_eq_left (a := i) (b := y.a) (by omega), if_pos (show x.a < i + 1 by omega), if_neg (show ¬ y.a < i + 1 by omega), if_neg (show ¬ y.a < i by omega), if_neg (show ¬ y.a = i by omega)]
    rw [dn (k := y.a + y.o) (j := i + 1) (by omega), dn (k := y.a + y.o) (j := i) (by omega), drop_s t i _ hi, decide_eq_true c1, decide_eq_false (show ¬ y.a ≤ i by omega)]
    have g : (if (true && decide (i < x.a + x.o) || false && decide (i < y.a + y.o)) = true then [] else t[i]?.toList) = (if x.a + x.o ≤ i then t[i]?.toList else []) := by
      by_cases hc : i < x.a + x.o
      · rw [decide_eq_true hc, if_pos (by simp), if_neg (by omega)]
      · rw [decide_eq_false hc, if_neg (by simp), if_pos (by omega)]
    rw [g]
    rcases Nat.eq_or_lt_of_le c1 with c3 | c3
    · rw [if_neg (show ¬ x.a < i by omega), if_pos c3, dn (k := x.a + x.o) (j := i) (by omega)]
      simp
    · rw [if_pos c3, if_neg (show ¬ x.a = i by omega)]
      simp
  · rw [Nat.min_eq_right (a := i + 1) (b := x.a) (by omega), Nat.min_eq_right (a := i) (b := x.a) (by omega), Nat.min_eq_right (a := i + 1) (b := y.a) (by omega), Nat.min_eq_right (a := i) (b := y.a) (by omega), if_pos (show x.a < i + 1 by omega), if_pos (show y.a < i + 1 by omega)]
    rw [drop_s t i _ hi, decide_eq_true c1, decide_eq_true c2, decide_eq_false (show ¬ i < x.a + x.o by omega)]
    have g : (if (true && false || true && decide (i < y.a + y.o)) = true then [] else t[i]?.toList) = (if y.a + y.o ≤ i then t[i]?.toList else []) := by
      by_cases hc : i < y.a + y.o
      · rw [decide_eq_true hc, if_pos (by simp), if_neg (by omega)]
      · rw [decide_eq_false hc, if_neg (by simp), if_pos (by omega)]
    rw [g]
    rcases Nat.eq_or_lt_of_le c2 with c3 | c3
    · rw [if_neg (show ¬ y.a < i by omega), if_pos c3, dn (k := y.a + y.o) (j := i) (by omega)]
      rcases Nat.eq_or_lt_of_le c1 with c4 | c4
      · rw [if_neg (show ¬ x.a < i by omega), if_pos c4, dn (k := x.a + x.o) (j := y.a) (by omega)]
        simp
      · rw [if_pos c4, if_neg (show ¬ x.a = i by omega)]
        simp
    · rw [if_pos c3, if_neg (show ¬ y.a = i by omega), if_pos (show x.a < i by omega), if_neg (show ¬ x.a = i by omega)]
      simp
theorem Q_len {t : List Nat} {x y : Ed} (i : Nat) : (Q t x y i).length ≤ 3 * t.length + x.p.length + y.p.length := by
  unfold Q
  simp only [List.length_append, List.length_take, List.length_drop]
  have : (if x.a < i then x.p else []).length ≤ x.p.length := by split <;> simp
  have : (if y.a < i then y.p else []).length ≤ y.p.length := by split <;> simp
  omega
/-- what the two rows put in at place i: those that take nothing out lead -/
def zz (r : Ed) (i : Nat) : List Nat := if r.a = i ∧ r.o = 0 then r.p else []
def nn (r : Ed) (i : Nat) : List Nat := if r.a = i ∧ 0 < r.o then r.p else []
theorem zn1 {x y : Ed} (h : x.a + x.o ≤ y.a) (i : Nat) : zz x i ++ zz y i ++ (nn x i ++ nn y i) = puts x y i := by
  unfold zz nn puts
  by_cases a : x.a = i <;> by_cases b : y.a = i <;> by_cases c : x.o = 0 <;> by_cases d : y.o = 0 <;> simp [a, b, c, d] <;> omega
theorem zn2 {x y : Ed} (h : x.a + x.o ≤ y.a) (ht : ¬ (x.a = y.a ∧ x.o = 0 ∧ y.o = 0)) (i : Nat) : zz y i ++ zz x i ++ (nn y i ++ nn x i) = puts x y i := by
  unfold zz nn puts
  by_cases a : x.a = i <;> by_cases b : y.a = i <;> by_cases c : x.o = 0 <;> by_cases d : y.o = 0 <;> simp [a, b, c, d] <;> omega
end W32

set_option Elab.async false
set_option linter.all false
set_option maxRecDepth 100000
set_option maxHeartbeats 0
namespace Lw32
open PySem PySem.Spec PyProof.Rows L2 Rc
abbrev rw : PySem.W.OpenLaw := PySem.Challenge.rw_staleornot_k32_shifted_behind_each_other
def top (i : Nat) : Stmt := PySem.Challenge.pw_staleornot_k32_shifted_behind_each_other.main.body.getD i (.Pass ⟨0, 0, 0, 0⟩)
def f_law_both : Fn := ⟨[false, false], 9, (.cons (.asg (.nm 2) (.str ""))
    (.cons (.for_ (.nm 3) (.rng1 (.bin .Add (.bi .len (.cons (.var 0) .nil)) (.int 1))) (.cons (.for_ (.tp [5, 6, 7]) (.seq (.var 1)) (.cons (.ife (.and (.val (.cmp .Eq (.var 5) (.var 3))) (.val (.cmp .Eq (.var 6) (.int 0)))) (.cons (.asg (.nm 2) (.bin .Add (.var 2) (.var 7)))
                .nil) .nil)
            .nil))
        (.cons (.for_ (.tp [5, 6, 7]) (.seq (.var 1)) (.cons (.ife (.and (.val (.cmp .Eq (.var 5) (.var 3))) (.val (.cmp .Gt (.var 6) (.int 0)))) (.cons (.asg (.nm 2) (.bin .Add (.var 2) (.var 7)))
                .nil) .nil)
            .nil))
        (.cons (.asg (.nm 4) (.comp (.var 8) (.nm 8) (.seq (.var 1)) (.cons (.val (.cmp2 .LtE .Lt (.sub (.var 8) (.int 0)) (.var 3) (.bin .Add (.sub (.var 8) (.int 0)) (.sub (.var 8) (.int 1))))) .nil) [8]))
        (.cons (.ife (.and (.val (.cmp .Lt (.var 3) (.bi .len (.cons (.var 0) .nil)))) (.val (.cmp .Eq (.bi .len (.cons (.var 4) .nil)) (.int 0)))) (.cons (.asg (.nm 2) (.bin .Add (.var 2) (.sub (.var 0) (.var 3))))
            .nil) .nil)
        .nil)))))
    (.cons (.ret (.var 2))
    .nil)))⟩
theorem m_law_both : f_law_both.mask = [false, false] := Eq.trans rfl rfl
def f_law_beside : Fn := ⟨[true, false, false, false], 11, (.cons (.asg (.nm 4) (.call 2 (.cons (.var 0) (.cons (.int 10) .nil))))
    (.cons (.asg (.tp [8, 9, 10]) (.call 74 (.cons (.var 0) (.cons (.var 1) (.cons (.var 2) (.cons (.int 4) .nil))))))
    (.cons (.asg (.nm 5) (.bin .Add (.sub (.var 3) (.int 0)) (.sub (.var 3) (.int 1))))
    (.cons (.asg (.nm 6) (.bin .Sub (.bi .len (.cons (.var 1) .nil)) (.var 5)))
    (.cons (.asg (.nm 7) (.bi .min2 (.cons (.var 9) (.cons (.sub (.var 3) (.int 0)) .nil))))
    (.cons (.ife (.val (.cmp .Eq (.var 4) (.int 1))) (.cons (.ret (.tup (.cons (.var 5) (.cons (.bi .min2 (.cons (.var 9) (.cons (.var 6) .nil))) (.cons (.var 10) .nil)))))
        .nil) .nil)
    (.cons (.ife (.val (.cmp .Eq (.var 4) (.int 2))) (.cons (.ret (.tup (.cons (.bin .Sub (.sub (.var 3) (.int 0)) (.var 7)) (.cons (.var 7) (.cons (.var 10) .nil)))))
        .nil) .nil)
    (.cons (.ife (.or (.val (.cmp .Eq (.var 4) (.int 3))) (.val (.cmp .Eq (.var 4) (.int 4)))) (.cons (.ret (.tup (.cons (.sub (.var 3) (.int 0)) (.cons (.int 0) (.cons (.var 10) .nil)))))
        .nil) .nil)
    (.cons (.ife (.and (.val (.cmp .Eq (.var 4) (.int 5))) (.val (.cmp .Gt (.sub (.var 3) (.int 1)) (.int 1)))) (.cons (.ret (.tup (.cons (.bin .Add (.bin .Add (.sub (.var 3) (.int 0)) (.int 1)) (.call 2 (.cons (.var 0) (.cons (.bin .Sub (.sub (.var 3) (.int 1)) (.int 1)) .nil)))) (.cons (.int 0) (.cons (.var 10) .nil)))))
        .nil) .nil)
    (.cons (.ife (.and (.val (.cmp .Eq (.var 4) (.int 6))) (.val (.cmp .Gt (.sub (.var 3) (.int 1)) (.int 0)))) (.cons (.ret (.tup (.cons (.bin .Sub (.var 5) (.int 1)) (.cons (.bin .Add (.int 1) (.bi .min2 (.cons (.var 9) (.cons (.var 6) .nil)))) (.cons (.var 10) .nil)))))
        .nil) .nil)
    (.cons (.ife (.and (.val (.cmp .Eq (.var 4) (.int 7))) (.val (.cmp .Gt (.sub (.var 3) (.int 1)) (.int 0)))) (.cons (.ret (.tup (.cons (.bin .Sub (.sub (.var 3) (.int 0)) (.var 7)) (.cons (.bin .Add (.var 7) (.int 1)) (.cons (.var 10) .nil)))))
        .nil) .nil)
    (.cons (.ife (.val (.cmp .Eq (.var 4) (.int 8))) (.cons (.ret (.var 3))
        .nil) .nil)
    (.cons (.ret (.tup (.cons (.var 8) (.cons (.var 9) (.cons (.var 10) .nil)))))
    .nil)))))))))))))⟩
theorem m_law_beside : f_law_beside.mask = [true, false, false, false] := Eq.trans rfl rfl
def f_law_apart : Fn := ⟨[false, false], 4, (.cons (.asg (.nm 2) (.comp (.var 3) (.nm 3) (.rng2 (.sub (.var 0) (.int 0)) (.bin .Add (.sub (.var 0) (.int 0)) (.sub (.var 0) (.int 1)))) (.cons (.val (.cmp2 .LtE .Lt (.sub (.var 1) (.int 0)) (.var 3) (.bin .Add (.sub (.var 1) (.int 0)) (.sub (.var 1) (.int 1))))) .nil) [3]))
    (.cons (.ife (.val (.cmp .Gt (.bi .len (.cons (.var 2) .nil)) (.int 0))) (.cons (.ret (.bl false))
        .nil) .nil)
    (.cons (.ife (.and (.val (.cmp .Eq (.sub (.var 0) (.int 1)) (.int 0))) (.val (.cmp2 .Lt .Lt (.sub (.var 1) (.int 0)) (.sub (.var 0) (.int 0)) (.bin .Add (.sub (.var 1) (.int 0)) (.sub (.var 1) (.int 1)))))) (.cons (.ret (.bl false))
        .nil) .nil)
    (.cons (.ret (.nott (.and (.cmp .Eq (.sub (.var 1) (.int 1)) (.int 0)) (.cmp2 .Lt .Lt (.sub (.var 0) (.int 0)) (.sub (.var 1) (.int 0)) (.bin .Add (.sub (.var 0) (.int 0)) (.sub (.var 0) (.int 1)))))))
    .nil))))⟩
theorem m_law_apart : f_law_apart.mask = [false, false] := Eq.trans rfl rfl
def f_law_before : Fn := ⟨[false, false, false], 3, (.cons (.ife (.and (.val (.cmp .Eq (.sub (.var 0) (.int 0)) (.sub (.var 1) (.int 0)))) (.and (.val (.cmp .Eq (.sub (.var 0) (.int 1)) (.int 0))) (.val (.cmp .Eq (.sub (.var 1) (.int 1)) (.int 0))))) (.cons (.ret (.var 2))
        .nil) .nil)
    (.cons (.ret (.cmp .Lt (.tup (.cons (.sub (.var 0) (.int 0)) (.cons (.sub (.var 0) (.int 1)) .nil))) (.tup (.cons (.sub (.var 1) (.int 0)) (.cons (.sub (.var 1) (.int 1)) .nil)))))
    .nil))⟩
theorem m_law_before : f_law_before.mask = [false, false, false] := Eq.trans rfl rfl
def f_law_shifted : Fn := ⟨[false, false, false], 5, (.cons (.asg (.nm 3) (.comp (.var 4) (.nm 4) (.rng1 (.sub (.var 0) (.int 0))) (.cons (.or (.val (.cmp .Lt (.var 4) (.sub (.var 1) (.int 0)))) (.val (.cmp .GtE (.var 4) (.bin .Add (.sub (.var 1) (.int 0)) (.sub (.var 1) (.int 1)))))) .nil) [4]))
    (.cons (.ife (.val (.call 79 (.cons (.var 0) (.cons (.var 1) (.cons (.var 2) .nil))))) (.cons (.ret (.tup (.cons (.bi .len (.cons (.var 3) .nil)) (.cons (.sub (.var 0) (.int 1)) (.cons (.sub (.var 0) (.int 2)) .nil)))))
        .nil) .nil)
    (.cons (.ret (.tup (.cons (.bin .Add (.bi .len (.cons (.var 3) .nil)) (.bi .len (.cons (.sub (.var 1) (.int 2)) .nil))) (.cons (.sub (.var 0) (.int 1)) (.cons (.sub (.var 0) (.int 2)) .nil)))))
    .nil)))⟩
theorem m_law_shifted : f_law_shifted.mask = [false, false, false] := Eq.trans rfl rfl
def f_law_overlap : Fn := ⟨[false, false, false], 4, (.cons (.tryE (.cons (.exp (.call 89 (.cons (.var 0) (.cons (.var 1) (.cons (.var 2) .nil)))))
        .nil) 1 3 (.cons (.ret (.and (.xis 3 [6]) (.nott (.xis 3 [7, 4, 5]))))
        .nil))
    (.cons (.ret (.bl false))
    .nil))⟩
theorem m_law_overlap : f_law_overlap.mask = [false, false, false] := Eq.trans rfl rfl
def f_law_pair_holds : Fn := ⟨[false, false, false], 7, (.cons (.for_ (.nm 3) (.seq (.tup (.cons (.bl true) (.cons (.bl false) .nil)))) (.cons (.ife (.nott (.val (.call 78 (.cons (.var 1) (.cons (.var 2) .nil))))) (.cons (.ife (.or (.nott (.val (.call 81 (.cons (.var 1) (.cons (.var 2) (.cons (.var 3) .nil)))))) (.nott (.val (.call 81 (.cons (.var 2) (.cons (.var 1) (.cons (.var 3) .nil))))))) (.cons (.ret (.bl false))
                .nil) .nil)
            .nil) (.cons (.asg (.nm 4) (.call 76 (.cons (.var 0) (.cons (.ite (.val (.var 3)) (.lst (.cons (.var 1) (.cons (.var 2) .nil))) (.lst (.cons (.var 2) (.cons (.var 1) .nil)))) .nil))))
            (.cons (.asg (.nm 5) (.call 89 (.cons (.var 1) (.cons (.var 2) (.cons (.var 3) .nil)))))
            (.cons (.ife (.nott (.val (.call 75 (.cons (.var 5) (.cons (.call 80 (.cons (.var 1) (.cons (.var 2) (.cons (.var 3) .nil)))) .nil))))) (.cons (.ret (.bl false))
                .nil) .nil)
            (.cons (.asg (.nm 6) (.call 89 (.cons (.var 2) (.cons (.var 1) (.cons (.nott (.var 3)) .nil)))))
            (.cons (.ife (.nott (.val (.call 75 (.cons (.var 6) (.cons (.call 80 (.cons (.var 2) (.cons (.var 1) (.cons (.nott (.var 3)) .nil)))) .nil))))) (.cons (.ret (.bl false))
                .nil) .nil)
            (.cons (.ife (.nott (.val (.call 75 (.cons (.call 87 (.cons (.call 87 (.cons (.var 0) (.cons (.var 2) .nil))) (.cons (.var 5) .nil))) (.cons (.var 4) .nil))))) (.cons (.ret (.bl false))
                .nil) .nil)
            (.cons (.ife (.nott (.val (.call 75 (.cons (.call 87 (.cons (.call 87 (.cons (.var 0) (.cons (.var 1) .nil))) (.cons (.var 6) .nil))) (.cons (.var 4) .nil))))) (.cons (.ret (.bl false))
                .nil) .nil)
            .nil))))))))
        .nil))
    (.cons (.ret (.bl true))
    .nil))⟩
theorem m_law_pair_holds : f_law_pair_holds.mask = [false, false, false] := Eq.trans rfl rfl
def f_law : Fn := ⟨[false], 8, (.cons (.asg (.nm 1) (.call 1 (.cons (.var 0) (.cons (.int 0) (.cons (.int 1300) .nil)))))
    (.cons (.asg (.nm 2) (.call 3 (.cons (.var 1) (.cons (.bin .Add (.int 1) (.call 2 (.cons (.var 1) (.cons (.int 8) .nil)))) .nil))))
    (.cons (.asg (.nm 3) (.call 26 (.cons (.var 1) (.cons (.var 2) (.cons (.ite (.val (.cmp .Eq (.call 2 (.cons (.var 1) (.cons (.int 4) .nil))) (.int 1))) (.int 400) (.int 12)) .nil)))))
    (.cons (.asg (.nm 4) (.lst .nil))
    (.cons (.for_ (.nm 5) (.rng1 (.int 8)) (.cons (.asg (.nm 6) (.call 74 (.cons (.var 1) (.cons (.var 3) (.cons (.var 2) (.cons (.sub (.lst (.cons (.int 2) (.cons (.int 4) (.cons (.int 4) (.cons (.int 60) .nil))))) (.call 2 (.cons (.var 1) (.cons (.int 4) .nil)))) .nil))))))
        (.cons (.ife (.val (.cmp .Eq (.call 2 (.cons (.var 1) (.cons (.int 3) .nil))) (.int 0))) (.cons (.asg (.nm 6) (.tup (.cons (.sub (.var 6) (.int 0)) (.cons (.int 0) (.cons (.sub (.var 6) (.int 2)) .nil)))))
            .nil) .nil)
        (.cons (.asg (.nm 7) (.call 77 (.cons (.var 1) (.cons (.var 3) (.cons (.var 2) (.cons (.var 6) .nil))))))
        (.cons (.exp (.mu .append 4 (.cons (.ite (.val (.cmp .Eq (.call 2 (.cons (.var 1) (.cons (.int 2) .nil))) (.int 0))) (.tup (.cons (.var 6) (.cons (.var 7) .nil))) (.tup (.cons (.var 7) (.cons (.var 6) .nil)))) .nil)))
        .nil)))))
    (.cons (.for_ (.tp [6, 7]) (.seq (.bin .Add (.var 4) (.slcH (.var 4) (.int 1)))) (.cons (.ife (.nott (.val (.call 82 (.cons (.var 3) (.cons (.var 6) (.cons (.var 7) .nil)))))) (.cons (.ret (.bl false))
            .nil) .nil)
        .nil))
    (.cons (.ret (.bl true))
    .nil)))))))⟩
theorem m_law : f_law.mask = [false] := Eq.trans rfl rfl
abbrev d_is_int : DefI := ⟨46, "is_int", top 7, ["thing"], Rc.f_is_int⟩
abbrev d_is_from : DefI := ⟨47, "is_from", top 8, ["thing", "least", "most"], Rc.f_is_from⟩
abbrev d_is_row : DefI := ⟨48, "is_row", top 9, ["thing", "many"], Rc.f_is_row⟩
abbrev d_is_edit : DefI := ⟨84, "is_edit", top 11, ["text", "thing"], Rc.f_is_edit⟩
abbrev d_check_edit : DefI := ⟨85, "check_edit", top 12, ["text", "edit"], Rc.f_check_edit⟩
abbrev d_edited : DefI := ⟨86, "edited", top 13, ["text", "edit", "at", "out", "put"], Rc.f_edited⟩
abbrev d_apply_edit : DefI := ⟨87, "apply_edit", top 14, ["text", "edit"], Rc.f_apply_edit⟩
abbrev d_is_ahead : DefI := ⟨88, "is_ahead", top 15, ["edit", "other"], Rc.f_is_ahead⟩
abbrev d_shift_edit : DefI := ⟨89, "shift_edit", top 16, ["edit", "other", "first", "ahead", "behind"], Rc.f_shift_edit⟩
abbrev d_law_cell : DefI := ⟨0, "_law_cell", top 18, ["script", "k"], Rc.f_law_cell⟩
abbrev d_law_pool : DefI := ⟨1, "_law_pool", top 19, ["script", "k", "many", "number", "row", "state", "lap"], Rc.f_law_pool⟩
abbrev d_law_take : DefI := ⟨2, "_law_take", top 20, ["pool", "many"], Rc.f_law_take⟩
abbrev d_law_signs : DefI := ⟨3, "_law_signs", top 21, ["pool", "many", "left", "signs", "lap"], Rc.f_law_signs⟩
abbrev d_law_text : DefI := ⟨26, "_law_text", top 22, ["pool", "signs", "most", "lap"], Rc.f_law_text⟩
abbrev d_law_edit : DefI := ⟨74, "_law_edit", top 23, ["pool", "text", "signs", "most", "at", "out"], Rc.f_law_edit⟩
abbrev d_law_same : DefI := ⟨75, "_law_same", top 24, ["told", "due", "k"], Rc.f_law_same⟩
abbrev d_law_both : DefI := ⟨76, "_law_both", top 25, ["text", "rows", "told", "place", "gone", "at", "out", "put", "row"], f_law_both⟩
abbrev d_law_beside : DefI := ⟨77, "_law_beside", top 26, ["pool", "text", "signs", "one", "way", "end", "rest", "many", "at", "out", "put"], f_law_beside⟩
abbrev d_law_apart : DefI := ⟨78, "_law_apart", top 27, ["one", "other", "common", "k"], f_law_apart⟩
abbrev d_law_before : DefI := ⟨79, "_law_before", top 28, ["edit", "other", "first"], f_law_before⟩
abbrev d_law_shifted : DefI := ⟨80, "_law_shifted", top 29, ["edit", "other", "first", "left", "k"], f_law_shifted⟩
abbrev d_law_overlap : DefI := ⟨81, "_law_overlap", top 30, ["edit", "other", "first", "error"], f_law_overlap⟩
abbrev d_law_pair_holds : DefI := ⟨82, "_law_pair_holds", top 31, ["text", "edit", "other", "first", "goal", "behind", "across"], f_law_pair_holds⟩
abbrev d_law : DefI := ⟨83, "law", top 32, ["script", "pool", "signs", "text", "pairs", "lap", "edit", "other"], f_law⟩
abbrev ds : List DefI := [d_is_int, d_is_from, d_is_row, d_is_edit, d_check_edit, d_edited, d_apply_edit, d_is_ahead, d_shift_edit, d_law_cell, d_law_pool, d_law_take, d_law_signs, d_law_text, d_law_edit, d_law_same, d_law_both, d_law_beside, d_law_apart, d_law_before, d_law_shifted, d_law_overlap, d_law_pair_holds, d_law]
abbrev cs : List (Str × PyData) := []
abbrev cons : List (Nat × (Str × PyData)) := [].zip cs
def C : Nat → PyData := conF cons
abbrev x_TooLong : XDf := ⟨4, "TooLong.__init__", clsDef (top 2) 0, ["self", "limit", "__class__"], (.app (.lit "more signs than ") 1)⟩
abbrev x_Unfit : XDf := ⟨5, "Unfit.__init__", clsDef (top 3) 0, ["self", "part", "__class__"], (.app (.lit "does not fit: ") 1)⟩
abbrev x_Overlap : XDf := ⟨6, "Overlap.__init__", clsDef (top 4) 0, ["self", "__class__"], (.lit "the edits are not apart")⟩
abbrev x_NoDeed : XDf := ⟨7, "NoDeed.__init__", clsDef (top 5) 0, ["self", "__class__"], (.lit "there is no such deed")⟩
abbrev xd : List XDf := [x_TooLong, x_Unfit, x_Overlap, x_NoDeed]
abbrev xs : List Nat := [0, 1, 4, 5, 6, 7]
abbrev xr : List Nat := [4, 5, 6, 7]
abbrev T : Tab := tabOf ds cons xs xr
theorem xok : ∀ x ∈ xd, XDOk x := by
  intro x hx
  simp only [xd, List.mem_cons, List.not_mem_nil, or_false] at hx
  rcases hx with rfl | rfl | rfl | rfl
  · exact ⟨by decide +kernel, fun _ _ _ _ _ us hl => match us, hl with | [_, _], _ => rfl⟩
  · exact ⟨by decide +kernel, fun _ _ _ _ _ us hl => match us, hl with | [_, _], _ => rfl⟩
  · exact ⟨by decide +kernel, fun _ _ _ _ _ us hl => match us, hl with | [_], _ => rfl⟩
  · exact ⟨by decide +kernel, fun _ _ _ _ _ us hl => match us, hl with | [_], _ => rfl⟩
theorem ok : ∀ d ∈ ds, DOk T d := by
  intro d hd
  simp only [ds, List.mem_cons, List.not_mem_nil, or_false] at hd
  rcases hd with rfl | rfl | rfl | rfl | rfl | rfl | rfl | rfl | rfl | rfl | rfl | rfl | rfl | rfl | rfl | rfl | rfl | rfl | rfl | rfl | rfl | rfl | rfl | rfl
  · exact ⟨by decide +kernel, fun _ _ _ _ _ _ us hl => match us, hl with | [_], _ => rfl⟩
  · exact ⟨by decide +kernel, fun _ _ _ _ _ _ us hl => match us, hl with | [_, _, _], _ => rfl⟩
  · exact ⟨by decide +kernel, fun _ _ _ _ _ _ us hl => match us, hl with | [_, _], _ => rfl⟩
  · exact ⟨by decide +kernel, fun _ _ _ _ _ _ us hl => match us, hl with | [_, _], _ => rfl⟩
  · exact ⟨by decide +kernel, fun _ _ _ _ _ _ us hl => match us, hl with | [_, _], _ => rfl⟩
  · exact ⟨by decide +kernel, fun _ _ _ _ _ _ us hl => match us, hl with | [_, _], _ => rfl⟩
  · exact ⟨by decide +kernel, fun _ _ _ _ _ _ us hl => match us, hl with | [_, _], _ => rfl⟩
  · exact ⟨by decide +kernel, fun _ _ _ _ _ _ us hl => match us, hl with | [_, _], _ => rfl⟩
  · exact ⟨by decide +kernel, fun _ _ _ _ _ _ us hl => match us, hl with | [_, _, _], _ => rfl⟩
  · exact ⟨by decide +kernel, fun _ _ _ _ _ _ us hl => match us, hl with | [_, _], _ => rfl⟩
  · exact ⟨by decide +kernel, fun _ _ _ _ _ _ us hl => match us, hl with | [_, _, _], _ => rfl⟩
  · exact ⟨by decide +kernel, fun _ _ _ _ _ _ us hl => match us, hl with | [_, _], _ => rfl⟩
  · exact ⟨by decide +kernel, fun _ _ _ _ _ _ us hl => match us, hl with | [_, _], _ => rfl⟩
  · exact ⟨by decide +kernel, fun _ _ _ _ _ _ us hl => match us, hl with | [_, _, _], _ => rfl⟩
  · exact ⟨by decide +kernel, fun _ _ _ _ _ _ us hl => match us, hl with | [_, _, _, _], _ => rfl⟩
  · exact ⟨by decide +kernel, fun _ _ _ _ _ _ us hl => match us, hl with | [_, _], _ => rfl⟩
  · exact ⟨by decide +kernel, fun _ _ _ _ _ _ us hl => match us, hl with | [_, _], _ => rfl⟩
  · exact ⟨by decide +kernel, fun _ _ _ _ _ _ us hl => match us, hl with | [_, _, _, _], _ => rfl⟩
  · exact ⟨by decide +kernel, fun _ _ _ _ _ _ us hl => match us, hl with | [_, _], _ => rfl⟩
  · exact ⟨by decide +kernel, fun _ _ _ _ _ _ us hl => match us, hl with | [_, _, _], _ => rfl⟩
  · exact ⟨by decide +kernel, fun _ _ _ _ _ _ us hl => match us, hl with | [_, _, _], _ => rfl⟩
  · exact ⟨by decide +kernel, fun _ _ _ _ _ _ us hl => match us, hl with | [_, _, _], _ => rfl⟩
  · exact ⟨by decide +kernel, fun _ _ _ _ _ _ us hl => match us, hl with | [_, _, _], _ => rfl⟩
  · exact ⟨by decide +kernel, fun _ _ _ _ _ _ us hl => match us, hl with | [_], _ => rfl⟩
abbrev dD (d : DefI) : He.DefD := ⟨(d.name, none), d.name, d.name, defArgs d.st, defBody d.st, defScope d.st, [], []⟩
abbrev fn : List He.DefD := ds.map dD
abbrev fa : List He.Fa := ds.map (fun d => .glo d.name) ++ biNames.map (fun x => .free x)
abbrev R : PySem.W.OpenRow := PySem.W.OpenLaw.row rw
abbrev hk : PySem.W.Hook := hookX R.prog 4 fa fn cs xs xd
def ob (s : PySem.W.SharedT) : AlX := obsXG R.prog 4 fa fn cs xs xd (HandSHeadRun.getT s)
theorem ob_eq (s : PySem.W.SharedT) : ob s = hk.obs s.abs := obsXG_eq (HandSHeadRun.getT_eq s)
abbrev loose : List Str := ["StaleError", "TooLong", "Unfit", "Overlap", "NoDeed", "is_int", "is_from", "is_row", "is_edit", "check_edit", "edited", "apply_edit", "is_ahead", "shift_edit", "_law_cell", "_law_pool", "_law_take", "_law_signs", "_law_text", "_law_edit", "_law_same", "_law_both", "_law_beside", "_law_apart", "_law_before", "_law_shifted", "_law_overlap", "_law_pair_holds"]
theorem run (w : World) : HandSHeadRun.RunEq R (PySem.W.view R.prog [32]) hk ob 4000 loose w := by
  intro os
  kernel_rfl
theorem hd {K : PySem.W.Frag} {h : Heap} {mg : Str → Option Value} (X : K.In h) (G : h.Ns mainGlobals mg) (c : SaysX R.prog fa fn cs xs xd K) : Hd R.prog ds cons xs xr C K mg := by
  have bl : ∀ x ∈ biNames, mg x = none := fun x hx => He.free_ok X G (c.d.facts (f := .free x) (List.mem_append_right _ (List.mem_map.mpr ⟨x, hx, rfl⟩)))
  refine ⟨fun d hd => ?_, bl, fun g x e => ?_, xk_ok X G c.k, fun z hz => ?_, fun z hz => xr_ok X G c xok (bl _ (by decide +kernel)) (bl _ (by decide +kernel)) z hz⟩
  · obtain ⟨fd, F⟩ := c.d.defs (d := dD d) (List.mem_map.mpr ⟨d, hd, rfl⟩)
    exact ⟨_, fd, F, He.glo_ok X G (c.d.facts (f := .glo d.name) (List.mem_append_left _ (List.mem_map.mpr ⟨d, hd, rfl⟩)))⟩
  · obtain ⟨c0, h1, h2, h3⟩ := conT_at e
    subst h2
    obtain ⟨v, u, k1, k2, k3⟩ := conOk_ok X G (List.all_eq_true.mp c.c c0 (List.of_mem_zip h1).2)
    exact ⟨v, u, k1, k2, fun G => by rw [show C g = c0.2 from h3]; exact k3 G⟩
  · obtain ⟨y, hy, e⟩ := List.any_eq_true.mp hz
    cases Nat.eq_of_beq_eq_true e
    exact cu_ok X G c.k (List.all_eq_true.mp c.s z hy)
theorem P46 : fnsOf ds 46 = some Rc.f_is_int := Eq.trans rfl rfl
theorem P47 : fnsOf ds 47 = some Rc.f_is_from := Eq.trans rfl rfl
theorem P48 : fnsOf ds 48 = some Rc.f_is_row := Eq.trans rfl rfl
theorem P84 : fnsOf ds 84 = some Rc.f_is_edit := Eq.trans rfl rfl
theorem P85 : fnsOf ds 85 = some Rc.f_check_edit := Eq.trans rfl rfl
theorem P86 : fnsOf ds 86 = some Rc.f_edited := Eq.trans rfl rfl
theorem P87 : fnsOf ds 87 = some Rc.f_apply_edit := Eq.trans rfl rfl
theorem P88 : fnsOf ds 88 = some Rc.f_is_ahead := Eq.trans rfl rfl
theorem P89 : fnsOf ds 89 = some Rc.f_shift_edit := Eq.trans rfl rfl
theorem P0 : fnsOf ds 0 = some Rc.f_law_cell := Eq.trans rfl rfl
theorem P1 : fnsOf ds 1 = some Rc.f_law_pool := Eq.trans rfl rfl
theorem P2 : fnsOf ds 2 = some Rc.f_law_take := Eq.trans rfl rfl
theorem P3 : fnsOf ds 3 = some Rc.f_law_signs := Eq.trans rfl rfl
theorem P26 : fnsOf ds 26 = some Rc.f_law_text := Eq.trans rfl rfl
theorem P74 : fnsOf ds 74 = some Rc.f_law_edit := Eq.trans rfl rfl
theorem P75 : fnsOf ds 75 = some Rc.f_law_same := Eq.trans rfl rfl
theorem P76 : fnsOf ds 76 = some f_law_both := Eq.trans rfl rfl
theorem P77 : fnsOf ds 77 = some f_law_beside := Eq.trans rfl rfl
theorem P78 : fnsOf ds 78 = some f_law_apart := Eq.trans rfl rfl
theorem P79 : fnsOf ds 79 = some f_law_before := Eq.trans rfl rfl
theorem P80 : fnsOf ds 80 = some f_law_shifted := Eq.trans rfl rfl
theorem P81 : fnsOf ds 81 = some f_law_overlap := Eq.trans rfl rfl
theorem P82 : fnsOf ds 82 = some f_law_pair_holds := Eq.trans rfl rfl
theorem P83 : fnsOf ds 83 = some f_law := Eq.trans rfl rfl
end Lw32

set_option Elab.async false
set_option linter.all false
set_option maxRecDepth 100000
set_option maxHeartbeats 4000000
/-! K32b: apart, before, shifted, overlap. -/
namespace W32
open PySem Rc Lw32
theorem fm {c : Nat → Bool} {f : Nat → PyData} {g : PyData → Option PyData} (h : ∀ k, g (f k) = if c k then some (f k) else none) : ∀ l : List Nat, (l.map f).filterMap g = (l.filter c).map f
  | [] => rfl
  | k :: l => by
    rw [List.map_cons, List.filterMap_cons, h, fm h l, List.filter_cons]
    cases c k <;> rfl
def iN (k : Nat) : PyData := .int (k : Int)
theorem iN_eq (k : Nat) : (.int ((k : Nat) : Int) : PyData) = iN k := Eq.trans rfl rfl
theorem rng_iN (m n : Nat) : rng (m : Int) n 1 = ((List.range n).map (m + ·)).map iN := by
  unfold rng
  rw [List.map_map]
  refine List.map_congr_left fun k _ => ?_
  show PyData.int ((m : Int) + (k : Int) * 1) = .int ((m + k : Nat) : Int)
  rw [Int.mul_one, Int.natCast_add]
theorem rng1_iN (n : Nat) : rng1L (n : Int) = (List.range n).map iN := by
  unfold rng1L
  rw [Int.toNat_natCast]
  rfl
theorem dn_le (a b : Nat) : decide ((a : Int) ≤ (b : Int)) = decide (a ≤ b) := by
  by_cases h : a ≤ b
  · rw [decide_eq_true h, decide_eq_true (by omega)]
  · rw [decide_eq_false h, decide_eq_false (by omega)]
theorem dn_lt (a b : Nat) : decide ((a : Int) < (b : Int)) = decide (a < b) := by
  by_cases h : a < b
  · rw [decide_eq_true h, decide_eq_true (by omega)]
  · rw [decide_eq_false h, decide_eq_false (by omega)]
theorem dn_eq (a b : Nat) : decide ((a : Int) = (b : Int)) = decide (a = b) := by
  by_cases h : a = b
  · rw [decide_eq_true h, decide_eq_true (by omega)]
  · rw [decide_eq_false h, decide_eq_false (by omega)]
theorem dn_z (a : Nat) : decide ((a : Int) = 0) = decide (a = 0) := dn_eq a 0
theorem dn_p (a : Nat) : decide ((0 : Int) < (a : Int)) = decide (0 < a) := dn_lt 0 a
theorem dn_ad (a b : Nat) : (a : Int) + (b : Int) = ((a + b : Nat) : Int) := (Int.natCast_add a b).symm
theorem c2 (a b c : Int) (o1 o2 : Option Bool) : True := trivial
/-- apart -/
def apB (x y : Ed) : Bool := decide (x.a + x.o ≤ y.a) || decide (y.a + y.o ≤ x.a)
section
variable (fuel : Nat) (W : Wd)
theorem apart_run (x y : Ed) (hx : x.a + x.o ≤ 900000) (hy : y.a + y.o ≤ 900000) : runFn fuel W f_law_apart [.v x.D, .v y.D] = .v (.bool (apB x y)) [] := by
  unfold f_law_apart runFn Ed.D
  have s1 : small62 (x.a : Int) = true := small_nat (by omega)
  have s2 : small62 ((x.a + x.o : Nat) : Int) = true := small_nat (by omega)
  have sz : (((x.a + x.o : Nat) : Int) - (x.a : Int)).toNat = x.o := by omega
  simp only [RCa, optR, optV, optB, view, views, fin, lent, isO, setTg, setAll, setCA, kd, wipes, unwipe, frz, truth, isNone, callF, lend, slots, back, isLent, List.map_cons, List.map_nil, List.length_cons, List.length_nil, List.cons_append, List.nil_append, List.replicate, Nat.reduceAdd, Nat.reduceSub, List.getElem?_cons_zero, List.getElem?_cons_succ, List.set_cons_zero, List.set_cons_succ, List.getD_cons_zero, List.getD_cons_succ, if_true, if_false, reduceIte, Option.map_some, Option.map_none, List.filterMap_nil, List.filterMap_cons, List.nodup_nil, id_eq, Bool.false_eq_true, nodup1, Wk_Γ, Wk_C, o_add, o_sub, o_eq, o_ne, o_lt, o_le, o_gt, o_ge, o_isN, o_isnN, o_lenL, o_lenT, o_atL, o_atT, o_sqL, o_sqT, o_tupL, o_listL, o_listT, o_int, o_eqT, o_neT, o_inT, o_ninT, o_sqTx, o_Tx0, ed0, ed1, ed2, dn_ad, s1, s2, Bool.and_true, sz, rng_iN]
  generalize hq : compL _ _ _ _ = o
  rw [compL_eq (g := fun d => match d with
    | .int k => if decide ((y.a : Int) ≤ k) && decide (k < ((y.a + y.o : Nat) : Int)) then some (PyData.int k) else none
    | _ => none) _ _ (fun d hd => by
      obtain ⟨k, hk, rfl⟩ := List.mem_map.mp hd
      simp only [iN, turnC_ap, RCa, optR, optV, optB, view, views, fin, lent, isO, setTg, setAll, setCA, kd, wipes, unwipe, frz, truth, isNone, callF, lend, slots, back, isLent, List.map_cons, List.map_nil, List.length_cons, List.length_nil, List.cons_append, List.nil_append, List.replicate, Nat.reduceAdd, Nat.reduceSub, List.getElem?_cons_zero, List.getElem?_cons_succ, List.set_cons_zero, List.set_cons_succ, List.getD_cons_zero, List.getD_cons_succ, if_true, if_false, reduceIte, Option.map_some, Option.map_none, List.filterMap_nil, List.filterMap_cons, List.nodup_nil, id_eq, Bool.false_eq_true, nodup1, Wk_Γ, Wk_C, o_add, o_sub, o_eq, o_ne, o_lt, o_le, o_gt, o_ge, o_isN, o_isnN, o_lenL, o_lenT, o_atL, o_atT, o_sqL, o_sqT, o_tupL, o_listL, o_listT, o_int, o_eqT, o_neT, o_inT, o_ninT, o_sqTx, o_Tx0, ed0, ed1, ed2, dn_ad]
      cases h1 : decide ((y.a : Int) ≤ (k : Int)) with
      | false => simp only [RCa, optR, optV, optB, view, views, fin, lent, isO, setTg, setAll, setCA, kd, wipes, unwipe, frz, truth, isNone, callF, lend, slots, back, isLent, List.map_cons, List.map_nil, List.length_cons, List.length_nil, List.cons_append, List.nil_append, List.replicate, Nat.reduceAdd, Nat.reduceSub, List.getElem?_cons_zero, List.getElem?_cons_succ, List.set_cons_zero, List.set_cons_succ, List.getD_cons_zero, List.getD_cons_succ, if_true, if_false, reduceIte, Option.map_some, Option.map_none, List.filterMap_nil, List.filterMap_cons, List.nodup_nil, id_eq, Bool.false_eq_true, nodup1, Wk_Γ, Wk_C, o_add, o_sub, o_eq, o_ne, o_lt, o_le, o_gt, o_ge, o_isN, o_isnN, o_lenL, o_lenT, o_atL, o_atT, o_sqL, o_sqT, o_tupL, o_listL, o_listT, o_int, o_eqT, o_neT, o_inT, o_ninT, o_sqTx, o_Tx0, Bool.false_and]
      | true =>
        cases h2 : decide ((k : Int) < ((y.a + y.o : Nat) : Int)) with
        | false => simp only [RCa, optR, optV, optB, view, views, fin, lent, isO, setTg, setAll, setCA, kd, wipes, unwipe, frz, truth, isNone, callF, lend, slots, back, isLent, List.map_cons, List.map_nil, List.length_cons, List.length_nil, List.cons_append, List.nil_append, List.replicate, Nat.reduceAdd, Nat.reduceSub, List.getElem?_cons_zero, List.getElem?_cons_succ, List.set_cons_zero, List.set_cons_succ, List.getD_cons_zero, List.getD_cons_succ, if_true, if_false, reduceIte, Option.map_some, Option.map_none, List.filterMap_nil, List.filterMap_cons, List.nodup_nil, id_eq, Bool.false_eq_true, nodup1, Wk_Γ, Wk_C, o_add, o_sub, o_eq, o_ne, o_lt, o_le, o_gt, o_ge, o_isN, o_isnN, o_lenL, o_lenT, o_atL, o_atT, o_sqL, o_sqT, o_tupL, o_listL, o_listT, o_int, o_eqT, o_neT, o_inT, o_ninT, o_sqTx, o_Tx0, ed0, ed1, dn_ad, h2, Bool.and_false]
        | true => simp only [RCa, optR, optV, optB, view, views, fin, lent, isO, setTg, setAll, setCA, kd, wipes, unwipe, frz, truth, isNone, callF, lend, slots, back, isLent, List.map_cons, List.map_nil, List.length_cons, List.length_nil, List.cons_append, List.nil_append, List.replicate, Nat.reduceAdd, Nat.reduceSub, List.getElem?_cons_zero, List.getElem?_cons_succ, List.set_cons_zero, List.set_cons_succ, List.getD_cons_zero, List.getD_cons_succ, if_true, if_false, reduceIte, Option.map_some, Option.map_none, List.filterMap_nil, List.filterMap_cons, List.nodup_nil, id_eq, Bool.false_eq_true, nodup1, Wk_Γ, Wk_C, o_add, o_sub, o_eq, o_ne, o_lt, o_le, o_gt, o_ge, o_isN, o_isnN, o_lenL, o_lenT, o_atL, o_atT, o_sqL, o_sqT, o_tupL, o_listL, o_listT, o_int, o_eqT, o_neT, o_inT, o_ninT, o_sqTx, o_Tx0, ed0, ed1, dn_ad, h2, Bool.and_true]) (by rw [List.length_nil, List.length_map, List.length_map, List.length_range]; exact Nat.le_trans (show 0 + x.o ≤ 1000000 by omega) (by decide))] at hq
  rw [fm (c := fun k => decide (y.a ≤ k) && decide (k < y.a + y.o)) (fun k => by show (if decide ((y.a : Int) ≤ (k : Int)) && decide ((k : Int) < ((y.a + y.o : Nat) : Int)) then some (PyData.int (k : Int)) else none) = _; rw [dn_le, dn_lt]; rfl)] at hq
  subst hq
  simp only [RCa, optR, optV, optB, view, views, fin, lent, isO, setTg, setAll, setCA, kd, wipes, unwipe, frz, truth, isNone, callF, lend, slots, back, isLent, List.map_cons, List.map_nil, List.length_cons, List.length_nil, List.cons_append, List.nil_append, List.replicate, Nat.reduceAdd, Nat.reduceSub, List.getElem?_cons_zero, List.getElem?_cons_succ, List.set_cons_zero, List.set_cons_succ, List.getD_cons_zero, List.getD_cons_succ, if_true, if_false, reduceIte, Option.map_some, Option.map_none, List.filterMap_nil, List.filterMap_cons, List.nodup_nil, id_eq, Bool.false_eq_true, nodup1, Wk_Γ, Wk_C, o_add, o_sub, o_eq, o_ne, o_lt, o_le, o_gt, o_ge, o_isN, o_isnN, o_lenL, o_lenT, o_atL, o_atT, o_sqL, o_sqT, o_tupL, o_listL, o_listT, o_int, o_eqT, o_neT, o_inT, o_ninT, o_sqTx, o_Tx0, List.nil_append]
  by_cases hc : ∃ k, x.a ≤ k ∧ k < x.a + x.o ∧ y.a ≤ k ∧ k < y.a + y.o
  · obtain ⟨k, k1, k2, k3, k4⟩ := hc
    have hm : k ∈ ((List.range x.o).map (x.a + ·)).filter (fun k => decide (y.a ≤ k) && decide (k < y.a + y.o)) := by
      rw [List.mem_filter]
      refine ⟨List.mem_map.mpr ⟨k - x.a, List.mem_range.mpr (by omega), by omega⟩, ?_⟩
      rw [decide_eq_true k3, decide_eq_true k4]
      rfl
    have hl : decide ((0 : Int) < (((((List.range x.o).map (x.a + ·)).filter (fun k => decide (y.a ≤ k) && decide (k < y.a + y.o))).map iN).length : Nat)) = true := by
      rw [dn_p, List.length_map]
      exact decide_eq_true (List.length_pos_of_mem hm)
    have ap : apB x y = false := by
      unfold apB
      rw [decide_eq_false (by omega), decide_eq_false (by omega)]
      rfl
    simp only [RCa, optR, optV, optB, view, views, fin, lent, isO, setTg, setAll, setCA, kd, wipes, unwipe, frz, truth, isNone, callF, lend, slots, back, isLent, List.map_cons, List.map_nil, List.length_cons, List.length_nil, List.cons_append, List.nil_append, List.replicate, Nat.reduceAdd, Nat.reduceSub, List.getElem?_cons_zero, List.getElem?_cons_succ, List.set_cons_zero, List.set_cons_succ, List.getD_cons_zero, List.getD_cons_succ, if_true, if_false, reduceIte, Option.map_some, Option.map_none, List.filterMap_nil, List.filterMap_cons, List.nodup_nil, id_eq, Bool.false_eq_true, nodup1, Wk_Γ, Wk_C, o_add, o_sub, o_eq, o_ne, o_lt, o_le, o_gt, o_ge, o_isN, o_isnN, o_lenL, o_lenT, o_atL, o_atT, o_sqL, o_sqT, o_tupL, o_listL, o_listT, o_int, o_eqT, o_neT, o_inT, o_ninT, o_sqTx, o_Tx0, hl, ap]
  · have hn : ((List.range x.o).map (x.a + ·)).filter (fun k => decide (y.a ≤ k) && decide (k < y.a + y.o)) = [] := by
      rw [List.filter_eq_nil_iff]
      intro k hk
      obtain ⟨j, hj, rfl⟩ := List.mem_map.mp hk
      have hj := List.mem_range.mp hj
      intro h
      rw [Bool.and_eq_true, decide_eq_true_iff, decide_eq_true_iff] at h
      exact hc ⟨x.a + j, by omega, by omega, h.1, h.2⟩
    have h1 : ¬ (x.a < x.a + x.o ∧ y.a ≤ x.a ∧ x.a < y.a + y.o) := fun h => hc ⟨x.a, by omega, h.1, h.2.1, h.2.2⟩
    have h2 : ¬ (x.a ≤ y.a ∧ y.a < x.a + x.o ∧ y.a < y.a + y.o) := fun h => hc ⟨y.a, h.1, h.2.1, by omega, h.2.2⟩
    have z0 : decide ((0 : Int) < ((0 : Nat) : Int)) = false := rfl
    rw [hn]
    unfold apB
    have key : ∀ b1 b2 b3 b4 b5 b6 : Bool, decide (x.o = 0) = b1 → decide (y.a < x.a) = b2 → decide (x.a < y.a + y.o) = b3 → decide (y.o = 0) = b4 → decide (x.a < y.a) = b5 → decide (y.a < x.a + x.o) = b6 →
        (decide (x.a + x.o ≤ y.a) || decide (y.a + y.o ≤ x.a)) = (!(b1 && (b2 && b3)) && !(b4 && (b5 && b6))) := by
      intro b1 b2 b3 b4 b5 b6 e1 e2 e3 e4 e5 e6
      subst e1 e2 e3 e4 e5 e6
      rw [Bool.eq_iff_iff]
      simp only [Bool.or_eq_true, Bool.and_eq_true, Bool.not_eq_true', Bool.and_eq_false_iff, decide_eq_true_eq, decide_eq_false_iff_not]
      omega
    have key := key _ _ _ _ _ _ rfl rfl rfl rfl rfl rfl
    rw [key]
    clear key h1 h2 hn hc
    cases e1 : decide (x.o = 0) <;> cases e2 : decide (y.a < x.a) <;> cases e3 : decide (x.a < y.a + y.o) <;> cases e4 : decide (y.o = 0) <;> cases e5 : decide (x.a < y.a) <;> cases e6 : decide (y.a < x.a + x.o) <;>
      simp only [RCa, optR, optV, optB, view, views, fin, lent, isO, setTg, setAll, setCA, kd, wipes, unwipe, frz, truth, isNone, callF, lend, slots, back, isLent, List.map_cons, List.map_nil, List.length_cons, List.length_nil, List.cons_append, List.nil_append, List.replicate, Nat.reduceAdd, Nat.reduceSub, List.getElem?_cons_zero, List.getElem?_cons_succ, List.set_cons_zero, List.set_cons_succ, List.getD_cons_zero, List.getD_cons_succ, if_true, if_false, reduceIte, Option.map_some, Option.map_none, List.filterMap_nil, List.filterMap_cons, List.nodup_nil, id_eq, Bool.false_eq_true, nodup1, Wk_Γ, Wk_C, o_add, o_sub, o_eq, o_ne, o_lt, o_le, o_gt, o_ge, o_isN, o_isnN, o_lenL, o_lenT, o_atL, o_atT, o_sqL, o_sqT, o_tupL, o_listL, o_listT, o_int, o_eqT, o_neT, o_inT, o_ninT, o_sqTx, o_Tx0, ed0, ed1, dn_ad, dn_lt, dn_z, dn_p, z0, e1, e2, e3, e4, e5, e6, Bool.not_true, Bool.not_false, Bool.and_true, Bool.and_false, Bool.true_and, Bool.false_and]
/-- is done first -/
def bfB (x y : Ed) (b : Bool) : Bool := if x.a = y.a ∧ x.o = 0 ∧ y.o = 0 then b else decide (x.a < y.a ∨ x.a = y.a ∧ x.o < y.o)
theorem before_run (x y : Ed) (b : Bool) : runFn fuel W f_law_before [.v x.D, .v y.D, .v (.bool b)] = .v (.bool (bfB x y b)) [] := by
  unfold f_law_before runFn Ed.D bfB
  have lx : cmpOp .Lt (.tuple [.int x.a, .int x.o]) (.tuple [.int y.a, .int y.o]) = some (decide (x.a < y.a ∨ x.a = y.a ∧ x.o < y.o)) := by
    show some (lexI [(x.a : Int), x.o] [(y.a : Int), y.o]) = _
    rw [lexI_eq, HT.lexLt_cons, HT.lexLt_cons, HT.lexLt_nil_nil]
    by_cases h : (x.a : Int) = (y.a : Int)
    · rw [if_pos h]
      by_cases h' : (x.o : Int) = (y.o : Int)
      · rw [if_pos h', decide_eq_false (by omega)]
      · rw [if_neg h', dn_lt]
        congr 1
        by_cases g : x.o < y.o
        · rw [decide_eq_true g, decide_eq_true (by omega)]
        · rw [decide_eq_false g, decide_eq_false (by omega)]
    · rw [if_neg h, dn_lt]
      congr 1
      by_cases g : x.a < y.a
      · rw [decide_eq_true g, decide_eq_true (.inl g)]
      · rw [decide_eq_false g, decide_eq_false (by omega)]
  have key : ∀ b1 b2 b3 : Bool, decide (x.a = y.a) = b1 → decide (x.o = 0) = b2 → decide (y.o = 0) = b3 → (if x.a = y.a ∧ x.o = 0 ∧ y.o = 0 then b else decide (x.a < y.a ∨ x.a = y.a ∧ x.o < y.o)) = if (b1 && (b2 && b3)) = true then b else decide (x.a < y.a ∨ x.a = y.a ∧ x.o < y.o) := by
    intro b1 b2 b3 e1 e2 e3
    subst e1 e2 e3
    simp only [Bool.and_eq_true, decide_eq_true_eq]
  rw [key _ _ _ rfl rfl rfl]
  clear key
  cases e1 : decide (x.a = y.a) <;> cases e2 : decide (x.o = 0) <;> cases e3 : decide (y.o = 0) <;>
    simp only [RCa, optR, optV, optB, view, views, fin, lent, isO, setTg, setAll, setCA, kd, wipes, unwipe, frz, truth, isNone, callF, lend, slots, back, isLent, List.map_cons, List.map_nil, List.length_cons, List.length_nil, List.cons_append, List.nil_append, List.replicate, Nat.reduceAdd, Nat.reduceSub, List.getElem?_cons_zero, List.getElem?_cons_succ, List.set_cons_zero, List.set_cons_succ, List.getD_cons_zero, List.getD_cons_succ, if_true, if_false, reduceIte, Option.map_some, Option.map_none, List.filterMap_nil, List.filterMap_cons, List.nodup_nil, id_eq, Bool.false_eq_true, nodup1, Wk_Γ, Wk_C, o_add, o_sub, o_eq, o_ne, o_lt, o_le, o_gt, o_ge, o_isN, o_isnN, o_lenL, o_lenT, o_atL, o_atT, o_sqL, o_sqT, o_tupL, o_listL, o_listT, o_int, o_eqT, o_neT, o_inT, o_ninT, o_sqTx, o_Tx0, ed0, ed1, dn_eq, dn_z, e1, e2, e3, lx, Bool.and_true, Bool.and_false, Bool.true_and, Bool.false_and, Bool.false_eq_true]
theorem cnt_ok (a o : Nat) : ∀ n : Nat, ((List.range n).filter fun k => decide (k < a) || decide (a + o ≤ k)).length = if n ≤ a then n else if n ≤ a + o then a else n - o
  | 0 => by rw [if_pos (by omega)]; rfl
  | n + 1 => by
    rw [List.range_succ, List.filter_append, List.length_append, cnt_ok a o n]
    by_cases h1 : n < a
    · rw [if_pos (by omega), if_pos (by omega), List.filter_cons, decide_eq_true h1]
      rfl
    · by_cases h2 : a + o ≤ n
      · rw [List.filter_cons, decide_eq_true h2, Bool.or_true, if_neg (show ¬ n + 1 ≤ a by omega), if_neg (show ¬ n + 1 ≤ a + o by omega)]
        show _ + 1 = _
        by_cases h3 : n ≤ a
        · rw [if_pos h3]; omega
        · rw [if_neg h3]
          by_cases h4 : n ≤ a + o
          · rw [if_pos h4]; omega
          · rw [if_neg h4]; omega
      · rw [List.filter_cons, decide_eq_false h1, decide_eq_false h2, if_neg (show ¬ n + 1 ≤ a by omega), if_pos (show n + 1 ≤ a + o by omega)]
        show _ + 0 = _
        by_cases h3 : n ≤ a
        · rw [if_pos h3]; omega
        · rw [if_neg h3, if_pos (by omega)]; omega
theorem shifted_run (l79 : W.lm 79 = [false, false, false]) (x y : Ed) (b : Bool) (g79 : W.Γ 79 [.v x.D, .v y.D, .v (.bool b)] = .v (.bool (bfB x y b)) []) (hx : x.a ≤ 900000) (hp : y.p.length ≤ 1000000) (ha : apB x y = true) :
    runFn fuel W f_law_shifted [.v x.D, .v y.D, .v (.bool b)] = .v (if bfB x y b then x else x.sh y).D [] := by
  have lp := len_tx (l := y.p) (Nat.le_trans hp (by decide))
  have s1 : small62 (x.a : Int) = true := small_nat (by omega)
  unfold Ed.D at g79
  unfold f_law_shifted runFn Ed.D
  simp only [RCa, optR, optV, optB, view, views, fin, lent, isO, setTg, setAll, setCA, kd, wipes, unwipe, frz, truth, isNone, callF, lend, slots, back, isLent, List.map_cons, List.map_nil, List.length_cons, List.length_nil, List.cons_append, List.nil_append, List.replicate, Nat.reduceAdd, Nat.reduceSub, List.getElem?_cons_zero, List.getElem?_cons_succ, List.set_cons_zero, List.set_cons_succ, List.getD_cons_zero, List.getD_cons_succ, if_true, if_false, reduceIte, Option.map_some, Option.map_none, List.filterMap_nil, List.filterMap_cons, List.nodup_nil, id_eq, Bool.false_eq_true, nodup1, Wk_Γ, Wk_C, o_add, o_sub, o_eq, o_ne, o_lt, o_le, o_gt, o_ge, o_isN, o_isnN, o_lenL, o_lenT, o_atL, o_atT, o_sqL, o_sqT, o_tupL, o_listL, o_listT, o_int, o_eqT, o_neT, o_inT, o_ninT, o_sqTx, o_Tx0, ed0, ed1, ed2, s1, rng1_iN]
  generalize hq : compL _ _ _ _ = o
  rw [compL_eq (g := fun d => match d with
    | .int k => if decide (k < (y.a : Int)) || decide (((y.a + y.o : Nat) : Int) ≤ k) then some (PyData.int k) else none
    | _ => none) _ _ (fun d hd => by
      obtain ⟨k, hk, rfl⟩ := List.mem_map.mp hd
      simp only [iN, turnC_ap, RCa, optR, optV, optB, view, views, fin, lent, isO, setTg, setAll, setCA, kd, wipes, unwipe, frz, truth, isNone, callF, lend, slots, back, isLent, List.map_cons, List.map_nil, List.length_cons, List.length_nil, List.cons_append, List.nil_append, List.replicate, Nat.reduceAdd, Nat.reduceSub, List.getElem?_cons_zero, List.getElem?_cons_succ, List.set_cons_zero, List.set_cons_succ, List.getD_cons_zero, List.getD_cons_succ, if_true, if_false, reduceIte, Option.map_some, Option.map_none, List.filterMap_nil, List.filterMap_cons, List.nodup_nil, id_eq, Bool.false_eq_true, nodup1, Wk_Γ, Wk_C, o_add, o_sub, o_eq, o_ne, o_lt, o_le, o_gt, o_ge, o_isN, o_isnN, o_lenL, o_lenT, o_atL, o_atT, o_sqL, o_sqT, o_tupL, o_listL, o_listT, o_int, o_eqT, o_neT, o_inT, o_ninT, o_sqTx, o_Tx0, ed0, ed1, ed2, dn_ad]
      cases h1 : decide ((k : Int) < (y.a : Int)) with
      | true => simp only [RCa, optR, optV, optB, view, views, fin, lent, isO, setTg, setAll, setCA, kd, wipes, unwipe, frz, truth, isNone, callF, lend, slots, back, isLent, List.map_cons, List.map_nil, List.length_cons, List.length_nil, List.cons_append, List.nil_append, List.replicate, Nat.reduceAdd, Nat.reduceSub, List.getElem?_cons_zero, List.getElem?_cons_succ, List.set_cons_zero, List.set_cons_succ, List.getD_cons_zero, List.getD_cons_succ, if_true, if_false, reduceIte, Option.map_some, Option.map_none, List.filterMap_nil, List.filterMap_cons, List.nodup_nil, id_eq, Bool.false_eq_true, nodup1, Wk_Γ, Wk_C, o_add, o_sub, o_eq, o_ne, o_lt, o_le, o_gt, o_ge, o_isN, o_isnN, o_lenL, o_lenT, o_atL, o_atT, o_sqL, o_sqT, o_tupL, o_listL, o_listT, o_int, o_eqT, o_neT, o_inT, o_ninT, o_sqTx, o_Tx0, Bool.true_or]
      | false =>
        cases h2 : decide (((y.a + y.o : Nat) : Int) ≤ (k : Int)) with
        | false => simp only [RCa, optR, optV, optB, view, views, fin, lent, isO, setTg, setAll, setCA, kd, wipes, unwipe, frz, truth, isNone, callF, lend, slots, back, isLent, List.map_cons, List.map_nil, List.length_cons, List.length_nil, List.cons_append, List.nil_append, List.replicate, Nat.reduceAdd, Nat.reduceSub, List.getElem?_cons_zero, List.getElem?_cons_succ, List.set_cons_zero, List.set_cons_succ, List.getD_cons_zero, List.getD_cons_succ, if_true, if_false, reduceIte, Option.map_some, Option.map_none, List.filterMap_nil, List.filterMap_cons, List.nodup_nil, id_eq, Bool.false_eq_true, nodup1, Wk_Γ, Wk_C, o_add, o_sub, o_eq, o_ne, o_lt, o_le, o_gt, o_ge, o_isN, o_isnN, o_lenL, o_lenT, o_atL, o_atT, o_sqL, o_sqT, o_tupL, o_listL, o_listT, o_int, o_eqT, o_neT, o_inT, o_ninT, o_sqTx, o_Tx0, ed0, ed1, dn_ad, h2, Bool.or_false]
        | true => simp only [RCa, optR, optV, optB, view, views, fin, lent, isO, setTg, setAll, setCA, kd, wipes, unwipe, frz, truth, isNone, callF, lend, slots, back, isLent, List.map_cons, List.map_nil, List.length_cons, List.length_nil, List.cons_append, List.nil_append, List.replicate, Nat.reduceAdd, Nat.reduceSub, List.getElem?_cons_zero, List.getElem?_cons_succ, List.set_cons_zero, List.set_cons_succ, List.getD_cons_zero, List.getD_cons_succ, if_true, if_false, reduceIte, Option.map_some, Option.map_none, List.filterMap_nil, List.filterMap_cons, List.nodup_nil, id_eq, Bool.false_eq_true, nodup1, Wk_Γ, Wk_C, o_add, o_sub, o_eq, o_ne, o_lt, o_le, o_gt, o_ge, o_isN, o_isnN, o_lenL, o_lenT, o_atL, o_atT, o_sqL, o_sqT, o_tupL, o_listL, o_listT, o_int, o_eqT, o_neT, o_inT, o_ninT, o_sqTx, o_Tx0, ed0, ed1, dn_ad, h2, Bool.or_true]) (by rw [List.length_nil, List.length_map, List.length_range]; exact Nat.le_trans (show 0 + x.a ≤ 1000000 by omega) (by decide))] at hq
  rw [fm (c := fun k => decide (k < y.a) || decide (y.a + y.o ≤ k)) (fun k => by show (if decide ((k : Int) < (y.a : Int)) || decide (((y.a + y.o : Nat) : Int) ≤ (k : Int)) then some (PyData.int (k : Int)) else none) = _; rw [dn_le, dn_lt]; rfl)] at hq
  subst hq
  have hl : ((((List.range x.a).filter (fun k => decide (k < y.a) || decide (y.a + y.o ≤ k))).map iN).length) = if x.a ≤ y.a then x.a else if x.a ≤ y.a + y.o then y.a else x.a - y.o := by
    rw [List.length_map, cnt_ok]
  unfold apB at ha
  rw [Bool.or_eq_true, decide_eq_true_iff, decide_eq_true_iff] at ha
  cases hb : bfB x y b with
  | true =>
    rw [hb] at g79
    have e : (if x.a ≤ y.a then x.a else if x.a ≤ y.a + y.o then y.a else x.a - y.o) = x.a := by
      unfold bfB at hb
      split at hb
      · rw [if_pos (by omega)]
      · rw [decide_eq_true_iff] at hb
        rw [if_pos (by omega)]
    simp only [RCa, optR, optV, optB, view, views, fin, lent, isO, setTg, setAll, setCA, kd, wipes, unwipe, frz, truth, isNone, callF, lend, slots, back, isLent, List.map_cons, List.map_nil, List.length_cons, List.length_nil, List.cons_append, List.nil_append, List.replicate, Nat.reduceAdd, Nat.reduceSub, List.getElem?_cons_zero, List.getElem?_cons_succ, List.set_cons_zero, List.set_cons_succ, List.getD_cons_zero, List.getD_cons_succ, if_true, if_false, reduceIte, Option.map_some, Option.map_none, List.filterMap_nil, List.filterMap_cons, List.nodup_nil, id_eq, Bool.false_eq_true, nodup1, Wk_Γ, Wk_C, o_add, o_sub, o_eq, o_ne, o_lt, o_le, o_gt, o_ge, o_isN, o_isnN, o_lenL, o_lenT, o_atL, o_atT, o_sqL, o_sqT, o_tupL, o_listL, o_listT, o_int, o_eqT, o_neT, o_inT, o_ninT, o_sqTx, o_Tx0, List.nil_append, l79, g79, ed0, ed1, ed2, hl, e, if_true]
  | false =>
    rw [hb] at g79
    have e : ((if x.a ≤ y.a then x.a else if x.a ≤ y.a + y.o then y.a else x.a - y.o : Nat) : Int) + (y.p.length : Int) = ((x.a + y.p.length - y.o : Nat) : Int) := by
      unfold bfB at hb
      split at hb
      · rw [if_pos (by omega)]; omega
      · rw [decide_eq_false_iff_not] at hb
        by_cases h3 : x.a ≤ y.a
        · rw [if_pos h3]; omega
        · rw [if_neg h3]
          by_cases h4 : x.a ≤ y.a + y.o
          · rw [if_pos h4]; omega
          · rw [if_neg h4]; omega
    simp only [RCa, optR, optV, optB, view, views, fin, lent, isO, setTg, setAll, setCA, kd, wipes, unwipe, frz, truth, isNone, callF, lend, slots, back, isLent, List.map_cons, List.map_nil, List.length_cons, List.length_nil, List.cons_append, List.nil_append, List.replicate, Nat.reduceAdd, Nat.reduceSub, List.getElem?_cons_zero, List.getElem?_cons_succ, List.set_cons_zero, List.set_cons_succ, List.getD_cons_zero, List.getD_cons_succ, if_true, if_false, reduceIte, Option.map_some, Option.map_none, List.filterMap_nil, List.filterMap_cons, List.nodup_nil, id_eq, Bool.false_eq_true, nodup1, Wk_Γ, Wk_C, o_add, o_sub, o_eq, o_ne, o_lt, o_le, o_gt, o_ge, o_isN, o_isnN, o_lenL, o_lenT, o_atL, o_atT, o_sqL, o_sqT, o_tupL, o_listL, o_listT, o_int, o_eqT, o_neT, o_inT, o_ninT, o_sqTx, o_Tx0, List.nil_append, l79, g79, ed0, ed1, ed2, hl, lp, e, if_false, Bool.false_eq_true, Ed.sh]
theorem overlap_run (l89 : W.lm 89 = [false, false, false]) (x y : Ed) (b : Bool) (g : W.Γ 89 [.v x.D, .v y.D, .v (.bool b)] = .exc ⟨6, []⟩ []) : runFn fuel W f_law_overlap [.v x.D, .v y.D, .v (.bool b)] = .v (.bool true) [] := by
  have i1 : inh 6 1 = true := rfl
  have i2 : [6].any (inh 6) = true := rfl
  have i3 : [7, 4, 5].any (inh 6) = false := rfl
  unfold f_law_overlap runFn
  simp only [RCa, optR, optV, optB, view, views, fin, lent, isO, setTg, setAll, setCA, kd, wipes, unwipe, frz, truth, isNone, callF, lend, slots, back, isLent, List.map_cons, List.map_nil, List.length_cons, List.length_nil, List.cons_append, List.nil_append, List.replicate, Nat.reduceAdd, Nat.reduceSub, List.getElem?_cons_zero, List.getElem?_cons_succ, List.set_cons_zero, List.set_cons_succ, List.getD_cons_zero, List.getD_cons_succ, if_true, if_false, reduceIte, Option.map_some, Option.map_none, List.filterMap_nil, List.filterMap_cons, List.nodup_nil, id_eq, Bool.false_eq_true, nodup1, Wk_Γ, Wk_C, o_add, o_sub, o_eq, o_ne, o_lt, o_le, o_gt, o_ge, o_isN, o_isnN, o_lenL, o_lenT, o_atL, o_atT, o_sqL, o_sqT, o_tupL, o_listL, o_listT, o_int, o_eqT, o_neT, o_inT, o_ninT, o_sqTx, o_Tx0, l89, g, i1, i2, i3, Bool.not_false]
end
end W32

set_option Elab.async false
set_option linter.all false
set_option maxRecDepth 100000
set_option maxHeartbeats 4000000
/-! K32c: both edits at once. -/
namespace W32
open PySem Rc Lw32
theorem forL_n {b : PyData → Rc.Env → SO} {ρ : Rc.Env} : forL b [] ρ = .nx ρ := Eq.trans rfl rfl
theorem forL_c {b : PyData → Rc.Env → SO} {x : PyData} {xs : List PyData} {ρ ρ' : Rc.Env} (h : b x ρ = .nx ρ') : forL b (x :: xs) ρ = forL b xs ρ' := by
  show (b x ρ).turn (fun ρ' => forL b xs ρ') = _
  rw [h]
  rfl
def bZ : Sts := .cons (.ife (.and (.val (.cmp .Eq (.var 5) (.var 3))) (.val (.cmp .Eq (.var 6) (.int 0)))) (.cons (.asg (.nm 2) (.bin .Add (.var 2) (.var 7))) .nil) .nil) .nil
def bN : Sts := .cons (.ife (.and (.val (.cmp .Eq (.var 5) (.var 3))) (.val (.cmp .Gt (.var 6) (.int 0)))) (.cons (.asg (.nm 2) (.bin .Add (.var 2) (.var 7))) .nil) .nil) .nil
section
variable (fuel : Nat) (W : Wd)
theorem oneZ (r : Ed) (t s : List Nat) (i : Nat) (rows b4 b5 b6 b7 : Sl) (hs : s.length + r.p.length ≤ 900000) :
    turnF fuel W (.tp [5, 6, 7]) bZ r.D [.v (Tx t), rows, .v (Tx s), .v (.int i), b4, b5, b6, b7, .un] = .nx [.v (Tx t), rows, .v (Tx (s ++ zz r i)), .v (.int i), b4, .v (.int r.a), .v (.int r.o), .v (Tx r.p), .un] := by
  have c1 : binOp .Add (Tx s) (Tx r.p) = some (.v (Tx (s ++ r.p))) := o_cat (by omega)
  unfold bZ zz Ed.D
  by_cases a : r.a = i
  · have ea := decide_eq_true a
    by_cases b : r.o = 0
    · have eb := decide_eq_true b
      rw [if_pos ⟨a, b⟩]
      simp only [turnF_ap, RCa, optR, optV, optB, view, views, fin, lent, isO, setTg, setAll, setCA, kd, wipes, unwipe, frz, truth, isNone, callF, lend, slots, back, isLent, List.map_cons, List.map_nil, List.length_cons, List.length_nil, List.cons_append, List.nil_append, List.replicate, Nat.reduceAdd, Nat.reduceSub, List.getElem?_cons_zero, List.getElem?_cons_succ, List.set_cons_zero, List.set_cons_succ, List.getD_cons_zero, List.getD_cons_succ, if_true, if_false, reduceIte, Option.map_some, Option.map_none, List.filterMap_nil, List.filterMap_cons, List.nodup_nil, id_eq, Bool.false_eq_true, nodup1, Wk_Γ, Wk_C, o_add, o_sub, o_eq, o_ne, o_lt, o_le, o_gt, o_ge, o_isN, o_isnN, o_lenL, o_lenT, o_atL, o_atT, o_sqL, o_sqT, o_tupL, o_listL, o_listT, o_int, o_eqT, o_neT, o_inT, o_ninT, o_sqTx, o_Tx0, dn_eq, dn_z, ea, eb, c1]
    · have eb := decide_eq_false b
      rw [if_neg fun h => b h.2, List.append_nil]
      simp only [turnF_ap, RCa, optR, optV, optB, view, views, fin, lent, isO, setTg, setAll, setCA, kd, wipes, unwipe, frz, truth, isNone, callF, lend, slots, back, isLent, List.map_cons, List.map_nil, List.length_cons, List.length_nil, List.cons_append, List.nil_append, List.replicate, Nat.reduceAdd, Nat.reduceSub, List.getElem?_cons_zero, List.getElem?_cons_succ, List.set_cons_zero, List.set_cons_succ, List.getD_cons_zero, List.getD_cons_succ, if_true, if_false, reduceIte, Option.map_some, Option.map_none, List.filterMap_nil, List.filterMap_cons, List.nodup_nil, id_eq, Bool.false_eq_true, nodup1, Wk_Γ, Wk_C, o_add, o_sub, o_eq, o_ne, o_lt, o_le, o_gt, o_ge, o_isN, o_isnN, o_lenL, o_lenT, o_atL, o_atT, o_sqL, o_sqT, o_tupL, o_listL, o_listT, o_int, o_eqT, o_neT, o_inT, o_ninT, o_sqTx, o_Tx0, dn_eq, dn_z, ea, eb]
  · have ea := decide_eq_false a
    rw [if_neg fun h => a h.1, List.append_nil]
    simp only [turnF_ap, RCa, optR, optV, optB, view, views, fin, lent, isO, setTg, setAll, setCA, kd, wipes, unwipe, frz, truth, isNone, callF, lend, slots, back, isLent, List.map_cons, List.map_nil, List.length_cons, List.length_nil, List.cons_append, List.nil_append, List.replicate, Nat.reduceAdd, Nat.reduceSub, List.getElem?_cons_zero, List.getElem?_cons_succ, List.set_cons_zero, List.set_cons_succ, List.getD_cons_zero, List.getD_cons_succ, if_true, if_false, reduceIte, Option.map_some, Option.map_none, List.filterMap_nil, List.filterMap_cons, List.nodup_nil, id_eq, Bool.false_eq_true, nodup1, Wk_Γ, Wk_C, o_add, o_sub, o_eq, o_ne, o_lt, o_le, o_gt, o_ge, o_isN, o_isnN, o_lenL, o_lenT, o_atL, o_atT, o_sqL, o_sqT, o_tupL, o_listL, o_listT, o_int, o_eqT, o_neT, o_inT, o_ninT, o_sqTx, o_Tx0, dn_eq, dn_z, ea]
theorem oneN (r : Ed) (t s : List Nat) (i : Nat) (rows b4 b5 b6 b7 : Sl) (hs : s.length + r.p.length ≤ 900000) :
    turnF fuel W (.tp [5, 6, 7]) bN r.D [.v (Tx t), rows, .v (Tx s), .v (.int i), b4, b5, b6, b7, .un] = .nx [.v (Tx t), rows, .v (Tx (s ++ nn r i)), .v (.int i), b4, .v (.int r.a), .v (.int r.o), .v (Tx r.p), .un] := by
  have c1 : binOp .Add (Tx s) (Tx r.p) = some (.v (Tx (s ++ r.p))) := o_cat (by omega)
  unfold bN nn Ed.D
  by_cases a : r.a = i
  · have ea := decide_eq_true a
    by_cases b : 0 < r.o
    · have eb := decide_eq_true b
      rw [if_pos ⟨a, b⟩]
      simp only [turnF_ap, RCa, optR, optV, optB, view, views, fin, lent, isO, setTg, setAll, setCA, kd, wipes, unwipe, frz, truth, isNone, callF, lend, slots, back, isLent, List.map_cons, List.map_nil, List.length_cons, List.length_nil, List.cons_append, List.nil_append, List.replicate, Nat.reduceAdd, Nat.reduceSub, List.getElem?_cons_zero, List.getElem?_cons_succ, List.set_cons_zero, List.set_cons_succ, List.getD_cons_zero, List.getD_cons_succ, if_true, if_false, reduceIte, Option.map_some, Option.map_none, List.filterMap_nil, List.filterMap_cons, List.nodup_nil, id_eq, Bool.false_eq_true, nodup1, Wk_Γ, Wk_C, o_add, o_sub, o_eq, o_ne, o_lt, o_le, o_gt, o_ge, o_isN, o_isnN, o_lenL, o_lenT, o_atL, o_atT, o_sqL, o_sqT, o_tupL, o_listL, o_listT, o_int, o_eqT, o_neT, o_inT, o_ninT, o_sqTx, o_Tx0, dn_eq, dn_p, ea, eb, c1]
    · have eb := decide_eq_false b
      rw [if_neg fun h => b h.2, List.append_nil]
      simp only [turnF_ap, RCa, optR, optV, optB, view, views, fin, lent, isO, setTg, setAll, setCA, kd, wipes, unwipe, frz, truth, isNone, callF, lend, slots, back, isLent, List.map_cons, List.map_nil, List.length_cons, List.length_nil, List.cons_append, List.nil_append, List.replicate, Nat.reduceAdd, Nat.reduceSub, List.getElem?_cons_zero, List.getElem?_cons_succ, List.set_cons_zero, List.set_cons_succ, List.getD_cons_zero, List.getD_cons_succ, if_true, if_false, reduceIte, Option.map_some, Option.map_none, List.filterMap_nil, List.filterMap_cons, List.nodup_nil, id_eq, Bool.false_eq_true, nodup1, Wk_Γ, Wk_C, o_add, o_sub, o_eq, o_ne, o_lt, o_le, o_gt, o_ge, o_isN, o_isnN, o_lenL, o_lenT, o_atL, o_atT, o_sqL, o_sqT, o_tupL, o_listL, o_listT, o_int, o_eqT, o_neT, o_inT, o_ninT, o_sqTx, o_Tx0, dn_eq, dn_p, ea, eb]
  · have ea := decide_eq_false a
    rw [if_neg fun h => a h.1, List.append_nil]
    simp only [turnF_ap, RCa, optR, optV, optB, view, views, fin, lent, isO, setTg, setAll, setCA, kd, wipes, unwipe, frz, truth, isNone, callF, lend, slots, back, isLent, List.map_cons, List.map_nil, List.length_cons, List.length_nil, List.cons_append, List.nil_append, List.replicate, Nat.reduceAdd, Nat.reduceSub, List.getElem?_cons_zero, List.getElem?_cons_succ, List.set_cons_zero, List.set_cons_succ, List.getD_cons_zero, List.getD_cons_succ, if_true, if_false, reduceIte, Option.map_some, Option.map_none, List.filterMap_nil, List.filterMap_cons, List.nodup_nil, id_eq, Bool.false_eq_true, nodup1, Wk_Γ, Wk_C, o_add, o_sub, o_eq, o_ne, o_lt, o_le, o_gt, o_ge, o_isN, o_isnN, o_lenL, o_lenT, o_atL, o_atT, o_sqL, o_sqT, o_tupL, o_listL, o_listT, o_int, o_eqT, o_neT, o_inT, o_ninT, o_sqTx, o_Tx0, dn_eq, dn_p, ea]
theorem zz_len (r : Ed) (i : Nat) : (zz r i).length ≤ r.p.length := by unfold zz; split <;> simp
theorem nn_len (r : Ed) (i : Nat) : (nn r i).length ≤ r.p.length := by unfold nn; split <;> simp
theorem loopZ (r1 r2 : Ed) (t s : List Nat) (i : Nat) (rows b4 b5 b6 b7 : Sl) (hs : s.length + r1.p.length + r2.p.length ≤ 900000) :
    forL (turnF fuel W (.tp [5, 6, 7]) bZ) [r1.D, r2.D] [.v (Tx t), rows, .v (Tx s), .v (.int i), b4, b5, b6, b7, .un] = .nx [.v (Tx t), rows, .v (Tx (s ++ (zz r1 i ++ zz r2 i))), .v (.int i), b4, .v (.int r2.a), .v (.int r2.o), .v (Tx r2.p), .un] := by
  have := zz_len r1 i
  rw [forL_c (oneZ fuel W r1 t s i rows b4 b5 b6 b7 (by omega)), forL_c (oneZ fuel W r2 t _ i rows b4 _ _ _ (by rw [List.length_append]; omega)), forL_n, List.append_assoc]
theorem loopN (r1 r2 : Ed) (t s : List Nat) (i : Nat) (rows b4 b5 b6 b7 : Sl) (hs : s.length + r1.p.length + r2.p.length ≤ 900000) :
    forL (turnF fuel W (.tp [5, 6, 7]) bN) [r1.D, r2.D] [.v (Tx t), rows, .v (Tx s), .v (.int i), b4, b5, b6, b7, .un] = .nx [.v (Tx t), rows, .v (Tx (s ++ (nn r1 i ++ nn r2 i))), .v (.int i), b4, .v (.int r2.a), .v (.int r2.o), .v (Tx r2.p), .un] := by
  have := nn_len r1 i
  rw [forL_c (oneN fuel W r1 t s i rows b4 b5 b6 b7 (by omega)), forL_c (oneN fuel W r2 t _ i rows b4 _ _ _ (by rw [List.length_append]; omega)), forL_n, List.append_assoc]
theorem oneG (r : Ed) (t s : List Nat) (i : Nat) (rows b4 b5 b6 b7 : Sl) :
    turnC W (.var 8) (.nm 8) (.cons (.val (.cmp2 .LtE .Lt (.sub (.var 8) (.int 0)) (.var 3) (.bin .Add (.sub (.var 8) (.int 0)) (.sub (.var 8) (.int 1))))) .nil) [8] r.D [.v (Tx t), rows, .v (Tx s), .v (.int i), b4, b5, b6, b7, .un]
      = .ok (if gone r i then some r.D else none) [.v (Tx t), rows, .v (Tx s), .v (.int i), b4, b5, b6, b7, .un] := by
  unfold gone Ed.D
  cases h1 : decide (r.a ≤ i) with
  | false => simp only [turnC_ap, RCa, optR, optV, optB, view, views, fin, lent, isO, setTg, setAll, setCA, kd, wipes, unwipe, frz, truth, isNone, callF, lend, slots, back, isLent, List.map_cons, List.map_nil, List.length_cons, List.length_nil, List.cons_append, List.nil_append, List.replicate, Nat.reduceAdd, Nat.reduceSub, List.getElem?_cons_zero, List.getElem?_cons_succ, List.set_cons_zero, List.set_cons_succ, List.getD_cons_zero, List.getD_cons_succ, if_true, if_false, reduceIte, Option.map_some, Option.map_none, List.filterMap_nil, List.filterMap_cons, List.nodup_nil, id_eq, Bool.false_eq_true, nodup1, Wk_Γ, Wk_C, o_add, o_sub, o_eq, o_ne, o_lt, o_le, o_gt, o_ge, o_isN, o_isnN, o_lenL, o_lenT, o_atL, o_atT, o_sqL, o_sqT, o_tupL, o_listL, o_listT, o_int, o_eqT, o_neT, o_inT, o_ninT, o_sqTx, o_Tx0, ed0, ed1, ed2, dn_ad, dn_le, dn_lt, h1, Bool.false_and, Bool.false_eq_true]
  | true =>
    cases h2 : decide (i < r.a + r.o) with
    | false => simp only [turnC_ap, RCa, optR, optV, optB, view, views, fin, lent, isO, setTg, setAll, setCA, kd, wipes, unwipe, frz, truth, isNone, callF, lend, slots, back, isLent, List.map_cons, List.map_nil, List.length_cons, List.length_nil, List.cons_append, List.nil_append, List.replicate, Nat.reduceAdd, Nat.reduceSub, List.getElem?_cons_zero, List.getElem?_cons_succ, List.set_cons_zero, List.set_cons_succ, List.getD_cons_zero, List.getD_cons_succ, if_true, if_false, reduceIte, Option.map_some, Option.map_none, List.filterMap_nil, List.filterMap_cons, List.nodup_nil, id_eq, Bool.false_eq_true, nodup1, Wk_Γ, Wk_C, o_add, o_sub, o_eq, o_ne, o_lt, o_le, o_gt, o_ge, o_isN, o_isnN, o_lenL, o_lenT, o_atL, o_atT, o_sqL, o_sqT, o_tupL, o_listL, o_listT, o_int, o_eqT, o_neT, o_inT, o_ninT, o_sqTx, o_Tx0, ed0, ed1, ed2, dn_ad, dn_le, dn_lt, h1, h2, Bool.and_false, Bool.false_eq_true]
    | true => simp only [turnC_ap, RCa, optR, optV, optB, view, views, fin, lent, isO, setTg, setAll, setCA, kd, wipes, unwipe, frz, truth, isNone, callF, lend, slots, back, isLent, List.map_cons, List.map_nil, List.length_cons, List.length_nil, List.cons_append, List.nil_append, List.replicate, Nat.reduceAdd, Nat.reduceSub, List.getElem?_cons_zero, List.getElem?_cons_succ, List.set_cons_zero, List.set_cons_succ, List.getD_cons_zero, List.getD_cons_succ, if_true, if_false, reduceIte, Option.map_some, Option.map_none, List.filterMap_nil, List.filterMap_cons, List.nodup_nil, id_eq, Bool.false_eq_true, nodup1, Wk_Γ, Wk_C, o_add, o_sub, o_eq, o_ne, o_lt, o_le, o_gt, o_ge, o_isN, o_isnN, o_lenL, o_lenT, o_atL, o_atT, o_sqL, o_sqT, o_tupL, o_listL, o_listT, o_int, o_eqT, o_neT, o_inT, o_ninT, o_sqTx, o_Tx0, ed0, ed1, ed2, dn_ad, dn_le, dn_lt, h1, h2, Bool.and_true]
theorem compG (r1 r2 : Ed) (t s : List Nat) (i : Nat) (rows b4 b5 b6 b7 : Sl) : ∃ ds, compL (turnC W (.var 8) (.nm 8) (.cons (.val (.cmp2 .LtE .Lt (.sub (.var 8) (.int 0)) (.var 3) (.bin .Add (.sub (.var 8) (.int 0)) (.sub (.var 8) (.int 1))))) .nil) [8]) [r1.D, r2.D] [] [.v (Tx t), rows, .v (Tx s), .v (.int i), b4, b5, b6, b7, .un]
      = .ok ds [.v (Tx t), rows, .v (Tx s), .v (.int i), b4, b5, b6, b7, .un] ∧ decide ((ds.length : Int) = 0) = !(gone r1 i || gone r2 i) := by
  generalize ho : compL _ _ _ _ = o
  obtain ⟨ds, ρ', rfl, rfl, hd⟩ := compL_ok ho (fun k acc ρ => ρ = [.v (Tx t), rows, .v (Tx s), .v (.int i), b4, b5, b6, b7, .un] ∧ acc.length = (([r1, r2].take k).filter (fun r => gone r i)).length) (by
    rintro k x acc ρ hx ⟨rfl, hl⟩
    have key : ∀ r : Ed, ([r1, r2].take (k + 1)).filter (fun r => gone r i) = ([r1, r2].take k).filter (fun r => gone r i) ++ (if gone r i then [r] else []) → x = r.D → ∃ r' ρ', turnC W (.var 8) (.nm 8) (.cons (.val (.cmp2 .LtE .Lt (.sub (.var 8) (.int 0)) (.var 3) (.bin .Add (.sub (.var 8) (.int 0)) (.sub (.var 8) (.int 1))))) .nil) [8] x [.v (Tx t), rows, .v (Tx s), .v (.int i), b4, b5, b6, b7, .un] = .ok r' ρ' ∧ match r' with
        | none => ρ' = [.v (Tx t), rows, .v (Tx s), .v (.int i), b4, b5, b6, b7, .un] ∧ acc.length = (([r1, r2].take (k + 1)).filter (fun r => gone r i)).length
        | some d => acc.length < Lm ∧ ρ' = [.v (Tx t), rows, .v (Tx s), .v (.int i), b4, b5, b6, b7, .un] ∧ (acc ++ [d]).length = (([r1, r2].take (k + 1)).filter (fun r => gone r i)).length := by
      rintro r hf rfl
      refine ⟨_, _, oneG W r t s i rows b4 b5 b6 b7, ?_⟩
      have hb : (([r1, r2].take k).filter (fun r => gone r i)).length ≤ 2 := Nat.le_trans (List.length_filter_le _ _) (by rw [List.length_take]; exact Nat.min_le_right _ _)
      cases hg : gone r i with
      | false =>
        rw [hg, if_neg Bool.false_ne_true, List.append_nil] at hf
        exact ⟨rfl, by rw [hf]; exact hl⟩
      | true =>
        rw [hg, if_pos rfl] at hf
        exact ⟨by rw [hl]; exact Nat.lt_of_le_of_lt hb (by decide), rfl, by rw [hf, List.length_append, List.length_append, hl]; rfl⟩
    match k, hx with
    | 0, hx =>
      cases (show some r1.D = some x from hx)
      refine key r1 ?_ rfl
      show List.filter _ [r1] = [] ++ _
      rw [List.filter_cons]
      cases gone r1 i <;> rfl
    | 1, hx =>
      cases (show some r2.D = some x from hx)
      refine key r2 ?_ rfl
      show List.filter _ ([r1] ++ [r2]) = List.filter _ [r1] ++ _
      rw [List.filter_append]
      congr 1
      rw [List.filter_cons]
      cases gone r2 i <;> rfl
    | k + 2, hx => cases hx) ⟨rfl, rfl⟩
  refine ⟨ds, rfl, ?_⟩
  rw [dn_z, hd]
  show decide ((List.filter (fun r => gone r i) [r1, r2]).length = 0) = _
  rw [List.filter_cons, List.filter_cons]
  cases gone r1 i <;> cases gone r2 i <;> rfl
theorem both_run (t : List Nat) (ht : t.length ≤ 1000) (r1 r2 x y : Ed) (h1 : r1.p.length ≤ 1000) (h2 : r2.p.length ≤ 1000) (hx : x.p.length ≤ 1000) (hy : y.p.length ≤ 1000) (h : x.a + x.o ≤ y.a) (hf : y.a + y.o ≤ t.length)
    (hz : ∀ i, zz r1 i ++ zz r2 i ++ (nn r1 i ++ nn r2 i) = puts x y i) (hg : ∀ i, (gone r1 i || gone r2 i) = (gone x i || gone y i)) :
    runFn fuel W f_law_both [.v (Tx t), .v (.list [r1.D, r2.D])] = .v (Tx (D2 t x y)) [] := by
  have lt := len_tx (l := t) (Nat.le_trans ht (by decide))
  have s1 : small62 ((t.length : Int) + 1) = true := small_int (by omega) (by omega)
  unfold f_law_both runFn
  simp only [RCa, optR, optV, optB, view, views, fin, lent, isO, setTg, setAll, setCA, kd, wipes, unwipe, frz, truth, isNone, callF, lend, slots, back, isLent, List.map_cons, List.map_nil, List.length_cons, List.length_nil, List.cons_append, List.nil_append, List.replicate, Nat.reduceAdd, Nat.reduceSub, List.getElem?_cons_zero, List.getElem?_cons_succ, List.set_cons_zero, List.set_cons_succ, List.getD_cons_zero, List.getD_cons_succ, if_true, if_false, reduceIte, Option.map_some, Option.map_none, List.filterMap_nil, List.filterMap_cons, List.nodup_nil, id_eq, Bool.false_eq_true, nodup1, Wk_Γ, Wk_C, o_add, o_sub, o_eq, o_ne, o_lt, o_le, o_gt, o_ge, o_isN, o_isnN, o_lenL, o_lenT, o_atL, o_atT, o_sqL, o_sqT, o_tupL, o_listL, o_listT, o_int, o_eqT, o_neT, o_inT, o_ninT, o_sqTx, o_Tx0, lt, s1]
  generalize hq : forL _ _ _ = o
  obtain ⟨ρ', rfl, b3, b4, b5, b6, b7, rfl⟩ := forL_ok hq (fun i ρ => ∃ b3 b4 b5 b6 b7 : Sl, ρ = [.v (Tx t), .v (.list [r1.D, r2.D]), .v (Tx (Q t x y i)), b3, b4, b5, b6, b7, .un]) (by
    rintro i d ρ hd ⟨b3, b4, b5, b6, b7, rfl⟩
    obtain ⟨rfl, hi⟩ := rng1L_get hd
    have hi : i ≤ t.length := by omega
    have ql := Q_len (t := t) (x := x) (y := y) i
    have eZ := loopZ fuel W r1 r2 t (Q t x y i) i (.v (.list [r1.D, r2.D])) b4 b5 b6 b7 (by omega)
    have lz1 := zz_len r1 i
    have lz2 := zz_len r2 i
    have ln1 := nn_len r1 i
    have ln2 := nn_len r2 i
    have eN := loopN fuel W r1 r2 t (Q t x y i ++ (zz r1 i ++ zz r2 i)) i (.v (.list [r1.D, r2.D])) b4 (.v (.int r2.a)) (.v (.int r2.o)) (.v (Tx r2.p)) (by rw [List.length_append, List.length_append]; omega)
    obtain ⟨ds, eG, hds⟩ := compG W r1 r2 t (Q t x y i ++ (zz r1 i ++ zz r2 i) ++ (nn r1 i ++ nn r2 i)) i (.v (.list [r1.D, r2.D])) b4 (.v (.int r2.a)) (.v (.int r2.o)) (.v (Tx r2.p))
    unfold bZ at eZ
    unfold bN at eN
    have hsum : Q t x y i ++ (zz r1 i ++ zz r2 i) ++ (nn r1 i ++ nn r2 i) = Q t x y i ++ puts x y i := by rw [List.append_assoc, hz i]
    rw [hsum] at eN eG
    rw [hg i] at hds
    have hpl : (puts x y i).length ≤ 2000 := by
      unfold puts
      rw [List.length_append]
      have : (if x.a = i then x.p else []).length ≤ x.p.length := by split <;> simp
      have : (if y.a = i then y.p else []).length ≤ y.p.length := by split <;> simp
      omega
    have step := Q_s (t := t) (x := x) (y := y) h hf hi
    cases hgo : (gone x i || gone y i) with
    | true =>
      rw [hgo] at hds
      have ec : chr t x y i = [] := by unfold chr; rw [hgo]; rfl
      rw [ec, List.append_nil] at step
      cases hlt : decide (i < t.length) with
      | true =>
        simp only [turnF_ap, RCa, optR, optV, optB, view, views, fin, lent, isO, setTg, setAll, setCA, kd, wipes, unwipe, frz, truth, isNone, callF, lend, slots, back, isLent, List.map_cons, List.map_nil, List.length_cons, List.length_nil, List.cons_append, List.nil_append, List.replicate, Nat.reduceAdd, Nat.reduceSub, List.getElem?_cons_zero, List.getElem?_cons_succ, List.set_cons_zero, List.set_cons_succ, List.getD_cons_zero, List.getD_cons_succ, if_true, if_false, reduceIte, Option.map_some, Option.map_none, List.filterMap_nil, List.filterMap_cons, List.nodup_nil, id_eq, Bool.false_eq_true, nodup1, Wk_Γ, Wk_C, o_add, o_sub, o_eq, o_ne, o_lt, o_le, o_gt, o_ge, o_isN, o_isnN, o_lenL, o_lenT, o_atL, o_atT, o_sqL, o_sqT, o_tupL, o_listL, o_listT, o_int, o_eqT, o_neT, o_inT, o_ninT, o_sqTx, o_Tx0, eZ, eN, eG, lt, dn_lt, hlt, hds, Bool.not_true]
        exact ⟨_, .inl rfl, _, _, _, _, _, by rw [step]⟩
      | false =>
        simp only [turnF_ap, RCa, optR, optV, optB, view, views, fin, lent, isO, setTg, setAll, setCA, kd, wipes, unwipe, frz, truth, isNone, callF, lend, slots, back, isLent, List.map_cons, List.map_nil, List.length_cons, List.length_nil, List.cons_append, List.nil_append, List.replicate, Nat.reduceAdd, Nat.reduceSub, List.getElem?_cons_zero, List.getElem?_cons_succ, List.set_cons_zero, List.set_cons_succ, List.getD_cons_zero, List.getD_cons_succ, if_true, if_false, reduceIte, Option.map_some, Option.map_none, List.filterMap_nil, List.filterMap_cons, List.nodup_nil, id_eq, Bool.false_eq_true, nodup1, Wk_Γ, Wk_C, o_add, o_sub, o_eq, o_ne, o_lt, o_le, o_gt, o_ge, o_isN, o_isnN, o_lenL, o_lenT, o_atL, o_atT, o_sqL, o_sqT, o_tupL, o_listL, o_listT, o_int, o_eqT, o_neT, o_inT, o_ninT, o_sqTx, o_Tx0, eZ, eN, eG, lt, dn_lt, hlt, hds, Bool.not_true]
        exact ⟨_, .inl rfl, _, _, _, _, _, by rw [step]⟩
    | false =>
      rw [hgo] at hds
      by_cases hl : i < t.length
      · have hlt := decide_eq_true hl
        have ec : chr t x y i = [t[i]] := by unfold chr; rw [hgo, List.getElem?_eq_getElem hl]; rfl
        rw [ec] at step
        have sb := sub_tx (l := t) (i := i) (c := t[i]) (Nat.le_trans ht (by decide)) (List.getElem?_eq_getElem hl)
        have ca : binOp .Add (Tx (Q t x y i ++ puts x y i)) (Tx [t[i]]) = some (.v (Tx (Q t x y i ++ puts x y i ++ [t[i]]))) := o_cat (by rw [List.length_append]; simp only [List.length_cons, List.length_nil]; omega)
        simp only [turnF_ap, RCa, optR, optV, optB, view, views, fin, lent, isO, setTg, setAll, setCA, kd, wipes, unwipe, frz, truth, isNone, callF, lend, slots, back, isLent, List.map_cons, List.map_nil, List.length_cons, List.length_nil, List.cons_append, List.nil_append, List.replicate, Nat.reduceAdd, Nat.reduceSub, List.getElem?_cons_zero, List.getElem?_cons_succ, List.set_cons_zero, List.set_cons_succ, List.getD_cons_zero, List.getD_cons_succ, if_true, if_false, reduceIte, Option.map_some, Option.map_none, List.filterMap_nil, List.filterMap_cons, List.nodup_nil, id_eq, Bool.false_eq_true, nodup1, Wk_Γ, Wk_C, o_add, o_sub, o_eq, o_ne, o_lt, o_le, o_gt, o_ge, o_isN, o_isnN, o_lenL, o_lenT, o_atL, o_atT, o_sqL, o_sqT, o_tupL, o_listL, o_listT, o_int, o_eqT, o_neT, o_inT, o_ninT, o_sqTx, o_Tx0, eZ, eN, eG, lt, dn_lt, hlt, hds, Bool.not_false, sb, ca]
        exact ⟨_, .inl rfl, _, _, _, _, _, by rw [step]⟩
      · have hlt := decide_eq_false hl
        have ec : chr t x y i = [] := by unfold chr; rw [hgo, List.getElem?_eq_none (by omega)]; rfl
        rw [ec, List.append_nil] at step
        simp only [turnF_ap, RCa, optR, optV, optB, view, views, fin, lent, isO, setTg, setAll, setCA, kd, wipes, unwipe, frz, truth, isNone, callF, lend, slots, back, isLent, List.map_cons, List.map_nil, List.length_cons, List.length_nil, List.cons_append, List.nil_append, List.replicate, Nat.reduceAdd, Nat.reduceSub, List.getElem?_cons_zero, List.getElem?_cons_succ, List.set_cons_zero, List.set_cons_succ, List.getD_cons_zero, List.getD_cons_succ, if_true, if_false, reduceIte, Option.map_some, Option.map_none, List.filterMap_nil, List.filterMap_cons, List.nodup_nil, id_eq, Bool.false_eq_true, nodup1, Wk_Γ, Wk_C, o_add, o_sub, o_eq, o_ne, o_lt, o_le, o_gt, o_ge, o_isN, o_isnN, o_lenL, o_lenT, o_atL, o_atT, o_sqL, o_sqT, o_tupL, o_listL, o_listT, o_int, o_eqT, o_neT, o_inT, o_ninT, o_sqTx, o_Tx0, eZ, eN, eG, lt, dn_lt, hlt, hds, Bool.not_false]
        exact ⟨_, .inl rfl, _, _, _, _, _, by rw [step]⟩) ⟨_, _, _, _, _, by rw [Q_z]⟩
  have hn : (rng1L ((t.length : Int) + 1)).length = t.length + 1 := by rw [rng1L_len]; omega
  rw [hn, Q_end h hf]
  simp only [RCa, optR, optV, optB, view, views, fin, lent, isO, setTg, setAll, setCA, kd, wipes, unwipe, frz, truth, isNone, callF, lend, slots, back, isLent, List.map_cons, List.map_nil, List.length_cons, List.length_nil, List.cons_append, List.nil_append, List.replicate, Nat.reduceAdd, Nat.reduceSub, List.getElem?_cons_zero, List.getElem?_cons_succ, List.set_cons_zero, List.set_cons_succ, List.getD_cons_zero, List.getD_cons_succ, if_true, if_false, reduceIte, Option.map_some, Option.map_none, List.filterMap_nil, List.filterMap_cons, List.nodup_nil, id_eq, Bool.false_eq_true, nodup1, Wk_Γ, Wk_C, o_add, o_sub, o_eq, o_ne, o_lt, o_le, o_gt, o_ge, o_isN, o_isnN, o_lenL, o_lenT, o_atL, o_atT, o_sqL, o_sqT, o_tupL, o_listL, o_listT, o_int, o_eqT, o_neT, o_inT, o_ninT, o_sqTx, o_Tx0]
end
end W32

set_option Elab.async false
set_option linter.all false
set_option maxRecDepth 100000
set_option maxHeartbeats 4000000
/-! K32d: a pair of edits holds. -/
namespace W32
open PySem Rc Lw32
def S1 (e f : Ed) (b : Bool) : Ed := if bfB e f b then e else e.sh f
def G (t : List Nat) (e f : Ed) (b : Bool) : List Nat := if bfB e f b then D2 t e f else D2 t f e
/-- what the world tells of a pair -/
structure Pw (W : Wd) (t : List Nat) (e f : Ed) : Prop where
  l78 : W.lm 78 = [false, false]
  l81 : W.lm 81 = [false, false, false]
  l76 : W.lm 76 = [false, false]
  l89 : W.lm 89 = [false, false, false]
  l80 : W.lm 80 = [false, false, false]
  l75 : W.lm 75 = [false, false]
  l87 : W.lm 87 = [false, false]
  ap : W.Γ 78 [.v e.D, .v f.D] = .v (.bool (apB e f)) []
  ov1 : apB e f = false → ∀ b, W.Γ 81 [.v e.D, .v f.D, .v (.bool b)] = .v (.bool true) []
  ov2 : apB e f = false → ∀ b, W.Γ 81 [.v f.D, .v e.D, .v (.bool b)] = .v (.bool true) []
  bo1 : apB e f = true → W.Γ 76 [.v (Tx t), .v (.list [e.D, f.D])] = .v (Tx (G t e f true)) []
  bo2 : apB e f = true → W.Γ 76 [.v (Tx t), .v (.list [f.D, e.D])] = .v (Tx (G t e f false)) []
  s1 : apB e f = true → ∀ b, W.Γ 89 [.v e.D, .v f.D, .v (.bool b)] = .v (S1 e f b).D []
  s2 : apB e f = true → ∀ b, W.Γ 89 [.v f.D, .v e.D, .v (.bool b)] = .v (S1 f e b).D []
  h1 : apB e f = true → ∀ b, W.Γ 80 [.v e.D, .v f.D, .v (.bool b)] = .v (S1 e f b).D []
  h2 : apB e f = true → ∀ b, W.Γ 80 [.v f.D, .v e.D, .v (.bool b)] = .v (S1 f e b).D []
  sm : ∀ x : Ed, W.Γ 75 [.v x.D, .v x.D] = .v (.bool true) []
  st : ∀ l, W.Γ 75 [.v (Tx l), .v (Tx l)] = .v (.bool true) []
  a1 : W.Γ 87 [.v (Tx t), .v f.D] = .v (Tx (f.on t)) []
  a2 : W.Γ 87 [.v (Tx t), .v e.D] = .v (Tx (e.on t)) []
  a3 : apB e f = true → ∀ b, W.Γ 87 [.v (Tx (f.on t)), .v (S1 e f b).D] = .v (Tx (G t e f b)) []
  a4 : apB e f = true → ∀ b, W.Γ 87 [.v (Tx (e.on t)), .v (S1 f e (!b)).D] = .v (Tx (G t e f b)) []
section
variable (fuel : Nat) (W : Wd)
theorem pair_run (t : List Nat) (e f : Ed) (H : Pw W t e f) : runFn fuel W f_law_pair_holds [.v (Tx t), .v e.D, .v f.D] = .v (.bool true) [] := by
  unfold f_law_pair_holds runFn
  simp only [RCa, optR, optV, optB, view, views, fin, lent, isO, setTg, setAll, setCA, kd, wipes, unwipe, frz, truth, isNone, callF, lend, slots, back, isLent, List.map_cons, List.map_nil, List.length_cons, List.length_nil, List.cons_append, List.nil_append, List.replicate, Nat.reduceAdd, Nat.reduceSub, List.getElem?_cons_zero, List.getElem?_cons_succ, List.set_cons_zero, List.set_cons_succ, List.getD_cons_zero, List.getD_cons_succ, if_true, if_false, reduceIte, Option.map_some, Option.map_none, List.filterMap_nil, List.filterMap_cons, List.nodup_nil, id_eq, Bool.false_eq_true, nodup1, Wk_Γ, Wk_C, o_add, o_sub, o_eq, o_ne, o_lt, o_le, o_gt, o_ge, o_isN, o_isnN, o_lenL, o_lenT, o_atL, o_atT, o_sqL, o_sqT, o_tupL, o_listL, o_listT, o_int, o_eqT, o_neT, o_inT, o_ninT, o_sqTx, o_Tx0]
  generalize hq : forL _ _ _ = o
  obtain ⟨ρ', rfl, b3, b4, b5, b6, rfl⟩ := forL_ok hq (fun i ρ => ∃ b3 b4 b5 b6 : Sl, ρ = [.v (Tx t), .v e.D, .v f.D, b3, b4, b5, b6]) (by
    rintro i d ρ hd ⟨b3, b4, b5, b6, rfl⟩
    obtain ⟨b, rfl⟩ : ∃ b, d = .bool b := by
      match i, hd with
      | 0, hd => cases hd; exact ⟨_, rfl⟩
      | 1, hd => cases hd; exact ⟨_, rfl⟩
      | i + 2, hd => cases hd
    have ap := H.ap
    cases hc : apB e f with
    | false =>
      rw [hc] at ap
      simp only [turnF_ap, RCa, optR, optV, optB, view, views, fin, lent, isO, setTg, setAll, setCA, kd, wipes, unwipe, frz, truth, isNone, callF, lend, slots, back, isLent, List.map_cons, List.map_nil, List.length_cons, List.length_nil, List.cons_append, List.nil_append, List.replicate, Nat.reduceAdd, Nat.reduceSub, List.getElem?_cons_zero, List.getElem?_cons_succ, List.set_cons_zero, List.set_cons_succ, List.getD_cons_zero, List.getD_cons_succ, if_true, if_false, reduceIte, Option.map_some, Option.map_none, List.filterMap_nil, List.filterMap_cons, List.nodup_nil, id_eq, Bool.false_eq_true, nodup1, Wk_Γ, Wk_C, o_add, o_sub, o_eq, o_ne, o_lt, o_le, o_gt, o_ge, o_isN, o_isnN, o_lenL, o_lenT, o_atL, o_atT, o_sqL, o_sqT, o_tupL, o_listL, o_listT, o_int, o_eqT, o_neT, o_inT, o_ninT, o_sqTx, o_Tx0, H.l78, ap, Bool.not_false, H.l81, H.ov1 hc, H.ov2 hc, Bool.not_true]
      exact ⟨_, .inl rfl, _, _, _, _, rfl⟩
    | true =>
      rw [hc] at ap
      have s1 := H.s1 hc b
      have s2 := H.s2 hc (!b)
      have h1 := H.h1 hc b
      have h2 := H.h2 hc (!b)
      have a3 := H.a3 hc b
      have a4 := H.a4 hc b
      have bo1 := H.bo1 hc
      have bo2 := H.bo2 hc
      generalize e1 : S1 e f b = x1 at s1 h1 a3
      generalize e2 : S1 f e (!b) = x2 at s2 h2 a4
      cases b with
      | true =>
        simp only [Bool.not_true] at s2 h2
        simp only [turnF_ap, RCa, optR, optV, optB, view, views, fin, lent, isO, setTg, setAll, setCA, kd, wipes, unwipe, frz, truth, isNone, callF, lend, slots, back, isLent, List.map_cons, List.map_nil, List.length_cons, List.length_nil, List.cons_append, List.nil_append, List.replicate, Nat.reduceAdd, Nat.reduceSub, List.getElem?_cons_zero, List.getElem?_cons_succ, List.set_cons_zero, List.set_cons_succ, List.getD_cons_zero, List.getD_cons_succ, if_true, if_false, reduceIte, Option.map_some, Option.map_none, List.filterMap_nil, List.filterMap_cons, List.nodup_nil, id_eq, Bool.false_eq_true, nodup1, Wk_Γ, Wk_C, o_add, o_sub, o_eq, o_ne, o_lt, o_le, o_gt, o_ge, o_isN, o_isnN, o_lenL, o_lenT, o_atL, o_atT, o_sqL, o_sqT, o_tupL, o_listL, o_listT, o_int, o_eqT, o_neT, o_inT, o_ninT, o_sqTx, o_Tx0, H.l78, ap, Bool.not_true, Bool.not_false, H.l76, bo1, H.l89, s1, s2, H.l80, h1, h2, H.l75, H.sm, H.l87, H.a1, H.a2, a3, a4, H.st]
        exact ⟨_, .inl rfl, _, _, _, _, rfl⟩
      | false =>
        simp only [Bool.not_false] at s2 h2
        simp only [turnF_ap, RCa, optR, optV, optB, view, views, fin, lent, isO, setTg, setAll, setCA, kd, wipes, unwipe, frz, truth, isNone, callF, lend, slots, back, isLent, List.map_cons, List.map_nil, List.length_cons, List.length_nil, List.cons_append, List.nil_append, List.replicate, Nat.reduceAdd, Nat.reduceSub, List.getElem?_cons_zero, List.getElem?_cons_succ, List.set_cons_zero, List.set_cons_succ, List.getD_cons_zero, List.getD_cons_succ, if_true, if_false, reduceIte, Option.map_some, Option.map_none, List.filterMap_nil, List.filterMap_cons, List.nodup_nil, id_eq, Bool.false_eq_true, nodup1, Wk_Γ, Wk_C, o_add, o_sub, o_eq, o_ne, o_lt, o_le, o_gt, o_ge, o_isN, o_isnN, o_lenL, o_lenT, o_atL, o_atT, o_sqL, o_sqT, o_tupL, o_listL, o_listT, o_int, o_eqT, o_neT, o_inT, o_ninT, o_sqTx, o_Tx0, H.l78, ap, Bool.not_true, Bool.not_false, H.l76, bo2, H.l89, s1, s2, H.l80, h1, h2, H.l75, H.sm, H.l87, H.a1, H.a2, a3, a4, H.st]
        exact ⟨_, .inl rfl, _, _, _, _, rfl⟩) ⟨_, _, _, _, rfl⟩
  simp only [RCa, optR, optV, optB, view, views, fin, lent, isO, setTg, setAll, setCA, kd, wipes, unwipe, frz, truth, isNone, callF, lend, slots, back, isLent, List.map_cons, List.map_nil, List.length_cons, List.length_nil, List.cons_append, List.nil_append, List.replicate, Nat.reduceAdd, Nat.reduceSub, List.getElem?_cons_zero, List.getElem?_cons_succ, List.set_cons_zero, List.set_cons_succ, List.getD_cons_zero, List.getD_cons_succ, if_true, if_false, reduceIte, Option.map_some, Option.map_none, List.filterMap_nil, List.filterMap_cons, List.nodup_nil, id_eq, Bool.false_eq_true, nodup1, Wk_Γ, Wk_C, o_add, o_sub, o_eq, o_ne, o_lt, o_le, o_gt, o_ge, o_isN, o_isnN, o_lenL, o_lenT, o_atL, o_atT, o_sqL, o_sqT, o_tupL, o_listL, o_listT, o_int, o_eqT, o_neT, o_inT, o_ninT, o_sqTx, o_Tx0]
end
/-! ### pure -/
theorem bf_ahead {e f : Ed} {b : Bool} (ha : apB e f = true) (h : bfB e f b = true) : e.a + e.o ≤ f.a := by
  unfold apB at ha
  unfold bfB at h
  rw [Bool.or_eq_true, decide_eq_true_iff, decide_eq_true_iff] at ha
  split at h
  · omega
  · rw [decide_eq_true_iff] at h
    omega
theorem bf_behind {e f : Ed} {b : Bool} (ha : apB e f = true) (h : bfB e f b = false) : f.a + f.o ≤ e.a := by
  unfold apB at ha
  unfold bfB at h
  rw [Bool.or_eq_true, decide_eq_true_iff, decide_eq_true_iff] at ha
  split at h
  · omega
  · rw [decide_eq_false_iff_not] at h
    omega
theorem ap_comm (e f : Ed) : apB e f = apB f e := Bool.or_comm _ _
theorem bf_swap {e f : Ed} {b : Bool} (ha : apB e f = true) : bfB f e (!b) = !bfB e f b := by
  unfold apB at ha
  rw [Bool.or_eq_true, decide_eq_true_iff, decide_eq_true_iff] at ha
  unfold bfB
  by_cases h : e.a = f.a ∧ e.o = 0 ∧ f.o = 0
  · rw [if_pos h, if_pos ⟨h.1.symm, h.2.2, h.2.1⟩]
  · rw [if_neg h, if_neg fun g => h ⟨g.1.symm, g.2.2, g.2.1⟩]
    by_cases g : e.a < f.a ∨ e.a = f.a ∧ e.o < f.o
    · rw [decide_eq_true g, decide_eq_false (by omega)]
      rfl
    · rw [decide_eq_false g, decide_eq_true (by omega)]
      rfl
theorem on_len {e : Ed} {t : List Nat} (h : e.fit t.length) : (e.on t).length = t.length - e.o + e.p.length := by
  unfold Ed.on
  unfold Ed.fit at h
  rw [List.length_append, List.length_append, List.length_take, List.length_drop]
  omega
theorem s1_fit {e f : Ed} {t : List Nat} {b : Bool} (he : e.fit t.length) (hf : f.fit t.length) (ha : apB e f = true) : (S1 e f b).fit (f.on t).length := by
  rw [on_len hf]
  unfold Ed.fit at he hf ⊢
  unfold S1
  cases h : bfB e f b with
  | true =>
    have := bf_ahead ha h
    rw [if_pos rfl]
    omega
  | false =>
    have := bf_behind ha h
    rw [if_neg Bool.false_ne_true]
    unfold Ed.sh
    dsimp only
    omega
theorem s1_on {e f : Ed} {t : List Nat} {b : Bool} (he : e.fit t.length) (hf : f.fit t.length) (ha : apB e f = true) : (S1 e f b).on (f.on t) = G t e f b := by
  unfold S1 G
  unfold Ed.fit at he hf
  cases h : bfB e f b with
  | true =>
    have := bf_ahead ha h
    rw [if_pos rfl, if_pos rfl]
    exact on_a this hf
  | false =>
    have := bf_behind ha h
    rw [if_neg Bool.false_ne_true, if_neg Bool.false_ne_true]
    exact on_b this he
theorem g_swap {e f : Ed} {t : List Nat} {b : Bool} (ha : apB e f = true) : G t f e (!b) = G t e f b := by
  unfold G
  rw [bf_swap ha]
  cases bfB e f b <;> rfl
theorem shift_eq {e f : Ed} {b : Bool} (ha : apB e f = true) : (if e.a + e.o ≤ f.a then (if f.a + f.o ≤ e.a then (if b then FO.v e.D [] else .v (e.sh f).D []) else .v e.D []) else (if f.a + f.o ≤ e.a then .v (e.sh f).D [] else .exc ⟨6, []⟩ [])) = .v (S1 e f b).D [] := by
  unfold S1
  cases h : bfB e f b with
  | true =>
    have h1 := bf_ahead ha h
    rw [if_pos rfl, if_pos h1]
    split
    · unfold bfB at h
      rw [if_pos (by omega)] at h
      rw [h]
      rfl
    · rfl
  | false =>
    have h1 := bf_behind ha h
    rw [if_neg Bool.false_ne_true, if_pos h1, if_pos h1]
    split
    · unfold bfB at h
      rw [if_pos (by omega)] at h
      rw [h]
      rfl
    · rfl
theorem shift_ne {e f : Ed} {b : Bool} (ha : apB e f = false) : (if e.a + e.o ≤ f.a then (if f.a + f.o ≤ e.a then (if b then FO.v e.D [] else .v (e.sh f).D []) else .v e.D []) else (if f.a + f.o ≤ e.a then .v (e.sh f).D [] else .exc ⟨6, []⟩ [])) = .exc ⟨6, []⟩ [] := by
  unfold apB at ha
  rw [Bool.or_eq_false_iff, decide_eq_false_iff_not, decide_eq_false_iff_not] at ha
  rw [if_neg ha.1, if_neg ha.2]
/-- rows in either order -/
theorem rows_ok {e f : Ed} (ha : apB e f = true) (b : Bool) : ∃ x y : Ed, ((bfB e f b = true ∧ x = e ∧ y = f) ∨ (bfB e f b = false ∧ x = f ∧ y = e)) ∧ x.a + x.o ≤ y.a ∧ (∀ i, (if b then zz e i ++ zz f i ++ (nn e i ++ nn f i) else zz f i ++ zz e i ++ (nn f i ++ nn e i)) = puts x y i) ∧ ∀ i, (gone e i || gone f i) = (gone x i || gone y i) := by
  cases h : bfB e f b with
  | true =>
    have h1 := bf_ahead ha h
    refine ⟨e, f, .inl ⟨rfl, rfl, rfl⟩, h1, fun i => ?_, fun i => rfl⟩
    cases b with
    | true => exact zn1 h1 i
    | false =>
      refine zn2 h1 (fun z => ?_) i
      unfold bfB at h
      rw [if_pos z] at h
      cases h
  | false =>
    have h1 := bf_behind ha h
    refine ⟨f, e, .inr ⟨rfl, rfl, rfl⟩, h1, fun i => ?_, fun i => Bool.or_comm _ _⟩
    cases b with
    | false => exact zn1 h1 i
    | true =>
      refine zn2 h1 (fun z => ?_) i
      unfold bfB at h
      rw [if_pos ⟨z.1.symm, z.2.2, z.2.1⟩] at h
      cases h
end W32

set_option Elab.async false
set_option linter.all false
set_option maxRecDepth 100000
set_option maxHeartbeats 4000000
/-! K32e: the drawn edits, the law. -/
namespace W32
open PySem Rc Lw32
section
variable (fuel : Nat) (W : Wd)
theorem beside_run (T : Tk W) (l74 : W.lm 74 = [true, false, false, false]) (t l : List Nat) (ht : t.length ≤ 400) (one : Ed) (hf : one.fit t.length) (ho : one.p.length ≤ 60)
    (g74 : ∀ p, ∃ (e : Ed) (p' : List Int), W.Γ 74 [.o (.lst (iL p)), .v (Tx t), .v (Tx l), .v (.int 4)] = .v e.D [.lst (iL p')] ∧ e.fit t.length ∧ e.p.length ≤ 4) (p : List Int) :
    ∃ (e : Ed) (p' : List Int), runFn fuel W f_law_beside [.o (.lst (iL p)), .v (Tx t), .v (Tx l), .v one.D] = .v e.D [.lst (iL p')] ∧ e.fit t.length ∧ e.p.length ≤ 60 := by
  have lt := len_tx (l := t) (Nat.le_trans ht (by decide))
  obtain ⟨e0, p1, ge, ef, ep⟩ := g74 (tkP p 10)
  unfold Ed.D at ge
  unfold Ed.fit at hf ef
  unfold f_law_beside runFn Ed.D
  simp only [RCa, optR, optV, optB, view, views, fin, lent, isO, setTg, setAll, setCA, kd, wipes, unwipe, frz, truth, isNone, callF, lend, slots, back, isLent, List.map_cons, List.map_nil, List.length_cons, List.length_nil, List.cons_append, List.nil_append, List.replicate, Nat.reduceAdd, Nat.reduceSub, List.getElem?_cons_zero, List.getElem?_cons_succ, List.set_cons_zero, List.set_cons_succ, List.getD_cons_zero, List.getD_cons_succ, if_true, if_false, reduceIte, Option.map_some, Option.map_none, List.filterMap_nil, List.filterMap_cons, List.nodup_nil, id_eq, Bool.false_eq_true, nodup1, Wk_Γ, Wk_C, o_add, o_sub, o_eq, o_ne, o_lt, o_le, o_gt, o_ge, o_isN, o_isnN, o_lenL, o_lenT, o_atL, o_atT, o_sqL, o_sqT, o_tupL, o_listL, o_listT, o_int, o_eqT, o_neT, o_inT, o_ninT, o_sqTx, o_Tx0, T.l, T.g, l74, ge, lt, ed0, ed1, ed2, o_min2]
  generalize tkR p 10 = w
  have close : ∀ {x y : Int} {q : List Int} {s : List Nat}, 0 ≤ x → 0 ≤ y → x + y ≤ t.length → s.length ≤ 60 → ∃ (e : Ed) (p' : List Int), FO.v (.tuple [.int x, .int y, Tx s]) [.lst (iL q)] = .v (.tuple [.int e.a, .int e.o, Tx e.p]) [.lst (iL p')] ∧ e.fit t.length ∧ e.p.length ≤ 60 := fun {x y q s} h1 h2 h3 h4 => by
    obtain ⟨e, p', k1, k2, k3⟩ := ed_of (p := p) (q := q) (s := s) (n := t.length) h1 h2 h3
    exact ⟨e, p', k1, k2, by rw [k3]; exact h4⟩
  have ep' : e0.p.length ≤ 60 := by omega
  have hn : ((t.length : Nat) : Int) = (t.length : Int) := rfl
  cases h1 : decide (w = 1) with
  | true =>
    simp only [RCa, optR, optV, optB, view, views, fin, lent, isO, setTg, setAll, setCA, kd, wipes, unwipe, frz, truth, isNone, callF, lend, slots, back, isLent, List.map_cons, List.map_nil, List.length_cons, List.length_nil, List.cons_append, List.nil_append, List.replicate, Nat.reduceAdd, Nat.reduceSub, List.getElem?_cons_zero, List.getElem?_cons_succ, List.set_cons_zero, List.set_cons_succ, List.getD_cons_zero, List.getD_cons_succ, if_true, if_false, reduceIte, Option.map_some, Option.map_none, List.filterMap_nil, List.filterMap_cons, List.nodup_nil, id_eq, Bool.false_eq_true, nodup1, Wk_Γ, Wk_C, o_add, o_sub, o_eq, o_ne, o_lt, o_le, o_gt, o_ge, o_isN, o_isnN, o_lenL, o_lenT, o_atL, o_atT, o_sqL, o_sqT, o_tupL, o_listL, o_listT, o_int, o_eqT, o_neT, o_inT, o_ninT, o_sqTx, o_Tx0, h1, o_min2]
    exact close (by omega) (by omega) (by omega) ep'
  | false =>
  simp only [RCa, optR, optV, optB, view, views, fin, lent, isO, setTg, setAll, setCA, kd, wipes, unwipe, frz, truth, isNone, callF, lend, slots, back, isLent, List.map_cons, List.map_nil, List.length_cons, List.length_nil, List.cons_append, List.nil_append, List.replicate, Nat.reduceAdd, Nat.reduceSub, List.getElem?_cons_zero, List.getElem?_cons_succ, List.set_cons_zero, List.set_cons_succ, List.getD_cons_zero, List.getD_cons_succ, if_true, if_false, reduceIte, Option.map_some, Option.map_none, List.filterMap_nil, List.filterMap_cons, List.nodup_nil, id_eq, Bool.false_eq_true, nodup1, Wk_Γ, Wk_C, o_add, o_sub, o_eq, o_ne, o_lt, o_le, o_gt, o_ge, o_isN, o_isnN, o_lenL, o_lenT, o_atL, o_atT, o_sqL, o_sqT, o_tupL, o_listL, o_listT, o_int, o_eqT, o_neT, o_inT, o_ninT, o_sqTx, o_Tx0, h1]
  cases h2 : decide (w = 2) with
  | true =>
    simp only [RCa, optR, optV, optB, view, views, fin, lent, isO, setTg, setAll, setCA, kd, wipes, unwipe, frz, truth, isNone, callF, lend, slots, back, isLent, List.map_cons, List.map_nil, List.length_cons, List.length_nil, List.cons_append, List.nil_append, List.replicate, Nat.reduceAdd, Nat.reduceSub, List.getElem?_cons_zero, List.getElem?_cons_succ, List.set_cons_zero, List.set_cons_succ, List.getD_cons_zero, List.getD_cons_succ, if_true, if_false, reduceIte, Option.map_some, Option.map_none, List.filterMap_nil, List.filterMap_cons, List.nodup_nil, id_eq, Bool.false_eq_true, nodup1, Wk_Γ, Wk_C, o_add, o_sub, o_eq, o_ne, o_lt, o_le, o_gt, o_ge, o_isN, o_isnN, o_lenL, o_lenT, o_atL, o_atT, o_sqL, o_sqT, o_tupL, o_listL, o_listT, o_int, o_eqT, o_neT, o_inT, o_ninT, o_sqTx, o_Tx0, h2, ed0, ed1, ed2]
    exact close (by omega) (by omega) (by omega) ep'
  | false =>
  simp only [RCa, optR, optV, optB, view, views, fin, lent, isO, setTg, setAll, setCA, kd, wipes, unwipe, frz, truth, isNone, callF, lend, slots, back, isLent, List.map_cons, List.map_nil, List.length_cons, List.length_nil, List.cons_append, List.nil_append, List.replicate, Nat.reduceAdd, Nat.reduceSub, List.getElem?_cons_zero, List.getElem?_cons_succ, List.set_cons_zero, List.set_cons_succ, List.getD_cons_zero, List.getD_cons_succ, if_true, if_false, reduceIte, Option.map_some, Option.map_none, List.filterMap_nil, List.filterMap_cons, List.nodup_nil, id_eq, Bool.false_eq_true, nodup1, Wk_Γ, Wk_C, o_add, o_sub, o_eq, o_ne, o_lt, o_le, o_gt, o_ge, o_isN, o_isnN, o_lenL, o_lenT, o_atL, o_atT, o_sqL, o_sqT, o_tupL, o_listL, o_listT, o_int, o_eqT, o_neT, o_inT, o_ninT, o_sqTx, o_Tx0, h2]
  cases h3 : decide (w = 3) with
  | true =>
    simp only [RCa, optR, optV, optB, view, views, fin, lent, isO, setTg, setAll, setCA, kd, wipes, unwipe, frz, truth, isNone, callF, lend, slots, back, isLent, List.map_cons, List.map_nil, List.length_cons, List.length_nil, List.cons_append, List.nil_append, List.replicate, Nat.reduceAdd, Nat.reduceSub, List.getElem?_cons_zero, List.getElem?_cons_succ, List.set_cons_zero, List.set_cons_succ, List.getD_cons_zero, List.getD_cons_succ, if_true, if_false, reduceIte, Option.map_some, Option.map_none, List.filterMap_nil, List.filterMap_cons, List.nodup_nil, id_eq, Bool.false_eq_true, nodup1, Wk_Γ, Wk_C, o_add, o_sub, o_eq, o_ne, o_lt, o_le, o_gt, o_ge, o_isN, o_isnN, o_lenL, o_lenT, o_atL, o_atT, o_sqL, o_sqT, o_tupL, o_listL, o_listT, o_int, o_eqT, o_neT, o_inT, o_ninT, o_sqTx, o_Tx0, h3, ed0, ed1, ed2]
    exact close (by omega) (by omega) (by omega) ep'
  | false =>
  simp only [RCa, optR, optV, optB, view, views, fin, lent, isO, setTg, setAll, setCA, kd, wipes, unwipe, frz, truth, isNone, callF, lend, slots, back, isLent, List.map_cons, List.map_nil, List.length_cons, List.length_nil, List.cons_append, List.nil_append, List.replicate, Nat.reduceAdd, Nat.reduceSub, List.getElem?_cons_zero, List.getElem?_cons_succ, List.set_cons_zero, List.set_cons_succ, List.getD_cons_zero, List.getD_cons_succ, if_true, if_false, reduceIte, Option.map_some, Option.map_none, List.filterMap_nil, List.filterMap_cons, List.nodup_nil, id_eq, Bool.false_eq_true, nodup1, Wk_Γ, Wk_C, o_add, o_sub, o_eq, o_ne, o_lt, o_le, o_gt, o_ge, o_isN, o_isnN, o_lenL, o_lenT, o_atL, o_atT, o_sqL, o_sqT, o_tupL, o_listL, o_listT, o_int, o_eqT, o_neT, o_inT, o_ninT, o_sqTx, o_Tx0, h3]
  cases h4 : decide (w = 4) with
  | true =>
    simp only [RCa, optR, optV, optB, view, views, fin, lent, isO, setTg, setAll, setCA, kd, wipes, unwipe, frz, truth, isNone, callF, lend, slots, back, isLent, List.map_cons, List.map_nil, List.length_cons, List.length_nil, List.cons_append, List.nil_append, List.replicate, Nat.reduceAdd, Nat.reduceSub, List.getElem?_cons_zero, List.getElem?_cons_succ, List.set_cons_zero, List.set_cons_succ, List.getD_cons_zero, List.getD_cons_succ, if_true, if_false, reduceIte, Option.map_some, Option.map_none, List.filterMap_nil, List.filterMap_cons, List.nodup_nil, id_eq, Bool.false_eq_true, nodup1, Wk_Γ, Wk_C, o_add, o_sub, o_eq, o_ne, o_lt, o_le, o_gt, o_ge, o_isN, o_isnN, o_lenL, o_lenT, o_atL, o_atT, o_sqL, o_sqT, o_tupL, o_listL, o_listT, o_int, o_eqT, o_neT, o_inT, o_ninT, o_sqTx, o_Tx0, h4, ed0, ed1, ed2]
    exact close (by omega) (by omega) (by omega) ep'
  | false =>
  simp only [RCa, optR, optV, optB, view, views, fin, lent, isO, setTg, setAll, setCA, kd, wipes, unwipe, frz, truth, isNone, callF, lend, slots, back, isLent, List.map_cons, List.map_nil, List.length_cons, List.length_nil, List.cons_append, List.nil_append, List.replicate, Nat.reduceAdd, Nat.reduceSub, List.getElem?_cons_zero, List.getElem?_cons_succ, List.set_cons_zero, List.set_cons_succ, List.getD_cons_zero, List.getD_cons_succ, if_true, if_false, reduceIte, Option.map_some, Option.map_none, List.filterMap_nil, List.filterMap_cons, List.nodup_nil, id_eq, Bool.false_eq_true, nodup1, Wk_Γ, Wk_C, o_add, o_sub, o_eq, o_ne, o_lt, o_le, o_gt, o_ge, o_isN, o_isnN, o_lenL, o_lenT, o_atL, o_atT, o_sqL, o_sqT, o_tupL, o_listL, o_listT, o_int, o_eqT, o_neT, o_inT, o_ninT, o_sqTx, o_Tx0, h4]
  have k5 : ∀ b, decide (w = 5) = b → ∀ c, decide ((1 : Int) < (one.o : Int)) = c → (b && c) = false ∨ (1 : Int) < (one.o : Int) := fun b _ c hc => by
    cases c with
    | false => exact .inl (Bool.and_false b)
    | true => exact .inr (of_decide_eq_true hc)
  cases h5 : decide (w = 5) with
  | true =>
    cases h5' : decide ((1 : Int) < (one.o : Int)) with
    | true =>
      have z := of_decide_eq_true h5'
      have q1 := tk_lt p1 (m := (one.o : Int) - 1) (by omega)
      have q2 := tk_nn p1 ((one.o : Int) - 1)
      simp only [RCa, optR, optV, optB, view, views, fin, lent, isO, setTg, setAll, setCA, kd, wipes, unwipe, frz, truth, isNone, callF, lend, slots, back, isLent, List.map_cons, List.map_nil, List.length_cons, List.length_nil, List.cons_append, List.nil_append, List.replicate, Nat.reduceAdd, Nat.reduceSub, List.getElem?_cons_zero, List.getElem?_cons_succ, List.set_cons_zero, List.set_cons_succ, List.getD_cons_zero, List.getD_cons_succ, if_true, if_false, reduceIte, Option.map_some, Option.map_none, List.filterMap_nil, List.filterMap_cons, List.nodup_nil, id_eq, Bool.false_eq_true, nodup1, Wk_Γ, Wk_C, o_add, o_sub, o_eq, o_ne, o_lt, o_le, o_gt, o_ge, o_isN, o_isnN, o_lenL, o_lenT, o_atL, o_atT, o_sqL, o_sqT, o_tupL, o_listL, o_listT, o_int, o_eqT, o_neT, o_inT, o_ninT, o_sqTx, o_Tx0, h5, h5', ed0, ed1, ed2, T.l, T.g]
      exact close (by omega) (by omega) (by omega) ep'
    | false =>
      have h6 : decide (w = 6) = false := decide_eq_false (by have := of_decide_eq_true h5; omega)
      have h7 : decide (w = 7) = false := decide_eq_false (by have := of_decide_eq_true h5; omega)
      have h8 : decide (w = 8) = false := decide_eq_false (by have := of_decide_eq_true h5; omega)
      simp only [RCa, optR, optV, optB, view, views, fin, lent, isO, setTg, setAll, setCA, kd, wipes, unwipe, frz, truth, isNone, callF, lend, slots, back, isLent, List.map_cons, List.map_nil, List.length_cons, List.length_nil, List.cons_append, List.nil_append, List.replicate, Nat.reduceAdd, Nat.reduceSub, List.getElem?_cons_zero, List.getElem?_cons_succ, List.set_cons_zero, List.set_cons_succ, List.getD_cons_zero, List.getD_cons_succ, if_true, if_false, reduceIte, Option.map_some, Option.map_none, List.filterMap_nil, List.filterMap_cons, List.nodup_nil, id_eq, Bool.false_eq_true, nodup1, Wk_Γ, Wk_C, o_add, o_sub, o_eq, o_ne, o_lt, o_le, o_gt, o_ge, o_isN, o_isnN, o_lenL, o_lenT, o_atL, o_atT, o_sqL, o_sqT, o_tupL, o_listL, o_listT, o_int, o_eqT, o_neT, o_inT, o_ninT, o_sqTx, o_Tx0, h5, h5', h6, h7, h8, ed0, ed1, ed2]
      exact close (by omega) (by omega) (by omega) ep'
  | false =>
  simp only [RCa, optR, optV, optB, view, views, fin, lent, isO, setTg, setAll, setCA, kd, wipes, unwipe, frz, truth, isNone, callF, lend, slots, back, isLent, List.map_cons, List.map_nil, List.length_cons, List.length_nil, List.cons_append, List.nil_append, List.replicate, Nat.reduceAdd, Nat.reduceSub, List.getElem?_cons_zero, List.getElem?_cons_succ, List.set_cons_zero, List.set_cons_succ, List.getD_cons_zero, List.getD_cons_succ, if_true, if_false, reduceIte, Option.map_some, Option.map_none, List.filterMap_nil, List.filterMap_cons, List.nodup_nil, id_eq, Bool.false_eq_true, nodup1, Wk_Γ, Wk_C, o_add, o_sub, o_eq, o_ne, o_lt, o_le, o_gt, o_ge, o_isN, o_isnN, o_lenL, o_lenT, o_atL, o_atT, o_sqL, o_sqT, o_tupL, o_listL, o_listT, o_int, o_eqT, o_neT, o_inT, o_ninT, o_sqTx, o_Tx0, h5]
  cases h6 : decide (w = 6) with
  | true =>
    cases h6' : decide ((0 : Int) < (one.o : Int)) with
    | true =>
      have z := of_decide_eq_true h6'
      simp only [RCa, optR, optV, optB, view, views, fin, lent, isO, setTg, setAll, setCA, kd, wipes, unwipe, frz, truth, isNone, callF, lend, slots, back, isLent, List.map_cons, List.map_nil, List.length_cons, List.length_nil, List.cons_append, List.nil_append, List.replicate, Nat.reduceAdd, Nat.reduceSub, List.getElem?_cons_zero, List.getElem?_cons_succ, List.set_cons_zero, List.set_cons_succ, List.getD_cons_zero, List.getD_cons_succ, if_true, if_false, reduceIte, Option.map_some, Option.map_none, List.filterMap_nil, List.filterMap_cons, List.nodup_nil, id_eq, Bool.false_eq_true, nodup1, Wk_Γ, Wk_C, o_add, o_sub, o_eq, o_ne, o_lt, o_le, o_gt, o_ge, o_isN, o_isnN, o_lenL, o_lenT, o_atL, o_atT, o_sqL, o_sqT, o_tupL, o_listL, o_listT, o_int, o_eqT, o_neT, o_inT, o_ninT, o_sqTx, o_Tx0, h6, h6', ed0, ed1, ed2, o_min2]
      exact close (by omega) (by omega) (by omega) ep'
    | false =>
      have h7 : decide (w = 7) = false := decide_eq_false (by have := of_decide_eq_true h6; omega)
      have h8 : decide (w = 8) = false := decide_eq_false (by have := of_decide_eq_true h6; omega)
      simp only [RCa, optR, optV, optB, view, views, fin, lent, isO, setTg, setAll, setCA, kd, wipes, unwipe, frz, truth, isNone, callF, lend, slots, back, isLent, List.map_cons, List.map_nil, List.length_cons, List.length_nil, List.cons_append, List.nil_append, List.replicate, Nat.reduceAdd, Nat.reduceSub, List.getElem?_cons_zero, List.getElem?_cons_succ, List.set_cons_zero, List.set_cons_succ, List.getD_cons_zero, List.getD_cons_succ, if_true, if_false, reduceIte, Option.map_some, Option.map_none, List.filterMap_nil, List.filterMap_cons, List.nodup_nil, id_eq, Bool.false_eq_true, nodup1, Wk_Γ, Wk_C, o_add, o_sub, o_eq, o_ne, o_lt, o_le, o_gt, o_ge, o_isN, o_isnN, o_lenL, o_lenT, o_atL, o_atT, o_sqL, o_sqT, o_tupL, o_listL, o_listT, o_int, o_eqT, o_neT, o_inT, o_ninT, o_sqTx, o_Tx0, h6, h6', h7, h8, ed0, ed1, ed2]
      exact close (by omega) (by omega) (by omega) ep'
  | false =>
  simp only [RCa, optR, optV, optB, view, views, fin, lent, isO, setTg, setAll, setCA, kd, wipes, unwipe, frz, truth, isNone, callF, lend, slots, back, isLent, List.map_cons, List.map_nil, List.length_cons, List.length_nil, List.cons_append, List.nil_append, List.replicate, Nat.reduceAdd, Nat.reduceSub, List.getElem?_cons_zero, List.getElem?_cons_succ, List.set_cons_zero, List.set_cons_succ, List.getD_cons_zero, List.getD_cons_succ, if_true, if_false, reduceIte, Option.map_some, Option.map_none, List.filterMap_nil, List.filterMap_cons, List.nodup_nil, id_eq, Bool.false_eq_true, nodup1, Wk_Γ, Wk_C, o_add, o_sub, o_eq, o_ne, o_lt, o_le, o_gt, o_ge, o_isN, o_isnN, o_lenL, o_lenT, o_atL, o_atT, o_sqL, o_sqT, o_tupL, o_listL, o_listT, o_int, o_eqT, o_neT, o_inT, o_ninT, o_sqTx, o_Tx0, h6]
  cases h7 : decide (w = 7) with
  | true =>
    cases h7' : decide ((0 : Int) < (one.o : Int)) with
    | true =>
      have z := of_decide_eq_true h7'
      simp only [RCa, optR, optV, optB, view, views, fin, lent, isO, setTg, setAll, setCA, kd, wipes, unwipe, frz, truth, isNone, callF, lend, slots, back, isLent, List.map_cons, List.map_nil, List.length_cons, List.length_nil, List.cons_append, List.nil_append, List.replicate, Nat.reduceAdd, Nat.reduceSub, List.getElem?_cons_zero, List.getElem?_cons_succ, List.set_cons_zero, List.set_cons_succ, List.getD_cons_zero, List.getD_cons_succ, if_true, if_false, reduceIte, Option.map_some, Option.map_none, List.filterMap_nil, List.filterMap_cons, List.nodup_nil, id_eq, Bool.false_eq_true, nodup1, Wk_Γ, Wk_C, o_add, o_sub, o_eq, o_ne, o_lt, o_le, o_gt, o_ge, o_isN, o_isnN, o_lenL, o_lenT, o_atL, o_atT, o_sqL, o_sqT, o_tupL, o_listL, o_listT, o_int, o_eqT, o_neT, o_inT, o_ninT, o_sqTx, o_Tx0, h7, h7', ed0, ed1, ed2]
      exact close (by omega) (by omega) (by omega) ep'
    | false =>
      have h8 : decide (w = 8) = false := decide_eq_false (by have := of_decide_eq_true h7; omega)
      simp only [RCa, optR, optV, optB, view, views, fin, lent, isO, setTg, setAll, setCA, kd, wipes, unwipe, frz, truth, isNone, callF, lend, slots, back, isLent, List.map_cons, List.map_nil, List.length_cons, List.length_nil, List.cons_append, List.nil_append, List.replicate, Nat.reduceAdd, Nat.reduceSub, List.getElem?_cons_zero, List.getElem?_cons_succ, List.set_cons_zero, List.set_cons_succ, List.getD_cons_zero, List.getD_cons_succ, if_true, if_false, reduceIte, Option.map_some, Option.map_none, List.filterMap_nil, List.filterMap_cons, List.nodup_nil, id_eq, Bool.false_eq_true, nodup1, Wk_Γ, Wk_C, o_add, o_sub, o_eq, o_ne, o_lt, o_le, o_gt, o_ge, o_isN, o_isnN, o_lenL, o_lenT, o_atL, o_atT, o_sqL, o_sqT, o_tupL, o_listL, o_listT, o_int, o_eqT, o_neT, o_inT, o_ninT, o_sqTx, o_Tx0, h7, h7', h8, ed0, ed1, ed2]
      exact close (by omega) (by omega) (by omega) ep'
  | false =>
  simp only [RCa, optR, optV, optB, view, views, fin, lent, isO, setTg, setAll, setCA, kd, wipes, unwipe, frz, truth, isNone, callF, lend, slots, back, isLent, List.map_cons, List.map_nil, List.length_cons, List.length_nil, List.cons_append, List.nil_append, List.replicate, Nat.reduceAdd, Nat.reduceSub, List.getElem?_cons_zero, List.getElem?_cons_succ, List.set_cons_zero, List.set_cons_succ, List.getD_cons_zero, List.getD_cons_succ, if_true, if_false, reduceIte, Option.map_some, Option.map_none, List.filterMap_nil, List.filterMap_cons, List.nodup_nil, id_eq, Bool.false_eq_true, nodup1, Wk_Γ, Wk_C, o_add, o_sub, o_eq, o_ne, o_lt, o_le, o_gt, o_ge, o_isN, o_isnN, o_lenL, o_lenT, o_atL, o_atT, o_sqL, o_sqT, o_tupL, o_listL, o_listT, o_int, o_eqT, o_neT, o_inT, o_ninT, o_sqTx, o_Tx0, h7]
  cases h8 : decide (w = 8) with
  | true =>
    simp only [RCa, optR, optV, optB, view, views, fin, lent, isO, setTg, setAll, setCA, kd, wipes, unwipe, frz, truth, isNone, callF, lend, slots, back, isLent, List.map_cons, List.map_nil, List.length_cons, List.length_nil, List.cons_append, List.nil_append, List.replicate, Nat.reduceAdd, Nat.reduceSub, List.getElem?_cons_zero, List.getElem?_cons_succ, List.set_cons_zero, List.set_cons_succ, List.getD_cons_zero, List.getD_cons_succ, if_true, if_false, reduceIte, Option.map_some, Option.map_none, List.filterMap_nil, List.filterMap_cons, List.nodup_nil, id_eq, Bool.false_eq_true, nodup1, Wk_Γ, Wk_C, o_add, o_sub, o_eq, o_ne, o_lt, o_le, o_gt, o_ge, o_isN, o_isnN, o_lenL, o_lenT, o_atL, o_atT, o_sqL, o_sqT, o_tupL, o_listL, o_listT, o_int, o_eqT, o_neT, o_inT, o_ninT, o_sqTx, o_Tx0, h8]
    exact close (by omega) (by omega) (by omega) ho
  | false =>
    simp only [RCa, optR, optV, optB, view, views, fin, lent, isO, setTg, setAll, setCA, kd, wipes, unwipe, frz, truth, isNone, callF, lend, slots, back, isLent, List.map_cons, List.map_nil, List.length_cons, List.length_nil, List.cons_append, List.nil_append, List.replicate, Nat.reduceAdd, Nat.reduceSub, List.getElem?_cons_zero, List.getElem?_cons_succ, List.set_cons_zero, List.set_cons_succ, List.getD_cons_zero, List.getD_cons_succ, if_true, if_false, reduceIte, Option.map_some, Option.map_none, List.filterMap_nil, List.filterMap_cons, List.nodup_nil, id_eq, Bool.false_eq_true, nodup1, Wk_Γ, Wk_C, o_add, o_sub, o_eq, o_ne, o_lt, o_le, o_gt, o_ge, o_isN, o_isnN, o_lenL, o_lenT, o_atL, o_atT, o_sqL, o_sqT, o_tupL, o_listL, o_listT, o_int, o_eqT, o_neT, o_inT, o_ninT, o_sqTx, o_Tx0, h8]
    exact close (by omega) (by omega) (by omega) ep'
/-- a drawn edit -/
def Okd (t : List Nat) (e : Ed) : Prop := e.fit t.length ∧ e.p.length ≤ 60
def prD (x : Ed × Ed) : PyData := .tuple [x.1.D, x.2.D]
theorem slc1 (xs : List PyData) : slcOp (.list xs) none (some 1) = some (.o (.lst (xs.take 1))) := by
  show some (R.o (.lst (cut xs none (some ((1 : Nat) : Int))))) = _
  rw [cut_to]
def lapB : Sts := (.cons (.asg (.nm 6) (.call 74 (.cons (.var 1) (.cons (.var 3) (.cons (.var 2) (.cons (.sub (.lst (.cons (.int 2) (.cons (.int 4) (.cons (.int 4) (.cons (.int 60) .nil))))) (.call 2 (.cons (.var 1) (.cons (.int 4) .nil)))) .nil))))))
        (.cons (.ife (.val (.cmp .Eq (.call 2 (.cons (.var 1) (.cons (.int 3) .nil))) (.int 0))) (.cons (.asg (.nm 6) (.tup (.cons (.sub (.var 6) (.int 0)) (.cons (.int 0) (.cons (.sub (.var 6) (.int 2)) .nil)))))
            .nil) .nil)
        (.cons (.asg (.nm 7) (.call 77 (.cons (.var 1) (.cons (.var 3) (.cons (.var 2) (.cons (.var 6) .nil))))))
        (.cons (.exp (.mu .append 4 (.cons (.ite (.val (.cmp .Eq (.call 2 (.cons (.var 1) (.cons (.int 2) .nil))) (.int 0))) (.tup (.cons (.var 6) (.cons (.var 7) .nil))) (.tup (.cons (.var 7) (.cons (.var 6) .nil)))) .nil)))
        .nil))))
theorem laps_run (T : Tk W) (sc : Sl) (l74 : W.lm 74 = [true, false, false, false]) (l77 : W.lm 77 = [true, false, false, false]) (t l : List Nat) (ht : t.length ≤ 400) (p2 : List Int)
    (g74 : ∀ p (most : Nat), most ≤ 60 → ∃ (e : Ed) (p' : List Int), W.Γ 74 [.o (.lst (iL p)), .v (Tx t), .v (Tx l), .v (.int most)] = .v e.D [.lst (iL p')] ∧ e.fit t.length ∧ e.p.length ≤ most)
    (g77 : ∀ p (e : Ed), Okd t e → ∃ (f : Ed) (p' : List Int), W.Γ 77 [.o (.lst (iL p)), .v (Tx t), .v (Tx l), .v e.D] = .v f.D [.lst (iL p')] ∧ Okd t f) :
    ∃ (p8 : List Int) (b5 b6 b7 : Sl) (ps : List (Ed × Ed)), forL (turnF fuel W (.nm 5) lapB) (rng1L 8) [sc, .o (.lst (iL p2)), .v (Tx l), .v (Tx t), .o (.lst []), .un, .un, .un] = .nx [sc, .o (.lst (iL p8)), .v (Tx l), .v (Tx t), .o (.lst (ps.map prD)), b5, b6, b7] ∧ ps.length = 8 ∧ ∀ x ∈ ps, Okd t x.1 ∧ Okd t x.2 := by
  have at4 : ∀ p : List Int, ∃ m : Nat, m ≤ 60 ∧ L2.atI [PyData.int 2, .int 4, .int 4, .int 60] (tkR p 4) = some (.int m) := fun p => by
    have a1 := tk_lt p (m := 4) (by decide)
    have a2 := tk_nn p 4
    rcases (show tkR p 4 = 0 ∨ tkR p 4 = 1 ∨ tkR p 4 = 2 ∨ tkR p 4 = 3 by omega) with h | h | h | h <;> rw [h]
    · exact ⟨2, by decide, rfl⟩
    · exact ⟨4, by decide, rfl⟩
    · exact ⟨4, by decide, rfl⟩
    · exact ⟨60, by decide, rfl⟩
  generalize hq : forL _ _ _ = o
  obtain ⟨ρ', rfl, p8, b5, b6, b7, ps, rfl, hl, hp⟩ := forL_ok hq (fun i ρ => ∃ (p8 : List Int) (b5 b6 b7 : Sl) (ps : List (Ed × Ed)), ρ = [sc, .o (.lst (iL p8)), .v (Tx l), .v (Tx t), .o (.lst (ps.map prD)), b5, b6, b7] ∧ ps.length = i ∧ ∀ x ∈ ps, Okd t x.1 ∧ Okd t x.2) (by
    rintro i d ρ hd ⟨p, b5, b6, b7, ps, rfl, hl, hp⟩
    obtain ⟨rfl, hi⟩ := rng1L_get hd
    have hi : i < 8 := hi
    obtain ⟨m, hm, ea⟩ := at4 p
    obtain ⟨e, p3, ge, fe, le⟩ := g74 (tkP p 4) m hm
    have ap : ∀ x : PyData, muOp .append (ps.map prD) [x] = some (.none, ps.map prD ++ [x]) := fun x => o_app (by rw [List.length_map]; omega)
    have fin_ : ∀ e1 : Ed, Okd t e1 → ∀ b : Bool, ∀ (f : Ed), Okd t f → ps.map prD ++ [if b then .tuple [e1.D, f.D] else .tuple [f.D, e1.D]] = (ps ++ [if b then (e1, f) else (f, e1)]).map prD ∧ (ps ++ [if b then (e1, f) else (f, e1)]).length = i + 1 ∧ ∀ x ∈ ps ++ [if b then (e1, f) else (f, e1)], Okd t x.1 ∧ Okd t x.2 := fun e1 h1 b f h2 => by
      refine ⟨?_, by rw [List.length_append, hl]; rfl, fun x hx => ?_⟩
      · rw [List.map_append]
        cases b <;> rfl
      · rcases List.mem_append.mp hx with hx | hx
        · exact hp x hx
        · rw [List.mem_singleton.mp hx]
          cases b
          · exact ⟨h2, h1⟩
          · exact ⟨h1, h2⟩
    have oke : Okd t e := ⟨fe, by omega⟩
    cases h3 : decide (tkR p3 3 = 0) with
    | false =>
      obtain ⟨f, p5, gf, okf⟩ := g77 (tkP p3 3) e oke
      obtain ⟨k1, k2, k3⟩ := fin_ e oke (decide (tkR p5 2 = 0)) f okf
      refine ⟨[sc, .o (.lst (iL (tkP p5 2))), .v (Tx l), .v (Tx t), .o (.lst ((ps ++ [if decide (tkR p5 2 = 0) then (e, f) else (f, e)]).map prD)), .v (.int (i : Nat)), .v e.D, .v f.D], .inl ?_, _, _, _, _, _, rfl, k2, k3⟩
      rw [← k1]
      unfold lapB
      cases h2 : decide (tkR p5 2 = 0) with
      | true => simp only [turnF_ap, RCa, optR, optV, optB, view, views, fin, lent, isO, setTg, setAll, setCA, kd, wipes, unwipe, frz, truth, isNone, callF, lend, slots, back, isLent, List.map_cons, List.map_nil, List.length_cons, List.length_nil, List.cons_append, List.nil_append, List.replicate, Nat.reduceAdd, Nat.reduceSub, List.getElem?_cons_zero, List.getElem?_cons_succ, List.set_cons_zero, List.set_cons_succ, List.getD_cons_zero, List.getD_cons_succ, if_true, if_false, reduceIte, Option.map_some, Option.map_none, List.filterMap_nil, List.filterMap_cons, List.nodup_nil, id_eq, Bool.false_eq_true, nodup1, Wk_Γ, Wk_C, o_add, o_sub, o_eq, o_ne, o_lt, o_le, o_gt, o_ge, o_isN, o_isnN, o_lenL, o_lenT, o_atL, o_atT, o_sqL, o_sqT, o_tupL, o_listL, o_listT, o_int, o_eqT, o_neT, o_inT, o_ninT, o_sqTx, o_Tx0, T.l, T.g, l74, ea, ge, h3, l77, gf, h2, ap]
      | false => simp only [turnF_ap, RCa, optR, optV, optB, view, views, fin, lent, isO, setTg, setAll, setCA, kd, wipes, unwipe, frz, truth, isNone, callF, lend, slots, back, isLent, List.map_cons, List.map_nil, List.length_cons, List.length_nil, List.cons_append, List.nil_append, List.replicate, Nat.reduceAdd, Nat.reduceSub, List.getElem?_cons_zero, List.getElem?_cons_succ, List.set_cons_zero, List.set_cons_succ, List.getD_cons_zero, List.getD_cons_succ, if_true, if_false, reduceIte, Option.map_some, Option.map_none, List.filterMap_nil, List.filterMap_cons, List.nodup_nil, id_eq, Bool.false_eq_true, nodup1, Wk_Γ, Wk_C, o_add, o_sub, o_eq, o_ne, o_lt, o_le, o_gt, o_ge, o_isN, o_isnN, o_lenL, o_lenT, o_atL, o_atT, o_sqL, o_sqT, o_tupL, o_listL, o_listT, o_int, o_eqT, o_neT, o_inT, o_ninT, o_sqTx, o_Tx0, T.l, T.g, l74, ea, ge, h3, l77, gf, h2, ap]
    | true =>
      have ok0 : Okd t ⟨e.a, 0, e.p⟩ := ⟨by unfold Ed.fit at fe ⊢; dsimp only; omega, by dsimp only; omega⟩
      obtain ⟨f, p5, gf, okf⟩ := g77 (tkP p3 3) ⟨e.a, 0, e.p⟩ ok0
      obtain ⟨k1, k2, k3⟩ := fin_ ⟨e.a, 0, e.p⟩ ok0 (decide (tkR p5 2 = 0)) f okf
      refine ⟨[sc, .o (.lst (iL (tkP p5 2))), .v (Tx l), .v (Tx t), .o (.lst ((ps ++ [if decide (tkR p5 2 = 0) then (⟨e.a, 0, e.p⟩, f) else (f, ⟨e.a, 0, e.p⟩)]).map prD)), .v (.int (i : Nat)), .v (Ed.D ⟨e.a, 0, e.p⟩), .v f.D], .inl ?_, _, _, _, _, _, rfl, k2, k3⟩
      rw [← k1]
      unfold lapB
      have z0 : (((0 : Nat) : Int)) = 0 := rfl
      have ed : (Ed.D ⟨e.a, 0, e.p⟩) = .tuple [.int e.a, .int 0, Tx e.p] := rfl
      rw [ed] at gf ⊢
      unfold Ed.D at ge
      cases h2 : decide (tkR p5 2 = 0) with
      | true => simp only [turnF_ap, RCa, optR, optV, optB, view, views, fin, lent, isO, setTg, setAll, setCA, kd, wipes, unwipe, frz, truth, isNone, callF, lend, slots, back, isLent, List.map_cons, List.map_nil, List.length_cons, List.length_nil, List.cons_append, List.nil_append, List.replicate, Nat.reduceAdd, Nat.reduceSub, List.getElem?_cons_zero, List.getElem?_cons_succ, List.set_cons_zero, List.set_cons_succ, List.getD_cons_zero, List.getD_cons_succ, if_true, if_false, reduceIte, Option.map_some, Option.map_none, List.filterMap_nil, List.filterMap_cons, List.nodup_nil, id_eq, Bool.false_eq_true, nodup1, Wk_Γ, Wk_C, o_add, o_sub, o_eq, o_ne, o_lt, o_le, o_gt, o_ge, o_isN, o_isnN, o_lenL, o_lenT, o_atL, o_atT, o_sqL, o_sqT, o_tupL, o_listL, o_listT, o_int, o_eqT, o_neT, o_inT, o_ninT, o_sqTx, o_Tx0, T.l, T.g, l74, ea, ge, h3, ed0, ed2, l77, gf, h2, ap]
      | false => simp only [turnF_ap, RCa, optR, optV, optB, view, views, fin, lent, isO, setTg, setAll, setCA, kd, wipes, unwipe, frz, truth, isNone, callF, lend, slots, back, isLent, List.map_cons, List.map_nil, List.length_cons, List.length_nil, List.cons_append, List.nil_append, List.replicate, Nat.reduceAdd, Nat.reduceSub, List.getElem?_cons_zero, List.getElem?_cons_succ, List.set_cons_zero, List.set_cons_succ, List.getD_cons_zero, List.getD_cons_succ, if_true, if_false, reduceIte, Option.map_some, Option.map_none, List.filterMap_nil, List.filterMap_cons, List.nodup_nil, id_eq, Bool.false_eq_true, nodup1, Wk_Γ, Wk_C, o_add, o_sub, o_eq, o_ne, o_lt, o_le, o_gt, o_ge, o_isN, o_isnN, o_lenL, o_lenT, o_atL, o_atT, o_sqL, o_sqT, o_tupL, o_listL, o_listT, o_int, o_eqT, o_neT, o_inT, o_ninT, o_sqTx, o_Tx0, T.l, T.g, l74, ea, ge, h3, ed0, ed2, l77, gf, h2, ap]) ⟨p2, _, _, _, [], rfl, rfl, fun x h => by cases h⟩
  rw [rng1L_len] at hl
  exact ⟨p8, b5, b6, b7, ps, rfl, hl, hp⟩
theorem law_run (T : Tk W) (ns : List Int) (l1 : W.lm 1 = [false, false, false]) (l3 : W.lm 3 = [true, false]) (l26 : W.lm 26 = [true, false, false]) (l74 : W.lm 74 = [true, false, false, false]) (l77 : W.lm 77 = [true, false, false, false]) (l82 : W.lm 82 = [false, false, false])
    (g1 : ∃ q, W.Γ 1 [.v (.list (iL ns)), .v (.int 0), .v (.int 1300)] = .o (.lst (iL q)) [])
    (g3 : ∀ p z, 1 ≤ z → z ≤ 8 → ∃ s p', W.Γ 3 [.o (.lst (iL p)), .v (.int z)] = .v (Tx s) [.lst (iL p')] ∧ s ≠ [] ∧ s.length ≤ 90)
    (g26 : ∀ (l : List Nat) p (most : Nat), l ≠ [] → l.length ≤ 90 → most < 1000 → ∃ s p', W.Γ 26 [.o (.lst (iL p)), .v (Tx l), .v (.int most)] = .v (Tx s) [.lst (iL p')] ∧ s.length ≤ most)
    (g74 : ∀ (t l : List Nat) p (most : Nat), l ≠ [] → l.length ≤ 90 → t.length ≤ 400 → most ≤ 60 → ∃ (e : Ed) (p' : List Int), W.Γ 74 [.o (.lst (iL p)), .v (Tx t), .v (Tx l), .v (.int most)] = .v e.D [.lst (iL p')] ∧ e.fit t.length ∧ e.p.length ≤ most)
    (g77 : ∀ (t l : List Nat) p (e : Ed), l ≠ [] → l.length ≤ 90 → t.length ≤ 400 → Okd t e → ∃ (f : Ed) (p' : List Int), W.Γ 77 [.o (.lst (iL p)), .v (Tx t), .v (Tx l), .v e.D] = .v f.D [.lst (iL p')] ∧ Okd t f)
    (g82 : ∀ (t : List Nat) (e f : Ed), t.length ≤ 400 → Okd t e → Okd t f → W.Γ 82 [.v (Tx t), .v e.D, .v f.D] = .v (.bool true) []) :
    runFn fuel W f_law [.v (.list (iL ns))] = .v (.bool true) [] := by
  obtain ⟨p, e1⟩ := g1
  have q1 := tk_lt p (m := 8) (by decide)
  have q2 := tk_nn p 8
  obtain ⟨l, p1, e3, n3, m3⟩ := g3 (tkP p 8) (1 + tkR p 8) (by omega) (by omega)
  have hti : ∃ t p2, t.length ≤ 400 ∧ W.Γ 26 [.o (.lst (iL (tkP p1 4))), .v (Tx l), .v (.int (if decide (tkR p1 4 = 1) then 400 else 12))] = .v (Tx t) [.lst (iL p2)] := by
    cases decide (tkR p1 4 = 1) with
    | true =>
      obtain ⟨t, p2, h1, h2⟩ := g26 l (tkP p1 4) 400 n3 m3 (by decide)
      exact ⟨t, p2, h2, h1⟩
    | false =>
      obtain ⟨t, p2, h1, h2⟩ := g26 l (tkP p1 4) 12 n3 m3 (by decide)
      exact ⟨t, p2, by omega, h1⟩
  obtain ⟨t, p2, ht, e26⟩ := hti
  have s8 : small62 8 = true := by decide
  have at4 : ∀ p : List Int, ∃ m : Nat, m ≤ 60 ∧ L2.atI [PyData.int 2, .int 4, .int 4, .int 60] (tkR p 4) = some (.int m) := fun p => by
    have a1 := tk_lt p (m := 4) (by decide)
    have a2 := tk_nn p 4
    rcases (show tkR p 4 = 0 ∨ tkR p 4 = 1 ∨ tkR p 4 = 2 ∨ tkR p 4 = 3 by omega) with h | h | h | h <;> rw [h]
    · exact ⟨2, by decide, rfl⟩
    · exact ⟨4, by decide, rfl⟩
    · exact ⟨4, by decide, rfl⟩
    · exact ⟨60, by decide, rfl⟩
  have key : ∀ o : SO, (∃ (p8 : List Int) (b5 b6 b7 : Sl) (ps : List (Ed × Ed)), o = .nx [.v (.list (iL ns)), .o (.lst (iL p8)), .v (Tx l), .v (Tx t), .o (.lst (ps.map prD)), b5, b6, b7] ∧ ps.length = 8 ∧ ∀ x ∈ ps, Okd t x.1 ∧ Okd t x.2) →
      SO.fo [false] (o.seq (exs fuel W (bodyOf 5 f_law.body))) = .v (.bool true) [] := by
    rintro o ⟨p8, b5, b6, b7, ps, rfl, hl, hp⟩
    have ca : binOp .Add (.list (ps.map prD)) (.list ((ps.map prD).take 1)) = some (.o (.lst ((ps ++ ps.take 1).map prD))) := by
      rw [o_catL (by rw [List.length_take, List.length_map]; omega), List.map_append, List.map_take]
    unfold f_law
    simp only [bodyOf, RCa, optR, optV, optB, view, views, fin, lent, isO, setTg, setAll, setCA, kd, wipes, unwipe, frz, truth, isNone, callF, lend, slots, back, isLent, List.map_cons, List.map_nil, List.length_cons, List.length_nil, List.cons_append, List.nil_append, List.replicate, Nat.reduceAdd, Nat.reduceSub, List.getElem?_cons_zero, List.getElem?_cons_succ, List.set_cons_zero, List.set_cons_succ, List.getD_cons_zero, List.getD_cons_succ, if_true, if_false, reduceIte, Option.map_some, Option.map_none, List.filterMap_nil, List.filterMap_cons, List.nodup_nil, id_eq, Bool.false_eq_true, nodup1, Wk_Γ, Wk_C, o_add, o_sub, o_eq, o_ne, o_lt, o_le, o_gt, o_ge, o_isN, o_isnN, o_lenL, o_lenT, o_atL, o_atT, o_sqL, o_sqT, o_tupL, o_listL, o_listT, o_int, o_eqT, o_neT, o_inT, o_ninT, o_sqTx, o_Tx0, slc1, ca]
    generalize hq : forL _ _ _ = o
    obtain ⟨ρ', rfl, b6, b7, rfl⟩ := forL_ok hq (fun i ρ => ∃ b6 b7 : Sl, ρ = [.v (.list (iL ns)), .o (.lst (iL p8)), .v (Tx l), .v (Tx t), .o (.lst (ps.map prD)), b5, b6, b7]) (by
      rintro i d ρ hd ⟨b6, b7, rfl⟩
      rw [List.getElem?_map] at hd
      obtain ⟨x, hx, rfl⟩ := Option.map_eq_some_iff.mp hd
      have hx := List.mem_of_getElem? hx
      have ok : Okd t x.1 ∧ Okd t x.2 := by
        rcases List.mem_append.mp hx with hx | hx
        · exact hp x hx
        · exact hp x (List.mem_of_mem_take hx)
      have g := g82 t x.1 x.2 ht ok.1 ok.2
      unfold prD
      simp only [turnF_ap, RCa, optR, optV, optB, view, views, fin, lent, isO, setTg, setAll, setCA, kd, wipes, unwipe, frz, truth, isNone, callF, lend, slots, back, isLent, List.map_cons, List.map_nil, List.length_cons, List.length_nil, List.cons_append, List.nil_append, List.replicate, Nat.reduceAdd, Nat.reduceSub, List.getElem?_cons_zero, List.getElem?_cons_succ, List.set_cons_zero, List.set_cons_succ, List.getD_cons_zero, List.getD_cons_succ, if_true, if_false, reduceIte, Option.map_some, Option.map_none, List.filterMap_nil, List.filterMap_cons, List.nodup_nil, id_eq, Bool.false_eq_true, nodup1, Wk_Γ, Wk_C, o_add, o_sub, o_eq, o_ne, o_lt, o_le, o_gt, o_ge, o_isN, o_isnN, o_lenL, o_lenT, o_atL, o_atT, o_sqL, o_sqT, o_tupL, o_listL, o_listT, o_int, o_eqT, o_neT, o_inT, o_ninT, o_sqTx, o_Tx0, l82, g, Bool.not_true]
      exact ⟨_, .inl rfl, _, _, rfl⟩) ⟨_, _, rfl⟩
    simp only [RCa, optR, optV, optB, view, views, fin, lent, isO, setTg, setAll, setCA, kd, wipes, unwipe, frz, truth, isNone, callF, lend, slots, back, isLent, List.map_cons, List.map_nil, List.length_cons, List.length_nil, List.cons_append, List.nil_append, List.replicate, Nat.reduceAdd, Nat.reduceSub, List.getElem?_cons_zero, List.getElem?_cons_succ, List.set_cons_zero, List.set_cons_succ, List.getD_cons_zero, List.getD_cons_succ, if_true, if_false, reduceIte, Option.map_some, Option.map_none, List.filterMap_nil, List.filterMap_cons, List.nodup_nil, id_eq, Bool.false_eq_true, nodup1, Wk_Γ, Wk_C, o_add, o_sub, o_eq, o_ne, o_lt, o_le, o_gt, o_ge, o_isN, o_isnN, o_lenL, o_lenT, o_atL, o_atT, o_sqL, o_sqT, o_tupL, o_listL, o_listT, o_int, o_eqT, o_neT, o_inT, o_ninT, o_sqTx, o_Tx0]
  have lk := laps_run fuel W T (.v (.list (iL ns))) l74 l77 t l ht p2 (fun p most hm => g74 t l p most n3 m3 ht hm) (fun p e he => g77 t l p e n3 m3 ht he)
  unfold lapB at lk
  unfold f_law at key ⊢
  simp only [bodyOf] at key
  unfold runFn
  cases hb : decide (tkR p1 4 = 1) with
  | true =>
    rw [hb, if_pos rfl] at e26
    simp only [RCa, optR, optV, optB, view, views, fin, lent, isO, setTg, setAll, setCA, kd, wipes, unwipe, frz, truth, isNone, callF, lend, slots, back, isLent, List.map_cons, List.map_nil, List.length_cons, List.length_nil, List.cons_append, List.nil_append, List.replicate, Nat.reduceAdd, Nat.reduceSub, List.getElem?_cons_zero, List.getElem?_cons_succ, List.set_cons_zero, List.set_cons_succ, List.getD_cons_zero, List.getD_cons_succ, if_true, if_false, reduceIte, Option.map_some, Option.map_none, List.filterMap_nil, List.filterMap_cons, List.nodup_nil, id_eq, Bool.false_eq_true, nodup1, Wk_Γ, Wk_C, o_add, o_sub, o_eq, o_ne, o_lt, o_le, o_gt, o_ge, o_isN, o_isnN, o_lenL, o_lenT, o_atL, o_atT, o_sqL, o_sqT, o_tupL, o_listL, o_listT, o_int, o_eqT, o_neT, o_inT, o_ninT, o_sqTx, o_Tx0, l1, e1, T.l, T.g, l3, e3, l26, hb, e26, s8]
    refine key _ ?_
    exact lk
  | false =>
    rw [hb, if_neg Bool.false_ne_true] at e26
    simp only [RCa, optR, optV, optB, view, views, fin, lent, isO, setTg, setAll, setCA, kd, wipes, unwipe, frz, truth, isNone, callF, lend, slots, back, isLent, List.map_cons, List.map_nil, List.length_cons, List.length_nil, List.cons_append, List.nil_append, List.replicate, Nat.reduceAdd, Nat.reduceSub, List.getElem?_cons_zero, List.getElem?_cons_succ, List.set_cons_zero, List.set_cons_succ, List.getD_cons_zero, List.getD_cons_succ, if_true, if_false, reduceIte, Option.map_some, Option.map_none, List.filterMap_nil, List.filterMap_cons, List.nodup_nil, id_eq, Bool.false_eq_true, nodup1, Wk_Γ, Wk_C, o_add, o_sub, o_eq, o_ne, o_lt, o_le, o_gt, o_ge, o_isN, o_isnN, o_lenL, o_lenT, o_atL, o_atT, o_sqL, o_sqT, o_tupL, o_listL, o_listT, o_int, o_eqT, o_neT, o_inT, o_ninT, o_sqTx, o_Tx0, l1, e1, T.l, T.g, l3, e3, l26, hb, e26, s8]
    refine key _ ?_
    exact lk
end
end W32

set_option Elab.async false
set_option linter.all false
set_option maxRecDepth 100000
set_option maxHeartbeats 4000000
/-! K32f: the law in its own world. -/
namespace W32
open PySem Rc Lw32
section
variable (fuel : Nat) (W : Wd)
theorem all_rep (n : Nat) : biOp .all_ [.list (List.replicate n (.bool true))] = some (.v (.bool true)) := by
  have h : ∀ n, bools (List.replicate n (.bool true)) = some (List.replicate n true) := fun n => by
    induction n with
    | zero => rfl
    | succ n ih =>
      show (bools (List.replicate n (.bool true))).map (true :: ·) = _
      rw [ih]
      rfl
  show (bools (List.replicate n (.bool true))).map (fun bs => R.v (.bool (bs.all id))) = _
  rw [h]
  show some (R.v (.bool ((List.replicate n true).all id))) = _
  have : (List.replicate n true).all id = true := List.all_eq_true.mpr fun x hx => (List.mem_replicate.mp hx).2
  rw [this]
theorem same_tup_run (l75 : W.lm 75 = [false, false]) (xs : List PyData) (hl : xs.length < 900000) (h : ∀ x ∈ xs, W.Γ 75 [.v x, .v x] = .v (.bool true) []) : runFn fuel W f_law_same [.v (.tuple xs), .v (.tuple xs)] = .v (.bool true) [] := by
  have s1 : small62 (xs.length : Int) = true := small_nat (by omega)
  unfold f_law_same runFn
  simp only [RCa, optR, optV, optB, view, views, fin, lent, isO, setTg, setAll, setCA, kd, wipes, unwipe, frz, truth, isNone, callF, lend, slots, back, isLent, List.map_cons, List.map_nil, List.length_cons, List.length_nil, List.cons_append, List.nil_append, List.replicate, Nat.reduceAdd, Nat.reduceSub, List.getElem?_cons_zero, List.getElem?_cons_succ, List.set_cons_zero, List.set_cons_succ, List.getD_cons_zero, List.getD_cons_succ, if_true, if_false, reduceIte, Option.map_some, Option.map_none, List.filterMap_nil, List.filterMap_cons, List.nodup_nil, id_eq, Bool.false_eq_true, nodup1, Wk_Γ, Wk_C, o_add, o_sub, o_eq, o_ne, o_lt, o_le, o_gt, o_ge, o_isN, o_isnN, o_lenL, o_lenT, o_atL, o_atT, o_sqL, o_sqT, o_tupL, o_listL, o_listT, o_int, o_eqT, o_neT, o_inT, o_ninT, o_sqTx, o_Tx0, ty_tup, tt, Bool.not_true, decide_true, s1]
  generalize hq : compL _ _ _ _ = o
  obtain ⟨ds, ρ', rfl, b2, rfl, rfl⟩ := compL_ok hq (fun i acc ρ => ∃ b2 : Sl, acc = List.replicate i (.bool true) ∧ ρ = [.v (.tuple xs), .v (.tuple xs), b2]) (by
    rintro i d acc ρ hd ⟨b2, rfl, rfl⟩
    obtain ⟨rfl, hi⟩ := rng1L_get hd
    rw [Int.toNat_natCast] at hi
    have ea : L2.atI xs (i : Int) = some xs[i] := atI_nat (List.getElem?_eq_getElem hi)
    have hs := h xs[i] (List.getElem_mem _)
    simp only [turnC_ap, RCa, optR, optV, optB, view, views, fin, lent, isO, setTg, setAll, setCA, kd, wipes, unwipe, frz, truth, isNone, callF, lend, slots, back, isLent, List.map_cons, List.map_nil, List.length_cons, List.length_nil, List.cons_append, List.nil_append, List.replicate, Nat.reduceAdd, Nat.reduceSub, List.getElem?_cons_zero, List.getElem?_cons_succ, List.set_cons_zero, List.set_cons_succ, List.getD_cons_zero, List.getD_cons_succ, if_true, if_false, reduceIte, Option.map_some, Option.map_none, List.filterMap_nil, List.filterMap_cons, List.nodup_nil, id_eq, Bool.false_eq_true, nodup1, Wk_Γ, Wk_C, o_add, o_sub, o_eq, o_ne, o_lt, o_le, o_gt, o_ge, o_isN, o_isnN, o_lenL, o_lenT, o_atL, o_atT, o_sqL, o_sqT, o_tupL, o_listL, o_listT, o_int, o_eqT, o_neT, o_inT, o_ninT, o_sqTx, o_Tx0, ea, l75, hs]
    refine ⟨_, _, rfl, ?_, _, ?_, rfl⟩
    · rw [List.length_replicate]
      exact Nat.lt_of_lt_of_le (show i < 1000000 by omega) (by decide)
    · exact (List.replicate_succ' (n := i) (a := PyData.bool true)).symm) ⟨_, rfl, rfl⟩
  simp only [RCa, optR, optV, optB, view, views, fin, lent, isO, setTg, setAll, setCA, kd, wipes, unwipe, frz, truth, isNone, callF, lend, slots, back, isLent, List.map_cons, List.map_nil, List.length_cons, List.length_nil, List.cons_append, List.nil_append, List.replicate, Nat.reduceAdd, Nat.reduceSub, List.getElem?_cons_zero, List.getElem?_cons_succ, List.set_cons_zero, List.set_cons_succ, List.getD_cons_zero, List.getD_cons_succ, if_true, if_false, reduceIte, Option.map_some, Option.map_none, List.filterMap_nil, List.filterMap_cons, List.nodup_nil, id_eq, Bool.false_eq_true, nodup1, Wk_Γ, Wk_C, o_add, o_sub, o_eq, o_ne, o_lt, o_le, o_gt, o_ge, o_isN, o_isnN, o_lenL, o_lenT, o_atL, o_atT, o_sqL, o_sqT, o_tupL, o_listL, o_listT, o_int, o_eqT, o_neT, o_inT, o_ninT, o_sqTx, o_Tx0, all_rep]
end
section
variable {C : Nat → PyData} {fuel k : Nat}
/-- the program's defs -/
structure Ps (P : Nat → Option Fn) : Prop where
  p0 : P 0 = some f_law_cell
  p1 : P 1 = some f_law_pool
  p2 : P 2 = some f_law_take
  p3 : P 3 = some f_law_signs
  p26 : P 26 = some f_law_text
  p46 : P 46 = some f_is_int
  p47 : P 47 = some f_is_from
  p48 : P 48 = some f_is_row
  p84 : P 84 = some f_is_edit
  p85 : P 85 = some f_check_edit
  p86 : P 86 = some f_edited
  p87 : P 87 = some f_apply_edit
  p88 : P 88 = some f_is_ahead
  p89 : P 89 = some f_shift_edit
  p74 : P 74 = some f_law_edit
  p75 : P 75 = some f_law_same
  p76 : P 76 = some f_law_both
  p77 : P 77 = some f_law_beside
  p78 : P 78 = some f_law_apart
  p79 : P 79 = some f_law_before
  p80 : P 80 = some f_law_shifted
  p81 : P 81 = some f_law_overlap
  p82 : P 82 = some f_law_pair_holds
variable {P : Nat → Option Fn} (H : Ps P)
include H
theorem is_int_S (i : Int) : sem C P fuel (k + 1) 46 [.v (.int i)] = .v (.bool true) [] := by
  rw [sem_at H.p46]
  exact is_int_run _ _ i
theorem is_from_S (i l m : Int) : sem C P fuel (k + 2) 47 [.v (.int i), .v (.int l), .v (.int m)] = .v (.bool (decide (l ≤ i) && decide (i ≤ m))) [] := by
  rw [sem_at H.p47]
  exact is_from_run _ _ (lmk H.p46 m_is_int) (fun i => by rw [Wk_Γ]; exact is_int_S H i) i l m
theorem is_row_S (xs : List PyData) (n : Int) : sem C P fuel (k + 1) 48 [.v (.tuple xs), .v (.int n)] = .v (.bool (decide ((xs.length : Int) = n))) [] := by
  rw [sem_at H.p48]
  exact is_row_run _ _ xs n
theorem is_edit_S (t : List Nat) (ht : t.length ≤ 1000000) (e : Ed) (h : e.fit t.length) : sem C P fuel (k + 3) 84 [.v (Tx t), .v e.D] = .v (.bool true) [] := by
  rw [sem_at H.p84]
  exact is_edit_run _ _ (lmk H.p47 m_is_from) (lmk H.p48 m_is_row) (fun i l m => by rw [Wk_Γ]; exact is_from_S H i l m) (fun xs n => by rw [Wk_Γ]; exact is_row_S H xs n) t ht e h
theorem check_edit_S (t : List Nat) (ht : t.length ≤ 1000000) (e : Ed) (h : e.fit t.length) : sem C P fuel (k + 4) 85 [.v (Tx t), .v e.D] = .v .none [] := by
  rw [sem_at H.p85]
  exact check_edit_run _ _ (lmk H.p84 m_is_edit) t e (by rw [Wk_Γ]; exact is_edit_S H t ht e h)
theorem edited_S (t : List Nat) (ht : t.length ≤ 400000) (e : Ed) (hp : e.p.length ≤ 400000) (h : e.fit t.length) : sem C P fuel (k + 1) 86 [.v (Tx t), .v e.D] = .v (Tx (e.on t)) [] := by
  rw [sem_at H.p86]
  exact edited_run _ _ t ht e hp h
theorem apply_edit_S (t : List Nat) (ht : t.length ≤ 400000) (e : Ed) (hp : e.p.length ≤ 400000) (h : e.fit t.length) : sem C P fuel (k + 5) 87 [.v (Tx t), .v e.D] = .v (Tx (e.on t)) [] := by
  rw [sem_at H.p87]
  exact apply_edit_run _ _ (lmk H.p85 m_check_edit) (lmk H.p86 m_edited) t e (by rw [Wk_Γ]; exact check_edit_S H t (by omega) e h) (by rw [Wk_Γ]; exact edited_S H t ht e hp h)
theorem is_ahead_S (e f : Ed) : sem C P fuel (k + 1) 88 [.v e.D, .v f.D] = .v (.bool (decide (e.a + e.o ≤ f.a))) [] := by
  rw [sem_at H.p88]
  exact is_ahead_run _ _ e f
theorem shift_S (e f : Ed) (hp : f.p.length ≤ 1000000) (b : Bool) : sem C P fuel (k + 2) 89 [.v e.D, .v f.D, .v (.bool b)] = if e.a + e.o ≤ f.a then (if f.a + f.o ≤ e.a then (if b then .v e.D [] else .v (e.sh f).D []) else .v e.D []) else (if f.a + f.o ≤ e.a then .v (e.sh f).D [] else .exc ⟨6, []⟩ []) := by
  rw [sem_at H.p89]
  exact shift_edit_run _ _ (lmk H.p88 m_is_ahead) e f hp (by rw [Wk_Γ]; exact is_ahead_S H e f) (by rw [Wk_Γ]; exact is_ahead_S H f e) b
theorem same_int_S (i : Int) : sem C P fuel (k + 1) 75 [.v (.int i), .v (.int i)] = .v (.bool true) [] := by
  rw [sem_at H.p75]
  exact same_int _ _ i
theorem same_tx_S (l : List Nat) : sem C P fuel (k + 1) 75 [.v (Tx l), .v (Tx l)] = .v (.bool true) [] := by
  rw [sem_at H.p75]
  exact same_tx _ _ l
theorem same_ed_S (e : Ed) : sem C P fuel (k + 2) 75 [.v e.D, .v e.D] = .v (.bool true) [] := by
  rw [sem_at H.p75]
  refine same_tup_run _ _ (lmk H.p75 m_law_same) _ (show 3 < 900000 by decide) fun x hx => ?_
  rw [Wk_Γ]
  simp only [List.mem_cons, List.not_mem_nil, or_false] at hx
  rcases hx with rfl | rfl | rfl
  · exact same_int_S H _
  · exact same_int_S H _
  · exact same_tx_S H _
theorem pw_S (t : List Nat) (ht : t.length ≤ 400) (e f : Ed) (he : Okd t e) (hf : Okd t f) : Pw (Wk fuel P C (k + 5)) t e f := by
  obtain ⟨he, le⟩ := he
  obtain ⟨hf, lf⟩ := hf
  have fe := he
  have ff := hf
  unfold Ed.fit at fe ff
  have bo : apB e f = true → ∀ b : Bool, sem C P fuel (k + 5) 76 [.v (Tx t), .v (.list (if b then [e.D, f.D] else [f.D, e.D]))] = .v (Tx (G t e f b)) [] := fun ha b => by
    rw [sem_at H.p76]
    obtain ⟨x, y, hxy, h1, h2, h3⟩ := rows_ok ha b
    have hG : G t e f b = D2 t x y := by
      unfold G
      rcases hxy with ⟨hb, rfl, rfl⟩ | ⟨hb, rfl, rfl⟩ <;> rw [hb] <;> rfl
    have lx : x.p.length ≤ 1000 ∧ y.p.length ≤ 1000 ∧ y.a + y.o ≤ t.length := by
      rcases hxy with ⟨hb, rfl, rfl⟩ | ⟨hb, rfl, rfl⟩ <;> omega
    rw [hG]
    cases b with
    | true => exact both_run _ _ t (by omega) e f x y (by omega) (by omega) lx.1 lx.2.1 h1 lx.2.2 h2 h3
    | false => exact both_run _ _ t (by omega) f e x y (by omega) (by omega) lx.1 lx.2.1 h1 lx.2.2 h2 (fun i => by rw [Bool.or_comm]; exact h3 i)
  have sh : ∀ e f : Ed, apB e f = true → f.p.length ≤ 60 → ∀ b, sem C P fuel (k + 5) 89 [.v e.D, .v f.D, .v (.bool b)] = .v (S1 e f b).D [] := fun e f ha hp b => by
    rw [shift_S H e f (by omega) b]
    exact shift_eq ha
  have hh : ∀ e f : Ed, apB e f = true → e.a ≤ 400 → f.p.length ≤ 60 → ∀ b, sem C P fuel (k + 5) 80 [.v e.D, .v f.D, .v (.bool b)] = .v (S1 e f b).D [] := fun e f ha h1 hp b => by
    rw [sem_at H.p80]
    exact shifted_run _ _ (lmk H.p79 m_law_before) e f b (by rw [Wk_Γ, sem_at H.p79]; exact before_run _ _ e f b) (by omega) (by omega) ha
  have ov : ∀ e f : Ed, apB e f = false → f.p.length ≤ 60 → ∀ b, sem C P fuel (k + 5) 81 [.v e.D, .v f.D, .v (.bool b)] = .v (.bool true) [] := fun e f ha hp b => by
    rw [sem_at H.p81]
    refine overlap_run _ _ (lmk H.p89 m_shift_edit) e f b ?_
    rw [Wk_Γ, shift_S H e f (by omega) b]
    exact shift_ne ha
  have lS : ∀ (e f : Ed) b, (S1 e f b).p = e.p := fun e f b => by unfold S1 Ed.sh; split <;> rfl
  refine ⟨lmk H.p78 m_law_apart, lmk H.p81 m_law_overlap, lmk H.p76 m_law_both, lmk H.p89 m_shift_edit, lmk H.p80 m_law_shifted, lmk H.p75 m_law_same, lmk H.p87 m_apply_edit, ?_, fun ha b => ?_, fun ha b => ?_, fun ha => ?_, fun ha => ?_, fun ha b => ?_, fun ha b => ?_, fun ha b => ?_, fun ha b => ?_, fun x => ?_, fun l => ?_, ?_, ?_, fun ha b => ?_, fun ha b => ?_⟩
  · rw [Wk_Γ, sem_at H.p78]
    exact apart_run _ _ e f (by omega) (by omega)
  · rw [Wk_Γ]; exact ov e f ha lf b
  · rw [Wk_Γ]; exact ov f e (by rw [ap_comm]; exact ha) le b
  · rw [Wk_Γ]; exact bo ha true
  · rw [Wk_Γ]; exact bo ha false
  · rw [Wk_Γ]; exact sh e f ha lf b
  · rw [Wk_Γ]; exact sh f e (by rw [ap_comm]; exact ha) le b
  · rw [Wk_Γ]; exact hh e f ha (by omega) lf b
  · rw [Wk_Γ]; exact hh f e (by rw [ap_comm]; exact ha) (by omega) le b
  · rw [Wk_Γ]; exact same_ed_S H x
  · rw [Wk_Γ]; exact same_tx_S H l
  · rw [Wk_Γ]; exact apply_edit_S H t (by omega) f (by omega) hf
  · rw [Wk_Γ]; exact apply_edit_S H t (by omega) e (by omega) he
  · rw [Wk_Γ, apply_edit_S H (f.on t) (by rw [on_len hf]; omega) (S1 e f b) (by rw [lS]; omega) (s1_fit he hf ha), s1_on he hf ha]
  · have ha' : apB f e = true := by rw [ap_comm]; exact ha
    rw [Wk_Γ, apply_edit_S H (e.on t) (by rw [on_len he]; omega) (S1 f e (!b)) (by rw [lS]; omega) (s1_fit hf he ha'), s1_on hf he ha', g_swap ha]
theorem text_S (l : List Nat) (hl : l.length ≤ 90) (h0 : l ≠ []) (most : Nat) (hm : most < 1000) (p : List Int) : ∃ s p', sem C P fuel (k + 2) 26 [.o (.lst (iL p)), .v (Tx l), .v (.int most)] = .v (Tx s) [.lst (iL p')] ∧ s.length ≤ most ∧ ∀ c ∈ s, c ∈ l := by
  rw [sem_at H.p26]
  exact text_run _ _ (Tk.of H.p2) l (Nat.le_trans hl (by decide)) h0 most (by omega) p
theorem edit_S (t l : List Nat) (ht : t.length ≤ 400) (hl : l.length ≤ 90) (h0 : l ≠ []) (most : Nat) (hm : most ≤ 60) (p : List Int) : ∃ (e : Ed) (p' : List Int), sem C P fuel (k + 3) 74 [.o (.lst (iL p)), .v (Tx t), .v (Tx l), .v (.int most)] = .v e.D [.lst (iL p')] ∧ e.fit t.length ∧ e.p.length ≤ most ∧ ∀ c ∈ e.p, c ∈ l := by
  rw [sem_at H.p74]
  exact edit_run _ _ (Tk.of H.p2) (lmk H.p26 m_law_text) t l (by omega) most (fun p => by rw [Wk_Γ]; exact text_S H l hl h0 most (by omega) p) p
theorem law_S (h : P 83 = some f_law) (ns : List Int) : sem C P fuel (k + 7) 83 [.v (.list (ns.map .int))] = .v (.bool true) [] := by
  rw [sem_at h]
  refine law_run _ _ (Tk.of H.p2) ns (lmk H.p1 m_law_pool) (lmk H.p3 m_law_signs) (lmk H.p26 m_law_text) (lmk H.p74 m_law_edit) (lmk H.p77 m_law_beside) (lmk H.p82 m_law_pair_holds) ?_ (fun p z h1 h2 => ?_) (fun l p most h0 hl hm => ?_) (fun t l p most h0 hl ht hm => ?_) (fun t l p e h0 hl ht he => ?_) (fun t e f ht he hf => ?_)
  · rw [Wk_Γ]
    exact pool_S H.p0 H.p1 ns 0 1300 (by decide)
  · rw [Wk_Γ]
    obtain ⟨s, p', e1, e2, _⟩ := signs_S (C := C) (fuel := fuel) (k := k + 4) H.p2 H.p3 (z := z) (by omega) (by omega) p
    refine ⟨s, p', e1, ?_, by omega⟩
    rintro rfl
    rw [List.length_nil] at e2
    omega
  · rw [Wk_Γ]
    obtain ⟨s, p', e1, e2, _⟩ := text_S (C := C) (fuel := fuel) (k := k + 4) H l hl h0 most hm p
    exact ⟨s, p', e1, e2⟩
  · rw [Wk_Γ]
    obtain ⟨e, p', e1, e2, e3, _⟩ := edit_S (C := C) (fuel := fuel) (k := k + 3) H t l ht hl h0 most hm p
    exact ⟨e, p', e1, e2, e3⟩
  · rw [Wk_Γ, sem_at H.p77]
    exact beside_run _ _ (Tk.of H.p2) (lmk H.p74 m_law_edit) t l ht e he.1 he.2 (fun p => by
      rw [Wk_Γ]
      obtain ⟨e, p', e1, e2, e3, _⟩ := edit_S (C := C) (fuel := fuel) (k := k + 2) H t l ht hl h0 4 (by decide) p
      exact ⟨e, p', e1, e2, e3⟩) p
  · rw [Wk_Γ, sem_at H.p82]
    exact pair_run _ _ t e f (pw_S H t ht e f he hf)
end
end W32

set_option Elab.async false
set_option linter.all false
set_option maxRecDepth 100000
set_option maxHeartbeats 0
namespace Lw32
open PySem Rc
theorem plain (ns : List Int) (h : ns.length ≤ 63) : sem C (fnsOf ds) 0 7 83 [.v (.list (ns.map .int))] = .v (.bool true) [] := W32.law_S (k := 0) ⟨P0, P1, P2, P3, P26, P46, P47, P48, P84, P85, P86, P87, P88, P89, P74, P75, P76, P77, P78, P79, P80, P81, P82⟩ P83 ns
end Lw32
namespace Lw32
open PySem PySem.Spec PyProof.Rows L2 Rc
theorem facts {w : World} {K : PySem.W.Frag} {h : Heap} {mg : Str → Option Value} {f : Addr} (X : K.In h) (G : h.Ns mainGlobals mg) (hfa : mg ("law" : Str) = some (.ref f)) (c : SaysX R.prog fa fn cs xs xd K) :
    ∃ fd : FuncData, (∀ (s : Shared) (v : Value), BindsTo s fd ⟨[v], []⟩ [("script", v)]) ∧ ∀ base : Heap, FnOk R.prog w K mg base CX0 (7 + 2) f fd ["script"] (fun vs H Q _ => spOf K mg 1 (sem C (fnsOf ds) 0 7 83) vs H Q fun _ _ _ => False) := by
  have H := hd X G c
  obtain ⟨fd, F⟩ := c.d.defs (d := dD d_law) (List.mem_map.mpr ⟨d_law, List.mem_of_getElem? (i := 23) rfl, rfl⟩)
  have e := hfa.symm.trans (He.glo_ok X G (c.d.facts (f := .glo "law") (List.mem_append_left _ (List.mem_map.mpr ⟨d_law, List.mem_of_getElem? (i := 23) rfl, rfl⟩))))
  cases e
  have b := FunD.bindsA (ps := ["script"]) F fun _ _ _ _ _ _ us hl => match us, hl with | [_], _ => rfl
  exact ⟨fd, fun s v => b s [v] rfl, fun base => fn_never (prog_ok (base := base) ok H 7 83 d_law _ fd rfl F hfa)⟩
theorem sp_law {K : PySem.W.Frag} {mg : Str → Option Value} {g : List Sl → FO} {ns : List Int} (h : g [.v (.list (ns.map .int))] = .v (.bool true) []) (H : Hp) (a : Addr) (hS : SqL K H a (ns.map V.int)) : spOf K mg 1 g [.ref a] H (fun v _ => v = .bl true) fun _ _ _ => False := by
  have dq : ∀ ns : List Int, DqAll K H (ns.map V.int) (ns.map .int) := fun ns => by
    induction ns with
    | nil => exact .nil
    | cons n ns ih => exact .cons (.int n) ih
  refine ⟨rfl, H, [.v (.list (ns.map .int))], Same.refl _, .v (.lst hS (dq ns)) .nil, List.nodup_nil, ?_⟩
  rw [h]
  intro G' H' x _ hx
  cases hx
  rfl
end Lw32
open PySem PySem.W PySem.Calls PyProof.Rows
theorem PySem.Challenge.cw_staleornot_k32_shifted_behind_each_other_holds : PySem.Challenge.rw_staleornot_k32_shifted_behind_each_other.Holds := by
  w_on; o_law
  refine HandSHeadRun.head_any (r := Lw32.R) (q := view Lw32.R.prog [32]) (H := Lw32.hk) (ob := Lw32.ob) (M := 4000) (loose := Lw32.loose) (d := HandSHeadRun.topDef Lw32.R.prog 32) (kwd := []) Lw32.ob_eq
    (by kernel_rfl) (fun s => by kernel_rfl) Lw32.run (by kernel_rfl) (by kernel_rfl) (by kernel_rfl) (by rfl) (by first | assumption | decide +kernel) (by decide +kernel) ⟨rfl, rfl, rfl, rfl, rfl, by decide +kernel⟩ ?hw ?hc
  case hw => w_witness2
  case hc =>
    refine L2.walk_ofE (l := Lw32.rw) (n := 63) (k := 7 + 2) (x := "script") (CX := L2.CX0) rfl (by decide) (by kernel_rfl) ⟨rfl, by decide, by decide⟩ ?F (fun _ _ _ _ z => z)
    intro w mg f h Y G hmg0
    obtain ⟨K, KX, c⟩ := Y
    have hmg : mg ("law" : PySem.Str) = some (.ref f) := by
      have e : (HandSHeadRun.topDef Lw32.R.prog 32).name = ("law" : PySem.Str) := by kernel_rfl
      rw [← e]
      exact hmg0
    obtain ⟨fd, hb, hF⟩ := Lw32.facts (w := w) KX G hmg c
    exact ⟨K, fd, fun vs H Q _ => Rc.spOf K mg 1 (Rc.sem Lw32.C (Rc.fnsOf Lw32.ds) 0 7 83) vs H Q fun _ _ _ => False, KX, hb, fun H a ns hl _ hS => Lw32.sp_law (Lw32.plain ns hl) H a hS, fun base _ _ => hF base⟩

