import PyProof.Rows.All
import Wide.All
import OpenK.AllK
import Wide.FinOn
import KE.KStateDown
import HandS.HeadHook1
import HandS.HeadHook2
import HandS.Words
import HandS.Ends
import HandS.ForMost
import HandS.StrMore
import HandS.Flow
import HandS.HeadWalk
import HandS.TupAny
import HandS.Property
import HandS.ClsMeth
import HandS.OwnEq
import HandS.SlotsOwn
import HandS.FStr
import HandS.Exc
import HandS.TryOnly
import HandS.ExcOwn
import HandS.ExcInit
import HandS.ExcSuper
import HandS.ExcIs
import HandS.WordsExc
import HandS.Defaults
import HandS.IsInst
import HandS.More
import HandS.RaiseMore
import PyProof.StrLawsIn
import PyProof.StrLawsAffix
import PyProof.StrLawsFrom
import PyProof.Rows.StrJoinRep
import HandS.TryMany
import HandS.CallSlots
import HandS.HeadNt
import HandS.HeadEnd
import HandS.Head2
import HandS.EndTab
import KE.KOpsOwn
import PySem.Challenge.RW_castmiddles_k01_label_refusals
set_option Elab.async false
set_option linter.all false
set_option maxRecDepth 100000
set_option maxHeartbeats 2000000
namespace Lt
open PySem
inductive At where | init | dadd | dmul | dpow | dand | dor | drshift | deq | dle | dlt | dinvert | dabs | dstr | a_name | a_positive | a_read | a_text
  deriving DecidableEq, Inhabited
inductive Fn where | f_consists_of | f_is_label_name | f_is_label | f__law_draws | f__law_draw | f__law_name | f__law_same | f__law_sign | f__law_string | f__law_is_name | f__law_told | f_law | m_Label_init | m_Label_read | m_Label_text | m_Label_invert | m_Label_eq | m_Label_str
  deriving DecidableEq, Inhabited
inductive Cl where | CastsError | BadText | TooLarge | NoMeet | BadMiddle | Mismatch | BrokenRow | NoPlace | BadTrial | Unbound | WrongKind | NoModule | Refused | BadLimit | Label
  deriving DecidableEq, Inhabited
inductive Gc where | g_LETTERS | g_DIGITS | g_LONGEST_NAME
  deriving DecidableEq, Inhabited
inductive Ty where | none | bool | int | str | tuple | list | valueError
  deriving DecidableEq, Inhabited
def At.nm : At → Str
  | .init => PySem.Str.ofString "__init__"
  | .dadd => PySem.Str.ofString "__add__"
  | .dmul => PySem.Str.ofString "__mul__"
  | .dpow => PySem.Str.ofString "__pow__"
  | .dand => PySem.Str.ofString "__and__"
  | .dor => PySem.Str.ofString "__or__"
  | .drshift => PySem.Str.ofString "__rshift__"
  | .deq => PySem.Str.ofString "__eq__"
  | .dle => PySem.Str.ofString "__le__"
  | .dlt => PySem.Str.ofString "__lt__"
  | .dinvert => PySem.Str.ofString "__invert__"
  | .dabs => PySem.Str.ofString "__abs__"
  | .dstr => PySem.Str.ofString "__str__"
  | .a_name => PySem.Str.ofString "name"
  | .a_positive => PySem.Str.ofString "positive"
  | .a_read => PySem.Str.ofString "read"
  | .a_text => PySem.Str.ofString "text"
def Ty.nm : Ty → String
  | .none => "NoneType"
  | .bool => "bool"
  | .int => "int"
  | .str => "str"
  | .tuple => "tuple"
  | .list => "list"
  | .valueError => "ValueError"
def Gc.nm : Gc → Str
  | .g_LETTERS => PySem.Str.ofString "LETTERS"
  | .g_DIGITS => PySem.Str.ofString "DIGITS"
  | .g_LONGEST_NAME => PySem.Str.ofString "LONGEST_NAME"
def Cl.nm : Cl → Str
  | .CastsError => PySem.Str.ofString "CastsError"
  | .BadText => PySem.Str.ofString "BadText"
  | .TooLarge => PySem.Str.ofString "TooLarge"
  | .NoMeet => PySem.Str.ofString "NoMeet"
  | .BadMiddle => PySem.Str.ofString "BadMiddle"
  | .Mismatch => PySem.Str.ofString "Mismatch"
  | .BrokenRow => PySem.Str.ofString "BrokenRow"
  | .NoPlace => PySem.Str.ofString "NoPlace"
  | .BadTrial => PySem.Str.ofString "BadTrial"
  | .Unbound => PySem.Str.ofString "Unbound"
  | .WrongKind => PySem.Str.ofString "WrongKind"
  | .NoModule => PySem.Str.ofString "NoModule"
  | .Refused => PySem.Str.ofString "Refused"
  | .BadLimit => PySem.Str.ofString "BadLimit"
  | .Label => PySem.Str.ofString "Label"
def Fn.nm : Fn → Str
  | .f_consists_of => PySem.Str.ofString "consists_of"
  | .f_is_label_name => PySem.Str.ofString "is_label_name"
  | .f_is_label => PySem.Str.ofString "is_label"
  | .f__law_draws => PySem.Str.ofString "_law_draws"
  | .f__law_draw => PySem.Str.ofString "_law_draw"
  | .f__law_name => PySem.Str.ofString "_law_name"
  | .f__law_same => PySem.Str.ofString "_law_same"
  | .f__law_sign => PySem.Str.ofString "_law_sign"
  | .f__law_string => PySem.Str.ofString "_law_string"
  | .f__law_is_name => PySem.Str.ofString "_law_is_name"
  | .f__law_told => PySem.Str.ofString "_law_told"
  | .f_law => PySem.Str.ofString "law"
  | .m_Label_init => PySem.Str.ofString ""
  | .m_Label_read => PySem.Str.ofString ""
  | .m_Label_text => PySem.Str.ofString ""
  | .m_Label_invert => PySem.Str.ofString ""
  | .m_Label_eq => PySem.Str.ofString ""
  | .m_Label_str => PySem.Str.ofString ""
def Ty.gn : Ty → Str
  | .none => PySem.Str.ofString "NoneType"
  | .bool => PySem.Str.ofString "bool"
  | .int => PySem.Str.ofString "int"
  | .str => PySem.Str.ofString "str"
  | .tuple => PySem.Str.ofString "tuple"
  | .list => PySem.Str.ofString "list"
  | .valueError => PySem.Str.ofString "ValueError"
inductive FAt where
  | glo (x : Str) | meth (c : Cl) (m : At) | prop (c : Cl) (m : At) | cm (c : Cl) (m : At)
def Fn.at : Fn → FAt
  | .f_consists_of => .glo (PySem.Str.ofString "consists_of")
  | .f_is_label_name => .glo (PySem.Str.ofString "is_label_name")
  | .f_is_label => .glo (PySem.Str.ofString "is_label")
  | .f__law_draws => .glo (PySem.Str.ofString "_law_draws")
  | .f__law_draw => .glo (PySem.Str.ofString "_law_draw")
  | .f__law_name => .glo (PySem.Str.ofString "_law_name")
  | .f__law_same => .glo (PySem.Str.ofString "_law_same")
  | .f__law_sign => .glo (PySem.Str.ofString "_law_sign")
  | .f__law_string => .glo (PySem.Str.ofString "_law_string")
  | .f__law_is_name => .glo (PySem.Str.ofString "_law_is_name")
  | .f__law_told => .glo (PySem.Str.ofString "_law_told")
  | .f_law => .glo (PySem.Str.ofString "law")
  | .m_Label_init => .meth .Label .init
  | .m_Label_read => .cm .Label .a_read
  | .m_Label_text => .prop .Label .a_text
  | .m_Label_invert => .meth .Label .dinvert
  | .m_Label_eq => .meth .Label .deq
  | .m_Label_str => .meth .Label .dstr
def At.all : List At := [.init, .dadd, .dmul, .dpow, .dand, .dor, .drshift, .deq, .dle, .dlt, .dinvert, .dabs, .dstr, .a_name, .a_positive, .a_read, .a_text]
theorem At.mem (a : At) : a ∈ At.all := by cases a <;> decide
def Fn.all : List Fn := [.f_consists_of, .f_is_label_name, .f_is_label, .f__law_draws, .f__law_draw, .f__law_name, .f__law_same, .f__law_sign, .f__law_string, .f__law_is_name, .f__law_told, .f_law, .m_Label_init, .m_Label_read, .m_Label_text, .m_Label_invert, .m_Label_eq, .m_Label_str]
theorem Fn.mem (a : Fn) : a ∈ Fn.all := by cases a <;> decide
def Cl.all : List Cl := [.CastsError, .BadText, .TooLarge, .NoMeet, .BadMiddle, .Mismatch, .BrokenRow, .NoPlace, .BadTrial, .Unbound, .WrongKind, .NoModule, .Refused, .BadLimit, .Label]
theorem Cl.mem (a : Cl) : a ∈ Cl.all := by cases a <;> decide
def Gc.all : List Gc := [.g_LETTERS, .g_DIGITS, .g_LONGEST_NAME]
theorem Gc.mem (a : Gc) : a ∈ Gc.all := by cases a <;> decide
def Ty.all : List Ty := [.none, .bool, .int, .str, .tuple, .list, .valueError]
theorem Ty.mem (a : Ty) : a ∈ Ty.all := by cases a <;> decide
/-! ### values, objects, states -/
inductive D where
  | non | bl (b : Bool) | int (i : Int) | str (s : List Nat) | tup (xs : List D) | fz (xs : List D) | obj (i : Nat) | cls (c : Cl) | ty (n : Ty)
  deriving Inhabited
inductive Ob where
  | lst (xs : List D) | ins (c : Cl) (fs : List (At × D))
  deriving Inhabited
abbrev St := List Ob
structure Xc where
  cls : Cl
  fs : List (At × D)
  deriving Inhabited
mutual
def D.beq : D → D → Bool
  | .non, .non => true
  | .bl a, .bl b => a == b
  | .int a, .int b => a == b
  | .str a, .str b => a == b
  | .tup a, .tup b => D.beqs a b
  | .obj a, .obj b => a == b
  | .cls a, .cls b => a == b
  | .ty a, .ty b => a == b
  | _, _ => false
def D.beqs : List D → List D → Bool
  | [], [] => true
  | a :: as, b :: bs => D.beq a b && D.beqs as bs
  | _, _ => false
end
/-- what code gives: a value, an exception, or nothing (bad: not carried, or a type error) -/
inductive R (α : Type) where
  | ok (a : α) (s : St) | err (x : Xc) (s : St) | bad
  deriving Inhabited
def R.bind {α β : Type} : R α → (α → St → R β) → R β
  | .ok a s, f => f a s
  | .err x s, _ => .err x s
  | .bad, _ => .bad
@[simp] theorem R.bind_ok {α β : Type} (a : α) (s : St) (f : α → St → R β) : R.bind (.ok a s) f = f a s := rfl
@[simp] theorem R.bind_err {α β : Type} (x : Xc) (s : St) (f : α → St → R β) : R.bind (.err x s) f = .err x s := rfl
@[simp] theorem R.bind_bad {α β : Type} (f : α → St → R β) : R.bind .bad f = .bad := rfl
abbrev Env := List (Option D)
/-- what a statement gives -/
inductive RS where
  | nx (e : Env) (s : St) | rt (d : D) (s : St) | bk (e : Env) (s : St) | ct (e : Env) (s : St) | err (x : Xc) (e : Env) (s : St) | bad
  deriving Inhabited

/-! ### syntax -/
inductive Bop where
  | add | sub | mul | fdiv | mod | pow | band | bor | rsh
  deriving DecidableEq, Inhabited
inductive Cop where
  | eq | ne | lt | le | gt | ge | is | isnot | isin | notin
  deriving DecidableEq, Inhabited
inductive Bi where
  | len | int | str | bool | isinstance | abs | list | tuple | sum
  deriving DecidableEq, Inhabited
/-- methods of built-in types -/
inductive Bm where
  | append | pop | reverse | find | removeprefix | startswith
  deriving DecidableEq, Inhabited
mutual
inductive Ex where
  | var (i : Nat)
  | non | bl (b : Bool) | int (i : Int) | str (s : List Nat)
  | gcon (g : Gc) | gcls (c : Cl) | gty (t : Ty)
  | tup (es : Exs) | lst (es : Exs)
  | bin (o : Bop) (a b : Ex) | neg (a : Ex) | inv (a : Ex)
  | cmp (o : Cop) (a b : Ex) | cmp2 (o o' : Cop) (a b c : Ex)
  | and (a b : Ex) | or (a b : Ex) | not (a : Ex) | ife (c a b : Ex)
  | ix (a b : Ex) | sl (a lo hi : Ex)   -- a missing bound: non
  | att (e : Ex) (f : At)
  | call (f : Fn) (es : Exs) | mk (c : Cl) (es : Exs) | mkl (i : Nat) (es : Exs) | bi (b : Bi) (es : Exs)
  | meth (e : Ex) (m : At) (es : Exs) | cmeth (c : Cl) (m : At) (es : Exs) | bm (e : Ex) (m : Bm) (es : Exs)
  | lc (elt : Ex) (one : Bool) (is : List Nat) (it : It) (ifs : Exs)
  | fstr (es : Exs)
  | xis (t : Ex) | xatt (f : At)     -- isinstance(e, t), e.f of the exception that is handled
  | dead      -- never reached
inductive Exs where
  | nil | cons (e : Ex) (es : Exs)
inductive It where
  | val (e : Ex) | rng (a : Ex) | rng2 (a b : Ex)
end
inductive Tg where
  | nm (i : Nat) | tup (is : List Nat) | att (e : Ex) (f : At) | ix (e i : Ex)
mutual
inductive Sm where
  | expr (e : Ex) | asg (t : Tg) (e : Ex) | asgL (i : Nat) (e : Ex) | aug (i : Nat) (o : Bop) (e : Ex) | ret (e : Ex) | retN | pass | brk | cnt
  | ite (c : Ex) (a b : Sms) | whil (c : Ex) (b : Sms) | whilW (i : Nat) (e : Ex) (o : Cop) (r : Ex) (b : Sms)
  | fors (t : Tg) (it : It) (b : Sms)
  | rais (c : Cl) (es : Exs)
  | tri (b : Sms) (c : Cl) (i : Nat) (h : Sms)
  | dead
inductive Sms where
  | nil | cons (s : Sm) (ss : Sms) | dead
end
structure Def where
  ps : Nat        -- parameters
  ns : Nat        -- names
  body : Sms
  dfl : List D := []   -- the last parameters' values where a call does not give them
/-- what a class has under a name -/
inductive Mem where
  | fn (f : Fn) | prop (f : Fn) | cm (f : Fn) | con (d : D) | oth
/-- the static context -/
structure Ctx where
  fn : Fn → Option Def
  mem : Cl → At → Option Mem
  con : Gc → D
  sub : Cl → Cl → Bool
  exc : Cl → Bool
  xini : Cl → Bool   -- an exception with an own __init__
  glob : Fn → Bool
  fuel : Nat

/-! ### operations on values -/
def lim : Nat := 1000000
def truF (s : St) : D → Option Bool
  | .non => some false
  | .bl b => some b
  | .int i => some (decide (i ≠ 0))
  | .str x => if x.length ≤ lim then some (!x.isEmpty) else none
  | .tup xs => some (!xs.isEmpty)
  | .obj i => match s[i]? with
    | some (.lst xs) => some (!xs.isEmpty)
    | _ => none
  | _ => none
def toStr (l : List Nat) : Str := ⟨l.toArray⟩
def ofStr (x : Str) : List Nat := x.cps.toList
/-! data without objects -/
mutual
def D.pure : D → Bool
  | .non => true
  | .bl _ => true
  | .int _ => true
  | .str _ => true
  | .tup xs => D.pures xs
  | _ => false
def D.pures : List D → Bool
  | [] => true
  | x :: xs => D.pure x && D.pures xs
end
mutual

def D.eq : D → D → Bool
  | .non, .non => true
  | .bl a, .bl b => a == b
  | .bl a, .int b => (if a then 1 else 0) == b
  | .int a, .bl b => a == (if b then 1 else 0)
  | .int a, .int b => a == b
  | .str a, .str b => a == b
  | .tup a, .tup b => D.eqs a b
  | _, _ => false
def D.eqs : List D → List D → Bool
  | [], [] => true
  | a :: as, b :: bs => D.eq a b && D.eqs as bs
  | _, _ => false
end
mutual
def D.ok : D → Bool
  | .str s => s.all fun c => decide (c < 0x110000)
  | .tup ds => D.oks ds
  | _ => true
def D.oks : List D → Bool
  | [] => true
  | d :: ds => D.ok d && D.oks ds
end
mutual
def D.dep : D → Nat
  | .tup xs => D.deps xs + 1
  | _ => 0
def D.deps : List D → Nat
  | [] => 0
  | x :: xs => max (D.dep x) (D.deps xs)
end

/-! ### the evaluator -/
def Xc.mk0 (c : Cl) : Xc := ⟨c, []⟩
def cat : List Nat → List Nat → List Nat := fun a b => a ++ b

/-- a two-place operation on values -/
def binF (o : Bop) (a b : D) (s : St) : R D := match o, a, b with
  | .add, .int i, .int j => .ok (.int (i + j)) s
  | .sub, .int i, .int j => .ok (.int (i - j)) s
  | .mul, .int i, .int j => if (-(2 ^ 64) < i ∧ i < 2 ^ 64) ∨ (-(2 ^ 64) < j ∧ j < 2 ^ 64) then .ok (.int (i * j)) s else .bad
  | .fdiv, .int i, .int j => if 0 < j ∧ j < 1073741824 then .ok (.int (i / j)) s else .bad
  | .mod, .int i, .int j => if 0 < j then .ok (.int (i % j)) s else .bad
  | .pow, .int i, .int j => if 0 ≤ j ∧ j ≤ 1000000 ∧ i.natAbs < 2 ^ 64 then .ok (.int (i ^ j.toNat)) s else .bad
  | .add, .str x, .str y => if x.length + y.length ≤ lim then .ok (.str (x ++ y)) s else .bad
  | .mul, .str x, .int j => if 0 ≤ j ∧ j ≤ 1000 ∧ x.length * j.toNat ≤ lim then .ok (.str (ofStr (Txt.mul (toStr x) j))) s else .bad
  | .add, .tup xs, .tup ys => if xs.length + ys.length ≤ lim then .ok (.tup (xs ++ ys)) s else .bad
  | .add, .obj i, .obj j => (match s[i]?, s[j]? with
    | some (.lst xs), some (.lst ys) => if xs.length + ys.length ≤ lim then .ok (.obj s.length) (s ++ [.lst (xs ++ ys)]) else .bad
    | _, _ => .bad)
  | _, _, _ => .bad
def shp (d : D) : Bool := D.pure d && (decide (D.dep d ≤ 60) && D.ok d)
def D.scal : D → Bool
  | .non => true
  | .bl _ => true
  | .int _ => true
  | .str _ => true
  | _ => false
/-- == by values, without own __eq__ -/
def eqF (a b : D) : Option Bool := if shp a && shp b then some (D.eq a b) else none
def occ (x y : List Nat) : Bool := !(Builtin.Str.occurrences (toStr y) (toStr x) 0 y.length 1).isEmpty
def D.flat : D → Bool
  | .non => true
  | .bl _ => true
  | .int _ => true
  | .str _ => true
  | _ => false
def D.isN : D → Bool
  | .non => true
  | _ => false
/-- a comparison of values, without own methods -/
def cmpF (o : Cop) (a b : D) (s : St) : R D := match o with
  | .eq => (match eqF a b with
    | some r => .ok (.bl r) s
    | none => .bad)
  | .ne => (match eqF a b with
    | some r => .ok (.bl (!r)) s
    | none => .bad)
  | .lt => (match a, b with
    | .int i, .int j => .ok (.bl (decide (i < j))) s
    | _, _ => .bad)
  | .le => (match a, b with
    | .int i, .int j => .ok (.bl (decide (i ≤ j))) s
    | _, _ => .bad)
  | .gt => (match a, b with
    | .int i, .int j => .ok (.bl (decide (j < i))) s
    | _, _ => .bad)
  | .ge => (match a, b with
    | .int i, .int j => .ok (.bl (decide (j ≤ i))) s
    | _, _ => .bad)
  | .is => (match b with
    | .non => .ok (.bl a.isN) s
    | _ => .bad)
  | .isnot => (match b with
    | .non => .ok (.bl (!a.isN)) s
    | _ => .bad)
  | .isin => (match a, b with
    | .str x, .str y => .ok (.bl (occ x y)) s
    | x, .tup ys => if x.flat && ys.all D.flat then .ok (.bl (ys.any fun y => D.eq y x)) s else .bad
    | x, .obj i => (match s[i]? with
      | some (.lst ys) => if x.flat && ys.all D.flat then .ok (.bl (ys.any fun y => D.eq y x)) s else .bad
      | _ => .bad)
    | _, _ => .bad)
  | .notin => (match a, b with
    | .str x, .str y => .ok (.bl (!occ x y)) s
    | x, .tup ys => if x.flat && ys.all D.flat then .ok (.bl (!ys.any fun y => D.eq y x)) s else .bad
    | x, .obj i => (match s[i]? with
      | some (.lst ys) => if x.flat && ys.all D.flat then .ok (.bl (!ys.any fun y => D.eq y x)) s else .bad
      | _ => .bad)
    | _, _ => .bad)
def ixN (n : Nat) (i : Int) : Option Nat := if 0 ≤ i then (if i < n then some i.toNat else none) else if -(n : Int) ≤ i then some (i + n).toNat else none
def atI {α : Type} (xs : List α) (i : Int) : Option α := (ixN xs.length i).bind fun j => xs[j]?
def ixF (a b : D) (s : St) : R D := match a, b with
  | .tup xs, .int i => (match atI xs i with
    | some v => .ok v s
    | none => .bad)
  | .str x, .int i => (match atI x i with
    | some c => if x.length ≤ lim then .ok (.str [c]) s else .bad
    | none => .bad)
  | .obj j, .int i => (match s[j]? with
    | some (.lst xs) => (match atI xs i with
      | some v => .ok v s
      | none => .bad)
    | _ => .bad)
  | _, _ => .bad
def sIx (n d : Nat) : Option Int → Nat
  | none => d
  | some v => if v < 0 then (v + (n : Int)).toNat else min v.toNat n
def cut {α : Type} (xs : List α) (lo hi : Option Int) : List α := (xs.drop (sIx xs.length 0 lo)).take (sIx xs.length xs.length hi - sIx xs.length 0 lo)
def bound? (n : Bool) (d : D) : Option (Option Int) := match n, d with
  | true, _ => some none
  | false, .int i => some (some i)
  | _, _ => none
def Ex.isNon : Ex → Bool
  | .non => true
  | _ => false
def bndR (n : Bool) (d : D) (s : St) : R (Option Int) := match bound? n d with
  | some o => .ok o s
  | none => .bad
def slF (a : D) (l h : Option Int) (s : St) : R D := match a with
  | .str x => if x.length ≤ lim then .ok (.str (cut x l h)) s else .bad
  | .tup xs => .ok (.tup (cut xs l h)) s
  | .obj j => (match s[j]? with
    | some (.lst xs) => .ok (.obj s.length) (s ++ [.lst (cut xs l h)])
    | _ => .bad)
  | _ => .bad
/-- of what kind a value is -/
inductive Kd where
  | ty (t : Ty) | cls (c : Cl)
def kind (s : St) : D → Option Kd
  | .non => some (.ty .none)
  | .bl _ => some (.ty .bool)
  | .int _ => some (.ty .int)
  | .str _ => some (.ty .str)
  | .tup _ => some (.ty .tuple)
  | .obj i => (match s[i]? with
    | some (.lst _) => some (.ty .list)
    | some (.ins c _) => some (.cls c)
    | none => none)
  | _ => none
def isOne (G : Ctx) (k : Kd) : D → Option Bool
  | .ty t => (match k with
    | .ty u => some (t == u || (t == .int && u == .bool))
    | .cls c => some (G.exc c && t == .valueError))
  | .cls c => (match k with
    | .ty _ => some false
    | .cls d => some (G.sub d c))
  | _ => none
def isAny (G : Ctx) (k : Kd) : List D → Option Bool
  | [] => some false
  | d :: ds => (match isOne G k d, isAny G k ds with
    | some a, some b => some (a || b)
    | _, _ => none)
def isF (G : Ctx) (k : Kd) : D → Option Bool
  | .tup ds => isAny G k ds
  | d => isOne G k d
def intText (i : Int) : List Nat := ofStr (Str.ofString (toString i))
def biF (G : Ctx) (b : Bi) (ds : List D) (s : St) : R D := match b, ds with
  | .len, [.str x] => if x.length ≤ lim then .ok (.int x.length) s else .bad
  | .len, [.tup xs] => .ok (.int xs.length) s
  | .len, [.obj i] => (match s[i]? with
    | some (.lst xs) => .ok (.int xs.length) s
    | _ => .bad)
  | .int, [.int i] => .ok (.int i) s
  | .int, [.bl b] => .ok (.int (if b then 1 else 0)) s
  | .bool, [.bl b] => .ok (.bl b) s
  | .bool, [.int i] => .ok (.bl (i != 0)) s
  | .abs, [.int i] => .ok (.int (if i < 0 then -i else i)) s
  | .str, [.str x] => .ok (.str x) s
  | .str, [.int i] => if i.natAbs.log2 < 1920 then .ok (.str (intText i)) s else .bad
  | .isinstance, [x, t] => (match kind s x with
    | some k => (match isF G k t with
      | some b => .ok (.bl b) s
      | none => .bad)
    | none => .bad)
  | .list, [.obj i] => (match s[i]? with
    | some (.lst xs) => .ok (.obj s.length) (s ++ [.lst xs])
    | _ => .bad)
  | .list, [.tup xs] => .ok (.obj s.length) (s ++ [.lst xs])
  | .tuple, [.obj i] => (match s[i]? with
    | some (.lst xs) => .ok (.tup xs) s
    | _ => .bad)
  | .tuple, [.tup xs] => .ok (.tup xs) s
  | _, _ => .bad
def bmF (m : Bm) (x : D) (ds : List D) (s : St) : R D := match m, x, ds with
  | .append, .obj i, [y] => (match s[i]? with
    | some (.lst xs) => if xs.length < lim then .ok .non (s.set i (.lst (xs ++ [y]))) else .bad
    | _ => .bad)
  | .pop, .obj i, [] => (match s[i]? with
    | some (.lst xs) => (match xs.getLast? with
      | some y => .ok y (s.set i (.lst xs.dropLast))
      | none => .bad)
    | _ => .bad)
  | .reverse, .obj i, [] => (match s[i]? with
    | some (.lst xs) => .ok .non (s.set i (.lst xs.reverse))
    | _ => .bad)
  | .removeprefix, .str a, [.str b] => if a.length ≤ lim then .ok (.str (ofStr (Txt.removeprefix (toStr a) (toStr b)))) s else .bad
  | .startswith, .str a, [.str b] => .ok (.bl (Txt.startswith (toStr a) (toStr b))) s
  | .find, .str a, [.str b, .int i] => .ok (.int (Txt.find3 (toStr a) (toStr b) i)) s
  | _, _, _ => .bad
/-- of what type the receiver of such a method is: a list? -/
def Bm.onList : Bm → Bool
  | .append => true
  | .pop => true
  | .reverse => true
  | _ => false
def bmOk (m : Bm) (x : D) (s : St) : Bool := match m.onList, x with
  | true, .obj i => (match s[i]? with
    | some (.lst _) => true
    | _ => false)
  | false, .str _ => true
  | _, _ => false
/-- the field of an instance -/
def field (fs : List (At × D)) (f : At) : Option D := fs.lookup f
def putF (f : At) (d : D) : List (At × D) → List (At × D)
  | [] => [(f, d)]
  | (g, e) :: r => if g = f then (f, d) :: r else (g, e) :: putF f d r
/-- two whole numbers compared -/
def intC (o : Cop) (a b : D) : Option Bool := match o, a, b with
  | .lt, .int i, .int j => some (decide (i < j))
  | .le, .int i, .int j => some (decide (i ≤ j))
  | _, _, _ => none
def onlyStr (d : D) (s : St) : R D := match d with
  | .str x => .ok (.str x) s
  | _ => .bad
/-- a value as a part of an f-string -/
def fmtF (d : D) : Option (List Nat) := match d with
  | .str x => if x.length ≤ lim then some x else none
  | .int i => if i.natAbs.log2 < 1920 then some (intText i) else none
  | _ => none
def onlyBl (d : D) (s : St) : R D := match d with
  | .bl b => .ok (.bl b) s
  | _ => .bad
/-! ### walks -/
def truth (d : D) (s : St) : R Bool := match truF s d with
  | some b => .ok b s
  | none => .bad
def setAll : List Nat → List D → Env → Env
  | i :: is, d :: ds, e => setAll is ds (e.set i (some d))
  | _, _, e => e
/-- what is walked: the items, and the list that must not change -/
def itemsF (it : D) (s : St) : Option (List D × Option Nat) := match it with
  | .tup ds => some (ds, none)
  | .fz ds => some (ds, none)
  | .str z => some (z.map fun c => .str [c], none)
  | .obj j => (match s[j]? with
    | some (.lst xs) => some (xs, some j)
    | _ => none)
  | _ => none
def still (xs : List D) (o : Option Nat) (s : St) : Bool := match o with
  | none => true
  | some j => (match s[j]? with
    | some (.lst ys) => D.beqs xs ys
    | _ => false)
/-- a bound of a range (so that the kernel stops at once where it is not known) -/
def rOk : Int → Bool
  | .ofNat k => Nat.ble k 1000000000
  | .negSucc k => Nat.ble k 1000000000
theorem rOk_iff {n : Int} (h : rOk n = true) : n < 4611686018427387904 ∧ -4611686018427387904 ≤ n := by
  cases n with
  | ofNat k =>
    have := Nat.le_of_ble_eq_true (h : Nat.ble k 1000000000 = true)
    have e : Int.ofNat k = (k : Int) := rfl
    rw [e]
    omega
  | negSucc k =>
    have := Nat.le_of_ble_eq_true (h : Nat.ble k 1000000000 = true)
    omega
theorem rOk_of {n : Int} (h1 : -1000000000 ≤ n) (h2 : n ≤ 1000000000) : rOk n = true := by
  cases n with
  | ofNat k =>
    have e : Int.ofNat k = (k : Int) := rfl
    rw [e] at h2
    exact Nat.ble_eq_true_of_le (by omega)
  | negSucc k => exact Nat.ble_eq_true_of_le (by omega)
def rngF (a b : Int) : List D := (List.range (b - a).toNat).map fun (i : Nat) => .int (a + (i : Int))
def wipeE (e : Env) : List Nat → Env
  | [] => e
  | i :: is => (wipeE e is).set i none
def bindT (one : Bool) (is : List Nat) (d : D) (e : Env) : Option Env := match one, is, d with
  | true, [i], d => some (e.set i (some d))
  | false, is, .tup ds => if ds.length = is.length then some (setAll is ds e) else none
  | _, _, _ => none
/-- one item of a comprehension -/
def itemF (one : Bool) (is : List Nat) (fc : Option (Env → St → R D)) (fe : Env → St → R D) (e0 : Env) (d : D) (s : St) : R (Option D) := match bindT one is d e0 with
  | none => .bad
  | some e1 => (match fc with
    | none => (fe e1 s).bind fun x s => .ok (some x) s
    | some f => ((f e1 s).bind truth).bind fun b s => if b = true then (fe e1 s).bind fun x s => .ok (some x) s else .ok none s)
def lcF (ok : St → Bool) (f : D → St → R (Option D)) : List D → List D → St → R (List D)
  | [], acc, s => if ok s = true then .ok acc s else .bad
  | d :: ds, acc, s => if ok s = true then (match f d s with
    | .ok (some x) s' => if acc.length < lim then lcF ok f ds (acc ++ [x]) s' else .bad
    | .ok none s' => lcF ok f ds acc s'
    | _ => .bad) else .bad
def lstR (acc : List D) (s : St) : R D := .ok (.obj s.length) (s ++ [.lst acc])
abbrev Calls := Fn → List D → St → R D
section
variable (G : Ctx) (C C1 : Calls) (cx : Option Xc)
/-- a field read -/
def attF (x : D) (f : At) (s : St) : R D := match x with
  | .obj i => (match s[i]? with
    | some (.ins c fs) => if G.exc c = true then .bad else (match G.mem c f with
      | none => (match field fs f with
        | some v => .ok v s
        | none => .bad)
      | some (.prop g) => (match C g [x] s with
        | .ok d s' => .ok d s'
        | _ => .bad)
      | some (.con d) => (match field fs f with
        | none => .ok d s
        | some _ => .bad)
      | _ => .bad)
    | _ => .bad)
  | .cls c => if G.exc c = true then .bad else (match G.mem c f with
    | some (.con d) => .ok d s
    | _ => .bad)
  | _ => .bad
def setF (x : D) (f : At) (v : D) (s : St) : R D := match x with
  | .obj i => (match s[i]? with
    | some (.ins c fs) => if G.exc c = true then .bad else (match G.mem c f with
      | none => if fs.length < 900 then .ok .non (s.set i (.ins c (putF f v fs))) else .bad
      | _ => .bad)
    | _ => .bad)
  | _ => .bad
/-- a method of ours -/
def methOf (x : D) (m : At) (s : St) : Option Fn := match x with
  | .obj i => (match s[i]? with
    | some (.ins c fs) => if G.exc c = true then none else (match G.mem c m, field fs m with
      | some (.fn g), none => some g
      | _, _ => none)
    | _ => none)
  | _ => none
def methF (x : D) (m : At) (ds : List D) (s : St) : R D := match methOf G x m s with
  | some g => C g (x :: ds) s
  | none => .bad
def cmOf (c : Cl) (m : At) : Option Fn := if G.exc c = true then none else match G.mem c m with
  | some (.cm g) => some g
  | _ => none
/-- an instance made -/
def mkF (c : Cl) (ds : List D) (s : St) : R D := match G.exc c, G.mem c .init with
  | false, some (.fn g) => (match C1 g (.obj s.length :: ds) (s ++ [.ins c []]) with
    | .ok .non s' => .ok (.obj s.length) s'
    | .ok _ _ => .bad
    | .err x s' => .err x s'
    | .bad => .bad)
  | _, _ => .bad
/-- an own method in place of an operator -/
def insC (s : St) : D → Option Cl
  | .obj i => (match s[i]? with
    | some (.ins c _) => some c
    | _ => none)
  | _ => none
def binA : Bop → Option At
  | .add => some .dadd | .mul => some .dmul | .pow => some .dpow | .band => some .dand | .bor => some .dor | .rsh => some .drshift | _ => none
def cmA : Cop → Option At
  | .eq => some .deq | .le => some .dle | .lt => some .dlt | _ => none
def opF (o : Bop) (a b : D) (s : St) : R D := match insC s a with
  | some c => (match binA o with
    | some m => if insC s b = some c then methF G C a m [b] s else .bad
    | none => .bad)
  | none => binF o a b s
def cmF (o : Cop) (a b : D) (s : St) : R D := match insC s a, cmA o with
  | some _, some m => if (kind s b).isSome = true then methF G C a m [b] s else .bad
  | _, _ => cmpF o a b s
def biG (b : Bi) (ds : List D) (s : St) : R D := match b, ds with
  | .abs, [x] => (match insC s x with
    | some _ => methF G C1 x .dabs [] s
    | none => biF G .abs [x] s)
  | .str, [x] => (match insC s x with
    | some _ => (methF G C1 x .dstr [] s).bind onlyStr
    | none => biF G .str [x] s)
  | b, ds => biF G b ds s
/-- isinstance of the exception that is handled -/
def xisF (y : D) (s : St) : R D := match cx with
  | some x => (match (if x.fs.isEmpty = true then isF G (.cls x.cls) y else none) with
    | some b => .ok (.bl b) s
    | none => .bad)
  | none => .bad
mutual
def evE : Ex → Env → St → R D
  | .var i, e, s => (match e[i]? with
    | some (some d) => .ok d s
    | _ => .bad)
  | .non, _, s => .ok .non s
  | .bl b, _, s => .ok (.bl b) s
  | .int i, _, s => .ok (.int i) s
  | .str x, _, s => .ok (.str x) s
  | .gcon g, _, s => .ok (G.con g) s
  | .gcls c, _, s => .ok (.cls c) s
  | .gty t, _, s => .ok (.ty t) s
  | .tup es, e, s => (evEs es e s).bind fun ds s => if ds.length ≤ lim then .ok (.tup ds) s else .bad
  | .lst es, e, s => (evEs es e s).bind fun ds s => if ds.length ≤ lim then .ok (.obj s.length) (s ++ [.lst ds]) else .bad
  | .bin o a b, e, s => (evE a e s).bind fun x s => (evE b e s).bind fun y s => opF G C o x y s
  | .neg a, e, s => (evE a e s).bind fun x s => (match x with
    | .int i => .ok (.int (-i)) s
    | _ => .bad)
  | .inv a, e, s => (evE a e s).bind fun x s => methF G C x .dinvert [] s
  | .cmp o a b, e, s => ((evE a e s).bind fun x s => ((evE b e s).bind fun y s => cmF G C o x y s)).bind onlyBl
  | .cmp2 o o' a b c, e, s => (evE a e s).bind fun x s => (evE b e s).bind fun y s => (match intC o x y with
    | some true => (evE c e s).bind fun w s => (match intC o' y w with
      | some b => .ok (.bl b) s
      | none => .bad)
    | some false => .ok (.bl false) s
    | none => .bad)
  | .and a b, e, s => (evE a e s).bind fun x s => (match truF s x with
    | some true => evE b e s
    | some false => .ok x s
    | none => .bad)
  | .or a b, e, s => (evE a e s).bind fun x s => (match truF s x with
    | some true => .ok x s
    | some false => evE b e s
    | none => .bad)
  | .not a, e, s => (evE a e s).bind fun x s => (match truF s x with
    | some b => .ok (.bl (!b)) s
    | none => .bad)
  | .ife c a b, e, s => (evE c e s).bind fun x s => (match truF s x with
    | some true => evE a e s
    | some false => evE b e s
    | none => .bad)
  | .ix a b, e, s => (evE a e s).bind fun x s => (evE b e s).bind fun y s => ixF x y s
  | .sl a lo hi, e, s => (evE a e s).bind fun x s => (evE lo e s).bind fun l s => (bndR lo.isNon l s).bind fun ol s => (evE hi e s).bind fun h s => (bndR hi.isNon h s).bind fun oh s => slF x ol oh s
  | .att a f, e, s => (evE a e s).bind fun x s => attF G C1 x f s
  | .call f es, e, s => (evEs es e s).bind fun ds s => C f ds s
  | .mk c es, e, s => (evEs es e s).bind fun ds s => mkF G C1 c ds s
  | .mkl i es, e, s => (match e[i]? with
    | some (some (.cls c)) => (evEs es e s).bind fun ds s => mkF G C1 c ds s
    | _ => .bad)
  | .bi b es, e, s => (evEs es e s).bind fun ds s => biG G C1 b ds s
  | .meth a m es, e, s => (evE a e s).bind fun x s => (match methOf G x m s with
    | some g => (evEs es e s).bind fun ds s => C g (x :: ds) s
    | none => .bad)
  | .cmeth c m es, e, s => (match cmOf G c m with
    | some g => (evEs es e s).bind fun ds s => C g (.cls c :: ds) s
    | none => .bad)
  | .bm a m es, e, s => (evE a e s).bind fun x s => if bmOk m x s = true then (evEs es e s).bind fun ds s => bmF m x ds s else .bad
  | .lc x one is it .nil, e, s => if cx.isSome = true then .bad else (evI it e s).bind fun p s => (lcF (still p.1 p.2) (itemF one is none (fun e s => evE x e s) (wipeE e is)) p.1 [] s).bind lstR
  | .lc x one is it (.cons c .nil), e, s => if cx.isSome = true then .bad else (evI it e s).bind fun p s => (lcF (still p.1 p.2) (itemF one is (some fun e s => evE c e s) (fun e s => evE x e s) (wipeE e is)) p.1 [] s).bind lstR
  | .lc _ _ _ _ (.cons _ (.cons _ _)), _, _ => .bad
  | .fstr es, e, s => evFs es [] e s
  | .xis t, e, s => (evE t e s).bind fun y s => xisF G cx y s
  | .xatt _, _, _ => .bad
  | .dead, _, _ => .bad
def evEs : Exs → Env → St → R (List D)
  | .nil, _, s => .ok [] s
  | .cons a es, e, s => (evE a e s).bind fun d s => (evEs es e s).bind fun ds s => .ok (d :: ds) s
def evFs : Exs → List Nat → Env → St → R D
  | .nil, acc, _, s => .ok (.str acc) s
  | .cons a es, acc, e, s => (evE a e s).bind fun d s => (match fmtF d with
    | some x => if acc.length + x.length ≤ lim then evFs es (acc ++ x) e s else .bad
    | none => .bad)
def evI : It → Env → St → R (List D × Option Nat)
  | .val x, e, s => (evE x e s).bind fun d s => (match itemsF d s with
    | some p => .ok p s
    | none => .bad)
  | .rng x, e, s => (evE x e s).bind fun d s => (match d with
    | .int n => if rOk n = true then .ok (rngF 0 n, none) s else .bad
    | _ => .bad)
  | .rng2 x y, e, s => (evE x e s).bind fun d s => (evE y e s).bind fun d' s => (match d, d' with
    | .int m, .int n => if (rOk n && rOk m) = true then .ok (rngF m n, none) s else .bad
    | _, _ => .bad)
end
end
/-! ### statements -/
def RS.ofR (e : Env) (r : R D) (f : D → St → RS) : RS := match r with
  | .ok d s => f d s
  | .err x s => .err x e s
  | .bad => .bad
def RS.ofI (e : Env) (r : R (List D × Option Nat)) (f : List D × Option Nat → St → RS) : RS := match r with
  | .ok d s => f d s
  | .err x s => .err x e s
  | .bad => .bad
def RS.ofB (e : Env) (r : R Bool) (f : Bool → St → RS) : RS := match r with
  | .ok d s => f d s
  | .err x s => .err x e s
  | .bad => .bad
/-- a walk -/
def forF (ok : St → Bool) (body : D → Env → St → RS) : List D → Env → St → RS
  | [], e, s => if ok s = true then .nx e s else .bad
  | d :: ds, e, s => if ok s = true then (match body d e s with
    | .nx e' s' => forF ok body ds e' s'
    | .ct e' s' => forF ok body ds e' s'
    | .bk e' s' => .nx e' s'
    | r => r) else .bad
/-- a while -/
def loopF (c : Env → St → R Bool) (b : Env → St → RS) : Nat → Env → St → RS
  | 0, _, _ => .bad
  | n + 1, e, s => RS.ofB e (c e s) fun t s => if t = true then (match b e s with
    | .nx e' s' => loopF c b n e' s'
    | .ct e' s' => loopF c b n e' s'
    | .bk e' s' => .nx e' s'
    | r => r) else .nx e s
/-- while (x := v) .. -/
def loopW (i : Nat) (v : Env → St → R D) (c : D → Env → St → R Bool) (b : Env → St → RS) : Nat → Env → St → RS
  | 0, _, _ => .bad
  | n + 1, e, s => RS.ofR e (v e s) fun d s => RS.ofB (e.set i (some d)) (c d (e.set i (some d)) s) fun t s => if t = true then (match b (e.set i (some d)) s with
    | .nx e' s' => loopW i v c b n e' s'
    | .ct e' s' => loopW i v c b n e' s'
    | .bk e' s' => .nx e' s'
    | r => r) else .nx (e.set i (some d)) s
def augF (o : Bop) (a b : D) (s : St) : R D := match o, a, b with
  | .add, .int i, .int j => .ok (.int (i + j)) s
  | .sub, .int i, .int j => .ok (.int (i - j)) s
  | _, _, _ => .bad
def hotC (cx : Option Xc) (C : Calls) : Calls := match cx with
  | none => C
  | some _ => fun _ _ _ => .bad
/-- where an exception is handled no def is called -/
def ev (G : Ctx) (C C1 : Calls) (cx : Option Xc) (x : Ex) (e : Env) (s : St) : R D := evE G (hotC cx C) (hotC cx C1) cx x e s
section
variable (G : Ctx) (C C1 : Calls)
def asgF (cx : Option Xc) : Tg → D → Env → St → RS
  | .nm i, d, e, s => .nx (e.set i (some d)) s
  | .tup is, d, e, s => (match cx, d with
    | none, .tup ds => if ds.length = is.length then .nx (setAll is ds e) s else .bad
    | _, _ => .bad)
  | .att o f, d, e, s => RS.ofR e (ev G C C1 cx o e s) fun x s => RS.ofR e (setF G x f d s) fun _ s => .nx e s
  | .ix _ _, _, _, _ => .bad
def oneStr : Exs → Bool
  | .cons (.str _) .nil => true
  | _ => false
mutual
def evS (cx : Option Xc) : Sm → Env → St → RS
  | .expr x, e, s => RS.ofR e (ev G C C1 cx x e s) fun _ s => .nx e s
  | .asg t x, e, s => RS.ofR e (ev G C C1 cx x e s) fun d s => asgF G C C1 cx t d e s
  | .asgL i x, e, s => RS.ofR e (ev G C C1 cx x e s) fun d s => .nx (e.set i (some d)) s
  | .aug i o x, e, s => (match e[i]? with
    | some (some a) => RS.ofR e (ev G C C1 cx x e s) fun d s => RS.ofR e (augF o a d s) fun r s => .nx (e.set i (some r)) s
    | _ => .bad)
  | .ret x, e, s => RS.ofR e (ev G C C1 cx x e s) fun d s => .rt d s
  | .retN, _, s => .rt .non s
  | .pass, e, s => .nx e s
  | .brk, e, s => .bk e s
  | .cnt, e, s => .ct e s
  | .ite c a b, e, s => RS.ofB e ((ev G C C1 cx c e s).bind truth) fun t s => if t = true then evSs cx a e s else evSs cx b e s
  | .whil c b, e, s => if cx.isSome = true then .bad else loopF (fun e s => (ev G C C1 cx c e s).bind truth) (fun e s => evSs cx b e s) G.fuel e s
  | .whilW i v o r b, e, s => if cx.isSome = true then .bad else loopW i (fun e s => ev G C C1 cx v e s) (fun d e s => (ev G C C1 cx r e s).bind fun y s => (cmpF o d y s).bind truth) (fun e s => evSs cx b e s) G.fuel e s
  | .fors t it b, e, s => if cx.isSome = true then .bad else RS.ofI e (evI G (hotC cx C) (hotC cx C1) cx it e s) fun p s => forF (still p.1 p.2) (fun d e s => (match asgF G C C1 cx t d e s with
    | .nx e s => evSs cx b e s
    | r => r)) p.1 e s
  | .rais c es, e, s => if (cx.isSome || !(G.exc c && (!G.xini c && oneStr es))) = true then .bad else .err ⟨c, []⟩ e s
  | .tri b c i h, e, s => if cx.isSome = true then .bad else (match evSs none b e s with
    | .err x e' s' => if (G.exc x.cls && (G.exc c && decide (i < e'.length))) = true then (if G.sub x.cls c = true then (match evSs (some x) h (e'.set i none) s' with
        | .nx e2 s2 => .nx (e2.set i none) s2
        | .rt d s2 => .rt d s2
        | .bk e2 s2 => .bk (e2.set i none) s2
        | .ct e2 s2 => .ct (e2.set i none) s2
        | .err _ _ _ => .bad
        | .bad => .bad) else .err x e' s') else .bad
    | r => r)
  | .dead, _, _ => .bad
def evSs (cx : Option Xc) : Sms → Env → St → RS
  | .nil, e, s => .nx e s
  | .cons a b, e, s => (match evS cx a e s with
    | .nx e s => evSs cx b e s
    | r => r)
  | .dead, _, _ => .bad
end
end
/-- a def called at the depth k, all parameters given -/
def run0 (G : Ctx) (C C1 : Calls) (d : Def) (ds : List D) (s : St) : R D :=
  if ds.length = d.ps then (match evSs G C C1 none d.body (ds.map some ++ List.replicate (d.ns - d.ps) none) s with
    | .nx _ s => .ok .non s
    | .rt r s => .ok r s
    | .err x _ s => .err x s
    | _ => .bad) else .bad
def padF (d : Def) (ds : List D) : List D := ds ++ d.dfl.drop (d.dfl.length + ds.length - d.ps)
def run (G : Ctx) (C C1 : Calls) (d : Def) (ds : List D) (s : St) : R D := run0 G C C1 d (padF d ds) s
def stepF (G : Ctx) (C C1 : Calls) : Calls := fun f ds s => match G.fn f with
  | some d => run G C C1 d ds s
  | none => .bad
def callF (G : Ctx) : Nat → Calls
  | 0 => fun _ _ _ => .bad
  | 1 => stepF G (fun _ _ _ => .bad) (fun _ _ _ => .bad)
  | k + 2 => stepF G (callF G (k + 1)) (callF G k)
theorem callF_succ (G : Ctx) (k : Nat) : callF G (k + 1) = stepF G (callF G k) (callF G (k - 1)) := by
  cases k <;> rfl
def Bi.nm : Bi → Str
  | .len => "len"
  | .int => "int"
  | .str => "str"
  | .bool => "bool"
  | .isinstance => "isinstance"
  | .abs => "abs"
  | .list => "list"
  | .tuple => "tuple"
  | .sum => "sum"
def Bm.nm : Bm → Str
  | .append => "append"
  | .pop => "pop"
  | .reverse => "reverse"
  | .find => "find"
  | .removeprefix => "removeprefix"
  | .startswith => "startswith"
end Lt
/-! ### what stands for what -/
namespace Lt
open PySem PySem.Spec PyProof.Rows L2
section
variable (K : PySem.W.Frag) (ca : Cl → Addr)
/-- a tuple -/
def TpL (H : Hp) (a : Addr) (vs : List V) : Prop := H a = some (.tup vs) ∨
  ∃ (o : Obj) (its : Array Value) (n : Nat), K.lookup a = some o ∧ o.cls = .type "tuple" ∧ o.data = .seq its n ∧ its.size ≤ sizeLine ∧ Vals vs its.toList
/-- a list that is never written -/
def FzL (H : Hp) (a : Addr) (vs : List V) : Prop := (∃ o, H a = some (.frz o (.lst vs))) ∨
  ∃ (o : Obj) (its : Array Value) (n : Nat), K.lookup a = some o ∧ o.cls = .type "list" ∧ o.dict = none ∧ o.data = .seq its n ∧ its.size ≤ sizeLine ∧ Vals vs its.toList
mutual
/-- a value of the layer stands for one of ours: m places the objects, of which there are n -/
def Rp (m : Nat → Addr) (n : Nat) (H : Hp) : D → V → Prop
  | .non, v => v = .non
  | .bl b, v => v = .bl b
  | .int i, v => v = .int i
  | .str s, v => v = .str (toStr s)
  | .tup ds, v => ∃ a vs, v = .ref a ∧ TpL K H a vs ∧ RpL m n H ds vs
  | .fz ds, v => ∃ a vs, v = .ref a ∧ FzL K H a vs ∧ RpL m n H ds vs
  | .obj i, v => i < n ∧ v = .ref (m i)
  | .cls c, v => v = .ref (ca c)
  | .ty t, v => v = .ty (Ty.nm t)
def RpL (m : Nat → Addr) (n : Nat) (H : Hp) : List D → List V → Prop
  | [], vs => vs = []
  | d :: ds, vs => ∃ v r, vs = v :: r ∧ Rp m n H d v ∧ RpL m n H ds r
end
def RpF (m : Nat → Addr) (n : Nat) (H : Hp) : List (At × D) → List (Str × V) → Prop
  | [], fs => fs = []
  | (f, d) :: r, fs => ∃ v q, fs = (At.nm f, v) :: q ∧ Rp K ca m n H d v ∧ RpF m n H r q
/-- what the class of an instance must have -/
def InsOk (C : Addr) : Prop := Cls K C ∧ PySem.W.findIn K (.ref C) "__class__" = some (some (.builtin "object.__class__")) ∧ PySem.W.mroIn K C (.type "object") = some true
def RpO (m : Nat → Addr) (n : Nat) (H : Hp) (a : Addr) : Ob → Prop
  | .lst ds => ∃ vs, H a = some (.lst vs) ∧ RpL K ca m n H ds vs
  | .ins c fs => InsOk K (ca c) ∧ ∃ dx vfs, H a = some (.ins (ca c) dx vfs) ∧ RpF K ca m n H fs vfs
structure SR (m : Nat → Addr) (s : St) (H : Hp) : Prop where
  ob : ∀ i o, s[i]? = some o → RpO K ca m s.length H (m i) o
  inj : ∀ i j, i < s.length → j < s.length → m i = m j → i = j
def ER (m : Nat → Addr) (n : Nat) (H : Hp) : Env → L2.St → Prop
  | [], σ => σ = []
  | none :: e, σ => ∃ v r, σ = v :: r ∧ ER m n H e r
  | some d :: e, σ => ∃ v r, σ = some v :: r ∧ Rp K ca m n H d v ∧ ER m n H e r
def XR (m : Nat → Addr) (n : Nat) (H : Hp) (x : Xc) : Option Addr → Prop
  | none => x.fs = []
  | some d => x.fs ≠ [] ∧ ∃ fs, H d = some (.xd fs) ∧ RpF K ca m n H x.fs fs
end
/-- from one state to a later one -/
structure Ext (m : Nat → Addr) (s : St) (H : Hp) (m' : Nat → Addr) (s' : St) (H' : Hp) : Prop where
  len : s.length ≤ s'.length
  agr : ∀ i, i < s.length → m' i = m i
  keep : ∀ a o, H a = some o → (∀ i, i < s.length → m i ≠ a) → H' a = some o
  new : ∀ i, s.length ≤ i → i < s'.length → H (m' i) = none
theorem Ext.refl {m : Nat → Addr} {s : St} {H : Hp} : Ext m s H m s H :=
  ⟨Nat.le_refl _, fun _ _ => rfl, fun _ _ h _ => h, fun i h1 h2 => absurd h2 (Nat.not_lt.mpr h1)⟩
section
variable {K : PySem.W.Frag} {ca : Cl → Addr} {m m1 m2 m' : Nat → Addr} {s s1 s2 s' : St} {H H1 H2 H' : Hp} {n n' : Nat}
/-- an address of an object of ours holds a list or an instance -/
theorem SR.at (r : SR K ca m s H) {i : Nat} (hi : i < s.length) : (∃ vs, H (m i) = some (.lst vs)) ∨ ∃ C dx fs, H (m i) = some (.ins C dx fs) := by
  have q := r.ob i _ (List.getElem?_eq_getElem hi)
  cases e : s[i] with
  | lst ds =>
    rw [e] at q
    obtain ⟨vs, h, _⟩ := q
    exact .inl ⟨vs, h⟩
  | ins c fs =>
    rw [e] at q
    obtain ⟨_, dx, vfs, h, _⟩ := q
    exact .inr ⟨_, dx, vfs, h⟩
theorem SR.off (r : SR K ca m s H) {a : Addr} {o : HO} (h : H a = some o) (h1 : ∀ vs, o ≠ .lst vs) (h2 : ∀ C dx fs, o ≠ .ins C dx fs) : ∀ i, i < s.length → m i ≠ a := fun i hi e => by
  rcases r.at hi with ⟨vs, q⟩ | ⟨C, dx, fs, q⟩
  · rw [e, h] at q
    cases q
    exact h1 vs rfl
  · rw [e, h] at q
    cases q
    exact h2 C dx fs rfl
theorem Ext.tup (x : Ext m s H m' s' H') (r : SR K ca m s H) {a : Addr} {vs : List V} (h : TpL K H a vs) : TpL K H' a vs := by
  rcases h with h | h
  · exact .inl (x.keep a _ h (r.off h (fun _ => by intro q; cases q) (fun _ _ _ => by intro q; cases q)))
  · exact .inr h
theorem TpL.sq {a : Addr} {vs : List V} (h : TpL K H a vs) : SqT K H a vs := by
  rcases h with h | h
  · exact .inl (.inl h)
  · exact .inr h
theorem Ext.fz (x : Ext m s H m' s' H') (r : SR K ca m s H) {a : Addr} {vs : List V} (h : FzL K H a vs) : FzL K H' a vs := by
  rcases h with ⟨o, h⟩ | h
  · exact .inl ⟨o, x.keep a _ h (r.off h (fun _ => by intro q; cases q) (fun _ _ _ => by intro q; cases q))⟩
  · exact .inr h
theorem FzL.sq {a : Addr} {vs : List V} (h : FzL K H a vs) : SqL K H a vs := by
  rcases h with ⟨o, h⟩ | h
  · exact .inl (.inr ⟨o, h⟩)
  · exact .inr h
mutual
theorem Rp.go (hm : ∀ i, i < n → m' i = m i) (hn : n ≤ n') (ht : ∀ a vs, TpL K H a vs → TpL K H' a vs) (hf : ∀ a vs, FzL K H a vs → FzL K H' a vs) : ∀ (d : D) (v : V), Rp K ca m n H d v → Rp K ca m' n' H' d v
  | .non, v, h => h
  | .bl b, v, h => h
  | .int i, v, h => h
  | .str s, v, h => h
  | .tup ds, v, ⟨a, vs, e, h1, h2⟩ => ⟨a, vs, e, ht a vs h1, RpL.go hm hn ht hf ds vs h2⟩
  | .fz ds, v, ⟨a, vs, e, h1, h2⟩ => ⟨a, vs, e, hf a vs h1, RpL.go hm hn ht hf ds vs h2⟩
  | .obj i, v, ⟨h1, h2⟩ => ⟨Nat.lt_of_lt_of_le h1 hn, by rw [hm i h1]; exact h2⟩
  | .cls c, v, h => h
  | .ty t, v, h => h
theorem RpL.go (hm : ∀ i, i < n → m' i = m i) (hn : n ≤ n') (ht : ∀ a vs, TpL K H a vs → TpL K H' a vs) (hf : ∀ a vs, FzL K H a vs → FzL K H' a vs) : ∀ (ds : List D) (vs : List V), RpL K ca m n H ds vs → RpL K ca m' n' H' ds vs
  | [], vs, h => h
  | d :: ds, vs, ⟨v, r, e, h1, h2⟩ => ⟨v, r, e, Rp.go hm hn ht hf d v h1, RpL.go hm hn ht hf ds r h2⟩
end
theorem Ext.rp (x : Ext m s H m' s' H') (r : SR K ca m s H) {d : D} {v : V} (h : Rp K ca m s.length H d v) : Rp K ca m' s'.length H' d v :=
  Rp.go x.agr x.len (fun _ _ => x.tup r) (fun _ _ => x.fz r) d v h
theorem Ext.rpl (x : Ext m s H m' s' H') (r : SR K ca m s H) {d : List D} {v : List V} (h : RpL K ca m s.length H d v) : RpL K ca m' s'.length H' d v :=
  RpL.go x.agr x.len (fun _ _ => x.tup r) (fun _ _ => x.fz r) d v h
theorem RpF.go (g : ∀ d v, Rp K ca m n H d v → Rp K ca m' n' H' d v) : ∀ (fs : List (At × D)) (vs : List (Str × V)), RpF K ca m n H fs vs → RpF K ca m' n' H' fs vs
  | [], vs, h => h
  | (f, d) :: ds, vs, ⟨v, r, e, h1, h2⟩ => ⟨v, r, e, g d v h1, RpF.go g ds r h2⟩
theorem ER.go (g : ∀ d v, Rp K ca m n H d v → Rp K ca m' n' H' d v) : ∀ (e : Env) (σ : L2.St), ER K ca m n H e σ → ER K ca m' n' H' e σ
  | [], σ, h => h
  | none :: e, σ, ⟨v, r, q, h⟩ => ⟨v, r, q, ER.go g e r h⟩
  | some d :: e, σ, ⟨v, r, q, h1, h⟩ => ⟨v, r, q, g d v h1, ER.go g e r h⟩
theorem Ext.er0 (x : Ext m s H m' s' H') (r : SR K ca m s H) {e : Env} {σ : L2.St} (h : ER K ca m s.length H e σ) : ER K ca m' s'.length H' e σ := ER.go (fun _ _ q => x.rp r q) e σ h
theorem Ext.xr (x : Ext m s H m' s' H') (r : SR K ca m s H) {c : Xc} {d : Option Addr} (h : XR K ca m s.length H c d) : XR K ca m' s'.length H' c d := by
  cases d with
  | none => exact h
  | some d =>
    obtain ⟨h0, fs, h1, h2⟩ := h
    exact ⟨h0, fs, x.keep d _ h1 (r.off h1 (fun _ => by intro q; cases q) (fun _ _ _ => by intro q; cases q)), RpF.go (fun _ _ q => x.rp r q) _ _ h2⟩
/-- the names, and the exception that is handled: its slot, its address, what it is, its dict -/
abbrev Xs := Option (Nat × Addr × Xc × Option Addr)
def ERx (K : PySem.W.Frag) (ca : Cl → Addr) (xc : Xs) (m : Nat → Addr) (n : Nat) (H : Hp) (e : Env) (σ : L2.St) : Prop := ER K ca m n H e σ ∧ match xc with
  | none => True
  | some (i, a, x, d) => σ[i]? = some (some (.ref a)) ∧ e[i]? = some none ∧ XR K ca m n H x d
theorem Ext.er (x : Ext m s H m' s' H') (r : SR K ca m s H) {xc : Xs} {e : Env} {σ : L2.St} (h : ERx K ca xc m s.length H e σ) : ERx K ca xc m' s'.length H' e σ := by
  refine ⟨x.er0 r h.1, ?_⟩
  have h2 := h.2
  cases xc with
  | none => trivial
  | some q => exact ⟨h2.1, h2.2.1, x.xr r h2.2.2⟩
theorem Ext.trans (x : Ext m s H m1 s1 H1) (y : Ext m1 s1 H1 m2 s2 H2) (r1 : SR K ca m1 s1 H1) : Ext m s H m2 s2 H2 where
  len := Nat.le_trans x.len y.len
  agr := fun i hi => (y.agr i (Nat.lt_of_lt_of_le hi x.len)).trans (x.agr i hi)
  keep := fun a o h hne => y.keep a o (x.keep a o h hne) fun i hi e => by
    by_cases h1 : i < s.length
    · exact hne i h1 ((x.agr i h1).symm.trans e)
    · have q := x.new i (Nat.le_of_not_lt h1) hi
      rw [e, h] at q
      cases q
  new := fun i h1 h2 => by
    by_cases h3 : i < s1.length
    · rw [y.agr i h3]
      exact x.new i h1 h3
    · have q := y.new i (Nat.le_of_not_lt h3) h2
      cases e : H (m2 i) with
      | none => rfl
      | some o =>
        by_cases hx : ∃ j, j < s.length ∧ m j = m2 i
        · obtain ⟨j, hj, ej⟩ := hx
          have ej' : m1 j = m2 i := (x.agr j hj).trans ej
          rcases r1.at (Nat.lt_of_lt_of_le hj x.len) with ⟨vs, z⟩ | ⟨C, dx, fs, z⟩ <;> rw [ej', q] at z <;> cases z
        · rw [x.keep (m2 i) o e fun j hj ej => hx ⟨j, hj, ej⟩] at q
          cases q
end
end Lt
/-! ### readings -/
namespace Lt
open PySem PySem.Spec PyProof.Rows L2
section
variable (K : PySem.W.Frag) (ca : Cl → Addr)
def PostE {α β : Type} (rel : (Nat → Addr) → Nat → Hp → α → β → Prop) (m : Nat → Addr) (s : St) (H : Hp) (r : R α) (Q : β → Hp → Prop) (E : XK) : Prop := match r with
  | .ok d s' => ∀ m' H' v, Ext m s H m' s' H' → SR K ca m' s' H' → rel m' s'.length H' d v → Q v H'
  | .err x s' => ∀ m' H' dd, Ext m s H m' s' H' → SR K ca m' s' H' → XR K ca m' s'.length H' x dd → E (.ref (ca x.cls)) dd H'
  | .bad => False
def tE (xc : Xs) (W : WX) (f : Env → St → R D) : TE := fun σ H Q => ∃ m s e, SR K ca m s H ∧ ERx K ca xc m s.length H e σ ∧ PostE K ca (Rp K ca) m s H (f e s) Q fun c d H' => W c d σ H'
def tEs (xc : Xs) (W : WX) (f : Env → St → R (List D)) : TA := fun σ H Q => ∃ m s e, SR K ca m s H ∧ ERx K ca xc m s.length H e σ ∧ PostE K ca (RpL K ca) m s H (f e s) Q fun c d H' => W c d σ H'
def tB (xc : Xs) (W : WX) (f : Env → St → R Bool) : TT := fun σ H Q => ∃ m s e, SR K ca m s H ∧ ERx K ca xc m s.length H e σ ∧ PostE K ca (fun _ _ _ b c => b = c) m s H (f e s) Q fun c d H' => W c d σ H'
end
section
variable {K : PySem.W.Frag} {ca : Cl → Addr} {m m1 m2 m' : Nat → Addr} {s s1 s2 s' : St} {H H1 H2 H' : Hp} {α β α' β' : Type} {rel : (Nat → Addr) → Nat → Hp → α → β → Prop} {rel' : (Nat → Addr) → Nat → Hp → α' → β' → Prop}
theorem PostE.later (x : Ext m s H m1 s1 H1) (r1 : SR K ca m1 s1 H1) {r : R α} {Q : β → Hp → Prop} {E : XK} (h : PostE K ca rel m s H r Q E) : PostE K ca rel m1 s1 H1 r Q E := by
  cases r with
  | ok d s' => exact fun m' H' v y sr rp => h m' H' v (x.trans y r1) sr rp
  | err c s' => exact fun m' H' dd y sr xr => h m' H' dd (x.trans y r1) sr xr
  | bad => exact h
theorem PostE.mono {r : R α} {Q Q' : β → Hp → Prop} {E E' : XK} (h : PostE K ca rel m s H r Q E) (hq : ∀ v H', Q v H' → Q' v H') (he : ∀ c d H', E c d H' → E' c d H') : PostE K ca rel m s H r Q' E' := by
  cases r with
  | ok d s' => exact fun m' H' v y sr rp => hq _ _ (h m' H' v y sr rp)
  | err c s' => exact fun m' H' dd y sr xr => he _ _ _ (h m' H' dd y sr xr)
  | bad => exact h
theorem PostE.bind {r : R α'} {f : α' → St → R α} {Q : β → Hp → Prop} {E : XK} (h : PostE K ca rel m s H (r.bind f) Q E) :
    PostE K ca rel' m s H r (fun v H1 => ∃ m1 d s1, Ext m s H m1 s1 H1 ∧ SR K ca m1 s1 H1 ∧ rel' m1 s1.length H1 d v ∧ PostE K ca rel m1 s1 H1 (f d s1) Q E) E := by
  cases r with
  | ok d s1 => exact fun m1 H1 v x sr rp => ⟨m1, d, s1, x, sr, rp, PostE.later x sr h⟩
  | err c s1 => exact h
  | bad => exact h.elim
theorem PostE.ok {d : α} {v : β} {Q : β → Hp → Prop} {E : XK} (h : PostE K ca rel m s H (.ok d s) Q E) (sr : SR K ca m s H) (rp : rel m s.length H d v) : Q v H := h m H v Ext.refl sr rp
end

/-! ### the static facts -/
/-- where things stand -/
structure Pl where
  ca : Cl → Addr
  fa : Fn → Addr
  xc : Xs := none
/-- a def's promise, from the evaluator -/
def spF (K : PySem.W.Frag) (pl : Pl) (C : Calls) (f : Fn) : Sp := fun vs H Q E => ∃ m s ds, SR K pl.ca m s H ∧ RpL K pl.ca m s.length H ds vs ∧ PostE K pl.ca (Rp K pl.ca) m s H (C f ds s) Q E
/-- what a class has under a name -/
def MemOk (K : PySem.W.Frag) (pl : Pl) (c : Cl) (f : At) : Option Mem → Prop
  | none => NoAttr K (pl.ca c) (At.nm f)
  | some (.fn g) => Meth K (pl.ca c) (At.nm f) (pl.fa g)
  | some .oth => True
  | some (.prop g) => ∃ p, PropOf K (pl.ca c) (At.nm f) p (pl.fa g)
  | some (.cm g) => ∃ mc p, ClX.CRead K (pl.ca c) mc ∧ ClX.CMet K (pl.ca c) mc (At.nm f) p (pl.fa g)
  | some (.con d) => ∃ mc v u, ClX.CRead K (pl.ca c) mc ∧ ClX.CVal K (pl.ca c) mc (At.nm f) v u ∧ Con K (pl.ca c) (At.nm f) v u ∧ ∀ m n H, Rp K pl.ca m n H d v
/-- the machine's value of a kind -/
def Kd.v (pl : Pl) : Kd → Value
  | .ty t => .type (Ty.nm t)
  | .cls c => .ref (pl.ca c)
def D.cv (pl : Pl) : D → Value
  | .ty t => .type (Ty.nm t)
  | .cls c => .ref (pl.ca c)
  | _ => .none
structure Kit (K : PySem.W.Frag) (G : Ctx) (pl : Pl) : Prop where
  one : ∀ k d b, isOne G k d = some b → PySem.W.kitOne K (k.v pl) (d.cv pl) = some b
  cls : ∀ c, G.exc c = false → InsOk K (pl.ca c)
  n : PySem.W.specialIn K (.builtin "object.__class__") "__get__" = some (some (.builtin "getset_descriptor.__get__"))
  tk : PySem.W.takesIn K (.builtin "object.__class__") = some true
  tn : Ty.nm .none = "NoneType" ∧ Ty.nm .bool = "bool" ∧ Ty.nm .int = "int" ∧ Ty.nm .str = "str" ∧ Ty.nm .tuple = "tuple" ∧ Ty.nm .list = "list"
/-- an exception's class -/
structure ExcOk (K : PySem.W.Frag) (C : Addr) (xi : Bool) : Prop where
  ex : xi = false → PySem.W.excIn K C [.type "ValueError", .type "Exception", .type "BaseException", .type "object"] "ValueError.__new__" = true
  sub : PySem.W.subIn K (.ref C) (.type "BaseException") = some true
  ty : PySem.W.typeIn K (.ref C) = some (.type "type")
  cc : ExcC K C
/-- the operators' names -/
structure Nms : Prop where
  dadd : At.nm .dadd = "__add__"
  dmul : At.nm .dmul = "__mul__"
  dpow : At.nm .dpow = "__pow__"
  dand : At.nm .dand = "__and__"
  dor : At.nm .dor = "__or__"
  drsh : At.nm .drshift = "__rshift__"
  deq : At.nm .deq = "__eq__"
  dle : At.nm .dle = "__le__"
  dlt : At.nm .dlt = "__lt__"
  dinv : At.nm .dinvert = "__invert__"
  dabs : At.nm .dabs = "__abs__"
  dstr : At.nm .dstr = "__str__"
/-- what holds of the module -/
structure Mok (K : PySem.W.Frag) (mg : Str → Option Value) (G : Ctx) (pl : Pl) : Prop where
  con : ∀ g, ∃ u v, mg (Gc.nm g) = some u ∧ RelV v u ∧ ∀ m n H, Rp K pl.ca m n H (G.con g) v
  cls : ∀ c, mg (Cl.nm c) = some (.ref (pl.ca c))
  inj : ∀ c c', pl.ca c = pl.ca c' → c = c'
  ainj : ∀ f g, At.nm f = At.nm g → f = g
  fnm : ∀ f, G.glob f = true → mg (Fn.nm f) = some (.ref (pl.fa f))
  free : ∀ b : Bi, mg b.nm = none
  freeT : ∀ t, mg (Ty.gn t) = none
  bb : ∀ t, t ≠ .none → bootBuiltins (Ty.gn t) = some (.type (Ty.nm t))
  rng : mg "range" = none
  nms : Nms
  sf : ∀ c, G.exc c = false → PySem.W.selfFirst K (pl.ca c) = true
  nf : ∀ (c : Cl) (k : Kd), G.exc c = false → PySem.W.notFirst K (pl.ca c) (k.v pl) = true
  kit : Kit K G pl
  mem : ∀ c f, G.exc c = false → MemOk K pl c f (G.mem c f)
  mker : ∀ c g, G.exc c = false → G.mem c .init = some (.fn g) → Mk K (pl.ca c) (pl.fa g)
  ckeep : ∀ c, PySem.W.keepIn K (.ref (pl.ca c)) = true
  exc : ∀ c, G.exc c = true → ExcOk K (pl.ca c) (G.xini c)
  exm : ∀ c c', G.exc c = true → G.exc c' = true → PySem.W.exmOne K (.ref (pl.ca c)) (.ref (pl.ca c')) = some (G.sub c c')
  self : ∀ c g f, G.exc c = false → G.mem c f = some (.fn g) → PySem.W.isFn K (.ref (pl.fa g)) = true
/-- the calls keep their promises at the level k -/
structure CallsOk (P : Program) (w : World) (K : PySem.W.Frag) (mg : Str → Option Value) (base : Heap) (G : Ctx) (pl : Pl) (C : Calls) (k : Nat) : Prop where
  fn : ∀ f d, G.fn f = some d → FnR P w K mg base (L2.CX P w) k (pl.fa f) (spF K pl C f) ∧ PySem.W.keepIn K (.ref (pl.fa f)) = true ∧ PySem.W.fnIn K (pl.fa f) = true
  no : ∀ f ds s, G.fn f = none → C f ds s = .bad
/-- a context in which code runs: within a def (cx = none), or where an exception is handled -/
structure Run (X : Cx) (G : Ctx) (pl : Pl) (C C1 : Calls) (W : WX) (k : Nat) (hot : Bool) : Prop where
  mok : Mok X.K X.mg G pl
  calm : hot = false → X.calm = true
  tk : Takes X W
  ok : CallsOk X.prog X.w X.K X.mg X.base G pl C k
  ok1 : CallsOk X.prog X.w X.K X.mg X.base G pl C1 (k - 1)
  zero : k = 0 → C1 = fun _ _ _ => .bad
  room : hot = false → Room k X.A
  bad : hot = true → C = (fun _ _ _ => .bad) ∧ C1 = fun _ _ _ => .bad
  un : X.A.units + 64 < cLine
end Lt
/-! ### texts: does a text say what our syntax says? -/
namespace Lt
open PySem PySem.Spec PyProof.Rows L2
structure Sc where
  N : List Str
  sc : Scope
  gl : Fn → Bool
def Sc.var (S : Sc) (i : Nat) (x : Str) : Bool := decide (S.N[i]? = some x) && ((S.sc.names.lookup x == some .local || (S.sc.names.lookup x == some .cell || S.sc.names.lookup x == some .free)) && (!(x == ("__debug__" : Str)) && !(x == ("__classdict__" : Str))))
def Sc.loc (S : Sc) (i : Nat) (x : Str) : Bool := decide (S.N[i]? = some x) && (S.sc.names.lookup x == some .local || S.sc.names.lookup x == some .cell)
def Sc.glo (S : Sc) (x : Str) : Bool := (S.sc.names.lookup x == some .globalImplicit) && (!(x == ("__debug__" : Str)) && !(x == ("__name__" : Str)))
def opB : Bop → Operator → Bool
  | .add, .Add => true
  | .sub, .Sub => true
  | .mul, .Mult => true
  | .fdiv, .FloorDiv => true
  | .mod, .Mod => true
  | .pow, .Pow => true
  | .band, .BitAnd => true
  | .bor, .BitOr => true
  | .rsh, .RShift => true
  | _, _ => false
def opC : Cop → CmpOp → Bool
  | .eq, .Eq => true
  | .ne, .NotEq => true
  | .lt, .Lt => true
  | .le, .LtE => true
  | .gt, .Gt => true
  | .ge, .GtE => true
  | .is, .Is => true
  | .isnot, .IsNot => true
  | .isin, .In => true
  | .notin, .NotIn => true
  | _, _ => false
def notSet : Expr → Bool
  | .Set _ _ _ => false
  | _ => true
def boolRest (o : BoolOp) (y : Expr) (r : List Expr) (p : Pos) : Expr := match r with
  | [] => y
  | _ => .BoolOp o (y :: r) p
def notTup : Expr → Bool
  | .Tuple _ _ _ => false
  | _ => true
/-- no super() -/
def baseOk : Expr → Bool
  | .Call (.Name x _) [] [] _ => !(x == ("super" : Str))
  | _ => true
def isStar : Expr → Bool
  | .Starred _ _ => true
  | _ => false
def isSlice : Expr → Bool
  | .Slice _ _ _ _ => true
  | _ => false
def few (l : List Expr) : Bool := decide (l.length < 30)
def optE : Option Expr → Expr
  | none => .Constant .none 0 ⟨0, 0, 0, 0⟩
  | some e => e
def isSet : Expr → Bool
  | .Set _ _ _ => true
  | _ => false
def blkB (N : List Str) (sc scope : Scope) (is : List Nat) : Bool := decide (scope.kind = .function) && (scope.names.all (fun y => scope.names.lookup y.1 == some y.2) && (is.all (fun i => decide (i < N.length)) &&
  (scope.names.all (fun y => !(y.2 == .free) || (sc.names.lookup y.1 == some .cell || sc.names.lookup y.1 == some .free)) && scope.names.all (fun y => !(y.2 == .local || y.2 == .cell) || (is.any (fun i => decide (N[i]? = some y.1)) || !decide (y.1 ∈ N))))))
def Sc.own (S : Sc) (i : Nat) (x : Str) : Bool := decide (S.N[i]? = some x) && (S.sc.names.lookup x == some .local)
def chkNl (S : Sc) : List Nat → List Expr → Bool
  | [], [] => true
  | i :: is, .Name x _ :: l => S.own i x && chkNl S is l
  | _, _ => false
def chkTB (S : Sc) : Bool → List Nat → Expr → Bool
  | true, [i], .Name x _ => S.own i x
  | false, is, .Tuple l _ _ => chkNl S is l
  | _, _, _ => false
def relS (sc scope : Scope) : Scope := { scope with names := scope.names.map fun (n, k) => if (k == NameKind.free && sc.kind == .function && sc.names.lookup n == some .cell) then (n, NameKind.cell) else (n, k) }
mutual
def chkE : Sc → Option Nat → Ex → Expr → Bool
  | S, xv, .var i, .Name x _ => S.var i x && decide (xv ≠ some i)
  | S, xv, .non, .Constant .none _ _ => true
  | S, xv, .bl b, .Constant (.bool c) _ _ => b == c
  | S, xv, .int i, .Constant (.int j) _ _ => decide (i = j)
  | S, xv, .str x, .Constant (.str y) _ _ => decide (toStr x = y)
  | S, xv, .gcon g, .Name x _ => decide (x = Gc.nm g) && S.glo x
  | S, xv, .gcls c, .Name x _ => decide (x = Cl.nm c) && S.glo x
  | S, xv, .gty t, .Name x _ => decide (t ≠ .none) && (decide (x = Ty.gn t) && S.glo x)
  | S, xv, .tup es, .Tuple l _ _ => chkEs S xv es l
  | S, xv, .lst es, .List l _ => chkEs S xv es l
  | S, xv, .bin o a b, .BinOp l p r _ => opB o p && (chkE S xv a l && chkE S xv b r)
  | S, xv, .neg a, .UnaryOp .USub x _ => chkE S xv a x
  | S, xv, .inv a, .UnaryOp .Invert x _ => chkE S xv a x
  | S, xv, .not a, .UnaryOp .Not x _ => chkE S xv a x
  | S, xv, .cmp o a b, .Compare l [p] [r] _ => opC o p && (notSet r && (chkE S xv a l && chkE S xv b r))
  | S, xv, .cmp2 o o' a b c, .Compare l [p, p'] [r, r'] _ => opC o p && (opC o' p' && (notSet r' && (chkE S xv a l && (chkE S xv b r && chkE S xv c r'))))
  | S, xv, .and a b, .BoolOp .And (x :: y :: r) p => chkE S xv a x && chkE S xv b (boolRest .And y r p)
  | S, xv, .or a b, .BoolOp .Or (x :: y :: r) p => chkE S xv a x && chkE S xv b (boolRest .Or y r p)
  | S, xv, .ife c a b, .IfExp t x y _ => chkE S xv c t && (chkE S xv a x && chkE S xv b y)
  | S, xv, .ix a b, .Subscript x y _ => notTup y && (chkE S xv a x && chkE S xv b y)
  | S, xv, .sl a lo hi, .Subscript x (.Slice l h none _) _ => chkE S xv a x && ((lo.isNon == l.isNone && chkE S xv lo (optE l)) && (hi.isNon == h.isNone && chkE S xv hi (optE h)))
  | S, xv, .att a f, .Attribute x n _ => decide (n = At.nm f) && (baseOk x && chkE S xv a x)
  | S, xv, .call f es, .Call (.Name x _) l [] _ => S.gl f && (decide (x = Fn.nm f) && (S.glo x && chkEs S xv es l))
  | S, xv, .mk c es, .Call (.Name x _) l [] _ => decide (x = Cl.nm c) && (S.glo x && chkEs S xv es l)
  | S, xv, .mkl i es, .Call (.Name x _) (y :: l) [] _ => S.var i x && (decide (xv ≠ some i) && chkEs S xv es (y :: l))
  | S, xv, .fstr es, .JoinedStr (y :: l) _ => chkFs S xv es (y :: l)
  | S, xv, .bi b es, .Call (.Name x _) (y :: l) [] _ => decide (x = Bi.nm b) && (S.glo x && chkEs S xv es (y :: l))
  | S, xv, .meth a m es, .Call (.Attribute x n ap) l [] p => decide (n = At.nm m) && ((ap.endLine == p.line) && (few l && (baseOk x && (chkE S xv a x && chkEs S xv es l))))
  | S, xv, .cmeth c m es, .Call (.Attribute (.Name x _) n ap) (y :: l) [] p => decide (x = Cl.nm c) && (S.glo x && (decide (n = At.nm m) && ((ap.endLine == p.line) && (few (y :: l) && chkEs S xv es (y :: l)))))
  | S, xv, .bm a m es, .Call (.Attribute x n ap) l [] p => decide (n = Bm.nm m) && ((ap.endLine == p.line) && (few l && (baseOk x && (chkE S xv a x && chkEs S xv es l))))
  | S, xv, .dead, x => !(isStar x) && !(isSlice x)
  | S, xv, .lc elt one is it ifs, .ListComp x [⟨tg, iter, fs, 0⟩] scope _ => xv.isNone && (blkB S.N S.sc scope is && (chkTB ⟨S.N, relS S.sc scope, S.gl⟩ one is tg && (chkI S xv it iter && (chkEs ⟨S.N, relS S.sc scope, S.gl⟩ none ifs fs && chkE ⟨S.N, relS S.sc scope, S.gl⟩ none elt x))))
  | S, xv, .xis t, .Call (.Name x _) [.Name y _, r] [] _ => decide (x = Bi.nm .isinstance) && (S.glo x && (chkE S xv t r && (match xv with
    | some i => S.var i y
    | none => false)))
  | _, _, _, _ => false
def chkEs : Sc → Option Nat → Exs → List Expr → Bool
  | S, xv, .nil, [] => true
  | S, xv, .cons e es, x :: l => chkE S xv e x && chkEs S xv es l
  | _, _, _, _ => false
def chkFs : Sc → Option Nat → Exs → List Expr → Bool
  | S, xv, .nil, [] => true
  | S, xv, .cons (.str x) es, .Constant (.str y) _ _ :: l => decide (toStr x = y) && (decide (x.length ≤ lim) && chkFs S xv es l)
  | S, xv, .cons e es, .FormattedValue x (-1) none _ :: l => chkE S xv e x && chkFs S xv es l
  | _, _, _, _ => false
def chkI : Sc → Option Nat → It → Expr → Bool
  | S, xv, .val e, x => !(isSet x) && chkE S xv e x
  | S, xv, .rng e, .Call (.Name n _) [x] [] _ => decide (n = ("range" : Str)) && (S.glo n && chkE S xv e x)
  | S, xv, .rng2 e e2, .Call (.Name n _) [x, x2] [] _ => decide (n = ("range" : Str)) && (S.glo n && (chkE S xv e x && chkE S xv e2 x2))
  | _, _, _, _ => false
end

theorem star_ne {e : Expr} {es : List Expr} {env : PySem.Env} (h : ∀ v p, e ≠ .Starred v p) : starEach (e :: es) env = (false, eval e env) :: starEach es env := by
  cases e <;> first | rfl | exact absurd rfl (h _ _)
theorem plain_ix {b : Expr} (h : ∀ l u st p, b ≠ .Slice l u st p) (h2 : ∀ es k p, b ≠ .Tuple es k p) : PlainIx b := by
  intro o i
  cases b <;> first | rfl | exact absurd rfl (h _ _ _ _) | exact absurd rfl (h2 _ _ _)
theorem attr_base {e : Expr} {f : Str} {env : PySem.Env} (h : baseOk e = true) : attributeBase e f env (eval e env) = eval e env := by
  unfold attributeBase
  split
  · rename_i id p1 p2
    have h' : (!(id == ("super" : Str))) = true := h
    have h2 : (id != ("super" : Str)) = true := h'
    rw [h2]
    rfl
  · rfl
theorem is_true {e : Expr} {env : PySem.Env} (h1 : ∀ o vs p, e ≠ .BoolOp o vs p) (h2 : ∀ x p, e ≠ .UnaryOp .Not x p) (h3 : ∀ l o c p, e ≠ .Compare l o c p) (h4 : ∀ a b c p, e ≠ .IfExp a b c p) (whole : Sem Value) : isTrue e env whole = (do let v ← whole; standAt e.pos; holding [v] (truthy v)) := by
  cases e with
  | UnaryOp o x p =>
    cases o with
    | Not => exact absurd rfl (h2 _ _)
    | _ => rfl
  | BoolOp o vs p => exact absurd rfl (h1 _ _ _)
  | Compare l o c p => exact absurd rfl (h3 _ _ _ _)
  | IfExp a b c p => exact absurd rfl (h4 _ _ _ _)
  | _ => rfl
end Lt
/-! ### expressions -/
namespace Lt
open PySem PySem.Spec PyProof.Rows L2
section
variable {X : Cx} {pl : Pl} {W : WX} {fa fb fc : Lt.Env → Lt.St → R D} {l r e0 : Expr} {pos : Pos}
local macro_rules | `(tactic| trivial) => `(tactic| assumption)
abbrev TE' (X : Cx) (pl : Pl) (W : WX) (f : Lt.Env → Lt.St → R D) : TE := tE X.K pl.ca pl.xc W f
abbrev PoE (X : Cx) (pl : Pl) (m : Nat → Addr) (s : Lt.St) (H : Hp) (r : R D) (Q : VK) (E : XK) : Prop := PostE X.K pl.ca (Rp X.K pl.ca) m s H r Q E
/-- a one-place, a two-place operation of the machine does what ours does -/
def Op1 (X : Cx) (pl : Pl) (W : WX) (f : Value → Sem Value) (g : D → Lt.St → R D) : Prop :=
  ∀ (pins : List (Addr × Obj)) (s : Shared) (σ : L2.St) (H : Hp) (m : Nat → Addr) (st : Lt.St) (d : D) (x : V) (v : Value) (Q : VK), Inv X pins σ H s → RelV x v → SR X.K pl.ca m st H → Rp X.K pl.ca m st.length H d x →
    PoE X pl m st H (g d st) Q (fun c d H' => W c d σ H') → wpAny (model X.prog X.w) X.A (f v) (EP X pins σ Q) X.xe s
def Op2 (X : Cx) (pl : Pl) (W : WX) (f : Value → Value → Sem Value) (g : D → D → Lt.St → R D) : Prop :=
  ∀ (pins : List (Addr × Obj)) (s : Shared) (σ : L2.St) (H : Hp) (m : Nat → Addr) (st : Lt.St) (d1 d2 : D) (x y : V) (v u : Value) (Q : VK), Inv X pins σ H s → RelV x v → RelV y u → SR X.K pl.ca m st H → Rp X.K pl.ca m st.length H d1 x → Rp X.K pl.ca m st.length H d2 y →
    PoE X pl m st H (g d1 d2 st) Q (fun c d H' => W c d σ H') → wpAny (model X.prog X.w) X.A (f v u) (EP X pins σ Q) X.xe s
/-- where both of two operands are reckoned -/
def R2D (X : Cx) (pl : Pl) (W : WX) (σ : L2.St) (g : D → D → Lt.St → R D) (Q : VK) : V → V → Hp → Prop := fun x y H2 =>
  ∃ m2 d1 d2 s2, SR X.K pl.ca m2 s2 H2 ∧ Rp X.K pl.ca m2 s2.length H2 d1 x ∧ Rp X.K pl.ca m2 s2.length H2 d2 y ∧ PoE X pl m2 s2 H2 (g d1 d2 s2) Q (fun c d H' => W c d σ H')
theorem two {g : D → D → Lt.St → R D} {σ : L2.St} {H : Hp} {Q : VK} (h : TE' X pl W (fun e s => (fa e s).bind fun x s => (fb e s).bind fun y s => g x y s) σ H Q) :
    TE' X pl W fa σ H fun x H1 => TE' X pl W fb σ H1 fun y H2 => R2D X pl W σ g Q x y H2 := by
  obtain ⟨m, st, e, sr, er, post⟩ := h
  exact ⟨m, st, e, sr, er, (PostE.bind (rel' := Rp X.K pl.ca) post).mono (fun v H1 ⟨m1, d, s1, x1, sr1, rp, p1⟩ => ⟨m1, s1, e, sr1, x1.er sr er, (PostE.bind (rel' := Rp X.K pl.ca) p1).mono (fun y H2 ⟨m2, d2, s2, x2, sr2, rp2, p2⟩ =>
    ⟨m2, d, d2, s2, sr2, x2.rp sr1 rp, rp2, p2⟩) fun _ _ _ h => h⟩) fun _ _ _ h => h⟩
theorem one {g : D → Lt.St → R D} {σ : L2.St} {H : Hp} {Q : VK} (h : TE' X pl W (fun e s => (fa e s).bind fun x s => g x s) σ H Q) :
    TE' X pl W fa σ H fun x H1 => ∃ m d s, SR X.K pl.ca m s H1 ∧ Rp X.K pl.ca m s.length H1 d x ∧ PoE X pl m s H1 (g d s) Q (fun c d H' => W c d σ H') := by
  obtain ⟨m, st, e, sr, er, post⟩ := h
  exact ⟨m, st, e, sr, er, (PostE.bind (rel' := Rp X.K pl.ca) post).mono (fun v H1 ⟨m1, d, s1, x1, sr1, rp, p1⟩ => ⟨m1, d, s1, sr1, rp, p1⟩) fun _ _ _ h => h⟩
theorem snd_bin {p : Operator} {g : D → D → Lt.St → R D} (ho : Op2 X pl W (binaryOp p) g) (ha : PE X l (TE' X pl W fa)) (hb : PE X r (TE' X pl W fb)) :
    PE X (.BinOp l p r pos) (TE' X pl W fun e s => (fa e s).bind fun x s => (fb e s).bind fun y s => g x y s) :=
  ⟨fun pins s σ H Q I h => wpAny_BinOp (bin ha hb I (two h) fun v u s2 x y H2 I2 rx ry ⟨m2, d1, d2, s2', sr, r1, r2, p2⟩ => ho pins s2 σ H2 m2 s2' d1 d2 x y v u Q I2 rx ry sr r1 r2 p2)⟩
theorem snd_cmp {p : CmpOp} {g : D → D → Lt.St → R D} (ho : Op2 X pl W (compareOp p) g) (ha : PE X l (TE' X pl W fa)) (hb : PE X r (TE' X pl W fb)) (hm : behindInMarks p r = false) :
    PE X (.Compare l [p] [r] pos) (TE' X pl W fun e s => (fa e s).bind fun x s => (fb e s).bind fun y s => g x y s) :=
  pe_cmp ⟨fun pins s σ H Q I h => bin ha hb I (two h) fun v u s2 x y H2 I2 rx ry ⟨m2, d1, d2, s2', sr, r1, r2, p2⟩ => ho pins s2 σ H2 m2 s2' d1 d2 x y v u Q I2 rx ry sr r1 r2 p2⟩ hm
theorem snd_un {p : UnaryOp} {g : D → Lt.St → R D} (ho : Op1 X pl W (unaryOp p) g) (hp : p ≠ .Not) (ha : PE X l (TE' X pl W fa)) :
    PE X (.UnaryOp p l pos) (TE' X pl W fun e s => (fa e s).bind fun x s => g x s) := by
  refine ⟨fun pins s σ H Q I h => ?_⟩
  cases p with
  | Not => exact absurd rfl hp
  | _ => exact wpAny_UnaryOp (thn (ha.run pins s σ H _ I (one h)) fun v s1 ⟨x, H1, I1, rx, m, d, st, sr, rp, po⟩ => ho pins s1 σ H1 m st d x v Q I1 rx sr rp po)
end
end Lt
namespace Lt
open PySem PySem.Spec PyProof.Rows L2
theorem R.bind_assoc {α β γ : Type} (r : R α) (f : α → Lt.St → R β) (g : β → Lt.St → R γ) : (r.bind f).bind g = r.bind fun a s => (f a s).bind g := by
  cases r <;> rfl
section
variable {X : Cx} {pl : Pl} {W : WX} {fa fb fc : Lt.Env → Lt.St → R D} {l r e0 : Expr} {pos : Pos}
abbrev TT' (X : Cx) (pl : Pl) (W : WX) (f : Lt.Env → Lt.St → R D) : TT := tB X.K pl.ca pl.xc W fun e s => (f e s).bind truth
abbrev TA' (X : Cx) (pl : Pl) (W : WX) (f : Lt.Env → Lt.St → R (List D)) : TA := tEs X.K pl.ca pl.xc W f
/-- PE by weaker readings -/
theorem pe_imp {t t' : TE} (h : PE X l t) (q : ∀ σ H Q, t' σ H Q → t σ H Q) : PE X l t' := ⟨fun pins s σ H Q I z => h.run pins s σ H Q I (q σ H Q z)⟩
theorem pt_imp {t t' : TT} (h : PT X l t) (q : ∀ σ H Q, t' σ H Q → t σ H Q) : PT X l t' := ⟨fun pins s σ H Q I z => h.run pins s σ H Q I (q σ H Q z)⟩
theorem pw_imp {t t' : TT} (h : PW X l t) (q : ∀ σ H Q, t' σ H Q → t σ H Q) : PW X l t' := ⟨fun wh pins s σ H Q I z => h.run wh pins s σ H Q I (q σ H Q z)⟩
theorem pa_imp {es : List Expr} {t t' : TA} (h : PA X es t) (q : ∀ σ H Q, t' σ H Q → t σ H Q) : PA X es t' := ⟨fun p pins s σ H Q I z => h.run p pins s σ H Q I (q σ H Q z)⟩
/-- what is shown of an expression -/
structure Snd (X : Cx) (pl : Pl) (W : WX) (e : Expr) (f : Lt.Env → Lt.St → R D) : Prop where
  pe : PE X e (TE' X pl W f)
  pt : PT X e (TT' X pl W f)
  pw : ∀ o vs p, e = .BoolOp o vs p → PW X e (TT' X pl W f)
theorem lim_line {n : Nat} (h : n ≤ lim) : n ≤ sizeLine := Nat.le_trans h (by decide)
theorem toStr_len (z : List Nat) : (toStr z).length = z.length := by
  show z.toArray.size = z.length
  simp
theorem rpl_empty {m : Nat → Addr} {n : Nat} {H : Hp} {ds : List D} {vs : List V} (h : RpL X.K pl.ca m n H ds vs) : vs.isEmpty = ds.isEmpty := by
  cases ds with
  | nil =>
    obtain rfl : vs = [] := h
    rfl
  | cons d ds =>
    obtain ⟨v, r, rfl, _, _⟩ := h
    rfl
theorem truF_ok {m : Nat → Addr} {st : Lt.St} {H : Hp} {d : D} {x : V} {b : Bool} (sr : SR X.K pl.ca m st H) (rp : Rp X.K pl.ca m st.length H d x) (h : truF st d = some b) : TruV X.K x H b := by
  cases d with
  | non =>
    obtain rfl : x = .non := rp
    cases h
    rfl
  | bl c =>
    obtain rfl : x = .bl c := rp
    cases h
    rfl
  | int i =>
    obtain rfl : x = .int i := rp
    cases h
    show decide (i ≠ 0) = (i != 0)
    by_cases e : i = 0 <;> simp [e]
  | str z =>
    obtain rfl : x = .str (toStr z) := rp
    have h' : (if z.length ≤ lim then some (!z.isEmpty) else none) = some b := h
    by_cases hz : z.length ≤ lim
    · rw [if_pos hz] at h'
      cases h'
      refine ⟨lim_line (by rw [toStr_len]; exact hz), ?_⟩
      rw [toStr_len]
      cases z <;> simp
      omega
    · rw [if_neg hz] at h'
      cases h'
  | tup ds =>
    obtain ⟨a, vs, rfl, h1, h2⟩ := rp
    cases h
    exact .inr (.inl ⟨vs, h1.sq, by rw [rpl_empty h2]⟩)
  | fz ds => cases h
  | obj i =>
    obtain ⟨hi, rfl⟩ := rp
    have h' : (match st[i]? with | some (.lst xs) => some (!xs.isEmpty) | _ => none) = some b := h
    cases e : st[i]? with
    | none =>
      rw [e] at h'
      cases h'
    | some o =>
      rw [e] at h'
      cases o with
      | lst xs =>
        cases h'
        obtain ⟨vs, h1, h2⟩ := sr.ob i _ e
        exact .inl ⟨vs, SqL.of h1, by rw [rpl_empty h2]⟩
      | ins c fs => cases h'
  | cls c => cases h
  | ty t => cases h
/-- an expression that is no test by itself -/
theorem Snd.plain (h : PE X l (TE' X pl W fa)) (h1 : ∀ o vs p, l ≠ .BoolOp o vs p) (h2 : ∀ x p, l ≠ .UnaryOp .Not x p) (h3 : ∀ a o c p, l ≠ .Compare a o c p) (h4 : ∀ a b c p, l ≠ .IfExp a b c p) : Snd X pl W l fa where
  pe := h
  pt := pt_imp (pt_truth h (is_true h1 h2 h3 h4)) fun σ H Q ⟨m, st, e, sr, er, post⟩ => ⟨m, st, e, sr, er, (PostE.bind (rel' := Rp X.K pl.ca) post).mono (fun v H1 ⟨m1, d, s1, x1, sr1, rp, p1⟩ => by
    unfold truth at p1
    cases e : truF s1 d with
    | none =>
      rw [e] at p1
      exact p1.elim
    | some b =>
      rw [e] at p1
      exact ⟨b, truF_ok sr1 rp e, p1 _ _ _ Ext.refl sr1 rfl⟩) fun _ _ _ h => h⟩
  pw := fun o vs p e => absurd e (h1 o vs p)
end
end Lt
namespace Lt
open PySem PySem.Spec PyProof.Rows L2
section
variable {X : Cx} {pl : Pl} {W : WX} {fa fb fc : Lt.Env → Lt.St → R D} {l r e0 : Expr} {pos : Pos}
theorem ER.get {K : PySem.W.Frag} {ca : Cl → Addr} {m : Nat → Addr} {n : Nat} {H : Hp} : ∀ {e : Lt.Env} {σ : L2.St} {i : Nat} {d : D}, ER K ca m n H e σ → e[i]? = some (some d) → ∃ v, σ[i]? = some (some v) ∧ Rp K ca m n H d v
  | [], _, _, _, _, h => by simp at h
  | none :: e, _, 0, _, _, h => by simp at h
  | none :: e, _, i + 1, d, ⟨v, r, q, g⟩, h => by
    subst q
    exact ER.get (i := i) g (by simpa using h)
  | some c :: e, _, 0, d, ⟨v, r, q, g1, g⟩, h => by
    subst q
    simp at h
    subst h
    exact ⟨v, rfl, g1⟩
  | some c :: e, _, i + 1, d, ⟨v, r, q, g1, g⟩, h => by
    subst q
    exact ER.get (i := i) g (by simpa using h)
theorem ER.set {K : PySem.W.Frag} {ca : Cl → Addr} {m : Nat → Addr} {n : Nat} {H : Hp} {d : D} {v : V} (rp : Rp K ca m n H d v) : ∀ {e : Lt.Env} {σ : L2.St} (i : Nat), ER K ca m n H e σ → ER K ca m n H (e.set i (some d)) (σ.set i (some v))
  | [], _, i, g => by
    have g' : _ = ([] : L2.St) := g
    subst g'
    exact rfl
  | none :: e, _, 0, ⟨w, r, q, g⟩ => by
    subst q
    exact ⟨v, r, rfl, rp, g⟩
  | none :: e, _, i + 1, ⟨w, r, q, g⟩ => by
    subst q
    exact ⟨w, _, rfl, ER.set rp i g⟩
  | some c :: e, _, 0, ⟨w, r, q, g1, g⟩ => by
    subst q
    exact ⟨v, r, rfl, rp, g⟩
  | some c :: e, _, i + 1, ⟨w, r, q, g1, g⟩ => by
    subst q
    exact ⟨w, _, rfl, g1, ER.set rp i g⟩
theorem ER.unset {K : PySem.W.Frag} {ca : Cl → Addr} {m : Nat → Addr} {n : Nat} {H : Hp} {v : Option V} : ∀ {e : Lt.Env} {σ : L2.St} (i : Nat), ER K ca m n H e σ → ER K ca m n H (e.set i none) (σ.set i v)
  | [], _, i, g => by
    have g' : _ = ([] : L2.St) := g
    subst g'
    exact rfl
  | none :: e, _, 0, ⟨w, r, q, g⟩ => by
    subst q
    exact ⟨v, r, rfl, g⟩
  | none :: e, _, i + 1, ⟨w, r, q, g⟩ => by
    subst q
    exact ⟨w, _, rfl, ER.unset i g⟩
  | some c :: e, _, 0, ⟨w, r, q, g1, g⟩ => by
    subst q
    exact ⟨v, r, rfl, g⟩
  | some c :: e, _, i + 1, ⟨w, r, q, g1, g⟩ => by
    subst q
    exact ⟨w, _, rfl, g1, ER.unset i g⟩
theorem snd_var {i : Nat} {x : Str} (hN : X.N[i]? = some x) (hv : Vis X.env.scope x) (hd : (x == ("__debug__" : Str)) = false) (hc : (x == ("__classdict__" : Str)) = false) :
    PE X (.Name x pos) (TE' X pl W fun e s => match e[i]? with | some (some d) => .ok d s | _ => .bad) :=
  pe_imp (pe_var hN hv hd hc) fun σ H Q ⟨m, st, e, sr, er, post⟩ => by
    dsimp only at post
    cases h : e[i]? with
    | none =>
      rw [h] at post
      exact post.elim
    | some o =>
      rw [h] at post
      cases o with
      | none => exact post.elim
      | some d =>
        obtain ⟨v, h1, h2⟩ := er.1.get h
        exact ⟨v, h1, post _ _ _ Ext.refl sr h2⟩
theorem snd_con {v : V} {d : D} (h : PE X l (tC v)) (rp : ∀ m n H, Rp X.K pl.ca m n H d v) : PE X l (TE' X pl W fun _ s => .ok d s) :=
  pe_imp h fun σ H Q ⟨m, st, e, sr, er, post⟩ => post _ _ _ Ext.refl sr (rp _ _ _)
/-! and, or, not, if -/
theorem sp_val {g : D → Lt.St → R D} {σ : L2.St} {H : Hp} {Q : VK} (h : TE' X pl W (fun e s => (fa e s).bind fun x s => g x s) σ H Q) (q : ∀ m d s x H1, SR X.K pl.ca m s H1 → Rp X.K pl.ca m s.length H1 d x → PoE X pl m s H1 (g d s) Q (fun c d H' => W c d σ H') → Q x H1) :
    TE' X pl W fa σ H Q := by
  obtain ⟨m, st, e, sr, er, post⟩ := h
  exact ⟨m, st, e, sr, er, (PostE.bind (rel' := Rp X.K pl.ca) post).mono (fun v H1 ⟨m1, d, s1, x1, sr1, rp, p1⟩ => q m1 d s1 v H1 sr1 rp p1) fun _ _ _ h => h⟩
/-- behind a first part, the environment is kept -/
theorem keep_env {g : D → Lt.Env → Lt.St → R D} {σ : L2.St} {H : Hp} {Q : VK} (h : TE' X pl W (fun e s => (fa e s).bind fun x s => g x e s) σ H Q) :
    TE' X pl W fa σ H fun x H1 => ∃ m d s e, SR X.K pl.ca m s H1 ∧ ERx X.K pl.ca pl.xc m s.length H1 e σ ∧ Rp X.K pl.ca m s.length H1 d x ∧ PoE X pl m s H1 (g d e s) Q (fun c d H' => W c d σ H') := by
  obtain ⟨m, st, e, sr, er, post⟩ := h
  exact ⟨m, st, e, sr, er, (PostE.bind (rel' := Rp X.K pl.ca) post).mono (fun v H1 ⟨m1, d, s1, x1, sr1, rp, p1⟩ => ⟨m1, d, s1, e, sr1, x1.er sr er, rp, p1⟩) fun _ _ _ h => h⟩
theorem keep_envT {g : Bool → Lt.Env → Lt.St → R D} {f : Lt.Env → Lt.St → R Bool} {σ : L2.St} {H : Hp} {Q : VK} (h : TE' X pl W (fun e s => (f e s).bind fun x s => g x e s) σ H Q) :
    tB X.K pl.ca pl.xc W f σ H fun b H1 => ∃ m s e, SR X.K pl.ca m s H1 ∧ ERx X.K pl.ca pl.xc m s.length H1 e σ ∧ PoE X pl m s H1 (g b e s) Q (fun c d H' => W c d σ H') := by
  obtain ⟨m, st, e, sr, er, post⟩ := h
  refine ⟨m, st, e, sr, er, (PostE.bind (rel' := fun _ _ _ b c => b = c) post).mono (fun v H1 ⟨m1, d, s1, x1, sr1, rp, p1⟩ => ?_) fun _ _ _ h => h⟩
  subst rp
  exact ⟨m1, s1, e, sr1, x1.er sr er, p1⟩
theorem keep_envTT {g : Bool → Lt.Env → Lt.St → R Bool} {f : Lt.Env → Lt.St → R Bool} {σ : L2.St} {H : Hp} {Q : Bool → Hp → Prop} (h : tB X.K pl.ca pl.xc W (fun e s => (f e s).bind fun x s => g x e s) σ H Q) :
    tB X.K pl.ca pl.xc W f σ H fun b H1 => ∃ m s e, SR X.K pl.ca m s H1 ∧ ERx X.K pl.ca pl.xc m s.length H1 e σ ∧ PostE X.K pl.ca (fun _ _ _ b c => b = c) m s H1 (g b e s) Q (fun c d H' => W c d σ H') := by
  obtain ⟨m, st, e, sr, er, post⟩ := h
  refine ⟨m, st, e, sr, er, (PostE.bind (rel' := fun _ _ _ b c => b = c) post).mono (fun v H1 ⟨m1, d, s1, x1, sr1, rp, p1⟩ => ?_) fun _ _ _ h => h⟩
  subst rp
  exact ⟨m1, s1, e, sr1, x1.er sr er, p1⟩
def andF (fa fb : Lt.Env → Lt.St → R D) : Lt.Env → Lt.St → R D := fun e s => (fa e s).bind fun x s => match truF s x with
  | some true => fb e s
  | some false => .ok x s
  | none => .bad
def orF (fa fb : Lt.Env → Lt.St → R D) : Lt.Env → Lt.St → R D := fun e s => (fa e s).bind fun x s => match truF s x with
  | some true => .ok x s
  | some false => fb e s
  | none => .bad
def notF (fa : Lt.Env → Lt.St → R D) : Lt.Env → Lt.St → R D := fun e s => (fa e s).bind fun x s => match truF s x with
  | some b => .ok (.bl (!b)) s
  | none => .bad
def ifeF (fc fa fb : Lt.Env → Lt.St → R D) : Lt.Env → Lt.St → R D := fun e s => (fc e s).bind fun x s => match truF s x with
  | some true => fa e s
  | some false => fb e s
  | none => .bad
theorem and_truth (e : Lt.Env) (s : Lt.St) : (andF fa fb e s).bind truth = ((fa e s).bind truth).bind fun b s => if b = true then (fb e s).bind truth else .ok false s := by
  unfold andF
  rw [R.bind_assoc, R.bind_assoc]
  congr 1
  funext x s1
  unfold truth
  cases h : truF s1 x with
  | none => rfl
  | some b => cases b with
    | true => rfl
    | false =>
      show R.bind (.ok x s1) _ = _
      rw [R.bind_ok, h]
      rfl
theorem or_truth (e : Lt.Env) (s : Lt.St) : (orF fa fb e s).bind truth = ((fa e s).bind truth).bind fun b s => if b = true then .ok true s else (fb e s).bind truth := by
  unfold orF
  rw [R.bind_assoc, R.bind_assoc]
  congr 1
  funext x s1
  unfold truth
  cases h : truF s1 x with
  | none => rfl
  | some b => cases b with
    | true =>
      show R.bind (.ok x s1) _ = _
      rw [R.bind_ok, h]
      rfl
    | false => rfl
theorem not_truth (e : Lt.Env) (s : Lt.St) : (notF fa e s).bind truth = ((fa e s).bind truth).bind fun b s => .ok (!b) s := by
  unfold notF
  rw [R.bind_assoc, R.bind_assoc]
  congr 1
  funext x s1
  unfold truth
  cases h : truF s1 x with
  | none => rfl
  | some b => rfl
theorem ife_truth (e : Lt.Env) (s : Lt.St) : ifeF fc fa fb e s = ((fc e s).bind truth).bind fun b s => if b = true then fa e s else fb e s := by
  unfold ifeF
  rw [R.bind_assoc]
  congr 1
  funext x s1
  unfold truth
  cases h : truF s1 x with
  | none => rfl
  | some b => cases b <;> rfl
theorem snd_and {y : Expr} {rs : List Expr} (ha : Snd X pl W l fa) (hb : Snd X pl W (boolRest .And y rs pos) fb) : Snd X pl W (.BoolOp .And (l :: y :: rs) pos) (andF fa fb) := by
  have pe2 : PE X (.BoolOp .And (y :: rs) pos) (TE' X pl W fb) := by
    cases rs with
    | nil => exact pe_one hb.pe
    | cons _ _ => exact hb.pe
  have pw2 : PW X (.BoolOp .And (y :: rs) pos) (TT' X pl W fb) := by
    cases rs with
    | nil => exact pw_and1 hb.pt
    | cons _ _ => exact hb.pw _ _ _ rfl
  have pw : PW X (.BoolOp .And (l :: y :: rs) pos) (TT' X pl W (andF fa fb)) := pw_imp (pw_and ha.pt pw2) fun σ H Q h => by
    have h1 : tB X.K pl.ca pl.xc W (fun e s => ((fa e s).bind truth).bind fun b s => if b = true then (fb e s).bind truth else .ok false s) σ H Q := by
      have e1 : (fun e s => (andF fa fb e s).bind truth) = fun e s => ((fa e s).bind truth).bind fun b s => if b = true then (fb e s).bind truth else .ok false s := funext fun e => funext fun s => and_truth e s
      rw [← e1]
      exact h
    obtain ⟨m, st, e, sr, er, post⟩ := keep_envTT (g := fun b e s => if b = true then (fb e s).bind truth else .ok false s) h1
    refine ⟨m, st, e, sr, er, post.mono (fun b H1 ⟨m1, s1, e1, sr1, er1, p1⟩ => ?_) fun _ _ _ h => h⟩
    cases b with
    | true => exact ⟨m1, s1, e1, sr1, er1, p1⟩
    | false => exact p1 _ _ _ Ext.refl sr1 rfl
  refine ⟨pe_imp (pe_andT ha.pe pe2) fun σ H Q h => ?_, pw.pt, fun o vs p e => by cases e; exact pw⟩
  obtain ⟨m, st, e, sr, er, post⟩ := keep_env (g := fun x e s => match truF s x with | some true => fb e s | some false => .ok x s | none => .bad) h
  refine ⟨m, st, e, sr, er, post.mono (fun x H1 ⟨m1, d, s1, e1, sr1, er1, rp, p1⟩ => ?_) fun _ _ _ h => h⟩
  cases q : truF s1 d with
  | none =>
    rw [q] at p1
    exact p1.elim
  | some b =>
    rw [q] at p1
    refine ⟨b, truF_ok sr1 rp q, ?_⟩
    cases b with
    | true => exact ⟨m1, s1, e1, sr1, er1, p1⟩
    | false => exact p1 _ _ _ Ext.refl sr1 rp
theorem snd_or {y : Expr} {rs : List Expr} (ha : Snd X pl W l fa) (hb : Snd X pl W (boolRest .Or y rs pos) fb) : Snd X pl W (.BoolOp .Or (l :: y :: rs) pos) (orF fa fb) := by
  have pe2 : PE X (.BoolOp .Or (y :: rs) pos) (TE' X pl W fb) := by
    cases rs with
    | nil => exact pe_one hb.pe
    | cons _ _ => exact hb.pe
  have pw2 : PW X (.BoolOp .Or (y :: rs) pos) (TT' X pl W fb) := by
    cases rs with
    | nil => exact pw_or1 hb.pt
    | cons _ _ => exact hb.pw _ _ _ rfl
  have pw : PW X (.BoolOp .Or (l :: y :: rs) pos) (TT' X pl W (orF fa fb)) := pw_imp (pw_or ha.pt pw2) fun σ H Q h => by
    have h1 : tB X.K pl.ca pl.xc W (fun e s => ((fa e s).bind truth).bind fun b s => if b = true then .ok true s else (fb e s).bind truth) σ H Q := by
      have e1 : (fun e s => (orF fa fb e s).bind truth) = fun e s => ((fa e s).bind truth).bind fun b s => if b = true then .ok true s else (fb e s).bind truth := funext fun e => funext fun s => or_truth e s
      rw [← e1]
      exact h
    obtain ⟨m, st, e, sr, er, post⟩ := keep_envTT (g := fun b e s => if b = true then .ok true s else (fb e s).bind truth) h1
    refine ⟨m, st, e, sr, er, post.mono (fun b H1 ⟨m1, s1, e1, sr1, er1, p1⟩ => ?_) fun _ _ _ h => h⟩
    cases b with
    | true => exact p1 _ _ _ Ext.refl sr1 rfl
    | false => exact ⟨m1, s1, e1, sr1, er1, p1⟩
  refine ⟨pe_imp (pe_orT ha.pe pe2) fun σ H Q h => ?_, pw.pt, fun o vs p e => by cases e; exact pw⟩
  obtain ⟨m, st, e, sr, er, post⟩ := keep_env (g := fun x e s => match truF s x with | some true => .ok x s | some false => fb e s | none => .bad) h
  refine ⟨m, st, e, sr, er, post.mono (fun x H1 ⟨m1, d, s1, e1, sr1, er1, rp, p1⟩ => ?_) fun _ _ _ h => h⟩
  cases q : truF s1 d with
  | none =>
    rw [q] at p1
    exact p1.elim
  | some b =>
    rw [q] at p1
    refine ⟨b, truF_ok sr1 rp q, ?_⟩
    cases b with
    | true => exact p1 _ _ _ Ext.refl sr1 rp
    | false => exact ⟨m1, s1, e1, sr1, er1, p1⟩
theorem snd_not (ha : Snd X pl W l fa) : Snd X pl W (.UnaryOp .Not l pos) (notF fa) := by
  refine ⟨pe_imp (pe_notT ha.pe) fun σ H Q h => ?_, pt_imp (pt_not ha.pt) fun σ H Q h => ?_, fun o vs p e => by cases e⟩
  · obtain ⟨m, st, e, sr, er, post⟩ := keep_env (g := fun x e s => match truF s x with | some b => .ok (.bl (!b)) s | none => .bad) h
    refine ⟨m, st, e, sr, er, post.mono (fun x H1 ⟨m1, d, s1, e1, sr1, er1, rp, p1⟩ => ?_) fun _ _ _ h => h⟩
    cases q : truF s1 d with
    | none =>
      rw [q] at p1
      exact p1.elim
    | some b =>
      rw [q] at p1
      exact ⟨b, truF_ok sr1 rp q, p1 _ _ _ Ext.refl sr1 rfl⟩
  · have h1 : tB X.K pl.ca pl.xc W (fun e s => ((fa e s).bind truth).bind fun b s => .ok (!b) s) σ H Q := by
      have e1 : (fun e s => (notF fa e s).bind truth) = fun e s => ((fa e s).bind truth).bind fun b s => .ok (!b) s := funext fun e => funext fun s => not_truth e s
      rw [← e1]
      exact h
    obtain ⟨m, st, e, sr, er, post⟩ := keep_envTT (g := fun b e s => .ok (!b) s) h1
    exact ⟨m, st, e, sr, er, post.mono (fun b H1 ⟨m1, s1, e1, sr1, er1, p1⟩ => p1 _ _ _ Ext.refl sr1 rfl) fun _ _ _ h => h⟩
theorem snd_ife {c : Expr} (hc : Snd X pl W c fc) (ha : PE X l (TE' X pl W fa)) (hb : PE X r (TE' X pl W fb)) : PE X (.IfExp c l r pos) (TE' X pl W (ifeF fc fa fb)) :=
  pe_imp (pe_ifExp hc.pt ha hb) fun σ H Q h => by
    have h1 : TE' X pl W (fun e s => ((fc e s).bind truth).bind fun b s => if b = true then fa e s else fb e s) σ H Q := by
      have e1 : ifeF fc fa fb = fun e s => ((fc e s).bind truth).bind fun b s => if b = true then fa e s else fb e s := funext fun e => funext fun s => ife_truth e s
      rw [← e1]
      exact h
    obtain ⟨m, st, e, sr, er, post⟩ := keep_envT (g := fun b e s => if b = true then fa e s else fb e s) h1
    refine ⟨m, st, e, sr, er, post.mono (fun b H1 ⟨m1, s1, e1, sr1, er1, p1⟩ => ?_) fun _ _ _ h => h⟩
    cases b with
    | true => exact ⟨m1, s1, e1, sr1, er1, p1⟩
    | false => exact ⟨m1, s1, e1, sr1, er1, p1⟩
/-- a comparison as a test -/
theorem snd_cmpS {p : CmpOp} {g : D → D → Lt.St → R D} (ho : Op2 X pl W (compareOp p) g) (ha : PE X l (TE' X pl W fa)) (hb : PE X r (TE' X pl W fb)) (hm : behindInMarks p r = false) :
    Snd X pl W (.Compare l [p] [r] pos) fun e s => ((fa e s).bind fun x s => (fb e s).bind fun y s => g x y s).bind onlyBl := by
  have pc : PC X p l r (TE' X pl W fun e s => (fa e s).bind fun x s => (fb e s).bind fun y s => g x y s) :=
    ⟨fun pins s σ H Q I h => bin ha hb I (two h) fun v u s2 x y H2 I2 rx ry ⟨m2, d1, d2, s2', sr, r1, r2, p2⟩ => ho pins s2 σ H2 m2 s2' d1 d2 x y v u Q I2 rx ry sr r1 r2 p2⟩
  refine ⟨pe_imp (pe_cmp pc hm) fun σ H Q ⟨m, st, e, sr, er, post⟩ => ⟨m, st, e, sr, er, ?_⟩, pt_imp (pt_cmp pc hm) fun σ H Q ⟨m, st, e, sr, er, post⟩ => ⟨m, st, e, sr, er, ?_⟩, fun o vs p e => by cases e⟩
  · refine (PostE.bind (rel' := Rp X.K pl.ca) post).mono (fun v H1 ⟨m1, d, s1, x1, sr1, rp, p1⟩ => ?_) fun _ _ _ h => h
    cases d with
    | bl b => exact p1 _ _ _ Ext.refl sr1 rp
    | _ => exact p1.elim
  · dsimp only at post
    rw [R.bind_assoc] at post
    refine (PostE.bind (rel' := Rp X.K pl.ca) post).mono (fun v H1 ⟨m1, d, s1, x1, sr1, rp, p1⟩ => ?_) fun _ _ _ h => h
    cases d with
    | bl b =>
      obtain rfl : v = .bl b := rp
      exact ⟨b, rfl, p1 _ _ _ Ext.refl sr1 rfl⟩
    | _ => exact p1.elim
/-- a chain of two -/
def intR (o : Cop) : R2 := fun x y H Q => ∃ i j, x = .int i ∧ y = .int j ∧ ∃ b, intC o (.int i) (.int j) = some b ∧ Q (.bl b) H
theorem op_intR {o : Cop} {p : CmpOp} (h : opC o p = true) : OpR X (compareOp p) (intR o) := by
  intro pins s σ H x y v u Q I rx ry q
  obtain ⟨i, j, ex, ey, b, hb, q⟩ := q
  cases o <;> first | cases hb | skip
  · cases p <;> first | exact op_lt pins s σ H x y v u Q I rx ry ⟨i, j, ex, ey, q⟩ | cases h
  · cases p <;> first | exact op_le pins s σ H x y v u Q I rx ry ⟨i, j, ex, ey, q⟩ | cases h
theorem intC_int {o : Cop} {m : Nat → Addr} {n : Nat} {H : Hp} {d1 d2 : D} {x y : V} {b : Bool} (h : intC o d1 d2 = some b) (r1 : Rp X.K pl.ca m n H d1 x) (r2 : Rp X.K pl.ca m n H d2 y) : ∃ i j, d1 = .int i ∧ d2 = .int j ∧ x = .int i ∧ y = .int j := by
  unfold intC at h
  split at h
  · rename_i i j
    exact ⟨i, j, rfl, rfl, r1, r2⟩
  · rename_i i j
    exact ⟨i, j, rfl, rfl, r1, r2⟩
  · cases h
def chainF (o o' : Cop) (fa fb fc : Lt.Env → Lt.St → R D) : Lt.Env → Lt.St → R D := fun e s => (fa e s).bind fun x s => (fb e s).bind fun y s => match intC o x y with
  | some true => (fc e s).bind fun w s => (match intC o' y w with
    | some b => .ok (.bl b) s
    | none => .bad)
  | some false => .ok (.bl false) s
  | none => .bad
theorem chain_rd {o o' : Cop} {σ : L2.St} {H : Hp} {Q : VK} (h : TE' X pl W (chainF o o' fa fb fc) σ H Q) : tChain (intR o) (intR o') (TE' X pl W fa) (TE' X pl W fb) (TE' X pl W fc) σ H Q := by
  obtain ⟨m, st, e, sr, er, post⟩ := h
  refine ⟨m, st, e, sr, er, (PostE.bind (rel' := Rp X.K pl.ca) post).mono (fun x H1 ⟨m1, d1, s1, x1, sr1, r1, p1⟩ => ?_) fun _ _ _ h => h⟩
  refine ⟨m1, s1, e, sr1, x1.er sr er, (PostE.bind (rel' := Rp X.K pl.ca) p1).mono (fun y H2 ⟨m2, d2, s2, x2, sr2, r2, p2⟩ => ?_) fun _ _ _ h => h⟩
  have r1' := x2.rp sr1 r1
  cases hc : intC o d1 d2 with
  | none =>
    rw [hc] at p2
    exact p2.elim
  | some b =>
    rw [hc] at p2
    obtain ⟨i, j, rfl, rfl, rfl, rfl⟩ := intC_int hc r1' r2
    refine ⟨i, j, rfl, rfl, b, hc, b, rfl, ?_⟩
    cases b with
    | false => exact p2 _ _ _ Ext.refl sr2 rfl
    | true =>
      refine ⟨m2, s2, e, sr2, x2.er sr1 (x1.er sr er), (PostE.bind (rel' := Rp X.K pl.ca) p2).mono (fun w H3 ⟨m3, d3, s3, x3, sr3, r3, p3⟩ => ?_) fun _ _ _ h => h⟩
      cases hc' : intC o' (.int j) d3 with
      | none =>
        rw [hc'] at p3
        exact p3.elim
      | some b =>
        rw [hc'] at p3
        obtain ⟨i', j', e1, rfl, _, rfl⟩ := intC_int hc' (x3.rp sr2 r2) r3
        cases e1
        exact ⟨_, _, rfl, rfl, b, hc', p3 _ _ _ Ext.refl sr3 rfl⟩
theorem chain_bl {o o' : Cop} (e : Lt.Env) (s : Lt.St) : (chainF o o' fa fb fc e s).bind onlyBl = chainF o o' fa fb fc e s := by
  unfold chainF
  rw [R.bind_assoc]
  congr 1
  funext x s1
  rw [R.bind_assoc]
  congr 1
  funext y s2
  cases intC o x y with
  | none => rfl
  | some b =>
    cases b with
    | false => rfl
    | true =>
      show R.bind (R.bind _ _) _ = _
      rw [R.bind_assoc]
      congr 1
      funext w s3
      cases intC o' y w <;> rfl
theorem snd_chain {o o' : Cop} {p p' : CmpOp} {q lq : Expr} (h1 : opC o p = true) (h2 : opC o' p' = true) (ha : PE X l (TE' X pl W fa)) (hb : PE X q (TE' X pl W fb)) (hc : PE X lq (TE' X pl W fc))
    (hm : lastMarks [p, p'] [q, lq] = false) : Snd X pl W (.Compare l [p, p'] [q, lq] pos) (chainF o o' fa fb fc) := by
  refine ⟨pe_imp (pe_chain (op_intR h1) (op_intR h2) ha hb hc hm) fun σ H Q h => chain_rd h, pt_imp (pt_chain (op_intR h1) (op_intR h2) ha hb hc hm) fun σ H Q h => chain_rd ?_, fun o vs p e => by cases e⟩
  obtain ⟨m, st, e, sr, er, post⟩ := h
  refine ⟨m, st, e, sr, er, ?_⟩
  dsimp only at post
  rw [← chain_bl, R.bind_assoc] at post
  refine (PostE.bind (rel' := Rp X.K pl.ca) post).mono (fun v H1 ⟨m1, d, s1, x1, sr1, rp, p1⟩ => ?_) fun _ _ _ h => h
  cases d with
  | bl b =>
    obtain rfl : v = .bl b := rp
    exact ⟨b, rfl, p1 _ _ _ Ext.refl sr1 rfl⟩
  | _ => exact p1.elim
end
end Lt
namespace Lt
open PySem PySem.Spec PyProof.Rows L2
section
variable {X : Cx} {pl : Pl} {W : WX} {fa fb fc : Lt.Env → Lt.St → R D} {fs : Lt.Env → Lt.St → R (List D)} {l r e0 : Expr} {es : List Expr} {pos : Pos}
/-! ### lists of expressions, displays -/
theorem snd_nil : PA X [] (TA' X pl W fun _ s => .ok [] s) := pa_imp pa_nil fun σ H Q ⟨m, st, e, sr, er, post⟩ => post _ _ _ Ext.refl sr rfl
theorem snd_cons (ha : PE X l (TE' X pl W fa)) (hl : PA X es (TA' X pl W fs)) (hs : ∀ v p, l ≠ .Starred v p) : PA X (l :: es) (TA' X pl W fun e s => (fa e s).bind fun d s => (fs e s).bind fun ds s => .ok (d :: ds) s) :=
  pa_imp (pa_cons ha hl (star_ne hs)) fun σ H Q ⟨m, st, e, sr, er, post⟩ => ⟨m, st, e, sr, er, (PostE.bind (rel' := Rp X.K pl.ca) post).mono (fun x H1 ⟨m1, d1, s1, x1, sr1, r1, p1⟩ =>
    ⟨m1, s1, e, sr1, x1.er sr er, (PostE.bind (rel' := RpL X.K pl.ca) p1).mono (fun xs H2 ⟨m2, ds, s2, x2, sr2, r2, p2⟩ => p2 _ _ _ Ext.refl sr2 ⟨x, xs, rfl, x2.rp sr1 r1, r2⟩) fun _ _ _ h => h⟩) fun _ _ _ h => h⟩
theorem rpl_len {K : PySem.W.Frag} {ca : Cl → Addr} {m : Nat → Addr} {n : Nat} {H : Hp} : ∀ {ds : List D} {vs : List V}, RpL K ca m n H ds vs → vs.length = ds.length
  | [], _, h => by
    have h' : _ = ([] : List V) := h
    subst h'
    rfl
  | d :: ds, _, ⟨v, r, e, h1, h2⟩ => by
    subst e
    simp [rpl_len h2]
theorem rpl_get {K : PySem.W.Frag} {ca : Cl → Addr} {m : Nat → Addr} {n : Nat} {H : Hp} : ∀ {ds : List D} {vs : List V} {i : Nat} {d : D}, RpL K ca m n H ds vs → ds[i]? = some d → ∃ v, vs[i]? = some v ∧ Rp K ca m n H d v
  | [], _, _, _, _, h => by simp at h
  | d :: ds, _, 0, c, ⟨v, r, e, h1, h2⟩, h => by
    subst e
    simp at h
    subst h
    exact ⟨v, rfl, h1⟩
  | d :: ds, _, i + 1, c, ⟨v, r, e, h1, h2⟩, h => by
    subst e
    obtain ⟨w, q1, q2⟩ := rpl_get (i := i) h2 (by simpa using h)
    exact ⟨w, by simpa using q1, q2⟩
theorem rpl_append {K : PySem.W.Frag} {ca : Cl → Addr} {m : Nat → Addr} {n : Nat} {H : Hp} {es : List D} {ws : List V} (g : RpL K ca m n H es ws) : ∀ {ds : List D} {vs : List V}, RpL K ca m n H ds vs → RpL K ca m n H (ds ++ es) (vs ++ ws)
  | [], _, h => by
    have h' : _ = ([] : List V) := h
    subst h'
    exact g
  | d :: ds, _, ⟨v, r, e, h1, h2⟩ => by
    subst e
    exact ⟨v, _, rfl, h1, rpl_append g h2⟩
theorem rpl_drop {K : PySem.W.Frag} {ca : Cl → Addr} {m : Nat → Addr} {n : Nat} {H : Hp} : ∀ {ds : List D} {vs : List V} (i : Nat), RpL K ca m n H ds vs → RpL K ca m n H (ds.drop i) (vs.drop i)
  | _, _, 0, h => h
  | [], _, i + 1, h => by
    have h' : _ = ([] : List V) := h
    subst h'
    exact rfl
  | d :: ds, _, i + 1, ⟨v, r, e, h1, h2⟩ => by
    subst e
    exact rpl_drop i h2
theorem rpl_take {K : PySem.W.Frag} {ca : Cl → Addr} {m : Nat → Addr} {n : Nat} {H : Hp} : ∀ {ds : List D} {vs : List V} (i : Nat), RpL K ca m n H ds vs → RpL K ca m n H (ds.take i) (vs.take i)
  | _, _, 0, _ => rfl
  | [], _, i + 1, h => by
    have h' : _ = ([] : List V) := h
    subst h'
    exact rfl
  | d :: ds, _, i + 1, ⟨v, r, e, h1, h2⟩ => by
    subst e
    exact ⟨v, _, rfl, h1, rpl_take i h2⟩
theorem rpl_reverse {K : PySem.W.Frag} {ca : Cl → Addr} {m : Nat → Addr} {n : Nat} {H : Hp} : ∀ {ds : List D} {vs : List V}, RpL K ca m n H ds vs → RpL K ca m n H ds.reverse vs.reverse
  | [], _, h => by
    have h' : _ = ([] : List V) := h
    subst h'
    exact rfl
  | d :: ds, _, ⟨v, r, e, h1, h2⟩ => by
    subst e
    rw [List.reverse_cons, List.reverse_cons]
    exact rpl_append (show RpL K ca m n H [d] [v] from ⟨v, [], rfl, h1, rfl⟩) (rpl_reverse h2)
theorem rpl_set {K : PySem.W.Frag} {ca : Cl → Addr} {m : Nat → Addr} {n : Nat} {H : Hp} {d : D} {v : V} (rp : Rp K ca m n H d v) : ∀ {ds : List D} {vs : List V} (i : Nat), RpL K ca m n H ds vs → RpL K ca m n H (ds.set i d) (vs.set i v)
  | [], _, i, h => by
    have h' : _ = ([] : List V) := h
    subst h'
    exact rfl
  | c :: ds, _, 0, ⟨w, r, e, h1, h2⟩ => by
    subst e
    exact ⟨v, r, rfl, rp, h2⟩
  | c :: ds, _, i + 1, ⟨w, r, e, h1, h2⟩ => by
    subst e
    exact ⟨w, _, rfl, h1, rpl_set rp i h2⟩
/-- a new tuple -/
theorem post_tup {m : Nat → Addr} {s : Lt.St} {H : Hp} {ds : List D} {vs : List V} {Q : VK} {E : XK} (sr : SR X.K pl.ca m s H) (rl : RpL X.K pl.ca m s.length H ds vs) (post : PoE X pl m s H (.ok (.tup ds) s) Q E) (p : Addr) (hp : H p = none) : Q (.ref p) (upd H p (.tup vs)) := by
  have x : Ext m s H m s (upd H p (.tup vs)) := ⟨Nat.le_refl _, fun _ _ => rfl, fun a o h _ => by rw [upd_ne (ne_of_none h hp)]; exact h, fun i h1 h2 => absurd h2 (Nat.not_lt.mpr h1)⟩
  have hm : ∀ i, i < s.length → m i ≠ p := fun i hi e => by
    rcases sr.at hi with ⟨_, q⟩ | ⟨_, _, _, q⟩ <;> rw [e, hp] at q <;> cases q
  refine post m _ _ x ⟨fun i o h => ?_, sr.inj⟩ ⟨p, vs, rfl, .inl upd_same, x.rpl sr rl⟩
  have hi : i < s.length := (List.getElem?_eq_some_iff.mp h).1
  have q := sr.ob i o h
  cases o with
  | lst ds =>
    obtain ⟨ws, h1, h2⟩ := q
    exact ⟨ws, by rw [upd_ne (hm i hi)]; exact h1, x.rpl sr h2⟩
  | ins c fs =>
    obtain ⟨ok, dx, vfs, h1, h2⟩ := q
    exact ⟨ok, dx, vfs, by rw [upd_ne (hm i hi)]; exact h1, RpF.go (fun _ _ q => x.rp sr q) _ _ h2⟩
/-- the placing, one object more -/
def more (m : Nat → Addr) (n : Nat) (p : Addr) : Nat → Addr := fun i => if i = n then p else m i
theorem more_ext {m : Nat → Addr} {s : Lt.St} {H : Hp} {o : Ob} {u : HO} {p : Addr} (hp : H p = none) : Ext m s H (more m s.length p) (s ++ [o]) (upd H p u) where
  len := by simp
  agr := fun i hi => by
    show (if i = s.length then p else m i) = m i
    rw [if_neg (Nat.ne_of_lt hi)]
  keep := fun a o h _ => by
    rw [upd_ne (ne_of_none h hp)]
    exact h
  new := fun i h1 h2 => by
    have e : i = s.length := by simp at h2; omega
    show H (if i = s.length then p else m i) = none
    rw [if_pos e]
    exact hp
theorem more_sr {m : Nat → Addr} {s : Lt.St} {H : Hp} {o : Ob} {u : HO} {p : Addr} (sr : SR X.K pl.ca m s H) (hp : H p = none) (new : RpO X.K pl.ca (more m s.length p) (s.length + 1) (upd H p u) p o) : SR X.K pl.ca (more m s.length p) (s ++ [o]) (upd H p u) := by
  have x : Ext m s H (more m s.length p) (s ++ [o]) (upd H p u) := more_ext hp
  have hl : (s ++ [o]).length = s.length + 1 := by simp
  have hm : ∀ i, i < s.length → m i ≠ p := fun i hi e => by
    rcases sr.at hi with ⟨_, q⟩ | ⟨_, _, _, q⟩ <;> rw [e, hp] at q <;> cases q
  refine ⟨fun i ob h => ?_, fun i j hi hj e => ?_⟩
  · by_cases hi : i < s.length
    · rw [List.getElem?_append_left hi] at h
      have q := sr.ob i ob h
      have em : more m s.length p i = m i := x.agr i hi
      rw [em]
      cases ob with
      | lst ds =>
        obtain ⟨ws, h1, h2⟩ := q
        exact ⟨ws, by rw [upd_ne (hm i hi)]; exact h1, x.rpl sr h2⟩
      | ins c fs =>
        obtain ⟨ok, dx, vfs, h1, h2⟩ := q
        exact ⟨ok, dx, vfs, by rw [upd_ne (hm i hi)]; exact h1, RpF.go (fun _ _ q => x.rp sr q) _ _ h2⟩
    · have hi' : i = s.length := by
        have := (List.getElem?_eq_some_iff.mp h).1
        rw [hl] at this
        omega
      subst hi'
      rw [List.getElem?_append_right (Nat.le_refl _), Nat.sub_self] at h
      have e : o = ob := by simpa using h
      subst e
      rw [hl]
      have em : more m s.length p s.length = p := if_pos rfl
      rw [em]
      exact new
  · rw [hl] at hi hj
    by_cases hi' : i < s.length
    · by_cases hj' : j < s.length
      · rw [x.agr i hi', x.agr j hj'] at e
        exact sr.inj i j hi' hj' e
      · have ej : j = s.length := by omega
        subst ej
        rw [x.agr i hi', show more m s.length p s.length = p from if_pos rfl] at e
        exact absurd e (hm i hi')
    · have ei : i = s.length := by omega
      by_cases hj' : j < s.length
      · subst ei
        rw [x.agr j hj', show more m s.length p s.length = p from if_pos rfl] at e
        exact absurd e.symm (hm j hj')
      · omega
/-- a new list -/
theorem post_lst {m : Nat → Addr} {s : Lt.St} {H : Hp} {ds : List D} {vs : List V} {Q : VK} {E : XK} (sr : SR X.K pl.ca m s H) (rl : RpL X.K pl.ca m s.length H ds vs) (post : PoE X pl m s H (.ok (.obj s.length) (s ++ [.lst ds])) Q E) (p : Addr) (hp : H p = none) : Q (.ref p) (upd H p (.lst vs)) := by
  have x : Ext m s H (more m s.length p) (s ++ [Ob.lst ds]) (upd H p (.lst vs)) := more_ext hp
  have rl' := x.rpl sr rl
  have hl : (s ++ [Ob.lst ds]).length = s.length + 1 := by simp
  rw [hl] at rl'
  refine post (more m s.length p) _ _ x (more_sr sr hp ⟨vs, upd_same, rl'⟩) ⟨by rw [hl]; exact Nat.lt_succ_self _, ?_⟩
  show V.ref p = .ref (if s.length = s.length then p else m s.length)
  rw [if_pos rfl]
theorem snd_tup {k : Nat} (h : PA X es (TA' X pl W fs)) : PE X (.Tuple es k pos) (TE' X pl W fun e s => (fs e s).bind fun ds s => if ds.length ≤ lim then .ok (.tup ds) s else .bad) :=
  pe_imp (pe_tup h) fun σ H Q ⟨m, st, e, sr, er, post⟩ => ⟨m, st, e, sr, er, (PostE.bind (rel' := RpL X.K pl.ca) post).mono (fun vs H1 ⟨m1, ds, s1, x1, sr1, r1, p1⟩ => by
    by_cases hd : ds.length ≤ lim
    · rw [if_pos hd] at p1
      exact ⟨by rw [rpl_len r1]; exact lim_line hd, fun p hp => post_tup sr1 r1 p1 p hp⟩
    · rw [if_neg hd] at p1
      exact p1.elim) fun _ _ _ h => h⟩
theorem snd_lst (h : PA X es (TA' X pl W fs)) : PE X (.List es pos) (TE' X pl W fun e s => (fs e s).bind fun ds s => if ds.length ≤ lim then .ok (.obj s.length) (s ++ [.lst ds]) else .bad) :=
  pe_imp (pe_lst h) fun σ H Q ⟨m, st, e, sr, er, post⟩ => ⟨m, st, e, sr, er, (PostE.bind (rel' := RpL X.K pl.ca) post).mono (fun vs H1 ⟨m1, ds, s1, x1, sr1, r1, p1⟩ => by
    by_cases hd : ds.length ≤ lim
    · rw [if_pos hd] at p1
      exact ⟨by rw [rpl_len r1]; exact lim_line hd, fun p hp => post_lst sr1 r1 p1 p hp⟩
    · rw [if_neg hd] at p1
      exact p1.elim) fun _ _ _ h => h⟩
end
end Lt
namespace Lt
open PySem PySem.Spec PyProof.Rows L2
theorem ixN_eq (n : Nat) (i : Int) : L2.ixN n i = Lt.ixN n i := rfl
theorem sIx_eq (n d : Nat) (o : Option Int) : HT.sIx n d o = Lt.sIx n d o := rfl
theorem toStr_of (x : Str) : toStr (ofStr x) = x := by
  cases x
  simp [toStr, ofStr]
section
variable {X : Cx} {pl : Pl} {W : WX} {fa fb fc : Lt.Env → Lt.St → R D} {fs : Lt.Env → Lt.St → R (List D)} {l r e0 : Expr} {es : List Expr} {pos : Pos}
theorem rpl_atI {K : PySem.W.Frag} {ca : Cl → Addr} {m : Nat → Addr} {n : Nat} {H : Hp} {ds : List D} {vs : List V} {i : Int} {d : D} (h : RpL K ca m n H ds vs) (ha : Lt.atI ds i = some d) : ∃ v, L2.atI vs i = some v ∧ Rp K ca m n H d v := by
  unfold Lt.atI at ha
  unfold L2.atI
  rw [rpl_len h, ixN_eq]
  cases e : Lt.ixN ds.length i with
  | none =>
    rw [e] at ha
    cases ha
  | some j =>
    rw [e] at ha
    exact rpl_get h ha
theorem ix_ok {m : Nat → Addr} {s : Lt.St} {H : Hp} {a b : D} {x y : V} {Q : VK} {E : XK} (sr : SR X.K pl.ca m s H) (ra : Rp X.K pl.ca m s.length H a x) (rb : Rp X.K pl.ca m s.length H b y) (post : PoE X pl m s H (ixF a b s) Q E) : rIx X.K x y H Q := by
  unfold ixF at post
  split at post
  · rename_i ds i
    split at post
    · rename_i d e
      obtain ⟨t, vs, rfl, h1, h2⟩ := ra
      obtain rfl : y = .int i := rb
      obtain ⟨v, h3, h4⟩ := rpl_atI h2 e
      exact .inr (.inl ⟨t, vs, i, v, rfl, rfl, h1.sq, h3, post _ _ _ Ext.refl sr h4⟩)
    · exact post.elim
  · rename_i z i
    split at post
    · rename_i c e
      split at post
      · rename_i hz
        obtain rfl : x = .str (toStr z) := ra
        obtain rfl : y = .int i := rb
        refine .inr (.inr ⟨toStr z, i, c, rfl, rfl, lim_line (by rw [toStr_len]; exact hz), ?_, post _ _ _ Ext.refl sr rfl⟩)
        show L2.atI (toStr z).cps.toList i = some c
        have e2 : (toStr z).cps.toList = z := by simp [toStr]
        rw [e2]
        exact e
      · exact post.elim
    · exact post.elim
  · rename_i j i
    split at post
    · rename_i ds e
      split at post
      · rename_i d e2
        obtain ⟨hj, rfl⟩ := ra
        obtain rfl : y = .int i := rb
        obtain ⟨vs, h1, h2⟩ := sr.ob j _ e
        obtain ⟨v, h3, h4⟩ := rpl_atI h2 e2
        exact .inl ⟨m j, vs, i, v, rfl, rfl, SqL.of h1, h3, post _ _ _ Ext.refl sr h4⟩
      · exact post.elim
    · exact post.elim
  · exact post.elim
theorem snd_ix (ha : PE X l (TE' X pl W fa)) (hb : PE X r (TE' X pl W fb)) (hs : PlainIx r) : PE X (.Subscript l r pos) (TE' X pl W fun e s => (fa e s).bind fun x s => (fb e s).bind fun y s => ixF x y s) :=
  pe_imp (pe_ix ix_seq ha hb hs) fun σ H Q h => by
    obtain ⟨m, st, e, sr, er, post⟩ := two h
    exact ⟨m, st, e, sr, er, post.mono (fun x H1 ⟨m1, s1, e1, sr1, er1, p1⟩ => ⟨m1, s1, e1, sr1, er1, p1.mono (fun y H2 ⟨m2, d1, d2, s2, sr2, r1, r2, p2⟩ => ix_ok sr2 r1 r2 p2) fun _ _ _ h => h⟩) fun _ _ _ h => h⟩
/-! slices -/
def tO (X : Cx) (pl : Pl) (W : WX) (n : Bool) (f : Lt.Env → Lt.St → R D) : TO := fun σ H Q => ∃ m s e, SR X.K pl.ca m s H ∧ ERx X.K pl.ca pl.xc m s.length H e σ ∧
  PostE X.K pl.ca (fun _ _ _ d o => bound? n d = some o) m s H (f e s) Q fun c d H' => W c d σ H'
theorem snd_part {x : Option Expr} {n : Bool} (hn : n = x.isNone) (h : PE X (optE x) (TE' X pl W fa)) (hf : x = none → fa = fun _ s => .ok .non s) (hb : ∀ d, n = false → bound? n d = none → True) :
    PO X x (fun σ H Q => ∃ m s e, SR X.K pl.ca m s H ∧ ERx X.K pl.ca pl.xc m s.length H e σ ∧ PoE X pl m s H (fa e s) (fun v H' => ∃ o, (if n = true then o = none else ∃ i, v = .int i ∧ o = some i) ∧ Q o H') fun c d H' => W c d σ H') := by
  cases x with
  | none =>
    refine ⟨fun pins s σ H Q I ⟨m, st, e, sr, er, post⟩ => ?_⟩
    rw [hf rfl, hn] at post
    obtain ⟨o, h1, h2⟩ := post _ _ .non Ext.refl sr rfl
    obtain rfl : o = none := h1
    exact po_none.run pins s σ H Q I h2
  | some z =>
    refine ⟨fun pins s σ H Q I ⟨m, st, e, sr, er, post⟩ => ?_⟩
    refine (po_some h).run pins s σ H Q I ⟨m, st, e, sr, er, post.mono (fun v H' ⟨o, h1, h2⟩ => ?_) fun _ _ _ h => h⟩
    rw [hn] at h1
    obtain ⟨i, rfl, rfl⟩ := h1
    exact ⟨i, rfl, h2⟩
theorem cutV_eq (vs : List V) (lo hi : Option Int) : cutV vs lo hi = cut vs lo hi := rfl
theorem rpl_cut {K : PySem.W.Frag} {ca : Cl → Addr} {m : Nat → Addr} {n : Nat} {H : Hp} {ds : List D} {vs : List V} (lo hi : Option Int) (h : RpL K ca m n H ds vs) : RpL K ca m n H (cut ds lo hi) (cut vs lo hi) := by
  unfold cut
  rw [rpl_len h]
  exact rpl_take _ (rpl_drop _ h)
theorem sl_ok {m : Nat → Addr} {s : Lt.St} {H : Hp} {a : D} {lo hi : Option Int} {x : V} {Q : VK} {E : XK} (sr : SR X.K pl.ca m s H) (ra : Rp X.K pl.ca m s.length H a x) (post : PoE X pl m s H (slF a lo hi s) Q E) :
    rSlS x lo hi H Q ∨ rSlA X.K x lo hi H Q ∨ rSlL X.K x lo hi H Q := by
  cases a with
  | str z =>
    obtain rfl : x = .str (toStr z) := ra
    have post' : PoE X pl m s H (if z.length ≤ lim then .ok (.str (cut z lo hi)) s else .bad) Q E := post
    by_cases hz : z.length ≤ lim
    · rw [if_pos hz] at post'
      refine .inl ⟨toStr z, rfl, lim_line (by rw [toStr_len]; exact hz), post' _ _ _ Ext.refl sr ?_⟩
      show V.str (cutS (toStr z) lo hi) = .str (toStr (cut z lo hi))
      unfold cutS cut
      rw [toStr_len, sIx_eq, sIx_eq]
      have e2 : (toStr z).cps.toList = z := by simp [toStr]
      rw [e2]
      rfl
    · rw [if_neg hz] at post'
      exact post'.elim
  | tup ds =>
    obtain ⟨t, vs, rfl, h1, h2⟩ := ra
    refine .inr (.inl ⟨t, vs, rfl, h1.sq, fun e => ?_, fun e p hp => ?_⟩)
    · have ec : cut vs lo hi = vs := by
        unfold cut
        rw [← sIx_eq, ← sIx_eq, e.1, e.2, List.drop_zero, Nat.sub_zero, List.take_length]
      have h3 := rpl_cut lo hi h2
      rw [ec] at h3
      exact post _ _ _ Ext.refl sr ⟨t, vs, rfl, h1, h3⟩
    · exact post_tup sr (rpl_cut lo hi h2) post p hp
  | obj j =>
    have post' : PoE X pl m s H (match s[j]? with | some (.lst xs) => .ok (.obj s.length) (s ++ [.lst (cut xs lo hi)]) | _ => .bad) Q E := post
    obtain ⟨hj, rfl⟩ := ra
    cases e : s[j]? with
    | none =>
      rw [e] at post'
      exact post'.elim
    | some o =>
      rw [e] at post'
      cases o with
      | ins c fs => exact post'.elim
      | lst ds =>
        obtain ⟨vs, h1, h2⟩ := sr.ob j _ e
        exact .inr (.inr ⟨m j, vs, rfl, SqL.of h1, fun p hp => post_lst sr (rpl_cut lo hi h2) post' p hp⟩)
  | _ => exact post.elim
theorem bound_of {n : Bool} {d : D} {o : Option Int} {m : Nat → Addr} {k : Nat} {H : Hp} {v : V} (h : bound? n d = some o) (rp : Rp X.K pl.ca m k H d v) : if n = true then o = none else ∃ i, v = .int i ∧ o = some i := by
  cases n with
  | true =>
    rw [if_pos rfl]
    cases h
    rfl
  | false =>
    rw [if_neg (by decide)]
    cases d with
    | int i =>
      cases h
      exact ⟨i, rp, rfl⟩
    | _ => cases h
theorem snd_sl {l : Expr} {lx hx : Option Expr} {p2 : Pos} {flo fhi : Lt.Env → Lt.St → R D} (nl : Bool) (nh : Bool) (hl : nl = lx.isNone) (hh : nh = hx.isNone) (ha : PE X l (TE' X pl W fa)) (h1 : PE X (optE lx) (TE' X pl W flo)) (h2 : PE X (optE hx) (TE' X pl W fhi))
    (e1 : lx = none → flo = fun _ s => .ok .non s) (e2 : hx = none → fhi = fun _ s => .ok .non s) :
    PE X (.Subscript l (.Slice lx hx none p2) pos) (TE' X pl W fun e s => (fa e s).bind fun x s => (flo e s).bind fun a s => (bndR nl a s).bind fun ol s => (fhi e s).bind fun b s => (bndR nh b s).bind fun oh s => slF x ol oh s) :=
  pe_imp (pe_slice (SlR.or sl_str (SlR.or sl_tupA sl_list)) ha (snd_part hl h1 e1 fun _ _ _ => trivial) (snd_part hh h2 e2 fun _ _ _ => trivial)) fun σ H Q ⟨m, st, e, sr, er, post⟩ =>
    ⟨m, st, e, sr, er, (PostE.bind (rel' := Rp X.K pl.ca) post).mono (fun x H1 ⟨m1, d1, s1, x1, sr1, r1, p1⟩ =>
      ⟨m1, s1, e, sr1, x1.er sr er, (PostE.bind (rel' := Rp X.K pl.ca) p1).mono (fun a H2 ⟨m2, d2, s2, x2, sr2, r2, p2⟩ => by
        unfold bndR at p2
        cases b1 : bound? nl d2 with
        | none =>
          rw [b1] at p2
          exact p2.elim
        | some o1 =>
          rw [b1] at p2
          refine ⟨o1, bound_of b1 r2, m2, s2, e, sr2, x2.er sr1 (x1.er sr er), (PostE.bind (rel' := Rp X.K pl.ca) p2).mono (fun b H3 ⟨m3, d3, s3, x3, sr3, r3, p3⟩ => ?_) fun _ _ _ h => h⟩
          cases b2 : bound? nh d3 with
          | none =>
            rw [b2] at p3
            exact p3.elim
          | some o2 =>
            rw [b2] at p3
            exact ⟨o2, bound_of b2 r3, sl_ok sr3 (x3.rp sr2 (x2.rp sr1 r1)) p3⟩) fun _ _ _ h => h⟩) fun _ _ _ h => h⟩
end
end Lt
/-! ### operations on values -/
namespace Lt
open PySem PySem.Spec PyProof.Rows L2
section
variable {X : Cx} {pl : Pl} {W : WX}
theorem toStr_app (a b : List Nat) : toStr a ++ toStr b = toStr (a ++ b) := by
  show Str.mk (a.toArray ++ b.toArray) = Str.mk (a ++ b).toArray
  simp
theorem mulok {x : Str} {j : Int} (h0 : 0 ≤ j) (h1 : j ≤ 1000) (h2 : x.length * j.toNat ≤ lim) : MulOk x j := by
  have hl : lim = 1000000 := rfl
  refine ⟨?_, fun hn _ => ?_, fun hn _ => ?_⟩
  · have a1 : ¬ j < -(2 ^ 63 : Int) := by omega
    have a2 : ¬ j ≥ (2 ^ 63 : Int) := by omega
    rw [decide_eq_false a1, decide_eq_false a2]
    rfl
  · have hj : 0 < j := by omega
    have q : (x.length : Int) * j ≤ 1000000 := by
      have e : ((x.length * j.toNat : Nat) : Int) = (x.length : Int) * j := by
        rw [Int.natCast_mul, Int.toNat_of_nonneg h0]
      omega
    intro hc
    have h3 : (2 ^ 63 - 1) / j + 1 ≤ (x.length : Int) := by omega
    have h4 : ((2 ^ 63 - 1) / j + 1) * j ≤ (x.length : Int) * j := Int.mul_le_mul_of_nonneg_right h3 (by omega)
    have h5 : (2 ^ 63 - 1 : Int) < ((2 ^ 63 - 1) / j + 1) * j := Int.lt_ediv_add_one_mul_self _ hj
    omega
  · show Builtin.Str.tooLong (x.length * j.toNat) = false
    have : x.length * j.toNat ≤ sizeLine := lim_line h2
    unfold Builtin.Str.tooLong
    exact decide_eq_false (by omega)
theorem op_binF {o : Bop} {p : Operator} (h : opB o p = true) : Op2 X pl W (binaryOp p) (binF o) := by
  intro pins s σ H m st d1 d2 x y v u Q I rx ry sr r1 r2 post
  unfold binF at post
  split at post
  · obtain rfl : x = .int _ := r1
    obtain rfl : y = .int _ := r2
    cases p <;> first | cases h; done | skip
    exact op_add pins s σ H _ _ v u Q I rx ry ⟨_, _, rfl, rfl, post _ _ _ Ext.refl sr rfl⟩
  · obtain rfl : x = .int _ := r1
    obtain rfl : y = .int _ := r2
    cases p <;> first | cases h; done | skip
    exact op_sub pins s σ H _ _ v u Q I rx ry ⟨_, _, rfl, rfl, post _ _ _ Ext.refl sr rfl⟩
  · obtain rfl : x = .int _ := r1
    obtain rfl : y = .int _ := r2
    split at post
    · rename_i hc
      cases p <;> first | cases h; done | skip
      exact op_mul pins s σ H _ _ v u Q I rx ry ⟨_, _, rfl, rfl, hc, post _ _ _ Ext.refl sr rfl⟩
    · exact post.elim
  · obtain rfl : x = .int _ := r1
    obtain rfl : y = .int _ := r2
    split at post
    · rename_i hc
      cases p <;> first | cases h; done | skip
      exact op_fdiv pins s σ H _ _ v u Q I rx ry ⟨_, _, rfl, rfl, hc, post _ _ _ Ext.refl sr rfl⟩
    · exact post.elim
  · obtain rfl : x = .int _ := r1
    obtain rfl : y = .int _ := r2
    split at post
    · rename_i hc
      cases p <;> first | cases h; done | skip
      exact op_mod pins s σ H _ _ v u Q I rx ry ⟨_, _, rfl, rfl, hc, post _ _ _ Ext.refl sr rfl⟩
    · exact post.elim
  · obtain rfl : x = .int _ := r1
    obtain rfl : y = .int _ := r2
    split at post
    · rename_i hc
      cases p <;> first | cases h; done | skip
      exact op_pow pins s σ H _ _ v u Q I rx ry ⟨_, _, rfl, rfl, hc, post _ _ _ Ext.refl sr rfl⟩
    · exact post.elim
  · obtain rfl : x = .str (toStr _) := r1
    obtain rfl : y = .str (toStr _) := r2
    split at post
    · rename_i a b hc
      cases p <;> first | cases h; done | skip
      refine op_add_str pins s σ H _ _ v u Q I rx ry ⟨_, _, rfl, rfl, by rw [toStr_len, toStr_len]; exact lim_line hc, ?_⟩
      rw [toStr_app]
      exact post _ _ _ Ext.refl sr rfl
    · exact post.elim
  · rename_i z j
    obtain rfl : x = .str (toStr z) := r1
    obtain rfl : y = .int j := r2
    split at post
    · rename_i hc
      cases p <;> first | cases h; done | skip
      obtain ⟨t, rfl⟩ := rx
      obtain ⟨t', rfl⟩ := ry
      refine SB.mul (mulok hc.1 hc.2.1 (by rw [toStr_len]; exact hc.2.2)) fun t' k => ⟨.str (toStr (ofStr (Txt.mul (toStr z) j))), H, I.tok _, ⟨_, by rw [toStr_of]⟩, post _ _ _ Ext.refl sr rfl⟩
    · exact post.elim
  · obtain ⟨a, vs, rfl, h1, h2⟩ := r1
    obtain ⟨b, ws, rfl, h3, h4⟩ := r2
    split at post
    · rename_i xs ys hc
      cases p <;> first | cases h; done | skip
      have ap : RpL X.K pl.ca m st.length H (xs ++ ys) (vs ++ ws) := rpl_append h4 h2
      refine op_catA pins s σ H _ _ v u Q I rx ry ⟨a, b, vs, ws, rfl, rfl, h1.sq, h3.sq, by rw [rpl_len h2, rpl_len h4]; exact lim_line hc, fun e => ?_, fun _ e => ?_, fun _ _ p hp => post_tup sr ap post p hp⟩
      · rw [e, List.nil_append] at ap
        exact post _ _ _ Ext.refl sr ⟨b, ws, rfl, h3, ap⟩
      · rw [e, List.append_nil] at ap
        exact post _ _ _ Ext.refl sr ⟨a, vs, rfl, h1, ap⟩
    · exact post.elim
  · rename_i i j
    obtain ⟨hi, rfl⟩ := r1
    obtain ⟨hj, rfl⟩ := r2
    split at post
    · rename_i xs ys e1 e2
      split at post
      · rename_i hc
        cases p <;> first | cases h; done | skip
        obtain ⟨vs, h1, h2⟩ := sr.ob i _ e1
        obtain ⟨ws, h3, h4⟩ := sr.ob j _ e2
        exact op_cat pins s σ H _ _ v u Q I rx ry ⟨m i, m j, vs, ws, rfl, rfl, h1, h3, by rw [rpl_len h2, rpl_len h4]; exact lim_line hc, fun p hp => post_lst sr (rpl_append h4 h2) post p hp⟩
      · exact post.elim
    · exact post.elim
  · exact post.elim
/-! ### data compared -/
mutual
def D.data : D → PyData
  | .non => .none
  | .bl b => .bool b
  | .int i => .int i
  | .str s => .str (toStr s)
  | .tup ds => .tuple (D.datas ds)
  | _ => .none
def D.datas : List D → List PyData
  | [] => []
  | d :: ds => D.data d :: D.datas ds
end
mutual
theorem dp_of {m : Nat → Addr} {n : Nat} {H : Hp} : ∀ (d : D) (v : V), d.pure = true → Rp X.K pl.ca m n H d v → Dp X.K H v d.data
  | .non, v, _, h => by
    obtain rfl : v = .non := h
    exact .non
  | .bl b, v, _, h => by
    obtain rfl : v = .bl b := h
    exact .bl b
  | .int i, v, _, h => by
    obtain rfl : v = .int i := h
    exact .int i
  | .str z, v, _, h => by
    obtain rfl : v = .str (toStr z) := h
    exact .str _
  | .tup ds, v, hp, ⟨a, vs, e, h1, h2⟩ => by
    subst e
    exact .tup h1.sq (dps_of ds vs hp h2)
  | .fz ds, _, hp, _ => by cases hp
  | .obj i, _, hp, _ => by cases hp
  | .cls i, _, hp, _ => by cases hp
  | .ty i, _, hp, _ => by cases hp
theorem dps_of {m : Nat → Addr} {n : Nat} {H : Hp} : ∀ (ds : List D) (vs : List V), D.pures ds = true → RpL X.K pl.ca m n H ds vs → DpAll X.K H vs (D.datas ds)
  | [], vs, _, h => by
    have h' : vs = [] := h
    subst h'
    exact .nil
  | d :: ds, vs, hp, ⟨v, r, e, h1, h2⟩ => by
    subst e
    have hp' := Bool.and_eq_true_iff.mp hp
    exact .cons (dp_of d v hp'.1 h1) (dps_of ds r hp'.2 h2)
end
theorem toStr_inj {a b : List Nat} : toStr a = toStr b ↔ a = b := by
  constructor
  · intro h
    have := congrArg (fun z => z.cps.toList) h
    simpa [toStr] using this
  · intro h
    rw [h]
theorem toStr_beq (a b : List Nat) : (toStr a == toStr b) = (a == b) := by
  by_cases h : a = b
  · subst h
    simp
  · have h2 : toStr a ≠ toStr b := fun q => h (toStr_inj.mp q)
    rw [beq_eq_false_iff_ne.mpr h, beq_eq_false_iff_ne.mpr h2]
mutual
theorem eqv_eq : ∀ (a b : D), a.pure = true → b.pure = true → PyData.eqv a.data b.data = D.eq a b := by
  intro a b ha hb
  cases a <;> cases b <;> first | (cases ha; done) | (cases hb; done) | rfl | exact toStr_beq _ _ | exact eqvs_eq _ _ ha hb
theorem eqvs_eq : ∀ (a b : List D), D.pures a = true → D.pures b = true → PyData.eqvAll (D.datas a) (D.datas b) = D.eqs a b
  | [], [], _, _ => rfl
  | [], _ :: _, _, _ => rfl
  | _ :: _, [], _, _ => rfl
  | a :: as, b :: bs, ha, hb => by
    have ha' := Bool.and_eq_true_iff.mp ha
    have hb' := Bool.and_eq_true_iff.mp hb
    show (PyData.eqv a.data b.data && PyData.eqvAll (D.datas as) (D.datas bs)) = (D.eq a b && D.eqs as bs)
    rw [eqv_eq a b ha'.1 hb'.1, eqvs_eq as bs ha'.2 hb'.2]
end
end
end Lt
namespace Lt
open PySem PySem.Spec PyProof.Rows L2
section
variable {X : Cx} {pl : Pl} {W : WX}
mutual
theorem lay_of : ∀ (d : D), d.pure = true → d.ok = true → d.data.canLay0 = true
  | .non, _, _ => rfl
  | .bl b, _, _ => rfl
  | .int i, _, _ => rfl
  | .str z, _, h => by
    show PyData.strOk (toStr z) = true
    unfold PyData.strOk
    have e : (toStr z).cps.all (fun c => decide (c < 0x110000)) = z.all (fun c => decide (c < 0x110000)) := by simp [toStr]
    exact e.trans h
  | .tup ds, hp, h => lays_of ds hp h
  | .fz ds, hp, _ => by cases hp
  | .obj i, hp, _ => by cases hp
  | .cls i, hp, _ => by cases hp
  | .ty i, hp, _ => by cases hp
theorem lays_of : ∀ (ds : List D), D.pures ds = true → D.oks ds = true → PyData.canLayAll0 (D.datas ds) = true
  | [], _, _ => rfl
  | d :: ds, hp, h => by
    have hp' := Bool.and_eq_true_iff.mp hp
    have h' := Bool.and_eq_true_iff.mp h
    show (d.data.canLay0 && PyData.canLayAll0 (D.datas ds)) = true
    rw [lay_of d hp'.1 h'.1, lays_of ds hp'.2 h'.2]
    rfl
end
mutual
theorem dep_of : ∀ (d : D), d.data.depth ≤ d.dep + 1
  | .non => by simp [D.data, PyData.depth]
  | .bl b => by simp [D.data, PyData.depth]
  | .int i => by simp [D.data, PyData.depth]
  | .str z => by simp [D.data, PyData.depth]
  | .tup ds => by
    have := deps_of ds
    simp [D.data, PyData.depth, D.dep]
    omega
  | .fz ds => by simp [D.data, PyData.depth]
  | .obj i => by simp [D.data, PyData.depth]
  | .cls i => by simp [D.data, PyData.depth]
  | .ty i => by simp [D.data, PyData.depth]
theorem deps_of : ∀ (ds : List D), PyData.depthAll (D.datas ds) ≤ D.deps ds + 1
  | [] => by simp [D.datas, PyData.depthAll]
  | d :: ds => by
    have h1 := dep_of d
    have h2 := deps_of ds
    simp [D.datas, PyData.depthAll, D.deps]
    omega
end
theorem shaped_of {d : D} (h : shp d = true) : SeqAt.shaped d.data = true := by
  unfold shp at h
  have h1 := Bool.and_eq_true_iff.mp h
  have h2 := Bool.and_eq_true_iff.mp h1.2
  unfold SeqAt.shaped
  rw [lay_of d h1.1 h2.2]
  have := of_decide_eq_true h2.1
  have := dep_of d
  exact decide_eq_true (by omega)
theorem eqF_ok (hu : X.A.units + 64 < cLine) {neg : Bool} {pins : List (Addr × Obj)} {s : Shared} {σ : L2.St} {H : Hp} {m : Nat → Addr} {n : Nat} {d1 d2 : D} {x y : V} {v u : Value} {Q : VK} {b : Bool} (I : Inv X pins σ H s) (rx : RelV x v) (ry : RelV y u)
    (r1 : Rp X.K pl.ca m n H d1 x) (r2 : Rp X.K pl.ca m n H d2 y) (he : eqF d1 d2 = some b) (q : Q (.bl (if neg then !b else b)) H) :
    wpAny (model X.prog X.w) X.A (compareOp (if neg then .NotEq else .Eq) v u) (EP X pins σ Q) X.xe s := by
  unfold eqF at he
  split at he
  · rename_i hs
    have hs' := Bool.and_eq_true_iff.mp hs
    have p1 : d1.pure = true := (Bool.and_eq_true_iff.mp hs'.1).1
    have p2 : d2.pure = true := (Bool.and_eq_true_iff.mp hs'.2).1
    have e := eqv_eq d1 d2 p1 p2
    cases he
    cases neg with
    | true =>
      refine op_neD hu pins s σ H x y v u Q I rx ry ⟨d1.data, d2.data, dp_of d1 x p1 r1, dp_of d2 y p2 r2, shaped_of hs'.1, shaped_of hs'.2, ?_⟩
      rw [e]
      exact q
    | false =>
      refine op_eqD hu pins s σ H x y v u Q I rx ry ⟨d1.data, d2.data, dp_of d1 x p1 r1, dp_of d2 y p2 r2, shaped_of hs'.1, shaped_of hs'.2, ?_⟩
      rw [e]
      exact q
  · cases he
theorem flat_rp {m : Nat → Addr} {n : Nat} {H : Hp} {d : D} {x : V} (h : d.flat = true) (r : Rp X.K pl.ca m n H d x) : flatV x = true := by
  cases d <;> first | (cases h; done) | (obtain rfl : x = _ := r; rfl)
theorem flats_rp {m : Nat → Addr} {n : Nat} {H : Hp} : ∀ {ds : List D} {vs : List V}, ds.all D.flat = true → RpL X.K pl.ca m n H ds vs → vs.all flatV = true
  | [], _, _, h => by
    have h' : _ = ([] : List V) := h
    subst h'
    rfl
  | d :: ds, _, hf, ⟨v, r, e, h1, h2⟩ => by
    subst e
    rw [List.all_cons] at hf
    have hf' := Bool.and_eq_true_iff.mp hf
    rw [List.all_cons, flat_rp hf'.1 h1, flats_rp hf'.2 h2]
    rfl
theorem eqV_rp {m : Nat → Addr} {n : Nat} {H : Hp} {a b : D} {x y : V} (ha : a.flat = true) (hb : b.flat = true) (r1 : Rp X.K pl.ca m n H a x) (r2 : Rp X.K pl.ca m n H b y) : eqV x y = D.eq a b := by
  cases a <;> cases b <;> first | (cases ha; done) | (cases hb; done) | (obtain rfl : x = _ := r1; obtain rfl : y = _ := r2; first | rfl | exact toStr_beq _ _)
theorem inV_rp {m : Nat → Addr} {n : Nat} {H : Hp} {a : D} {x : V} (ha : a.flat = true) (r1 : Rp X.K pl.ca m n H a x) : ∀ {ds : List D} {vs : List V}, ds.all D.flat = true → RpL X.K pl.ca m n H ds vs → inV x vs = ds.any fun y => D.eq y a
  | [], _, _, h => by
    have h' : _ = ([] : List V) := h
    subst h'
    rfl
  | d :: ds, _, hf, ⟨v, r, e, h1, h2⟩ => by
    subst e
    rw [List.all_cons] at hf
    have hf' := Bool.and_eq_true_iff.mp hf
    have ih := inV_rp ha r1 hf'.2 h2
    show (eqV v x || r.any fun y => eqV y x) = _
    rw [List.any_cons, eqV_rp hf'.1 ha h1 r1]
    congr 1
/-- a comparison of values -/
theorem op_cmpF (hu : X.A.units + 64 < cLine) {o : Cop} {p : CmpOp} (h : opC o p = true) : Op2 X pl W (compareOp p) (cmpF o) := by
  intro pins s σ H m st d1 d2 x y v u Q I rx ry sr r1 r2 post
  unfold cmpF at post
  split at post
  · split at post
    · rename_i b e
      cases p <;> first | (cases h; done) | skip
      exact eqF_ok (neg := false) hu I rx ry r1 r2 e (post _ _ _ Ext.refl sr rfl)
    · exact post.elim
  · split at post
    · rename_i b e
      cases p <;> first | (cases h; done) | skip
      exact eqF_ok (neg := true) hu I rx ry r1 r2 e (post _ _ _ Ext.refl sr rfl)
    · exact post.elim
  · split at post
    · obtain rfl : x = .int _ := r1
      obtain rfl : y = .int _ := r2
      cases p <;> first | (cases h; done) | skip
      exact op_lt pins s σ H _ _ v u Q I rx ry ⟨_, _, rfl, rfl, post _ _ _ Ext.refl sr rfl⟩
    · exact post.elim
  · split at post
    · obtain rfl : x = .int _ := r1
      obtain rfl : y = .int _ := r2
      cases p <;> first | (cases h; done) | skip
      exact op_le pins s σ H _ _ v u Q I rx ry ⟨_, _, rfl, rfl, post _ _ _ Ext.refl sr rfl⟩
    · exact post.elim
  · split at post
    · obtain rfl : x = .int _ := r1
      obtain rfl : y = .int _ := r2
      cases p <;> first | (cases h; done) | skip
      exact op_gt pins s σ H _ _ v u Q I rx ry ⟨_, _, rfl, rfl, post _ _ _ Ext.refl sr rfl⟩
    · exact post.elim
  · split at post
    · obtain rfl : x = .int _ := r1
      obtain rfl : y = .int _ := r2
      cases p <;> first | (cases h; done) | skip
      exact op_ge pins s σ H _ _ v u Q I rx ry ⟨_, _, rfl, rfl, post _ _ _ Ext.refl sr rfl⟩
    · exact post.elim
  · split at post
    · obtain rfl : y = .non := r2
      cases p <;> first | (cases h; done) | skip
      refine op_isN pins s σ H x _ v u Q I rx ry ⟨rfl, ?_⟩
      have q := post _ _ (.bl _) Ext.refl sr rfl
      have e : d1.isN = decide (x = .non) := by
        cases d1 <;> first | (obtain rfl : x = _ := r1; rfl) | (obtain ⟨a, vs, rfl, _⟩ := r1; rfl) | (obtain ⟨_, rfl⟩ := r1; rfl)
      rw [← e]
      exact q
    · exact post.elim
  · split at post
    · obtain rfl : y = .non := r2
      cases p <;> first | (cases h; done) | skip
      refine op_notN pins s σ H x _ v u Q I rx ry ⟨rfl, ?_⟩
      have q := post _ _ (.bl _) Ext.refl sr rfl
      have e : (!d1.isN) = !decide (x = .non) := by
        cases d1 <;> first | (obtain rfl : x = _ := r1; rfl) | (obtain ⟨a, vs, rfl, _⟩ := r1; rfl) | (obtain ⟨_, rfl⟩ := r1; rfl)
      rw [← e]
      exact q
    · exact post.elim
  · split at post
    · rename_i a b
      obtain rfl : x = .str (toStr a) := r1
      obtain rfl : y = .str (toStr b) := r2
      cases p <;> first | (cases h; done) | skip
      refine op_in_str pins s σ H _ _ v u Q I rx ry ⟨_, _, rfl, rfl, ?_⟩
      have q := post _ _ (.bl _) Ext.refl sr rfl
      unfold occ at q
      rw [← toStr_len b] at q
      exact q
    · split at post
      · rename_i hc
        have hc' := Bool.and_eq_true_iff.mp hc
        obtain ⟨t, vs, rfl, h1, h2⟩ := r2
        cases p <;> first | (cases h; done) | skip
        refine op_in_seq pins s σ H _ _ v u Q I rx ry ⟨t, vs, rfl, .inr h1.sq, flat_rp hc'.1 r1, flats_rp hc'.2 h2, ?_⟩
        show Q (.bl (inV x vs)) H
        rw [inV_rp hc'.1 r1 hc'.2 h2]
        exact post _ _ _ Ext.refl sr rfl
      · exact post.elim
    · rename_i i
      split at post
      · rename_i ys e
        split at post
        · rename_i hc
          have hc' := Bool.and_eq_true_iff.mp hc
          obtain ⟨hi, rfl⟩ := r2
          obtain ⟨vs, h1, h2⟩ := sr.ob i _ e
          cases p <;> first | (cases h; done) | skip
          refine op_in_seq pins s σ H _ _ v u Q I rx ry ⟨m i, vs, rfl, .inl (SqL.of h1), flat_rp hc'.1 r1, flats_rp hc'.2 h2, ?_⟩
          show Q (.bl (inV x vs)) H
          rw [inV_rp hc'.1 r1 hc'.2 h2]
          exact post _ _ _ Ext.refl sr rfl
        · exact post.elim
      · exact post.elim
    · exact post.elim
  · split at post
    · rename_i a b
      obtain rfl : x = .str (toStr a) := r1
      obtain rfl : y = .str (toStr b) := r2
      cases p <;> first | (cases h; done) | skip
      refine op_notIn_str pins s σ H _ _ v u Q I rx ry ⟨_, _, rfl, rfl, ?_⟩
      have q := post _ _ (.bl _) Ext.refl sr rfl
      unfold occ at q
      rw [← toStr_len b] at q
      exact q
    · split at post
      · rename_i hc
        have hc' := Bool.and_eq_true_iff.mp hc
        obtain ⟨t, vs, rfl, h1, h2⟩ := r2
        cases p <;> first | (cases h; done) | skip
        refine op_notIn_seq pins s σ H _ _ v u Q I rx ry ⟨t, vs, rfl, .inr h1.sq, flat_rp hc'.1 r1, flats_rp hc'.2 h2, ?_⟩
        show Q (.bl (!inV x vs)) H
        rw [inV_rp hc'.1 r1 hc'.2 h2]
        exact post _ _ _ Ext.refl sr rfl
      · exact post.elim
    · rename_i i
      split at post
      · rename_i ys e
        split at post
        · rename_i hc
          have hc' := Bool.and_eq_true_iff.mp hc
          obtain ⟨hi, rfl⟩ := r2
          obtain ⟨vs, h1, h2⟩ := sr.ob i _ e
          cases p <;> first | (cases h; done) | skip
          refine op_notIn_seq pins s σ H _ _ v u Q I rx ry ⟨m i, vs, rfl, .inl (SqL.of h1), flat_rp hc'.1 r1, flats_rp hc'.2 h2, ?_⟩
          show Q (.bl (!inV x vs)) H
          rw [inV_rp hc'.1 r1 hc'.2 h2]
          exact post _ _ _ Ext.refl sr rfl
        · exact post.elim
      · exact post.elim
    · exact post.elim
end
end Lt
/-! ### calls of built-ins -/
namespace Lt
open PySem PySem.Spec PyProof.Rows L2
section
variable {X : Cx} {pl : Pl} {W : WX} {G : Ctx}
def CallS (X : Cx) (pl : Pl) (W : WX) (f : Value) (g : List D → Lt.St → R D) : Prop :=
  ∀ (pins : List (Addr × Obj)) (s : Shared) (σ : L2.St) (H : Hp) (m : Nat → Addr) (st : Lt.St) (ds : List D) (vs : List V) (us : List Value) (Q : VK), Inv X pins σ H s → Vals vs us → SR X.K pl.ca m st H → RpL X.K pl.ca m st.length H ds vs →
    PoE X pl m st H (g ds st) Q (fun c d H' => W c d σ H') → wpAny (model X.prog X.w) X.A (PySem.call f us) (EP X pins σ Q) X.xe s
theorem rpl1 {m : Nat → Addr} {n : Nat} {H : Hp} {d : D} {vs : List V} (h : RpL X.K pl.ca m n H [d] vs) : ∃ v, vs = [v] ∧ Rp X.K pl.ca m n H d v := by
  obtain ⟨v, r, e, h1, h2⟩ := h
  have h2' : r = [] := h2
  subst h2'
  exact ⟨v, e, h1⟩
theorem rpl2 {m : Nat → Addr} {n : Nat} {H : Hp} {d c : D} {vs : List V} (h : RpL X.K pl.ca m n H [d, c] vs) : ∃ v w, vs = [v, w] ∧ Rp X.K pl.ca m n H d v ∧ Rp X.K pl.ca m n H c w := by
  obtain ⟨v, r, e, h1, h2⟩ := h
  obtain ⟨w, rfl, h3⟩ := rpl1 h2
  exact ⟨v, w, e, h1, h3⟩
theorem isAny_ok (T : Kit X.K G pl) {k : Kd} : ∀ {ds : List D} {b : Bool}, isAny G k ds = some b → PySem.W.kitAny X.K (k.v pl) (ds.map (D.cv pl)) = some b
  | [], b, h => by
    cases h
    rfl
  | d :: ds, b, h => by
    have h' : (match isOne G k d, isAny G k ds with | some a, some b => some (a || b) | _, _ => none) = some b := h
    cases e1 : isOne G k d with
    | none =>
      rw [e1] at h'
      cases h'
    | some a =>
      cases e2 : isAny G k ds with
      | none =>
        rw [e1, e2] at h'
        cases h'
      | some c =>
        rw [e1, e2] at h'
        cases h'
        refine kitAny_cons (T.one k d a e1) (fun ha => ?_) fun ha => ?_
        · subst ha
          exact isAny_ok T e2
        · subst ha
          rfl
theorem cls_v {m : Nat → Addr} {n : Nat} {H : Hp} {k : Kd} {d : D} {b : Bool} {v : V} (h : isOne G k d = some b) (r : Rp X.K pl.ca m n H d v) : ClsV v (d.cv pl) := by
  cases d <;> first | (cases h; done) | skip
  · obtain rfl : v = .ref _ := r
    exact .own _
  · obtain rfl : v = .ty _ := r
    exact .ty _
theorem clss_v {m : Nat → Addr} {n : Nat} {H : Hp} {k : Kd} : ∀ {ds : List D} {b : Bool} {vs : List V}, isAny G k ds = some b → RpL X.K pl.ca m n H ds vs → Paired ClsV vs (ds.map (D.cv pl))
  | [], _, _, _, h => by
    have h' : _ = ([] : List V) := h
    subst h'
    exact .nil
  | d :: ds, b, _, h, ⟨v, r, e, h1, h2⟩ => by
    subst e
    have h' : (match isOne G k d, isAny G k ds with | some a, some b => some (a || b) | _, _ => none) = some b := h
    cases e1 : isOne G k d with
    | none =>
      rw [e1] at h'
      cases h'
    | some a =>
      cases e2 : isAny G k ds with
      | none =>
        rw [e1, e2] at h'
        cases h'
      | some c => exact .cons (cls_v e1 h1) (clss_v e2 h2)
theorem kind_ty (T : Kit X.K G pl) {m : Nat → Addr} {st : Lt.St} {H : Hp} {d : D} {k : Kd} {v : V} (sr : SR X.K pl.ca m st H) (h : kind st d = some k) (r : Rp X.K pl.ca m st.length H d v) : TyX X.K H v (k.v pl) := by
  obtain ⟨n1, n2, n3, n4, n5, n6⟩ := T.tn
  cases d with
  | non =>
    obtain rfl : v = .non := r
    cases h
    show TyX _ _ _ (.type (Ty.nm .none))
    rw [n1]
    exact .base .non
  | bl b =>
    obtain rfl : v = .bl b := r
    cases h
    show TyX _ _ _ (.type (Ty.nm .bool))
    rw [n2]
    exact .base (.bl b)
  | int i =>
    obtain rfl : v = .int i := r
    cases h
    show TyX _ _ _ (.type (Ty.nm .int))
    rw [n3]
    exact .base (.int i)
  | str z =>
    obtain rfl : v = .str (toStr z) := r
    cases h
    show TyX _ _ _ (.type (Ty.nm .str))
    rw [n4]
    exact .base (.str _)
  | tup ds =>
    obtain ⟨a, vs, rfl, h1, h2⟩ := r
    cases h
    show TyX _ _ _ (.type (Ty.nm .tuple))
    rw [n5]
    rcases h1 with h1 | ⟨o, its, n, q1, q2, _⟩
    · exact .base (.tup h1)
    · exact .kTuple q1 q2
  | obj i =>
    obtain ⟨hi, rfl⟩ := r
    have h' : (match st[i]? with | some (.lst _) => some (Kd.ty .list) | some (.ins c _) => some (Kd.cls c) | none => none) = some k := h
    cases e : st[i]? with
    | none =>
      rw [e] at h'
      cases h'
    | some o =>
      rw [e] at h'
      cases o with
      | lst ds =>
        cases h'
        obtain ⟨vs, h1, h2⟩ := sr.ob i _ e
        show TyX _ _ _ (.type (Ty.nm .list))
        rw [n6]
        exact .base (.lst h1)
      | ins c fs =>
        cases h'
        obtain ⟨⟨c1, c2, c3⟩, dx, vfs, h1, h2⟩ := sr.ob i _ e
        exact .base (.ins h1 c1 c2 T.n T.tk c3)
  | _ => cases h
theorem call_isF (T : Kit X.K G pl) : CallS X pl W (.builtin "isinstance") fun ds s => match ds with
    | [x, t] => (match kind s x with
      | some k => (match isF G k t with
        | some b => .ok (.bl b) s
        | none => .bad)
      | none => .bad)
    | _ => .bad := by
  intro pins s σ H m st ds vs us Q I rv sr rl post
  dsimp only at post
  split at post
  · rename_i x t
    split at post
    · rename_i k ek
      split at post
      · rename_i b eb
        obtain ⟨v, w, rfl, r1, r2⟩ := rpl2 rl
        have ty := kind_ty T sr ek r1
        have one : isOne G k t = some b → wpAny (model X.prog X.w) X.A (PySem.call (.builtin "isinstance") us) (EP X pins σ Q) X.xe s := fun e =>
          call_isi pins s σ H _ us Q I rv ⟨v, w, _, t.cv pl, b, rfl, cls_v e r2, ty, T.one k t b e, post _ _ _ Ext.refl sr rfl⟩
        cases t with
        | tup cs =>
          obtain ⟨a, ws, rfl, h1, h2⟩ := r2
          have e : isAny G k cs = some b := eb
          rcases h1 with h1 | ⟨o, its, n, q1, q2, q3, q4, q5⟩
          · exact call_isiT pins s σ H _ us Q I rv ⟨v, a, ws, _, _, b, rfl, h1, clss_v e h2, ty, isAny_ok T e, post _ _ _ Ext.refl sr rfl⟩
          · have hw : its.toList = cs.map (D.cv pl) := ClsV.all (clss_v e h2) q5
            obtain ⟨oc, od, odt, osl⟩ := o
            obtain rfl : oc = .type "tuple" := q2
            obtain rfl : odt = .seq its n := q3
            have hw2 : its = (cs.map (D.cv pl)).toArray := by
              rw [← hw]
            subst hw2
            exact call_isiK pins s σ H _ us Q I rv ⟨v, a, od, _, n, osl, _, b, rfl, q1, ty, isAny_ok T e, post _ _ _ Ext.refl sr rfl⟩
        | _ => exact one eb
      · exact post.elim
    · exact post.elim
  · exact post.elim
/-- a call of a built-in, by its name -/
def Bi.val : Bi → Value
  | .len => .builtin "len"
  | .isinstance => .builtin "isinstance"
  | .abs => .builtin "abs"
  | .sum => .builtin "sum"
  | .int => .type "int"
  | .str => .type "str"
  | .bool => .type "bool"
  | .list => .type "list"
  | .tuple => .type "tuple"
theorem call_biF (T : Kit X.K G pl) (b : Bi) : CallS X pl W b.val (biF G b) := by
  intro pins s σ H m st ds vs us Q I rv sr rl post
  unfold biF at post
  split at post
  · rename_i z
    split at post
    · rename_i hz
      obtain ⟨v, rfl, r1⟩ := rpl1 rl
      obtain rfl : v = .str (toStr z) := r1
      refine call_len_str pins s σ H _ us Q I rv ⟨toStr z, rfl, lim_line (by rw [toStr_len]; exact hz), ?_⟩
      rw [toStr_len]
      exact post _ _ _ Ext.refl sr rfl
    · exact post.elim
  · obtain ⟨v, rfl, a, vs, rfl, h1, h2⟩ := rpl1 rl
    refine call_len_seq pins s σ H _ us Q I rv ⟨a, vs, rfl, .inr h1.sq, ?_⟩
    rw [rpl_len h2]
    exact post _ _ _ Ext.refl sr rfl
  · rename_i i
    obtain ⟨v, rfl, hi, rfl⟩ := rpl1 rl
    split at post
    · rename_i xs e
      obtain ⟨vs, h1, h2⟩ := sr.ob i _ e
      refine call_len_seq pins s σ H _ us Q I rv ⟨m i, vs, rfl, .inl (SqL.of h1), ?_⟩
      rw [rpl_len h2]
      exact post _ _ _ Ext.refl sr rfl
    · exact post.elim
  · obtain ⟨v, rfl, rfl⟩ := rpl1 rl
    exact call_int1 pins s σ H _ us Q I rv (.inl ⟨_, rfl, post _ _ _ Ext.refl sr rfl⟩)
  · obtain ⟨v, rfl, rfl⟩ := rpl1 rl
    exact call_int1 pins s σ H _ us Q I rv (.inr ⟨_, rfl, post _ _ _ Ext.refl sr rfl⟩)
  · obtain ⟨v, rfl, rfl⟩ := rpl1 rl
    exact call_bool1 pins s σ H _ us Q I rv (.inr ⟨_, rfl, post _ _ _ Ext.refl sr rfl⟩)
  · obtain ⟨v, rfl, rfl⟩ := rpl1 rl
    exact call_bool1 pins s σ H _ us Q I rv (.inl ⟨_, rfl, post _ _ _ Ext.refl sr rfl⟩)
  · obtain ⟨v, rfl, rfl⟩ := rpl1 rl
    exact call_abs pins s σ H _ us Q I rv ⟨_, rfl, post _ _ _ Ext.refl sr rfl⟩
  · rename_i z
    obtain ⟨v, rfl, r1⟩ := rpl1 rl
    obtain rfl : v = .str (toStr z) := r1
    exact SkE.call_str_str pins s σ H _ us Q I rv ⟨toStr z, rfl, post _ _ _ Ext.refl sr rfl⟩
  · rename_i z
    split at post
    · rename_i hz
      obtain ⟨v, rfl, rfl⟩ := rpl1 rl
      refine call_str_int pins s σ H _ us Q I rv ⟨z, rfl, hz, post _ _ _ Ext.refl sr ?_⟩
      show V.str _ = V.str (toStr (ofStr _))
      rw [toStr_of]
    · exact post.elim
  · exact call_isF T pins s σ H m st _ vs us Q I rv sr rl post
  · rename_i i
    obtain ⟨v, rfl, hi, rfl⟩ := rpl1 rl
    split at post
    · rename_i xs e
      obtain ⟨vs, h1, h2⟩ := sr.ob i _ e
      exact call_list_of pins s σ H _ us Q I rv ⟨m i, vs, rfl, .inl (SqL.of h1), fun p hp => post_lst sr h2 post p hp⟩
    · exact post.elim
  · obtain ⟨v, rfl, a, vs, rfl, h1, h2⟩ := rpl1 rl
    exact call_list_of pins s σ H _ us Q I rv ⟨a, vs, rfl, .inr h1.sq, fun p hp => post_lst sr h2 post p hp⟩
  · rename_i i
    obtain ⟨v, rfl, hi, rfl⟩ := rpl1 rl
    split at post
    · rename_i xs e
      obtain ⟨vs, h1, h2⟩ := sr.ob i _ e
      exact call_tuple_of pins s σ H _ us Q I rv ⟨m i, vs, rfl, .inl ⟨SqL.of h1, fun p hp => post_tup sr h2 post p hp⟩⟩
    · exact post.elim
  · obtain ⟨v, rfl, a, vs, rfl, h1, h2⟩ := rpl1 rl
    exact call_tuple_of pins s σ H _ us Q I rv ⟨a, vs, rfl, .inr ⟨h1.sq, post _ _ _ Ext.refl sr ⟨a, vs, rfl, h1, h2⟩⟩⟩
  · exact post.elim
end
end Lt
/-! ### methods of built-in types -/
namespace Lt
open PySem PySem.Spec PyProof.Rows L2
section
variable {X : Cx} {pl : Pl} {W : WX} {G : Ctx} {fa fb fc : Lt.Env → Lt.St → R D} {fs : Lt.Env → Lt.St → R (List D)} {l r e0 : Expr} {es : List Expr} {pos : Pos}
theorem set_ext {m : Nat → Addr} {s : Lt.St} {H : Hp} {i : Nat} {o : Ob} {u : HO} (hi : i < s.length) : Ext m s H m (s.set i o) (upd H (m i) u) where
  len := by simp
  agr := fun _ _ => rfl
  keep := fun a o h hn => by
    rw [upd_ne fun e => hn i hi e.symm]
    exact h
  new := fun j h1 h2 => by
    simp at h2
    omega
theorem set_sr {m : Nat → Addr} {s : Lt.St} {H : Hp} {i : Nat} {o : Ob} {u : HO} (sr : SR X.K pl.ca m s H) (hi : i < s.length) (new : RpO X.K pl.ca m s.length (upd H (m i) u) (m i) o) : SR X.K pl.ca m (s.set i o) (upd H (m i) u) := by
  have x : Ext m s H m (s.set i o) (upd H (m i) u) := set_ext hi
  have hl : (s.set i o).length = s.length := by simp
  refine ⟨fun j ob h => ?_, fun a b ha hb e => sr.inj a b (by rw [hl] at ha; exact ha) (by rw [hl] at hb; exact hb) e⟩
  by_cases hj : i = j
  · subst hj
    rw [List.getElem?_set_self hi] at h
    cases h
    rw [hl]
    exact new
  · rw [List.getElem?_set_ne hj] at h
    have hj' : j < s.length := (List.getElem?_eq_some_iff.mp h).1
    have hm : m j ≠ m i := fun e => hj (sr.inj _ _ hi hj' e.symm)
    have q := sr.ob j ob h
    have rpl : ∀ ds vs, RpL X.K pl.ca m s.length H ds vs → RpL X.K pl.ca m (s.set i o).length (upd H (m i) u) ds vs := fun ds vs q => x.rpl sr q
    cases ob with
    | lst ds =>
      obtain ⟨ws, h1, h2⟩ := q
      exact ⟨ws, by rw [upd_ne hm]; exact h1, rpl _ _ h2⟩
    | ins c fs =>
      obtain ⟨ok, dx, vfs, h1, h2⟩ := q
      exact ⟨ok, dx, vfs, by rw [upd_ne hm]; exact h1, RpF.go (fun _ _ q => x.rp sr q) _ _ h2⟩
/-- a list written -/
theorem post_set {m : Nat → Addr} {s : Lt.St} {H : Hp} {i : Nat} {ds : List D} {vs : List V} {d : D} {v : V} {Q : VK} {E : XK} (sr : SR X.K pl.ca m s H) (hi : i < s.length) (rl : RpL X.K pl.ca m s.length H ds vs) (rp : Rp X.K pl.ca m s.length H d v)
    (post : PoE X pl m s H (.ok d (s.set i (.lst ds))) Q E) : Q v (upd H (m i) (.lst vs)) := by
  have x : Ext m s H m (s.set i (.lst ds)) (upd H (m i) (.lst vs)) := set_ext hi
  have rl' := x.rpl sr rl
  have rp' := x.rp sr rp
  have hl : (s.set i (Ob.lst ds)).length = s.length := by simp
  rw [hl] at rl'
  exact post m _ _ x (set_sr sr hi ⟨vs, upd_same, rl'⟩) rp'
def MethS (X : Cx) (pl : Pl) (W : WX) (id : String) (g : D → List D → Lt.St → R D) : Prop :=
  ∀ (pins : List (Addr × Obj)) (s : Shared) (σ : L2.St) (H : Hp) (m : Nat → Addr) (st : Lt.St) (d : D) (ds : List D) (x : V) (vs : List V) (v : Value) (us : List Value) (Q : VK), Inv X pins σ H s → RelV x v → Vals vs us → SR X.K pl.ca m st H → Rp X.K pl.ca m st.length H d x → RpL X.K pl.ca m st.length H ds vs →
    PoE X pl m st H (g d ds st) Q (fun c d H' => W c d σ H') → wpAny (model X.prog X.w) X.A (PySem.call (.builtin id) (v :: us)) (EP X pins σ Q) X.xe s
theorem rpl_last {m : Nat → Addr} {n : Nat} {H : Hp} {ds : List D} {vs : List V} {d : D} (h : RpL X.K pl.ca m n H ds vs) (e : ds.getLast? = some d) : ∃ v, vs[vs.length - 1]? = some v ∧ Rp X.K pl.ca m n H d v := by
  rw [List.getLast?_eq_getElem?] at e
  rw [rpl_len h]
  exact rpl_get h e
theorem rpl_dropLast {m : Nat → Addr} {n : Nat} {H : Hp} {ds : List D} {vs : List V} (h : RpL X.K pl.ca m n H ds vs) : RpL X.K pl.ca m n H ds.dropLast vs.dropLast := by
  rw [List.dropLast_eq_take, List.dropLast_eq_take, rpl_len h]
  exact rpl_take _ h
theorem m_append : MethS X pl W "list.append" (bmF .append) := by
  intro pins s σ H m st d ds x vs v us Q I rx rv sr rp rl post
  unfold bmF at post
  split at post <;> first | exact post.elim | skip
  all_goals first | (rename_i hm; cases hm; done) | skip
  rename_i i y _
  obtain ⟨hi, rfl⟩ := rp
  obtain ⟨w, rfl, r1⟩ := rpl1 rl
  split at post
  · rename_i xs e
    split at post
    · rename_i hx
      obtain ⟨ws, h1, h2⟩ := sr.ob i _ e
      refine mt_append pins s σ H _ _ v us Q I rx rv ⟨m i, ws, w, rfl, rfl, h1, ?_, ?_⟩
      · rw [rpl_len h2]
        exact Nat.lt_of_lt_of_le hx (by decide)
      · exact post_set sr hi (rpl_append (show RpL X.K pl.ca m st.length H [y] [w] from ⟨w, [], rfl, r1, rfl⟩) h2) (show Rp X.K pl.ca m st.length H .non .non from rfl) post
    · exact post.elim
  · exact post.elim
theorem m_pop : MethS X pl W "list.pop" (bmF .pop) := by
  intro pins s σ H m st d ds x vs v us Q I rx rv sr rp rl post
  unfold bmF at post
  split at post <;> first | exact post.elim | skip
  all_goals first | (rename_i hm; cases hm; done) | skip
  rename_i i _
  obtain ⟨hi, rfl⟩ := rp
  have rl' : vs = [] := rl
  subst rl'
  split at post
  · rename_i xs e
    split at post
    · rename_i y ey
      obtain ⟨ws, h1, h2⟩ := sr.ob i _ e
      obtain ⟨w, h3, h4⟩ := rpl_last h2 ey
      exact mt_pop pins s σ H _ _ v us Q I rx rv ⟨m i, ws, w, rfl, rfl, h1, h3, post_set sr hi (rpl_dropLast h2) h4 post⟩
    · exact post.elim
  · exact post.elim
theorem m_reverse : MethS X pl W "list.reverse" (bmF .reverse) := by
  intro pins s σ H m st d ds x vs v us Q I rx rv sr rp rl post
  unfold bmF at post
  split at post <;> first | exact post.elim | skip
  all_goals first | (rename_i hm; cases hm; done) | skip
  rename_i i _
  obtain ⟨hi, rfl⟩ := rp
  have rl' : vs = [] := rl
  subst rl'
  split at post
  · rename_i xs e
    obtain ⟨ws, h1, h2⟩ := sr.ob i _ e
    exact mt_reverse pins s σ H _ _ v us Q I rx rv ⟨m i, ws, rfl, rfl, h1, post_set sr hi (rpl_reverse h2) (show Rp X.K pl.ca m st.length H .non .non from rfl) post⟩
  · exact post.elim
theorem m_removeprefix : MethS X pl W "str.removeprefix" (bmF .removeprefix) := by
  intro pins s σ H m st d ds x vs v us Q I rx rv sr rp rl post
  unfold bmF at post
  split at post <;> first | exact post.elim | skip
  all_goals first | (rename_i hm; cases hm; done) | skip
  obtain rfl : x = .str (toStr _) := rp
  obtain ⟨w, rfl, rfl⟩ := rpl1 rl
  split at post
  · rename_i a b hz
    refine mt_removeprefix pins s σ H _ _ v us Q I rx rv ⟨_, _, rfl, rfl, lim_line (by rw [toStr_len]; exact hz), ?_⟩
    have q := post _ _ _ Ext.refl sr rfl
    rw [toStr_of] at q
    exact q
  · exact post.elim
theorem m_startswith : MethS X pl W "str.startswith" (bmF .startswith) := by
  intro pins s σ H m st d ds x vs v us Q I rx rv sr rp rl post
  unfold bmF at post
  split at post <;> first | exact post.elim | skip
  all_goals first | (rename_i hm; cases hm; done) | skip
  obtain rfl : x = .str (toStr _) := rp
  obtain ⟨w, rfl, rfl⟩ := rpl1 rl
  exact mt_startswith pins s σ H _ _ v us Q I rx rv ⟨_, _, rfl, rfl, post _ _ _ Ext.refl sr rfl⟩
theorem m_find : MethS X pl W "str.find" (bmF .find) := by
  intro pins s σ H m st d ds x vs v us Q I rx rv sr rp rl post
  unfold bmF at post
  split at post <;> first | exact post.elim | skip
  all_goals first | (rename_i hm; cases hm; done) | skip
  obtain rfl : x = .str (toStr _) := rp
  obtain ⟨w, w', rfl, rfl, rfl⟩ := rpl2 rl
  exact mt_find3 pins s σ H _ _ v us Q I rx rv ⟨_, _, _, rfl, rfl, post _ _ _ Ext.refl sr rfl⟩
end
end Lt
/-! ### own defs, classes, instances -/
namespace Lt
open PySem PySem.Spec PyProof.Rows L2
section
variable {X : Cx} {pl : Pl} {W : WX} {G : Ctx} {C C1 : Calls} {k : Nat} {hot : Bool} {fa fb fc : Lt.Env → Lt.St → R D} {fs : Lt.Env → Lt.St → R (List D)} {l r e0 : Expr} {es : List Expr} {pos : Pos}
theorem xe_of (tk : Takes X W) {pins : List (Addr × Obj)} {σ : L2.St} {H : Hp} {s s' : Shared} {e : Value} (I : Inv X pins σ H s) (h : L2.CX X.prog X.w X.stack H s (fun c d H' => W c d σ H') e s') : X.xe e s' := passAt tk σ pins H s e s' I h
/-- what a call wants, in the machine's words -/
abbrev Back (X : Cx) (pins : List (Addr × Obj)) (σ : L2.St) (Q : VK) : Result → Shared → Prop := fun r s' => match r with
  | .ok (.ret v) => EP X pins σ Q v s'
  | .ok _ => False
  | .error e => X.xe e s'
def CallC (X : Cx) (pl : Pl) (W : WX) (f : Value) (g : List D → Lt.St → R D) : Prop :=
  ∀ (pins : List (Addr × Obj)) (s : Shared) (σ : L2.St) (H : Hp) (m : Nat → Addr) (st : Lt.St) (ds : List D) (vs : List V) (us : List Value) (Q : VK), Inv X pins σ H s → Vals vs us → SR X.K pl.ca m st H → RpL X.K pl.ca m st.length H ds vs →
    PoE X pl m st H (g ds st) Q (fun c d H' => W c d σ H') → codeAny (model X.prog X.w) X.A (.call f ⟨us, []⟩) (Back X pins σ Q) s
theorem CallC.s {f : Value} {g : List D → Lt.St → R D} (h : CallC X pl W f g) : CallS X pl W f g := fun pins s σ H m st ds vs us Q I rv sr rl post => wpAny_call (h pins s σ H m st ds vs us Q I rv sr rl post)
/-- a def of ours is called -/
theorem go_call {j : Nat} (ok : CallsOk X.prog X.w X.K X.mg X.base G pl C j) (hr : Room j X.A) (tk : Takes X W) {f : Fn} : CallC X pl W (.ref (pl.fa f)) (C f) := by
  intro pins s σ H m st ds vs us Q I rv sr rl post
  cases hf : G.fn f with
  | none =>
    rw [ok.no f ds st hf] at post
    exact post.elim
  | some d =>
    have F := (ok.fn f d hf).1
    refine codeAny_mono (F X.A X.stack s H us vs Q (fun c d H' => W c d σ H') hr I.env0 rv ⟨m, st, ds, sr, rl, post⟩) fun res s' hq => ?_
    cases res with
    | error e => exact xe_of tk I hq
    | ok fl =>
      cases fl with
      | ret u => exact I.after hq
      | next => exact False.elim hq
      | brk => exact False.elim hq
      | cont => exact False.elim hq
theorem room_of (R : Run X G pl C C1 W k hot) (h : hot = true → False) : Room k X.A := R.room (by cases hot; rfl; exact (h rfl).elim)
/-- .. whatever the context -/
theorem run_callC (R : Run X G pl C C1 W k hot) {f : Fn} : CallC X pl W (.ref (pl.fa f)) (C f) := by
  cases hot with
  | true =>
    intro pins s σ H m st ds vs us Q I rv sr rl post
    rw [(R.bad rfl).1] at post
    exact post.elim
  | false => exact go_call R.ok (R.room rfl) R.tk
theorem run_call (R : Run X G pl C C1 W k hot) {f : Fn} : CallS X pl W (.ref (pl.fa f)) (C f) := (run_callC R).s
def NoStar (es : List Expr) : Prop := ∀ e ∈ es, ∀ v p, e ≠ .Starred v p
theorem no_star {env : PySem.Env} : ∀ {es : List Expr}, NoStar es → starEach es env = es.map fun e => (false, eval e env)
  | [], _ => rfl
  | e :: es, h => by
    rw [star_ne (h e List.mem_cons_self), no_star fun x hx => h x (List.mem_cons_of_mem _ hx)]
    rfl
theorem no_back {env : PySem.Env} {pos : Pos} {es : List Expr} (h : NoStar es) : (backTo pos (starEach es env)).any (·.1) = false := by
  rw [no_star h]
  unfold backTo
  rw [List.map_map, List.any_map]
  rw [List.any_eq_false]
  intro x _
  simp
/-- what a call's arguments give -/
theorem args_of {g : List D → Lt.St → R D} {σ : L2.St} {H : Hp} {Q : VK} (h : TE' X pl W (fun e s => (fs e s).bind fun ds s => g ds s) σ H Q) :
    TA' X pl W fs σ H fun vs H1 => ∃ m st ds, SR X.K pl.ca m st H1 ∧ RpL X.K pl.ca m st.length H1 ds vs ∧ PoE X pl m st H1 (g ds st) Q (fun c d H' => W c d σ H') := by
  obtain ⟨m, st, e, sr, er, post⟩ := h
  exact ⟨m, st, e, sr, er, (PostE.bind (rel' := RpL X.K pl.ca) post).mono (fun vs H1 ⟨m1, ds, s1, x1, sr1, r1, p1⟩ => ⟨m1, s1, ds, sr1, r1, p1⟩) fun _ _ _ h => h⟩
theorem snd_call {g : List D → Lt.St → R D} {u : Value} {x : Str} {p : Pos} {a : Expr} (hc : CallS X pl W u g) (hg : L2.Gl X x) (hm : X.mg x = some u) (hdb : (x == ("__debug__" : Str)) = false) (kp : PySem.W.keepIn X.K u = true) (ha : PA X (a :: es) (TA' X pl W fs)) (hs : NoStar (a :: es)) :
    PE X (.Call (.Name x p) (a :: es) [] pos) (TE' X pl W fun e s => (fs e s).bind fun ds s => g ds s) := by
  refine ⟨fun pins s σ H Q I h => ?_⟩
  refine wpAny_Call_Name_kw (ld_glob I hg hm ?_ hdb)
  exact PySem.W.callWith_K (h₀ := X.base) I.ok.mod.kin kp (thn (ha.run pos pins s σ H _ I (args_of h)) fun us s1 ⟨vs, H1, I1, r, m, st, ds, sr, rl, post⟩ => ⟨I1.kIn, hc pins s1 σ H1 m st ds vs us Q I1 r sr rl post⟩) (star_ne (hs a List.mem_cons_self)) (no_back fun e he => hs e (List.mem_cons_of_mem _ he))
theorem snd_call0 {g : List D → Lt.St → R D} {u : Value} {x : Str} {p : Pos} (hc : CallS X pl W u g) (hg : L2.Gl X x) (hm : X.mg x = some u) (hdb : (x == ("__debug__" : Str)) = false) (kp : PySem.W.keepIn X.K u = true) :
    PE X (.Call (.Name x p) [] [] pos) (TE' X pl W fun _ s => g [] s) := by
  refine ⟨fun pins s σ H Q I ⟨m, st, e, sr, er, post⟩ => ?_⟩
  refine wpAny_Call_Name_kw (ld_glob I hg hm ?_ hdb)
  exact PySem.W.callWith_K0 I.kIn kp (hc pins s σ H m st [] [] [] Q I .nil sr rfl post)
/-- a built-in called, by its name -/
theorem snd_bi {g : List D → Lt.St → R D} {b : Bi} {p : Pos} {a : Expr} (hc : CallS X pl W b.val g) (hg : L2.Gl X b.nm) (hm : X.mg b.nm = none) (ha : PA X (a :: es) (TA' X pl W fs)) (hs : NoStar (a :: es)) :
    PE X (.Call (.Name b.nm p) (a :: es) [] pos) (TE' X pl W fun e s => (fs e s).bind fun ds s => g ds s) := by
  have st := star_ne (env := X.env) (es := es) (hs a List.mem_cons_self)
  have nb := no_back (env := X.env) (pos := pos) fun e he => hs e (List.mem_cons_of_mem _ he)
  refine ⟨fun pins s σ H Q I h => ?_⟩
  have run : wpAny (model X.prog X.w) X.A (spliced (backTo pos (starEach (a :: es) X.env))) (fun us s1 => wpAny (model X.prog X.w) X.A (PySem.call b.val us) (EP X pins σ Q) X.xe s1) X.xe s :=
    thn (ha.run pos pins s σ H _ I (args_of h)) fun us s1 ⟨vs, H1, I1, r, m, st, ds, sr, rl, post⟩ => hc pins s1 σ H1 m st ds vs us Q I1 r sr rl post
  refine wpAny_Call_Name_kw (ld_blt (u := b.val) I hg hm (by cases b <;> decide +kernel) ?_ (by cases b <;> decide) (by cases b <;> decide))
  cases b with
  | len => exact PyProof.Rows.callWith_builtin1 run st nb
  | isinstance => exact PyProof.Rows.callWith_builtin1 run st nb
  | abs => exact PyProof.Rows.callWith_builtin1 run st nb
  | sum => exact PyProof.Rows.callWith_builtin1 run st nb
  | int => exact PyProof.Rows.callWith_type1 run st nb
  | str => exact PyProof.Rows.callWith_type1 run st nb
  | bool => exact PyProof.Rows.callWith_type1 run st nb
  | list => exact PyProof.Rows.callWith_type1 run st nb
  | tuple => exact PyProof.Rows.callWith_type1 run st nb
/-- an instance made -/
theorem run_mk (R : Run X G pl C C1 W k hot) {c : Cl} : CallS X pl W (.ref (pl.ca c)) (mkF G C1 c) := by
  intro pins s σ H m st ds vs us Q I rv sr rl post
  unfold mkF at post
  split at post
  · rename_i g hx hg
    by_cases hh : hot = true
    · rw [(R.bad hh).2] at post
      exact post.elim
    have hot0 : hot = false := by cases hot; rfl; exact absurd rfl hh
    by_cases hk : k = 0
    · rw [R.zero hk] at post
      exact post.elim
    have M := R.mok.mker c g hx hg
    have hr : Room (k - 1 + 1) X.A := by rw [Nat.sub_add_cancel (Nat.pos_of_ne_zero hk)]; exact R.room hot0
    have hx1 : H (s.heap.objs.size + 1) = none := I.hok.fresh (Nat.le_succ _)
    have hdx : H s.heap.objs.size = none := I.hok.fresh (Nat.le_refl _)
    have ne : s.heap.objs.size ≠ s.heap.objs.size + 1 := Nat.ne_of_lt (Nat.lt_succ_self _)
    have I2 := Inv.made (C := pl.ca c) I
    -- the new instance, with us
    have sr1 : SR X.K pl.ca m st (upd H s.heap.objs.size (.own (s.heap.objs.size + 1))) := by
      refine ⟨fun i o h => ?_, sr.inj⟩
      have hi : i < st.length := (List.getElem?_eq_some_iff.mp h).1
      have q := sr.ob i o h
      have hm : m i ≠ s.heap.objs.size := fun e => by
        rcases sr.at hi with ⟨_, z⟩ | ⟨_, _, _, z⟩ <;> rw [e, hdx] at z <;> cases z
      have x : Ext m st H m st (upd H s.heap.objs.size (.own (s.heap.objs.size + 1))) := ⟨Nat.le_refl _, fun _ _ => rfl, fun a o h _ => by rw [upd_ne (ne_of_none h hdx)]; exact h, fun i h1 h2 => absurd h2 (Nat.not_lt.mpr h1)⟩
      cases o with
      | lst ds =>
        obtain ⟨ws, h1, h2⟩ := q
        exact ⟨ws, by rw [upd_ne hm]; exact h1, x.rpl sr h2⟩
      | ins c fs =>
        obtain ⟨ok, dx, vfs, h1, h2⟩ := q
        exact ⟨ok, dx, vfs, by rw [upd_ne hm]; exact h1, RpF.go (fun _ _ q => x.rp sr q) _ _ h2⟩
    have hx2 : (upd H s.heap.objs.size (.own (s.heap.objs.size + 1))) (s.heap.objs.size + 1) = none := by
      rw [upd_ne ne.symm]
      exact hx1
    have x1 : Ext m st H m st (upd H s.heap.objs.size (.own (s.heap.objs.size + 1))) := ⟨Nat.le_refl _, fun _ _ => rfl, fun a o h _ => by rw [upd_ne (ne_of_none h hdx)]; exact h, fun i h1 h2 => absurd h2 (Nat.not_lt.mpr h1)⟩
    have x2 : Ext m st (upd H s.heap.objs.size (.own (s.heap.objs.size + 1))) (more m st.length (s.heap.objs.size + 1)) (st ++ [Ob.ins c []]) (upd (upd H s.heap.objs.size (.own (s.heap.objs.size + 1))) (s.heap.objs.size + 1) (.ins (pl.ca c) s.heap.objs.size [])) := more_ext hx2
    have sr2 := more_sr (o := Ob.ins c []) (u := .ins (pl.ca c) s.heap.objs.size []) sr1 hx2 ⟨R.mok.kit.cls c hx, s.heap.objs.size, [], upd_same, rfl⟩
    have x3 := x1.trans x2 sr1
    have hl : (st ++ [Ob.ins c []]).length = st.length + 1 := by simp
    have rl2 : RpL X.K pl.ca (more m st.length (s.heap.objs.size + 1)) (st ++ [Ob.ins c []]).length (upd (upd H s.heap.objs.size (.own (s.heap.objs.size + 1))) (s.heap.objs.size + 1) (.ins (pl.ca c) s.heap.objs.size [])) (.obj st.length :: ds) (.ref (s.heap.objs.size + 1) :: vs) :=
      ⟨_, _, rfl, ⟨by rw [hl]; exact Nat.lt_succ_self _, by show V.ref _ = .ref (if st.length = st.length then _ else _); rw [if_pos rfl]⟩, x3.rpl sr rl⟩
    have hc : C1 g (.obj st.length :: ds) (st ++ [Ob.ins c []]) ≠ .bad := fun e => by
      rw [e] at post
      exact post.elim
    cases hf : G.fn g with
    | none => exact absurd (R.ok1.no g _ _ hf) hc
    | some d =>
      have F := (R.ok1.fn g d hf).1
      have pq : PoE X pl (more m st.length (s.heap.objs.size + 1)) (st ++ [Ob.ins c []]) (upd (upd H s.heap.objs.size (.own (s.heap.objs.size + 1))) (s.heap.objs.size + 1) (.ins (pl.ca c) s.heap.objs.size [])) (C1 g (.obj st.length :: ds) (st ++ [Ob.ins c []])) (fun v H2 => v = .non ∧ Q (.ref (s.heap.objs.size + 1)) H2) (fun c d H' => W c d σ H') := by
        cases e : C1 g (.obj st.length :: ds) (st ++ [Ob.ins c []]) with
        | bad => exact absurd e hc
        | err z s' =>
          rw [e] at post
          exact PostE.later x3 sr2 post
        | ok z s' =>
          rw [e] at post
          cases z with
          | non =>
            intro m' H' v x4 sr4 rv4
            refine ⟨rv4, post m' H' _ (x3.trans x4 sr2) sr4 ⟨by have := x4.len; rw [hl] at this; omega, ?_⟩⟩
            rw [x4.agr st.length (by rw [hl]; exact Nat.lt_succ_self _)]
            show V.ref _ = .ref (if st.length = st.length then _ else _)
            rw [if_pos rfl]
          | _ => exact post.elim
      refine wpAny_call (make_map (f := pl.fa g) I.kIn M.makes M.init (beq_iff_eq.mp M.fn) (codeAny_mono (F _ X.stack _ _ (Value.ref (s.heap.objs.size + 1) :: us) (.ref (s.heap.objs.size + 1) :: vs) _ (fun c d H' => W c d σ H') (hr.make (pl.ca c) us []) (I2.env0.make (pl.ca c) us []) (.cons rfl rv) ⟨_, _, _, sr2, rl2, pq⟩) fun res s' hq => ?_))
      cases res with
      | error e => exact xe_of R.tk I2 hq
      | ok fl =>
        cases fl with
        | ret u =>
          obtain ⟨v, H', I3, rv, ev, q3⟩ := I2.after hq
          subst ev
          exact ⟨rv, ⟨V.ref (s.heap.objs.size + 1), H', I3, rfl, q3⟩⟩
        | next => exact False.elim hq
        | brk => exact False.elim hq
        | cont => exact False.elim hq
  · exact post.elim
/-- a class held by a name, called -/
theorem snd_mkl (R : Run X G pl C C1 W k hot) {i : Nat} {x : Str} {p pos : Pos} {a : Expr} (hN : X.N[i]? = some x) (hv : Vis X.env.scope x) (hd : (x == ("__debug__" : Str)) = false) (hcd : (x == ("__classdict__" : Str)) = false) (ha : PA X (a :: es) (TA' X pl W fs)) (hs : NoStar (a :: es)) :
    PE X (.Call (.Name x p) (a :: es) [] pos) (TE' X pl W fun e s => match e[i]? with
      | some (some (.cls c)) => (fs e s).bind fun ds s => mkF G C1 c ds s
      | _ => .bad) := by
  refine ⟨fun pins s σ H Q I ⟨m, st, e, sr, er, post⟩ => ?_⟩
  dsimp only at post
  cases h : e[i]? with
  | none =>
    rw [h] at post
    exact post.elim
  | some o =>
    rw [h] at post
    cases o with
    | none => exact post.elim
    | some d =>
      obtain ⟨v, h1, h2⟩ := er.1.get h
      cases d <;> first | exact post.elim | skip
      rename_i c
      obtain rfl : v = .ref (pl.ca c) := h2
      refine wpAny_Call_Name_kw (thn ((pe_var (pos := p) hN hv hd hcd).run pins s σ H (fun v H1 => v = .ref (pl.ca c) ∧ H1 = H) I ⟨.ref (pl.ca c), h1, rfl, rfl⟩) fun u s1 ⟨v, H1, I1, r1, q1⟩ => ?_)
      obtain ⟨rfl, rfl⟩ := q1
      cases r1
      exact PySem.W.callWith_K (h₀ := X.base) I1.ok.mod.kin (R.mok.ckeep c) (thn (ha.run pos pins s1 σ _ _ I1 (args_of ⟨m, st, e, sr, er, post⟩)) fun us s2 ⟨vs, H2, I2, r, m, st, ds, sr, rl, post⟩ => ⟨I2.kIn, run_mk R pins s2 σ H2 m st ds vs us Q I2 r sr rl post⟩) (star_ne (hs a List.mem_cons_self)) (no_back fun e he => hs e (List.mem_cons_of_mem _ he))
end
end Lt
/-! ### fields and methods -/
namespace Lt
open PySem PySem.Spec PyProof.Rows L2
section
variable {X : Cx} {pl : Pl} {W : WX} {G : Ctx} {C C1 : Calls} {k : Nat} {hot : Bool} {fa fb fc : Lt.Env → Lt.St → R D} {fs : Lt.Env → Lt.St → R (List D)} {l r e0 : Expr} {es : List Expr} {pos : Pos}
theorem rpf_look {K : PySem.W.Frag} {ca : Cl → Addr} {m : Nat → Addr} {n : Nat} {H : Hp} (inj : ∀ f g, At.nm f = At.nm g → f = g) {f : At} : ∀ {fs : List (At × D)} {vs : List (Str × V)}, RpF K ca m n H fs vs →
    match field fs f with
    | none => vs.lookup (At.nm f) = none
    | some d => ∃ v, vs.lookup (At.nm f) = some v ∧ Rp K ca m n H d v
  | [], vs, h => by
    have h' : vs = [] := h
    subst h'
    rfl
  | (g, d) :: r, vs, ⟨v, q, e, h1, h2⟩ => by
    subst e
    have ih := rpf_look inj (f := f) h2
    unfold field at ih ⊢
    rw [List.lookup_cons, List.lookup_cons]
    by_cases hg : f = g
    · subst hg
      rw [beq_self_eq_true, beq_self_eq_true]
      exact ⟨v, rfl, h1⟩
    · have h3 : At.nm f ≠ At.nm g := fun e => hg (inj _ _ e)
      rw [beq_eq_false_iff_ne.mpr hg, beq_eq_false_iff_ne.mpr h3]
      exact ih
theorem rpf_len {K : PySem.W.Frag} {ca : Cl → Addr} {m : Nat → Addr} {n : Nat} {H : Hp} : ∀ {fs : List (At × D)} {vs : List (Str × V)}, RpF K ca m n H fs vs → vs.length = fs.length
  | [], vs, h => by
    have h' : vs = [] := h
    subst h'
    rfl
  | (g, d) :: r, vs, ⟨v, q, e, h1, h2⟩ => by
    subst e
    simp [rpf_len h2]
theorem rpf_put {K : PySem.W.Frag} {ca : Cl → Addr} {m : Nat → Addr} {n : Nat} {H : Hp} (inj : ∀ f g, At.nm f = At.nm g → f = g) {f : At} {d : D} {v : V} (rp : Rp K ca m n H d v) : ∀ {fs : List (At × D)} {vs : List (Str × V)}, RpF K ca m n H fs vs → RpF K ca m n H (Lt.putF f d fs) (L2.putF (At.nm f) v vs)
  | [], vs, h => by
    have h' : vs = [] := h
    subst h'
    exact ⟨v, [], rfl, rp, rfl⟩
  | (g, c) :: r, vs, ⟨w, q, e, h1, h2⟩ => by
    subst e
    unfold Lt.putF L2.putF
    by_cases hg : g = f
    · subst hg
      rw [if_pos rfl, if_pos rfl]
      exact ⟨v, q, rfl, rp, h2⟩
    · have h3 : At.nm g ≠ At.nm f := fun e => hg (inj _ _ e)
      rw [if_neg hg, if_neg h3]
      exact ⟨w, _, rfl, h1, rpf_put inj rp h2⟩
/-- a field read -/
theorem run_att (R : Run X G pl C C1 W k hot) {f : At} {b : Bool} : Op1 X pl W (fun v => getAttr v (At.nm f) b) fun x s => attF G C1 x f s := by
  intro pins s σ H m st d x v Q I rx sr rp post
  cases d with
  | obj i =>
    obtain ⟨hi, rfl⟩ := rp
    obtain rfl : v = Value.ref (m i) := rx
    unfold attF at post
    dsimp only at post
    cases e : st[i]? with
    | none =>
      rw [e] at post
      exact post.elim
    | some o =>
      rw [e] at post
      cases o with
      | lst _ => exact post.elim
      | ins c fs =>
        dsimp only at post
        obtain ⟨ok, dx, vfs, h1, h2⟩ := sr.ob i _ e
        have lk := rpf_look R.mok.ainj (f := f) h2
        by_cases hx : G.exc c = true
        · rw [if_pos hx] at post
          exact post.elim
        rw [if_neg hx] at post
        have hx0 : G.exc c = false := by cases q : G.exc c; rfl; exact absurd q hx
        have me := R.mok.mem c f hx0
        cases em : G.mem c f with
        | none =>
          rw [em] at post me
          dsimp only at post
          cases ef : field fs f with
          | none =>
            rw [ef] at post
            exact post.elim
          | some d =>
            rw [ef] at post lk
            obtain ⟨w, q1, q2⟩ := lk
            exact getattr_ok I h1 ok.1 me q1 fun u s' I' ru => ⟨w, H, I', ru, post _ _ _ Ext.refl sr q2⟩
        | some mm =>
          rw [em] at post me
          cases mm with
          | fn g => exact post.elim
          | cm g => exact post.elim
          | oth => exact post.elim
          | con d =>
            dsimp only at post
            obtain ⟨mc, w, u, _, _, hc, hr⟩ := me
            cases ef : field fs f with
            | some _ =>
              rw [ef] at post
              exact post.elim
            | none =>
              rw [ef] at post lk
              exact getcon_ok I h1 ok.1 hc lk fun s' I' => ⟨w, H, I', hc.rel, post _ _ _ Ext.refl sr (hr _ _ _)⟩
          | prop g =>
            dsimp only at post
            obtain ⟨p, hp⟩ := me
            by_cases hh : hot = true
            · rw [(R.bad hh).2] at post
              exact post.elim
            have hot0 : hot = false := by cases hot; rfl; exact absurd rfl hh
            by_cases hk : k = 0
            · rw [R.zero hk] at post
              exact post.elim
            have hr : Room (k - 1 + 1) X.A := by rw [Nat.sub_add_cancel (Nat.pos_of_ne_zero hk)]; exact R.room hot0
            cases ec : C1 g [.obj i] st with
            | bad =>
              rw [ec] at post
              exact post.elim
            | err z s' =>
              rw [ec] at post
              exact post.elim
            | ok z s' =>
              rw [ec] at post
              have pq : PoE X pl m st H (C1 g [.obj i] st) Q (fun _ _ _ => False) := by
                rw [ec]
                exact post
              cases hf : G.fn g with
              | none =>
                rw [R.ok1.no g _ _ hf] at ec
                cases ec
              | some d =>
                have F := (R.ok1.fn g d hf).1
                obtain ⟨mA, O, _, _, _, _⟩ := ins_get I.hok h1
                obtain ⟨od, J, _⟩ := O.look
                obtain ⟨rest, hrec⟩ := hp.rec_
                have I1 := I.tok (s.toks + 1)
                have hc : (PySem.W.clsIn X.K (pl.ca c)).isSome = true := by
                  obtain ⟨cd, hc, _⟩ := PySem.W.any_some ok.1.hd
                  rw [hc]
                  rfl
                refine PySem.W.get_bind I.kIn J (PySem.W.plainGet_of (ok.1.get (At.nm f))).1 (PySem.W.findObj_data hc hp.at_ hp.get hp.tak) (PySem.W.plainGet_of (ok.1.get (At.nm f))).2 (wpAny_call (PySem.W.prop_get (s := { s with toks := s.toks + 1 }) I.kIn hrec ?_))
                refine codeAny_mono (F X.A.in1 X.stack _ H [.ref (m i)] [.ref (m i)] Q (fun _ _ _ => False) hr.in1 I1.env0.in1 (.cons rfl .nil) ⟨m, st, [.obj i], sr, ⟨_, [], rfl, ⟨hi, rfl⟩, rfl⟩, pq⟩) fun res s' hq => ?_
                cases res with
                | error er =>
                  obtain ⟨_, _, _, _, _, _, _, _, _, _, _, _, fls⟩ := hq
                  exact fls.elim
                | ok fl =>
                  cases fl with
                  | ret u =>
                    obtain ⟨w, H', I3, rw3, q3⟩ := I1.after hq
                    show wpAny _ _ (handedOut u) _ _ _
                    rw [PySem.W.handedOut_of (handed_of rw3)]
                    exact wpAny_pure ⟨w, H', I3, rw3, q3⟩
                  | next => exact False.elim hq
                  | brk => exact False.elim hq
                  | cont => exact False.elim hq
  | cls c =>
    obtain rfl : x = .ref (pl.ca c) := rp
    obtain rfl : v = Value.ref (pl.ca c) := rx
    unfold attF at post
    dsimp only at post
    by_cases hx : G.exc c = true
    · rw [if_pos hx] at post
      exact post.elim
    rw [if_neg hx] at post
    have hx0 : G.exc c = false := by cases q : G.exc c; rfl; exact absurd q hx
    have me := R.mok.mem c f hx0
    cases em : G.mem c f with
    | none =>
      rw [em] at post
      exact post.elim
    | some mm =>
      rw [em] at post me
      cases mm with
      | con d =>
        dsimp only at post
        obtain ⟨mc, w, u, rd, cv, hc, hr⟩ := me
        exact ClX.getcval_ok I rd cv fun s' I' => ⟨w, H, I', hc.rel, post _ _ _ Ext.refl sr (hr _ _ _)⟩
      | _ => exact post.elim
  | _ => exact post.elim
theorem snd_att (R : Run X G pl C C1 W k hot) {f : At} (ha : PE X l (TE' X pl W fa)) (hb : baseOk l = true) : PE X (.Attribute l (At.nm f) pos) (TE' X pl W fun e s => (fa e s).bind fun x s => attF G C1 x f s) :=
  ⟨fun pins s σ H Q I h => attr_of (attr_base hb) (thn (ha.run pins s σ H _ I (one h)) fun v s1 ⟨x, H1, I1, rx, m, d, st, sr, rp, po⟩ => run_att R pins s1 σ H1 m st d x v Q I1 rx sr rp po)⟩
/-- a method of ours -/
theorem meth_at (R : Run X G pl C C1 W k hot) {m : Nat → Addr} {st : Lt.St} {H : Hp} {d : D} {f : At} {x : V} {g : Fn} (sr : SR X.K pl.ca m st H) (rp : Rp X.K pl.ca m st.length H d x) (h : methOf G d f st = some g) :
    ∃ i c dx vfs, x = .ref (m i) ∧ H (m i) = some (.ins (pl.ca c) dx vfs) ∧ InsOk X.K (pl.ca c) ∧ G.exc c = false ∧ G.mem c f = some (.fn g) ∧ Meth X.K (pl.ca c) (At.nm f) (pl.fa g) ∧ vfs.lookup (At.nm f) = none := by
  unfold methOf at h
  cases d with
  | obj i =>
    obtain ⟨hi, rfl⟩ := rp
    dsimp only at h
    cases e : st[i]? with
    | none =>
      rw [e] at h
      cases h
    | some o =>
      rw [e] at h
      cases o with
      | lst _ => cases h
      | ins c fs =>
        dsimp only at h
        obtain ⟨ok, dx, vfs, h1, h2⟩ := sr.ob i _ e
        have lk := rpf_look R.mok.ainj (f := f) h2
        by_cases hx : G.exc c = true
        · rw [if_pos hx] at h
          cases h
        rw [if_neg hx] at h
        have hx0 : G.exc c = false := by cases q : G.exc c; rfl; exact absurd q hx
        have me := R.mok.mem c f hx0
        split at h
        · rename_i g' em ef
          cases h
          rw [em] at me
          rw [ef] at lk
          exact ⟨i, c, dx, vfs, rfl, h1, ok, hx0, em, me, lk⟩
        · cases h
  | _ => cases h
/-- x.m(..) -/
theorem eval_meth {o : Expr} {n : Str} {ap p : Pos} {as : List Expr} (hb : baseOk o = true) (hl : (ap.endLine == p.line) = true) (hf : few as = true) (hs : NoStar as) :
    eval (.Call (.Attribute o n ap) as [] p) X.env = (do
      let ov ← eval o X.env
      standAt ap.atName
      let (f, first) ← holding [ov] (getMethod ov n (plainOf o X.env))
      callWith p f first (backTo p (starEach as X.env)) (backToKw p (keywordEach [] X.env))) := by
  have e0 : eval (.Call (.Attribute o n ap) as [] p) X.env = (do
      let ov ← attributeBase o n X.env (eval o X.env)
      standAt ap.atName
      methodCall o n ap p X.env ov (as.length + ([] : List Keyword).length) (backTo p (starEach as X.env)) (backToKw p (keywordEach [] X.env))) := by rfl
  rw [e0, attr_base hb]
  have hform : methodCallForm (as.length + ([] : List Keyword).length) (backTo p (starEach as X.env)) (backToKw p (keywordEach [] X.env)) = true := by
    unfold methodCallForm
    have h1 : (backTo p (starEach as X.env)).all (fun x => !x.1) = true := by
      rw [no_star hs]
      unfold backTo
      rw [List.map_map, List.all_map, List.all_eq_true]
      intro x _
      rfl
    have h2 : decide (as.length + ([] : List Keyword).length + (if (backToKw p (keywordEach [] X.env)).isEmpty then 0 else 1) < 30) = true := decide_eq_true (of_decide_eq_true hf)
    rw [h1, h2]
    rfl
  congr 1
  funext ov
  congr 1
  funext _
  exact mcall_line hform hl
theorem snd_meth (R : Run X G pl C C1 W k hot) {f : At} {ap p : Pos} {a : Expr} {as : List Expr} (ha : PE X l (TE' X pl W fa)) (hes : PA X (a :: as) (TA' X pl W fs)) (hb : baseOk l = true) (hl : (ap.endLine == p.line) = true) (hf : few (a :: as) = true) (hs : NoStar (a :: as)) :
    PE X (.Call (.Attribute l (At.nm f) ap) (a :: as) [] p) (TE' X pl W fun e s => (fa e s).bind fun x s => match methOf G x f s with
      | some g => (fs e s).bind fun ds s => C g (x :: ds) s
      | none => .bad) := by
  refine ⟨fun pins s σ H Q I h => ?_⟩
  refine PySem.W.methodCall_KW (pl := plainOf l X.env) (thn (ha.run pins s σ H _ I (keep_env (g := fun x e s => match methOf G x f s with
      | some g => (fs e s).bind fun ds s => C g (x :: ds) s
      | none => .bad) h)) fun u s1 ⟨x, H1, I1, rx, m, d, st, e, sr, er, rp, post⟩ => ?_) (eval_meth hb hl hf hs)
  cases hm : methOf G d f st with
  | none =>
    rw [hm] at post
    exact post.elim
  | some g =>
    rw [hm] at post
    obtain ⟨i, c, dx, vfs, ex, h1, ok, hx0, em, me, lk⟩ := meth_at R sr rp hm
    generalize m i = b at ex h1
    subst ex
    obtain rfl : u = Value.ref b := rx
    refine getmeth_ok I1 h1 ok.1 me lk ?_
    have rd : TA' X pl W fs σ H1 fun vs H2 => ∃ m st ds, SR X.K pl.ca m st H2 ∧ RpL X.K pl.ca m st.length H2 (d :: ds) (.ref b :: vs) ∧ PoE X pl m st H2 (C g (d :: ds) st) Q (fun c d H' => W c d σ H') :=
      ⟨m, st, e, sr, er, (PostE.bind (rel' := RpL X.K pl.ca) post).mono (fun vs H2 ⟨m1, ds, s2, x1, sr1, r1, p1⟩ => ⟨m1, s2, ds, sr1, ⟨_, vs, rfl, x1.rp sr rp, r1⟩, p1⟩) fun _ _ _ h => h⟩
    refine PySem.W.callWith_K (first := [.ref b]) (h₀ := X.base) I.ok.mod.kin me.kp (thn (hes.run p pins s1 σ H1 _ I1 rd) fun us s2 ⟨vs, H2, I2, rv, m2, st2, ds, sr2, rl, post2⟩ => ⟨I2.kIn, ?_⟩) (star_ne (hs a List.mem_cons_self)) (no_back fun e he => hs e (List.mem_cons_of_mem _ he))
    exact run_call R pins s2 σ H2 m2 st2 (d :: ds) (.ref b :: vs) (.ref b :: us) Q I2 (.cons rfl rv) sr2 rl post2
theorem snd_meth0 (R : Run X G pl C C1 W k hot) {f : At} {ap p : Pos} (ha : PE X l (TE' X pl W fa)) (hb : baseOk l = true) (hl : (ap.endLine == p.line) = true) :
    PE X (.Call (.Attribute l (At.nm f) ap) [] [] p) (TE' X pl W fun e s => (fa e s).bind fun x s => match methOf G x f s with
      | some g => C g [x] s
      | none => .bad) := by
  refine ⟨fun pins s σ H Q I h => ?_⟩
  refine PySem.W.methodCall_KW (pl := plainOf l X.env) (thn (ha.run pins s σ H _ I (keep_env (g := fun x e s => match methOf G x f s with
      | some g => C g [x] s
      | none => .bad) h)) fun u s1 ⟨x, H1, I1, rx, m, d, st, e, sr, er, rp, post⟩ => ?_) (eval_meth hb hl rfl fun _ h => absurd h (by simp))
  cases hm : methOf G d f st with
  | none =>
    rw [hm] at post
    exact post.elim
  | some g =>
    rw [hm] at post
    obtain ⟨i, c, dx, vfs, rfl, h1, ok, hx0, em, me, lk⟩ := meth_at R sr rp hm
    obtain rfl : u = Value.ref (m i) := rx
    refine getmeth_ok I1 h1 ok.1 me lk ?_
    exact PySem.W.callWith_K0 (first := [.ref (m i)]) I1.kIn me.kp (run_call R pins s1 σ H1 m st [d] [.ref (m i)] [.ref (m i)] Q I1 (.cons rfl .nil) sr ⟨_, [], rfl, rp, rfl⟩ post)
/-- C.m(..), m a classmethod -/
theorem snd_cmeth (R : Run X G pl C C1 W k hot) {c : Cl} {f : At} {q ap p : Pos} {a : Expr} {as : List Expr} (hg : L2.Gl X (Cl.nm c)) (hdb : (Cl.nm c == ("__debug__" : Str)) = false) (hes : PA X (a :: as) (TA' X pl W fs)) (hl : (ap.endLine == p.line) = true) (hf : few (a :: as) = true) (hs : NoStar (a :: as)) :
    PE X (.Call (.Attribute (.Name (Cl.nm c) q) (At.nm f) ap) (a :: as) [] p) (TE' X pl W fun e s => match cmOf G c f with
      | some g => (fs e s).bind fun ds s => C g (.cls c :: ds) s
      | none => .bad) := by
  refine ⟨fun pins s σ H Q I h => ?_⟩
  cases ec : cmOf G c f with
  | none =>
    rw [ec] at h
    obtain ⟨_, _, _, _, _, post⟩ := h
    exact post.elim
  | some g =>
    rw [ec] at h
    have hr : wpAny (model X.prog X.w) X.A (eval (.Name (Cl.nm c) q) X.env) (fun u s1 => u = .ref (pl.ca c) ∧ s1 = s) X.xe s := ld_glob I hg (R.mok.cls c) ⟨rfl, rfl⟩ hdb
    refine PySem.W.methodCall_KW (pl := plainOf (.Name (Cl.nm c) q) X.env) (thn hr fun u s1 ⟨e1, e2⟩ => ?_) (eval_meth (o := .Name (Cl.nm c) q) rfl hl hf hs)
    subst e1
    subst e2
    unfold cmOf at ec
    by_cases hx : G.exc c = true
    · rw [if_pos hx] at ec
      cases ec
    rw [if_neg hx] at ec
    have hx0 : G.exc c = false := by cases q : G.exc c; rfl; exact absurd q hx
    have me := R.mok.mem c f hx0
    split at ec
    · rename_i g' em
      cases ec
      rw [em] at me
      obtain ⟨mc, p', rd, cm⟩ := me
      have h' := args_of (g := fun ds s => C g (.cls c :: ds) s) h
      refine ClX.getmethcm_ok I rd cm fun s2 I2 => ?_
      refine ClX.callwith_cm I2 (ClX.base_none I (Nat.le_refl _)) cm.fi (thn (hes.run p _ s2 σ H _ I2 h') fun us s3 ⟨vs, H2, I3, rv, m, st, ds, sr, rl, post⟩ => ⟨⟨ClX.pin_at I3, I3.kIn⟩, ?_⟩) (star_ne (hs a List.mem_cons_self)) (no_back fun e he => hs e (List.mem_cons_of_mem _ he))
      exact thn (wpAny_call (PySem.W.method_call (ClX.pin_at I3) (run_callC R _ s3 σ H2 m st (.cls c :: ds) (.ref (pl.ca c) :: vs) (.ref (pl.ca c) :: us) Q I3 (.cons rfl rv) sr ⟨_, vs, rfl, rfl, rl⟩ post))) fun _ _ y => ClX.unpinE y
    · cases ec
end
end Lt
/-! ### own methods in place of operators -/
namespace Lt
open PySem PySem.Spec PyProof.Rows L2
section
variable {X : Cx} {pl : Pl} {W : WX} {G : Ctx} {C C1 : Calls} {k : Nat} {hot : Bool}
/-- the type, looked at -/
theorem kind_looks {M : Model} (T : Kit X.K G pl) {pins : List (Addr × Obj)} {σ : L2.St} {s : Shared} {m : Nat → Addr} {st : Lt.St} {H : Hp} {d : D} {kd : Kd} {v : V} {u : Value} (I : Inv X pins σ H s) (rx : RelV v u) (sr : SR X.K pl.ca m st H) (h : kind st d = some kd) (r : Rp X.K pl.ca m st.length H d v) : PySem.W.Looks M s.heap (typeOf u) (kd.v pl) := by
  obtain ⟨n1, n2, n3, n4, n5, n6⟩ := T.tn
  have at_ : ∀ {a : Addr} {o : Obj} {t : Value}, s.heap.get? a = some o → o.cls = t → PySem.W.Looks M s.heap (typeOf (.ref a)) t := fun ho hc A Q E s' kk q => wpAny_typeOf_ref (kk _ _ ho) (by rw [hc]; exact q)
  cases d with
  | non =>
    obtain rfl : v = .non := r
    cases h
    cases (show u = Value.none from rx)
    show PySem.W.Looks _ _ _ (Value.type (Ty.nm .none))
    rw [n1]
    exact .of_pure rfl
  | bl b =>
    obtain rfl : v = .bl b := r
    cases h
    cases (show u = Value.bool b from rx)
    show PySem.W.Looks _ _ _ (Value.type (Ty.nm .bool))
    rw [n2]
    exact .of_pure rfl
  | int i =>
    obtain rfl : v = .int i := r
    cases h
    obtain ⟨t, rfl⟩ := (show ∃ t, u = Value.int i t from rx)
    show PySem.W.Looks _ _ _ (Value.type (Ty.nm .int))
    rw [n3]
    exact .of_pure rfl
  | str z =>
    obtain rfl : v = .str (toStr z) := r
    cases h
    obtain ⟨t, rfl⟩ := (show ∃ t, u = Value.str (toStr z) t from rx)
    show PySem.W.Looks _ _ _ (Value.type (Ty.nm .str))
    rw [n4]
    exact .of_pure rfl
  | tup ds =>
    obtain ⟨a, vs, rfl, h1, h2⟩ := r
    cases h
    cases (show u = Value.ref a from rx)
    show PySem.W.Looks _ _ _ (Value.type (Ty.nm .tuple))
    rw [n5]
    rcases h1 with h1 | ⟨o, its, n, q1, q2, _⟩
    · obtain ⟨_, _, _, o, e1, e2, _⟩ := (show ObjOk X.prog X.w H s.heap a (.tup vs) from I.hok a _ h1)
      exact at_ e1 e2
    · exact at_ (I.kIn a o q1) q2
  | obj i =>
    obtain ⟨hi, rfl⟩ := r
    cases (show u = Value.ref (m i) from rx)
    have h' : (match st[i]? with | some (.lst _) => some (Kd.ty .list) | some (.ins c _) => some (Kd.cls c) | none => none) = some kd := h
    cases e : st[i]? with
    | none =>
      rw [e] at h'
      cases h'
    | some o =>
      rw [e] at h'
      cases o with
      | lst ds =>
        cases h'
        obtain ⟨vs, h1, h2⟩ := sr.ob i _ e
        show PySem.W.Looks _ _ _ (Value.type (Ty.nm .list))
        rw [n6]
        obtain ⟨_, _, n, _, e1⟩ := (show ObjOk X.prog X.w H s.heap (m i) (.lst vs) from I.hok _ _ h1)
        exact at_ e1 rfl
      | ins c fs =>
        cases h'
        obtain ⟨_, dx, vfs, h1, h2⟩ := sr.ob i _ e
        obtain ⟨mA, O, _⟩ := ins_get I.hok h1
        obtain ⟨od, J, _⟩ := O.look
        exact J.type
  | _ => cases h
theorem insC_some {st : Lt.St} {d : D} {c : Cl} (h : insC st d = some c) : ∃ i fs, d = .obj i ∧ st[i]? = some (.ins c fs) := by
  cases d <;> first | (cases h; done) | skip
  rename_i i
  have h' : (match st[i]? with | some (.ins c _) => some c | _ => none) = some c := h
  cases e : st[i]? with
  | none => rw [e] at h'; cases h'
  | some o =>
    rw [e] at h'
    cases o with
    | lst _ => cases h'
    | ins c' fs => cases h'; exact ⟨i, fs, rfl, e⟩
theorem insC_kind {st : Lt.St} {d : D} {c : Cl} (h : insC st d = some c) : kind st d = some (.cls c) := by
  obtain ⟨i, fs, rfl, e⟩ := insC_some h
  show (match st[i]? with | some (.lst _) => some (Kd.ty .list) | some (.ins c _) => some (Kd.cls c) | none => none) = _
  rw [e]
/-- an own method is there -/
theorem own_at (R : Run X G pl C C1 W k hot) {CC : Calls} {pins : List (Addr × Obj)} {s : Shared} {σ : L2.St} {H : Hp} {m : Nat → Addr} {st : Lt.St} {d : D} {f : At} {x : V} {v : Value} {ds : List D} {Q : VK} {E : XK} (I : Inv X pins σ H s) (rx : RelV x v) (sr : SR X.K pl.ca m st H) (rp : Rp X.K pl.ca m st.length H d x) (post : PoE X pl m st H (methF G CC d f ds st) Q E) :
    ∃ g c a od dx, methOf G d f st = some g ∧ insC st d = some c ∧ G.exc c = false ∧ x = .ref a ∧ v = .ref a ∧ PySem.W.InstAt s.heap a (PySem.W.instObj (pl.ca c) dx) (pl.ca c) (some od) ∧ PySem.W.findIn X.K (.ref (pl.ca c)) (At.nm f) = some (some (.ref (pl.fa g))) ∧ PySem.W.isFn X.K (.ref (pl.fa g)) = true ∧ PoE X pl m st H (CC g (d :: ds) st) Q E := by
  unfold methF at post
  cases e : methOf G d f st with
  | none =>
    rw [e] at post
    exact False.elim post
  | some g =>
    rw [e] at post
    cases d with
    | obj i =>
      obtain ⟨hi, rfl⟩ := rp
      cases (show v = Value.ref (m i) from rx)
      have e0 := e
      unfold methOf at e0
      dsimp only at e0
      cases eo : st[i]? with
      | none =>
        rw [eo] at e0
        cases e0
      | some o =>
        rw [eo] at e0
        cases o with
        | lst _ => cases e0
        | ins c fs =>
          dsimp only at e0
          obtain ⟨ok, dx, vfs, h1, h2⟩ := sr.ob i _ eo
          by_cases hx : G.exc c = true
          · rw [if_pos hx] at e0
            cases e0
          rw [if_neg hx] at e0
          have hx0 : G.exc c = false := by cases q : G.exc c; rfl; exact absurd q hx
          have me := R.mok.mem c f hx0
          split at e0
          · rename_i g' em ef
            cases e0
            rw [em] at me
            obtain ⟨mA, O, _⟩ := ins_get I.hok h1
            obtain ⟨od, J, _⟩ := O.look
            have ic : insC st (.obj i) = some c := by
              show (match st[i]? with | some (.ins c _) => some c | _ => none) = some c
              rw [eo]
            exact ⟨g, c, m i, od, dx, rfl, ic, hx0, rfl, rfl, J, me.at_, me.fn, post⟩
          · cases e0
    | _ => cases e
theorem room1 (R : Run X G pl C C1 W k hot) (hh : hot = false) : C1 = (fun _ _ _ => .bad) ∨ Room (k - 1 + 1) X.A := by
  by_cases hk : k = 0
  · exact .inl (R.zero hk)
  · right
    rw [Nat.sub_add_cancel (Nat.pos_of_ne_zero hk)]
    exact R.room hh
theorem opB_name {o : Bop} {p : Operator} {m : At} (N : Nms) (h : opB o p = true) (e : binA o = some m) : At.nm m = PySem.dunder p.info.2 := by
  cases o <;> cases p <;> first | (cases h; done) | (cases e; done) | skip
  all_goals cases e
  · rw [N.dadd]; rfl
  · rw [N.dmul]; rfl
  · rw [N.dpow]; rfl
  · rw [N.dand]; rfl
  · rw [N.dor]; rfl
  · rw [N.drsh]; rfl
theorem op_opF (R : Run X G pl C C1 W k hot) {o : Bop} {p : Operator} (h : opB o p = true) : Op2 X pl W (binaryOp p) (opF G C o) := by
  intro pins s σ H m st d1 d2 x y v u Q I rx ry sr r1 r2 post
  unfold opF at post
  cases ic : insC st d1 with
  | none =>
    rw [ic] at post
    exact op_binF h pins s σ H m st d1 d2 x y v u Q I rx ry sr r1 r2 post
  | some c =>
    rw [ic] at post
    cases eb : binA o with
    | none =>
      rw [eb] at post
      exact False.elim post
    | some mm =>
      rw [eb] at post
      dsimp only at post
      by_cases hb : insC st d2 = some c
      · rw [if_pos hb] at post
        obtain ⟨g, c', a, od, dx, _, ic', hx, rfl, rfl, J, hs, hf, post⟩ := own_at R I rx sr r1 post
        have ec : c' = c := by rw [ic] at ic'; exact (Option.some.inj ic').symm
        subst ec
        obtain ⟨mm', hF⟩ := I.fr
        rw [opB_name R.mok.nms h eb] at hs
        refine PySem.W.binop_K hF I.ok.mod.kin J (kind_looks R.mok.kit I ry sr (insC_kind hb) r2) (R.mok.sf c' hx) hs hf ?_
        refine wpAny_mono (run_call R pins s σ H m st [d1, d2] [.ref a, y] [.ref a, u] Q I (.cons rfl (.cons ry .nil)) sr ⟨_, _, rfl, r1, _, _, rfl, r2, rfl⟩ post) (fun w s' z => ?_) fun _ _ x => x
        obtain ⟨z', H', I', rz, qz⟩ := z
        exact SlX.cmpback rz ⟨z', H', I', rz, qz⟩
      · rw [if_neg hb] at post
        exact False.elim post
theorem opC_name {o : Cop} {p : CmpOp} {m : At} (N : Nms) (h : opC o p = true) (e : cmA o = some m) : At.nm m = (cmpInfo p).2.1 ∧ ∀ a b, compareOp p a b = richCompare p a b := by
  cases o <;> cases p <;> first | (cases h; done) | (cases e; done) | skip
  all_goals cases e
  · rw [N.deq]; exact ⟨rfl, fun _ _ => rfl⟩
  · rw [N.dlt]; exact ⟨rfl, fun _ _ => rfl⟩
  · rw [N.dle]; exact ⟨rfl, fun _ _ => rfl⟩
theorem op_cmF (R : Run X G pl C C1 W k hot) {o : Cop} {p : CmpOp} (h : opC o p = true) : Op2 X pl W (compareOp p) (cmF G C o) := by
  intro pins s σ H m st d1 d2 x y v u Q I rx ry sr r1 r2 post
  have plain : PoE X pl m st H (cmpF o d1 d2 st) Q (fun c d H' => W c d σ H') → _ := fun q => op_cmpF R.un h pins s σ H m st d1 d2 x y v u Q I rx ry sr r1 r2 q
  unfold cmF at post
  cases ic : insC st d1 with
  | none =>
    rw [ic] at post
    exact plain post
  | some c =>
    cases eb : cmA o with
    | none =>
      rw [ic, eb] at post
      exact plain post
    | some mm =>
      rw [ic, eb] at post
      dsimp only at post
      by_cases hk : (kind st d2).isSome = true
      · rw [if_pos hk] at post
        obtain ⟨kd, hkd⟩ := Option.isSome_iff_exists.mp hk
        obtain ⟨g, c', a, od, dx, _, ic', hx, rfl, rfl, J, hs, hf, post⟩ := own_at R I rx sr r1 post
        obtain ⟨mm', hF⟩ := I.fr
        obtain ⟨e1, e2⟩ := opC_name R.mok.nms h eb
        rw [e1] at hs
        rw [e2]
        refine PySem.W.cmp_K (op := p) (tb := kd.v pl) (Nat.lt_of_le_of_lt (Nat.le_add_right _ 64) R.un) hF I.ok.mod.kin J (kind_looks R.mok.kit I ry sr hkd r2) (R.mok.nf c' kd hx) hs hf ?_
        refine wpAny_mono (run_call R pins s σ H m st [d1, d2] [.ref a, y] [.ref a, u] Q I (.cons rfl (.cons ry .nil)) sr ⟨_, _, rfl, r1, _, _, rfl, r2, rfl⟩ post) (fun w s' z => ?_) fun _ _ x => x
        obtain ⟨z', H', I', rz, qz⟩ := z
        exact SlX.cmpback rz ⟨z', H', I', rz, qz⟩
      · rw [if_neg hk] at post
        exact False.elim post
theorem op_inv (R : Run X G pl C C1 W k hot) : Op1 X pl W (unaryOp .Invert) fun x s => methF G C x .dinvert [] s := by
  intro pins s σ H m st d x v Q I rx sr rp post
  obtain ⟨g, c, a, od, dx, _, ic, hx, rfl, rfl, J, hs, hf, post⟩ := own_at R I rx sr rp post
  obtain ⟨mm', hF⟩ := I.fr
  rw [R.mok.nms.dinv] at hs
  refine PySem.W.ksp_inv hF I.ok.mod.kin J hs hf ?_
  exact run_call R pins s σ H m st [d] [.ref a] [.ref a] Q I (.cons rfl .nil) sr ⟨_, _, rfl, rp, rfl⟩ post
/-- abs(e) of an instance -/
theorem call_abs_own (R : Run X G pl C C1 W k hot) : CallS X pl W (.builtin "abs") fun ds s => match ds with
    | [x] => methF G C1 x .dabs [] s
    | _ => .bad := by
  intro pins s σ H m st ds vs us Q I rv sr rl post
  match ds, post with
  | [d], post =>
    obtain ⟨x, rfl, rp⟩ := rpl1 rl
    have hl : ∃ v, us = [v] ∧ RelV x v := by
      cases rv with
      | cons r rs =>
        cases rs
        exact ⟨_, rfl, r⟩
    obtain ⟨v, rfl, rx⟩ := hl
    obtain ⟨g, c, a, od, dx, _, ic, hx, rfl, rfl, J, hs, hf, post⟩ := own_at R I rx sr rp post
    by_cases hh : hot = true
    · rw [(R.bad hh).2] at post
      exact False.elim post
    have hot0 : hot = false := by cases hot; rfl; exact absurd rfl hh
    rcases room1 R hot0 with e | hr
    · rw [e] at post
      exact False.elim post
    rw [R.mok.nms.dabs] at hs
    refine PySem.Calls.call_function_entry kind_abs plain_abs entry_abs (args_abs _) ?_
    unfold Builtin.«abs»
    refine wpAny_bind (m := oneArg "abs" _) (wpAny_pure ?_)
    refine wpAny_bind (m := callSpecial? (.ref a) (Str.ofString "__abs__")) (PySem.W.special_fn I.kIn J hs (beq_iff_eq.mp hf) ?_)
    cases hg : G.fn g with
    | none =>
      rw [R.ok1.no g _ _ hg] at post
      exact False.elim post
    | some dd =>
      refine wpAny_call (codeAny_mono ((R.ok1.fn g dd hg).1 X.A.in1 X.stack s H [.ref a] [.ref a] Q (fun c d H' => W c d σ H') hr.in1 I.env0.in1 (.cons rfl .nil) ⟨m, st, [d], sr, ⟨_, _, rfl, rp, rfl⟩, post⟩) fun res s' hq => ?_)
      cases res with
      | error er => exact xe_of R.tk I hq
      | ok fl =>
        cases fl with
        | ret u =>
          obtain ⟨w, H', I3, rw3, q3⟩ := I.after hq
          exact wpAny_pure ⟨_, rfl, w, H', I3, rw3, q3⟩
        | next => exact False.elim hq
        | brk => exact False.elim hq
        | cont => exact False.elim hq
/-- str(e) of an instance -/
theorem call_str_own (R : Run X G pl C C1 W k hot) : CallS X pl W (.type "str") fun ds s => match ds with
    | [x] => (methF G C1 x .dstr [] s).bind onlyStr
    | _ => .bad := by
  intro pins s σ H m st ds vs us Q I rv sr rl post
  match ds, post with
  | [d], post =>
    obtain ⟨x, rfl, rp⟩ := rpl1 rl
    have hl : ∃ v, us = [v] ∧ RelV x v := by
      cases rv with
      | cons r rs =>
        cases rs
        exact ⟨_, rfl, r⟩
    obtain ⟨v, rfl, rx⟩ := hl
    have hb : methF G C1 d .dstr [] st ≠ .bad := fun e => by
      dsimp only at post
      rw [e] at post
      exact post.elim
    have post1 : PoE X pl m st H (methF G C1 d .dstr [] st) (fun y H1 => (∃ z : Str, y = .str z) ∧ Q y H1) (fun c d H' => W c d σ H') := by
      dsimp only at post
      cases e : methF G C1 d .dstr [] st with
      | bad => exact absurd e hb
      | err c s' =>
        rw [e] at post
        exact post
      | ok y s' =>
        rw [e] at post
        cases y <;> first | exact post.elim | skip
        intro m' H' w x1 sr1 rp1
        obtain rfl : w = .str (toStr _) := rp1
        exact ⟨⟨_, rfl⟩, post m' H' _ x1 sr1 rfl⟩
    obtain ⟨g, c, a, od, dx, _, ic, hx, rfl, rfl, J, hs, hf, post2⟩ := own_at R I rx sr rp post1
    by_cases hh : hot = true
    · rw [(R.bad hh).2] at post2
      exact False.elim post2
    have hot0 : hot = false := by cases hot; rfl; exact absurd rfl hh
    rcases room1 R hot0 with e | hr
    · rw [e] at post2
      exact False.elim post2
    rw [R.mok.nms.dstr] at hs
    have un := R.un
    refine PySem.W.kso_call (by show X.A.units + 1 + 1 < _; omega) I.kIn J hs hf ?_
    cases hg : G.fn g with
    | none =>
      rw [R.ok1.no g _ _ hg] at post2
      exact False.elim post2
    | some dd =>
      have hr2 : Room (k - 1) X.A.in1.in1 := ⟨hr.hd, by have := hr.dp; show X.A.depth + 3 * (k - 1) + 5 < _; omega, by have := hr.un; show X.A.units + 1 + 1 + 16 * (k - 1) + 200 < _; omega⟩
      refine wpAny_call (codeAny_mono ((R.ok1.fn g dd hg).1 X.A.in1.in1 X.stack s H [.ref a] [.ref a] _ (fun c d H' => W c d σ H') hr2 I.env0.in1.in1 (.cons rfl .nil) ⟨m, st, [d], sr, ⟨_, _, rfl, rp, rfl⟩, post2⟩) fun res s' hq => ?_)
      cases res with
      | error er => exact xe_of R.tk I hq
      | ok fl =>
        cases fl with
        | ret u =>
          obtain ⟨w, H', I3, rw3, ⟨z, hz⟩, q3⟩ := I.after hq
          subst hz
          obtain ⟨tk, rfl⟩ := rw3
          exact ⟨.str z, H', I3, ⟨tk, rfl⟩, q3⟩
        | next => exact False.elim hq
        | brk => exact False.elim hq
        | cont => exact False.elim hq
theorem call_biG (R : Run X G pl C C1 W k hot) (b : Bi) : CallS X pl W b.val (biG G C1 b) := by
  intro pins s σ H m st ds vs us Q I rv sr rl post
  have plain : PoE X pl m st H (biF G b ds st) Q (fun c d H' => W c d σ H') → _ := fun q => call_biF R.mok.kit b pins s σ H m st ds vs us Q I rv sr rl q
  cases b with
  | abs =>
    match ds, post with
    | [], post => exact plain post
    | [x], post =>
      unfold biG at post
      cases ic : insC st x with
      | none =>
        simp only [ic] at post
        exact plain post
      | some c =>
        simp only [ic] at post
        exact call_abs_own R pins s σ H m st [x] vs us Q I rv sr rl post
    | _ :: _ :: _, post => exact plain post
  | str =>
    match ds, post with
    | [], post => exact plain post
    | [x], post =>
      unfold biG at post
      cases ic : insC st x with
      | none =>
        simp only [ic] at post
        exact plain post
      | some c =>
        simp only [ic] at post
        exact call_str_own R pins s σ H m st [x] vs us Q I rv sr rl post
    | _ :: _ :: _, post => exact plain post
  | _ => exact plain post
/-! ### methods of built-in types -/
theorem bm_ty {b : Bm} {T : String} {m : Nat → Addr} {st : Lt.St} {H : Hp} {x : V} {d : D} (hT : T = if b.onList = true then "list" else "str") (sr : SR X.K pl.ca m st H) (rp : Rp X.K pl.ca m st.length H d x) (h : bmOk b d st = true) : tyV X.K T x H := by
  unfold bmOk at h
  split at h
  · rename_i j e
    rw [e] at hT
    obtain ⟨hj, rfl⟩ := rp
    split at h
    · rename_i xs eo
      obtain ⟨vs, h1, h2⟩ := sr.ob j _ eo
      exact .inl ⟨hT, vs, .inl (.inl h1)⟩
    · cases h
  · rename_i z e
    rw [e] at hT
    obtain rfl : x = .str (toStr z) := rp
    exact hT
  · cases h
/-- a method of a built-in type, as the layer has it -/
structure BmS (X : Cx) (pl : Pl) (W : WX) (b : Bm) (T id : String) : Prop where
  pa : PlainAttrs T
  slot : Slot T b.nm id
  ty : typeOf (.builtin id) = pure (.type "method_descriptor")
  ms : MethS X pl W id (bmF b)
  on : T = if b.onList = true then "list" else "str"
theorem bm_is (b : Bm) : ∃ T id, BmS X pl W b T id := by
  cases b with
  | append => exact ⟨"list", "list.append", PySem.F.plainAttrs_list, PySem.F.slot_list_append, PySem.F.type_list_append, m_append, rfl⟩
  | pop => exact ⟨"list", "list.pop", PySem.F.plainAttrs_list, PySem.F.slot_list_pop, PySem.F.type_list_pop, m_pop, rfl⟩
  | reverse => exact ⟨"list", "list.reverse", PySem.F.plainAttrs_list, PySem.F.slot_list_reverse, PySem.F.type_list_reverse, m_reverse, rfl⟩
  | removeprefix => exact ⟨"str", "str.removeprefix", PySem.F.plainAttrs_str, PySem.F.slot_str_removeprefix, PySem.F.type_str_removeprefix, m_removeprefix, rfl⟩
  | startswith => exact ⟨"str", "str.startswith", PySem.F.plainAttrs_str, PySem.F.slot_str_startswith, PySem.F.type_str_startswith, m_startswith, rfl⟩
  | find => exact ⟨"str", "str.find", PySem.F.plainAttrs_str, PySem.F.slot_str_find, PySem.F.type_str_find, m_find, rfl⟩
theorem snd_bm0 {b : Bm} {fa : Lt.Env → Lt.St → Lt.R D} {l : Expr} {ap p : Pos} {T id : String} (B : BmS X pl W b T id) (ha : PE X l (TE' X pl W fa)) (hb : baseOk l = true) (hl : (ap.endLine == p.line) = true) :
    PE X (.Call (.Attribute l b.nm ap) [] [] p) (TE' X pl W fun e s => (fa e s).bind fun x s => if bmOk b x s = true then bmF b x [] s else .bad) := by
  refine ⟨fun pins s σ H Q I h => ?_⟩
  obtain ⟨m, st, e, sr, er, post⟩ := keep_env (g := fun x e s => if bmOk b x s = true then bmF b x [] s else .bad) h
  refine wpAny_Call_method0_late (attr_base hb) hl (thn (ha.run pins s σ H _ I ⟨m, st, e, sr, er, post⟩) fun v s1 ⟨x, H1, I1, r1, m1, d, s1', e1, sr1, er1, rp, p1⟩ => ?_)
  by_cases hok : bmOk b d s1' = true
  · rw [if_pos hok] at p1
    obtain ⟨h1, h2⟩ := tyV_is I1 r1 (bm_ty B.on sr1 rp hok)
    exact ⟨T, id, B.pa, B.slot, B.ty, h1, h2, Calls.callWith_builtin rfl (PySem.evalArgs_none (B.ms pins s1 σ H1 m1 s1' d [] x [] v [] Q I1 r1 .nil sr1 rp rfl p1))⟩
  · rw [if_neg hok] at p1
    exact False.elim p1
theorem snd_bm {b : Bm} {fa : Lt.Env → Lt.St → Lt.R D} {fs : Lt.Env → Lt.St → Lt.R (List D)} {l a : Expr} {ap p : Pos} {as : List Expr} {T id : String} (B : BmS X pl W b T id) (ha : PE X l (TE' X pl W fa)) (hes : PA X (a :: as) (TA' X pl W fs)) (hb : baseOk l = true) (hl : (ap.endLine == p.line) = true) (hf : few (a :: as) = true) (hs : NoStar (a :: as)) :
    PE X (.Call (.Attribute l b.nm ap) (a :: as) [] p) (TE' X pl W fun e s => (fa e s).bind fun x s => if bmOk b x s = true then (fs e s).bind fun ds s => bmF b x ds s else .bad) := by
  refine ⟨fun pins s σ H Q I h => ?_⟩
  obtain ⟨m, st, e, sr, er, post⟩ := keep_env (g := fun x e s => if bmOk b x s = true then (fs e s).bind fun ds s => bmF b x ds s else .bad) h
  have hfew : ((backTo p (starEach (a :: as) X.env)).all (fun x => !x.1) && (backToKw p (keywordEach [] X.env)).all (fun x => x.1.isSome)
    && decide ((a :: as).length + ([] : List Keyword).length + (if ([] : List Keyword).isEmpty then 0 else 1) < 30)) = true := by
    have h1 : (backTo p (starEach (a :: as) X.env)).all (fun x => !x.1) = true := by
      have := no_back (env := X.env) (pos := p) hs
      rw [List.any_eq_false] at this
      rw [List.all_eq_true]
      intro x hx
      simpa using this x hx
    rw [h1]
    have h2 : (a :: as).length < 30 := of_decide_eq_true hf
    have h3 : (backToKw p (keywordEach [] X.env)).all (fun x => x.1.isSome) = true := rfl
    rw [h3]
    simpa using h2
  refine wpAny_Call_method_late (attr_base hb) hfew hl rfl (thn (ha.run pins s σ H _ I ⟨m, st, e, sr, er, post⟩) fun v s1 ⟨x, H1, I1, r1, m1, d, s1', e1, sr1, er1, rp, p1⟩ => ?_)
  by_cases hok : bmOk b d s1' = true
  · rw [if_pos hok] at p1
    obtain ⟨h1, h2⟩ := tyV_is I1 r1 (bm_ty B.on sr1 rp hok)
    refine ⟨T, id, B.pa, B.slot, B.ty, h1, h2, ?_⟩
    have hA := hes.run p pins s1 σ H1 _ I1 ⟨m1, s1', e1, sr1, er1, (PostE.bind (rel' := RpL X.K pl.ca) p1)⟩
    have st := star_ne (env := X.env) (es := as) (hs a List.mem_cons_self)
    rw [st] at hA ⊢
    refine Calls.callWith_builtin (by show (false || (backTo p (starEach as X.env)).any (·.1)) = false; rw [no_back fun e he => hs e (List.mem_cons_of_mem _ he)] <;> rfl) (Calls.evalArgs_plain ?_)
    exact thn hA fun us s2 ⟨vs, H2, I2, r2, m2, ds, s2', x2, sr2, rl, p2⟩ => B.ms pins s2 σ H2 m2 s2' d ds x vs v us Q I2 r1 r2 sr2 (x2.rp sr1 rp) rl p2
  · rw [if_neg hok] at p1
    exact False.elim p1
end
end Lt
/-! ### walks, list comprehensions -/
namespace Lt
open PySem PySem.Spec PyProof.Rows L2
theorem ba {a b : Bool} (h : (a && b) = true) : a = true ∧ b = true := Bool.and_eq_true_iff.mp h
section
variable {X : Cx} {pl : Pl} {W : WX} {m m1 : Nat → Addr} {s s1 : Lt.St} {H H1 : Hp}
def setV : List Nat → List V → L2.St → L2.St
  | i :: is, v :: vs, σ => setV is vs (σ.set i (some v))
  | _, _, σ => σ
theorem er_all {K : PySem.W.Frag} {ca : Cl → Addr} {n : Nat} : ∀ (is : List Nat) (ds : List D) (vs : List V) (e : Lt.Env) (σ : L2.St), RpL K ca m n H ds vs → ER K ca m n H e σ → ER K ca m n H (setAll is ds e) (setV is vs σ)
  | [], _, _, _, _, _, h => h
  | _ :: _, [], vs, e, σ, rl, h => by
    have rl' : vs = [] := rl
    subst rl'
    exact h
  | i :: is, d :: ds, vs, e, σ, ⟨v, r, ev, h1, h2⟩, h => by
    subst ev
    exact er_all is ds r _ _ h2 (ER.set h1 i h)
def gNames : List Nat → TGs
  | [] => gNil
  | i :: is => gCons (gName i) (gNames is)
theorem gNames_ok : ∀ (is : List Nat) (vs : List V) (σ : L2.St) (H : Hp) (Q : L2.St → Hp → Prop), vs.length = is.length → Q (setV is vs σ) H → gNames is vs σ H Q
  | [], [], σ, H, Q, _, q => ⟨rfl, q⟩
  | i :: is, v :: vs, σ, H, Q, hl, q => ⟨v, vs, rfl, gNames_ok is vs _ H Q (by simpa using hl) q⟩
  | [], _ :: _, _, _, _, hl, _ => by simp at hl
  | _ :: _, [], _, _, _, hl, _ => by simp at hl
end
section
variable {X : Cx} {pl : Pl} {W : WX} {G : Ctx} {C C1 : Calls} {k : Nat} {hot : Bool} {fa fb : Lt.Env → Lt.St → Lt.R D} {l r : Expr} {pos : Pos}
inductive Tw {α β : Type} (p : α → β → Prop) : List α → List β → Prop where
  | nil : Tw p [] []
  | cons {a : α} {b : β} {as : List α} {bs : List β} : p a b → Tw p as bs → Tw p (a :: as) (b :: bs)
theorem Tw.len {α β : Type} {p : α → β → Prop} {as : List α} {bs : List β} (h : Tw p as bs) : as.length = bs.length := by
  induction h with
  | nil => rfl
  | cons _ _ ih => simp [ih]
def isName (t : Expr) : Bool := match t with
  | .Name _ _ => true
  | _ => false
theorem each_names {env : PySem.Env} : ∀ {ts : List Expr}, (∀ t ∈ ts, isName t = true) → assignEach ts env = ts.map fun t => (false, assign t env)
  | [], _ => rfl
  | t :: ts, h => by
    have h1 := h t List.mem_cons_self
    cases t <;> first | (cases h1; done) | skip
    show (false, assign _ env) :: assignEach ts env = _
    rw [each_names fun t ht => h t (List.mem_cons_of_mem _ ht)]
    rfl
def NmOk (X : Cx) (i : Nat) (t : Expr) : Prop := ∃ x p, t = .Name x p ∧ X.N[i]? = some x ∧ Loc X.env.scope x ∧ (X.fn x = true ∨ X.env.scope.names.lookup x = some .local)
theorem pgs_names (hN : X.N.Nodup) : ∀ {is : List Nat} {ts : List Expr}, (∀ t ∈ ts, isName t = true) → Tw (NmOk X) is ts → PGs X ts (gNames is)
  | [], _, _, .nil => pgs_nil
  | i :: is, t :: ts, hn, .cons h1 h2 => by
    obtain ⟨x, p, rfl, q1, q2, q3⟩ := h1
    refine pgs_cons (pg_name hN q1 q2 q3) (pgs_names hN (fun t ht => hn t (List.mem_cons_of_mem _ ht)) h2) ?_
    rw [each_names hn, each_names fun t ht => hn t (List.mem_cons_of_mem _ ht)]
    rfl
theorem D.beq_eq : (∀ a b : D, D.beq a b = true → a = b) ∧ (∀ a b : List D, D.beqs a b = true → a = b) := by
  have h : ∀ a : D, ∀ b, D.beq a b = true → a = b := fun a => D.rec (motive_1 := fun a => ∀ b, D.beq a b = true → a = b) (motive_2 := fun as => ∀ bs, D.beqs as bs = true → as = bs)
    (fun b h => by cases b <;> first | rfl | cases h)
    (fun x b h => by cases b <;> first | (cases h; done) | (rw [show x = _ from beq_iff_eq.mp h]))
    (fun x b h => by cases b <;> first | (cases h; done) | (rw [show x = _ from beq_iff_eq.mp h]))
    (fun x b h => by cases b <;> first | (cases h; done) | (rw [show x = _ from beq_iff_eq.mp h]))
    (fun xs ih b h => by cases b <;> first | (cases h; done) | (rw [ih _ h]))
    (fun xs ih b h => by cases b <;> cases h)
    (fun x b h => by cases b <;> first | (cases h; done) | (rw [show x = _ from beq_iff_eq.mp h]))
    (fun x b h => by cases b <;> first | (cases h; done) | (rw [show x = _ from beq_iff_eq.mp h]))
    (fun x b h => by cases b <;> first | (cases h; done) | (rw [show x = _ from beq_iff_eq.mp h]))
    (fun bs h => by cases bs <;> first | rfl | cases h)
    (fun x xs i1 i2 bs h => by
      cases bs with
      | nil => cases h
      | cons b bs =>
        obtain ⟨h1, h2⟩ := ba h
        rw [i1 b h1, i2 bs h2]) a
  refine ⟨h, fun a => ?_⟩
  induction a with
  | nil => exact fun b h => by cases b <;> first | rfl | cases h
  | cons x xs ih =>
    intro b hb
    cases b with
    | nil => cases hb
    | cons b bs =>
      obtain ⟨h1, h2⟩ := ba hb
      rw [h x b h1, ih bs h2]
structure Wk (X : Cx) (pl : Pl) (J : L2.It) (it : (Nat → Addr) → Lt.St → Hp → Prop) (ok : Lt.St → Bool) (ds : List D) : Prop where
  keep : ∀ m s H m' s' H', Ext m s H m' s' H' → SR X.K pl.ca m s H → it m s H → it m' s' H'
  stop : ∀ m s H, SR X.K pl.ca m s H → it m s H → ok s = true → J.stop ds.length H
  go : ∀ m s H i, SR X.K pl.ca m s H → it m s H → ok s = true → i < ds.length → J.go i H ∧ ∀ x H', J.yld i H x H' → H' = H ∧ ∃ d, ds[i]? = some d ∧ Rp X.K pl.ca m s.length H d x
theorem wk_tup {a : Addr} {ds : List D} {ok : Lt.St → Bool} : Wk X pl (Itt X.K a) (fun m s H => ∃ vs, TpL X.K H a vs ∧ RpL X.K pl.ca m s.length H ds vs) ok ds where
  keep := fun m s H m' s' H' x sr ⟨vs, h1, h2⟩ => ⟨vs, x.tup sr h1, x.rpl sr h2⟩
  stop := fun m s H sr ⟨vs, h1, h2⟩ _ => ⟨vs, h1.sq, by rw [rpl_len h2]; exact Nat.le_refl _⟩
  go := fun m s H i sr ⟨vs, h1, h2⟩ _ hi => by
    obtain ⟨v, hv, rv⟩ := rpl_get h2 (List.getElem?_eq_getElem hi)
    refine ⟨⟨vs, v, h1.sq, hv⟩, fun x H' ⟨e, y⟩ => ⟨e, _, List.getElem?_eq_getElem hi, ?_⟩⟩
    have q := y vs h1.sq
    rw [hv] at q
    cases q
    exact rv
theorem wk_fz {a : Addr} {ds : List D} {ok : Lt.St → Bool} : Wk X pl (Itl X.K a) (fun m s H => ∃ vs, FzL X.K H a vs ∧ RpL X.K pl.ca m s.length H ds vs) ok ds where
  keep := fun m s H m' s' H' x sr ⟨vs, h1, h2⟩ => ⟨vs, x.fz sr h1, x.rpl sr h2⟩
  stop := fun m s H sr ⟨vs, h1, h2⟩ _ => ⟨vs, h1.sq, by rw [rpl_len h2]; exact Nat.le_refl _⟩
  go := fun m s H i sr ⟨vs, h1, h2⟩ _ hi => by
    obtain ⟨v, hv, rv⟩ := rpl_get h2 (List.getElem?_eq_getElem hi)
    refine ⟨⟨vs, v, h1.sq, hv⟩, fun x H' ⟨e, y⟩ => ⟨e, _, List.getElem?_eq_getElem hi, ?_⟩⟩
    have q := y vs h1.sq
    rw [hv] at q
    cases q
    exact rv
theorem still_at {m : Nat → Addr} {s : Lt.St} {H : Hp} {j : Nat} {ds : List D} (sr : SR X.K pl.ca m s H) (h : still ds (some j) s = true) : ∃ vs, SqL X.K H (m j) vs ∧ RpL X.K pl.ca m s.length H ds vs := by
  unfold still at h
  cases hs : s[j]? with
  | none => simp [hs] at h
  | some o =>
    cases o with
    | ins c fs => simp [hs] at h
    | lst ys =>
      simp only [hs] at h
      have e := D.beq_eq.2 _ _ h
      subst e
      obtain ⟨vs, h1, h2⟩ := sr.ob j _ hs
      exact ⟨vs, .inl (.inl h1), h2⟩
theorem wk_obj {a : Addr} {j : Nat} {ds : List D} : Wk X pl (Itl X.K a) (fun m s H => j < s.length ∧ m j = a) (still ds (some j)) ds where
  keep := fun m s H m' s' H' x sr ⟨h1, h2⟩ => ⟨Nat.lt_of_lt_of_le h1 x.len, (x.agr j h1).trans h2⟩
  stop := fun m s H sr ⟨h1, h2⟩ ok => by
    obtain ⟨vs, q1, q2⟩ := still_at sr ok
    rw [h2] at q1
    exact ⟨vs, q1, by rw [rpl_len q2]; exact Nat.le_refl _⟩
  go := fun m s H i sr ⟨h1, h2⟩ ok hi => by
    obtain ⟨vs, q1, q2⟩ := still_at sr ok
    rw [h2] at q1
    obtain ⟨v, hv, rv⟩ := rpl_get q2 (List.getElem?_eq_getElem hi)
    refine ⟨⟨vs, v, q1, hv⟩, fun x H' ⟨e, y⟩ => ⟨e, _, List.getElem?_eq_getElem hi, ?_⟩⟩
    have q := y vs q1
    rw [hv] at q
    cases q
    exact rv
theorem wk_str {z : List Nat} {ok : Lt.St → Bool} : Wk X pl (Its (toStr z)) (fun _ _ _ => True) ok (z.map fun c => .str [c]) where
  keep := fun _ _ _ _ _ _ _ _ _ => True.intro
  stop := fun m s H sr _ _ => by
    show (toStr z).cps.size ≤ _
    unfold toStr
    simp
  go := fun m s H i sr _ _ hi => by
    have hi' : i < z.length := by simpa using hi
    refine ⟨by show i < (toStr z).cps.size; unfold toStr; simpa using hi', fun x H' ⟨e, c, hc, hx⟩ => ⟨e, .str [c], ?_, ?_⟩⟩
    · have e2 : z[i]? = some c := by
        have : (toStr z).cps[i]? = z[i]? := by unfold toStr; simp
        rw [← this]; exact hc
      rw [List.getElem?_map, e2]
      rfl
    · exact hx
theorem wk_rng {a b : Int} {ok : Lt.St → Bool} : Wk X pl (Itr a (b - a).toNat) (fun _ _ _ => True) ok (rngF a b) where
  keep := fun _ _ _ _ _ _ _ _ _ => True.intro
  stop := fun m s H sr _ _ => by
    show (b - a).toNat ≤ _
    unfold rngF
    simp
  go := fun m s H i sr _ _ hi => by
    have hi' : i < (b - a).toNat := by unfold rngF at hi; simpa using hi
    refine ⟨hi', fun x H' ⟨e, hx⟩ => ⟨e, .int (a + i), ?_, hx⟩⟩
    unfold rngF
    rw [List.getElem?_map, List.getElem?_range hi']
    rfl
/-- the walk over a value -/
def iVal (K : PySem.W.Frag) (te : TE) : TI := fun σ H R => te σ H fun x H1 => (∃ a, x = .ref a ∧ (∃ xs, SqL K H1 a xs) ∧ R (Itl K a) H1) ∨ (∃ a, x = .ref a ∧ (∃ xs, SqT K H1 a xs) ∧ R (Itt K a) H1) ∨ ∃ z, x = .str z ∧ R (Its z) H1
theorem pi_val {tg : Expr} {te : TE} (hl : PE X l te) : PI X tg l (iVal X.K te) := by
  refine ⟨fun pins s σ H R I h => ?_⟩
  refine thn (hl.run pins s σ H _ I h) fun v s1 ⟨x, H1, I1, r1, q1⟩ => ?_
  rcases q1 with ⟨a, e, ⟨xs, hq⟩, q⟩ | ⟨a, e, ⟨xs, hq⟩, q⟩ | ⟨z, e, q⟩
  · subst e
    cases r1
    obtain ⟨its, rv, p, hz⟩ := I1.list hq
    refine wpAny_pyIter_list p.isList ?_
    refine ⟨s1.heap.objs.size, [s1.heap.objs.size], _, _, H1, rfl, I1.kept (t' := s1.toks) fun b o e => Heap.get?_push_of_some _ e, turn_list a _, ⟨_, Heap.get?_push_size _ rfl, rfl, rfl⟩, fun b hb => ?_, q⟩
    have e : b = s1.heap.objs.size := by simpa using hb
    subst e
    exact I1.fpOk (Nat.le_refl _) (I1.hok.fresh (Nat.le_refl _))
  · subst e
    cases r1
    obtain ⟨its, rv, p, hz⟩ := I1.tuple hq
    refine wpAny_pyIter_tuple (show s1.heap.IsTuple a its.toArray from p) ?_
    refine ⟨s1.heap.objs.size, [s1.heap.objs.size], _, _, H1, rfl, I1.kept (t' := s1.toks) fun b o e => Heap.get?_push_of_some _ e, turn_tuple a _, ⟨_, Heap.get?_push_size _ rfl, rfl, rfl⟩, fun b hb => ?_, q⟩
    have e : b = s1.heap.objs.size := by simpa using hb
    subst e
    exact I1.fpOk (Nat.le_refl _) (I1.hok.fresh (Nat.le_refl _))
  · subst e
    obtain ⟨t, rfl⟩ := r1
    cases ha : z.cps.all (· < 128)
    · exact wpAny_pyIter_wide ha (pi_one (tk := s1.toks) I1 _ (turn_str _ z t "str_iterator" (.inr rfl)) ⟨_, Heap.get?_push_size _ rfl, rfl, rfl⟩ q)
    · exact wpAny_pyIter_ascii ha (pi_one (tk := s1.toks) I1 _ (turn_str _ z t "str_ascii_iterator" (.inl rfl)) ⟨_, Heap.get?_push_size _ rfl, rfl, rfl⟩ q)
/-- what is walked -/
def TIt (X : Cx) (pl : Pl) (W : WX) (f : Lt.Env → Lt.St → Lt.R (List D × Option Nat)) : TI := fun σ H R => ∃ m s e, SR X.K pl.ca m s H ∧ ERx X.K pl.ca pl.xc m s.length H e σ ∧ (match f e s with
  | .ok p s' => ∀ m' H' J it, Ext m s H m' s' H' → SR X.K pl.ca m' s' H' → Wk X pl J it (still p.1 p.2) p.1 → it m' s' H' → R J H'
  | .err x s' => ∀ m' H' dd, Ext m s H m' s' H' → SR X.K pl.ca m' s' H' → XR X.K pl.ca m' s'.length H' x dd → W (.ref (pl.ca x.cls)) dd σ H'
  | .bad => False)
theorem pi_imp {tg it : Expr} {t t' : TI} (h : PI X tg it t) (q : ∀ σ H R, t' σ H R → t σ H R) : PI X tg it t' := ⟨fun pins s σ H R I z => h.run pins s σ H R I (q σ H R z)⟩
/-- the reading of a value that is walked -/
theorem tit_val {f : D → Lt.St → Lt.R (List D × Option Nat)} {σ : L2.St} {H : Hp} {R : L2.It → Hp → Prop} (h : TIt X pl W (fun e s => (fa e s).bind f) σ H R) : TE' X pl W fa σ H fun x H1 => ∃ m d s e, SR X.K pl.ca m s H1 ∧ Rp X.K pl.ca m s.length H1 d x ∧ ERx X.K pl.ca pl.xc m s.length H1 e σ ∧ (match f d s with
  | .ok p s' => ∀ m' H' J it, Ext m s H1 m' s' H' → SR X.K pl.ca m' s' H' → Wk X pl J it (still p.1 p.2) p.1 → it m' s' H' → R J H'
  | .err x s' => ∀ m' H' dd, Ext m s H1 m' s' H' → SR X.K pl.ca m' s' H' → XR X.K pl.ca m' s'.length H' x dd → W (.ref (pl.ca x.cls)) dd σ H'
  | .bad => False) := by
  obtain ⟨m, s, e, sr, er, post⟩ := h
  refine ⟨m, s, e, sr, er, ?_⟩
  dsimp only at post
  cases q : fa e s with
  | bad => rw [q] at post; exact False.elim post
  | err x s' => rw [q] at post; exact post
  | ok d s1 =>
    rw [q] at post
    intro m1 H1 v x1 sr1 rp
    refine ⟨m1, d, s1, e, sr1, rp, x1.er sr er, ?_⟩
    have post' : (match f d s1 with
      | .ok p s' => ∀ m' H' J it, Ext m s H m' s' H' → SR X.K pl.ca m' s' H' → Wk X pl J it (still p.1 p.2) p.1 → it m' s' H' → R J H'
      | .err x s' => ∀ m' H' dd, Ext m s H m' s' H' → SR X.K pl.ca m' s' H' → XR X.K pl.ca m' s'.length H' x dd → W (.ref (pl.ca x.cls)) dd σ H'
      | .bad => False) := post
    cases q2 : f d s1 with
    | bad => rw [q2] at post'; exact post'
    | err x s2 => rw [q2] at post'; exact fun m' H' dd y sr' xr => post' m' H' dd (x1.trans y sr1) sr' xr
    | ok p s2 => rw [q2] at post'; exact fun m' H' J it y sr' w i => post' m' H' J it (x1.trans y sr1) sr' w i
theorem pi_itval {tg : Expr} (ha : PE X l (TE' X pl W fa)) : PI X tg l (TIt X pl W fun e s => (fa e s).bind fun d s => match itemsF d s with
    | some p => .ok p s
    | none => .bad) := pi_imp (pi_val ha) fun σ H R h => by
  obtain ⟨m, s, e, sr, er, post⟩ := tit_val (f := fun d s => match itemsF d s with
    | some p => .ok p s
    | none => .bad) h
  refine ⟨m, s, e, sr, er, post.mono (fun v H1 ⟨m1, d, s1, e1, sr1, rp, er1, p⟩ => ?_) fun _ _ _ h => h⟩
  cases d with
  | tup ds =>
    obtain ⟨a, vs, rfl, h1, h2⟩ := rp
    exact .inr (.inl ⟨a, rfl, ⟨vs, h1.sq⟩, p m1 H1 _ _ Ext.refl sr1 wk_tup ⟨vs, h1, h2⟩⟩)
  | fz ds =>
    obtain ⟨a, vs, rfl, h1, h2⟩ := rp
    exact .inl ⟨a, rfl, ⟨vs, h1.sq⟩, p m1 H1 _ _ Ext.refl sr1 wk_fz ⟨vs, h1, h2⟩⟩
  | str z =>
    obtain rfl : v = .str (toStr z) := rp
    exact .inr (.inr ⟨_, rfl, p m1 H1 _ _ Ext.refl sr1 wk_str True.intro⟩)
  | obj j =>
    obtain ⟨hj, rfl⟩ := rp
    unfold itemsF at p
    dsimp only at p
    have hs : s1[j]? = some s1[j] := List.getElem?_eq_getElem hj
    rw [hs] at p
    have ro := sr1.ob j _ hs
    cases ho : s1[j] with
    | ins c fs =>
      rw [ho] at p
      exact False.elim p
    | lst xs =>
      rw [ho] at p ro
      obtain ⟨vs, h1, h2⟩ := ro
      exact .inl ⟨m1 j, rfl, ⟨vs, .inl (.inl h1)⟩, p m1 H1 _ _ Ext.refl sr1 wk_obj ⟨hj, rfl⟩⟩
  | _ => exact False.elim p
theorem pi_itrng {tg : Expr} {q p2 : Pos} (hgl : L2.Gl X "range") (hm : X.mg "range" = none) (ha : PE X l (TE' X pl W fa)) (hs : ∀ v p, l ≠ .Starred v p) : PI X tg (.Call (.Name "range" q) [l] [] p2) (TIt X pl W fun e s => (fa e s).bind fun d s => match d with
    | .int n => if rOk n = true then .ok (rngF 0 n, none) s else .bad
    | _ => .bad) := pi_imp (pi_range1 hgl hm (pa_cons ha pa_nil (star_ne hs)) (star_ne hs)) fun σ H R h => by
  obtain ⟨m, s, e, sr, er, post⟩ := tit_val (f := fun d s => match d with
    | .int n => if rOk n = true then .ok (rngF 0 n, none) s else .bad
    | _ => .bad) h
  refine ⟨m, s, e, sr, er, post.mono (fun v H1 ⟨m1, d, s1, e1, sr1, rp, er1, p⟩ => ?_) fun _ _ _ h => h⟩
  cases d <;> first | (exact False.elim p) | skip
  rename_i n
  obtain rfl : v = .int n := rp
  dsimp only at p
  by_cases hn : rOk n = true
  · rw [if_pos hn] at p
    have hn := rOk_iff hn
    refine ⟨n, rfl, by omega, by omega, ?_⟩
    have e0 : n.toNat = (n - 0).toNat := by rw [Int.sub_zero]
    rw [e0]
    exact p m1 H1 _ _ Ext.refl sr1 wk_rng True.intro
  · rw [if_neg hn] at p
    exact False.elim p
theorem pi_itrng2 {tg l2 : Expr} {q p2 : Pos} (hgl : L2.Gl X "range") (hm : X.mg "range" = none) (ha : PE X l (TE' X pl W fa)) (ha2 : PE X l2 (TE' X pl W fb)) (hs : ∀ v p, l ≠ .Starred v p) (hs2 : ∀ v p, l2 ≠ .Starred v p) : PI X tg (.Call (.Name "range" q) [l, l2] [] p2) (TIt X pl W fun e s => (fa e s).bind fun d s => (fb e s).bind fun d' s => match d, d' with
    | .int m, .int n => if (rOk n && rOk m) = true then .ok (rngF m n, none) s else .bad
    | _, _ => .bad) := pi_imp (pi_range2 hgl hm (pa_cons ha (pa_cons ha2 pa_nil (star_ne hs2)) (star_ne hs)) (by rw [star_ne hs, star_ne hs2]; rfl) (star_ne hs2)) fun σ H R h => by
  obtain ⟨m, s, e, sr, er, post⟩ := h
  refine ⟨m, s, e, sr, er, ?_⟩
  dsimp only at post
  cases qa : fa e s with
  | bad => rw [qa] at post; exact False.elim post
  | err x s' => rw [qa] at post; exact post
  | ok d s1 =>
    rw [qa] at post
    intro m1 H1 v x1 sr1 rp
    refine ⟨m1, s1, e, sr1, x1.er sr er, ?_⟩
    rw [Lt.R.bind_ok] at post
    cases qb : fb e s1 with
    | bad => rw [qb] at post; exact False.elim post
    | err x s' => rw [qb] at post; exact fun m' H' dd y sr' xr => post m' H' dd (x1.trans y sr1) sr' xr
    | ok d2 s2 =>
      rw [qb, Lt.R.bind_ok] at post
      intro m2 H2 v2 x2 sr2 rp2
      have rp' := x2.rp sr1 rp
      cases d <;> first | (exact False.elim post) | skip
      cases d2 <;> first | (exact False.elim post) | skip
      rename_i a b
      obtain rfl : v = .int a := rp'
      obtain rfl : v2 = .int b := rp2
      dsimp only at post
      by_cases hn : (rOk b && rOk a) = true
      · rw [if_pos hn] at post
        have h1 := rOk_iff (ba hn).1
        have h2 := rOk_iff (ba hn).2
        exact ⟨a, b, rfl, ⟨by omega, by omega, by omega, by omega⟩, post m2 H2 _ _ (x1.trans x2 sr1) sr2 wk_rng True.intro⟩
      · rw [if_neg hn] at post
        exact False.elim post
end
end Lt
/-! ### list comprehensions -/
namespace Lt
open PySem PySem.Spec PyProof.Rows L2
section
variable {X : Cx} {pl : Pl} {W : WX} {G : Ctx} {C C1 : Calls} {k : Nat} {hot : Bool} {fa fb : Lt.Env → Lt.St → Lt.R D} {l r : Expr} {pos : Pos}
/-- something laid that is ours alone: D holds a list, off the objects -/
theorem off_tp {K : PySem.W.Frag} {H : Hp} {A : Addr} {vs ws : List V} (h : H A = some (.lst vs)) : ∀ a us, TpL K H a us → TpL K (upd H A (.lst ws)) a us := fun a us q => by
  rcases q with q | q
  · refine .inl ?_
    rw [upd_ne (fun e => by rw [e, h] at q; cases q)]
    exact q
  · exact .inr q
theorem off_fz {K : PySem.W.Frag} {H : Hp} {A : Addr} {vs ws : List V} (h : H A = some (.lst vs)) : ∀ a us, FzL K H a us → FzL K (upd H A (.lst ws)) a us := fun a us q => by
  rcases q with ⟨o, q⟩ | q
  · refine .inl ⟨o, ?_⟩
    rw [upd_ne (fun e => by rw [e, h] at q; cases q)]
    exact q
  · exact .inr q
theorem off_rp {K : PySem.W.Frag} {ca : Cl → Addr} {m : Nat → Addr} {n : Nat} {H : Hp} {A : Addr} {vs ws : List V} (h : H A = some (.lst vs)) {d : D} {v : V} (r : Rp K ca m n H d v) : Rp K ca m n (upd H A (.lst ws)) d v :=
  Rp.go (fun _ _ => rfl) (Nat.le_refl _) (off_tp h) (off_fz h) d v r
theorem off_rpl {K : PySem.W.Frag} {ca : Cl → Addr} {m : Nat → Addr} {n : Nat} {H : Hp} {A : Addr} {vs ws : List V} (h : H A = some (.lst vs)) {d : List D} {v : List V} (r : RpL K ca m n H d v) : RpL K ca m n (upd H A (.lst ws)) d v :=
  RpL.go (fun _ _ => rfl) (Nat.le_refl _) (off_tp h) (off_fz h) d v r
theorem off_sr {m : Nat → Addr} {s : Lt.St} {H : Hp} {A : Addr} {vs ws : List V} (sr : SR X.K pl.ca m s H) (h : H A = some (.lst vs)) (ne : ∀ j, j < s.length → m j ≠ A) : SR X.K pl.ca m s (upd H A (.lst ws)) := by
  refine ⟨fun i o e => ?_, sr.inj⟩
  have hi : i < s.length := (List.getElem?_eq_some_iff.mp e).1
  have q := sr.ob i o e
  cases o with
  | lst ds =>
    obtain ⟨us, h1, h2⟩ := q
    exact ⟨us, by rw [upd_ne (ne i hi)]; exact h1, off_rpl h h2⟩
  | ins c fs =>
    obtain ⟨ok, dx, vfs, h1, h2⟩ := q
    exact ⟨ok, dx, vfs, by rw [upd_ne (ne i hi)]; exact h1, RpF.go (fun _ _ q => off_rp h q) _ _ h2⟩
/-- .. laid anew -/
theorem new_sr {m : Nat → Addr} {s : Lt.St} {H : Hp} {A : Addr} {ws : List V} (sr : SR X.K pl.ca m s H) (h : H A = none) : SR X.K pl.ca m s (upd H A (.lst ws)) ∧ ∀ j, j < s.length → m j ≠ A := by
  have ne : ∀ j, j < s.length → m j ≠ A := fun j hj e => by
    rcases sr.at hj with ⟨_, z⟩ | ⟨_, _, _, z⟩ <;> rw [e, h] at z <;> cases z
  have x : Ext m s H m s (upd H A (.lst ws)) := ⟨Nat.le_refl _, fun _ _ => rfl, fun a o q _ => by rw [upd_ne (ne_of_none q h)]; exact q, fun i h1 h2 => absurd h2 (Nat.not_lt.mpr h1)⟩
  refine ⟨⟨fun i o e => ?_, sr.inj⟩, ne⟩
  have hi : i < s.length := (List.getElem?_eq_some_iff.mp e).1
  have q := sr.ob i o e
  cases o with
  | lst ds =>
    obtain ⟨us, h1, h2⟩ := q
    exact ⟨us, by rw [upd_ne (ne i hi)]; exact h1, x.rpl sr h2⟩
  | ins c fs =>
    obtain ⟨ok, dx, vfs, h1, h2⟩ := q
    exact ⟨ok, dx, vfs, by rw [upd_ne (ne i hi)]; exact h1, RpF.go (fun _ _ q => x.rp sr q) _ _ h2⟩
theorem off_ext {m0 m : Nat → Addr} {s0 s : Lt.St} {H0 H : Hp} {A : Addr} {u : HO} (x : Ext m0 s0 H0 m s H) (h : H0 A = none) : Ext m0 s0 H0 m s (upd H A u) :=
  ⟨x.len, x.agr, fun a o q n => by rw [upd_ne (ne_of_none q h)]; exact x.keep a o q n, x.new⟩
/-- the list comes in sight -/
theorem seen {m0 m : Nat → Addr} {s0 s : Lt.St} {H0 H : Hp} {A : Addr} {ds : List D} {vs : List V} (x : Ext m0 s0 H0 m s H) (h0 : H0 A = none) (sr : SR X.K pl.ca m s H) (h : H A = some (.lst vs)) (ne : ∀ j, j < s.length → m j ≠ A) (rl : RpL X.K pl.ca m s.length H ds vs) :
    Ext m0 s0 H0 (more m s.length A) (s ++ [.lst ds]) H ∧ SR X.K pl.ca (more m s.length A) (s ++ [.lst ds]) H ∧ Rp X.K pl.ca (more m s.length A) (s ++ [Ob.lst ds]).length H (.obj s.length) (.ref A) := by
  have hl : (s ++ [Ob.lst ds]).length = s.length + 1 := by simp
  have old : ∀ i, i < s.length → more m s.length A i = m i := fun i hi => if_neg (Nat.ne_of_lt hi)
  have top : more m s.length A s.length = A := if_pos rfl
  have go : ∀ {d : D} {v : V}, Rp X.K pl.ca m s.length H d v → Rp X.K pl.ca (more m s.length A) (s ++ [Ob.lst ds]).length H d v := fun {d v} r => Rp.go old (by rw [hl]; exact Nat.le_succ _) (fun _ _ q => q) (fun _ _ q => q) d v r
  have gol : ∀ {d : List D} {v : List V}, RpL X.K pl.ca m s.length H d v → RpL X.K pl.ca (more m s.length A) (s ++ [Ob.lst ds]).length H d v := fun {d v} r => RpL.go old (by rw [hl]; exact Nat.le_succ _) (fun _ _ q => q) (fun _ _ q => q) d v r
  refine ⟨⟨by rw [hl]; exact Nat.le_succ_of_le x.len, fun i hi => (old i (Nat.lt_of_lt_of_le hi x.len)).trans (x.agr i hi), x.keep, fun i h1 h2 => ?_⟩, ⟨fun i o e => ?_, fun i j hi hj e => ?_⟩, by rw [hl]; exact Nat.lt_succ_self _, by rw [top]⟩
  · rw [hl] at h2
    by_cases hi : i < s.length
    · rw [old i hi]
      exact x.new i h1 hi
    · have ei : i = s.length := by omega
      subst ei
      rw [top]
      exact h0
  · by_cases hi : i < s.length
    · rw [List.getElem?_append_left hi] at e
      have q := sr.ob i o e
      rw [old i hi]
      cases o with
      | lst es =>
        obtain ⟨us, h1, h2⟩ := q
        exact ⟨us, h1, gol h2⟩
      | ins c fs =>
        obtain ⟨ok, dx, vfs, h1, h2⟩ := q
        exact ⟨ok, dx, vfs, h1, RpF.go (fun _ _ q => go q) _ _ h2⟩
    · have hlt := (List.getElem?_eq_some_iff.mp e).1
      rw [hl] at hlt
      have ei : i = s.length := by omega
      subst ei
      rw [List.getElem?_append_right (Nat.le_refl _)] at e
      simp at e
      subst e
      rw [top]
      exact ⟨vs, h, gol rl⟩
  · rw [hl] at hi hj
    by_cases h1 : i < s.length
    · by_cases h2 : j < s.length
      · rw [old i h1, old j h2] at e
        exact sr.inj i j h1 h2 e
      · have ej : j = s.length := by omega
        subst ej
        rw [old i h1, top] at e
        exact absurd e (ne i h1)
    · have ei : i = s.length := by omega
      subst ei
      by_cases h2 : j < s.length
      · rw [old j h2, top] at e
        exact absurd e.symm (ne j h2)
      · omega
/-! targets of a comprehension -/
def gB (X : Cx) (pl : Pl) (one : Bool) (is : List Nat) : TG := fun v σ H Q => ∃ m s d e e1, SR X.K pl.ca m s H ∧ ER X.K pl.ca m s.length H e σ ∧ Rp X.K pl.ca m s.length H d v ∧ bindT one is d e = some e1 ∧ ∀ σ1, ER X.K pl.ca m s.length H e1 σ1 → wipe σ1 is = wipe σ is → Q σ1 H
theorem wipe_get (σ : L2.St) : ∀ (vs : List Nat) (i : Nat), (wipe σ vs)[i]? = if i ∈ vs ∧ i < σ.length then some none else σ[i]?
  | [], i => by simp [wipe]
  | v :: vs, i => by
    show ((wipe σ vs).set v none)[i]? = _
    rw [List.getElem?_set, wipe_length, wipe_get σ vs i]
    by_cases h : v = i
    · subst h
      by_cases hl : v < σ.length <;> simp [hl]
    · simp [h, Ne.symm h, List.mem_cons]
theorem wipe_eq {σ τ : L2.St} {vs : List Nat} (hl : σ.length = τ.length) (h : ∀ i, i ∉ vs → σ[i]? = τ[i]?) : wipe σ vs = wipe τ vs := by
  apply List.ext_getElem?
  intro i
  rw [wipe_get, wipe_get, hl]
  by_cases hi : i ∈ vs
  · by_cases hlt : i < τ.length
    · simp [hi, hlt]
    · rw [if_neg (fun q => hlt q.2), if_neg (fun q => hlt q.2), List.getElem?_eq_none (by rw [hl]; exact Nat.le_of_not_lt hlt), List.getElem?_eq_none (Nat.le_of_not_lt hlt)]
  · rw [if_neg (fun q => hi q.1), if_neg (fun q => hi q.1)]
    exact h i hi
theorem setV_len : ∀ (is : List Nat) (vs : List V) (σ : L2.St), (setV is vs σ).length = σ.length
  | [], _, _ => by cases ‹List V› <;> rfl
  | i :: is, [], σ => rfl
  | i :: is, v :: vs, σ => by
    show (setV is vs (σ.set i (some v))).length = _
    rw [setV_len is vs, List.length_set]
theorem setV_out : ∀ (is : List Nat) (vs : List V) (σ : L2.St) (j : Nat), j ∉ is → (setV is vs σ)[j]? = σ[j]?
  | [], _, _, _, _ => by cases ‹List V› <;> rfl
  | i :: is, [], σ, j, _ => rfl
  | i :: is, v :: vs, σ, j, h => by
    show (setV is vs (σ.set i (some v)))[j]? = _
    rw [setV_out is vs _ j (fun q => h (List.mem_cons_of_mem _ q)), List.getElem?_set_ne (fun e => h (by rw [e]; exact List.mem_cons_self))]
theorem pg_b1 {i : Nat} {x : Str} {p : Pos} (hN : X.N.Nodup) (hi : X.N[i]? = some x) (hx : X.env.scope.names.lookup x = some .local) : PG X (.Name x p) (gB X pl true [i]) :=
  ⟨fun pins s σ H v u Q I rv ⟨m, st, d, e, e1, sr, er, rp, hb, q⟩ => (pg_name (i := i) hN hi (.inl hx) (.inr hx)).run pins s σ H v u Q I rv (by
    have hb' : some (e.set i (some d)) = some e1 := hb
    cases hb'
    exact q _ (ER.set rp i er) (wipe_eq (by simp) fun j hj => by
      rw [List.getElem?_set_ne (fun e => hj (by rw [e]; exact List.mem_cons_self))]))⟩
theorem pg_b2 {is : List Nat} {ts : List Expr} {kk : Nat} {p : Pos} (hc : X.calm = true) (hN : X.N.Nodup) (hn : ∀ t ∈ ts, isName t = true) (h : Tw (NmOk X) is ts) : PG X (.Tuple ts kk p) (gB X pl false is) := by
  have hl : ts.length = is.length := h.len.symm
  have e1 : (assignEach ts X.env).length = is.length := by rw [each_names hn, List.length_map, hl]
  have e2 : (assignEach ts X.env).findIdx? (·.1) = none := by
    rw [each_names hn, List.findIdx?_map, List.findIdx?_eq_none_iff]
    intro x _
    rfl
  refine ⟨fun pins s σ H v u Q I rv ⟨m, st, d, e, e1', sr, er, rp, hb, q⟩ => ?_⟩
  cases d with
  | tup ds =>
    have hb' : (if ds.length = is.length then some (setAll is ds e) else none) = some e1' := hb
    by_cases hd : ds.length = is.length
    · rw [if_pos hd] at hb'
      cases hb'
      obtain ⟨a, vs, rfl, h1, h2⟩ := rp
      exact (pg_tup (n := is.length) hc (pgs_names hN hn h) e1 e2).run pins s σ H _ u Q I rv ⟨a, vs, rfl, h1.sq, by rw [rpl_len h2, hd], gNames_ok is vs σ H Q (by rw [rpl_len h2, hd]) (q _ (er_all is ds vs e σ h2 er) (wipe_eq (setV_len is vs σ) fun j hj => setV_out is vs σ j hj))⟩
    · rw [if_neg hd] at hb'
      cases hb'
  | _ => cases hb
theorem er_wipe {K : PySem.W.Frag} {ca : Cl → Addr} {m : Nat → Addr} {n : Nat} {H : Hp} {e : Lt.Env} {σ : L2.St} (h : ER K ca m n H e σ) : ∀ is, ER K ca m n H (wipeE e is) (wipe σ is)
  | [] => h
  | i :: is => ER.unset i (er_wipe h is)
theorem wipe_wipe (σ : L2.St) (is : List Nat) : wipe (wipe σ is) is = wipe σ is := by
  apply List.ext_getElem?
  intro i
  rw [wipe_get, wipe_get, wipe_length]
  by_cases h : i ∈ is ∧ i < σ.length
  · rw [if_pos h, if_pos h]
  · rw [if_neg h, if_neg h]
abbrev WF : WX := fun _ _ _ _ => False
/-- the tests of a comprehension -/
def ttB (X : Cx) (pl : Pl) (fc : Option (Lt.Env → Lt.St → Lt.R D)) : TT := match fc with
  | none => tYes
  | some f => TT' X pl WF f
theorem lc_rd {fit : Lt.Env → Lt.St → Lt.R (List D × Option Nat)} {one : Bool} {is : List Nat} {fc : Option (Lt.Env → Lt.St → Lt.R D)} {fe : Lt.Env → Lt.St → Lt.R D} {σ : L2.St} {H : Hp} {Q : VK} (hxc : pl.xc = none)
    (h : TE' X pl W (fun e s => (fit e s).bind fun p s => (lcF (still p.1 p.2) (itemF one is fc fe (wipeE e is)) p.1 [] s).bind lstR) σ H Q) :
    tLc (TIt X pl W fit) (gB X pl one is) (ttB X pl fc) (TE' X pl WF fe) is σ H Q := by
  obtain ⟨m0, s0, e, sr0, er0, post0⟩ := h
  refine ⟨m0, s0, e, sr0, er0, ?_⟩
  dsimp only at post0
  cases qi : fit e s0 with
  | bad => rw [qi] at post0; exact False.elim post0
  | err x s' => rw [qi] at post0; exact post0
  | ok p s1 =>
    rw [qi, Lt.R.bind_ok] at post0
    intro m1 H1 J it x1 sr1 wk hit A hA
    have er1 := x1.er sr0 er0
    have post1 := PostE.later x1 sr1 post0
    generalize hF : itemF one is fc fe (wipeE e is) = F at post1
    refine ⟨fun i n Hc => n = p.1.length - i ∧ i ≤ p.1.length ∧ ∃ m s acc vs, Ext m1 s1 H1 m s Hc ∧ SR X.K pl.ca m s Hc ∧ Hc A = some (.lst vs) ∧ (∀ j, j < s.length → m j ≠ A) ∧ RpL X.K pl.ca m s.length Hc acc vs ∧
      PoE X pl m1 s1 H1 ((lcF (still p.1 p.2) F (p.1.drop i) acc s).bind lstR) Q (fun c d H' => W c d σ H'), ⟨p.1.length, by simp, Nat.zero_le _, m1, s1, [], [], off_ext Ext.refl hA, (new_sr sr1 hA).1, upd_same, (new_sr (ws := []) sr1 hA).2, rfl, post1⟩, ?_⟩
    rintro i n Hc ⟨rfl, hi, m, s, acc, vs, x, sr, hD, ne, rl, post⟩
    have hit' := wk.keep _ _ _ _ _ _ x sr1 hit
    by_cases hlt : i < p.1.length
    · rw [List.drop_eq_getElem_cons hlt] at post
      unfold lcF at post
      by_cases ho : still p.1 p.2 s = true
      · rw [if_pos ho] at post
        obtain ⟨g1, g2⟩ := wk.go m s Hc i sr hit' ho hlt
        refine .inr ⟨g1, fun H' => i + 1 ≤ p.1.length ∧ ∃ m s acc vs, Ext m1 s1 H1 m s H' ∧ SR X.K pl.ca m s H' ∧ H' A = some (.lst vs) ∧ (∀ j, j < s.length → m j ≠ A) ∧ RpL X.K pl.ca m s.length H' acc vs ∧
          PoE X pl m1 s1 H1 ((lcF (still p.1 p.2) F (p.1.drop (i + 1)) acc s).bind lstR) Q (fun c d H' => W c d σ H'), fun H' q => ⟨p.1.length - (i + 1), by omega, rfl, q⟩, fun xv H' y => ?_⟩
        obtain ⟨rfl, d, hd, rp⟩ := g2 xv H' y
        have ed : p.1[i] = d := by
          rw [List.getElem?_eq_getElem hlt] at hd
          exact Option.some.inj hd
        rw [ed] at post
        have erc := er_wipe (x.er0 sr1 er1.1) is
        -- what the item gives
        have hFd : F d s = itemF one is fc fe (wipeE e is) d s := by rw [hF]
        unfold itemF at hFd
        cases hb : bindT one is d (wipeE e is) with
        | none =>
          rw [hb] at hFd
          dsimp only at hFd
          rw [hFd] at post
          exact False.elim post
        | some e1 =>
          rw [hb] at hFd
          dsimp only at hFd
          refine ⟨m, s, d, wipeE e is, e1, sr, erc, rp, hb, fun σ1 er2 hw => ⟨hw.trans (wipe_wipe σ is), ?_⟩⟩
          -- one more item
          have elt : ∀ (m2 : Nat → Addr) (s2 : Lt.St) (H2 : Hp), Ext m s H' m2 s2 H2 → SR X.K pl.ca m2 s2 H2 → ER X.K pl.ca m2 s2.length H2 e1 σ1 → F d s = ((fe e1 s2).bind fun x s => .ok (some x) s) → TE' X pl WF fe σ1 H2 fun y H4 => ∃ acc', H4 A = some (.lst acc') ∧ acc'.length < sizeLine ∧ (i + 1 ≤ p.1.length ∧ ∃ m s acc vs, Ext m1 s1 H1 m s (upd H4 A (.lst (acc' ++ [y]))) ∧ SR X.K pl.ca m s (upd H4 A (.lst (acc' ++ [y]))) ∧ (upd H4 A (.lst (acc' ++ [y]))) A = some (.lst vs) ∧ (∀ j, j < s.length → m j ≠ A) ∧ RpL X.K pl.ca m s.length (upd H4 A (.lst (acc' ++ [y]))) acc vs ∧
              PoE X pl m1 s1 H1 ((lcF (still p.1 p.2) F (p.1.drop (i + 1)) acc s).bind lstR) Q (fun c d H' => W c d σ H')) := fun m2 s2 H2 x2 sr2 er3 hf => by
            refine ⟨m2, s2, e1, sr2, ⟨er3, by rw [hxc]; trivial⟩, ?_⟩
            rw [hf] at post
            cases qe : fe e1 s2 with
            | bad => rw [qe] at post; exact False.elim post
            | err z s3 => rw [qe] at post; exact False.elim post
            | ok z s3 =>
              rw [qe] at post
              intro m3 H3 v x3 sr3 rv
              have post2 : PoE X pl m1 s1 H1 ((if acc.length < lim then lcF (still p.1 p.2) F (p.1.drop (i + 1)) (acc ++ [z]) s3 else .bad).bind lstR) Q (fun c d H' => W c d σ H') := post
              by_cases hz : acc.length < lim
              · rw [if_pos hz] at post2
                have x23 := x2.trans x3 sr2
                have hD3 : H3 A = some (.lst vs) := x23.keep A _ hD ne
                have ne3 : ∀ j, j < s3.length → m3 j ≠ A := fun j hj ej => by
                  by_cases hjs : j < s.length
                  · exact ne j hjs ((x23.agr j hjs).symm.trans ej)
                  · have q := x23.new j (Nat.le_of_not_lt hjs) hj
                    rw [ej, hD] at q
                    cases q
                refine ⟨vs, hD3, by rw [rpl_len rl]; exact Nat.lt_of_lt_of_le hz (by decide), hlt, m3, s3, acc ++ [z], vs ++ [v], off_ext (x.trans x23 sr) hA, off_sr sr3 hD3 ne3, upd_same, ne3, ?_, post2⟩
                exact off_rpl hD3 (rpl_append (show RpL X.K pl.ca m3 s3.length H3 [z] [v] from ⟨v, [], rfl, rv, rfl⟩) (x23.rpl sr rl))
              · rw [if_neg hz] at post2
                exact False.elim post2
          cases fc with
          | none => exact elt m s H' Ext.refl sr er2 hFd
          | some f =>
            dsimp only at hFd
            refine ⟨m, s, e1, sr, ⟨er2, by rw [hxc]; trivial⟩, ?_⟩
            show PostE X.K pl.ca (fun _ _ _ b c => b = c) m s H' ((f e1 s).bind truth) _ _
            cases qf : (f e1 s).bind truth with
            | bad => rw [qf] at hFd; rw [hFd] at post; exact False.elim post
            | err z s3 => rw [qf] at hFd; rw [hFd] at post; exact False.elim post
            | ok b s2 =>
              rw [qf, Lt.R.bind_ok] at hFd
              intro m2 H2 v x2 sr2 hbv
              subst hbv
              cases b with
              | true => exact elt m2 s2 H2 x2 sr2 (ER.go (fun _ _ q => x2.rp sr q) _ _ er2) (by rw [hFd]; rfl)
              | false =>
                have hFn : F d s = .ok none s2 := by rw [hFd]; rfl
                rw [hFn] at post
                have hD2 : H2 A = some (.lst vs) := x2.keep A _ hD ne
                have ne2 : ∀ j, j < s2.length → m2 j ≠ A := fun j hj ej => by
                  by_cases hjs : j < s.length
                  · exact ne j hjs ((x2.agr j hjs).symm.trans ej)
                  · have q := x2.new j (Nat.le_of_not_lt hjs) hj
                    rw [ej, hD] at q
                    cases q
                exact ⟨hlt, m2, s2, acc, vs, x.trans x2 sr, sr2, hD2, ne2, x2.rpl sr rl, post⟩
      · rw [if_neg ho] at post
        exact False.elim post
    · have e1 : i = p.1.length := by omega
      subst e1
      rw [List.drop_length] at post
      unfold lcF at post
      by_cases ho : still p.1 p.2 s = true
      · rw [if_pos ho] at post
        have post2 : PoE X pl m1 s1 H1 (.ok (.obj s.length) (s ++ [.lst acc])) Q (fun c d H' => W c d σ H') := post
        obtain ⟨y1, y2, y3⟩ := seen x hA sr hD ne rl
        exact .inl ⟨wk.stop m s Hc sr hit' ho, post2 _ _ _ y1 y2 y3⟩
      · rw [if_neg ho] at post
        exact False.elim post
end
end Lt
/-! ### every expression -/
namespace Lt
open PySem PySem.Spec PyProof.Rows L2
section
variable {X : Cx} {pl : Pl} {W : WX} {G : Ctx} {C C1 : Calls} {k : Nat} {hot : Bool} {S : Sc} {xv : Option Nat} {cx : Option Xc}
/-- the static scope is the context's own -/
structure At' (X : Cx) (G : Ctx) (S : Sc) : Prop where
  N : X.N = S.N
  sc : X.env.scope = S.sc
  gl : ∀ f, S.gl f = true → G.glob f = true ∧ (G.fn f).isSome = true
/-- what is known of the exception that is handled -/
def Cur (X : Cx) (pl : Pl) (G : Ctx) (xv : Option Nat) (cx : Option Xc) : Prop := (pl.xc = none ∧ xv = none ∧ cx = none ∧ X.calm = true ∧ X.N.Nodup) ∨
  ∃ i a x d X0 oe pn, pl.xc = some (i, a, x, d) ∧ xv = some i ∧ cx = some x ∧ X = L2.Cx.suite X0 a ((a, oe) :: pn) ∧ Zc (.ref (pl.ca x.cls)) d oe ∧ (∃ vs, oe.data = .fields vs) ∧ G.exc x.cls = true
theorem var_of (T : At' X G S) {i : Nat} {x : Str} (h : S.var i x = true) : X.N[i]? = some x ∧ Vis X.env.scope x ∧ (x == ("__debug__" : Str)) = false ∧ (x == ("__classdict__" : Str)) = false := by
  unfold Sc.var at h
  obtain ⟨h1, h2⟩ := ba h
  obtain ⟨h3, h4⟩ := ba h2
  obtain ⟨h5, h6⟩ := ba h4
  refine ⟨by rw [T.N]; exact of_decide_eq_true h1, ?_, by simpa using h5, by simpa using h6⟩
  rw [T.sc]
  rcases Bool.or_eq_true_iff.mp h3 with q | q
  · exact .inl (beq_iff_eq.mp q)
  · rcases Bool.or_eq_true_iff.mp q with q | q
    · exact .inr (.inl (beq_iff_eq.mp q))
    · exact .inr (.inr (beq_iff_eq.mp q))
theorem glo_of (T : At' X G S) {x : Str} (h : S.glo x = true) : L2.Gl X x ∧ (x == ("__debug__" : Str)) = false ∧ x ≠ "__name__" := by
  unfold Sc.glo at h
  obtain ⟨h1, h2⟩ := ba h
  obtain ⟨h3, h4⟩ := ba h2
  refine ⟨?_, by simpa using h3, by simpa using h4⟩
  show X.env.scope.names.lookup x = _
  rw [T.sc]
  exact beq_iff_eq.mp h1
mutual
theorem no_starE : ∀ (e : Ex) (x : Expr), chkE S xv e x = true → ∀ v p, x ≠ .Starred v p := by
  intro e x h v p q
  subst q
  cases e <;> cases h
theorem no_starEs : ∀ (es : Exs) (l : List Expr), chkEs S xv es l = true → NoStar l := by
  intro es l h x hx
  cases es with
  | nil =>
    cases l with
    | nil => cases hx
    | cons _ _ => cases h
  | cons e es =>
    cases l with
    | nil => cases hx
    | cons y l =>
      obtain ⟨h1, h2⟩ := ba h
      rcases List.mem_cons.mp hx with q | q
      · subst q
        exact no_starE e x h1
      · exact no_starEs es l h2 x q
end
/-- what an expression of ours can be in the text -/
theorem not_slice {e : Ex} {x : Expr} (h : chkE S xv e x = true) : ∀ l u st p, x ≠ .Slice l u st p := by
  intro l u st p q
  subst q
  cases e <;> cases h
theorem rel_cls {m : Nat → Addr} {n : Nat} {H : Hp} {kd : Kd} {d : D} {b : Bool} {v : V} (h : isOne G kd d = some b) (r : Rp X.K pl.ca m n H d v) : ∀ u, RelV v u → u = d.cv pl := fun u ru => ClsV.eq (cls_v h r) ru
/-- .. of a tuple of classes -/
theorem isE_tup {X0 : Cx} {a D : Addr} {oe : Obj} {pn : List (Addr × Obj)} (CC : ExcC X0.K D) (hz : Zc (.ref D) none oe) (hf : ∃ vs, oe.data = .fields vs) {pins : List (Addr × Obj)} {s : Shared} {σ : L2.St} {H : Hp} {tp : Addr} {cs : List V} {ws : List Value} {us : List Value} {b : Bool} {Q : VK}
    (I : Inv (L2.Cx.suite X0 a ((a, oe) :: pn)) pins σ H s) (rv : Vals [.ref a, .ref tp] us) (ht : TpL X0.K H tp cs) (hk : Paired ClsV cs ws) (e : PySem.W.kitAny X0.K (.ref D) ws = some b) (q : Q (.bl b) H) :
    wpAny (model X0.prog X0.w) (L2.Cx.suite X0 a ((a, oe) :: pn)).A (PySem.call (.builtin "isinstance") us) (EP (L2.Cx.suite X0 a ((a, oe) :: pn)) pins σ Q) (L2.Cx.suite X0 a ((a, oe) :: pn)).xe s := by
  obtain ⟨u1, u2, rfl, r1, r2⟩ := vals2 rv
  cases (show u1 = Value.ref a from r1)
  cases (show u2 = Value.ref tp from r2)
  obtain ⟨hget, _⟩ := I.pin (a, oe) (List.mem_append.mpr (.inl List.mem_cons_self))
  obtain ⟨vs, hv⟩ := hf
  have J : PySem.W.InstAt s.heap a oe D none := by
    obtain ⟨oc, od, oda, osl⟩ := oe
    obtain ⟨h1, h2⟩ := hz
    dsimp only at h1 h2 hv
    subst h1 h2 hv
    exact ⟨hget, rfl, rfl, trivial⟩
  have Z := PySem.W.handS_kitx_exc (x := a) (ox := oe) CC.hg CC.hk CC.hs CC.hd CC.ha CC.hn CC.ht CC.hm
  have fin : ∀ tk, EP (L2.Cx.suite X0 a ((a, oe) :: pn)) pins σ Q (.bool b) { s with toks := tk } := fun tk => ⟨.bl b, H, I.kept (t' := tk) fun _ _ z => z, rfl, q⟩
  rcases ht with ht | ⟨o, its, n, q1, q2, q3, q4, q5⟩
  · obtain ⟨_, its, rv, o, h1, h2, n, h3⟩ := (show ObjOk X0.prog X0.w H s.heap tp (.tup cs) from I.hok tp _ ht)
    have e3 := ClsV.all hk rv
    subst e3
    obtain ⟨oc, od, dt, sl⟩ := o
    simp only at h2 h3
    subst h2 h3
    exact PySem.W.kia_tup Z I.kIn J h1 e (fun z => nomatch z) fin
  · have e3 := ClsV.all hk q5
    have h1 := I.kIn tp o q1
    obtain ⟨oc, od, dt, sl⟩ := o
    simp only at q2 q3
    subst q2 q3
    have e4 : its = ws.toArray := by rw [← e3]
    subst e4
    exact PySem.W.kia_tup Z I.kIn J h1 e (fun z => nomatch z) fin
/-- isinstance(e, T) of the exception that is handled -/
theorem snd_xis (R : Run X G pl C C1 W k hot) (T : At' X G S) (hc : Cur X pl G xv cx) {fa : Lt.Env → Lt.St → Lt.R D} {y : Str} {p q pos : Pos} {r : Expr} {i : Nat} (hxv : xv = some i) (hv : S.var i y = true) (hg : L2.Gl X Bi.isinstance.nm) (hr : PE X r (TE' X pl W fa)) (hs : ∀ v p, r ≠ .Starred v p) :
    PE X (.Call (.Name Bi.isinstance.nm p) [.Name y q, r] [] pos) (TE' X pl W fun e s => (fa e s).bind fun y s => xisF G cx y s) := by
  rcases hc with ⟨_, e, _, _, _⟩ | ⟨i', a, x, d, X0, oe, pn, e1, e2, e3, e4, hz, hf, hx⟩
  · rw [hxv] at e
    cases e
  have ei : i' = i := by
    rw [hxv] at e2
    cases e2
    rfl
  subst ei
  subst e3
  obtain ⟨v1, v2, v4, v5⟩ := var_of T hv
  refine ⟨fun pins s σ H Q I h => ?_⟩
  have hst : NoStar [Expr.Name y q, r] := fun z hz' v p' e => by
    rcases List.mem_cons.mp hz' with q' | q'
    · subst q'
      cases e
    · rcases List.mem_cons.mp q' with q' | q'
      · subst q'
        exact hs v p' e
      · cases q'
  -- the arguments: the exception, the classes
  have arg : PA X [Expr.Name y q, r] (tCons (tVar i') (tCons (TE' X pl W fa) tNil)) := pa_cons (pe_var v1 v2 v4 v5) (pa_cons hr pa_nil (star_ne hs)) (star_ne fun v p e => by cases e)
  obtain ⟨m, st, e, sr, er, post⟩ := h
  unfold xisF at post
  have ex := er.2
  rw [e1] at ex
  obtain ⟨ex1, ex0, ex2⟩ := ex
  have run : wpAny (model X.prog X.w) X.A (spliced (backTo pos (starEach [Expr.Name y q, r] X.env))) (fun us s1 => wpAny (model X.prog X.w) X.A (PySem.call (.builtin "isinstance") us) (EP X pins σ Q) X.xe s1) X.xe s := by
    refine thn (arg.run pos pins s σ H (fun vs H1 => ∃ w m1 d1 s1, vs = [.ref a, w] ∧ Ext m st H m1 s1 H1 ∧ SR X.K pl.ca m1 s1 H1 ∧ Rp X.K pl.ca m1 s1.length H1 d1 w ∧ PoE X pl m1 s1 H1 (match (if x.fs.isEmpty = true then isF G (.cls x.cls) d1 else none) with
        | some b => .ok (.bl b) s1
        | none => .bad) Q (fun c d H' => W c d σ H')) I ⟨.ref a, ex1, m, st, e, sr, er, (PostE.bind (rel' := Rp X.K pl.ca) post).mono (fun w H1 ⟨m1, d1, s1, x1, sr1, rp, p1⟩ => ⟨w, m1, d1, s1, rfl, x1, sr1, rp, p1⟩) fun _ _ _ h => h⟩) fun us s1 ⟨vs, H1, I1, rv, w, m1, d1, s1', ev, x1, sr1, rp, p1⟩ => ?_
    subst ev
    by_cases he : x.fs.isEmpty = true
    · rw [if_pos he] at p1
      have hfs : x.fs = [] := List.isEmpty_iff.mp he
      have hd : d = none := by
        cases d with
        | none => rfl
        | some d => exact absurd hfs ex2.1
      subst hd
      cases eb : isF G (.cls x.cls) d1 with
      | none =>
        rw [eb] at p1
        exact p1.elim
      | some b =>
        rw [eb] at p1
        have q1 : Q (.bl b) H1 := p1 _ _ _ Ext.refl sr1 rfl
        have EO := R.mok.exc x.cls hx
        subst e4
        have one : isOne G (.cls x.cls) d1 = some b → _ := fun eb => call_isE EO.cc hz hf pins s1 σ H1 _ us Q I1 rv ⟨w, d1.cv pl, b, rfl, rel_cls eb rp, R.mok.kit.one _ _ _ eb, q1⟩
        cases d1 with
        | tup cs =>
          obtain ⟨tp, ws, rfl, h1, h2⟩ := rp
          exact isE_tup EO.cc hz hf I1 rv h1 (clss_v eb h2) (isAny_ok R.mok.kit eb) q1
        | _ => exact one eb
    · rw [if_neg he] at p1
      exact p1.elim
  refine wpAny_Call_Name_kw (ld_blt (u := .builtin "isinstance") I hg (R.mok.free .isinstance) (by decide +kernel) ?_ (by decide) (by decide))
  exact PyProof.Rows.callWith_builtin1 run (star_ne fun v p e => by cases e) (no_back fun e he => hst e (List.mem_cons_of_mem _ he))
/-! ### own methods in place of operators -/
theorem rec_none {m : Nat → Addr} {st : Lt.St} {H : Hp} {d : D} {x : V} (sr : SR X.K pl.ca m st H) (rp : Rp X.K pl.ca m st.length H d x) {i : Nat} (e : d = .obj i) : ∃ o, st[i]? = some o := by
  subst e
  exact ⟨_, List.getElem?_eq_getElem rp.1⟩
theorem non_ev {e : Ex} (h : e.isNon = true) : evE G C C1 cx e = fun _ s => .ok .non s := by
  cases e <;> first | rfl | cases h
theorem pt_ife {fa fb fc : Lt.Env → Lt.St → Lt.R D} {c l r : Expr} {pos : Pos} (hc : Snd X pl W c fc) (ha : Snd X pl W l fa) (hb : Snd X pl W r fb) : PT X (.IfExp c l r pos) (TT' X pl W (ifeF fc fa fb)) := by
  refine ⟨fun pins s σ H Q I h => isTrue_IfExp ?_⟩
  have e1 : (fun e s => (ifeF fc fa fb e s).bind truth) = fun e s => ((fc e s).bind truth).bind fun b s => if b = true then (fa e s).bind truth else (fb e s).bind truth := funext fun e => funext fun s => by
    rw [ife_truth, R.bind_assoc]
    congr 1
    funext b s
    cases b <;> rfl
  have h1 : tB X.K pl.ca pl.xc W (fun e s => ((fc e s).bind truth).bind fun b s => if b = true then (fa e s).bind truth else (fb e s).bind truth) σ H Q := by
    rw [← e1]
    exact h
  refine thn (hc.pt.run pins s σ H _ I (keep_envTT (g := fun b e s => if b = true then (fa e s).bind truth else (fb e s).bind truth) h1)) fun b s1 ⟨H1, I1, m1, s1', e1', sr1, er1, p1⟩ => ?_
  cases b with
  | true => exact ha.pt.run pins s1 σ H1 Q I1 ⟨m1, s1', e1', sr1, er1, p1⟩
  | false => exact hb.pt.run pins s1 σ H1 Q I1 ⟨m1, s1', e1', sr1, er1, p1⟩
theorem Run.blk {X : Cx} {W : WX} (R : Run X G pl C C1 W k hot) {s : Shared} {H : Hp} {scope : Scope} {ce : PySem.Env} {fp : List Addr} : Run (X.blk s H scope ce fp) G pl C C1 WF k hot where
  mok := R.mok
  calm := R.calm
  tk := takes0
  ok := R.ok
  ok1 := R.ok1
  zero := R.zero
  room := R.room
  bad := R.bad
  un := R.un
def ownL (N : List Str) (is : List Nat) : List (Str × Nat) := is.map fun (i : Nat) => ((N[i]?).getD ("" : Str), i)
theorem blkB_ok {N : List Str} {sc scope : Scope} {is : List Nat} (h : blkB N sc scope is = true) : BlkOk N sc scope (ownL N is) := by
  obtain ⟨h1, h⟩ := ba h
  obtain ⟨h2, h⟩ := ba h
  obtain ⟨h3, h⟩ := ba h
  obtain ⟨h4, h5⟩ := ba h
  refine ⟨of_decide_eq_true h1, fun y hy => beq_iff_eq.mp (List.all_eq_true.mp h2 y hy), fun p hp => ?_, fun y hy e => ?_, fun y hy e => ?_⟩
  · obtain ⟨i, hi, rfl⟩ := List.mem_map.mp hp
    have q := of_decide_eq_true (List.all_eq_true.mp h3 i hi)
    simp [List.getElem?_eq_getElem q]
  · have q := List.all_eq_true.mp h4 y hy
    rw [e] at q
    rcases Bool.or_eq_true_iff.mp (show (sc.names.lookup y.1 == some .cell || sc.names.lookup y.1 == some .free) = true from q) with q | q
    · exact .inl (beq_iff_eq.mp q)
    · exact .inr (beq_iff_eq.mp q)
  · have q := List.all_eq_true.mp h5 y hy
    have q2 : (is.any (fun i => decide (N[i]? = some y.1)) || !decide (y.1 ∈ N)) = true := by
      rcases e with e | e <;> rw [e] at q <;> exact q
    rcases Bool.or_eq_true_iff.mp q2 with q | q
    · left
      obtain ⟨i, hi, e2⟩ := List.any_eq_true.mp q
      refine List.mem_map.mpr ⟨((N[i]?).getD ("" : Str), i), List.mem_map.mpr ⟨i, hi, rfl⟩, ?_⟩
      rw [of_decide_eq_true e2]
      rfl
    · right
      simpa using q
theorem ownL_snd (N : List Str) : ∀ is : List Nat, (ownL N is).map (·.2) = is
  | [] => rfl
  | i :: is => congrArg (i :: ·) (ownL_snd N is)
theorem own_of {X : Cx} {S : Sc} (T : At' X G S) {i : Nat} {x : Str} (h : S.own i x = true) : X.N[i]? = some x ∧ X.env.scope.names.lookup x = some .local := by
  obtain ⟨h1, h2⟩ := ba h
  exact ⟨by rw [T.N]; exact of_decide_eq_true h1, by rw [T.sc]; exact beq_iff_eq.mp h2⟩
theorem own_names {X : Cx} {S : Sc} (T : At' X G S) : ∀ {is : List Nat} {ts : List Expr}, chkNl S is ts = true → (∀ t ∈ ts, isName t = true) ∧ Tw (NmOk X) is ts
  | [], [], _ => ⟨fun _ h => (by cases h), .nil⟩
  | i :: is, .Name x p :: ts, h => by
    obtain ⟨h1, h2⟩ := ba h
    obtain ⟨q1, q2⟩ := own_names T h2
    obtain ⟨l1, l2⟩ := own_of T h1
    refine ⟨fun t ht => ?_, .cons ⟨x, p, rfl, l1, .inl l2, .inr l2⟩ q2⟩
    rcases List.mem_cons.mp ht with e | e
    · rw [e]; rfl
    · exact q1 t e
theorem pg_bB {X : Cx} {S : Sc} {tg : Expr} {one : Bool} {is : List Nat} (T : At' X G S) (hc : X.calm = true) (hN : X.N.Nodup) (h : chkTB S one is tg = true) : PG X tg (gB X pl one is) := by
  cases one with
  | true =>
    cases tg <;> first | (cases is with | nil => cases h | cons _ r => cases r <;> cases h; done) | skip
    match is, h with
    | [i], h =>
      obtain ⟨l1, l2⟩ := own_of T h
      exact pg_b1 hN l1 l2
  | false =>
    cases tg <;> first | (cases h; done) | skip
    obtain ⟨n1, n2⟩ := own_names T h
    exact pg_b2 hc hN n1 n2
theorem fold_it {S : Sc} {xv : Option Nat} {env : PySem.Env} {it : It} {x : Expr} (h : chkI S xv it x = true) : ∀ v, foldedSetIterable x env v = pure v := by
  intro v
  cases it with
  | val e =>
    have h1 := (ba h).1
    cases x <;> first | rfl | cases h1
  | _ => cases x <;> first | rfl | cases h
/-- what is known of a comprehension -/
structure LcP (X : Cx) (pl : Pl) (W : WX) (y tg iter : Expr) (fs : List Expr) (scope : Scope) (f : Lt.Env → Lt.St → Lt.R D) : Prop where
  ex : ∃ (wi : TI) (g : TG) (tt : TT) (te : TE) (own : List (Str × Nat)), PI X tg iter wi ∧ BlkOk X.N X.env.scope scope own ∧
    (∀ (s : Shared) (H : Hp) (A : Addr) (cl : List (Str × Addr)) (fp : List Addr), PG (X.blk s H scope (compEnvC scope cl A X.env) fp) tg g) ∧
    (∀ (s : Shared) (H : Hp) (A : Addr) (cl : List (Str × Addr)) (fp : List Addr), PTs (X.blk s H scope (compEnvC scope cl A X.env) fp) fs tt) ∧
    (∀ (s : Shared) (H : Hp) (A : Addr) (cl : List (Str × Addr)) (fp : List Addr), PE (X.blk s H scope (compEnvC scope cl A X.env) fp) y te) ∧
    (∀ x, foldedSetIterable iter X.env x = pure x) ∧ ∀ σ H Q, TE' X pl W f σ H Q → tLc wi g tt te (own.map (·.2)) σ H Q
theorem LcP.pe {X : Cx} {W : WX} {y tg iter : Expr} {fs : List Expr} {scope : Scope} {pos : Pos} {f : Lt.Env → Lt.St → Lt.R D} (hc : X.calm = true) (hN : X.N.Nodup) (h : LcP X pl W y tg iter fs scope f) : PE X (.ListComp y [⟨tg, iter, fs, 0⟩] scope pos) (TE' X pl W f) := by
  obtain ⟨wi, g, tt, te, own, h1, h2, h3, h4, h5, h6, h7⟩ := h.ex
  exact pe_imp (pe_lc hc hN h1 h2 h3 h4 h5 h6) h7
theorem lcP_of {X : Cx} {W : WX} {S : Sc} {y tg iter : Expr} {fs : List Expr} {scope : Scope} {one : Bool} {is : List Nat} {fit : Lt.Env → Lt.St → Lt.R (List D × Option Nat)} {fc : Option (Lt.Env → Lt.St → Lt.R D)} {fe : Lt.Env → Lt.St → Lt.R D}
    (T : At' X G S) (c1 : pl.xc = none) (c4 : X.calm = true) (c5 : X.N.Nodup) (h2 : blkB S.N S.sc scope is = true) (h3 : chkTB ⟨S.N, relS S.sc scope, S.gl⟩ one is tg = true) (hi : PI X tg iter (TIt X pl W fit))
    (ht : ∀ (s : Shared) (H : Hp) (A : Addr) (cl : List (Str × Addr)) (fp : List Addr), PTs (X.blk s H scope (compEnvC scope cl A X.env) fp) fs (ttB X pl fc))
    (he : ∀ (s : Shared) (H : Hp) (A : Addr) (cl : List (Str × Addr)) (fp : List Addr), PE (X.blk s H scope (compEnvC scope cl A X.env) fp) y (TE' X pl WF fe)) (hs : ∀ x, foldedSetIterable iter X.env x = pure x) :
    LcP X pl W y tg iter fs scope fun e s => (fit e s).bind fun p s => (lcF (still p.1 p.2) (itemF one is fc fe (wipeE e is)) p.1 [] s).bind lstR := by
  have bk := blkB_ok h2
  have own : (ownL S.N is).map (·.2) = is := ownL_snd S.N is
  rw [← T.N] at bk own
  rw [← T.sc] at bk
  have TB : ∀ (s : Shared) (H : Hp) (A : Addr) (cl : List (Str × Addr)) (fp : List Addr), At' (X.blk s H scope (compEnvC scope cl A X.env) fp) G ⟨S.N, relS S.sc scope, S.gl⟩ := fun s H A cl fp => ⟨T.N, by rw [← T.sc]; rfl, T.gl⟩
  refine ⟨TIt X pl W fit, gB X pl one is, ttB X pl fc, TE' X pl WF fe, ownL X.N is, hi, bk, fun s H A cl fp => pg_bB (TB s H A cl fp) c4 c5 h3, ht, he, hs, fun σ H Q h => ?_⟩
  rw [own]
  exact lc_rd c1 h
/-- a part of an f-string -/
def partF (fa : Lt.Env → Lt.St → Lt.R D) : Lt.Env → Lt.St → Lt.R D := fun e s => (fa e s).bind fun d s => match fmtF d with
  | some x => .ok (.str x) s
  | none => .bad
theorem snd_fmt {fa : Lt.Env → Lt.St → Lt.R D} {l : Expr} {pos : Pos} (ha : PE X l (TE' X pl W fa)) : PE X (.FormattedValue l (-1) none pos) (TE' X pl W (partF fa)) := pe_imp (pe_fmt ha) fun σ H Q h => by
  obtain ⟨m, st, e, sr, er, post⟩ := h
  refine ⟨m, st, e, sr, er, (PostE.bind (rel' := Rp X.K pl.ca) post).mono (fun x H1 ⟨m1, d, s1, x1, sr1, rp, post⟩ => ?_) fun _ _ _ h => h⟩
  cases d <;> first | exact post.elim | skip
  · rename_i i
    obtain rfl : x = .int i := rp
    by_cases hi : i.natAbs.log2 < 1920
    · have e : fmtF (.int i) = some (intText i) := if_pos hi
      simp only [e] at post
      refine .inr ⟨i, rfl, hi, ?_⟩
      have q := post _ _ (.str (toStr (intText i))) Ext.refl sr1 rfl
      have e2 : toStr (intText i) = (toString i : Str) := toStr_of _
      rw [e2] at q
      exact q
    · have e : fmtF (.int i) = none := if_neg hi
      simp only [e] at post
      exact post.elim
  · rename_i z
    obtain rfl : x = .str (toStr z) := rp
    by_cases hz : z.length ≤ lim
    · have e : fmtF (.str z) = some z := if_pos hz
      simp only [e] at post
      exact .inl ⟨toStr z, rfl, lim_line (by rw [toStr_len]; exact hz), post _ _ _ Ext.refl sr1 rfl⟩
    · have e : fmtF (.str z) = none := if_neg hz
      simp only [e] at post
      exact post.elim
/-- one part alone -/
theorem snd_js1 {fa : Lt.Env → Lt.St → Lt.R D} {x : Expr} {pos : Pos} (ha : PE X x (TE' X pl W (partF fa))) : PE X (.JoinedStr [x] pos) (TE' X pl W fun e s => (fa e s).bind fun d s => (match fmtF d with
    | some x => if ([] : List Nat).length + x.length ≤ lim then .ok (.str ([] ++ x)) s else .bad
    | none => .bad)) := pe_imp (pe_joined1 ha) fun σ H Q ⟨m, st, e, sr, er, post⟩ => by
  refine ⟨m, st, e, sr, er, ?_⟩
  dsimp only at post
  unfold partF
  cases h : fa e st with
  | bad => rw [h] at post; exact post.elim
  | err c s' => rw [h] at post; exact post
  | ok d s' =>
    rw [h] at post
    simp only [Lt.R.bind_ok] at post ⊢
    cases hf : fmtF d with
    | none => rw [hf] at post; exact post.elim
    | some x =>
      rw [hf] at post
      dsimp only at post ⊢
      by_cases hz : ([] : List Nat).length + x.length ≤ lim
      · rw [if_pos hz] at post
        exact post
      · rw [if_neg hz] at post
        exact post.elim
/-- the parts of an f-string -/
def JsOk (X : Cx) (pl : Pl) (W : WX) (l : List Expr) (f : List Nat → Lt.Env → Lt.St → Lt.R D) : Prop := ∃ ts, PJ X l ts ∧ ∀ σ H Q acc, TE' X pl W (f acc) σ H Q → tJs ts (toStr acc) σ H fun out H1 => Q (.str out) H1
theorem js_nil : JsOk X pl W [] (fun acc _ s => .ok (.str acc) s) := ⟨[], .nil, fun σ H Q acc ⟨m, st, e, sr, er, post⟩ => post _ _ _ Ext.refl sr rfl⟩
theorem js_cons {fa : Lt.Env → Lt.St → Lt.R D} {f : List Nat → Lt.Env → Lt.St → Lt.R D} {x : Expr} {l : List Expr} (ha : PE X x (TE' X pl W (partF fa))) (hl : JsOk X pl W l f) : JsOk X pl W (x :: l) (fun acc e s => (fa e s).bind fun d s => (match fmtF d with
    | some x => if acc.length + x.length ≤ lim then f (acc ++ x) e s else .bad
    | none => .bad)) := by
  obtain ⟨ts, pj, h⟩ := hl
  refine ⟨_, .cons ha pj, fun σ H Q acc q => ?_⟩
  have e0 : (fun (e : Lt.Env) (s : Lt.St) => (fa e s).bind fun d s => (match fmtF d with
      | some x => if acc.length + x.length ≤ lim then f (acc ++ x) e s else .bad
      | none => .bad)) = fun e s => (partF fa e s).bind fun d s => (match d with
      | .str x => if acc.length + x.length ≤ lim then f (acc ++ x) e s else .bad
      | _ => .bad) := by
    funext e s
    unfold partF
    cases fa e s with
    | ok d s' =>
      simp only [Lt.R.bind_ok]
      cases fmtF d <;> rfl
    | err _ _ => rfl
    | bad => rfl
  have q' : TE' X pl W (fun e s => (partF fa e s).bind fun d s => (match d with
      | .str x => if acc.length + x.length ≤ lim then f (acc ++ x) e s else .bad
      | _ => .bad)) σ H Q := by rw [← e0]; exact q
  obtain ⟨m, st, e, sr, er, post⟩ := keep_env (g := fun d e s => (match d with
      | .str x => if acc.length + x.length ≤ lim then f (acc ++ x) e s else .bad
      | _ => .bad)) q'
  refine ⟨m, st, e, sr, er, post.mono (fun v H1 ⟨m1, d, s1, e1, sr1, er1, rp1, p1⟩ => ?_) fun _ _ _ h => h⟩
  cases d <;> first | exact p1.elim | skip
  rename_i z
  obtain rfl : v = .str (toStr z) := rp1
  dsimp only at p1
  by_cases hz : acc.length + z.length ≤ lim
  · rw [if_pos hz] at p1
    refine ⟨toStr z, rfl, ?_, ?_⟩
    · rw [toStr_app, toStr_len, List.length_append]
      exact lim_line hz
    · rw [toStr_app]
      exact h σ H1 Q (acc ++ z) ⟨m1, s1, e1, sr1, er1, p1⟩
  · rw [if_neg hz] at p1
    exact p1.elim
theorem snd_f1 {X : Cx} {W : WX} {S : Sc} {xv : Option Nat} {cx : Option Xc} {e : Ex} {es : Exs} {x : Expr} {l : List Expr} (hE : ∀ y, chkE S xv e y = true → PE X y (TE' X pl W (evE G C C1 cx e))) (h : chkFs S xv (.cons e es) (x :: l) = true) : PE X x (TE' X pl W (partF (evE G C C1 cx e))) ∧ chkFs S xv es l = true := by
  cases x
  case Constant c a b =>
    cases e <;> first | (cases h; done) | skip
    rename_i z
    cases c <;> first | (cases h; done) | skip
    rename_i y
    obtain ⟨h1, h2⟩ := ba h
    obtain ⟨h2, h3⟩ := ba h2
    have e1 : toStr z = y := of_decide_eq_true h1
    subst e1
    have e2 : partF (evE G C C1 cx (.str z)) = fun _ s => .ok (.str z) s := by
      funext e s
      show (match fmtF (.str z) with
        | some x => Lt.R.ok (D.str x) s
        | none => .bad) = _
      have : fmtF (.str z) = some z := if_pos (of_decide_eq_true h2)
      rw [this]
    refine ⟨?_, h3⟩
    rw [e2]
    exact snd_con pe_str fun _ _ _ => rfl
  case FormattedValue y cv fs p =>
    have hf : cv = -1 ∧ fs = none ∧ (chkE S xv e y && chkFs S xv es l) = true := by
      by_cases hcv : cv = -1
      · subst hcv
        cases fs with
        | some _ => cases e <;> cases h
        | none => exact ⟨rfl, rfl, by cases e <;> exact h⟩
      · exfalso
        cases e <;> (unfold chkFs at h; simp [hcv] at h)
    obtain ⟨rfl, rfl, h0⟩ := hf
    obtain ⟨h1, h2⟩ := ba h0
    exact ⟨snd_fmt (hE y h1), h2⟩
  all_goals (cases e <;> cases h)
mutual
/-- every expression of ours does what it says -/
theorem sndE {X : Cx} {W : WX} {S : Sc} {xv : Option Nat} {cx : Option Xc} (R : Run X G pl C C1 W k hot) (T : At' X G S) (hc : Cur X pl G xv cx) : ∀ (e : Ex) (x : Expr), chkE S xv e x = true → Snd X pl W x (evE G C C1 cx e)
  | .var i, x, h => by
    cases x <;> first | (cases h; done) | skip
    obtain ⟨h1, h2⟩ := ba h
    obtain ⟨v1, v2, v4, v5⟩ := var_of T h1
    exact Snd.plain (snd_var v1 v2 v4 v5) (fun _ _ _ q => by cases q) (fun _ _ q => by cases q) (fun _ _ _ _ q => by cases q) (fun _ _ _ _ q => by cases q)
  | .non, x, h => by
    cases x <;> first | (cases h; done) | skip
    rename_i c _ _
    cases c <;> first | (cases h; done) | skip
    exact Snd.plain (snd_con pe_non fun _ _ _ => rfl) (fun _ _ _ q => by cases q) (fun _ _ q => by cases q) (fun _ _ _ _ q => by cases q) (fun _ _ _ _ q => by cases q)
  | .bl b, x, h => by
    cases x <;> first | (cases h; done) | skip
    rename_i c _ _
    cases c <;> first | (cases h; done) | skip
    rename_i c
    have e : b = c := beq_iff_eq.mp h
    subst e
    exact Snd.plain (snd_con pe_bl fun _ _ _ => rfl) (fun _ _ _ q => by cases q) (fun _ _ q => by cases q) (fun _ _ _ _ q => by cases q) (fun _ _ _ _ q => by cases q)
  | .int i, x, h => by
    cases x <;> first | (cases h; done) | skip
    rename_i c _ _
    cases c <;> first | (cases h; done) | skip
    rename_i c
    have e : i = c := of_decide_eq_true h
    subst e
    exact Snd.plain (snd_con pe_int fun _ _ _ => rfl) (fun _ _ _ q => by cases q) (fun _ _ q => by cases q) (fun _ _ _ _ q => by cases q) (fun _ _ _ _ q => by cases q)
  | .str z, x, h => by
    cases x <;> first | (cases h; done) | skip
    rename_i c _ _
    cases c <;> first | (cases h; done) | skip
    rename_i c
    have e : toStr z = c := of_decide_eq_true h
    subst e
    exact Snd.plain (snd_con pe_str fun _ _ _ => rfl) (fun _ _ _ q => by cases q) (fun _ _ q => by cases q) (fun _ _ _ _ q => by cases q) (fun _ _ _ _ q => by cases q)
  | .gcon g, x, h => by
    cases x <;> first | (cases h; done) | skip
    obtain ⟨h1, h2⟩ := ba h
    obtain rfl := of_decide_eq_true h1
    obtain ⟨g1, g2, g3⟩ := glo_of T h2
    obtain ⟨u, v, c1, c2, c3⟩ := R.mok.con g
    exact Snd.plain (snd_con (pe_glob g1 c1 c2 g2) c3) (fun _ _ _ q => by cases q) (fun _ _ q => by cases q) (fun _ _ _ _ q => by cases q) (fun _ _ _ _ q => by cases q)
  | .gcls c, x, h => by
    cases x <;> first | (cases h; done) | skip
    obtain ⟨h1, h2⟩ := ba h
    obtain rfl := of_decide_eq_true h1
    obtain ⟨g1, g2, g3⟩ := glo_of T h2
    exact Snd.plain (snd_con (v := .ref (pl.ca c)) (pe_glob g1 (R.mok.cls c) rfl g2) fun _ _ _ => rfl) (fun _ _ _ q => by cases q) (fun _ _ q => by cases q) (fun _ _ _ _ q => by cases q) (fun _ _ _ _ q => by cases q)
  | .gty t, x, h => by
    cases x <;> first | (cases h; done) | skip
    obtain ⟨h0, h'⟩ := ba h
    obtain ⟨h1, h2⟩ := ba h'
    obtain rfl := of_decide_eq_true h1
    obtain ⟨g1, g2, g3⟩ := glo_of T h2
    exact Snd.plain (snd_con (v := .ty (Ty.nm t)) (pe_bltn g1 (R.mok.freeT t) (R.mok.bb t (of_decide_eq_true h0)) rfl g3 g2) fun _ _ _ => rfl) (fun _ _ _ q => by cases q) (fun _ _ q => by cases q) (fun _ _ _ _ q => by cases q) (fun _ _ _ _ q => by cases q)
  | .tup es, x, h => by
    cases x <;> first | (cases h; done) | skip
    exact Snd.plain (snd_tup (sndEs R T hc es _ h)) (fun _ _ _ q => by cases q) (fun _ _ q => by cases q) (fun _ _ _ _ q => by cases q) (fun _ _ _ _ q => by cases q)
  | .lst es, x, h => by
    cases x <;> first | (cases h; done) | skip
    exact Snd.plain (snd_lst (sndEs R T hc es _ h)) (fun _ _ _ q => by cases q) (fun _ _ q => by cases q) (fun _ _ _ _ q => by cases q) (fun _ _ _ _ q => by cases q)
  | .bin o a b, x, h => by
    cases x <;> first | (cases h; done) | skip
    rename_i l p r q
    obtain ⟨h1, h2⟩ := ba h
    obtain ⟨h3, h4⟩ := ba h2
    have ho : Op2 X pl W (binaryOp p) (opF G C o) := op_opF R h1
    exact Snd.plain (snd_bin ho (sndE R T hc a _ h3).pe (sndE R T hc b _ h4).pe) (fun _ _ _ q => by cases q) (fun _ _ q => by cases q) (fun _ _ _ _ q => by cases q) (fun _ _ _ _ q => by cases q)
  | .neg a, x, h => by
    cases x <;> first | (cases h; done) | skip
    rename_i o y p
    cases o <;> first | (cases h; done) | skip
    have ih := (sndE R T hc a y h).pe
    have ho : Op1 X pl W (unaryOp .USub) fun x s => match x with
        | .int i => .ok (.int (-i)) s
        | _ => .bad := by
      intro pins s σ H m st d x v Q I rx sr rp post
      cases d with
      | int i =>
        obtain rfl : x = .int i := rp
        exact un_neg pins s σ H _ v Q I rx ⟨i, rfl, post _ _ _ Ext.refl sr rfl⟩
      | _ => exact post.elim
    exact Snd.plain (snd_un ho (by decide) ih) (fun _ _ _ q => by cases q) (fun _ _ q => by cases q) (fun _ _ _ _ q => by cases q) (fun _ _ _ _ q => by cases q)
  | .inv a, x, h => by
    cases x <;> first | (cases h; done) | skip
    rename_i o y p
    cases o <;> first | (cases h; done) | skip
    have ih := (sndE R T hc a y h).pe
    have ho : Op1 X pl W (unaryOp .Invert) fun x s => methF G C x .dinvert [] s := op_inv R
    exact Snd.plain (snd_un ho (by decide) ih) (fun _ _ _ q => by cases q) (fun _ _ q => by cases q) (fun _ _ _ _ q => by cases q) (fun _ _ _ _ q => by cases q)
  | .not a, x, h => by
    cases x <;> first | (cases h; done) | skip
    rename_i o y p
    cases o <;> first | (cases h; done) | skip
    exact snd_not (sndE R T hc a y h)
  | .cmp o a b, x, h => by
    cases x <;> first | (cases h; done) | skip
    rename_i l ps rs p
    match ps, rs, h with
    | [q], [r], h =>
      obtain ⟨h1, h2⟩ := ba h
      obtain ⟨h3, h4⟩ := ba h2
      obtain ⟨h5, h6⟩ := ba h4
      have ho : Op2 X pl W (compareOp q) (cmF G C o) := op_cmF R h1
      have hm : behindInMarks q r = false := by
        cases r <;> first | rfl | (cases h3; done)
      exact snd_cmpS ho (sndE R T hc a _ h5).pe (sndE R T hc b _ h6).pe hm
    | [], _, h => cases h
    | [_], [], h => cases h
    | [_], _ :: _ :: _, h => cases h
    | _ :: _ :: _, _, h => cases h
  | .cmp2 o o' a b c, x, h => by
    cases x <;> first | (cases h; done) | skip
    rename_i l ps rs p
    match ps, rs, h with
    | [q, q'], [r, r'], h =>
      obtain ⟨h1, h2⟩ := ba h
      obtain ⟨h3, h4⟩ := ba h2
      obtain ⟨h5, h6⟩ := ba h4
      obtain ⟨h7, h8⟩ := ba h6
      obtain ⟨h9, h10⟩ := ba h8
      have hm : lastMarks [q, q'] [r, r'] = false := by
        show behindInMarks q' r' = false
        cases r' <;> first | rfl | (cases h5; done)
      exact snd_chain h1 h3 (sndE R T hc a _ h7).pe (sndE R T hc b _ h9).pe (sndE R T hc c _ h10).pe hm
    | [], _, h => cases h
    | [_], _, h => cases h
    | _ :: _ :: _ :: _, _, h => cases h
    | [_, _], [], h => cases h
    | [_, _], [_], h => cases h
    | [_, _], _ :: _ :: _ :: _, h => cases h
  | .and a b, x, h => by
    cases x <;> first | (cases h; done) | skip
    rename_i o vs p
    cases o <;> first | (cases h; done) | skip
    match vs, h with
    | [], h => cases h
    | [_], h => cases h
    | y :: z :: r, h =>
      obtain ⟨h1, h2⟩ := ba h
      exact snd_and (sndE R T hc a y h1) (sndE R T hc b _ h2)
  | .or a b, x, h => by
    cases x <;> first | (cases h; done) | skip
    rename_i o vs p
    cases o <;> first | (cases h; done) | skip
    match vs, h with
    | [], h => cases h
    | [_], h => cases h
    | y :: z :: r, h =>
      obtain ⟨h1, h2⟩ := ba h
      exact snd_or (sndE R T hc a y h1) (sndE R T hc b _ h2)
  | .ife c a b, x, h => by
    cases x <;> first | (cases h; done) | skip
    rename_i t y z p
    obtain ⟨h1, h2⟩ := ba h
    obtain ⟨h3, h4⟩ := ba h2
    have pe := snd_ife (pos := p) (sndE R T hc c _ h1) (sndE R T hc a _ h3).pe (sndE R T hc b _ h4).pe
    exact ⟨pe, pt_ife (sndE R T hc c _ h1) (sndE R T hc a _ h3) (sndE R T hc b _ h4), fun _ _ _ q => by cases q⟩
  | .ix a b, x, h => by
    cases x <;> first | (cases h; done) | skip
    rename_i y z p
    obtain ⟨h1, h2⟩ := ba h
    obtain ⟨h3, h4⟩ := ba h2
    exact Snd.plain (snd_ix (sndE R T hc a _ h3).pe (sndE R T hc b _ h4).pe (plain_ix (not_slice h4) (fun _ _ _ q => by subst q; cases h1))) (fun _ _ _ q => by cases q) (fun _ _ q => by cases q) (fun _ _ _ _ q => by cases q) (fun _ _ _ _ q => by cases q)
  | .sl a lo hi, x, h => by
    cases x <;> first | (cases h; done) | skip
    rename_i y z p
    cases z <;> first | (cases h; done) | skip
    rename_i l u st p'
    cases st <;> first | (cases h; done) | skip
    obtain ⟨h1, h2⟩ := ba h
    obtain ⟨h3, h4⟩ := ba h2
    obtain ⟨h5, h6⟩ := ba h3
    obtain ⟨h7, h8⟩ := ba h4
    exact Snd.plain (snd_sl lo.isNon hi.isNon (beq_iff_eq.mp h5) (beq_iff_eq.mp h7) (sndE R T hc a _ h1).pe (sndE R T hc lo _ h6).pe (sndE R T hc hi _ h8).pe (fun e => non_ev (by rw [beq_iff_eq.mp h5, e]; rfl)) (fun e => non_ev (by rw [beq_iff_eq.mp h7, e]; rfl))) (fun _ _ _ q => by cases q) (fun _ _ q => by cases q) (fun _ _ _ _ q => by cases q) (fun _ _ _ _ q => by cases q)
  | .att a f, x, h => by
    cases x <;> first | (cases h; done) | skip
    obtain ⟨h1, h2⟩ := ba h
    obtain ⟨h3, h4⟩ := ba h2
    obtain rfl := of_decide_eq_true h1
    exact Snd.plain (snd_att R (sndE R T hc a _ h4).pe h3) (fun _ _ _ q => by cases q) (fun _ _ q => by cases q) (fun _ _ _ _ q => by cases q) (fun _ _ _ _ q => by cases q)
  | .call f es, x, h => by
    cases x <;> first | (cases h; done) | skip
    rename_i g l ks p
    cases g <;> first | (cases h; done) | skip
    rename_i n q
    cases ks with
    | cons _ _ => cases h
    | nil =>
      obtain ⟨h0, h0'⟩ := ba h
      obtain ⟨h1, h2⟩ := ba h0'
      obtain ⟨h3, h4⟩ := ba h2
      obtain rfl := of_decide_eq_true h1
      obtain ⟨g1, g2, g3⟩ := glo_of T h3
      obtain ⟨gl, so⟩ := T.gl f h0
      obtain ⟨d, hd⟩ := Option.isSome_iff_exists.mp so
      have kp := (R.ok.fn f d hd).2.1
      refine Snd.plain ?_ (fun _ _ _ q => by cases q) (fun _ _ q => by cases q) (fun _ _ _ _ q => by cases q) (fun _ _ _ _ q => by cases q)
      cases es with
      | nil =>
        cases l with
        | nil => exact snd_call0 (run_call R) g1 (R.mok.fnm f gl) g2 kp
        | cons _ _ => cases h4
      | cons e es =>
        cases l with
        | nil => cases h4
        | cons y l => exact snd_call (run_call R) g1 (R.mok.fnm f gl) g2 kp (sndEs R T hc (.cons e es) _ h4) (no_starEs _ _ h4)
  | .mk c es, x, h => by
    cases x <;> first | (cases h; done) | skip
    rename_i g l ks p
    cases g <;> first | (cases h; done) | skip
    rename_i n q
    cases ks with
    | cons _ _ => cases h
    | nil =>
      obtain ⟨h1, h2⟩ := ba h
      obtain ⟨h3, h4⟩ := ba h2
      obtain rfl := of_decide_eq_true h1
      obtain ⟨g1, g2, g3⟩ := glo_of T h3
      refine Snd.plain ?_ (fun _ _ _ q => by cases q) (fun _ _ q => by cases q) (fun _ _ _ _ q => by cases q) (fun _ _ _ _ q => by cases q)
      cases es with
      | nil =>
        cases l with
        | nil => exact snd_call0 (run_mk R) g1 (R.mok.cls c) g2 (R.mok.ckeep c)
        | cons _ _ => cases h4
      | cons e es =>
        cases l with
        | nil => cases h4
        | cons y l => exact snd_call (run_mk R) g1 (R.mok.cls c) g2 (R.mok.ckeep c) (sndEs R T hc (.cons e es) _ h4) (no_starEs _ _ h4)
  | .bi b es, x, h => by
    cases x <;> first | (cases h; done) | skip
    rename_i g l ks p
    cases g <;> first | (cases h; done) | skip
    rename_i n q
    match l, ks, h with
    | y :: l, [], h =>
      obtain ⟨h1, h2⟩ := ba h
      obtain ⟨h3, h4⟩ := ba h2
      obtain rfl := of_decide_eq_true h1
      obtain ⟨g1, g2, g3⟩ := glo_of T h3
      refine Snd.plain ?_ (fun _ _ _ q => by cases q) (fun _ _ q => by cases q) (fun _ _ _ _ q => by cases q) (fun _ _ _ _ q => by cases q)
      cases es with
      | nil => cases h4
      | cons e es => exact snd_bi (call_biG R b) g1 (R.mok.free b) (sndEs R T hc (.cons e es) _ h4) (no_starEs _ _ h4)
  | .meth a m es, x, h => by
    cases x <;> first | (cases h; done) | skip
    rename_i g l ks p
    cases g <;> first | (cases h; done) | skip
    rename_i y n q
    cases ks with
    | cons _ _ => cases h
    | nil =>
      obtain ⟨h1, h2⟩ := ba h
      obtain ⟨h3, h4⟩ := ba h2
      obtain ⟨h5, h6⟩ := ba h4
      obtain ⟨h7, h8⟩ := ba h6
      obtain ⟨h9, h10⟩ := ba h8
      obtain rfl := of_decide_eq_true h1
      refine Snd.plain ?_ (fun _ _ _ q => by cases q) (fun _ _ q => by cases q) (fun _ _ _ _ q => by cases q) (fun _ _ _ _ q => by cases q)
      cases es with
      | nil =>
        cases l with
        | nil => exact snd_meth0 R (sndE R T hc a _ h9).pe h7 h3
        | cons _ _ => cases h10
      | cons e es =>
        cases l with
        | nil => cases h10
        | cons z l => exact snd_meth R (sndE R T hc a _ h9).pe (sndEs R T hc (.cons e es) _ h10) h7 h3 h5 (no_starEs _ _ h10)
  | .cmeth c m es, x, h => by
    cases x <;> first | (cases h; done) | skip
    rename_i g l ks p
    cases g <;> first | (cases h; done) | skip
    rename_i y n q
    cases y <;> first | (cases h; done) | skip
    match l, ks, h with
    | z :: l, [], h =>
      obtain ⟨h1, h2⟩ := ba h
      obtain ⟨h3, h4⟩ := ba h2
      obtain ⟨h5, h6⟩ := ba h4
      obtain ⟨h7, h8⟩ := ba h6
      obtain ⟨h9, h10⟩ := ba h8
      obtain rfl := of_decide_eq_true h1
      obtain rfl := of_decide_eq_true h5
      obtain ⟨g1, g2, g3⟩ := glo_of T h3
      refine Snd.plain ?_ (fun _ _ _ q => by cases q) (fun _ _ q => by cases q) (fun _ _ _ _ q => by cases q) (fun _ _ _ _ q => by cases q)
      cases es with
      | nil => cases h10
      | cons e es => exact snd_cmeth R g1 g2 (sndEs R T hc (.cons e es) _ h10) h7 h9 (no_starEs _ _ h10)
  | .bm a m es, x, h => by
    cases x <;> first | (cases h; done) | skip
    rename_i g l ks p
    cases g <;> first | (cases h; done) | skip
    rename_i y n q
    cases ks with
    | cons _ _ => cases h
    | nil =>
      obtain ⟨h1, h2⟩ := ba h
      obtain ⟨h3, h4⟩ := ba h2
      obtain ⟨h5, h6⟩ := ba h4
      obtain ⟨h7, h8⟩ := ba h6
      obtain ⟨h9, h10⟩ := ba h8
      obtain rfl := of_decide_eq_true h1
      refine Snd.plain ?_ (fun _ _ _ q => by cases q) (fun _ _ q => by cases q) (fun _ _ _ _ q => by cases q) (fun _ _ _ _ q => by cases q)
      obtain ⟨T0, id, B⟩ := bm_is (X := X) (pl := pl) (W := W) m
      cases es with
      | nil =>
        cases l with
        | nil => exact snd_bm0 B (sndE R T hc a _ h9).pe h7 h3
        | cons _ _ => cases h10
      | cons e es =>
        cases l with
        | nil => cases h10
        | cons z l => exact snd_bm B (sndE R T hc a _ h9).pe (sndEs R T hc (.cons e es) _ h10) h7 h3 h5 (no_starEs _ _ h10)
  | .lc elt one is it ifs, x, h => by
    cases x <;> first | (cases h; done) | skip
    rename_i y gs scope p
    match gs, h with
    | [⟨tg, iter, fs, 0⟩], h =>
      obtain ⟨h1, h⟩ := ba h
      obtain ⟨h2, h⟩ := ba h
      obtain ⟨h3, h⟩ := ba h
      obtain ⟨h4, h⟩ := ba h
      obtain ⟨h5, h6⟩ := ba h
      rcases hc with ⟨c1, c2, c3, c4, c5⟩ | ⟨_, _, _, _, _, _, _, _, c2, _⟩
      · subst c3
        have hcB : ∀ (s : Shared) (H : Hp) (A : Addr) (cl : List (Str × Addr)) (fp : List Addr), Cur (X.blk s H scope (compEnvC scope cl A X.env) fp) pl G none none := fun s H A cl fp => .inl ⟨c1, rfl, rfl, c4, c5⟩
        have TB : ∀ (s : Shared) (H : Hp) (A : Addr) (cl : List (Str × Addr)) (fp : List Addr), At' (X.blk s H scope (compEnvC scope cl A X.env) fp) G ⟨S.N, relS S.sc scope, S.gl⟩ := fun s H A cl fp => ⟨T.N, by rw [← T.sc]; rfl, T.gl⟩
        have he : ∀ (s : Shared) (H : Hp) (A : Addr) (cl : List (Str × Addr)) (fp : List Addr), PE (X.blk s H scope (compEnvC scope cl A X.env) fp) y (TE' X pl WF fun e s => evE G C C1 none elt e s) := fun s H A cl fp => (sndE (R.blk) (TB s H A cl fp) (hcB s H A cl fp) elt y h6).pe
        have hi := sndI (tg := tg) R T (.inl ⟨c1, c2, rfl, c4, c5⟩) it iter h4
        have hs := fold_it (env := X.env) h4
        cases ifs with
        | nil =>
          cases fs with
          | cons _ _ => cases h5
          | nil => exact Snd.plain (LcP.pe c4 c5 (lcP_of T c1 c4 c5 h2 h3 hi (fc := none) (fun s H A cl fp => pts_nil) he hs)) (fun _ _ _ q => by cases q) (fun _ _ q => by cases q) (fun _ _ _ _ q => by cases q) (fun _ _ _ _ q => by cases q)
        | cons cnd r =>
          cases r with
          | cons _ _ =>
            exact Snd.plain ⟨fun _ _ _ _ _ _ ⟨_, _, _, _, _, z⟩ => z.elim⟩ (fun _ _ _ q => by cases q) (fun _ _ q => by cases q) (fun _ _ _ _ q => by cases q) (fun _ _ _ _ q => by cases q)
          | nil =>
            match fs, h5 with
            | [], h5 => cases h5
            | _ :: _ :: _, h5 => exact absurd (ba h5).2 (by intro q; cases q)
            | [c], h5 =>
              have hc' := (ba h5).1
              exact Snd.plain (LcP.pe c4 c5 (lcP_of T c1 c4 c5 h2 h3 hi (fc := some fun e s => evE G C C1 none cnd e s) (fun s H A cl fp => pts_one (sndE (R.blk) (TB s H A cl fp) (hcB s H A cl fp) cnd c hc').pt) he hs)) (fun _ _ _ q => by cases q) (fun _ _ q => by cases q) (fun _ _ _ _ q => by cases q) (fun _ _ _ _ q => by cases q)
      · rw [c2] at h1
        cases h1
  | .dead, x, h => ⟨⟨fun _ _ _ _ _ _ ⟨_, _, _, _, _, z⟩ => z.elim⟩, ⟨fun _ _ _ _ _ _ ⟨_, _, _, _, _, z⟩ => z.elim⟩, fun _ _ _ _ => ⟨fun _ _ _ _ _ _ _ ⟨_, _, _, _, _, z⟩ => z.elim⟩⟩
  | .fstr es, x, h => by
    cases x <;> first | (cases h; done) | skip
    rename_i l p
    refine Snd.plain ?_ (fun _ _ _ q => by cases q) (fun _ _ q => by cases q) (fun _ _ _ _ q => by cases q) (fun _ _ _ _ q => by cases q)
    match l, h with
    | [y], h =>
      have h' : chkFs S xv es [y] = true := h
      cases es with
      | nil => cases h'
      | cons e es =>
        obtain ⟨q1, q2⟩ := snd_f1 (fun y hy => (sndE R T hc e y hy).pe) h'
        cases es with
        | nil => exact snd_js1 q1
        | cons a _ => cases a <;> cases q2
    | y :: y' :: l, h =>
      obtain ⟨ts, pj, q⟩ := sndFs R T hc es (y :: y' :: l) h
      exact pe_imp (pe_joined pj) fun σ H Q h => q σ H Q [] h
  | .mkl i es, x, h => by
    cases x <;> first | (cases h; done) | skip
    rename_i g l ks p
    cases g <;> first | (cases h; done) | skip
    rename_i n q
    match l, ks, h with
    | y :: l, [], h =>
      obtain ⟨h1, h2⟩ := ba h
      obtain ⟨h3, h4⟩ := ba h2
      obtain ⟨v1, v2, v4, v5⟩ := var_of T h1
      refine Snd.plain ?_ (fun _ _ _ q => by cases q) (fun _ _ q => by cases q) (fun _ _ _ _ q => by cases q) (fun _ _ _ _ q => by cases q)
      cases es with
      | nil => cases h4
      | cons e es => exact snd_mkl R v1 v2 v4 v5 (sndEs R T hc (.cons e es) _ h4) (no_starEs _ _ h4)
  | .xis t, x, h => by
    cases x <;> first | (cases h; done) | skip
    rename_i g l ks p
    cases g <;> first | (cases h; done) | skip
    rename_i n q
    match l, ks, h with
    | [.Name y q', r], [], h =>
      obtain ⟨h1, h2⟩ := ba h
      obtain ⟨h3, h4⟩ := ba h2
      obtain ⟨h5, h6⟩ := ba h4
      obtain rfl := of_decide_eq_true h1
      obtain ⟨g1, g2, g3⟩ := glo_of T h3
      cases hx : xv with
      | none =>
        rw [hx] at h6
        cases h6
      | some i =>
        rw [hx] at h6
        exact Snd.plain (snd_xis R T hc hx h6 g1 (sndE R T hc t _ h5).pe (no_starE _ _ h5)) (fun _ _ _ q => by cases q) (fun _ _ q => by cases q) (fun _ _ _ _ q => by cases q) (fun _ _ _ _ q => by cases q)
  | .xatt _, x, h => by
    cases x <;> cases h
theorem sndEs {X : Cx} {W : WX} {S : Sc} {xv : Option Nat} {cx : Option Xc} (R : Run X G pl C C1 W k hot) (T : At' X G S) (hc : Cur X pl G xv cx) : ∀ (es : Exs) (l : List Expr), chkEs S xv es l = true → PA X l (TA' X pl W (evEs G C C1 cx es))
  | .nil, l, h => by
    cases l with
    | nil => exact snd_nil
    | cons _ _ => cases h
  | .cons e es, l, h => by
    cases l with
    | nil => cases h
    | cons x l =>
      obtain ⟨h1, h2⟩ := ba h
      exact snd_cons (sndE R T hc e x h1).pe (sndEs R T hc es l h2) (no_starE e x h1)
theorem sndFs {X : Cx} {W : WX} {S : Sc} {xv : Option Nat} {cx : Option Xc} (R : Run X G pl C C1 W k hot) (T : At' X G S) (hc : Cur X pl G xv cx) : ∀ (es : Exs) (l : List Expr), chkFs S xv es l = true → JsOk X pl W l (evFs G C C1 cx es)
  | .nil, l, h => by
    cases l with
    | nil => exact js_nil
    | cons _ _ => cases h
  | .cons e es, l, h => by
    cases l with
    | nil => cases e <;> cases h
    | cons x l =>
      obtain ⟨q1, q2⟩ := snd_f1 (fun y hy => (sndE R T hc e y hy).pe) h
      exact js_cons q1 (sndFs R T hc es l q2)
theorem sndI {X : Cx} {W : WX} {S : Sc} {xv : Option Nat} {cx : Option Xc} {tg : Expr} (R : Run X G pl C C1 W k hot) (T : At' X G S) (hc : Cur X pl G xv cx) : ∀ (it : It) (x : Expr), chkI S xv it x = true → PI X tg x (TIt X pl W (evI G C C1 cx it))
  | .val e, x, h => by
    obtain ⟨h1, h2⟩ := ba h
    exact pi_itval (sndE R T hc e x h2).pe
  | .rng e, x, h => by
    cases x <;> first | (cases h; done) | skip
    rename_i g as ks p
    cases g <;> first | (cases h; done) | skip
    match as, ks, h with
    | [y], [], h =>
      obtain ⟨h1, h2⟩ := ba h
      obtain ⟨h3, h4⟩ := ba h2
      obtain rfl := of_decide_eq_true h1
      obtain ⟨g1, _, _⟩ := glo_of T h3
      exact pi_itrng g1 R.mok.rng (sndE R T hc e _ h4).pe (no_starE _ _ h4)
  | .rng2 e e2, x, h => by
    cases x <;> first | (cases h; done) | skip
    rename_i g as ks p
    cases g <;> first | (cases h; done) | skip
    match as, ks, h with
    | [y, y2], [], h =>
      obtain ⟨h1, h2⟩ := ba h
      obtain ⟨h3, h4⟩ := ba h2
      obtain ⟨h5, h6⟩ := ba h4
      obtain rfl := of_decide_eq_true h1
      obtain ⟨g1, _, _⟩ := glo_of T h3
      exact pi_itrng2 g1 R.mok.rng (sndE R T hc e _ h5).pe (sndE R T hc e2 _ h6).pe (no_starE _ _ h5) (no_starE _ _ h6)
end
/-- a comprehension, by its parts -/
theorem sndLc {X : Cx} {W : WX} {S : Sc} (R : Run X G pl C C1 W k hot) (T : At' X G S) (hc : Cur X pl G none none) {e : Ex} {y : Expr} {gs : List Comprehension} {scope : Scope} {p : Pos} (h : chkE S none e (.ListComp y gs scope p) = true) :
    (∀ en s, evE G C C1 none e en s = .bad) ∨ ∃ tg iter fs, gs = [⟨tg, iter, fs, 0⟩] ∧ LcP X pl W y tg iter fs scope (evE G C C1 none e) := by
  cases e <;> first | (cases h; done) | (exact .inl fun _ _ => rfl) | skip
  rename_i elt one is it ifs
  match gs, h with
  | [⟨tg, iter, fs, 0⟩], h =>
    obtain ⟨h1, h⟩ := ba h
    obtain ⟨h2, h⟩ := ba h
    obtain ⟨h3, h⟩ := ba h
    obtain ⟨h4, h⟩ := ba h
    obtain ⟨h5, h6⟩ := ba h
    rcases hc with ⟨c1, c2, c3, c4, c5⟩ | ⟨_, _, _, _, _, _, _, _, c2, _⟩
    · have hcB : ∀ (s : Shared) (H : Hp) (A : Addr) (cl : List (Str × Addr)) (fp : List Addr), Cur (X.blk s H scope (compEnvC scope cl A X.env) fp) pl G none none := fun s H A cl fp => .inl ⟨c1, rfl, rfl, c4, c5⟩
      have TB : ∀ (s : Shared) (H : Hp) (A : Addr) (cl : List (Str × Addr)) (fp : List Addr), At' (X.blk s H scope (compEnvC scope cl A X.env) fp) G ⟨S.N, relS S.sc scope, S.gl⟩ := fun s H A cl fp => ⟨T.N, by rw [← T.sc]; rfl, T.gl⟩
      have he : ∀ (s : Shared) (H : Hp) (A : Addr) (cl : List (Str × Addr)) (fp : List Addr), PE (X.blk s H scope (compEnvC scope cl A X.env) fp) y (TE' X pl WF fun e s => evE G C C1 none elt e s) := fun s H A cl fp => (sndE (R.blk) (TB s H A cl fp) (hcB s H A cl fp) elt y h6).pe
      have hi := sndI (tg := tg) R T (.inl ⟨c1, c2, rfl, c4, c5⟩) it iter h4
      have hs := fold_it (env := X.env) h4
      cases ifs with
      | nil =>
        cases fs with
        | cons _ _ => cases h5
        | nil => exact .inr ⟨tg, iter, [], rfl, lcP_of T c1 c4 c5 h2 h3 hi (fc := none) (fun s H A cl fp => pts_nil) he hs⟩
      | cons cnd r =>
        cases r with
        | cons _ _ => exact .inl fun _ _ => rfl
        | nil =>
          match fs, h5 with
          | [], h5 => cases h5
          | _ :: _ :: _, h5 => exact absurd (ba h5).2 (by intro q; cases q)
          | [c], h5 => exact .inr ⟨tg, iter, [c], rfl, lcP_of T c1 c4 c5 h2 h3 hi (fc := some fun e s => evE G C C1 none cnd e s) (fun s H A cl fp => pts_one (sndE (R.blk) (TB s H A cl fp) (hcB s H A cl fp) cnd c (ba h5).1).pt) he hs⟩
    · cases c2
end
end Lt
/-! ### statements: readings -/
namespace Lt
open PySem PySem.Spec PyProof.Rows L2
theorem R.ofR_bind {e : Lt.Env} {r : Lt.R D} {f : D → Lt.St → Lt.R D} {g : D → Lt.St → RS} : RS.ofR e (r.bind f) g = RS.ofR e r fun d s => RS.ofR e (f d s) g := by
  cases r <;> rfl
section
variable (X : Cx) (pl : Pl) (W : WX)
def PostS (m : Nat → Addr) (s : Lt.St) (H : Hp) (r : RS) (D' : Ends) : Prop := match r with
  | .nx e s' => ∀ m' σ' H', Ext m s H m' s' H' → SR X.K pl.ca m' s' H' → ERx X.K pl.ca pl.xc m' s'.length H' e σ' → D'.nx σ' H'
  | .rt d s' => ∀ m' H' v, Ext m s H m' s' H' → SR X.K pl.ca m' s' H' → Rp X.K pl.ca m' s'.length H' d v → D'.rt v H'
  | .bk e s' => ∀ m' σ' H', Ext m s H m' s' H' → SR X.K pl.ca m' s' H' → ERx X.K pl.ca pl.xc m' s'.length H' e σ' → D'.bk σ' H'
  | .ct e s' => ∀ m' σ' H', Ext m s H m' s' H' → SR X.K pl.ca m' s' H' → ERx X.K pl.ca pl.xc m' s'.length H' e σ' → D'.ct σ' H'
  | .err x e s' => ∀ m' σ' H' dd, Ext m s H m' s' H' → SR X.K pl.ca m' s' H' → ERx X.K pl.ca pl.xc m' s'.length H' e σ' → XR X.K pl.ca m' s'.length H' x dd → W (.ref (pl.ca x.cls)) dd σ' H'
  | .bad => False
def TS' (f : Lt.Env → Lt.St → RS) : TS := fun D' σ H => ∃ m s e, SR X.K pl.ca m s H ∧ ERx X.K pl.ca pl.xc m s.length H e σ ∧ PostS X pl W m s H (f e s) D'
end
section
variable {X : Cx} {pl : Pl} {W : WX} {m m1 : Nat → Addr} {s s1 : Lt.St} {H H1 : Hp}
theorem PostS.later (x : Ext m s H m1 s1 H1) (r1 : SR X.K pl.ca m1 s1 H1) {r : RS} {D' : Ends} (h : PostS X pl W m s H r D') : PostS X pl W m1 s1 H1 r D' := by
  cases r with
  | nx e s' => exact fun m' σ' H' y sr er => h m' σ' H' (x.trans y r1) sr er
  | rt d s' => exact fun m' H' v y sr rp => h m' H' v (x.trans y r1) sr rp
  | bk e s' => exact fun m' σ' H' y sr er => h m' σ' H' (x.trans y r1) sr er
  | ct e s' => exact fun m' σ' H' y sr er => h m' σ' H' (x.trans y r1) sr er
  | err c e s' => exact fun m' σ' H' dd y sr er xr => h m' σ' H' dd (x.trans y r1) sr er xr
  | bad => exact h
/-- other ends for what goes on, the loop's ends -/
theorem PostS.imp {W' : WX} {r : RS} {D' D2 : Ends} (h : PostS X pl W m s H r D') (h1 : ∀ σ H, D'.nx σ H → D2.nx σ H) (h2 : ∀ v H, D'.rt v H → D2.rt v H) (h3 : ∀ σ H, D'.bk σ H → D2.bk σ H) (h4 : ∀ σ H, D'.ct σ H → D2.ct σ H) (h5 : ∀ c d σ H, W c d σ H → W' c d σ H) : PostS X pl W' m s H r D2 := by
  cases r with
  | nx e s' => exact fun m' σ' H' y sr er => h1 _ _ (h m' σ' H' y sr er)
  | rt d s' => exact fun m' H' v y sr rp => h2 _ _ (h m' H' v y sr rp)
  | bk e s' => exact fun m' σ' H' y sr er => h3 _ _ (h m' σ' H' y sr er)
  | ct e s' => exact fun m' σ' H' y sr er => h4 _ _ (h m' σ' H' y sr er)
  | err c e s' => exact fun m' σ' H' dd y sr er xr => h5 _ _ _ _ (h m' σ' H' dd y sr er xr)
  | bad => exact h
theorem post_ofR {r : Lt.R D} {f : D → Lt.St → RS} {e : Lt.Env} {σ : L2.St} {D' : Ends} (sr : SR X.K pl.ca m s H) (er : ERx X.K pl.ca pl.xc m s.length H e σ) (h : PostS X pl W m s H (RS.ofR e r f) D') :
    PoE X pl m s H r (fun v H1 => ∃ m1 d s1, Ext m s H m1 s1 H1 ∧ SR X.K pl.ca m1 s1 H1 ∧ Rp X.K pl.ca m1 s1.length H1 d v ∧ ERx X.K pl.ca pl.xc m1 s1.length H1 e σ ∧ PostS X pl W m1 s1 H1 (f d s1) D') (fun c d H' => W c d σ H') := by
  cases r with
  | ok d s1 => exact fun m1 H1 v x sr1 rp => ⟨m1, d, s1, x, sr1, rp, x.er sr er, PostS.later x sr1 h⟩
  | err c s1 => exact fun m1 H1 dd x sr1 xr => h m1 σ H1 dd x sr1 (x.er sr er) xr
  | bad => exact h.elim
theorem post_ofB {r : Lt.R Bool} {f : Bool → Lt.St → RS} {e : Lt.Env} {σ : L2.St} {D' : Ends} (sr : SR X.K pl.ca m s H) (er : ERx X.K pl.ca pl.xc m s.length H e σ) (h : PostS X pl W m s H (RS.ofB e r f) D') :
    PostE X.K pl.ca (fun _ _ _ b c => b = c) m s H r (fun b H1 => ∃ m1 s1, Ext m s H m1 s1 H1 ∧ SR X.K pl.ca m1 s1 H1 ∧ ERx X.K pl.ca pl.xc m1 s1.length H1 e σ ∧ PostS X pl W m1 s1 H1 (f b s1) D') (fun c d H' => W c d σ H') := by
  cases r with
  | ok d s1 =>
    intro m1 H1 v x sr1 rp
    subst rp
    exact ⟨m1, s1, x, sr1, x.er sr er, PostS.later x sr1 h⟩
  | err c s1 => exact fun m1 H1 dd x sr1 xr => h m1 σ H1 dd x sr1 (x.er sr er) xr
  | bad => exact h.elim
/-- PS by weaker readings -/
theorem ps_imp {st : Stmt} {t t' : TS} (h : PS X st t) (q : ∀ D' σ H, t' D' σ H → t D' σ H) : PS X st t' := ⟨fun pins s σ H D' I z => h.run pins s σ H D' I (q D' σ H z)⟩
theorem pss_imp {st : List Stmt} {t t' : TS} (h : PSs X st t) (q : ∀ D' σ H, t' D' σ H → t D' σ H) : PSs X st t' := ⟨fun pins s σ H D' I z => h.run pins s σ H D' I (q D' σ H z)⟩
/-! targets -/
def GS (X : Cx) (pl : Pl) (W : WX) (f : D → Lt.Env → Lt.St → RS) : TG := fun v σ H Q => ∃ m s e d, SR X.K pl.ca m s H ∧ ERx X.K pl.ca pl.xc m s.length H e σ ∧ Rp X.K pl.ca m s.length H d v ∧ PostS X pl W m s H (f d e s) { nx := Q, rt := fun _ _ => False }
theorem ERx.set {xc : Xs} {K : PySem.W.Frag} {ca : Cl → Addr} {n : Nat} {e : Lt.Env} {σ : L2.St} {i : Nat} {d : D} {v : V} (rp : Rp K ca m n H d v) (hi : ∀ j a x dd, xc = some (j, a, x, dd) → j ≠ i) (h : ERx K ca xc m n H e σ) : ERx K ca xc m n H (e.set i (some d)) (σ.set i (some v)) := by
  refine ⟨ER.set rp i h.1, ?_⟩
  have h2 := h.2
  cases xc with
  | none => trivial
  | some q =>
    obtain ⟨j, a, x, dd⟩ := q
    have ne := hi j a x dd rfl
    exact ⟨by rw [List.getElem?_set_ne (Ne.symm ne)]; exact h2.1, by rw [List.getElem?_set_ne (Ne.symm ne)]; exact h2.2.1, h2.2.2⟩
end
end Lt
/-! ### statements -/
namespace Lt
open PySem PySem.Spec PyProof.Rows L2
section
variable {X : Cx} {pl : Pl} {W : WX} {G : Ctx} {C C1 : Calls} {k : Nat} {hot : Bool} {S : Sc} {xv : Option Nat} {cx : Option Xc} {fa fb : Lt.Env → Lt.St → Lt.R D} {ga gb : Lt.Env → Lt.St → RS} {l r : Expr} {pos : Pos}
def NotComp (e : Expr) : Prop := ∀ t env n, swapsWith e t n env = pure false
theorem not_comp {e : Expr} (h1 : ∀ a b c p, e ≠ .ListComp a b c p) (h2 : ∀ a b c p, e ≠ .SetComp a b c p) (h3 : ∀ a b c d p, e ≠ .DictComp a b c d p) : NotComp e := by
  intro t env n
  cases e <;> first | rfl | exact absurd rfl (h1 _ _ _ _) | exact absurd rfl (h2 _ _ _ _) | exact absurd rfl (h3 _ _ _ _ _)
theorem ts_of {f : D → Lt.Env → Lt.St → RS} {D' : Ends} {σ : L2.St} {H : Hp} (h : TS' X pl W (fun e s => RS.ofR e (fa e s) fun d s => f d e s) D' σ H) :
    TE' X pl W fa σ H fun v H1 => ∃ m1 d s1 e, SR X.K pl.ca m1 s1 H1 ∧ Rp X.K pl.ca m1 s1.length H1 d v ∧ ERx X.K pl.ca pl.xc m1 s1.length H1 e σ ∧ PostS X pl W m1 s1 H1 (f d e s1) D' := by
  obtain ⟨m, s, e, sr, er, post⟩ := h
  exact ⟨m, s, e, sr, er, (post_ofR sr er post).mono (fun v H1 ⟨m1, d, s1, x, sr1, rp, er1, p⟩ => ⟨m1, d, s1, e, sr1, rp, er1, p⟩) fun _ _ _ h => h⟩
theorem tb_of {f : Bool → Lt.Env → Lt.St → RS} {fB : Lt.Env → Lt.St → Lt.R Bool} {D' : Ends} {σ : L2.St} {H : Hp} (h : TS' X pl W (fun e s => RS.ofB e (fB e s) fun d s => f d e s) D' σ H) :
    tB X.K pl.ca pl.xc W fB σ H fun b H1 => ∃ m1 s1 e, SR X.K pl.ca m1 s1 H1 ∧ ERx X.K pl.ca pl.xc m1 s1.length H1 e σ ∧ PostS X pl W m1 s1 H1 (f b e s1) D' := by
  obtain ⟨m, s, e, sr, er, post⟩ := h
  exact ⟨m, s, e, sr, er, (post_ofB sr er post).mono (fun v H1 ⟨m1, s1, x, sr1, er1, p⟩ => ⟨m1, s1, e, sr1, er1, p⟩) fun _ _ _ h => h⟩
theorem snd_expr (ha : PE X l (TE' X pl W fa)) (hn : NotComp l) : PS X (.Expr l pos) (TS' X pl W fun e s => RS.ofR e (fa e s) fun _ s => .nx e s) :=
  ps_imp (ps_expr ha (hn _ _ _)) fun D' σ H h => by
    obtain ⟨m, s, e, sr, er, post⟩ := ts_of (f := fun _ e s => .nx e s) h
    exact ⟨m, s, e, sr, er, post.mono (fun v H1 ⟨m1, d, s1, e1, sr1, rp, er1, p⟩ => p _ _ _ Ext.refl sr1 er1) fun _ _ _ h => h⟩
theorem snd_ret (ha : PE X l (TE' X pl W fa)) : PS X (.Return (some l) pos) (TS' X pl W fun e s => RS.ofR e (fa e s) fun d s => .rt d s) :=
  ps_imp (ps_ret ha) fun D' σ H h => by
    obtain ⟨m, s, e, sr, er, post⟩ := ts_of (f := fun d _ s => .rt d s) h
    exact ⟨m, s, e, sr, er, post.mono (fun v H1 ⟨m1, d, s1, e1, sr1, rp, er1, p⟩ => p _ _ _ Ext.refl sr1 rp) fun _ _ _ h => h⟩
theorem snd_retN : PS X (.Return none pos) (TS' X pl W fun _ s => .rt .non s) := ps_imp ps_retN fun D' σ H ⟨m, s, e, sr, er, post⟩ => post _ _ _ Ext.refl sr rfl
theorem snd_pass : PS X (.Pass pos) (TS' X pl W fun e s => .nx e s) := ps_imp ps_pass fun D' σ H ⟨m, s, e, sr, er, post⟩ => post _ _ _ Ext.refl sr er
theorem snd_brk : PS X (.Break pos) (TS' X pl W fun e s => .bk e s) := ps_imp ps_break fun D' σ H ⟨m, s, e, sr, er, post⟩ => post _ _ _ Ext.refl sr er
theorem snd_cnt : PS X (.Continue pos) (TS' X pl W fun e s => .ct e s) := ps_imp ps_continue fun D' σ H ⟨m, s, e, sr, er, post⟩ => post _ _ _ Ext.refl sr er
theorem snd_ite {c : Expr} {a b : List Stmt} (hc : PT X c (TT' X pl W fa)) (ha : PSs X a (TS' X pl W ga)) (hb : PSs X b (TS' X pl W gb)) :
    PS X (.If c a b pos) (TS' X pl W fun e s => RS.ofB e ((fa e s).bind truth) fun t s => if t = true then ga e s else gb e s) :=
  ps_imp (ps_if hc ha hb) fun D' σ H h => by
    obtain ⟨m, s, e, sr, er, post⟩ := tb_of (f := fun t e s => if t = true then ga e s else gb e s) h
    refine ⟨m, s, e, sr, er, post.mono (fun t H1 ⟨m1, s1, e1, sr1, er1, p⟩ => ?_) fun _ _ _ h => h⟩
    cases t with
    | true => exact ⟨m1, s1, e1, sr1, er1, p⟩
    | false => exact ⟨m1, s1, e1, sr1, er1, p⟩
theorem snds_nil : PSs X [] (TS' X pl W fun e s => .nx e s) := pss_imp pss_nil fun D' σ H ⟨m, s, e, sr, er, post⟩ => post _ _ _ Ext.refl sr er
def seqF (ga gb : Lt.Env → Lt.St → RS) : Lt.Env → Lt.St → RS := fun e s => match ga e s with
  | .nx e s => gb e s
  | r => r
theorem post_seq {m : Nat → Addr} {s : Lt.St} {H : Hp} {r : RS} {D' : Ends} (h : PostS X pl W m s H (match r with | .nx e s => gb e s | r => r) D') : PostS X pl W m s H r { D' with nx := TS' X pl W gb D' } := by
  cases r with
  | nx e s' => exact fun m' σ' H' x sr er => ⟨m', s', e, sr, er, PostS.later x sr h⟩
  | rt d s' => exact h
  | bk e s' => exact h
  | ct e s' => exact h
  | err c e s' => exact h
  | bad => exact h
theorem snds_cons {a : Stmt} {as : List Stmt} (ha : PS X a (TS' X pl W ga)) (hb : PSs X as (TS' X pl W gb)) : PSs X (a :: as) (TS' X pl W (seqF ga gb)) :=
  pss_imp (pss_cons ha hb) fun D' σ H ⟨m, s, e, sr, er, post⟩ => ⟨m, s, e, sr, er, post_seq post⟩
/-! assignments -/
theorem snd_asg {t : Expr} {f : D → Lt.Env → Lt.St → RS} (ha : PE X l (TE' X pl W fa)) (ht : PG X t (GS X pl W f)) (hn : ∀ n, swapsWith l (some t) n X.env = pure false) (hw : swappedStores [t] l X.env = pure none) (h1 : (assignEach [t] X.env).map (·.2) = [assign t X.env])
    (hf : ∀ d e s, (∃ e' s', f d e s = .nx e' s') ∨ (∃ c e' s', f d e s = .err c e' s') ∨ f d e s = .bad) :
    PS X (.Assign [t] l pos) (TS' X pl W fun e s => RS.ofR e (fa e s) fun d s => f d e s) :=
  ps_imp (ps_asg ha ht (hn _) hw h1) fun D' σ H h => by
    obtain ⟨m, s, e, sr, er, post⟩ := ts_of (f := f) h
    refine ⟨m, s, e, sr, er, post.mono (fun v H1 ⟨m1, d, s1, e1, sr1, rp, er1, p⟩ => ⟨m1, s1, e1, d, sr1, er1, rp, ?_⟩) fun _ _ _ h => h⟩
    rcases hf d e1 s1 with ⟨e', s', q⟩ | ⟨c, e', s', q⟩ | q <;> rw [q] at p ⊢ <;> exact p
theorem pg_nm {i : Nat} {x : Str} {p : Pos} (hN : X.N.Nodup) (hi : X.N[i]? = some x) (hx : Loc X.env.scope x) (hf : X.fn x = true) (hxv : ∀ j a y dd, pl.xc = some (j, a, y, dd) → j ≠ i) : PG X (.Name x p) (GS X pl W fun d e s => .nx (e.set i (some d)) s) :=
  ⟨fun pins s σ H v u Q I rv ⟨m, st, e, d, sr, er, rp, post⟩ => (pg_name (i := i) hN hi hx (.inl hf)).run pins s σ H v u Q I rv (post _ _ _ Ext.refl sr (ERx.set rp hxv er))⟩
theorem pg_tp {is : List Nat} {ts : List Expr} {kk : Nat} {p : Pos} (hc : X.calm = true) (hN : X.N.Nodup) (hx : pl.xc = none) (hn : ∀ t ∈ ts, isName t = true) (h : Tw (NmOk X) is ts) :
    PG X (.Tuple ts kk p) (GS X pl W fun d e s => match d with
      | .tup ds => if ds.length = is.length then .nx (setAll is ds e) s else .bad
      | _ => .bad) := by
  have hl : ts.length = is.length := h.len.symm
  have e1 : (assignEach ts X.env).length = is.length := by rw [each_names hn, List.length_map, hl]
  have e2 : (assignEach ts X.env).findIdx? (·.1) = none := by
    rw [each_names hn, List.findIdx?_map, List.findIdx?_eq_none_iff]
    intro x _
    rfl
  refine ⟨fun pins s σ H v u Q I rv ⟨m, st, e, d, sr, er, rp, post⟩ => ?_⟩
  dsimp only at post
  cases d with
  | tup ds =>
    dsimp only at post
    by_cases hd : ds.length = is.length
    · rw [if_pos hd] at post
      obtain ⟨a, vs, rfl, h1, h2⟩ := rp
      have e0 := er_all is ds vs e σ h2 er.1
      refine (pg_tup (n := is.length) hc (pgs_names hN hn h) e1 e2).run pins s σ H _ u Q I rv ⟨a, vs, rfl, h1.sq, by rw [rpl_len h2, hd], gNames_ok is vs σ H Q (by rw [rpl_len h2, hd]) (post _ _ _ Ext.refl sr ⟨e0, by rw [hx]; trivial⟩)⟩
    · rw [if_neg hd] at post
      exact post.elim
  | _ => exact post.elim
end
end Lt
/-! ### statements: fields, loops, raise -/
namespace Lt
open PySem PySem.Spec PyProof.Rows L2
section
variable {X : Cx} {pl : Pl} {W : WX} {G : Ctx} {C C1 : Calls} {k : Nat} {hot : Bool} {S : Sc} {xv : Option Nat} {cx : Option Xc} {fa fb : Lt.Env → Lt.St → Lt.R D} {ga gb : Lt.Env → Lt.St → RS} {l r : Expr} {pos : Pos}
structure Ss (X : Cx) (hot : Bool) : Prop where
  nd : X.N.Nodup
  fn : ∀ x, X.fn x = true
  pass : hot = false → PassesOwn (model X.prog X.w) X.A X.env X.xe
  stk : X.stack = X.env :: X.outer
  fr : X.env.frame = some X.env.locals
theorem set_ins {m : Nat → Addr} {s : Lt.St} {H : Hp} {i : Nat} {c : Cl} {fs : List (At × D)} {dx : Addr} {vfs : List (Str × V)} {f : At} {d : D} {v : V} (inj : ∀ f g, At.nm f = At.nm g → f = g) (sr : SR X.K pl.ca m s H) (hi : i < s.length) (ok : InsOk X.K (pl.ca c))
    (rf : RpF X.K pl.ca m s.length H fs vfs) (rv : Rp X.K pl.ca m s.length H d v) : SR X.K pl.ca m (s.set i (.ins c (Lt.putF f d fs))) (upd H (m i) (.ins (pl.ca c) dx (L2.putF (At.nm f) v vfs))) := by
  have x : Ext m s H m (s.set i (.ins c (Lt.putF f d fs))) (upd H (m i) (.ins (pl.ca c) dx (L2.putF (At.nm f) v vfs))) := set_ext hi
  refine set_sr sr hi ⟨ok, dx, _, upd_same, ?_⟩
  have := rpf_put inj (f := f) (d := d) (v := v) (K := X.K) (ca := pl.ca) (m := m) (n := s.length) (H := upd H (m i) (.ins (pl.ca c) dx (L2.putF (At.nm f) v vfs))) (by have q := x.rp sr rv; rwa [List.length_set] at q) (fs := fs) (vs := vfs) (RpF.go (fun d v h => by have q := x.rp sr h; rwa [List.length_set] at q) _ _ rf)
  exact this
theorem snd_asgA (R : Run X G pl C C1 W k hot) {f : At} {o : Expr} {p' : Pos} (ha : PE X l (TE' X pl W fa)) (ho : PE X o (TE' X pl W fb)) (hn : ∀ n, swapsWith l (some (.Attribute o (At.nm f) p')) n X.env = pure false) :
    PS X (.Assign [.Attribute o (At.nm f) p'] l pos) (TS' X pl W fun e s => RS.ofR e (fa e s) fun d s => RS.ofR e (fb e s) fun x s => RS.ofR e (setF G x f d s) fun _ s => .nx e s) :=
  ps_imp (ps_fld ho ha (hn _)) fun D' σ H h => by
    obtain ⟨m, s, e, sr, er, post⟩ := ts_of (f := fun d e s => RS.ofR e (fb e s) fun x s => RS.ofR e (setF G x f d s) fun _ s => .nx e s) h
    refine ⟨m, s, e, sr, er, post.mono (fun v H1 ⟨m1, d, s1, e1, sr1, rp, er1, p⟩ => ?_) fun _ _ _ h => h⟩
    refine ⟨m1, s1, e1, sr1, er1, (post_ofR sr1 er1 p).mono (fun x H2 ⟨m2, d2, s2, x2, sr2, rp2, er2, p2⟩ => ?_) fun _ _ _ h => h⟩
    have rv := x2.rp sr1 rp
    unfold setF at p2
    cases d2 <;> first | (exact False.elim p2) | skip
    rename_i i
    obtain ⟨hi, rfl⟩ := rp2
    dsimp only at p2
    have hs : s2[i]? = some s2[i] := List.getElem?_eq_getElem hi
    rw [hs] at p2
    have ro := sr2.ob i _ hs
    cases ho : s2[i] with
    | lst xs =>
      rw [ho] at p2
      exact False.elim p2
    | ins c fs =>
      rw [ho] at p2 ro
      dsimp only at p2
      obtain ⟨ok, dx, vfs, h1, h2⟩ := ro
      by_cases hx : G.exc c = true
      · rw [if_pos hx] at p2
        exact False.elim p2
      rw [if_neg hx] at p2
      have hx' : G.exc c = false := by cases q : G.exc c; rfl; exact absurd q hx
      have mo := R.mok.mem c f hx'
      cases hm : G.mem c f with
      | some q =>
        rw [hm] at p2
        exact False.elim p2
      | none =>
        rw [hm] at p2 mo
        dsimp only at p2
        by_cases hl : fs.length < 900
        · rw [if_pos hl] at p2
          refine ⟨m2 i, pl.ca c, dx, vfs, rfl, h1, ok.1, mo, by rw [rpf_len h2]; omega, ?_⟩
          have x3 : Ext m2 s2 H2 m2 (s2.set i (.ins c (Lt.putF f d fs))) (upd H2 (m2 i) (.ins (pl.ca c) dx (L2.putF (At.nm f) v vfs))) := set_ext hi
          exact p2 _ _ _ x3 (set_ins R.mok.ainj sr2 hi ok h2 rv) (x3.er sr2 er2)
        · rw [if_neg hl] at p2
          exact False.elim p2
theorem snd_aug {i : Nat} {x : Str} {p : Pos} {o : Bop} {op : Operator} (hS : Ss X hot) (hi : X.N[i]? = some x) (hx : Loc X.env.scope x) (hxv : ∀ j a y dd, pl.xc = some (j, a, y, dd) → j ≠ i) (ho : (o = .add ∧ op = .Add) ∨ (o = .sub ∧ op = .Sub)) (ha : PE X l (TE' X pl W fa)) :
    PS X (.AugAssign (.Name x p) op l pos) (TS' X pl W fun e s => match e[i]? with
      | some (some a) => RS.ofR e (fa e s) fun d s => RS.ofR e (augF o a d s) fun r s => .nx (e.set i (some r)) s
      | _ => .bad) := by
  have main : ∀ {f : Int → Int → Int} (hf : ∀ a d s, augF o a d s = match a, d with
      | .int i, .int j => .ok (.int (f i j)) s
      | _, _ => .bad) (ip : PIp X op (ipI f)), PS X (.AugAssign (.Name x p) op l pos) (TS' X pl W fun e s => match e[i]? with
      | some (some a) => RS.ofR e (fa e s) fun d s => RS.ofR e (augF o a d s) fun r s => .nx (e.set i (some r)) s
      | _ => .bad) := fun {f} hf ip => ps_imp (ps_aug hS.nd hi hx ha ip (.inl (hS.fn x))) fun D' σ H ⟨m, s, e, sr, er, post⟩ => by
    cases he : e[i]? with
    | none =>
      simp only [he] at post
      exact False.elim post
    | some oa =>
      cases oa with
      | none =>
        simp only [he] at post
        exact False.elim post
      | some a =>
        simp only [he] at post
        obtain ⟨v, hv, rv⟩ := er.1.get he
        refine ⟨v, hv, m, s, e, sr, er, (post_ofR sr er post).mono (fun y H1 ⟨m1, d, s1, x1, sr1, rp, er1, p1⟩ => ?_) fun _ _ _ h => h⟩
        rw [hf] at p1
        have rv1 := x1.rp sr rv
        cases a <;> first | (exact False.elim p1) | skip
        cases d <;> first | (exact False.elim p1) | skip
        rename_i ia _ ib
        obtain rfl : v = .int ia := rv
        obtain rfl : y = .int ib := rp
        exact ⟨ia, ib, rfl, rfl, p1 _ _ _ Ext.refl sr1 (ERx.set (d := .int (f ia ib)) rfl hxv er1)⟩
  rcases ho with ⟨rfl, rfl⟩ | ⟨rfl, rfl⟩
  · exact main (fun a d s => by cases a <;> first | rfl | (cases d <;> rfl)) ip_add
  · exact main (fun a d s => by cases a <;> first | rfl | (cases d <;> rfl)) ip_sub
/-! while -/
theorem post_loop {m : Nat → Addr} {s : Lt.St} {H : Hp} {r : RS} {g : Lt.Env → Lt.St → RS} {D' : Ends} {N : L2.St → Hp → Prop} (h : PostS X pl W m s H (match r with | .nx e s => g e s | .ct e s => g e s | .bk e s => .nx e s | r => r) D')
    (hN : ∀ m' s' e' σ' H', Ext m s H m' s' H' → SR X.K pl.ca m' s' H' → ERx X.K pl.ca pl.xc m' s'.length H' e' σ' → PostS X pl W m' s' H' (g e' s') D' → N σ' H') : PostS X pl W m s H r { D' with nx := N, ct := N, bk := D'.nx } := by
  cases r with
  | nx e s' => exact fun m' σ' H' x sr er => hN _ _ _ _ _ x sr er (PostS.later x sr h)
  | ct e s' => exact fun m' σ' H' x sr er => hN _ _ _ _ _ x sr er (PostS.later x sr h)
  | bk e s' => exact h
  | rt d s' => exact h
  | err c e s' => exact h
  | bad => exact h
theorem snd_while {c : Expr} {b : List Stmt} {n : Nat} (hS : Ss X hot) (hh : hot = false) (hc : PT X c (TT' X pl W fa)) (hb : PSs X b (TS' X pl W gb)) :
    PS X (.While c b [] pos) (TS' X pl W fun e s => loopF (fun e s => (fa e s).bind truth) gb n e s) :=
  ps_imp (ps_while (hS.pass hh) hc hb) fun D' σ H ⟨m, s, e, sr, er, post⟩ => by
    refine ⟨fun n σ H => ∃ m s e, SR X.K pl.ca m s H ∧ ERx X.K pl.ca pl.xc m s.length H e σ ∧ PostS X pl W m s H (loopF (fun e s => (fa e s).bind truth) gb n e s) D', ⟨n, m, s, e, sr, er, post⟩, ?_⟩
    rintro n σ H ⟨m, s, e, sr, er, post⟩
    cases n with
    | zero => exact False.elim post
    | succ n =>
      refine ⟨m, s, e, sr, er, (post_ofB sr er post).mono (fun t H1 ⟨m1, s1, x1, sr1, er1, p⟩ => ?_) fun _ _ _ h => h⟩
      cases t with
      | false => exact p _ _ _ Ext.refl sr1 er1
      | true => exact ⟨_, fun σ' H' w => ⟨n, Nat.lt_succ_self _, w⟩, m1, s1, e, sr1, er1, post_loop p fun m' s' e' σ' H' x sr' er' q => ⟨m', s', e', sr', er', q⟩⟩
/-! for -/
def Never (f : D → Lt.Env → Lt.St → RS) : Prop := ∀ d e s, (∃ e' s', f d e s = .nx e' s') ∨ (∃ c e' s', f d e s = .err c e' s') ∨ f d e s = .bad
theorem post_body {m : Nat → Addr} {s : Lt.St} {H : Hp} {f : D → Lt.Env → Lt.St → RS} {d : D} {e : Lt.Env} {D' : Ends} (hf : Never f) (h : PostS X pl W m s H (match f d e s with | .nx e s => gb e s | r => r) D') :
    PostS X pl W m s H (f d e s) { nx := TS' X pl W gb D', rt := fun _ _ => False } := by
  rcases hf d e s with ⟨e', s', q⟩ | ⟨c, e', s', q⟩ | q <;> rw [q] at h ⊢
  · exact fun m' σ' H' x sr er => ⟨m', s', e', sr, er, PostS.later x sr h⟩
  · exact h
  · exact h
theorem for_walk {J : L2.It} {it : (Nat → Addr) → Lt.St → Hp → Prop} {ok : Lt.St → Bool} {ds : List D} {f : D → Lt.Env → Lt.St → RS} {D' : Ends} (w : Wk X pl J it ok ds) (hf : Never f) {m : Nat → Addr} {s : Lt.St} {e : Lt.Env} {σ : L2.St} {H : Hp} (sr : SR X.K pl.ca m s H) (er : ERx X.K pl.ca pl.xc m s.length H e σ) (hi : it m s H)
    (post : PostS X pl W m s H (forF ok (fun d e s => match f d e s with | .nx e s => gb e s | r => r) ds e s) D') :
    ∃ W' : Nat → Nat → L2.St → Hp → Prop, (∃ n, W' 0 n σ H) ∧ ∀ i n σ H, W' i n σ H →
      (J.stop i H ∧ D'.nx σ H) ∨ (J.go i H ∧ ∃ N : L2.St → Hp → Prop, (∀ σ' H', N σ' H' → ∃ m', m' < n ∧ W' (i + 1) m' σ' H') ∧ ∀ x H', J.yld i H x H' → GS X pl W f x σ H' fun σ2 H2 => TS' X pl W gb { D' with nx := N, ct := N, bk := D'.nx } σ2 H2) := by
  refine ⟨fun i n σ H => n = ds.length - i ∧ i ≤ ds.length ∧ ∃ m s e, SR X.K pl.ca m s H ∧ ERx X.K pl.ca pl.xc m s.length H e σ ∧ it m s H ∧ PostS X pl W m s H (forF ok (fun d e s => match f d e s with | .nx e s => gb e s | r => r) (ds.drop i) e s) D', ⟨ds.length, by simp, Nat.zero_le _, m, s, e, sr, er, hi, post⟩, ?_⟩
  rintro i n σ H ⟨rfl, hl, m, s, e, sr, er, hi, post⟩
  by_cases hlt : i < ds.length
  · rw [List.drop_eq_getElem_cons hlt] at post
    unfold forF at post
    by_cases ho : ok s = true
    · rw [if_pos ho] at post
      obtain ⟨g1, g2⟩ := w.go m s H i sr hi ho hlt
      refine .inr ⟨g1, fun σ' H' => i + 1 ≤ ds.length ∧ ∃ m s e, SR X.K pl.ca m s H' ∧ ERx X.K pl.ca pl.xc m s.length H' e σ' ∧ it m s H' ∧ PostS X pl W m s H' (forF ok (fun d e s => match f d e s with | .nx e s => gb e s | r => r) (ds.drop (i + 1)) e s) D', fun σ' H' q => ⟨ds.length - (i + 1), by omega, rfl, q⟩, fun x H' y => ?_⟩
      obtain ⟨rfl, d, hd, rp⟩ := g2 x H' y
      have ed : ds[i] = d := by
        rw [List.getElem?_eq_getElem hlt] at hd
        exact Option.some.inj hd
      rw [ed] at post
      refine ⟨m, s, e, d, sr, er, rp, post_body hf ?_⟩
      exact post_loop post fun m' s' e' σ' H' x sr' er' q => ⟨hlt, m', s', e', sr', er', w.keep _ _ _ _ _ _ x sr hi, q⟩
    · rw [if_neg ho] at post
      exact False.elim post
  · have e1 : i = ds.length := by omega
    subst e1
    rw [List.drop_length] at post
    unfold forF at post
    by_cases ho : ok s = true
    · rw [if_pos ho] at post
      exact .inl ⟨w.stop m s H sr hi ho, post _ _ _ Ext.refl sr er⟩
    · rw [if_neg ho] at post
      exact False.elim post
end
end Lt
/-! ### for, raise, try -/
namespace Lt
open PySem PySem.Spec PyProof.Rows L2
section
variable {X : Cx} {pl : Pl} {W : WX} {G : Ctx} {C C1 : Calls} {k : Nat} {hot : Bool} {S : Sc} {xv : Option Nat} {cx : Option Xc} {fa fb : Lt.Env → Lt.St → Lt.R D} {ga gb : Lt.Env → Lt.St → RS} {l r : Expr} {pos : Pos}
theorem snd_for {tg : Expr} {fit : Lt.Env → Lt.St → Lt.R (List D × Option Nat)} {f : D → Lt.Env → Lt.St → RS} {b : List Stmt} (hS : Ss X hot) (hh : hot = false) (hc : X.calm = true) (hf : Never f) (hi : PI X tg l (TIt X pl W fit)) (hg : PG X tg (GS X pl W f)) (hb : PSs X b (TS' X pl W gb)) (hfs : ∀ x, foldedSetIterable l X.env x = pure x) :
    PS X (.For tg l b [] pos) (TS' X pl W fun e s => RS.ofI e (fit e s) fun p s => forF (still p.1 p.2) (fun d e s => match f d e s with | .nx e s => gb e s | r => r) p.1 e s) :=
  ps_imp (ps_for (hS.pass hh) hc hi hg hb hfs) fun D' σ H ⟨m, s, e, sr, er, post⟩ => by
    refine ⟨m, s, e, sr, er, ?_⟩
    dsimp only at post
    cases q : fit e s with
    | bad => rw [q] at post; exact False.elim post
    | err x s' => rw [q] at post; exact fun m' H' dd y sr' xr => post m' σ H' dd y sr' (y.er sr er) xr
    | ok p s1 =>
      rw [q] at post
      intro m1 H1 J it x1 sr1 wk hit
      exact for_walk wk hf sr1 (x1.er sr er) hit (PostS.later x1 sr1 post)
theorem snd_asgL {i : Nat} {n : Str} {py p0 : Pos} {y tg iter : Expr} {fs : List Expr} {scope : Scope} (hS : Ss X hot) (hc : X.calm = true) (hxv : ∀ j a y dd, pl.xc = some (j, a, y, dd) → j ≠ i) (hi : X.N[i]? = some n) (hl : X.env.scope.names.lookup n = some .local) (hk : X.env.scope.kind = .function) (hp : (py.line == p0.line) = true)
    (ha : (scope.names.any fun (m, k) => m == n && (k == .local || k == .cell)) = false) (P : LcP X pl W y tg iter fs scope fa) :
    PS X (.Assign [.Name n py] (.ListComp y [⟨tg, iter, fs, 0⟩] scope p0) pos) (TS' X pl W fun e s => RS.ofR e (fa e s) fun d s => .nx (e.set i (some d)) s) := by
  obtain ⟨wi, g, tt, te, own, h1, h2, h3, h4, h5, h6, h7⟩ := P.ex
  refine ps_imp (ps_setLc hc hS.nd hi hl (sw_true hk hl hp ha) h1 h2 h3 h4 h5 h6) fun D' σ H h => h7 _ _ _ ?_
  obtain ⟨m, s, e, sr, er, post⟩ := ts_of (f := fun d e s => .nx (e.set i (some d)) s) h
  exact ⟨m, s, e, sr, er, post.mono (fun v H1 ⟨m1, d, s1, e1, sr1, rp, er1, p⟩ => p _ _ _ Ext.refl sr1 (ERx.set rp hxv er1)) fun _ _ _ h => h⟩
theorem snd_rais {c : Cl} {m : Str} {j : Nat} {p p2 p3 : Pos} (R : Run X G pl C C1 W k hot) (hh : hot = false) (hx : G.exc c = true) (hi : G.xini c = false) (hg : L2.Gl X (Cl.nm c)) (hdb : (Cl.nm c == ("__debug__" : Str)) = false) :
    PS X (.Raise (some (.Call (.Name (Cl.nm c) p) [.Constant (.str m) j p2] [] p3)) none pos) (TS' X pl W fun e s => .err ⟨c, []⟩ e s) := by
  have E := R.mok.exc c hx
  exact ps_imp (ps_raise (R.calm hh) R.tk (pmk_own PySem.F.excBase_ValueError (E.ex hi) (R.mok.cls c) (R.mok.ckeep c) (raises_own E.sub E.ty) hg hdb)) fun D' σ H ⟨m, s, e, sr, er, post⟩ => post m σ H none Ext.refl sr er rfl
end
end Lt
/-! ### try, and every statement -/
namespace Lt
open PySem PySem.Spec PyProof.Rows L2
section
variable {X : Cx} {pl : Pl} {W : WX} {G : Ctx} {C C1 : Calls} {k : Nat} {hot : Bool} {S : Sc} {xv : Option Nat} {cx : Option Xc} {fa fb : Lt.Env → Lt.St → Lt.R D} {ga gb : Lt.Env → Lt.St → RS} {l r : Expr} {pos : Pos}
theorem ER.len {K : PySem.W.Frag} {ca : Cl → Addr} {m : Nat → Addr} {n : Nat} {H : Hp} : ∀ {e : Lt.Env} {σ : L2.St}, ER K ca m n H e σ → σ.length = e.length
  | [], σ, h => by
    have h' : σ = [] := h
    rw [h']
    rfl
  | none :: e, σ, ⟨v, r, q, h⟩ => by
    rw [q, List.length_cons, List.length_cons, ER.len h]
  | some d :: e, σ, ⟨v, r, q, h1, h⟩ => by
    rw [q, List.length_cons, List.length_cons, ER.len h]
theorem Run.tr (R : Run X G pl C C1 W k hot) {pn : List (Addr × Obj)} {xe : Value → Shared → Prop} {W' : WX} (tk : Takes (X.tr pn xe) W') : Run (X.tr pn xe) G pl C C1 W' k hot where
  mok := R.mok
  calm := R.calm
  tk := tk
  ok := R.ok
  ok1 := R.ok1
  zero := R.zero
  room := R.room
  bad := R.bad
  un := R.un
theorem bad_ok {P : Program} {w : World} {K : PySem.W.Frag} {mg : Str → Option Value} {base : Heap} {xc : Xs} (h : CallsOk P w K mg base G pl C k) : CallsOk P w K mg base G { pl with xc := xc } (fun _ _ _ => .bad) k where
  fn := fun f d hf => ⟨(h.fn f d hf).1.imp fun vs H Q E ⟨m, s, ds, _, _, z⟩ => z.elim, (h.fn f d hf).2⟩
  no := fun _ _ _ _ => rfl
theorem MemOk.xc {K : PySem.W.Frag} {xc : Xs} {c : Cl} {f : At} {o : Option Mem} (h : MemOk K pl c f o) : MemOk K { pl with xc := xc } c f o := by
  cases o with
  | none => exact h
  | some q => cases q <;> exact h
theorem Mok.xc {K : PySem.W.Frag} {mg : Str → Option Value} {xc : Xs} (h : Mok K mg G pl) : Mok K mg G { pl with xc := xc } where
  con := h.con
  cls := h.cls
  inj := h.inj
  ainj := h.ainj
  fnm := h.fnm
  free := h.free
  freeT := h.freeT
  bb := h.bb
  rng := h.rng
  nms := h.nms
  sf := h.sf
  nf := fun c k hx => by
    have q := h.nf c k hx
    cases k <;> exact q
  kit := ⟨fun k d b hb => by
    have q := h.kit.one k d b hb
    cases k <;> cases d <;> exact q, h.kit.cls, h.kit.n, h.kit.tk, h.kit.tn⟩
  mem := fun c f hx => (h.mem c f hx).xc
  mker := h.mker
  ckeep := h.ckeep
  exc := h.exc
  exm := h.exm
  self := h.self
theorem Run.suite (R : Run X G pl C C1 W k hot) {a : Addr} {pn : List (Addr × Obj)} {xc : Xs} : Run (X.suite a pn) G { pl with xc := xc } (fun _ _ _ => .bad) (fun _ _ _ => .bad) (fun _ _ _ _ => False) k true where
  mok := R.mok.xc
  calm := fun h => by cases h
  tk := takes0
  ok := bad_ok R.ok
  ok1 := bad_ok R.ok1
  zero := fun _ => rfl
  room := fun h => by cases h
  bad := fun _ => ⟨rfl, rfl⟩
  un := R.un
def badC : Calls := fun _ _ _ => .bad
/-- what the handler is given -/
def hF (x : Xc) (h : Lt.Env → Lt.St → RS) (i : Nat) (e : Lt.Env) (s : Lt.St) : RS := match h (e.set i none) s with
  | .nx e2 s2 => .nx (e2.set i none) s2
  | .rt d s2 => .rt d s2
  | .bk e2 s2 => .bk (e2.set i none) s2
  | .ct e2 s2 => .ct (e2.set i none) s2
  | .err _ _ _ => .bad
  | .bad => .bad
def triF (G : Ctx) (c : Cl) (i : Nat) (b : Lt.Env → Lt.St → RS) (h : Xc → Lt.Env → Lt.St → RS) (e : Lt.Env) (s : Lt.St) : RS := match b e s with
  | .err x e' s' => if (G.exc x.cls && (G.exc c && decide (i < e'.length))) = true then (if G.sub x.cls c = true then hF x (h x) i e' s' else .err x e' s') else .bad
  | r => r
theorem snd_try {n : Str} {c : Cl} {i : Nat} {b su : List Stmt} {s0 : Stmt} {np p' : Pos} {h : Xc → Lt.Env → Lt.St → RS} (R : Run X G pl C C1 W k hot) (hS : Ss X hot) (hh : hot = false) (hxc : pl.xc = none) (hi : X.N[i]? = some n) (hln : X.env.kindOf n = some .local) (hg : L2.Gl X (Cl.nm c)) (hdb : (Cl.nm c == ("__debug__" : Str)) = false)
    (hb : ∀ (W' : WX) (pn : List (Addr × Obj)) (xe : Value → Shared → Prop), Takes (X.tr pn xe) W' → PassesOwn (model X.prog X.w) X.A X.env xe → PSs (X.tr pn xe) b (TS' X pl W' gb))
    (hsu : ∀ (a : Addr) (oe : Obj) (x : Xc) (d : Option Addr) (pn : List (Addr × Obj)), Zc (.ref (pl.ca x.cls)) d oe → (∃ vs, oe.data = .fields vs) → G.exc x.cls = true → PSs (X.suite a ((a, oe) :: pn)) (s0 :: su) (TS' X { pl with xc := some (i, a, x, d) } (fun _ _ _ _ => False) (h x))) :
    PS X (.Try b [.ExceptHandler (some (.Name (Cl.nm c) np)) (some n) (s0 :: su) p'] [] [] pos) (TS' X pl W (triF G c i gb h)) := by
  refine ps_imp (ps_try_as (i := i) (c := .ref (pl.ca c)) (Wout := W) (tb := fun W' => TS' X pl W' gb) (ts := fun a cls d D' σ H => ∃ x, cls = .ref (pl.ca x.cls) ∧ G.exc x.cls = true ∧ TS' X { pl with xc := some (i, a, x, d) } (fun _ _ _ _ => False) (h x) D' σ H) hS.stk hS.fr hS.nd hi hln ⟨hg, hdb, .inl (R.mok.cls c)⟩ R.tk hb (fun a oe cls d pn hz hf => ⟨fun pins s σ H D' I ⟨x, e, hx, t⟩ => ?_⟩)) fun D' σ H ⟨m, s, e, sr, er, post⟩ => ⟨m, s, e, sr, er, ?_⟩
  · subst e
    exact (hsu a oe x d pn hz hf hx).run pins s σ H D' I t
  · unfold triF at post
    cases q : gb e s with
    | nx e' s' => rw [q] at post; exact post
    | rt d s' => rw [q] at post; exact post
    | bk e' s' => rw [q] at post; exact post
    | ct e' s' => rw [q] at post; exact post
    | bad => rw [q] at post; exact post
    | err x e' s' =>
      rw [q] at post
      dsimp only at post
      by_cases hc : (G.exc x.cls && (G.exc c && decide (i < e'.length))) = true
      · rw [if_pos hc] at post
        obtain ⟨h1, h2⟩ := ba hc
        obtain ⟨h3, h4⟩ := ba h2
        intro m' σ' H' dd x1 sr1 er1 xr1
        refine ⟨G.sub x.cls c, R.mok.exm _ _ h1 h3, fun hy a ha => ?_, fun hn => ?_⟩
        · rw [if_pos hy] at post
          have lt : i < σ'.length := by rw [ER.len er1.1]; exact of_decide_eq_true h4
          have post1 := PostS.later x1 sr1 post
          refine ⟨x, rfl, h1, m', s', e'.set i none, sr1, ⟨ER.unset i er1.1, by rw [List.getElem?_set_self lt], by rw [List.getElem?_set_self (of_decide_eq_true h4)], xr1⟩, ?_⟩
          unfold hF at post1
          cases q2 : h x (e'.set i none) s' with
          | nx e2 s2 =>
            rw [q2] at post1
            exact fun m2 σ2 H2 x2 sr2 er2 => post1 m2 _ H2 x2 sr2 ⟨ER.unset i er2.1, by rw [hxc]; trivial⟩
          | rt d s2 => rw [q2] at post1; exact post1
          | bk e2 s2 =>
            rw [q2] at post1
            exact fun m2 σ2 H2 x2 sr2 er2 => post1 m2 _ H2 x2 sr2 ⟨ER.unset i er2.1, by rw [hxc]; trivial⟩
          | ct e2 s2 =>
            rw [q2] at post1
            exact fun m2 σ2 H2 x2 sr2 er2 => post1 m2 _ H2 x2 sr2 ⟨ER.unset i er2.1, by rw [hxc]; trivial⟩
          | err _ _ _ => rw [q2] at post1; exact False.elim post1
          | bad => rw [q2] at post1; exact False.elim post1
        · rw [if_neg (by rw [hn]; exact Bool.false_ne_true)] at post
          exact post m' σ' H' dd x1 sr1 er1 xr1
      · rw [if_neg hc] at post
        exact False.elim post
/-! ### texts of statements -/
section
variable (S : Sc)
def chkNs : List Nat → List Expr → Bool
  | [], [] => true
  | i :: is, .Name x _ :: l => S.loc i x && chkNs is l
  | _, _ => false
def chkT (xv : Option Nat) : Tg → Expr → Bool
  | .nm i, .Name x _ => S.loc i x && decide (xv ≠ some i)
  | .tup is, .Tuple l _ _ => xv.isNone && chkNs S is l
  | .att e f, .Attribute o n _ => decide (n = At.nm f) && chkE S xv e o
  | _, _ => false
def chkP (xv : Option Nat) : Tg → Expr → Bool
  | .att _ _, _ => false
  | t, x => chkT S xv t x
def noComp : Expr → Bool
  | .ListComp _ _ _ _ => false
  | .SetComp _ _ _ _ => false
  | .DictComp _ _ _ _ _ => false
  | _ => true
def notSets : Expr → Bool
  | .Set _ _ _ => false
  | _ => true
/-- no swap -/
def swB (sc : Scope) (tg x : Expr) : Bool := noComp x || (match tg with
  | .Name y _ => !(sc.names.lookup y == some .local)
  | .Starred _ _ => false
  | .List _ _ => false
  | .Subscript _ _ _ => false
  | _ => true)
theorem sw_false {sc : Scope} {tg x : Expr} {env : PySem.Env} (e : env.scope = sc) (h : swB sc tg x = true) (n : Nat) : swapsWith x (some tg) n env = pure false := by
  rcases Bool.or_eq_true_iff.mp h with h | h
  · cases x <;> first | rfl | cases h
  · cases tg with
    | Name y p0 =>
      have hk : (env.kindOf y == some .local) = false := by
        show (env.scope.names.lookup y == some .local) = false
        rw [e]
        simpa using h
      cases x <;> first | rfl | (unfold swapsWith; simp only [hk, Bool.and_false, Bool.false_and]; done) | (unfold swapsWith; simp only [hk, Bool.and_false, Bool.false_and]; rfl)
    | Starred _ _ => cases h
    | List _ _ => cases h
    | Subscript _ _ _ => cases h
    | _ => cases x <;> rfl
def tupTup : Expr → Expr → Bool
  | .Tuple _ _ _, .Tuple _ _ _ => false
  | .List _ _, _ => false
  | .Starred _ _, _ => false
  | _, _ => true
def opA : Bop → Operator → Bool
  | .add, .Add => true
  | .sub, .Sub => true
  | _, _ => false
mutual
def chkS : Option Nat → Sm → Stmt → Bool
  | xv, .expr e, .Expr x _ => noComp x && chkE S xv e x
  | xv, .asg t e, .Assign [tg] x _ => swB S.sc tg x && (tupTup tg x && (chkT S xv t tg && chkE S xv e x))
  | xv, .asgL i e, .Assign [.Name y py] (.ListComp x gs scope p) _ => xv.isNone && (S.own i y && ((S.sc.kind == .function && ((py.line == p.line) && !(scope.names.any fun (n, k) => n == y && (k == .local || k == .cell)))) && chkE S xv e (.ListComp x gs scope p)))
  | xv, .aug i o e, .AugAssign (.Name n _) op x _ => S.loc i n && (decide (xv ≠ some i) && (opA o op && chkE S xv e x))
  | xv, .ret e, .Return (some x) _ => chkE S xv e x
  | _, .retN, .Return none _ => true
  | _, .pass, .Pass _ => true
  | _, .brk, .Break _ => true
  | _, .cnt, .Continue _ => true
  | xv, .ite c a b, .If x y z _ => chkE S xv c x && (chkSs xv a y && chkSs xv b z)
  | xv, .whil c b, .While x y [] _ => chkE S xv c x && chkSs xv b y
  | xv, .fors t it b, .For tg x y [] _ => chkP S xv t tg && (chkI S xv it x && chkSs xv b y)
  | _, .rais c _, .Raise (some (.Call (.Name n _) [.Constant (.str _) _ _] [] _)) none _ => decide (n = Cl.nm c) && S.glo n
  | _, .dead, _ => true
  | xv, .tri b c i h, .Try y [.ExceptHandler (some (.Name n _)) (some nm) (s0 :: su) _] [] [] _ => xv.isNone && (decide (n = Cl.nm c) && (S.glo n && (decide (S.N[i]? = some nm) && ((S.sc.names.lookup nm == some .local) && (chkSs none b y && chkSs (some i) h (s0 :: su))))))
  | _, _, _ => false
def chkSs : Option Nat → Sms → List Stmt → Bool
  | _, .nil, [] => true
  | _, .dead, _ => true
  | xv, .cons a b, x :: l => chkS xv a x && chkSs xv b l
  | _, _, _ => false
end
end
theorem loc_of (T : At' X G S) {i : Nat} {x : Str} (h : S.loc i x = true) : X.N[i]? = some x ∧ Loc X.env.scope x := by
  obtain ⟨h1, h2⟩ := ba h
  refine ⟨by rw [T.N]; exact of_decide_eq_true h1, ?_⟩
  rw [T.sc]
  rcases Bool.or_eq_true_iff.mp h2 with q | q
  · exact .inl (beq_iff_eq.mp q)
  · exact .inr (beq_iff_eq.mp q)
theorem names_of (T : At' X G S) (hf : ∀ x, X.fn x = true) : ∀ {is : List Nat} {ts : List Expr}, chkNs S is ts = true → (∀ t ∈ ts, isName t = true) ∧ Tw (NmOk X) is ts
  | [], [], _ => ⟨fun _ h => (by cases h), .nil⟩
  | i :: is, .Name x p :: ts, h => by
    obtain ⟨h1, h2⟩ := ba h
    obtain ⟨q1, q2⟩ := names_of T hf h2
    obtain ⟨l1, l2⟩ := loc_of T h1
    refine ⟨fun t ht => ?_, .cons ⟨x, p, rfl, l1, l2, .inl (hf x)⟩ q2⟩
    rcases List.mem_cons.mp ht with e | e
    · rw [e]; rfl
    · exact q1 t e
theorem ps_bad {st : Stmt} : PS X st (TS' X pl W fun _ _ => .bad) := ⟨fun _ _ _ _ _ _ ⟨_, _, _, _, _, z⟩ => z.elim⟩
theorem cur_xv (hc : Cur X pl G xv cx) {i : Nat} (h : xv ≠ some i) : ∀ j a y dd, pl.xc = some (j, a, y, dd) → j ≠ i := by
  intro j a y dd e q
  subst q
  rcases hc with ⟨h1, _, _, _, _⟩ | ⟨i', a', x', d', _, _, _, h1, h2, _⟩
  · rw [h1] at e; cases e
  · rw [h1] at e
    cases e
    exact h h2
theorem cur_cold (hc : Cur X pl G xv cx) (h : cx = none) : pl.xc = none ∧ xv = none := by
  rcases hc with ⟨h1, h2, _, _, _⟩ | ⟨_, _, _, _, _, _, _, _, _, h3, _⟩
  · exact ⟨h1, h2⟩
  · rw [h] at h3; cases h3
theorem asg_never : ∀ t, Never (asgF G C C1 cx t) := by
  intro t d e s
  have rs : ∀ (r : Lt.R D) (f : D → Lt.St → RS), (∀ d s, (∃ e' s', f d s = .nx e' s') ∨ (∃ c e' s', f d s = .err c e' s') ∨ f d s = .bad) → (∃ e' s', RS.ofR e r f = .nx e' s') ∨ (∃ c e' s', RS.ofR e r f = .err c e' s') ∨ RS.ofR e r f = .bad := fun r f h => by
    cases r with
    | ok d s => exact h d s
    | err x s => exact .inr (.inl ⟨_, _, _, rfl⟩)
    | bad => exact .inr (.inr rfl)
  cases t with
  | nm i => exact .inl ⟨_, _, rfl⟩
  | tup is =>
    cases cx with
    | some _ => exact .inr (.inr rfl)
    | none =>
      cases d <;> first | exact .inr (.inr rfl) | skip
      rename_i ds
      by_cases h : ds.length = is.length
      · exact .inl ⟨_, _, if_pos h⟩
      · exact .inr (.inr (if_neg h))
  | att o f => exact rs _ _ fun x s => rs _ _ fun _ s => .inl ⟨_, _, rfl⟩
  | ix _ _ => exact .inr (.inr rfl)
end
end Lt
/-! ### every statement -/
namespace Lt
open PySem PySem.Spec PyProof.Rows L2
section
variable {G : Ctx} {C C1 : Calls} {k : Nat} {S : Sc}
theorem each_one {t : Expr} {env : PySem.Env} (h : tupTup t x = true) : (assignEach [t] env).map (·.2) = [assign t env] := by
  cases t <;> first | rfl | (cases x <;> cases h)
theorem swapped_none {t x : Expr} {env : PySem.Env} (h : tupTup t x = true) : swappedStores [t] x env = pure none := by
  cases t <;> first | rfl | (cases x <;> first | rfl | cases h)
theorem sndT {X : Cx} {pl : Pl} {W : WX} {cx : Option Xc} {xv : Option Nat} (R : Run X G pl (hotC cx C) (hotC cx C1) W k cx.isSome) (hS : Ss X cx.isSome) (T : At' X G S) (hc : Cur X pl G xv cx) (t : Tg) (x : Expr) (h : chkT S xv t x = true) (hna : ∀ e f, t ≠ .att e f) : PG X x (GS X pl W (asgF G C C1 cx t)) := by
  cases t with
  | nm i =>
    cases x <;> first | (cases h; done) | skip
    obtain ⟨h1, h2⟩ := ba h
    obtain ⟨l1, l2⟩ := loc_of T h1
    exact pg_nm hS.nd l1 l2 (hS.fn _) (cur_xv hc (of_decide_eq_true h2))
  | tup is =>
    cases x <;> first | (cases h; done) | skip
    obtain ⟨h1, h2⟩ := ba h
    obtain ⟨n1, n2⟩ := names_of T hS.fn h2
    rcases hc with ⟨c1, c2, c3, _, _⟩ | ⟨_, _, _, _, _, _, _, _, c2, _⟩
    · subst c3
      have e : asgF G C C1 none (.tup is) = fun d e s => match d with
        | .tup ds => if ds.length = is.length then .nx (setAll is ds e) s else .bad
        | _ => .bad := by
        funext d e s
        cases d <;> rfl
      rw [e]
      exact pg_tp (R.calm rfl) hS.nd c1 n1 n2
    · rw [c2] at h1
      cases h1
  | att e f => exact absurd rfl (hna e f)
  | ix _ _ => cases h
theorem sndP {X : Cx} {pl : Pl} {W : WX} {cx : Option Xc} {xv : Option Nat} (R : Run X G pl (hotC cx C) (hotC cx C1) W k cx.isSome) (hS : Ss X cx.isSome) (T : At' X G S) (hc : Cur X pl G xv cx) (t : Tg) (x : Expr) (h : chkP S xv t x = true) : PG X x (GS X pl W (asgF G C C1 cx t)) := by
  cases t with
  | att e f => cases h
  | _ => exact sndT R hS T hc _ x h fun _ _ q => by cases q
mutual
theorem sndS {X : Cx} {pl : Pl} {W : WX} {cx : Option Xc} {xv : Option Nat} (R : Run X G pl (hotC cx C) (hotC cx C1) W k cx.isSome) (hS : Ss X cx.isSome) (T : At' X G S) (hc : Cur X pl G xv cx) : ∀ (st : Sm) (x : Stmt), chkS S xv st x = true → PS X x (TS' X pl W (evS G C C1 cx st))
  | .expr e, x, h => by
    cases x <;> first | (cases h; done) | skip
    obtain ⟨h1, h2⟩ := ba h
    exact snd_expr (sndE R T hc e _ h2).pe (by rename_i y _; cases y <;> first | (cases h1; done) | (intro _ _ _; rfl))
  | .asg t e, x, h => by
    cases x <;> first | (cases h; done) | skip
    rename_i ts y p
    match ts, h with
    | [tg], h =>
      obtain ⟨h1, h2⟩ := ba h
      obtain ⟨h3, h4⟩ := ba h2
      obtain ⟨h5, h6⟩ := ba h4
      have nc : ∀ n, swapsWith y (some tg) n X.env = pure false := sw_false T.sc h1
      have ey := (sndE R T hc e _ h6).pe
      by_cases ha : ∃ o f, t = .att o f
      · obtain ⟨o, f, rfl⟩ := ha
        cases tg <;> first | (cases h5; done) | skip
        obtain ⟨a1, a2⟩ := ba h5
        obtain rfl := of_decide_eq_true a1
        exact snd_asgA R ey (sndE R T hc o _ a2).pe nc
      · exact snd_asg ey (sndT R hS T hc t tg h5 fun o f q => ha ⟨o, f, q⟩) nc (swapped_none h3) (each_one h3) (asg_never t)
    | [], h => cases h
    | _ :: _ :: _, h => cases h
  | .asgL i e, x, h => by
    cases x <;> first | (cases h; done) | skip
    rename_i ts y p
    match ts, y, h with
    | [.Name n py], .ListComp x0 gs scope p0, h =>
      obtain ⟨h1, h2⟩ := ba h
      obtain ⟨h3, h4⟩ := ba h2
      obtain ⟨h5, h6⟩ := ba h4
      obtain ⟨h7, h8⟩ := ba h5
      obtain ⟨h9, h10⟩ := ba h8
      obtain ⟨l1, l2⟩ := own_of T h3
      have hxv : xv = none := Option.isNone_iff_eq_none.mp h1
      subst hxv
      have hcx : cx = none := by
        rcases hc with ⟨_, _, c3, _, _⟩ | ⟨_, _, _, _, _, _, _, _, c2, _⟩
        · exact c3
        · cases c2
      subst hcx
      rcases sndLc R T hc h6 with hb | ⟨tg, iter, fs, rfl, P⟩
      · have e0 : evS G C C1 none (.asgL i e) = fun _ _ => .bad := by
          funext en s
          show RS.ofR en (ev G C C1 none e en s) _ = _
          unfold ev
          rw [hb]
          rfl
        rw [e0]
        exact ps_bad
      · exact snd_asgL hS (R.calm rfl) (cur_xv hc (by intro q; cases q)) l1 l2 (by rw [T.sc]; exact beq_iff_eq.mp h7) h9 (by simpa using h10) P
  | .aug i o e, x, h => by
    cases x <;> first | (cases h; done) | skip
    rename_i tg op y p
    cases tg <;> first | (cases h; done) | skip
    obtain ⟨h1, h2⟩ := ba h
    obtain ⟨h3, h4⟩ := ba h2
    obtain ⟨h5, h6⟩ := ba h4
    obtain ⟨l1, l2⟩ := loc_of T h1
    exact snd_aug hS l1 l2 (cur_xv hc (of_decide_eq_true h3)) (by cases o <;> cases op <;> first | (cases h5; done) | (exact .inl ⟨rfl, rfl⟩) | (exact .inr ⟨rfl, rfl⟩)) (sndE R T hc e _ h6).pe
  | .ret e, x, h => by
    cases x <;> first | (cases h; done) | skip
    rename_i y p
    cases y <;> first | (cases h; done) | skip
    exact snd_ret (sndE R T hc e _ h).pe
  | .retN, x, h => by
    cases x <;> first | (cases h; done) | skip
    rename_i y p
    cases y <;> first | (cases h; done) | skip
    exact snd_retN
  | .pass, x, h => by
    cases x <;> first | (cases h; done) | skip
    exact snd_pass
  | .brk, x, h => by
    cases x <;> first | (cases h; done) | skip
    exact snd_brk
  | .cnt, x, h => by
    cases x <;> first | (cases h; done) | skip
    exact snd_cnt
  | .ite c a b, x, h => by
    cases x <;> first | (cases h; done) | skip
    obtain ⟨h1, h2⟩ := ba h
    obtain ⟨h3, h4⟩ := ba h2
    exact snd_ite (sndE R T hc c _ h1).pt (sndSs R hS T hc a _ h3) (sndSs R hS T hc b _ h4)
  | .whil c b, x, h => by
    cases cx with
    | some _ => exact ps_bad
    | none =>
      cases x <;> first | (cases h; done) | skip
      rename_i y l z p
      cases z <;> first | (cases h; done) | skip
      obtain ⟨h1, h2⟩ := ba h
      exact snd_while hS rfl (sndE R T hc c _ h1).pt (sndSs R hS T hc b _ h2)
  | .whilW _ _ _ _ _, x, h => by cases x <;> cases h
  | .fors t it b, x, h => by
    cases cx with
    | some _ => exact ps_bad
    | none =>
      cases x <;> first | (cases h; done) | skip
      rename_i tg y l z p
      cases z <;> first | (cases h; done) | skip
      obtain ⟨h1, h2⟩ := ba h
      obtain ⟨h3, h4⟩ := ba h2
      exact snd_for hS rfl (R.calm rfl) (asg_never t) (sndI R T hc it _ h3) (sndP R hS T hc t tg h1) (sndSs R hS T hc b _ h4) (fold_it h3)
  | .dead, x, h => ps_bad
  | .rais c es, x, h => by
    cases cx with
    | some _ => exact ps_bad
    | none =>
      cases hx : (G.exc c && (!G.xini c && oneStr es)) with
      | false =>
        have e : evS G C C1 none (.rais c es) = fun _ _ => .bad := by
          funext e s
          unfold evS
          rw [hx]
          rfl
        rw [e]
        exact ps_bad
      | true =>
        have e : evS G C C1 none (.rais c es) = fun e s => .err ⟨c, []⟩ e s := by
          funext e s
          unfold evS
          rw [hx]
          rfl
        rw [e]
        cases x <;> first | (cases h; done) | skip
        rename_i y z p
        match y, z, h with
        | some (.Call (.Name n q) [.Constant (.str m) j p2] [] p3), none, h =>
          obtain ⟨h1, h2⟩ := ba h
          obtain rfl := of_decide_eq_true h1
          obtain ⟨g1, g2, _⟩ := glo_of T h2
          exact snd_rais R rfl (ba hx).1 (by simpa using (ba (ba hx).2).1) g1 g2
  | .tri b c i su, x, h => by
    cases cx with
    | some _ => exact ps_bad
    | none =>
      cases x <;> first | (cases h; done) | skip
      rename_i y hs z z2 p
      match hs, z, z2, h with
      | [.ExceptHandler (some (.Name n q)) (some nm) (s0 :: sl) p'], [], [], h =>
        obtain ⟨h1, h2⟩ := ba h
        obtain ⟨h3, h4⟩ := ba h2
        obtain ⟨h5, h6⟩ := ba h4
        obtain ⟨h7, h8⟩ := ba h6
        obtain ⟨h9, h10⟩ := ba h8
        obtain ⟨h11, h12⟩ := ba h10
        obtain rfl := of_decide_eq_true h3
        obtain ⟨g1, g2, _⟩ := glo_of T h5
        obtain ⟨c1, c2⟩ := cur_cold hc rfl
        have hN : X.N[i]? = some nm := by rw [T.N]; exact of_decide_eq_true h7
        have hK : X.env.kindOf nm = some .local := by
          show X.env.scope.names.lookup nm = _
          rw [T.sc]
          exact beq_iff_eq.mp h9
        have e : evS G C C1 none (.tri b c i su) = triF G c i (fun e s => evSs G C C1 none b e s) (fun x e s => evSs G C C1 (some x) su e s) := rfl
        rw [e]
        refine snd_try R hS rfl c1 hN hK g1 g2 (fun W' pn xe tk pa => ?_) (fun a oe x d pn hz hf hx => ?_)
        · exact sndSs (X := X.tr pn xe) (cx := none) (R.tr tk) ⟨hS.nd, hS.fn, fun _ => pa, hS.stk, hS.fr⟩ ⟨T.N, T.sc, T.gl⟩ (.inl ⟨c1, rfl, rfl, R.calm rfl, hS.nd⟩) b _ h11
        · exact sndSs (X := X.suite a ((a, oe) :: pn)) (pl := { pl with xc := some (i, a, x, d) }) (cx := some x) (xv := some i) R.suite ⟨hS.nd, hS.fn, fun q => (by cases q), hS.stk, hS.fr⟩ ⟨T.N, T.sc, T.gl⟩ (.inr ⟨i, a, x, d, X, oe, pn, rfl, rfl, rfl, rfl, hz, hf, hx⟩) su _ h12
termination_by structural st => st
theorem sndSs {X : Cx} {pl : Pl} {W : WX} {cx : Option Xc} {xv : Option Nat} (R : Run X G pl (hotC cx C) (hotC cx C1) W k cx.isSome) (hS : Ss X cx.isSome) (T : At' X G S) (hc : Cur X pl G xv cx) : ∀ (ss : Sms) (l : List Stmt), chkSs S xv ss l = true → PSs X l (TS' X pl W (evSs G C C1 cx ss))
  | .nil, l, h => by
    cases l with
    | nil => exact snds_nil
    | cons _ _ => cases h
  | .dead, l, h => ⟨fun _ _ _ _ _ _ ⟨_, _, _, _, _, z⟩ => z.elim⟩
  | .cons a b, l, h => by
    cases l with
    | nil => cases h
    | cons x l =>
      obtain ⟨h1, h2⟩ := ba h
      exact snds_cons (sndS R hS T hc a x h1) (sndSs R hS T hc b l h2)
termination_by structural ss => ss
end
end
end Lt
/-! ### the static facts, read off the opened module -/
namespace Lt
open PySem PySem.Spec PyProof.Rows L2
def FAt.adr (K : PySem.W.Frag) : FAt → Addr
  | .glo x => He.ga K x
  | .meth c m => He.ma K (He.ga K (Cl.nm c)) (At.nm m)
  | .prop c m => He5.wf K (He.ga K (Cl.nm c)) "property" (At.nm m)
  | .cm c m => He5.wf K (He.ga K (Cl.nm c)) "classmethod" (At.nm m)
def caOf (K : PySem.W.Frag) (c : Cl) : Addr := He.ga K (Cl.nm c)
def faOf (K : PySem.W.Frag) (f : Fn) : Addr := (Fn.at f).adr K
def plOf (K : PySem.W.Frag) : Pl := { ca := caOf K, fa := faOf K }
mutual
def relD (K : PySem.W.Frag) : D → Value → Bool
  | .non, .none => true
  | .bl b, .bool c => b == c
  | .int i, .int j _ => decide (i = j)
  | .str s, .str x _ => decide (toStr s = x)
  | .tup ds, .ref a => (match K.lookup a with
    | some ⟨.type c, _, .seq its _, _⟩ => decide (c = "tuple") && (decide (its.size ≤ sizeLine) && relDs K ds its.toList)
    | _ => false)
  | .fz ds, .ref a => (match K.lookup a with
    | some ⟨.type c, none, .seq its _, _⟩ => decide (c = "list") && (decide (its.size ≤ sizeLine) && relDs K ds its.toList)
    | _ => false)
  | .cls c, .ref a => decide (a = caOf K c)
  | .ty t, .type n => decide (n = Ty.nm t)
  | _, _ => false
def relDs (K : PySem.W.Frag) : List D → List Value → Bool
  | [], [] => true
  | d :: ds, u :: us => relD K d u && relDs K ds us
  | _, _ => false
end
mutual
theorem relD_ok {K : PySem.W.Frag} : ∀ (d : D) (u : Value), relD K d u = true → ∃ v, RelV v u ∧ ∀ m n H, Rp K (caOf K) m n H d v
  | .non, u, h => by
    cases u <;> first | (cases h; done) | skip
    exact ⟨.non, rfl, fun _ _ _ => rfl⟩
  | .bl b, u, h => by
    cases u <;> first | (cases h; done) | skip
    rename_i c
    obtain rfl : b = c := beq_iff_eq.mp h
    exact ⟨.bl b, rfl, fun _ _ _ => rfl⟩
  | .int i, u, h => by
    cases u <;> first | (cases h; done) | skip
    obtain rfl := of_decide_eq_true h
    exact ⟨.int i, ⟨_, rfl⟩, fun _ _ _ => rfl⟩
  | .str s, u, h => by
    cases u <;> first | (cases h; done) | skip
    obtain rfl := of_decide_eq_true h
    exact ⟨.str (toStr s), ⟨_, rfl⟩, fun _ _ _ => rfl⟩
  | .tup ds, u, h => by
    cases u <;> first | (cases h; done) | skip
    rename_i a
    unfold relD at h
    cases q : K.lookup a with
    | none => rw [q] at h; cases h
    | some o =>
      obtain ⟨oc, od, dt, osl⟩ := o
      rw [q] at h
      cases oc <;> first | (cases h; done) | skip
      cases dt <;> first | (cases h; done) | skip
      rename_i c its nn
      obtain ⟨h1, h2⟩ := ba h
      obtain ⟨h3, h4⟩ := ba h2
      obtain ⟨vs, rv, rr⟩ := relDs_ok ds its.toList h4
      exact ⟨.ref a, rfl, fun m n H => ⟨a, vs, rfl, .inr ⟨_, its, nn, q, congrArg Value.type (of_decide_eq_true h1), rfl, of_decide_eq_true h3, rv⟩, rr m n H⟩⟩
  | .fz ds, u, h => by
    cases u <;> first | (cases h; done) | skip
    rename_i a
    unfold relD at h
    cases q : K.lookup a with
    | none => rw [q] at h; cases h
    | some o =>
      obtain ⟨oc, od, dt, osl⟩ := o
      rw [q] at h
      cases oc <;> first | (cases h; done) | skip
      cases od <;> first | (cases h; done) | skip
      cases dt <;> first | (cases h; done) | skip
      rename_i c its nn
      obtain ⟨h1, h2⟩ := ba h
      obtain ⟨h3, h4⟩ := ba h2
      obtain ⟨vs, rv, rr⟩ := relDs_ok ds its.toList h4
      exact ⟨.ref a, rfl, fun m n H => ⟨a, vs, rfl, .inr ⟨_, its, nn, q, congrArg Value.type (of_decide_eq_true h1), rfl, rfl, of_decide_eq_true h3, rv⟩, rr m n H⟩⟩
  | .obj _, u, h => by cases u <;> cases h
  | .cls c, u, h => by
    cases u <;> first | (cases h; done) | skip
    obtain rfl := of_decide_eq_true h
    exact ⟨.ref (caOf K c), rfl, fun _ _ _ => rfl⟩
  | .ty t, u, h => by
    cases u <;> first | (cases h; done) | skip
    obtain rfl := of_decide_eq_true h
    exact ⟨.ty (Ty.nm t), rfl, fun _ _ _ => rfl⟩
theorem relDs_ok {K : PySem.W.Frag} : ∀ (ds : List D) (us : List Value), relDs K ds us = true → ∃ vs, Vals vs us ∧ ∀ m n H, RpL K (caOf K) m n H ds vs
  | [], us, h => by
    cases us with
    | nil => exact ⟨[], .nil, fun _ _ _ => rfl⟩
    | cons _ _ => cases h
  | d :: ds, us, h => by
    cases us with
    | nil => cases h
    | cons u us =>
      obtain ⟨h1, h2⟩ := ba h
      obtain ⟨v, r, rr⟩ := relD_ok d u h1
      obtain ⟨vs, rs, rrs⟩ := relDs_ok ds us h2
      exact ⟨v :: vs, .cons r rs, fun m n H => ⟨v, vs, rfl, rr m n H, rrs m n H⟩⟩
end
section
variable (K : PySem.W.Frag) (G : Ctx)
abbrev eqO (a b : Option (Option Value)) : Bool := He.eqO a b
def creadB (C : Addr) : Bool := PySem.W.readsIn K C (.type "type") && eqO (PySem.W.specialIn K (.ref C) "__getattribute__") (some (some (.builtin "type.__getattribute__")))
def memB (c : Cl) (f : At) : Option Mem → Bool
  | none => eqO (PySem.W.findIn K (.ref (caOf K c)) (At.nm f)) (some none)
  | some (.fn g) => eqO (PySem.W.findIn K (.ref (caOf K c)) (At.nm f)) (some (some (.ref (faOf K g)))) && (PySem.W.isFn K (.ref (faOf K g)) && PySem.W.keepIn K (.ref (faOf K g)))
  | some .oth => true
  | some (.prop g) => eqO (PySem.W.findIn K (.ref (caOf K c)) (At.nm f)) (some (some (.ref (He.ma K (caOf K c) (At.nm f))))) && (eqO (PySem.W.specialIn K (.ref (He.ma K (caOf K c) (At.nm f))) "__get__") (some (some (.builtin "property.__get__"))) &&
      (decide (PySem.W.takesIn K (.ref (He.ma K (caOf K c) (At.nm f))) = some true) && (match PySem.W.recIn K (He.ma K (caOf K c) (At.nm f)) "property" with
        | some (.ref a :: _) => decide (a = faOf K g)
        | _ => false)))
  | some (.cm g) => creadB K (caOf K c) && (He5.wrapB K (caOf K c) "classmethod" "classmethod.__get__" (At.nm f) && (decide (He5.wf K (caOf K c) "classmethod" (At.nm f) = faOf K g) && PySem.W.fnIn K (faOf K g)))
  | some (.con d) => creadB K (caOf K c) && (match PySem.W.findCls K (.ref (caOf K c)) (.type "type") (At.nm f) with
    | some (.val u) => relD K d u && (eqO (PySem.W.findIn K (.ref (caOf K c)) (At.nm f)) (some (some u)) && (eqO (PySem.W.specialIn K u "__get__") (some none) && !PySem.W.copiedNames.contains (At.nm f)))
    | _ => false)
theorem memB_ok {c : Cl} {f : At} {o : Option Mem} (h : memB K c f o = true) : MemOk K (plOf K) c f o := by
  match o, h with
  | none, h => exact He.eqO_ok h
  | some (.fn g), h =>
    obtain ⟨h1, h2⟩ := ba h
    obtain ⟨h3, h4⟩ := ba h2
    exact ⟨He.eqO_ok h1, h3, h4⟩
  | some .oth, h => exact True.intro
  | some (.prop g), h =>
    obtain ⟨h1, h2⟩ := ba h
    obtain ⟨h3, h4⟩ := ba h2
    obtain ⟨h5, h6⟩ := ba h4
    refine ⟨He.ma K (caOf K c) (At.nm f), He.eqO_ok h1, He.eqO_ok h3, of_decide_eq_true h5, ?_⟩
    cases q : PySem.W.recIn K (He.ma K (caOf K c) (At.nm f)) "property" with
    | none => rw [q] at h6; cases h6
    | some l =>
      rw [q] at h6
      cases l with
      | nil => cases h6
      | cons v l =>
        cases v <;> first | (cases h6; done) | skip
        obtain rfl := of_decide_eq_true h6
        exact ⟨l, rfl⟩
  | some (.cm g), h =>
    obtain ⟨h1, h2⟩ := ba h
    obtain ⟨h3, h4⟩ := ba h2
    obtain ⟨h5, h6⟩ := ba h4
    obtain ⟨r1, r2⟩ := ba h1
    obtain ⟨w1, w2⟩ := He5.wrapB_ok h3
    rw [of_decide_eq_true h5] at w2
    exact ⟨.type "type", He.ma K (caOf K c) (At.nm f), ⟨r1, He.eqO_ok r2⟩, w1, w2, h6⟩
  | some (.con d), h =>
    obtain ⟨h1, h2⟩ := ba h
    obtain ⟨r1, r2⟩ := ba h1
    cases q : PySem.W.findCls K (.ref (caOf K c)) (.type "type") (At.nm f) with
    | none => rw [q] at h2; cases h2
    | some cf =>
      rw [q] at h2
      cases cf <;> first | (cases h2; done) | skip
      rename_i u
      obtain ⟨h3, h4⟩ := ba h2
      obtain ⟨h5, h6⟩ := ba h4
      obtain ⟨h7, h8⟩ := ba h6
      obtain ⟨v, rv, rr⟩ := relD_ok d u h3
      exact ⟨.type "type", v, u, ⟨r1, He.eqO_ok r2⟩, ⟨q, rv⟩, ⟨He.eqO_ok h5, rv, He.eqO_ok h7, by simpa using h8⟩, rr⟩
def Ty.vs : List Kd := Ty.all.map Kd.ty ++ Cl.all.map Kd.cls
theorem Kd.mem (k : Kd) : k ∈ Ty.vs := by
  cases k with
  | ty t => exact List.mem_append.mpr (.inl (List.mem_map.mpr ⟨t, Ty.mem t, rfl⟩))
  | cls c => exact List.mem_append.mpr (.inr (List.mem_map.mpr ⟨c, Cl.mem c, rfl⟩))
def kitB (k : Kd) (d : D) : Bool := match isOne G k d with
  | some b => decide (PySem.W.kitOne K (k.v (plOf K)) (d.cv (plOf K)) = some b)
  | none => true
def insB (C : Addr) : Bool := PySem.W.plainGet K C Str.empty && (PySem.W.hasDictIn K C && (PySem.W.plainOver K C && (eqO (PySem.W.findIn K (.ref C) "__setattr__") (some (some (.builtin "object.__setattr__"))) && (eqO (PySem.W.findIn K (.ref C) "__class__") (some (some (.builtin "object.__class__"))) && decide (PySem.W.mroIn K C (.type "object") = some true)))))
def ccB : Bool := eqO (PySem.W.specialIn K (.builtin "object.__class__") "__get__") (some (some (.builtin "getset_descriptor.__get__"))) && decide (PySem.W.takesIn K (.builtin "object.__class__") = some true)
def excB (C : Addr) (xi : Bool) : Bool := (xi || PySem.W.excIn K C [.type "ValueError", .type "Exception", .type "BaseException", .type "object"] "ValueError.__new__") && (decide (PySem.W.subIn K (.ref C) (.type "BaseException") = some true) && (decide (PySem.W.typeIn K (.ref C) = some (.type "type")) &&
  (eqO (PySem.W.findIn K (.ref C) "__getattribute__") (some (some (.builtin "BaseException.__getattribute__"))) && (eqO (PySem.W.findIn K (.ref C) "__getattr__") (some none) && (PySem.W.hasDictIn K C && (eqO (PySem.W.findIn K (.ref C) "__class__") (some (some (.builtin "object.__class__"))) && decide (PySem.W.mroIn K C (.type "object") = some true)))))))
def mkB (c : Cl) : Bool := match G.mem c .init with
  | some (.fn g) => PySem.W.makesIn K (caOf K c) && (eqO (PySem.W.findIn K (.ref (caOf K c)) "__init__") (some (some (.ref (faOf K g)))) && (PySem.W.isFn K (.ref (faOf K g)) && PySem.W.keepIn K (.ref (caOf K c))))
  | _ => true
def clB (c : Cl) : Bool := (eqO (PySem.W.nsIn K mainGlobals (Cl.nm c)) (some (some (.ref (caOf K c)))) && PySem.W.keepIn K (.ref (caOf K c))) && ((Cl.all.all fun c' => decide (c = c') || !decide (caOf K c = caOf K c')) && (match G.exc c with
  | true => excB K (caOf K c) (G.xini c) && Cl.all.all fun c' => !G.exc c' || decide (PySem.W.exmOne K (.ref (caOf K c)) (.ref (caOf K c')) = some (G.sub c c'))
  | false => insB K (caOf K c) && ((PySem.W.selfFirst K (caOf K c) && Ty.vs.all fun k => PySem.W.notFirst K (caOf K c) (k.v (plOf K))) && (mkB K G c && At.all.all fun f => memB K c f (G.mem c f)))))
def freeB (x : Str) : Bool := eqO (PySem.W.nsIn K mainGlobals x) (some none)
def Bi.every : List Bi := [.len, .int, .str, .bool, .isinstance, .abs, .list, .tuple, .sum]
def modB : Bool := (Gc.all.all fun g => (match PySem.W.nsIn K mainGlobals (Gc.nm g) with
    | some (some u) => relD K (G.con g) u
    | _ => false)) && ((Cl.all.all fun c => clB K G c) && ((Fn.all.all fun f => (!G.glob f || eqO (PySem.W.nsIn K mainGlobals (Fn.nm f)) (some (some (.ref (faOf K f))))) && PySem.W.fnIn K (faOf K f)) &&
  ((Bi.every.all fun b => freeB K b.nm) && ((Ty.all.all fun t => freeB K (Ty.gn t)) && (freeB K "range" && (ccB K && (Ty.vs.all fun k => (Ty.all.all fun t => kitB K G k (.ty t)) && Cl.all.all fun c => kitB K G k (.cls c)))))))) 
/-- what is asked of the names -/
structure Names0 : Prop where
  ainj : ∀ f g, At.nm f = At.nm g → f = g
  bb : ∀ t, t ≠ .none → bootBuiltins (Ty.gn t) = some (.type (Ty.nm t))
  tn : Ty.nm .none = "NoneType" ∧ Ty.nm .bool = "bool" ∧ Ty.nm .int = "int" ∧ Ty.nm .str = "str" ∧ Ty.nm .tuple = "tuple" ∧ Ty.nm .list = "list"
  ini : At.nm .init = "__init__"
  nms : Nms
theorem mok_of {h : Heap} {mg : Str → Option Value} (X : K.In h) (N : h.Ns mainGlobals mg) (Z : Names0) (c : modB K G = true) : Mok K mg G (plOf K) ∧ ∀ f, PySem.W.fnIn K (faOf K f) = true := by
  obtain ⟨c1, c⟩ := ba c
  obtain ⟨c2, c⟩ := ba c
  obtain ⟨c3, c⟩ := ba c
  obtain ⟨c4, c⟩ := ba c
  obtain ⟨c5, c⟩ := ba c
  obtain ⟨c6, c⟩ := ba c
  obtain ⟨c7, c8⟩ := ba c
  have cl := fun cc => List.all_eq_true.mp c2 cc (Cl.mem cc)
  have cl1 := fun cc => (ba (ba (cl cc)).1)
  have cl2 := fun cc => (ba (ba (cl cc)).2)
  have clN : ∀ cc, G.exc cc = false → insB K (caOf K cc) = true ∧ mkB K G cc = true ∧ (∀ f, memB K cc f (G.mem cc f) = true) ∧ PySem.W.selfFirst K (caOf K cc) = true ∧ ∀ k : Kd, PySem.W.notFirst K (caOf K cc) (k.v (plOf K)) = true := fun cc hx => by
    have q := (cl2 cc).2
    rw [hx] at q
    obtain ⟨q1, q2⟩ := ba q
    obtain ⟨q5, q2⟩ := ba q2
    obtain ⟨q3, q4⟩ := ba q2
    exact ⟨q1, q3, (fun f => List.all_eq_true.mp q4 f (At.mem f)), (ba q5).1, fun k => List.all_eq_true.mp (ba q5).2 k (Kd.mem k)⟩
  have clE : ∀ cc, G.exc cc = true → excB K (caOf K cc) (G.xini cc) = true ∧ ∀ c', G.exc c' = true → PySem.W.exmOne K (.ref (caOf K cc)) (.ref (caOf K c')) = some (G.sub cc c') := fun cc hx => by
    have q := (cl2 cc).2
    rw [hx] at q
    obtain ⟨q1, q2⟩ := ba q
    refine ⟨q1, fun c' hx' => ?_⟩
    have q3 := List.all_eq_true.mp q2 c' (Cl.mem c')
    rw [hx'] at q3
    exact of_decide_eq_true q3
  have fr : ∀ {x : Str}, freeB K x = true → mg x = none := fun q => PySem.W.mg_none_of X N (He.eqO_ok q)
  have ins : ∀ cc, G.exc cc = false → InsOk K (caOf K cc) := fun cc hx => by
    have q := (clN cc hx).1
    obtain ⟨q1, q⟩ := ba q
    obtain ⟨q2, q⟩ := ba q
    obtain ⟨q3, q⟩ := ba q
    obtain ⟨q4, q⟩ := ba q
    obtain ⟨q5, q6⟩ := ba q
    exact ⟨⟨q1, q2, q3, He.eqO_ok q4⟩, He.eqO_ok q5, of_decide_eq_true q6⟩
  refine ⟨?_, fun f => (ba (List.all_eq_true.mp c3 f (Fn.mem f))).2⟩
  exact {
    con := fun g => by
      have q := List.all_eq_true.mp c1 g (Gc.mem g)
      cases e : PySem.W.nsIn K mainGlobals (Gc.nm g) with
      | none => simp only [e] at q; cases q
      | some o =>
        cases o with
        | none => simp only [e] at q; cases q
        | some u =>
          simp only [e] at q
          obtain ⟨v, rv, rr⟩ := relD_ok _ u q
          exact ⟨u, v, PySem.W.mg_of X N e, rv, rr⟩
    cls := fun cc => PySem.W.mg_of X N (He.eqO_ok (cl1 cc).1)
    inj := fun cc c' e => by
      have q := List.all_eq_true.mp (cl2 cc).1 c' (Cl.mem c')
      have e' : caOf K cc = caOf K c' := e
      rcases Bool.or_eq_true_iff.mp q with q | q
      · exact of_decide_eq_true q
      · rw [e'] at q
        simp at q
    ainj := Z.ainj
    fnm := fun f hg => by
      have q := (ba (List.all_eq_true.mp c3 f (Fn.mem f))).1
      rw [hg] at q
      exact PySem.W.mg_of X N (He.eqO_ok q)
    free := fun b => fr (List.all_eq_true.mp c4 b (by cases b <;> simp [Bi.every]))
    freeT := fun t => fr (List.all_eq_true.mp c5 t (Ty.mem t))
    bb := Z.bb
    rng := fr c6
    nms := Z.nms
    sf := fun cc hx => (clN cc hx).2.2.2.1
    nf := fun cc k hx => (clN cc hx).2.2.2.2 k
    kit := {
      one := fun k d b e => by
        obtain ⟨q1, q2⟩ := ba (List.all_eq_true.mp c8 k (Kd.mem k))
        have key : kitB K G k d = true → PySem.W.kitOne K (k.v (plOf K)) (d.cv (plOf K)) = some b := fun q => by
          unfold kitB at q
          rw [e] at q
          exact of_decide_eq_true q
        cases d with
        | ty t => exact key (List.all_eq_true.mp q1 t (Ty.mem t))
        | cls c => exact key (List.all_eq_true.mp q2 c (Cl.mem c))
        | _ => cases e
      cls := ins
      n := He.eqO_ok (ba c7).1
      tk := of_decide_eq_true (ba c7).2
      tn := Z.tn }
    mem := fun cc f hx => memB_ok K ((clN cc hx).2.2.1 f)
    mker := fun cc g hx e => by
      have q := (clN cc hx).2.1
      unfold mkB at q
      rw [e] at q
      obtain ⟨q1, q⟩ := ba q
      obtain ⟨q2, q⟩ := ba q
      obtain ⟨q3, q4⟩ := ba q
      exact ⟨q1, He.eqO_ok q2, q3, q4⟩
    ckeep := fun cc => (cl1 cc).2
    exc := fun cc hx => by
      have q := (clE cc hx).1
      obtain ⟨q1, q⟩ := ba q
      obtain ⟨q2, q⟩ := ba q
      obtain ⟨q3, q⟩ := ba q
      obtain ⟨q4, q⟩ := ba q
      obtain ⟨q5, q⟩ := ba q
      obtain ⟨q6, q⟩ := ba q
      obtain ⟨q7, q8⟩ := ba q
      exact ⟨(fun e => by rw [e] at q1; exact q1), of_decide_eq_true q2, of_decide_eq_true q3, ⟨He.eqO_ok q4, He.eqO_ok q5, of_decide_eq_true q2, q6, He.eqO_ok q7, He.eqO_ok (ba c7).1, of_decide_eq_true (ba c7).2, of_decide_eq_true q8⟩⟩
    exm := fun cc c' hx hx' => (clE cc hx).2 c' hx'
    self := fun cc g f hx e => by
      have q := memB_ok K ((clN cc hx).2.2.1 f)
      rw [e] at q
      exact q.fn }
end
end Lt
/-! ### every def keeps its promise -/
namespace Lt
open PySem PySem.Spec PyProof.Rows L2
structure DI where
  name : Str
  qual : Str
  params : Arguments
  body : List Stmt
  scope : Scope
  N : List Str
  ps : List Str
  dfl : List D := []
def scB (N ps : List Str) (sc : Scope) : Bool := decide (sc.kind = .function) && (!sc.isCoroutine && (!sc.isGenerator && (decide N.Nodup && (decide (N.take ps.length = ps) && (ps.all (fun x => sc.names.lookup x == some .local || sc.names.lookup x == some .cell) && sc.names.all fun y => !(y.2 == .free))))))
theorem scB_ok {N ps : List Str} {sc : Scope} (h : scB N ps sc = true) : FnScope N ps sc := by
  obtain ⟨h1, h⟩ := ba h
  obtain ⟨h2, h⟩ := ba h
  obtain ⟨h3, h⟩ := ba h
  obtain ⟨h4, h⟩ := ba h
  obtain ⟨h5, h⟩ := ba h
  obtain ⟨h6, h7⟩ := ba h
  refine ⟨of_decide_eq_true h1, by simpa using h2, by simpa using h3, of_decide_eq_true h4, of_decide_eq_true h5, fun x hx => ?_, fun y hy e => ?_⟩
  · rcases Bool.or_eq_true_iff.mp (List.all_eq_true.mp h6 x hx) with q | q
    · exact .inl (beq_iff_eq.mp q)
    · exact .inr (beq_iff_eq.mp q)
  · have q := List.all_eq_true.mp h7 y hy
    rw [e] at q
    cases q
def glB (G : Ctx) (f : Fn) : Bool := G.glob f && (G.fn f).isSome
def defB (G : Ctx) (d : Def) (i : DI) : Bool := scB i.N i.ps i.scope && (decide (i.N.length = d.ns) && (decide (i.ps.length = d.ps) && (decide (d.ps ≤ d.ns) && (chkSs ⟨i.N, i.scope, glB G⟩ none d.body i.body && (i.dfl.all D.scal && decide (i.dfl.length ≤ i.ps.length))))))
theorem er_start {K : PySem.W.Frag} {ca : Cl → Addr} {m : Nat → Addr} {n : Nat} {H : Hp} {j : Nat} : ∀ {ds : List D} {vs : List V}, RpL K ca m n H ds vs → ER K ca m n H (ds.map some ++ List.replicate j none) (vs.map some ++ List.replicate j none)
  | [], vs, h => by
    have h' : vs = [] := h
    subst h'
    show ER K ca m n H (List.replicate j none) (List.replicate j none)
    induction j with
    | zero => rfl
    | succ j ih => exact ⟨none, List.replicate j none, rfl, ih⟩
  | d :: ds, vs, ⟨v, r, e, h1, h2⟩ => by
    subst e
    exact ⟨v, _, rfl, h1, er_start h2⟩
/-- a constant as the machine has it -/
def D.dv : D → He.Dv
  | .bl b => .bl b
  | .int i => .int i
  | .str s => .str (toStr s)
  | _ => .non
theorem scal_rp {K : PySem.W.Frag} {ca : Cl → Addr} {m : Nat → Addr} {n : Nat} {H : Hp} {d : D} (h : D.scal d = true) : Rp K ca m n H d (He.Dv.v K d.dv) := by
  cases d <;> first | rfl | cases h
theorem scal_rpl {K : PySem.W.Frag} {ca : Cl → Addr} {m : Nat → Addr} {n : Nat} {H : Hp} : ∀ {ds : List D}, ds.all D.scal = true → RpL K ca m n H ds (ds.map fun x => He.Dv.v K x.dv)
  | [], _ => rfl
  | d :: ds, h => by
    obtain ⟨h1, h2⟩ := ba (show (D.scal d && ds.all D.scal) = true from h)
    exact ⟨_, _, rfl, scal_rp h1, scal_rpl h2⟩
def dvsOf (K : PySem.W.Frag) (i : DI) : List V := i.dfl.map fun x => He.Dv.v K x.dv
/-- a promise from what is computed -/
def spG (K : PySem.W.Frag) (pl : Pl) (g : List D → Lt.St → Lt.R D) : Sp := fun vs H Q E => ∃ m s ds, SR K pl.ca m s H ∧ RpL K pl.ca m s.length H ds vs ∧ PostE K pl.ca (Rp K pl.ca) m s H (g ds s) Q E
section
variable {P : Program} {w : World} {K : PySem.W.Frag} {mg : Str → Option Value} {base : Heap} {G : Ctx} {pl : Pl}
theorem fn_ok {i : DI} {dvs : List V} {kws : List (Str × V)} {f : Fn} {fd : FuncData} {d : Def} {k : Nat} (hx : pl.xc = none) (mok : Mok K mg G pl) (F : FunD K i.name i.qual i.params i.body i.scope dvs kws (pl.fa f) fd) (hd : defB G d i = true)
    (ok : CallsOk P w K mg base G pl (callF G k) k) (ok1 : CallsOk P w K mg base G pl (callF G (k - 1)) (k - 1)) : FnOk P w K mg base (L2.CX P w) (k + 1) (pl.fa f) fd i.ps (spG K pl fun ds s => run0 G (callF G k) (callF G (k - 1)) d ds s) := by
  obtain ⟨h1, h⟩ := ba hd
  obtain ⟨h2, h⟩ := ba h
  obtain ⟨h3, h⟩ := ba h
  obtain ⟨h4, h5⟩ := ba h
  obtain ⟨h5, _⟩ := ba h5
  have S := scB_ok h1
  have eN := of_decide_eq_true h2
  have eP := of_decide_eq_true h3
  have lP := of_decide_eq_true h4
  refine F.ok S (fun vs H Q E ⟨m, s, ds, sr, rl, post⟩ => ?_) fun cdv A outer s H vs Q E hr ⟨m, st, ds, sr, rl, post⟩ => ?_
  · dsimp only at post
    unfold run0 at post
    by_cases hl : ds.length = d.ps
    · rw [rpl_len rl, hl, eP]
    · rw [if_neg hl] at post
      exact False.elim post
  · dsimp only at post
    unfold run0 at post
    by_cases hl : ds.length = d.ps
    · rw [if_pos hl] at post
      have R : Run (cxOf (L2.CX P w) P w K mg base i.N i.qual i.scope (pl.fa f) cdv A outer s H E) G pl (hotC none (callF G k)) (hotC none (callF G (k - 1))) (fun cls d _ H => E cls d H) k (none : Option Xc).isSome := {
        mok := mok
        calm := fun _ => rfl
        tk := takes_of rfl rfl rfl rfl
        ok := ok
        ok1 := ok1
        zero := fun e => by subst e; rfl
        room := fun _ => hr
        bad := fun e => by cases e
        un := Nat.lt_of_le_of_lt (show (A.deeper (envOfC i.qual i.scope s.heap.objs.size (pl.fa f) cdv)).units + 64 ≤ (A.deeper (envOfC i.qual i.scope s.heap.objs.size (pl.fa f) cdv)).units + 16 * k + 200 by omega) hr.un }
      have T : At' (cxOf (L2.CX P w) P w K mg base i.N i.qual i.scope (pl.fa f) cdv A outer s H E) G ⟨i.N, i.scope, glB G⟩ := ⟨rfl, rfl, fun f hf => ba hf⟩
      have Z : Ss (cxOf (L2.CX P w) P w K mg base i.N i.qual i.scope (pl.fa f) cdv A outer s H E) (none : Option Xc).isSome := ⟨S.nd, fun _ => rfl, fun _ => passes_of rfl, rfl, rfl⟩
      refine ⟨_, sndSs R Z T (.inl ⟨hx, rfl, rfl, rfl, S.nd⟩) d.body i.body h5, m, st, ds.map some ++ List.replicate (d.ns - d.ps) none, sr, ⟨?_, by rw [hx]; trivial⟩, ?_⟩
      · unfold L2.start
        rw [show i.N.length - vs.length = d.ns - d.ps by rw [eN, rpl_len rl, hl]]
        exact er_start rl
      · show PostS _ pl _ m st H (evSs G (callF G k) (callF G (k - 1)) none d.body _ st) _
        cases q : evSs G (callF G k) (callF G (k - 1)) none d.body (ds.map some ++ List.replicate (d.ns - d.ps) none) st with
        | nx e s' =>
          rw [q] at post
          exact fun m' σ' H' x sr' er' => post m' H' .non x sr' rfl
        | rt r s' =>
          rw [q] at post
          exact fun m' H' v x sr' rp => post m' H' v x sr' rp
        | err c e s' =>
          rw [q] at post
          exact fun m' σ' H' dd x sr' er' xr => post m' H' dd x sr' xr
        | bk e s' => rw [q] at post; exact False.elim post
        | ct e s' => rw [q] at post; exact False.elim post
        | bad => rw [q] at post; exact False.elim post
    · rw [if_neg hl] at post
      exact False.elim post
theorem run_pad {d : Def} {k : Nat} (hG : ∀ f d', G.fn f = some d' → True) (f : Fn) (hf : G.fn f = some d) (ds : List D) (s : Lt.St) : callF G (k + 1) f ds s = run0 G (callF G k) (callF G (k - 1)) d (padF d ds) s := by
  rw [callF_succ]
  unfold stepF
  rw [hf]
  rfl
/-- what is known of every def -/
def Defs (K : PySem.W.Frag) (G : Ctx) (pl : Pl) (info : Fn → DI) : Prop := ∀ f d, G.fn f = some d → defB G d (info f) = true ∧ d.dfl = (info f).dfl ∧ PySem.W.fnIn K (pl.fa f) = true ∧ ∃ fd, FunD K (info f).name (info f).qual (info f).params (info f).body (info f).scope (dvsOf K (info f)) [] (pl.fa f) fd ∧
  ∀ j, j ≤ (info f).dfl.length → ∃ ds, Vals ((dvsOf K (info f)).drop j) ds ∧ Binds K fd (info f).ps ds
theorem calls_ok (P : Program) (w : World) (base : Heap) {info : Fn → DI} (hx : pl.xc = none) (mok : Mok K mg G pl) (Z : Defs K G pl info) : ∀ k, CallsOk P w K mg base G pl (callF G k) k ∧ CallsOk P w K mg base G pl (callF G (k - 1)) (k - 1)
  | 0 => by
    have z : CallsOk P w K mg base G pl (callF G 0) 0 := {
      fn := fun f d hf => by
        obtain ⟨h1, h0, h2, fd, F, b⟩ := Z f d hf
        exact ⟨fun _ _ _ _ _ _ _ _ _ _ _ ⟨_, _, _, _, _, z⟩ => z.elim, F.kp, h2⟩
      no := fun _ _ _ _ => rfl }
    exact ⟨z, z⟩
  | k + 1 => by
    obtain ⟨i1, i2⟩ := calls_ok P w base hx mok Z k
    refine ⟨{ fn := fun f d hf => ?_, no := fun f ds s hf => ?_ }, i1⟩
    · obtain ⟨h1, h0, h2, fd, F, b⟩ := Z f d hf
      refine ⟨?_, F.kp, h2⟩
      have FK := fn_ok (f := f) hx mok F h1 i1 i2
      obtain ⟨_, q⟩ := ba h1
      obtain ⟨_, q⟩ := ba q
      obtain ⟨q1, q⟩ := ba q
      obtain ⟨_, q⟩ := ba q
      obtain ⟨_, q⟩ := ba q
      obtain ⟨q2, q3⟩ := ba q
      have eP := of_decide_eq_true q1
      have lD := of_decide_eq_true q3
      intro A outer s H us vs Q E hr e0 r hs
      obtain ⟨m, st, ds, sr, rl, post⟩ := hs
      rw [run_pad (fun _ _ _ => trivial) f hf] at post
      have hl : (padF d ds).length = d.ps := by
        by_cases hl : (padF d ds).length = d.ps
        · exact hl
        · unfold run0 at post
          rw [if_neg hl] at post
          exact post.elim
      have hl2 : ds.length + (d.dfl.length - (d.dfl.length + ds.length - d.ps)) = d.ps := by
        unfold padF at hl
        rw [List.length_append, List.length_drop] at hl
        exact hl
      obtain ⟨dv, vd, hb⟩ := b (d.dfl.length + ds.length - d.ps) (by rw [← h0]; omega)
      have rl2 : RpL K pl.ca m st.length H (padF d ds) (vs ++ (dvsOf K (info f)).drop (d.dfl.length + ds.length - d.ps)) := by
        unfold padF
        refine rpl_append ?_ rl
        rw [h0]
        exact rpl_drop _ (scal_rpl q2)
      have r2 : Vals (vs ++ (dvsOf K (info f)).drop (d.dfl.length + ds.length - d.ps)) (us ++ dv) := r.append vd
      have hlu : (us ++ dv).length = (info f).ps.length := by rw [← r2.length, rpl_len rl2, hl, eP]
      exact FK.run A outer s H ⟨us, []⟩ (us ++ dv) _ Q E hr e0 (hb s us (e0.mod.kin.keeps fun b o e => (e0.bs b o e).1) hlu) r2 ⟨m, st, padF d ds, sr, rl2, post⟩
    · rw [callF_succ]
      unfold stepF
      rw [hf]
end
/-! ### the end -/
def daOf (info : Fn → DI) (f : Fn) : He5.DefA := ⟨fun K => faOf K f, (info f).name, (info f).qual, (info f).params, (info f).body, (info f).scope, (info f).dfl.map D.dv, []⟩
def obsL (G : Ctx) (info : Fn → DI) (K : PySem.W.Frag) : He.AlD := (modB K G && (Fn.all.all fun f => (daOf info f).ok K), Fn.all.map fun f => He5.fnA K (faOf K f))
def valL (info : Fn → DI) : He.AlD := (true, Fn.all.map fun f => (daOf info f).val)
def frL (n : Nat) (g : Addr → Option Obj) : PySem.W.Frag := He.frG g (He5.asA g n)
def obsLG (n : Nat) (G : Ctx) (info : Fn → DI) (g : Addr → Option Obj) : He.AlD := obsL G info (frL n g)
def hookL (n : Nat) (G : Ctx) (info : Fn → DI) : PySem.W.Hook where
  α := He.AlD
  obs := fun s => obsLG n G info s.heap.get?
  val := fun _ => valL info
  says := fun _ h => ∃ K : PySem.W.Frag, K.In h ∧ obsL G info K = valL info
  of := fun _ _ e => ⟨_, He.frG_in, e⟩
  keeps := fun _ _ _ ⟨K, hK, c⟩ k => ⟨K, PySem.W.Frag.In.keeps hK k, c⟩
theorem obsL_eq {n : Nat} {G : Ctx} {info : Fn → DI} {g : Addr → Option Obj} {s : Shared} (h : ∀ a, g a = s.heap.get? a) : obsLG n G info g = (hookL n G info).obs s := by
  have e : g = s.heap.get? := funext h
  rw [e] <;> rfl
theorem walk_lite {l : PySem.W.OpenLaw} {n k : Nat} {q : Program} {loose : List Str} {XP : (Str → Option Value) → Heap → Prop} {YP : World → Heap → Prop} {d : DefRec} {x : Str}
    (hn : l.most = some n) (hn2 : n ≤ sizeLine) (hdf : d.params.defaults = []) (hr : Room k callerA)
    (F : ∀ (w : World) (mg : Str → Option Value) (fa : Addr) (h : Heap), YP w h → h.Ns mainGlobals mg → mg d.name = some (.ref fa) →
      ∃ (K : PySem.W.Frag) (fd : FuncData) (sp : Sp), K.In h ∧ (∀ (s : Shared) (u : Value), BindsTo s fd ⟨[u], []⟩ [(x, u)]) ∧
        (∀ (H : Hp) (a : Addr) (ns : List Int), ns.length ≤ n → (∀ z ∈ ns, Builtin.Int.intBits z ≤ 1048576) → Only H → SqL K H a (ns.map V.int) → sp [.ref a] H (fun v _ => v = .bl true) fun _ _ _ => False) ∧
        ∀ base : Heap, K.In base → base.Ns mainGlobals mg → FnOk l.prog w K mg base (L2.CX l.prog w) k fa fd [x] sp) :
    PySem.W.WalkO q loose XP YP l.row.toRowW d [] (fun f vs => PySem.call f vs) := by
  refine Att.attach_callB hn hdf fun w s₀ s₁ mg mb fa o pm cd doc a vs ns G Y ho hd hcd hmg hobj hints hlen hbits hg => ?_
  obtain ⟨K, fd, sp, KX, hb, hsp, hF⟩ := F w mg fa _ Y G.T.g hmg
  refine law_call KX G.T.g G.T.b G.T.builtins G.T.nolimit hg hobj hints (Nat.le_trans hlen hn2) hr hF hb (fun H hO hS => hsp H a ns hlen hbits hO hS) fun H e s' c => ?_
  obtain ⟨_, _, _, _, _, _, _, _, _, _, _, _, z⟩ := c
  exact z
theorem fz_of {K : PySem.W.Frag} {H : Hp} {a : Addr} {xs : List V} (hO : Only H) (h : SqL K H a xs) : FzL K H a xs := by
  rcases h with h | h
  · rcases h with h | ⟨o, h⟩
    · rcases hO a with q | ⟨o, ys, q⟩
      · rw [q] at h; cases h
      · rw [q] at h; cases h
    · exact .inl ⟨o, h⟩
  · exact .inr h
theorem rpl_ints {K : PySem.W.Frag} {ca : Cl → Addr} {m : Nat → Addr} {n : Nat} {H : Hp} : ∀ ns : List Int, RpL K ca m n H (ns.map D.int) (ns.map V.int)
  | [] => rfl
  | n :: ns => ⟨_, _, rfl, rfl, rpl_ints ns⟩
/-- what is asked of a def's parameters -/
def BindP (i : DI) : Prop := (i.dfl = [] → ∀ (kV doc pm : Value) (an : Option Addr) (cdv ct : Value) (us : List Value), us.length = i.ps.length → bindArgs (PySem.W.fnOf i.name i.qual i.params i.body i.scope .none kV doc pm an cdv ct) ⟨us, []⟩ = pure (i.ps.zip us)) ∧
  (i.dfl ≠ [] → i.dfl.length ≤ i.ps.length ∧ ∀ j, j ≤ i.dfl.length → ∀ (T : Addr) (kV doc pm : Value) (an : Option Addr) (cdv ct : Value) (us its : List Value), us.length + (i.dfl.length - j) = i.ps.length → its.length = i.dfl.length →
    ∃ k, bindArgs (PySem.W.fnOf i.name i.qual i.params i.body i.scope (.ref T) kV doc pm an cdv ct) ⟨us, []⟩ = seqItems? (.ref T) >>= k ∧ k (some its.toArray) = pure (i.ps.zip (us ++ its.drop j)))
theorem binds_of {K : PySem.W.Frag} {i : DI} {f : Addr} {fd : FuncData} (F : FunD K i.name i.qual i.params i.body i.scope (dvsOf K i) [] f fd) (h : BindP i) : ∀ j, j ≤ i.dfl.length → ∃ ds, Vals ((dvsOf K i).drop j) ds ∧ Binds K fd i.ps ds := by
  intro j hj
  by_cases he : i.dfl = []
  · have e : dvsOf K i = [] := by unfold dvsOf; rw [he]; rfl
    rw [e] at F ⊢
    exact ⟨[], by rw [List.drop_nil]; exact .nil, F.bindsN (h.1 he)⟩
  · have hl : (dvsOf K i).length = i.dfl.length := by unfold dvsOf; rw [List.length_map]
    have hne : dvsOf K i ≠ [] := fun q => he (List.length_eq_zero_iff.mp (by rw [← hl, q]; rfl))
    obtain ⟨h0, h1⟩ := h.2 he
    refine F.binds1 (i.ps.length - (i.dfl.length - j)) j hne (by rw [hl]; omega) fun T kV doc pm an cdv ct us its hu hi => ?_
    exact h1 j hj T kV doc pm an cdv ct us its (by omega) (by rw [hi, hl])
theorem lite {l : PySem.W.OpenLaw} {n k j : Nat} {q : Program} {loose : List Str} {XP : (Str → Option Value) → Heap → Prop} {d : DefRec} {x : Str} {G : Ctx} {info : Fn → DI} {law : Fn} {dl : Def} (Z : Names0)
    (hn : l.most = some n) (hn2 : n ≤ sizeLine) (hdf : d.params.defaults = []) (hr : Room (k + 1) callerA) (ha : Fn.at law = .glo d.name) (hl : G.fn law = some dl) (hgl : G.glob law = true) (hnm : Fn.nm law = d.name) (hps : (info law).ps = [x])
    (hdef : ∀ f d, G.fn f = some d → defB G d (info f) = true ∧ d.dfl = (info f).dfl) (hld : (info law).dfl = [])
    (hbind : ∀ f, BindP (info f))
    (main : ∀ ns : List Int, ns.length ≤ n → (∀ z ∈ ns, Builtin.Int.intBits z ≤ 1048576) → ∃ s, callF G (k + 1) law [.fz (ns.map D.int)] [] = .ok (.bl true) s) :
    PySem.W.WalkO q loose XP (hookL j G info).says l.row.toRowW d [] (fun f vs => PySem.call f vs) := by
  refine walk_lite (x := x) hn hn2 hdf hr fun w mg fa h ⟨K, KX, c⟩ N hfa => ?_
  have c1 := ba (congrArg (fun z : He.AlD => z.1) c)
  have c2 : (Fn.all.map fun f => He5.fnA K (faOf K f)) = Fn.all.map fun f => (daOf info f).val := congrArg (fun z : He.AlD => z.2) c
  have mo := mok_of K G KX N Z c1.1
  have dv : ∀ f, (daOf info f).dvs K = dvsOf K (info f) := fun f => by
    show ((info f).dfl.map D.dv).map (He.Dv.v K) = _
    rw [List.map_map]
    rfl
  have fun_ : ∀ f, ∃ fd, FunD K (info f).name (info f).qual (info f).params (info f).body (info f).scope (dvsOf K (info f)) [] (faOf K f) fd := fun f => by
    obtain ⟨i, hi, e⟩ := List.mem_iff_getElem.mp (Fn.mem f)
    have e2 : (Fn.all.map fun f => He5.fnA K (faOf K f))[i]? = (Fn.all.map fun f => (daOf info f).val)[i]? := by rw [c2]
    rw [List.getElem?_map, List.getElem?_map, List.getElem?_eq_getElem hi, e] at e2
    have q := He5.DefA.funD (d := daOf info f) (Option.some.inj e2) (List.all_eq_true.mp c1.2 f (Fn.mem f))
    rw [dv f] at q
    exact q
  have D0 : Defs K G (plOf K) info := fun f d hf => by
    obtain ⟨fd, F⟩ := fun_ f
    exact ⟨(hdef f d hf).1, (hdef f d hf).2, mo.2 f, fd, F, binds_of F (hbind f)⟩
  obtain ⟨fd, F⟩ := fun_ law
  have e0 : fa = faOf K law := by
    have gl : (Fn.at law).adr K = He.ga K d.name := by rw [ha]; rfl
    show fa = (Fn.at law).adr K
    rw [gl]
    have q := mo.1.fnm law hgl
    rw [hnm, hfa] at q
    cases q
    show faOf K law = _
    unfold faOf
    rw [gl]
  subst e0
  refine ⟨K, fd, spF K (plOf K) (callF G (k + 1)) law, KX, fun s u => ?_, fun H a ns hlen hbits hO hS => ?_, fun base KB NB => ?_⟩
  · have e : dvsOf K (info law) = [] := by unfold dvsOf; rw [hld]; rfl
    rw [e] at F
    have b := FunD.bindsA (ps := (info law).ps) F ((hbind law).1 hld) s [u] (by rw [hps]; rfl)
    rw [hps] at b
    exact b
  · obtain ⟨s, e⟩ := main ns hlen hbits
    refine ⟨fun _ => 0, [], [.fz (ns.map D.int)], ⟨fun i o h => (by cases h), fun i j h => absurd h (Nat.not_lt_zero _)⟩, ⟨.ref a, [], rfl, ⟨a, _, rfl, fz_of hO hS, rpl_ints ns⟩, rfl⟩, ?_⟩
    rw [e]
    exact fun m' H' v _ _ rp => rp
  · have q := (calls_ok l.prog w base rfl mo.1 D0 k)
    have r := fn_ok (f := law) (pl := plOf K) rfl mo.1 F (hdef law dl hl).1 q.1 q.2
    rw [hps] at r
    refine r.imp fun vs H Q E ⟨m, s, ds, sr, rl, post⟩ => ⟨m, s, ds, sr, rl, ?_⟩
    rw [run_pad (fun _ _ _ => trivial) law hl] at post
    have e : padF dl ds = ds := by
      unfold padF
      rw [(hdef law dl hl).2, hld]
      simp
    rw [e] at post
    exact post
end Lt
/-! ### the evaluator, by equations -/
namespace Lt
open PySem
section
variable (G : Ctx) (C C1 : Calls)
def bodyF (t : Tg) (b : Sms) : D → Env → St → RS := fun d e s => match asgF G C C1 none t d e s with
  | .nx e s => evSs G C C1 none b e s
  | r => r
def condF (c : Ex) : Env → St → R Bool := fun e s => (evE G C C1 none c e s).bind truth
def blkF (b : Sms) : Env → St → RS := fun e s => evSs G C C1 none b e s
def elF (x : Ex) : Env → St → R D := fun e s => evE G C C1 none x e s
def andR (r : RS) (f : Env → St → RS) : RS := match r with
  | .nx e s => f e s
  | r => r
@[simp] theorem andR_nx (e : Env) (s : St) (f : Env → St → RS) : andR (.nx e s) f = f e s := rfl
@[simp] theorem andR_rt (d : D) (s : St) (f : Env → St → RS) : andR (.rt d s) f = .rt d s := rfl
@[simp] theorem andR_bk (e : Env) (s : St) (f : Env → St → RS) : andR (.bk e s) f = .bk e s := rfl
@[simp] theorem andR_ct (e : Env) (s : St) (f : Env → St → RS) : andR (.ct e s) f = .ct e s := rfl
@[simp] theorem andR_err (x : Xc) (e : Env) (s : St) (f : Env → St → RS) : andR (.err x e s) f = .err x e s := rfl
@[simp] theorem andR_bad (f : Env → St → RS) : andR .bad f = .bad := rfl
@[simp] theorem ofR_ok (e : Env) (d : D) (s : St) (f : D → St → RS) : RS.ofR e (.ok d s) f = f d s := rfl
@[simp] theorem ofR_err (e : Env) (x : Xc) (s : St) (f : D → St → RS) : RS.ofR e (.err x s) f = .err x e s := rfl
@[simp] theorem ofR_bad (e : Env) (f : D → St → RS) : RS.ofR e .bad f = .bad := rfl
@[simp] theorem ofI_ok (e : Env) (d : List D × Option Nat) (s : St) (f : List D × Option Nat → St → RS) : RS.ofI e (.ok d s) f = f d s := rfl
@[simp] theorem ofB_ok (e : Env) (d : Bool) (s : St) (f : Bool → St → RS) : RS.ofB e (.ok d s) f = f d s := rfl
@[simp] theorem ofB_err (e : Env) (x : Xc) (s : St) (f : Bool → St → RS) : RS.ofB e (.err x s) f = .err x e s := rfl
variable (e : Env) (s : St)
@[simp] theorem Q_nil : evSs G C C1 none .nil e s = .nx e s := rfl
@[simp] theorem Q_cons (a : Sm) (b : Sms) : evSs G C C1 none (.cons a b) e s = andR (evS G C C1 none a e s) fun e s => evSs G C C1 none b e s := rfl
@[simp] theorem S_expr (x : Ex) : evS G C C1 none (.expr x) e s = RS.ofR e (evE G C C1 none x e s) fun _ s => .nx e s := rfl
@[simp] theorem S_asg (i : Nat) (x : Ex) : evS G C C1 none (.asg (.nm i) x) e s = RS.ofR e (evE G C C1 none x e s) fun d s => .nx (e.set i (some d)) s := rfl
@[simp] theorem S_asgT (is : List Nat) (x : Ex) : evS G C C1 none (.asg (.tup is) x) e s = RS.ofR e (evE G C C1 none x e s) fun d s => asgF G C C1 none (.tup is) d e s := rfl
@[simp] theorem S_asgA (o : Ex) (f : At) (x : Ex) : evS G C C1 none (.asg (.att o f) x) e s = RS.ofR e (evE G C C1 none x e s) fun d s => RS.ofR e (evE G C C1 none o e s) fun x s => RS.ofR e (setF G x f d s) fun _ s => .nx e s := rfl
@[simp] theorem S_asgL (i : Nat) (x : Ex) : evS G C C1 none (.asgL i x) e s = RS.ofR e (evE G C C1 none x e s) fun d s => .nx (e.set i (some d)) s := rfl
@[simp] theorem S_aug (i : Nat) (o : Bop) (x : Ex) : evS G C C1 none (.aug i o x) e s = (match e[i]? with
    | some (some a) => RS.ofR e (evE G C C1 none x e s) fun d s => RS.ofR e (augF o a d s) fun r s => .nx (e.set i (some r)) s
    | _ => .bad) := rfl
@[simp] theorem S_ret (x : Ex) : evS G C C1 none (.ret x) e s = RS.ofR e (evE G C C1 none x e s) fun d s => .rt d s := rfl
@[simp] theorem S_retN : evS G C C1 none .retN e s = .rt .non s := rfl
@[simp] theorem S_pass : evS G C C1 none .pass e s = .nx e s := rfl
@[simp] theorem S_brk : evS G C C1 none .brk e s = .bk e s := rfl
@[simp] theorem S_cnt : evS G C C1 none .cnt e s = .ct e s := rfl
@[simp] theorem S_ite (c : Ex) (a b : Sms) : evS G C C1 none (.ite c a b) e s = RS.ofB e ((evE G C C1 none c e s).bind truth) fun t s => if t = true then evSs G C C1 none a e s else evSs G C C1 none b e s := rfl
@[simp] theorem S_whil (c : Ex) (b : Sms) : evS G C C1 none (.whil c b) e s = loopF (condF G C C1 c) (blkF G C C1 b) G.fuel e s := rfl
@[simp] theorem S_for (t : Tg) (it : It) (b : Sms) : evS G C C1 none (.fors t it b) e s = RS.ofI e (evI G C C1 none it e s) fun p s => forF (still p.1 p.2) (bodyF G C C1 t b) p.1 e s := rfl
@[simp] theorem S_rais (c : Cl) (es : Exs) : evS G C C1 none (.rais c es) e s = if (G.exc c && (!G.xini c && oneStr es)) = true then .err ⟨c, []⟩ e s else .bad := by
  show (if (false || !(G.exc c && (!G.xini c && oneStr es))) = true then RS.bad else .err ⟨c, []⟩ e s) = _
  cases (G.exc c && (!G.xini c && oneStr es)) <;> rfl
@[simp] theorem S_tri (b : Sms) (c : Cl) (i : Nat) (h : Sms) : evS G C C1 none (.tri b c i h) e s = (match evSs G C C1 none b e s with
    | .err x e' s' => if (G.exc x.cls && (G.exc c && decide (i < e'.length))) = true then (if G.sub x.cls c = true then (match evSs G C C1 (some x) h (e'.set i none) s' with
        | .nx e2 s2 => .nx (e2.set i none) s2
        | .rt d s2 => .rt d s2
        | .bk e2 s2 => .bk (e2.set i none) s2
        | .ct e2 s2 => .ct (e2.set i none) s2
        | .err _ _ _ => .bad
        | .bad => .bad) else .err x e' s') else .bad
    | r => r) := rfl
@[simp high] theorem E_lc (x : Ex) (one : Bool) (is : List Nat) (it : It) : evE G C C1 none (.lc x one is it .nil) e s = (evI G C C1 none it e s).bind fun p s => (lcF (still p.1 p.2) (itemF one is none (elF G C C1 x) (wipeE e is)) p.1 [] s).bind lstR := rfl
@[simp high] theorem E_lc1 (x c : Ex) (one : Bool) (is : List Nat) (it : It) : evE G C C1 none (.lc x one is it (.cons c .nil)) e s = (evI G C C1 none it e s).bind fun p s => (lcF (still p.1 p.2) (itemF one is (some (elF G C C1 c)) (elF G C C1 x) (wipeE e is)) p.1 [] s).bind lstR := rfl
end
/-- a walk with an invariant -/
theorem forF_inv {ok : St → Bool} {body : D → Env → St → RS} (P : List D → Env → St → Prop) : ∀ (ds : List D) (e : Env) (s : St), P ds e s →
    (∀ d ds e s, P (d :: ds) e s → ok s = true ∧ ∃ e' s', (body d e s = .nx e' s' ∨ body d e s = .ct e' s') ∧ P ds e' s') → (∀ e s, P [] e s → ok s = true) → ∃ e' s', forF ok body ds e s = .nx e' s' ∧ P [] e' s'
  | [], e, s, h, _, h0 => ⟨e, s, by unfold forF; rw [if_pos (h0 e s h)], h⟩
  | d :: ds, e, s, h, h1, h0 => by
    obtain ⟨ho, e', s', hb, hp⟩ := h1 d ds e s h
    obtain ⟨e2, s2, q1, q2⟩ := forF_inv P ds e' s' hp h1 h0
    refine ⟨e2, s2, ?_, q2⟩
    unfold forF
    rw [if_pos ho]
    rcases hb with hb | hb <;> rw [hb] <;> exact q1
/-- a while with a measure -/
theorem loopF_inv {c : Env → St → R Bool} {b : Env → St → RS} (P : Nat → Env → St → Prop) : ∀ (n m : Nat) (e : Env) (s : St), P m e s → m < n →
    (∀ m e s, P m e s → (∃ s', c e s = .ok true s' ∧ ∃ m' e' s2, m' < m ∧ (b e s' = .nx e' s2 ∨ b e s' = .ct e' s2) ∧ P m' e' s2) ∨ ∃ s', c e s = .ok false s' ∧ P 0 e s') → ∃ e' s', loopF c b n e s = .nx e' s' ∧ P 0 e' s'
  | 0, m, e, s, _, hm, _ => absurd hm (Nat.not_lt_zero _)
  | n + 1, m, e, s, h, hm, h1 => by
    rcases h1 m e s h with ⟨s', hc, m', e', s2, hl, hb, hp⟩ | ⟨s', hc, hp⟩
    · obtain ⟨e3, s3, q1, q2⟩ := loopF_inv P n m' e' s2 hp (by omega) h1
      refine ⟨e3, s3, ?_, q2⟩
      unfold loopF
      rw [hc]
      show (if true = true then (match b e s' with | .nx e' s' => loopF c b n e' s' | .ct e' s' => loopF c b n e' s' | .bk e' s' => .nx e' s' | r => r) else .nx e s') = _
      rw [if_pos rfl]
      rcases hb with hb | hb <;> rw [hb] <;> exact q1
    · refine ⟨e, s', ?_, hp⟩
      unfold loopF
      rw [hc]
      rfl
end Lt
/-! ### the evaluator, by small steps -/
namespace Lt
open PySem
section
@[simp] theorem at0 {α : Type} (a0 : α) (l : List α) : (a0 :: l)[0]? = some a0 := rfl
@[simp] theorem at1 {α : Type} (a0 a1 : α) (l : List α) : (a0 :: a1 :: l)[1]? = some a1 := rfl
@[simp] theorem at2 {α : Type} (a0 a1 a2 : α) (l : List α) : (a0 :: a1 :: a2 :: l)[2]? = some a2 := rfl
@[simp] theorem at3 {α : Type} (a0 a1 a2 a3 : α) (l : List α) : (a0 :: a1 :: a2 :: a3 :: l)[3]? = some a3 := rfl
@[simp] theorem at4 {α : Type} (a0 a1 a2 a3 a4 : α) (l : List α) : (a0 :: a1 :: a2 :: a3 :: a4 :: l)[4]? = some a4 := rfl
@[simp] theorem at5 {α : Type} (a0 a1 a2 a3 a4 a5 : α) (l : List α) : (a0 :: a1 :: a2 :: a3 :: a4 :: a5 :: l)[5]? = some a5 := rfl
@[simp] theorem at6 {α : Type} (a0 a1 a2 a3 a4 a5 a6 : α) (l : List α) : (a0 :: a1 :: a2 :: a3 :: a4 :: a5 :: a6 :: l)[6]? = some a6 := rfl
@[simp] theorem at7 {α : Type} (a0 a1 a2 a3 a4 a5 a6 a7 : α) (l : List α) : (a0 :: a1 :: a2 :: a3 :: a4 :: a5 :: a6 :: a7 :: l)[7]? = some a7 := rfl
@[simp] theorem at8 {α : Type} (a0 a1 a2 a3 a4 a5 a6 a7 a8 : α) (l : List α) : (a0 :: a1 :: a2 :: a3 :: a4 :: a5 :: a6 :: a7 :: a8 :: l)[8]? = some a8 := rfl
@[simp] theorem at9 {α : Type} (a0 a1 a2 a3 a4 a5 a6 a7 a8 a9 : α) (l : List α) : (a0 :: a1 :: a2 :: a3 :: a4 :: a5 :: a6 :: a7 :: a8 :: a9 :: l)[9]? = some a9 := rfl
@[simp] theorem at10 {α : Type} (a0 a1 a2 a3 a4 a5 a6 a7 a8 a9 a10 : α) (l : List α) : (a0 :: a1 :: a2 :: a3 :: a4 :: a5 :: a6 :: a7 :: a8 :: a9 :: a10 :: l)[10]? = some a10 := rfl
@[simp] theorem at11 {α : Type} (a0 a1 a2 a3 a4 a5 a6 a7 a8 a9 a10 a11 : α) (l : List α) : (a0 :: a1 :: a2 :: a3 :: a4 :: a5 :: a6 :: a7 :: a8 :: a9 :: a10 :: a11 :: l)[11]? = some a11 := rfl
@[simp] theorem at12 {α : Type} (a0 a1 a2 a3 a4 a5 a6 a7 a8 a9 a10 a11 a12 : α) (l : List α) : (a0 :: a1 :: a2 :: a3 :: a4 :: a5 :: a6 :: a7 :: a8 :: a9 :: a10 :: a11 :: a12 :: l)[12]? = some a12 := rfl
@[simp] theorem at13 {α : Type} (a0 a1 a2 a3 a4 a5 a6 a7 a8 a9 a10 a11 a12 a13 : α) (l : List α) : (a0 :: a1 :: a2 :: a3 :: a4 :: a5 :: a6 :: a7 :: a8 :: a9 :: a10 :: a11 :: a12 :: a13 :: l)[13]? = some a13 := rfl
@[simp] theorem at14 {α : Type} (a0 a1 a2 a3 a4 a5 a6 a7 a8 a9 a10 a11 a12 a13 a14 : α) (l : List α) : (a0 :: a1 :: a2 :: a3 :: a4 :: a5 :: a6 :: a7 :: a8 :: a9 :: a10 :: a11 :: a12 :: a13 :: a14 :: l)[14]? = some a14 := rfl
@[simp] theorem at15 {α : Type} (a0 a1 a2 a3 a4 a5 a6 a7 a8 a9 a10 a11 a12 a13 a14 a15 : α) (l : List α) : (a0 :: a1 :: a2 :: a3 :: a4 :: a5 :: a6 :: a7 :: a8 :: a9 :: a10 :: a11 :: a12 :: a13 :: a14 :: a15 :: l)[15]? = some a15 := rfl
@[simp] theorem at16 {α : Type} (a0 a1 a2 a3 a4 a5 a6 a7 a8 a9 a10 a11 a12 a13 a14 a15 a16 : α) (l : List α) : (a0 :: a1 :: a2 :: a3 :: a4 :: a5 :: a6 :: a7 :: a8 :: a9 :: a10 :: a11 :: a12 :: a13 :: a14 :: a15 :: a16 :: l)[16]? = some a16 := rfl
@[simp] theorem at17 {α : Type} (a0 a1 a2 a3 a4 a5 a6 a7 a8 a9 a10 a11 a12 a13 a14 a15 a16 a17 : α) (l : List α) : (a0 :: a1 :: a2 :: a3 :: a4 :: a5 :: a6 :: a7 :: a8 :: a9 :: a10 :: a11 :: a12 :: a13 :: a14 :: a15 :: a16 :: a17 :: l)[17]? = some a17 := rfl
@[simp] theorem set0 {α : Type} (a0 x : α) (l : List α) : (a0 :: l).set 0 x = x :: l := rfl
@[simp] theorem set1 {α : Type} (a0 a1 x : α) (l : List α) : (a0 :: a1 :: l).set 1 x = a0 :: x :: l := rfl
@[simp] theorem set2 {α : Type} (a0 a1 a2 x : α) (l : List α) : (a0 :: a1 :: a2 :: l).set 2 x = a0 :: a1 :: x :: l := rfl
@[simp] theorem set3 {α : Type} (a0 a1 a2 a3 x : α) (l : List α) : (a0 :: a1 :: a2 :: a3 :: l).set 3 x = a0 :: a1 :: a2 :: x :: l := rfl
@[simp] theorem set4 {α : Type} (a0 a1 a2 a3 a4 x : α) (l : List α) : (a0 :: a1 :: a2 :: a3 :: a4 :: l).set 4 x = a0 :: a1 :: a2 :: a3 :: x :: l := rfl
@[simp] theorem set5 {α : Type} (a0 a1 a2 a3 a4 a5 x : α) (l : List α) : (a0 :: a1 :: a2 :: a3 :: a4 :: a5 :: l).set 5 x = a0 :: a1 :: a2 :: a3 :: a4 :: x :: l := rfl
@[simp] theorem set6 {α : Type} (a0 a1 a2 a3 a4 a5 a6 x : α) (l : List α) : (a0 :: a1 :: a2 :: a3 :: a4 :: a5 :: a6 :: l).set 6 x = a0 :: a1 :: a2 :: a3 :: a4 :: a5 :: x :: l := rfl
@[simp] theorem set7 {α : Type} (a0 a1 a2 a3 a4 a5 a6 a7 x : α) (l : List α) : (a0 :: a1 :: a2 :: a3 :: a4 :: a5 :: a6 :: a7 :: l).set 7 x = a0 :: a1 :: a2 :: a3 :: a4 :: a5 :: a6 :: x :: l := rfl
@[simp] theorem set8 {α : Type} (a0 a1 a2 a3 a4 a5 a6 a7 a8 x : α) (l : List α) : (a0 :: a1 :: a2 :: a3 :: a4 :: a5 :: a6 :: a7 :: a8 :: l).set 8 x = a0 :: a1 :: a2 :: a3 :: a4 :: a5 :: a6 :: a7 :: x :: l := rfl
@[simp] theorem set9 {α : Type} (a0 a1 a2 a3 a4 a5 a6 a7 a8 a9 x : α) (l : List α) : (a0 :: a1 :: a2 :: a3 :: a4 :: a5 :: a6 :: a7 :: a8 :: a9 :: l).set 9 x = a0 :: a1 :: a2 :: a3 :: a4 :: a5 :: a6 :: a7 :: a8 :: x :: l := rfl
@[simp] theorem set10 {α : Type} (a0 a1 a2 a3 a4 a5 a6 a7 a8 a9 a10 x : α) (l : List α) : (a0 :: a1 :: a2 :: a3 :: a4 :: a5 :: a6 :: a7 :: a8 :: a9 :: a10 :: l).set 10 x = a0 :: a1 :: a2 :: a3 :: a4 :: a5 :: a6 :: a7 :: a8 :: a9 :: x :: l := rfl
@[simp] theorem set11 {α : Type} (a0 a1 a2 a3 a4 a5 a6 a7 a8 a9 a10 a11 x : α) (l : List α) : (a0 :: a1 :: a2 :: a3 :: a4 :: a5 :: a6 :: a7 :: a8 :: a9 :: a10 :: a11 :: l).set 11 x = a0 :: a1 :: a2 :: a3 :: a4 :: a5 :: a6 :: a7 :: a8 :: a9 :: a10 :: x :: l := rfl
@[simp] theorem set12 {α : Type} (a0 a1 a2 a3 a4 a5 a6 a7 a8 a9 a10 a11 a12 x : α) (l : List α) : (a0 :: a1 :: a2 :: a3 :: a4 :: a5 :: a6 :: a7 :: a8 :: a9 :: a10 :: a11 :: a12 :: l).set 12 x = a0 :: a1 :: a2 :: a3 :: a4 :: a5 :: a6 :: a7 :: a8 :: a9 :: a10 :: a11 :: x :: l := rfl
@[simp] theorem set13 {α : Type} (a0 a1 a2 a3 a4 a5 a6 a7 a8 a9 a10 a11 a12 a13 x : α) (l : List α) : (a0 :: a1 :: a2 :: a3 :: a4 :: a5 :: a6 :: a7 :: a8 :: a9 :: a10 :: a11 :: a12 :: a13 :: l).set 13 x = a0 :: a1 :: a2 :: a3 :: a4 :: a5 :: a6 :: a7 :: a8 :: a9 :: a10 :: a11 :: a12 :: x :: l := rfl
@[simp] theorem set14 {α : Type} (a0 a1 a2 a3 a4 a5 a6 a7 a8 a9 a10 a11 a12 a13 a14 x : α) (l : List α) : (a0 :: a1 :: a2 :: a3 :: a4 :: a5 :: a6 :: a7 :: a8 :: a9 :: a10 :: a11 :: a12 :: a13 :: a14 :: l).set 14 x = a0 :: a1 :: a2 :: a3 :: a4 :: a5 :: a6 :: a7 :: a8 :: a9 :: a10 :: a11 :: a12 :: a13 :: x :: l := rfl
@[simp] theorem set15 {α : Type} (a0 a1 a2 a3 a4 a5 a6 a7 a8 a9 a10 a11 a12 a13 a14 a15 x : α) (l : List α) : (a0 :: a1 :: a2 :: a3 :: a4 :: a5 :: a6 :: a7 :: a8 :: a9 :: a10 :: a11 :: a12 :: a13 :: a14 :: a15 :: l).set 15 x = a0 :: a1 :: a2 :: a3 :: a4 :: a5 :: a6 :: a7 :: a8 :: a9 :: a10 :: a11 :: a12 :: a13 :: a14 :: x :: l := rfl
@[simp] theorem set16 {α : Type} (a0 a1 a2 a3 a4 a5 a6 a7 a8 a9 a10 a11 a12 a13 a14 a15 a16 x : α) (l : List α) : (a0 :: a1 :: a2 :: a3 :: a4 :: a5 :: a6 :: a7 :: a8 :: a9 :: a10 :: a11 :: a12 :: a13 :: a14 :: a15 :: a16 :: l).set 16 x = a0 :: a1 :: a2 :: a3 :: a4 :: a5 :: a6 :: a7 :: a8 :: a9 :: a10 :: a11 :: a12 :: a13 :: a14 :: a15 :: x :: l := rfl
@[simp] theorem set17 {α : Type} (a0 a1 a2 a3 a4 a5 a6 a7 a8 a9 a10 a11 a12 a13 a14 a15 a16 a17 x : α) (l : List α) : (a0 :: a1 :: a2 :: a3 :: a4 :: a5 :: a6 :: a7 :: a8 :: a9 :: a10 :: a11 :: a12 :: a13 :: a14 :: a15 :: a16 :: a17 :: l).set 17 x = a0 :: a1 :: a2 :: a3 :: a4 :: a5 :: a6 :: a7 :: a8 :: a9 :: a10 :: a11 :: a12 :: a13 :: a14 :: a15 :: a16 :: x :: l := rfl

variable (G : Ctx) (C C1 : Calls) (e : Env) (s : St)
/-! congruence: what comes later waits -/
theorem bind_cg {α β : Type} {r r' : R α} {f : α → St → R β} (h : r = r') : R.bind r f = R.bind r' f := by rw [h]
theorem andR_cg {r r' : RS} {f : Env → St → RS} (h : r = r') : andR r f = andR r' f := by rw [h]
theorem ofR_cg {e : Env} {r r' : R D} {f : D → St → RS} (h : r = r') : RS.ofR e r f = RS.ofR e r' f := by rw [h]
theorem ofB_cg {e : Env} {r r' : R Bool} {f : Bool → St → RS} (h : r = r') : RS.ofB e r f = RS.ofB e r' f := by rw [h]
theorem ofI_cg {e : Env} {r r' : R (List D × Option Nat)} {f : List D × Option Nat → St → RS} (h : r = r') : RS.ofI e r f = RS.ofI e r' f := by rw [h]
/-! helpers that read a fact -/
def vr (o : Option (Option D)) (s : St) : R D := match o with
  | some (some d) => .ok d s
  | _ => .bad
@[simp] theorem vr_ok (d : D) (s : St) : vr (some (some d)) s = .ok d s := rfl
def optR (o : Option D) (s : St) : R D := match o with
  | some d => .ok d s
  | none => .bad
@[simp] theorem optR_ok (d : D) (s : St) : optR (some d) s = .ok d s := rfl
def optB (o : Option Bool) (s : St) : R D := match o with
  | some b => .ok (.bl b) s
  | none => .bad
@[simp] theorem optB_ok (b : Bool) (s : St) : optB (some b) s = .ok (.bl b) s := rfl
def truR (o : Option Bool) (s : St) : R Bool := match o with
  | some b => .ok b s
  | none => .bad
@[simp] theorem truR_ok (b : Bool) (s : St) : truR (some b) s = .ok b s := rfl
def selR (o : Option Bool) (a b : R D) : R D := match o with
  | some true => a
  | some false => b
  | none => .bad
@[simp] theorem selR_t (a b : R D) : selR (some true) a b = a := rfl
@[simp] theorem selR_f (a b : R D) : selR (some false) a b = b := rfl
theorem selR_cg {o o' : Option Bool} {a b : R D} (h : o = o') : selR o a b = selR o' a b := by rw [h]
theorem selR_ite (p : Bool) (a b : R D) : selR (some p) a b = if p = true then a else b := by cases p <;> rfl
def optN (o : Option Bool) (s : St) : R D := match o with
  | some b => .ok (.bl (!b)) s
  | none => .bad
@[simp] theorem optN_ok (b : Bool) (s : St) : optN (some b) s = .ok (.bl (!b)) s := rfl
def tupR (ds : List D) (s : St) : R D := if ds.length ≤ lim then .ok (.tup ds) s else .bad
def lsR (ds : List D) (s : St) : R D := if ds.length ≤ lim then .ok (.obj s.length) (s ++ [.lst ds]) else .bad
@[simp] theorem lsR0 : lsR [] s = .ok (.obj s.length) (s ++ [.lst []]) := rfl
@[simp] theorem tupR1 (a0 : D) (s : St) : tupR [a0] s = .ok (.tup [a0]) s := if_pos (by simp [lim])
@[simp] theorem lsR1 (a0 : D) (s : St) : lsR [a0] s = .ok (.obj s.length) (s ++ [.lst [a0]]) := if_pos (by simp [lim])
@[simp] theorem tupR2 (a0 a1 : D) (s : St) : tupR [a0, a1] s = .ok (.tup [a0, a1]) s := if_pos (by simp [lim])
@[simp] theorem lsR2 (a0 a1 : D) (s : St) : lsR [a0, a1] s = .ok (.obj s.length) (s ++ [.lst [a0, a1]]) := if_pos (by simp [lim])
@[simp] theorem tupR3 (a0 a1 a2 : D) (s : St) : tupR [a0, a1, a2] s = .ok (.tup [a0, a1, a2]) s := if_pos (by simp [lim])
@[simp] theorem lsR3 (a0 a1 a2 : D) (s : St) : lsR [a0, a1, a2] s = .ok (.obj s.length) (s ++ [.lst [a0, a1, a2]]) := if_pos (by simp [lim])
@[simp] theorem tupR4 (a0 a1 a2 a3 : D) (s : St) : tupR [a0, a1, a2, a3] s = .ok (.tup [a0, a1, a2, a3]) s := if_pos (by simp [lim])
@[simp] theorem lsR4 (a0 a1 a2 a3 : D) (s : St) : lsR [a0, a1, a2, a3] s = .ok (.obj s.length) (s ++ [.lst [a0, a1, a2, a3]]) := if_pos (by simp [lim])
@[simp] theorem tupR5 (a0 a1 a2 a3 a4 : D) (s : St) : tupR [a0, a1, a2, a3, a4] s = .ok (.tup [a0, a1, a2, a3, a4]) s := if_pos (by simp [lim])
@[simp] theorem lsR5 (a0 a1 a2 a3 a4 : D) (s : St) : lsR [a0, a1, a2, a3, a4] s = .ok (.obj s.length) (s ++ [.lst [a0, a1, a2, a3, a4]]) := if_pos (by simp [lim])
@[simp] theorem tupR6 (a0 a1 a2 a3 a4 a5 : D) (s : St) : tupR [a0, a1, a2, a3, a4, a5] s = .ok (.tup [a0, a1, a2, a3, a4, a5]) s := if_pos (by simp [lim])
@[simp] theorem lsR6 (a0 a1 a2 a3 a4 a5 : D) (s : St) : lsR [a0, a1, a2, a3, a4, a5] s = .ok (.obj s.length) (s ++ [.lst [a0, a1, a2, a3, a4, a5]]) := if_pos (by simp [lim])
@[simp] theorem tupR7 (a0 a1 a2 a3 a4 a5 a6 : D) (s : St) : tupR [a0, a1, a2, a3, a4, a5, a6] s = .ok (.tup [a0, a1, a2, a3, a4, a5, a6]) s := if_pos (by simp [lim])
@[simp] theorem lsR7 (a0 a1 a2 a3 a4 a5 a6 : D) (s : St) : lsR [a0, a1, a2, a3, a4, a5, a6] s = .ok (.obj s.length) (s ++ [.lst [a0, a1, a2, a3, a4, a5, a6]]) := if_pos (by simp [lim])
@[simp] theorem tupR8 (a0 a1 a2 a3 a4 a5 a6 a7 : D) (s : St) : tupR [a0, a1, a2, a3, a4, a5, a6, a7] s = .ok (.tup [a0, a1, a2, a3, a4, a5, a6, a7]) s := if_pos (by simp [lim])
@[simp] theorem lsR8 (a0 a1 a2 a3 a4 a5 a6 a7 : D) (s : St) : lsR [a0, a1, a2, a3, a4, a5, a6, a7] s = .ok (.obj s.length) (s ++ [.lst [a0, a1, a2, a3, a4, a5, a6, a7]]) := if_pos (by simp [lim])
@[simp] theorem tupR9 (b0 b1 b2 b3 b4 b5 b6 b7 b8 : D) (s : St) : tupR [b0, b1, b2, b3, b4, b5, b6, b7, b8] s = .ok (.tup [b0, b1, b2, b3, b4, b5, b6, b7, b8]) s := if_pos (by simp [lim])
@[simp] theorem lsR9 (b0 b1 b2 b3 b4 b5 b6 b7 b8 : D) (s : St) : lsR [b0, b1, b2, b3, b4, b5, b6, b7, b8] s = .ok (.obj s.length) (s ++ [.lst [b0, b1, b2, b3, b4, b5, b6, b7, b8]]) := if_pos (by simp [lim])
@[simp] theorem tupR10 (b0 b1 b2 b3 b4 b5 b6 b7 b8 b9 : D) (s : St) : tupR [b0, b1, b2, b3, b4, b5, b6, b7, b8, b9] s = .ok (.tup [b0, b1, b2, b3, b4, b5, b6, b7, b8, b9]) s := if_pos (by simp [lim])
@[simp] theorem lsR10 (b0 b1 b2 b3 b4 b5 b6 b7 b8 b9 : D) (s : St) : lsR [b0, b1, b2, b3, b4, b5, b6, b7, b8, b9] s = .ok (.obj s.length) (s ++ [.lst [b0, b1, b2, b3, b4, b5, b6, b7, b8, b9]]) := if_pos (by simp [lim])
@[simp] theorem tupR11 (b0 b1 b2 b3 b4 b5 b6 b7 b8 b9 b10 : D) (s : St) : tupR [b0, b1, b2, b3, b4, b5, b6, b7, b8, b9, b10] s = .ok (.tup [b0, b1, b2, b3, b4, b5, b6, b7, b8, b9, b10]) s := if_pos (by simp [lim])
@[simp] theorem lsR11 (b0 b1 b2 b3 b4 b5 b6 b7 b8 b9 b10 : D) (s : St) : lsR [b0, b1, b2, b3, b4, b5, b6, b7, b8, b9, b10] s = .ok (.obj s.length) (s ++ [.lst [b0, b1, b2, b3, b4, b5, b6, b7, b8, b9, b10]]) := if_pos (by simp [lim])
@[simp] theorem tupR12 (b0 b1 b2 b3 b4 b5 b6 b7 b8 b9 b10 b11 : D) (s : St) : tupR [b0, b1, b2, b3, b4, b5, b6, b7, b8, b9, b10, b11] s = .ok (.tup [b0, b1, b2, b3, b4, b5, b6, b7, b8, b9, b10, b11]) s := if_pos (by simp [lim])
@[simp] theorem lsR12 (b0 b1 b2 b3 b4 b5 b6 b7 b8 b9 b10 b11 : D) (s : St) : lsR [b0, b1, b2, b3, b4, b5, b6, b7, b8, b9, b10, b11] s = .ok (.obj s.length) (s ++ [.lst [b0, b1, b2, b3, b4, b5, b6, b7, b8, b9, b10, b11]]) := if_pos (by simp [lim])
@[simp] theorem tupR13 (b0 b1 b2 b3 b4 b5 b6 b7 b8 b9 b10 b11 b12 : D) (s : St) : tupR [b0, b1, b2, b3, b4, b5, b6, b7, b8, b9, b10, b11, b12] s = .ok (.tup [b0, b1, b2, b3, b4, b5, b6, b7, b8, b9, b10, b11, b12]) s := if_pos (by simp [lim])
@[simp] theorem lsR13 (b0 b1 b2 b3 b4 b5 b6 b7 b8 b9 b10 b11 b12 : D) (s : St) : lsR [b0, b1, b2, b3, b4, b5, b6, b7, b8, b9, b10, b11, b12] s = .ok (.obj s.length) (s ++ [.lst [b0, b1, b2, b3, b4, b5, b6, b7, b8, b9, b10, b11, b12]]) := if_pos (by simp [lim])
@[simp] theorem tupR14 (b0 b1 b2 b3 b4 b5 b6 b7 b8 b9 b10 b11 b12 b13 : D) (s : St) : tupR [b0, b1, b2, b3, b4, b5, b6, b7, b8, b9, b10, b11, b12, b13] s = .ok (.tup [b0, b1, b2, b3, b4, b5, b6, b7, b8, b9, b10, b11, b12, b13]) s := if_pos (by simp [lim])
@[simp] theorem lsR14 (b0 b1 b2 b3 b4 b5 b6 b7 b8 b9 b10 b11 b12 b13 : D) (s : St) : lsR [b0, b1, b2, b3, b4, b5, b6, b7, b8, b9, b10, b11, b12, b13] s = .ok (.obj s.length) (s ++ [.lst [b0, b1, b2, b3, b4, b5, b6, b7, b8, b9, b10, b11, b12, b13]]) := if_pos (by simp [lim])
@[simp] theorem tupR15 (b0 b1 b2 b3 b4 b5 b6 b7 b8 b9 b10 b11 b12 b13 b14 : D) (s : St) : tupR [b0, b1, b2, b3, b4, b5, b6, b7, b8, b9, b10, b11, b12, b13, b14] s = .ok (.tup [b0, b1, b2, b3, b4, b5, b6, b7, b8, b9, b10, b11, b12, b13, b14]) s := if_pos (by simp [lim])
@[simp] theorem lsR15 (b0 b1 b2 b3 b4 b5 b6 b7 b8 b9 b10 b11 b12 b13 b14 : D) (s : St) : lsR [b0, b1, b2, b3, b4, b5, b6, b7, b8, b9, b10, b11, b12, b13, b14] s = .ok (.obj s.length) (s ++ [.lst [b0, b1, b2, b3, b4, b5, b6, b7, b8, b9, b10, b11, b12, b13, b14]]) := if_pos (by simp [lim])
@[simp] theorem tupR16 (b0 b1 b2 b3 b4 b5 b6 b7 b8 b9 b10 b11 b12 b13 b14 b15 : D) (s : St) : tupR [b0, b1, b2, b3, b4, b5, b6, b7, b8, b9, b10, b11, b12, b13, b14, b15] s = .ok (.tup [b0, b1, b2, b3, b4, b5, b6, b7, b8, b9, b10, b11, b12, b13, b14, b15]) s := if_pos (by simp [lim])
@[simp] theorem lsR16 (b0 b1 b2 b3 b4 b5 b6 b7 b8 b9 b10 b11 b12 b13 b14 b15 : D) (s : St) : lsR [b0, b1, b2, b3, b4, b5, b6, b7, b8, b9, b10, b11, b12, b13, b14, b15] s = .ok (.obj s.length) (s ++ [.lst [b0, b1, b2, b3, b4, b5, b6, b7, b8, b9, b10, b11, b12, b13, b14, b15]]) := if_pos (by simp [lim])
@[simp] theorem tupR17 (b0 b1 b2 b3 b4 b5 b6 b7 b8 b9 b10 b11 b12 b13 b14 b15 b16 : D) (s : St) : tupR [b0, b1, b2, b3, b4, b5, b6, b7, b8, b9, b10, b11, b12, b13, b14, b15, b16] s = .ok (.tup [b0, b1, b2, b3, b4, b5, b6, b7, b8, b9, b10, b11, b12, b13, b14, b15, b16]) s := if_pos (by simp [lim])
@[simp] theorem lsR17 (b0 b1 b2 b3 b4 b5 b6 b7 b8 b9 b10 b11 b12 b13 b14 b15 b16 : D) (s : St) : lsR [b0, b1, b2, b3, b4, b5, b6, b7, b8, b9, b10, b11, b12, b13, b14, b15, b16] s = .ok (.obj s.length) (s ++ [.lst [b0, b1, b2, b3, b4, b5, b6, b7, b8, b9, b10, b11, b12, b13, b14, b15, b16]]) := if_pos (by simp [lim])
@[simp] theorem tupR18 (b0 b1 b2 b3 b4 b5 b6 b7 b8 b9 b10 b11 b12 b13 b14 b15 b16 b17 : D) (s : St) : tupR [b0, b1, b2, b3, b4, b5, b6, b7, b8, b9, b10, b11, b12, b13, b14, b15, b16, b17] s = .ok (.tup [b0, b1, b2, b3, b4, b5, b6, b7, b8, b9, b10, b11, b12, b13, b14, b15, b16, b17]) s := if_pos (by simp [lim])
@[simp] theorem lsR18 (b0 b1 b2 b3 b4 b5 b6 b7 b8 b9 b10 b11 b12 b13 b14 b15 b16 b17 : D) (s : St) : lsR [b0, b1, b2, b3, b4, b5, b6, b7, b8, b9, b10, b11, b12, b13, b14, b15, b16, b17] s = .ok (.obj s.length) (s ++ [.lst [b0, b1, b2, b3, b4, b5, b6, b7, b8, b9, b10, b11, b12, b13, b14, b15, b16, b17]]) := if_pos (by simp [lim])
@[simp] theorem tupR19 (b0 b1 b2 b3 b4 b5 b6 b7 b8 b9 b10 b11 b12 b13 b14 b15 b16 b17 b18 : D) (s : St) : tupR [b0, b1, b2, b3, b4, b5, b6, b7, b8, b9, b10, b11, b12, b13, b14, b15, b16, b17, b18] s = .ok (.tup [b0, b1, b2, b3, b4, b5, b6, b7, b8, b9, b10, b11, b12, b13, b14, b15, b16, b17, b18]) s := if_pos (by simp [lim])
@[simp] theorem lsR19 (b0 b1 b2 b3 b4 b5 b6 b7 b8 b9 b10 b11 b12 b13 b14 b15 b16 b17 b18 : D) (s : St) : lsR [b0, b1, b2, b3, b4, b5, b6, b7, b8, b9, b10, b11, b12, b13, b14, b15, b16, b17, b18] s = .ok (.obj s.length) (s ++ [.lst [b0, b1, b2, b3, b4, b5, b6, b7, b8, b9, b10, b11, b12, b13, b14, b15, b16, b17, b18]]) := if_pos (by simp [lim])
@[simp] theorem tupR20 (b0 b1 b2 b3 b4 b5 b6 b7 b8 b9 b10 b11 b12 b13 b14 b15 b16 b17 b18 b19 : D) (s : St) : tupR [b0, b1, b2, b3, b4, b5, b6, b7, b8, b9, b10, b11, b12, b13, b14, b15, b16, b17, b18, b19] s = .ok (.tup [b0, b1, b2, b3, b4, b5, b6, b7, b8, b9, b10, b11, b12, b13, b14, b15, b16, b17, b18, b19]) s := if_pos (by simp [lim])
@[simp] theorem lsR20 (b0 b1 b2 b3 b4 b5 b6 b7 b8 b9 b10 b11 b12 b13 b14 b15 b16 b17 b18 b19 : D) (s : St) : lsR [b0, b1, b2, b3, b4, b5, b6, b7, b8, b9, b10, b11, b12, b13, b14, b15, b16, b17, b18, b19] s = .ok (.obj s.length) (s ++ [.lst [b0, b1, b2, b3, b4, b5, b6, b7, b8, b9, b10, b11, b12, b13, b14, b15, b16, b17, b18, b19]]) := if_pos (by simp [lim])
@[simp] theorem tupR21 (b0 b1 b2 b3 b4 b5 b6 b7 b8 b9 b10 b11 b12 b13 b14 b15 b16 b17 b18 b19 b20 : D) (s : St) : tupR [b0, b1, b2, b3, b4, b5, b6, b7, b8, b9, b10, b11, b12, b13, b14, b15, b16, b17, b18, b19, b20] s = .ok (.tup [b0, b1, b2, b3, b4, b5, b6, b7, b8, b9, b10, b11, b12, b13, b14, b15, b16, b17, b18, b19, b20]) s := if_pos (by simp [lim])
@[simp] theorem lsR21 (b0 b1 b2 b3 b4 b5 b6 b7 b8 b9 b10 b11 b12 b13 b14 b15 b16 b17 b18 b19 b20 : D) (s : St) : lsR [b0, b1, b2, b3, b4, b5, b6, b7, b8, b9, b10, b11, b12, b13, b14, b15, b16, b17, b18, b19, b20] s = .ok (.obj s.length) (s ++ [.lst [b0, b1, b2, b3, b4, b5, b6, b7, b8, b9, b10, b11, b12, b13, b14, b15, b16, b17, b18, b19, b20]]) := if_pos (by simp [lim])
@[simp] theorem tupR22 (b0 b1 b2 b3 b4 b5 b6 b7 b8 b9 b10 b11 b12 b13 b14 b15 b16 b17 b18 b19 b20 b21 : D) (s : St) : tupR [b0, b1, b2, b3, b4, b5, b6, b7, b8, b9, b10, b11, b12, b13, b14, b15, b16, b17, b18, b19, b20, b21] s = .ok (.tup [b0, b1, b2, b3, b4, b5, b6, b7, b8, b9, b10, b11, b12, b13, b14, b15, b16, b17, b18, b19, b20, b21]) s := if_pos (by simp [lim])
@[simp] theorem lsR22 (b0 b1 b2 b3 b4 b5 b6 b7 b8 b9 b10 b11 b12 b13 b14 b15 b16 b17 b18 b19 b20 b21 : D) (s : St) : lsR [b0, b1, b2, b3, b4, b5, b6, b7, b8, b9, b10, b11, b12, b13, b14, b15, b16, b17, b18, b19, b20, b21] s = .ok (.obj s.length) (s ++ [.lst [b0, b1, b2, b3, b4, b5, b6, b7, b8, b9, b10, b11, b12, b13, b14, b15, b16, b17, b18, b19, b20, b21]]) := if_pos (by simp [lim])
@[simp] theorem tupR23 (b0 b1 b2 b3 b4 b5 b6 b7 b8 b9 b10 b11 b12 b13 b14 b15 b16 b17 b18 b19 b20 b21 b22 : D) (s : St) : tupR [b0, b1, b2, b3, b4, b5, b6, b7, b8, b9, b10, b11, b12, b13, b14, b15, b16, b17, b18, b19, b20, b21, b22] s = .ok (.tup [b0, b1, b2, b3, b4, b5, b6, b7, b8, b9, b10, b11, b12, b13, b14, b15, b16, b17, b18, b19, b20, b21, b22]) s := if_pos (by simp [lim])
@[simp] theorem lsR23 (b0 b1 b2 b3 b4 b5 b6 b7 b8 b9 b10 b11 b12 b13 b14 b15 b16 b17 b18 b19 b20 b21 b22 : D) (s : St) : lsR [b0, b1, b2, b3, b4, b5, b6, b7, b8, b9, b10, b11, b12, b13, b14, b15, b16, b17, b18, b19, b20, b21, b22] s = .ok (.obj s.length) (s ++ [.lst [b0, b1, b2, b3, b4, b5, b6, b7, b8, b9, b10, b11, b12, b13, b14, b15, b16, b17, b18, b19, b20, b21, b22]]) := if_pos (by simp [lim])
/-! truth -/
@[simp] theorem truth_eq (d : D) : truth d s = truR (truF s d) s := rfl
def truO (o : Option Ob) : Option Bool := match o with
  | some (.lst xs) => some (!xs.isEmpty)
  | _ => none
@[simp] theorem truO_l (xs : List D) : truO (some (.lst xs)) = some (!xs.isEmpty) := rfl
@[simp] theorem truF_non : truF s .non = some false := rfl
@[simp] theorem truF_bl (b : Bool) : truF s (.bl b) = some b := rfl
@[simp] theorem truF_int (i : Int) : truF s (.int i) = some (decide (i ≠ 0)) := rfl
@[simp] theorem truF_tup (xs : List D) : truF s (.tup xs) = some (!xs.isEmpty) := rfl
@[simp] theorem truF_obj (i : Nat) : truF s (.obj i) = truO s[i]? := rfl
theorem truF_str {x : List Nat} (h : x.length ≤ lim) : truF s (.str x) = some (!x.isEmpty) := if_pos h
/-! operators -/
@[simp] theorem opF_int (o : Bop) (i : Int) (y : D) : opF G C o (.int i) y s = binF o (.int i) y s := rfl
@[simp] theorem opF_str (o : Bop) (i : List Nat) (y : D) : opF G C o (.str i) y s = binF o (.str i) y s := rfl
@[simp] theorem opF_tup (o : Bop) (i : List D) (y : D) : opF G C o (.tup i) y s = binF o (.tup i) y s := rfl
@[simp] theorem opF_bl (o : Bop) (i : Bool) (y : D) : opF G C o (.bl i) y s = binF o (.bl i) y s := rfl
def opO (o : Bop) (a b : D) (ob : Option Ob) (s : St) : R D := match ob with
  | some (.ins c _) => (match binA o with
    | some m => if insC s b = some c then methF G C a m [b] s else .bad
    | none => .bad)
  | _ => binF o a b s
@[simp] theorem opF_obj (o : Bop) (i : Nat) (y : D) : opF G C o (.obj i) y s = opO G C o (.obj i) y s[i]? s := by
  unfold opF opO
  simp only [insC]
  all_goals cases h : s[i]? with
  | none => rfl
  | some q => cases q <;> rfl
def opM (c : Cl) (a b : D) (m : Option At) (q : Option Cl) (s : St) : R D := match m with
  | some m => if q = some c then methF G C a m [b] s else .bad
  | none => .bad
@[simp] theorem opO_ins (o : Bop) (a b : D) (c : Cl) (fs : List (At × D)) : opO G C o a b (some (.ins c fs)) s = opM G C c a b (binA o) (insC s b) s := rfl
@[simp] theorem opM_s (c : Cl) (a b : D) (m : At) : opM G C c a b (some m) (some c) s = methF G C a m [b] s := by simp [opM]
@[simp] theorem binA_add : binA .add = some .dadd := rfl
@[simp] theorem binA_mul : binA .mul = some .dmul := rfl
@[simp] theorem binA_pow : binA .pow = some .dpow := rfl
@[simp] theorem binA_and : binA .band = some .dand := rfl
@[simp] theorem binA_or : binA .bor = some .dor := rfl
@[simp] theorem binA_rsh : binA .rsh = some .drshift := rfl
@[simp] theorem opO_lst (o : Bop) (a b : D) (xs : List D) : opO G C o a b (some (.lst xs)) s = binF o a b s := rfl
@[simp] theorem bin_add (i j : Int) : binF .add (.int i) (.int j) s = .ok (.int (i + j)) s := rfl
@[simp] theorem bin_sub (i j : Int) : binF .sub (.int i) (.int j) s = .ok (.int (i - j)) s := rfl
theorem bin_mul' (i j : Int) : binF .mul (.int i) (.int j) s = if (-(2 ^ 64) < i ∧ i < 2 ^ 64) ∨ (-(2 ^ 64) < j ∧ j < 2 ^ 64) then .ok (.int (i * j)) s else .bad := rfl
theorem bin_mul {i j : Int} (h : (-1000000000000 ≤ i ∧ i ≤ 1000000000000) ∨ (-1000000000000 ≤ j ∧ j ≤ 1000000000000)) : binF .mul (.int i) (.int j) s = .ok (.int (i * j)) s := by
  rw [bin_mul', if_pos]
  have e : (2 : Int) ^ 64 = 18446744073709551616 := by decide
  rw [e]
  omega
theorem bin_fdiv' (i j : Int) : binF .fdiv (.int i) (.int j) s = if 0 < j ∧ j < 1073741824 then .ok (.int (i / j)) s else .bad := rfl
theorem bin_mod' (i j : Int) : binF .mod (.int i) (.int j) s = if 0 < j then .ok (.int (i % j)) s else .bad := rfl
theorem bin_fdiv {i j : Int} (h : 0 < j) (h2 : j < 1073741824) : binF .fdiv (.int i) (.int j) s = .ok (.int (i / j)) s := if_pos ⟨h, h2⟩
theorem bin_mod {i j : Int} (h : 0 < j) : binF .mod (.int i) (.int j) s = .ok (.int (i % j)) s := if_pos h
theorem bin_pow' (i j : Int) : binF .pow (.int i) (.int j) s = if 0 ≤ j ∧ j ≤ 1000000 ∧ i.natAbs < 2 ^ 64 then .ok (.int (i ^ j.toNat)) s else .bad := rfl
theorem bin_adds {x y : List Nat} (h : x.length + y.length ≤ lim) : binF .add (.str x) (.str y) s = .ok (.str (x ++ y)) s := if_pos h
theorem bin_addt {x y : List D} (h : x.length + y.length ≤ lim) : binF .add (.tup x) (.tup y) s = .ok (.tup (x ++ y)) s := if_pos h
def addO (a b : Option Ob) (s : St) : R D := match a, b with
  | some (.lst xs), some (.lst ys) => if xs.length + ys.length ≤ lim then .ok (.obj s.length) (s ++ [.lst (xs ++ ys)]) else .bad
  | _, _ => .bad
@[simp] theorem bin_addl (i j : Nat) : binF .add (.obj i) (.obj j) s = addO s[i]? s[j]? s := rfl
theorem addO_ok {xs ys : List D} (h : xs.length + ys.length ≤ lim) : addO (some (.lst xs)) (some (.lst ys)) s = .ok (.obj s.length) (s ++ [.lst (xs ++ ys)]) := if_pos h
/-! comparisons -/
@[simp] theorem cmF_non (o : Cop) (y : D) : cmF G C o .non y s = cmpF o .non y s := rfl
@[simp] theorem cmF_int (o : Cop) (i : Int) (y : D) : cmF G C o (.int i) y s = cmpF o (.int i) y s := rfl
@[simp] theorem cmF_bl (o : Cop) (i : Bool) (y : D) : cmF G C o (.bl i) y s = cmpF o (.bl i) y s := rfl
@[simp] theorem cmF_str (o : Cop) (i : List Nat) (y : D) : cmF G C o (.str i) y s = cmpF o (.str i) y s := rfl
@[simp] theorem cmF_tup (o : Cop) (i : List D) (y : D) : cmF G C o (.tup i) y s = cmpF o (.tup i) y s := rfl
def cmO (o : Cop) (m : Option At) (a b : D) (ob : Option Ob) (s : St) : R D := match ob, m with
  | some (.ins _ _), some m => if (kind s b).isSome = true then methF G C a m [b] s else .bad
  | _, _ => cmpF o a b s
@[simp] theorem cmF_obj (o : Cop) (i : Nat) (y : D) : cmF G C o (.obj i) y s = cmO G C o (cmA o) (.obj i) y s[i]? s := by
  unfold cmF cmO
  simp only [insC]
  all_goals cases h : s[i]? with
  | none => rfl
  | some q => cases q <;> cases cmA o <;> rfl
@[simp] theorem cmO_ins (o : Cop) (m : At) (a b : D) (c : Cl) (fs : List (At × D)) : cmO G C o (some m) a b (some (.ins c fs)) s = if (kind s b).isSome = true then methF G C a m [b] s else .bad := rfl
@[simp] theorem cmO_no (o : Cop) (a b : D) (ob : Option Ob) : cmO G C o none a b ob s = cmpF o a b s := by
  unfold cmO
  all_goals cases ob with
  | none => rfl
  | some q => cases q <;> rfl
@[simp] theorem cmO_lst (o : Cop) (m : Option At) (a b : D) (xs : List D) : cmO G C o m a b (some (.lst xs)) s = cmpF o a b s := rfl
@[simp] theorem cmA_eq : cmA .eq = some .deq := rfl
@[simp] theorem cmA_le : cmA .le = some .dle := rfl
@[simp] theorem cmA_lt : cmA .lt = some .dlt := rfl
@[simp] theorem cmA_ne : cmA .ne = none := rfl
@[simp] theorem cmA_gt : cmA .gt = none := rfl
@[simp] theorem cmA_ge : cmA .ge = none := rfl
@[simp] theorem cmA_is : cmA .is = none := rfl
@[simp] theorem cmA_isnot : cmA .isnot = none := rfl
@[simp] theorem cmA_isin : cmA .isin = none := rfl
@[simp] theorem cmA_notin : cmA .notin = none := rfl
@[simp] theorem cmp_eq (a b : D) : cmpF .eq a b s = optB (eqF a b) s := by
  unfold cmpF optB
  all_goals cases eqF a b <;> rfl
@[simp] theorem cmp_ne (a b : D) : cmpF .ne a b s = optN (eqF a b) s := by
  unfold cmpF optN
  all_goals cases eqF a b <;> rfl
@[simp] theorem cmp_lt (i j : Int) : cmpF .lt (.int i) (.int j) s = .ok (.bl (decide (i < j))) s := rfl
@[simp] theorem cmp_le (i j : Int) : cmpF .le (.int i) (.int j) s = .ok (.bl (decide (i ≤ j))) s := rfl
@[simp] theorem cmp_gt (i j : Int) : cmpF .gt (.int i) (.int j) s = .ok (.bl (decide (j < i))) s := rfl
@[simp] theorem cmp_ge (i j : Int) : cmpF .ge (.int i) (.int j) s = .ok (.bl (decide (j ≤ i))) s := rfl
@[simp] theorem cmp_is (a : D) : cmpF .is a .non s = .ok (.bl a.isN) s := rfl
@[simp] theorem cmp_isnot (a : D) : cmpF .isnot a .non s = .ok (.bl (!a.isN)) s := rfl
@[simp] theorem cmp_in_s (x y : List Nat) : cmpF .isin (.str x) (.str y) s = .ok (.bl (occ x y)) s := rfl
@[simp] theorem cmp_notin_s (x y : List Nat) : cmpF .notin (.str x) (.str y) s = .ok (.bl (!occ x y)) s := rfl
@[simp] theorem isN_non : D.isN .non = true := rfl
@[simp] theorem isN_bl (b : Bool) : D.isN (.bl b) = false := rfl
@[simp] theorem isN_int (b : Int) : D.isN (.int b) = false := rfl
@[simp] theorem isN_str (b : List Nat) : D.isN (.str b) = false := rfl
@[simp] theorem isN_tup (b : List D) : D.isN (.tup b) = false := rfl
@[simp] theorem isN_obj (b : Nat) : D.isN (.obj b) = false := rfl
@[simp] theorem onlyBl_bl (b : Bool) : onlyBl (.bl b) s = .ok (.bl b) s := rfl
@[simp] theorem eqF_i (x y : Int) : eqF (.int x) (.int y) = some (x == y) := rfl
@[simp] theorem eqF_b (x y : Bool) : eqF (.bl x) (.bl y) = some (x == y) := rfl
/-! items -/
theorem atI_lit {α : Type} {xs : List α} {i : Nat} {x : α} (h : xs[i]? = some x) : atI xs (i : Int) = some x := by
  have hi := (List.getElem?_eq_some_iff.mp h).1
  have e : ixN xs.length (i : Int) = some i := by
    unfold ixN
    rw [if_pos (by omega), if_pos (by omega)]
    rfl
  unfold atI
  rw [e]
  exact h
@[simp] theorem atI_0 {α : Type} (a0 : α) (l : List α) : atI (a0 :: l) 0 = some a0 := atI_lit (i := 0) rfl
@[simp] theorem atI_1 {α : Type} (a0 a1 : α) (l : List α) : atI (a0 :: a1 :: l) 1 = some a1 := atI_lit (i := 1) rfl
@[simp] theorem atI_2 {α : Type} (a0 a1 a2 : α) (l : List α) : atI (a0 :: a1 :: a2 :: l) 2 = some a2 := atI_lit (i := 2) rfl
@[simp] theorem atI_3 {α : Type} (a0 a1 a2 a3 : α) (l : List α) : atI (a0 :: a1 :: a2 :: a3 :: l) 3 = some a3 := atI_lit (i := 3) rfl
@[simp] theorem atI_4 {α : Type} (a0 a1 a2 a3 a4 : α) (l : List α) : atI (a0 :: a1 :: a2 :: a3 :: a4 :: l) 4 = some a4 := atI_lit (i := 4) rfl
@[simp] theorem atI_5 {α : Type} (a0 a1 a2 a3 a4 a5 : α) (l : List α) : atI (a0 :: a1 :: a2 :: a3 :: a4 :: a5 :: l) 5 = some a5 := atI_lit (i := 5) rfl
@[simp] theorem atI_6 {α : Type} (a0 a1 a2 a3 a4 a5 a6 : α) (l : List α) : atI (a0 :: a1 :: a2 :: a3 :: a4 :: a5 :: a6 :: l) 6 = some a6 := atI_lit (i := 6) rfl
@[simp] theorem atI_7 {α : Type} (a0 a1 a2 a3 a4 a5 a6 a7 : α) (l : List α) : atI (a0 :: a1 :: a2 :: a3 :: a4 :: a5 :: a6 :: a7 :: l) 7 = some a7 := atI_lit (i := 7) rfl
@[simp] theorem atI_8 {α : Type} (a0 a1 a2 a3 a4 a5 a6 a7 a8 : α) (l : List α) : atI (a0 :: a1 :: a2 :: a3 :: a4 :: a5 :: a6 :: a7 :: a8 :: l) 8 = some a8 := atI_lit (i := 8) rfl
@[simp] theorem atI_9 {α : Type} (a0 a1 a2 a3 a4 a5 a6 a7 a8 a9 : α) (l : List α) : atI (a0 :: a1 :: a2 :: a3 :: a4 :: a5 :: a6 :: a7 :: a8 :: a9 :: l) 9 = some a9 := atI_lit (i := 9) rfl
theorem atI_neg {α : Type} {xs : List α} {x : α} (h : xs.getLast? = some x) : atI xs (-1) = some x := by
  have hn : xs ≠ [] := by intro e; rw [e] at h; cases h
  have hl : 0 < xs.length := List.length_pos_iff.mpr hn
  have e : ixN xs.length (-1) = some (xs.length - 1) := by
    unfold ixN
    rw [if_neg (by omega), if_pos (by omega)]
    congr 1
    omega
  unfold atI
  rw [e]
  rw [List.getLast?_eq_getElem?] at h
  exact h
def ixO (o : Option Ob) (i : Int) (s : St) : R D := match o with
  | some (.lst xs) => optR (atI xs i) s
  | _ => .bad
@[simp] theorem ixO_l (xs : List D) (i : Int) : ixO (some (.lst xs)) i s = optR (atI xs i) s := rfl
@[simp] theorem ix_tup (xs : List D) (i : Int) : ixF (.tup xs) (.int i) s = optR (atI xs i) s := by
  unfold ixF optR
  all_goals dsimp only
  all_goals cases atI xs i <;> rfl
@[simp] theorem ix_obj (j : Nat) (i : Int) : ixF (.obj j) (.int i) s = ixO s[j]? i s := by
  unfold ixF ixO optR
  all_goals dsimp only
  all_goals cases s[j]? with
  | none => rfl
  | some q => cases q <;> rfl
theorem ix_str {x : List Nat} {i : Int} {c : Nat} (h : atI x i = some c) (hl : x.length ≤ lim) : ixF (.str x) (.int i) s = .ok (.str [c]) s := by
  show (match atI x i with
    | some c => if x.length ≤ lim then R.ok (α := D) (.str [c]) s else .bad
    | none => .bad) = _
  rw [h]
  exact if_pos hl
/-! built-ins -/
@[simp] theorem biG_len (ds : List D) : biG G C1 .len ds s = biF G .len ds s := rfl
@[simp] theorem biG_int (ds : List D) : biG G C1 .int ds s = biF G .int ds s := rfl
@[simp] theorem biG_str_s (x : List Nat) : biG G C1 .str [.str x] s = .ok (.str x) s := rfl
@[simp] theorem biG_str_i (i : Int) : biG G C1 .str [.int i] s = if i.natAbs.log2 < 1920 then .ok (.str (intText i)) s else .bad := rfl
def strO (o : Option Ob) (x : D) (s : St) : R D := match o with
  | some (.ins _ _) => (methF G C1 x .dstr [] s).bind onlyStr
  | _ => biF G .str [x] s
@[simp] theorem biG_str_o (i : Nat) : biG G C1 .str [.obj i] s = strO G C1 s[i]? (.obj i) s := by
  unfold biG strO
  simp only [insC]
  all_goals cases s[i]? with
  | none => rfl
  | some q => cases q <;> rfl
@[simp] theorem strO_i (c : Cl) (fs : List (At × D)) (x : D) : strO G C1 (some (.ins c fs)) x s = (methF G C1 x .dstr [] s).bind onlyStr := rfl
@[simp] theorem onlyStr_s (x : List Nat) : onlyStr (.str x) s = .ok (.str x) s := rfl
@[simp] theorem biG_bool (ds : List D) : biG G C1 .bool ds s = biF G .bool ds s := rfl
@[simp] theorem biG_isi (ds : List D) : biG G C1 .isinstance ds s = biF G .isinstance ds s := rfl
@[simp] theorem biG_list (ds : List D) : biG G C1 .list ds s = biF G .list ds s := rfl
@[simp] theorem biG_tuple (ds : List D) : biG G C1 .tuple ds s = biF G .tuple ds s := rfl
@[simp] theorem biG_abs_i (i : Int) : biG G C1 .abs [.int i] s = .ok (.int (if i < 0 then -i else i)) s := rfl
def absO (o : Option Ob) (x : D) (s : St) : R D := match o with
  | some (.ins _ _) => methF G C1 x .dabs [] s
  | _ => biF G .abs [x] s
@[simp] theorem biG_abs_o (i : Nat) : biG G C1 .abs [.obj i] s = absO G C1 s[i]? (.obj i) s := by
  unfold biG absO
  simp only [insC]
  all_goals cases s[i]? with
  | none => rfl
  | some q => cases q <;> rfl
@[simp] theorem absO_i (c : Cl) (fs : List (At × D)) (x : D) : absO G C1 (some (.ins c fs)) x s = methF G C1 x .dabs [] s := rfl
def lenO (o : Option Ob) (s : St) : R D := match o with
  | some (.lst xs) => .ok (.int xs.length) s
  | _ => .bad
@[simp] theorem lenO_l (xs : List D) : lenO (some (.lst xs)) s = .ok (.int xs.length) s := rfl
theorem bi_len_s {x : List Nat} (h : x.length ≤ lim) : biF G .len [.str x] s = .ok (.int x.length) s := if_pos h
@[simp] theorem bi_len_t (xs : List D) : biF G .len [.tup xs] s = .ok (.int xs.length) s := rfl
@[simp] theorem bi_len_o (i : Nat) : biF G .len [.obj i] s = lenO s[i]? s := by
  show (match s[i]? with
    | some (.lst xs) => R.ok (α := D) (.int xs.length) s
    | _ => .bad) = _
  unfold lenO
  all_goals cases s[i]? with
  | none => rfl
  | some q => cases q <;> rfl
@[simp] theorem bi_int_i (i : Int) : biF G .int [.int i] s = .ok (.int i) s := rfl
@[simp] theorem bi_int_b (b : Bool) : biF G .int [.bl b] s = .ok (.int (if b then 1 else 0)) s := rfl
@[simp] theorem bi_bool_b (b : Bool) : biF G .bool [.bl b] s = .ok (.bl b) s := rfl
@[simp] theorem bi_bool_i (i : Int) : biF G .bool [.int i] s = .ok (.bl (i != 0)) s := rfl
def isiR (k : Option Kd) (t : D) (s : St) : R D := match k with
  | some k => optB (isF G k t) s
  | none => .bad
@[simp] theorem isiR_s (k : Kd) (t : D) : isiR G (some k) t s = optB (isF G k t) s := rfl
@[simp] theorem bi_isi (x t : D) : biF G .isinstance [x, t] s = isiR G (kind s x) t s := by
  unfold biF isiR optB
  all_goals dsimp only
  all_goals cases kind s x with
  | none => rfl
  | some k => cases isF G k t <;> rfl
@[simp] theorem kind_non : kind s .non = some (.ty .none) := rfl
@[simp] theorem kind_bl (b : Bool) : kind s (.bl b) = some (.ty .bool) := rfl
@[simp] theorem kind_int (b : Int) : kind s (.int b) = some (.ty .int) := rfl
@[simp] theorem kind_str (b : List Nat) : kind s (.str b) = some (.ty .str) := rfl
@[simp] theorem kind_tup (b : List D) : kind s (.tup b) = some (.ty .tuple) := rfl
def kindO (o : Option Ob) : Option Kd := match o with
  | some (.lst _) => some (.ty .list)
  | some (.ins c _) => some (.cls c)
  | none => none
@[simp] theorem kindO_l (xs : List D) : kindO (some (.lst xs)) = some (.ty .list) := rfl
@[simp] theorem kindO_i (c : Cl) (fs : List (At × D)) : kindO (some (.ins c fs)) = some (.cls c) := rfl
@[simp] theorem kind_obj (i : Nat) : kind s (.obj i) = kindO s[i]? := by
  show (match s[i]? with
    | some (.lst _) => some (Kd.ty .list)
    | some (.ins c _) => some (.cls c)
    | none => none) = _
  unfold kindO
  all_goals cases s[i]? with
  | none => rfl
  | some q => cases q <;> rfl
@[simp] theorem insC_non : insC s .non = none := rfl
@[simp] theorem insC_int (i : Int) : insC s (.int i) = none := rfl
@[simp] theorem insC_str (i : List Nat) : insC s (.str i) = none := rfl
@[simp] theorem insC_tup (i : List D) : insC s (.tup i) = none := rfl
@[simp] theorem insC_bl (i : Bool) : insC s (.bl i) = none := rfl
def insO (o : Option Ob) : Option Cl := match o with
  | some (.ins c _) => some c
  | _ => none
@[simp] theorem insO_l (xs : List D) : insO (some (.lst xs)) = none := rfl
@[simp] theorem insO_i (c : Cl) (fs : List (At × D)) : insO (some (.ins c fs)) = some c := rfl
@[simp] theorem insC_obj (i : Nat) : insC s (.obj i) = insO s[i]? := by
  show (match s[i]? with
    | some (.ins c _) => some c
    | _ => none) = _
  unfold insO
  all_goals cases s[i]? with
  | none => rfl
  | some q => cases q <;> rfl
@[simp] theorem isF_ty (k : Kd) (t : Ty) : isF G k (.ty t) = isOne G k (.ty t) := rfl
@[simp] theorem isF_cls (k : Kd) (t : Cl) : isF G k (.cls t) = isOne G k (.cls t) := rfl
@[simp] theorem isF_tup (k : Kd) (ds : List D) : isF G k (.tup ds) = isAny G k ds := rfl
@[simp] theorem isOne_tt (t u : Ty) : isOne G (.ty u) (.ty t) = some (decide (t = u) || (decide (t = .int) && decide (u = .bool))) := rfl
@[simp] theorem isOne_ct (t : Ty) (c : Cl) : isOne G (.cls c) (.ty t) = some (G.exc c && decide (t = .valueError)) := rfl
@[simp] theorem isOne_tc (t : Ty) (c : Cl) : isOne G (.ty t) (.cls c) = some false := rfl
@[simp] theorem isOne_cc (d c : Cl) : isOne G (.cls d) (.cls c) = some (G.sub d c) := rfl
@[simp] theorem isAny_nil (k : Kd) : isAny G k [] = some false := rfl
def orO (a b : Option Bool) : Option Bool := match a, b with
  | some a, some b => some (a || b)
  | _, _ => none
@[simp] theorem orO_s (a b : Bool) : orO (some a) (some b) = some (a || b) := rfl
@[simp] theorem isAny_cons (k : Kd) (d : D) (ds : List D) : isAny G k (d :: ds) = orO (isOne G k d) (isAny G k ds) := by
  show (match isOne G k d, isAny G k ds with
    | some a, some b => some (a || b)
    | _, _ => none) = _
  unfold orO
  all_goals cases isOne G k d <;> cases isAny G k ds <;> rfl
def lsO (o : Option Ob) (s : St) : R D := match o with
  | some (.lst xs) => .ok (.obj s.length) (s ++ [.lst xs])
  | _ => .bad
@[simp] theorem lsO_l (xs : List D) : lsO (some (.lst xs)) s = .ok (.obj s.length) (s ++ [.lst xs]) := rfl
@[simp] theorem bi_list_o (i : Nat) : biF G .list [.obj i] s = lsO s[i]? s := by
  show (match s[i]? with
    | some (.lst xs) => R.ok (α := D) (.obj s.length) (s ++ [Ob.lst xs])
    | _ => .bad) = _
  unfold lsO
  all_goals cases s[i]? with
  | none => rfl
  | some q => cases q <;> rfl
@[simp] theorem bi_list_t (xs : List D) : biF G .list [.tup xs] s = .ok (.obj s.length) (s ++ [.lst xs]) := rfl
def tpO (o : Option Ob) (s : St) : R D := match o with
  | some (.lst xs) => .ok (.tup xs) s
  | _ => .bad
@[simp] theorem tpO_l (xs : List D) : tpO (some (.lst xs)) s = .ok (.tup xs) s := rfl
@[simp] theorem bi_tuple_o (i : Nat) : biF G .tuple [.obj i] s = tpO s[i]? s := by
  show (match s[i]? with
    | some (.lst xs) => R.ok (α := D) (.tup xs) s
    | _ => .bad) = _
  unfold tpO
  all_goals cases s[i]? with
  | none => rfl
  | some q => cases q <;> rfl
@[simp] theorem bi_tuple_t (xs : List D) : biF G .tuple [.tup xs] s = .ok (.tup xs) s := rfl
/-! methods of built-in types -/
def bmR (b : Bool) (r : R D) : R D := if b = true then r else .bad
@[simp] theorem bmR_t (r : R D) : bmR true r = r := rfl
theorem bmR_cg {b b' : Bool} {r : R D} (h : b = b') : bmR b r = bmR b' r := by rw [h]
def isLs (o : Option Ob) : Bool := match o with
  | some (.lst _) => true
  | _ => false
@[simp] theorem isLs_l (xs : List D) : isLs (some (.lst xs)) = true := rfl
theorem bmOk_l {m : Bm} (h : m.onList = true) (i : Nat) : bmOk m (.obj i) s = isLs s[i]? := by
  unfold bmOk isLs
  rw [h]
  all_goals dsimp only
  all_goals cases s[i]? with
  | none => rfl
  | some q => cases q <;> rfl
@[simp] theorem bmOk_append (i : Nat) : bmOk .append (.obj i) s = isLs s[i]? := bmOk_l s rfl i
@[simp] theorem bmOk_pop (i : Nat) : bmOk .pop (.obj i) s = isLs s[i]? := bmOk_l s rfl i
@[simp] theorem bmOk_reverse (i : Nat) : bmOk .reverse (.obj i) s = isLs s[i]? := bmOk_l s rfl i
@[simp] theorem bmOk_find (x : List Nat) : bmOk .find (.str x) s = true := rfl
@[simp] theorem bmOk_rp (x : List Nat) : bmOk .removeprefix (.str x) s = true := rfl
@[simp] theorem bmOk_sw (x : List Nat) : bmOk .startswith (.str x) s = true := rfl
def appO (o : Option Ob) (i : Nat) (y : D) (s : St) : R D := match o with
  | some (.lst xs) => if xs.length < lim then .ok .non (s.set i (.lst (xs ++ [y]))) else .bad
  | _ => .bad
theorem appO_l {xs : List D} (h : xs.length < lim) (i : Nat) (y : D) : appO (some (.lst xs)) i y s = .ok .non (s.set i (.lst (xs ++ [y]))) := if_pos h
@[simp] theorem bm_append (i : Nat) (y : D) : bmF .append (.obj i) [y] s = appO s[i]? i y s := by
  unfold bmF appO
  all_goals dsimp only
  all_goals cases s[i]? with
  | none => rfl
  | some q => cases q <;> rfl
def popO (o : Option Ob) (i : Nat) (s : St) : R D := match o with
  | some (.lst xs) => (match xs.getLast? with
    | some y => .ok y (s.set i (.lst xs.dropLast))
    | none => .bad)
  | _ => .bad
@[simp] theorem popO_l (xs : List D) (y : D) (i : Nat) : popO (some (.lst (xs ++ [y]))) i s = .ok y (s.set i (.lst xs)) := by
  unfold popO
  simp
@[simp] theorem bm_pop (i : Nat) : bmF .pop (.obj i) [] s = popO s[i]? i s := by
  unfold bmF popO
  all_goals dsimp only
  all_goals cases s[i]? with
  | none => rfl
  | some q => cases q <;> rfl
def revO (o : Option Ob) (i : Nat) (s : St) : R D := match o with
  | some (.lst xs) => .ok .non (s.set i (.lst xs.reverse))
  | _ => .bad
@[simp] theorem revO_l (xs : List D) (i : Nat) : revO (some (.lst xs)) i s = .ok .non (s.set i (.lst xs.reverse)) := rfl
@[simp] theorem bm_reverse (i : Nat) : bmF .reverse (.obj i) [] s = revO s[i]? i s := by
  unfold bmF revO
  all_goals dsimp only
  all_goals cases s[i]? with
  | none => rfl
  | some q => cases q <;> rfl
theorem bm_rp {a b : List Nat} (h : a.length ≤ lim) : bmF .removeprefix (.str a) [.str b] s = .ok (.str (ofStr (Txt.removeprefix (toStr a) (toStr b)))) s := if_pos h
@[simp] theorem bm_sw (a b : List Nat) : bmF .startswith (.str a) [.str b] s = .ok (.bl (Txt.startswith (toStr a) (toStr b))) s := rfl
@[simp] theorem bm_find (a b : List Nat) (i : Int) : bmF .find (.str a) [.str b, .int i] s = .ok (.int (Txt.find3 (toStr a) (toStr b) i)) s := rfl
/-! fields, methods, instances -/
@[simp] theorem field_nil (f : At) : field [] f = none := rfl
@[simp] theorem field_cons (f g : At) (d : D) (r : List (At × D)) : field ((g, d) :: r) f = if f = g then some d else field r f := by
  unfold field
  rw [List.lookup_cons]
  by_cases h : f = g
  · subst h
    simp
  · have : (f == g) = false := by simp [h]
    rw [this, if_neg h]
def attV (x : D) (m : Option Mem) (v : Option D) (s : St) : R D := match m with
  | none => optR v s
  | some (.prop g) => (match C g [x] s with
    | .ok d s' => .ok d s'
    | _ => .bad)
  | some (.con d) => (match v with
    | none => .ok d s
    | some _ => .bad)
  | _ => .bad
def attO (x : D) (f : At) (o : Option Ob) (s : St) : R D := match o with
  | some (.ins c fs) => if G.exc c = true then .bad else attV C x (G.mem c f) (field fs f) s
  | _ => .bad
@[simp] theorem att_obj (i : Nat) (f : At) : attF G C (.obj i) f s = attO G C (.obj i) f s[i]? s := by
  show (match s[i]? with
    | some (.ins c fs) => if G.exc c = true then R.bad else (match G.mem c f with
      | none => (match field fs f with
        | some v => .ok v s
        | none => .bad)
      | some (.prop g) => (match C g [.obj i] s with
        | .ok d s' => .ok d s'
        | _ => .bad)
      | some (.con d) => (match field fs f with
        | none => .ok d s
        | some _ => .bad)
      | _ => .bad)
    | _ => .bad) = _
  unfold attO attV optR
  all_goals cases s[i]? with
  | none => rfl
  | some q => cases q with
    | lst _ => rfl
    | ins c fs => cases h : G.mem c f with
      | none => cases field fs f <;> rfl
      | some m => cases m <;> rfl
@[simp] theorem attO_i (x : D) (f : At) (c : Cl) (fs : List (At × D)) : attO G C x f (some (.ins c fs)) s = if G.exc c = true then .bad else attV C x (G.mem c f) (field fs f) s := rfl
@[simp] theorem attV_n (x v : D) : attV C x none (some v) s = .ok v s := rfl
@[simp] theorem attV_c (x d : D) : attV C x (some (.con d)) none s = .ok d s := rfl
def propR (r : R D) : R D := match r with
  | .ok d s => .ok d s
  | _ => .bad
@[simp] theorem propR_ok (d : D) : propR (.ok d s) = .ok d s := rfl
@[simp] theorem attV_p (x : D) (g : Fn) (v : Option D) : attV C x (some (.prop g)) v s = propR (C g [x] s) := by
  show (match C g [x] s with
    | .ok d s' => R.ok (α := D) d s'
    | _ => .bad) = _
  unfold propR
  all_goals cases C g [x] s <;> rfl
def conR (m : Option Mem) (s : St) : R D := match m with
  | some (.con d) => .ok d s
  | _ => .bad
@[simp] theorem conR_c (d : D) : conR (some (.con d)) s = .ok d s := rfl
@[simp] theorem att_cls (c : Cl) (f : At) : attF G C (.cls c) f s = if G.exc c = true then .bad else conR (G.mem c f) s := by
  show (if G.exc c = true then R.bad else (match G.mem c f with
    | some (.con d) => .ok d s
    | _ => .bad)) = _
  unfold conR
  all_goals cases h : G.mem c f with
  | none => rfl
  | some m => cases m <;> rfl
def mthO (m : Option Mem) (v : Option D) : Option Fn := match m, v with
  | some (.fn g), none => some g
  | _, _ => none
@[simp] theorem mthO_f (g : Fn) : mthO (some (.fn g)) none = some g := rfl
def mthI (m : At) (o : Option Ob) : Option Fn := match o with
  | some (.ins c fs) => if G.exc c = true then none else mthO (G.mem c m) (field fs m)
  | _ => none
@[simp] theorem mthI_i (m : At) (c : Cl) (fs : List (At × D)) : mthI G m (some (.ins c fs)) = if G.exc c = true then none else mthO (G.mem c m) (field fs m) := rfl
@[simp] theorem methOf_o (i : Nat) (m : At) : methOf G (.obj i) m s = mthI G m s[i]? := by
  show (match s[i]? with
    | some (.ins c fs) => if G.exc c = true then none else (match G.mem c m, field fs m with
      | some (.fn g), none => some g
      | _, _ => none)
    | _ => none) = _
  unfold mthI mthO
  all_goals cases s[i]? with
  | none => rfl
  | some q => cases q with
    | lst _ => rfl
    | ins c fs =>
      cases G.mem c m with
      | none => rfl
      | some k => cases k <;> cases field fs m <;> rfl
def mcR (x : D) (ds : List D) (o : Option Fn) (s : St) : R D := match o with
  | some g => C g (x :: ds) s
  | none => .bad
@[simp] theorem mcR_s (x : D) (ds : List D) (g : Fn) : mcR C x ds (some g) s = C g (x :: ds) s := rfl
@[simp] theorem methF_eq (x : D) (m : At) (ds : List D) : methF G C x m ds s = mcR C x ds (methOf G x m s) s := by
  unfold methF mcR
  all_goals cases methOf G x m s <;> rfl
def meR (x : D) (f : St → R (List D)) (o : Option Fn) (s : St) : R D := match o with
  | some g => (f s).bind fun ds s => C g (x :: ds) s
  | none => .bad
@[simp] theorem meR_s (x : D) (f : St → R (List D)) (g : Fn) : meR C x f (some g) s = (f s).bind fun ds s => C g (x :: ds) s := rfl
theorem meR_cg {C : Calls} {x : D} {f : St → R (List D)} {o o' : Option Fn} {s : St} (h : o = o') : meR C x f o s = meR C x f o' s := by rw [h]
def iniR (i : Nat) (r : R D) : R D := match r with
  | .ok .non s' => .ok (.obj i) s'
  | .ok _ _ => .bad
  | .err x s' => .err x s'
  | .bad => .bad
@[simp] theorem iniR_ok (i : Nat) : iniR i (.ok .non s) = .ok (.obj i) s := rfl
@[simp] theorem iniR_err (i : Nat) (x : Xc) : iniR i (.err x s) = .err x s := rfl
def mkM (c : Cl) (ds : List D) (m : Option Mem) (s : St) : R D := match m with
  | some (.fn g) => iniR s.length (C1 g (.obj s.length :: ds) (s ++ [.ins c []]))
  | _ => .bad
@[simp] theorem mkM_f (c : Cl) (ds : List D) (g : Fn) : mkM C1 c ds (some (.fn g)) s = iniR s.length (C1 g (.obj s.length :: ds) (s ++ [.ins c []])) := rfl
theorem mk_eq (c : Cl) (ds : List D) (h : G.exc c = false) : mkF G C1 c ds s = mkM C1 c ds (G.mem c .init) s := by
  unfold mkF mkM iniR
  rw [h]
  all_goals cases G.mem c .init with
  | none => rfl
  | some m => cases m with
    | fn g =>
      cases C1 g (.obj s.length :: ds) (s ++ [.ins c []]) with
      | ok d s' => cases d <;> rfl
      | err _ _ => rfl
      | bad => rfl
    | _ => rfl
def setO (i : Nat) (f : At) (v : D) (o : Option Ob) (s : St) : R D := match o with
  | some (.ins c fs) => if G.exc c = true then .bad else (match G.mem c f with
    | none => if fs.length < 900 then .ok .non (s.set i (.ins c (putF f v fs))) else .bad
    | _ => .bad)
  | _ => .bad
@[simp] theorem set_obj (i : Nat) (f : At) (v : D) : setF G (.obj i) f v s = setO G i f v s[i]? s := by
  show (match s[i]? with
    | some (.ins c fs) => if G.exc c = true then R.bad else (match G.mem c f with
      | none => if fs.length < 900 then R.ok D.non (s.set i (.ins c (putF f v fs))) else .bad
      | _ => .bad)
    | _ => .bad) = _
  unfold setO
  all_goals cases s[i]? with
  | none => rfl
  | some q => cases q <;> rfl
def setM (i : Nat) (c : Cl) (f : At) (v : D) (fs : List (At × D)) (m : Option Mem) (s : St) : R D := match m with
  | none => if fs.length < 900 then .ok .non (s.set i (.ins c (putF f v fs))) else .bad
  | _ => .bad
@[simp] theorem setO_i (i : Nat) (f : At) (v : D) (c : Cl) (fs : List (At × D)) : setO G i f v (some (.ins c fs)) s = if G.exc c = true then .bad else setM i c f v fs (G.mem c f) s := by
  show (if G.exc c = true then R.bad else (match G.mem c f with
    | none => if fs.length < 900 then R.ok D.non (s.set i (.ins c (putF f v fs))) else .bad
    | _ => .bad)) = _
  unfold setM
  all_goals cases G.mem c f <;> rfl
@[simp] theorem setM_n (i : Nat) (c : Cl) (f : At) (v : D) (fs : List (At × D)) : setM i c f v fs none s = if fs.length < 900 then .ok .non (s.set i (.ins c (putF f v fs))) else .bad := rfl
/-! expressions -/
@[simp] theorem X_var (i : Nat) : evE G C C1 none (.var i) e s = vr e[i]? s := by
  show (match e[i]? with
    | some (some d) => R.ok (α := D) d s
    | _ => .bad) = _
  unfold vr
  all_goals cases e[i]? with
  | none => rfl
  | some o => cases o <;> rfl
@[simp] theorem X_non : evE G C C1 none .non e s = .ok .non s := rfl
@[simp] theorem X_bl (b : Bool) : evE G C C1 none (.bl b) e s = .ok (.bl b) s := rfl
@[simp] theorem X_int (b : Int) : evE G C C1 none (.int b) e s = .ok (.int b) s := rfl
@[simp] theorem X_str (b : List Nat) : evE G C C1 none (.str b) e s = .ok (.str b) s := rfl
@[simp] theorem X_gcon (b : Gc) : evE G C C1 none (.gcon b) e s = .ok (G.con b) s := rfl
@[simp] theorem X_gcls (b : Cl) : evE G C C1 none (.gcls b) e s = .ok (.cls b) s := rfl
@[simp] theorem X_gty (b : Ty) : evE G C C1 none (.gty b) e s = .ok (.ty b) s := rfl
@[simp] theorem X_tup (es : Exs) : evE G C C1 none (.tup es) e s = (evEs G C C1 none es e s).bind tupR := rfl
@[simp] theorem X_lst (es : Exs) : evE G C C1 none (.lst es) e s = (evEs G C C1 none es e s).bind lsR := rfl
@[simp] theorem X_bin (o : Bop) (a b : Ex) : evE G C C1 none (.bin o a b) e s = (evE G C C1 none a e s).bind fun x s => (evE G C C1 none b e s).bind fun y s => opF G C o x y s := rfl
@[simp] theorem X_neg (a : Ex) : evE G C C1 none (.neg a) e s = (evE G C C1 none a e s).bind fun x s => (match x with
    | .int i => .ok (.int (-i)) s
    | _ => .bad) := rfl
@[simp] theorem X_inv (a : Ex) : evE G C C1 none (.inv a) e s = (evE G C C1 none a e s).bind fun x s => methF G C x .dinvert [] s := rfl
@[simp] theorem X_cmp (o : Cop) (a b : Ex) : evE G C C1 none (.cmp o a b) e s = ((evE G C C1 none a e s).bind fun x s => ((evE G C C1 none b e s).bind fun y s => cmF G C o x y s)).bind onlyBl := rfl
@[simp] theorem X_cmp2 (o o' : Cop) (a b c : Ex) : evE G C C1 none (.cmp2 o o' a b c) e s = (evE G C C1 none a e s).bind fun x s => (evE G C C1 none b e s).bind fun y s => (match intC o x y with
    | some true => (evE G C C1 none c e s).bind fun w s => (match intC o' y w with
      | some b => .ok (.bl b) s
      | none => .bad)
    | some false => .ok (.bl false) s
    | none => .bad) := rfl
@[simp] theorem X_and (a b : Ex) : evE G C C1 none (.and a b) e s = (evE G C C1 none a e s).bind fun x s => selR (truF s x) (evE G C C1 none b e s) (.ok x s) := by
  show ((evE G C C1 none a e s).bind fun x s => (match truF s x with
    | some true => evE G C C1 none b e s
    | some false => .ok x s
    | none => .bad)) = _
  congr 1
@[simp] theorem X_or (a b : Ex) : evE G C C1 none (.or a b) e s = (evE G C C1 none a e s).bind fun x s => selR (truF s x) (.ok x s) (evE G C C1 none b e s) := by
  show ((evE G C C1 none a e s).bind fun x s => (match truF s x with
    | some true => .ok x s
    | some false => evE G C C1 none b e s
    | none => .bad)) = _
  congr 1
@[simp] theorem X_not (a : Ex) : evE G C C1 none (.not a) e s = (evE G C C1 none a e s).bind fun x s => optN (truF s x) s := by
  show ((evE G C C1 none a e s).bind fun x s => (match truF s x with
    | some b => R.ok (D.bl (!b)) s
    | none => .bad)) = _
  congr 1
@[simp] theorem X_ife (c a b : Ex) : evE G C C1 none (.ife c a b) e s = (evE G C C1 none c e s).bind fun x s => selR (truF s x) (evE G C C1 none a e s) (evE G C C1 none b e s) := by
  show ((evE G C C1 none c e s).bind fun x s => (match truF s x with
    | some true => evE G C C1 none a e s
    | some false => evE G C C1 none b e s
    | none => .bad)) = _
  congr 1
@[simp] theorem X_ix (a b : Ex) : evE G C C1 none (.ix a b) e s = (evE G C C1 none a e s).bind fun x s => (evE G C C1 none b e s).bind fun y s => ixF x y s := rfl
@[simp] theorem X_sl (a lo hi : Ex) : evE G C C1 none (.sl a lo hi) e s = (evE G C C1 none a e s).bind fun x s => (evE G C C1 none lo e s).bind fun l s => (bndR lo.isNon l s).bind fun ol s => (evE G C C1 none hi e s).bind fun h s => (bndR hi.isNon h s).bind fun oh s => slF x ol oh s := rfl
@[simp] theorem X_att (a : Ex) (f : At) : evE G C C1 none (.att a f) e s = (evE G C C1 none a e s).bind fun x s => attF G C1 x f s := rfl
@[simp] theorem X_call (f : Fn) (es : Exs) : evE G C C1 none (.call f es) e s = (evEs G C C1 none es e s).bind fun ds s => C f ds s := rfl
@[simp] theorem X_mk (c : Cl) (es : Exs) : evE G C C1 none (.mk c es) e s = (evEs G C C1 none es e s).bind fun ds s => mkF G C1 c ds s := rfl
def mkR (f : St → R (List D)) (o : Option (Option D)) (s : St) : R D := match o with
  | some (some (.cls c)) => (f s).bind fun ds s => mkF G C1 c ds s
  | _ => .bad
@[simp] theorem mkR_c (f : St → R (List D)) (c : Cl) : mkR G C1 f (some (some (.cls c))) s = (f s).bind fun ds s => mkF G C1 c ds s := rfl
@[simp] theorem X_mkl (i : Nat) (es : Exs) : evE G C C1 none (.mkl i es) e s = mkR G C1 (fun s => evEs G C C1 none es e s) e[i]? s := by
  show (match e[i]? with
    | some (some (.cls c)) => (evEs G C C1 none es e s).bind fun ds s => mkF G C1 c ds s
    | _ => .bad) = _
  unfold mkR
  all_goals cases e[i]? with
  | none => rfl
  | some o => cases o with
    | none => rfl
    | some d => cases d <;> rfl
def fsK (o : Option (List Nat)) (acc : List Nat) (f : List Nat → R D) : R D := match o with
  | some x => if acc.length + x.length ≤ lim then f (acc ++ x) else .bad
  | none => .bad
theorem fsK_s {x acc : List Nat} (h : acc.length + x.length ≤ lim) (f : List Nat → R D) : fsK (some x) acc f = f (acc ++ x) := if_pos h
theorem fmtF_str {x : List Nat} (h : x.length ≤ lim) : fmtF (.str x) = some x := if_pos h
@[simp] theorem X_fstr (es : Exs) : evE G C C1 none (.fstr es) e s = evFs G C C1 none es [] e s := rfl
@[simp] theorem Fs_nil (acc : List Nat) : evFs G C C1 none .nil acc e s = .ok (.str acc) s := rfl
@[simp] theorem Fs_cons (a : Ex) (es : Exs) (acc : List Nat) : evFs G C C1 none (.cons a es) acc e s = (evE G C C1 none a e s).bind fun d s => fsK (fmtF d) acc fun x => evFs G C C1 none es x e s := by
  show ((evE G C C1 none a e s).bind fun d s => (match fmtF d with
    | some x => if acc.length + x.length ≤ lim then evFs G C C1 none es (acc ++ x) e s else .bad
    | none => .bad)) = _
  congr 1
@[simp] theorem X_bi (b : Bi) (es : Exs) : evE G C C1 none (.bi b es) e s = (evEs G C C1 none es e s).bind fun ds s => biG G C1 b ds s := rfl
@[simp] theorem X_meth (a : Ex) (m : At) (es : Exs) : evE G C C1 none (.meth a m es) e s = (evE G C C1 none a e s).bind fun x s => meR C x (fun s => evEs G C C1 none es e s) (methOf G x m s) s := by
  show ((evE G C C1 none a e s).bind fun x s => (match methOf G x m s with
    | some g => (evEs G C C1 none es e s).bind fun ds s => C g (x :: ds) s
    | none => .bad)) = _
  congr 1
@[simp] theorem X_cmeth (c : Cl) (m : At) (es : Exs) : evE G C C1 none (.cmeth c m es) e s = meR C (.cls c) (fun s => evEs G C C1 none es e s) (cmOf G c m) s := by
  show (match cmOf G c m with
    | some g => (evEs G C C1 none es e s).bind fun ds s => C g (.cls c :: ds) s
    | none => .bad) = _
  unfold meR
  all_goals cases cmOf G c m <;> rfl
@[simp] theorem X_bm (a : Ex) (m : Bm) (es : Exs) : evE G C C1 none (.bm a m es) e s = (evE G C C1 none a e s).bind fun x s => bmR (bmOk m x s) ((evEs G C C1 none es e s).bind fun ds s => bmF m x ds s) := rfl
@[simp] theorem Xs_nil : evEs G C C1 none .nil e s = .ok [] s := rfl
@[simp] theorem Xs_cons (a : Ex) (es : Exs) : evEs G C C1 none (.cons a es) e s = (evE G C C1 none a e s).bind fun d s => (evEs G C C1 none es e s).bind fun ds s => .ok (d :: ds) s := rfl
@[simp] theorem evI_val (x : Ex) : evI G C C1 none (.val x) e s = (evE G C C1 none x e s).bind fun d s => (match itemsF d s with
    | some p => .ok p s
    | none => .bad) := rfl
def runR (r : RS) : R D := match r with
  | .nx _ s => .ok .non s
  | .rt r s => .ok r s
  | .err x _ s => .err x s
  | _ => .bad
@[simp] theorem runR_nx : runR (.nx e s) = .ok .non s := rfl
@[simp] theorem runR_rt (d : D) : runR (.rt d s) = .ok d s := rfl
@[simp] theorem runR_err (x : Xc) : runR (.err x e s) = .err x s := rfl
theorem run_eq (d : Def) (ds ds' : List D) (hp : padF d ds = ds') (h : ds'.length = d.ps) : run G C C1 d ds s = runR (evSs G C C1 none d.body (ds'.map some ++ List.replicate (d.ns - d.ps) none) s) := by
  unfold run run0 runR
  rw [hp, if_pos h]
  all_goals cases evSs G C C1 none d.body (ds'.map some ++ List.replicate (d.ns - d.ps) none) s <;> rfl
@[simp] theorem asg_nm (cx : Option Xc) (i : Nat) (d : D) : asgF G C C1 cx (.nm i) d e s = .nx (e.set i (some d)) s := rfl
@[simp] theorem asg_tup (is : List Nat) (ds : List D) : asgF G C C1 none (.tup is) (.tup ds) e s = if ds.length = is.length then .nx (setAll is ds e) s else .bad := rfl
@[simp] theorem setAll_n (ds : List D) : setAll [] ds e = e := rfl
@[simp] theorem setAll_c (i : Nat) (is : List Nat) (d : D) (ds : List D) : setAll (i :: is) (d :: ds) e = setAll is ds (e.set i (some d)) := rfl
@[simp] theorem aug_add (i j : Int) : augF .add (.int i) (.int j) s = .ok (.int (i + j)) s := rfl
@[simp] theorem aug_sub (i j : Int) : augF .sub (.int i) (.int j) s = .ok (.int (i - j)) s := rfl
end
end Lt

/-! ### the law's own text -/
namespace Lt
open PySem PySem.Spec PyProof.Rows L2
abbrev RR : PySem.W.OpenRow := PySem.W.OpenLaw.row PySem.Challenge.rw_castmiddles_k01_label_refusals
def topS (i : Nat) : Stmt := RR.prog.main.body.getD i (.Pass ⟨0, 0, 0, 0⟩)
def clsB (s : Stmt) : List Stmt := match s with
  | .ClassDef (body := b) .. => b
  | _ => []
def memS (i j : Nat) : Stmt := (clsB (topS i)).getD j (.Pass ⟨0, 0, 0, 0⟩)
def b_f_consists_of_1 : Sms := (.cons (.ite (.cmp .notin (.var 2) (.var 1)) (.cons (.ret (.bl false))
    .nil) .nil)
    .nil)
def b_f_consists_of : Sms := (.cons (.fors (.nm 2) (.val (.var 0)) b_f_consists_of_1)
    (.cons (.ret (.bl true))
    .nil))
def b_f_is_label_name : Sms := (.cons (.ite (.or (.not (.cmp2 .le .le (.int 1) (.bi .len (.cons (.var 0) .nil)) (.gcon .g_LONGEST_NAME))) (.cmp .notin (.ix (.var 0) (.int 0)) (.gcon .g_LETTERS))) (.cons (.ret (.bl false))
    .nil) .nil)
    (.cons (.ret (.call .f_consists_of (.cons (.var 0) (.cons (.bin .add (.gcon .g_LETTERS) (.gcon .g_DIGITS)) .nil))))
    .nil))
def b_f_is_label : Sms := (.cons (.ret (.call .f_is_label_name (.cons (.bm (.var 0) .removeprefix (.cons (.str [126]) .nil)) .nil)))
    .nil)
def b_f__law_draws_1 : Sms := (.cons (.ite (.cmp .gt (.var 3) (.int 0)) (.cons (.expr (.bm (.var 1) .append (.cons (.bin .mod (.bi .int (.cons (.var 3) .nil)) (.int 1000)) .nil)))
    (.cons (.asg (.nm 3) (.bin .fdiv (.var 3) (.int 1000)))
    .nil)) .nil)
    .nil)
def b_f__law_draws_2 : Sms := (.cons (.asg (.nm 3) (.bin .mod (.bi .int (.cons (.bin .mul (.var 3) (.int 69621)) .nil)) (.int 2147483629)))
    (.cons (.expr (.bm (.var 1) .append (.cons (.bin .mod (.bi .int (.cons (.bin .fdiv (.var 3) (.int 7)) .nil)) (.int 1000)) .nil)))
    .nil))
def b_f__law_draws_3 : Sms := (.cons (.asg (.nm 3) (.bi .int (.cons (.var 2) .nil)))
    (.cons (.ite (.cmp .ge (.var 3) (.bin .pow (.int 10) (.int 18))) (.cons (.fors (.nm 4) (.rng (.int 60)) b_f__law_draws_1)
    .nil) (.cons (.asg (.nm 3) (.bin .mod (.bi .int (.cons (.bin .mul (.var 3) (.int 48271)) .nil)) (.int 2147483647)))
    (.cons (.fors (.nm 4) (.rng (.int 4)) b_f__law_draws_2)
    .nil)))
    .nil))
def b_f__law_draws : Sms := (.cons (.asg (.nm 1) (.lst .nil))
    (.cons (.fors (.nm 2) (.val (.var 0)) b_f__law_draws_3)
    (.cons (.expr (.bm (.var 1) .reverse .nil))
    (.cons (.ret (.var 1))
    .nil))))
def b_f__law_draw : Sms := (.cons (.ite (.cmp .eq (.bi .len (.cons (.var 0) .nil)) (.int 0)) (.cons (.ret (.int 0))
    .nil) .nil)
    (.cons (.ret (.bin .mod (.bi .int (.cons (.bm (.var 0) .pop .nil) .nil)) (.var 1)))
    .nil))
def b_f__law_name_1 : Sms := (.cons (.asg (.nm 4) (.bin .add (.var 4) (.ix (.var 1) (.call .f__law_draw (.cons (.var 0) (.cons (.int 36) .nil))))))
    .nil)
def b_f__law_name : Sms := (.cons (.asg (.nm 1) (.str [97, 98, 99, 100, 101, 102, 103, 104, 105, 106, 107, 108, 109, 110, 111, 112, 113, 114, 115, 116, 117, 118, 119, 120, 121, 122, 48, 49, 50, 51, 52, 53, 54, 55, 56, 57]))
    (.cons (.asg (.nm 2) (.call .f__law_draw (.cons (.var 0) (.cons (.int 4) .nil))))
    (.cons (.ite (.cmp .lt (.var 2) (.int 2)) (.cons (.ret (.ix (.str [112, 113, 114, 115]) (.call .f__law_draw (.cons (.var 0) (.cons (.int 4) .nil)))))
    .nil) .nil)
    (.cons (.asg (.nm 3) (.bin .add (.int 1) (.call .f__law_draw (.cons (.var 0) (.cons (.int 8) .nil)))))
    (.cons (.ite (.cmp .eq (.var 2) (.int 2)) (.cons (.asg (.nm 4) (.ix (.var 1) (.call .f__law_draw (.cons (.var 0) (.cons (.int 26) .nil)))))
    (.cons (.fors (.nm 5) (.rng (.bin .sub (.var 3) (.int 1))) b_f__law_name_1)
    (.cons (.ret (.var 4))
    .nil))) .nil)
    (.cons (.asg (.nm 6) (.call .f__law_draw (.cons (.var 0) (.cons (.var 3) .nil))))
    (.cons (.ret (.bin .add (.bin .add (.bin .mul (.str [97]) (.var 6)) (.ix (.var 1) (.call .f__law_draw (.cons (.var 0) (.cons (.int 26) .nil))))) (.bin .mul (.str [97]) (.bin .sub (.bin .sub (.var 3) (.var 6)) (.int 1)))))
    .nil)))))))
def b_f__law_same_1 : Sms := (.cons (.ite (.not (.call .f__law_same (.cons (.ix (.var 0) (.var 2)) (.cons (.ix (.var 1) (.var 2)) .nil)))) (.cons (.ret (.bl false))
    .nil) .nil)
    .nil)
def b_f__law_same : Sms := (.cons (.ite (.or (.bi .isinstance (.cons (.var 1) (.cons (.gty .bool) .nil))) (.bi .isinstance (.cons (.var 0) (.cons (.gty .bool) .nil)))) (.cons (.ret (.and (.bi .isinstance (.cons (.var 1) (.cons (.gty .bool) .nil))) (.and (.bi .isinstance (.cons (.var 0) (.cons (.gty .bool) .nil))) (.cmp .eq (.var 0) (.var 1)))))
    .nil) .nil)
    (.cons (.ite (.or (.cmp .is (.var 1) .non) (.cmp .is (.var 0) .non)) (.cons (.ret (.and (.cmp .is (.var 1) .non) (.cmp .is (.var 0) .non)))
    .nil) .nil)
    (.cons (.ite (.bi .isinstance (.cons (.var 1) (.cons (.gty .int) .nil))) (.cons (.ret (.and (.bi .isinstance (.cons (.var 0) (.cons (.gty .int) .nil))) (.cmp .eq (.var 0) (.var 1))))
    .nil) .nil)
    (.cons (.ite (.bi .isinstance (.cons (.var 1) (.cons (.gty .str) .nil))) (.cons (.ret (.and (.bi .isinstance (.cons (.var 0) (.cons (.gty .str) .nil))) (.cmp .eq (.var 0) (.var 1))))
    .nil) .nil)
    (.cons (.ite (.and (.bi .isinstance (.cons (.var 1) (.cons (.gty .tuple) .nil))) (.not (.bi .isinstance (.cons (.var 0) (.cons (.gty .tuple) .nil))))) (.cons (.ret (.bl false))
    .nil) .nil)
    (.cons (.ite (.and (.bi .isinstance (.cons (.var 1) (.cons (.gty .list) .nil))) (.not (.bi .isinstance (.cons (.var 0) (.cons (.gty .list) .nil))))) (.cons (.ret (.bl false))
    .nil) .nil)
    (.cons (.ite (.cmp .ne (.bi .len (.cons (.var 0) .nil)) (.bi .len (.cons (.var 1) .nil))) (.cons (.ret (.bl false))
    .nil) .nil)
    (.cons (.fors (.nm 2) (.rng (.bi .len (.cons (.var 1) .nil))) b_f__law_same_1)
    (.cons (.ret (.bl true))
    .nil)))))))))
def b_f__law_sign : Sms := (.cons (.asg (.nm 1) (.str [32, 33, 34, 35, 36, 38, 39, 40, 41, 42, 43, 44, 45, 46, 47, 48, 49, 50, 51, 52, 53, 54, 55, 56, 57, 58, 59, 60, 61, 62, 63, 64, 65, 66, 67, 68, 69, 70, 71, 72, 73, 74, 75, 76, 77, 78, 79, 80, 81, 82, 83, 84, 85, 86, 87, 88, 89, 90, 91, 92, 93, 94, 95, 96]))
    (.cons (.asg (.nm 1) (.bin .add (.var 1) (.str [97, 98, 99, 100, 101, 102, 103, 104, 105, 106, 107, 108, 109, 110, 111, 112, 113, 114, 115, 116, 117, 118, 119, 120, 121, 122, 123, 124, 125, 126])))
    (.cons (.ret (.ix (.var 1) (.call .f__law_draw (.cons (.var 0) (.cons (.int 94) .nil)))))
    .nil)))
def b_f__law_string_1 : Sms := (.cons (.ite (.cmp .eq (.var 1) (.int 0)) (.cons (.asg (.nm 2) (.bin .add (.var 2) (.ix (.str [97, 98, 99, 100, 101, 102, 103, 104, 105, 106, 107, 108, 109, 110, 111, 112, 113, 114, 115, 116, 117, 118, 119, 120, 121, 122, 48, 49, 50, 51, 52, 53, 54, 55, 56, 57]) (.call .f__law_draw (.cons (.var 0) (.cons (.int 36) .nil))))))
    .nil) (.cons (.asg (.nm 2) (.bin .add (.var 2) (.ix (.str [97, 49, 126, 32, 45, 65, 95, 46, 90, 122]) (.call .f__law_draw (.cons (.var 0) (.cons (.int 10) .nil))))))
    .nil))
    .nil)
def b_f__law_string : Sms := (.cons (.asg (.nm 1) (.call .f__law_draw (.cons (.var 0) (.cons (.int 6) .nil))))
    (.cons (.asg (.nm 2) (.str []))
    (.cons (.ite (.cmp .lt (.var 1) (.int 2)) (.cons (.fors (.nm 3) (.rng (.call .f__law_draw (.cons (.var 0) (.cons (.int 11) .nil)))) b_f__law_string_1)
    (.cons (.ret (.var 2))
    .nil)) .nil)
    (.cons (.asg (.nm 2) (.call .f__law_name (.cons (.var 0) .nil)))
    (.cons (.asg (.nm 4) (.call .f__law_draw (.cons (.var 0) (.cons (.bin .add (.bi .len (.cons (.var 2) .nil)) (.int 1)) .nil))))
    (.cons (.ite (.cmp .eq (.var 1) (.int 2)) (.cons (.ret (.bin .add (.bin .add (.sl (.var 2) .non (.var 4)) (.call .f__law_sign (.cons (.var 0) .nil))) (.sl (.var 2) (.bin .add (.var 4) (.int 1)) .non)))
    .nil) .nil)
    (.cons (.ite (.cmp .eq (.var 1) (.int 3)) (.cons (.ret (.bin .add (.bin .add (.sl (.var 2) .non (.var 4)) (.call .f__law_sign (.cons (.var 0) .nil))) (.sl (.var 2) (.var 4) .non)))
    .nil) .nil)
    (.cons (.ite (.cmp .eq (.var 1) (.int 4)) (.cons (.ret (.bin .add (.bin .mul (.str [126]) (.bin .add (.int 1) (.call .f__law_draw (.cons (.var 0) (.cons (.int 3) .nil))))) (.var 2)))
    .nil) .nil)
    (.cons (.ret (.sl (.bin .add (.var 2) (.str [122, 48, 121, 49, 120, 50, 119, 51, 118, 52])) .non (.bin .add (.int 7) (.call .f__law_draw (.cons (.var 0) (.cons (.int 4) .nil))))))
    .nil)))))))))
def b_f__law_is_name_1 : Sms := (.cons (.ite (.cmp .notin (.var 1) (.str [97, 98, 99, 100, 101, 102, 103, 104, 105, 106, 107, 108, 109, 110, 111, 112, 113, 114, 115, 116, 117, 118, 119, 120, 121, 122, 48, 49, 50, 51, 52, 53, 54, 55, 56, 57])) (.cons (.ret (.bl false))
    .nil) .nil)
    .nil)
def b_f__law_is_name : Sms := (.cons (.ite (.or (.cmp .lt (.bi .len (.cons (.var 0) .nil)) (.int 1)) (.or (.cmp .gt (.bi .len (.cons (.var 0) .nil)) (.int 8)) (.cmp .notin (.ix (.var 0) (.int 0)) (.str [97, 98, 99, 100, 101, 102, 103, 104, 105, 106, 107, 108, 109, 110, 111, 112, 113, 114, 115, 116, 117, 118, 119, 120, 121, 122])))) (.cons (.ret (.bl false))
    .nil) .nil)
    (.cons (.fors (.nm 1) (.val (.var 0)) b_f__law_is_name_1)
    (.cons (.ret (.bl true))
    .nil)))
def b_f__law_told_1 : Sms := (.cons (.asg (.nm 4) (.xis (.tup (.cons (.gcls .TooLarge) (.cons (.gcls .NoMeet) (.cons (.gcls .BadMiddle) (.cons (.gcls .Mismatch) (.cons (.gcls .BrokenRow) (.cons (.gcls .NoPlace) (.cons (.gcls .BadTrial) (.cons (.gcls .Unbound) .nil)))))))))))
    (.cons (.asg (.nm 4) (.or (.var 4) (.xis (.tup (.cons (.gcls .WrongKind) (.cons (.gcls .NoModule) (.cons (.gcls .Refused) (.cons (.gcls .BadLimit) .nil))))))))
    (.cons (.ret (.tup (.cons (.str [114, 101, 102, 117, 115, 101, 100]) (.cons (.and (.xis (.gcls .BadText)) (.and (.xis (.gty .valueError)) (.not (.var 4)))) .nil))))
    .nil)))
def b_f__law_told : Sms := (.cons (.tri (.cons (.ite (.cmp .eq (.var 1) (.int 0)) (.cons (.asg (.nm 2) (.mk .Label (.cons (.var 0) .nil)))
    .nil) (.cons (.ite (.cmp .eq (.var 1) (.int 1)) (.cons (.asg (.nm 2) (.mk .Label (.cons (.var 0) (.cons (.bl false) .nil))))
    .nil) (.cons (.asg (.nm 2) (.cmeth .Label .a_read (.cons (.var 0) .nil)))
    .nil))
    .nil))
    .nil) .CastsError 3 b_f__law_told_1)
    (.cons (.ite (.not (.bi .isinstance (.cons (.var 2) (.cons (.gcls .Label) .nil)))) (.cons (.ret (.tup (.cons (.str [111, 100, 100]) .nil)))
    .nil) .nil)
    (.cons (.ret (.tup (.cons (.str [108, 97, 98, 101, 108]) (.cons (.att (.var 2) .a_name) (.cons (.att (.var 2) .a_positive) (.cons (.att (.var 2) .a_text) (.cons (.bi .str (.cons (.var 2) .nil)) .nil)))))))
    .nil)))
def b_f_law_1 : Sms := (.cons (.asg (.nm 6) (.tup (.cons (.str [114, 101, 102, 117, 115, 101, 100]) (.cons (.bl true) .nil))))
    (.cons (.asg (.nm 7) (.var 6))
    (.cons (.asg (.nm 8) (.var 6))
    (.cons (.ite (.call .f__law_is_name (.cons (.var 5) .nil)) (.cons (.asg (.nm 6) (.tup (.cons (.str [108, 97, 98, 101, 108]) (.cons (.var 5) (.cons (.bl true) (.cons (.var 5) (.cons (.var 5) .nil)))))))
    (.cons (.asg (.nm 7) (.tup (.cons (.str [108, 97, 98, 101, 108]) (.cons (.var 5) (.cons (.bl false) (.cons (.bin .add (.str [126]) (.var 5)) (.cons (.bin .add (.str [126]) (.var 5)) .nil)))))))
    (.cons (.asg (.nm 8) (.var 6))
    .nil))) (.cons (.ite (.and (.cmp .eq (.sl (.var 5) .non (.int 1)) (.str [126])) (.call .f__law_is_name (.cons (.sl (.var 5) (.int 1) .non) .nil))) (.cons (.asg (.nm 8) (.tup (.cons (.str [108, 97, 98, 101, 108]) (.cons (.sl (.var 5) (.int 1) .non) (.cons (.bl false) (.cons (.var 5) (.cons (.var 5) .nil)))))))
    .nil) .nil)
    .nil))
    (.cons (.ite (.or (.not (.call .f__law_same (.cons (.call .f__law_told (.cons (.var 5) (.cons (.int 0) .nil))) (.cons (.var 6) .nil)))) (.not (.call .f__law_same (.cons (.call .f__law_told (.cons (.var 5) (.cons (.int 1) .nil))) (.cons (.var 7) .nil))))) (.cons (.ret (.bl false))
    .nil) .nil)
    (.cons (.ite (.not (.call .f__law_same (.cons (.call .f__law_told (.cons (.var 5) (.cons (.int 2) .nil))) (.cons (.var 8) .nil)))) (.cons (.ret (.bl false))
    .nil) .nil)
    .nil))))))
def b_f_law_2 : Sms := (.cons (.fors (.nm 5) (.val (.var 2)) b_f_law_1)
    .nil)
def b_f_law_3 : Sms := (.cons (.expr (.bm (.var 2) .append (.cons (.call .f__law_string (.cons (.var 1) .nil)) .nil)))
    .nil)
def b_f_law : Sms := (.cons (.asg (.nm 1) (.call .f__law_draws (.cons (.var 0) .nil)))
    (.cons (.asg (.nm 2) (.lst (.cons (.call .f__law_name (.cons (.var 1) .nil)) .nil)))
    (.cons (.fors (.nm 3) (.rng (.bin .add (.int 2) (.call .f__law_draw (.cons (.var 1) (.cons (.int 4) .nil))))) b_f_law_3)
    (.cons (.fors (.nm 4) (.rng (.int 2)) b_f_law_2)
    (.cons (.ret (.bl true))
    .nil)))))
def b_m_Label_init : Sms := (.cons (.ite (.not (.call .f_is_label_name (.cons (.var 1) .nil))) (.cons (.rais .BadText (.cons (.str [110, 111, 116, 32, 116, 104, 101, 32, 110, 97, 109, 101, 32, 111, 102, 32, 97, 32, 108, 97, 98, 101, 108]) .nil))
    .nil) .nil)
    (.cons (.asg (.att (.var 0) .a_name) (.var 1))
    (.cons (.asg (.att (.var 0) .a_positive) (.var 2))
    .nil)))
def b_m_Label_read : Sms := (.cons (.ite (.not (.call .f_is_label (.cons (.var 1) .nil))) (.cons (.rais .BadText (.cons (.str [110, 111, 116, 32, 116, 104, 101, 32, 116, 101, 120, 116, 32, 111, 102, 32, 97, 32, 108, 97, 98, 101, 108]) .nil))
    .nil) .nil)
    (.cons (.ret (.mkl 0 (.cons (.bm (.var 1) .removeprefix (.cons (.str [126]) .nil)) (.cons (.not (.bm (.var 1) .startswith (.cons (.str [126]) .nil))) .nil))))
    .nil))
def b_m_Label_text : Sms := (.cons (.ite (.att (.var 0) .a_positive) (.cons (.ret (.att (.var 0) .a_name))
    .nil) .nil)
    (.cons (.ret (.fstr (.cons (.str [126]) (.cons (.att (.var 0) .a_name) .nil))))
    .nil))
def b_m_Label_invert : Sms := .dead
def b_m_Label_eq : Sms := .dead
def b_m_Label_str : Sms := (.cons (.ret (.fstr (.cons (.att (.var 0) .a_text) .nil)))
    .nil)
def dfn : Fn → Def
  | .f_consists_of => ⟨2, 3, b_f_consists_of, []⟩
  | .f_is_label_name => ⟨1, 1, b_f_is_label_name, []⟩
  | .f_is_label => ⟨1, 1, b_f_is_label, []⟩
  | .f__law_draws => ⟨1, 5, b_f__law_draws, []⟩
  | .f__law_draw => ⟨2, 2, b_f__law_draw, []⟩
  | .f__law_name => ⟨1, 7, b_f__law_name, []⟩
  | .f__law_same => ⟨2, 3, b_f__law_same, []⟩
  | .f__law_sign => ⟨1, 2, b_f__law_sign, []⟩
  | .f__law_string => ⟨1, 5, b_f__law_string, []⟩
  | .f__law_is_name => ⟨1, 2, b_f__law_is_name, []⟩
  | .f__law_told => ⟨2, 5, b_f__law_told, []⟩
  | .f_law => ⟨1, 9, b_f_law, []⟩
  | .m_Label_init => ⟨3, 3, b_m_Label_init, [(.bl true)]⟩
  | .m_Label_read => ⟨2, 2, b_m_Label_read, []⟩
  | .m_Label_text => ⟨1, 1, b_m_Label_text, []⟩
  | .m_Label_invert => ⟨1, 1, b_m_Label_invert, []⟩
  | .m_Label_eq => ⟨2, 2, b_m_Label_eq, []⟩
  | .m_Label_str => ⟨1, 1, b_m_Label_str, []⟩
def info : Fn → DI
  | .f_consists_of => ⟨PySem.Str.ofString "consists_of", PySem.Str.ofString "consists_of", defArgs (topS 19), defBody (topS 19), defScope (topS 19), [PySem.Str.ofString "text", PySem.Str.ofString "signs", PySem.Str.ofString "sign"], [PySem.Str.ofString "text", PySem.Str.ofString "signs"], []⟩
  | .f_is_label_name => ⟨PySem.Str.ofString "is_label_name", PySem.Str.ofString "is_label_name", defArgs (topS 20), defBody (topS 20), defScope (topS 20), [PySem.Str.ofString "name"], [PySem.Str.ofString "name"], []⟩
  | .f_is_label => ⟨PySem.Str.ofString "is_label", PySem.Str.ofString "is_label", defArgs (topS 21), defBody (topS 21), defScope (topS 21), [PySem.Str.ofString "text"], [PySem.Str.ofString "text"], []⟩
  | .f__law_draws => ⟨PySem.Str.ofString "_law_draws", PySem.Str.ofString "_law_draws", defArgs (topS 25), defBody (topS 25), defScope (topS 25), [PySem.Str.ofString "script", PySem.Str.ofString "draws", PySem.Str.ofString "cell", PySem.Str.ofString "rest", PySem.Str.ofString "k"], [PySem.Str.ofString "script"], []⟩
  | .f__law_draw => ⟨PySem.Str.ofString "_law_draw", PySem.Str.ofString "_law_draw", defArgs (topS 26), defBody (topS 26), defScope (topS 26), [PySem.Str.ofString "draws", PySem.Str.ofString "many"], [PySem.Str.ofString "draws", PySem.Str.ofString "many"], []⟩
  | .f__law_name => ⟨PySem.Str.ofString "_law_name", PySem.Str.ofString "_law_name", defArgs (topS 27), defBody (topS 27), defScope (topS 27), [PySem.Str.ofString "draws", PySem.Str.ofString "letters", PySem.Str.ofString "way", PySem.Str.ofString "size", PySem.Str.ofString "name", PySem.Str.ofString "k", PySem.Str.ofString "at"], [PySem.Str.ofString "draws"], []⟩
  | .f__law_same => ⟨PySem.Str.ofString "_law_same", PySem.Str.ofString "_law_same", defArgs (topS 28), defBody (topS 28), defScope (topS 28), [PySem.Str.ofString "actual", PySem.Str.ofString "due", PySem.Str.ofString "k"], [PySem.Str.ofString "actual", PySem.Str.ofString "due"], []⟩
  | .f__law_sign => ⟨PySem.Str.ofString "_law_sign", PySem.Str.ofString "_law_sign", defArgs (topS 29), defBody (topS 29), defScope (topS 29), [PySem.Str.ofString "draws", PySem.Str.ofString "signs"], [PySem.Str.ofString "draws"], []⟩
  | .f__law_string => ⟨PySem.Str.ofString "_law_string", PySem.Str.ofString "_law_string", defArgs (topS 30), defBody (topS 30), defScope (topS 30), [PySem.Str.ofString "draws", PySem.Str.ofString "way", PySem.Str.ofString "text", PySem.Str.ofString "k", PySem.Str.ofString "at"], [PySem.Str.ofString "draws"], []⟩
  | .f__law_is_name => ⟨PySem.Str.ofString "_law_is_name", PySem.Str.ofString "_law_is_name", defArgs (topS 31), defBody (topS 31), defScope (topS 31), [PySem.Str.ofString "text", PySem.Str.ofString "sign"], [PySem.Str.ofString "text"], []⟩
  | .f__law_told => ⟨PySem.Str.ofString "_law_told", PySem.Str.ofString "_law_told", defArgs (topS 32), defBody (topS 32), defScope (topS 32), [PySem.Str.ofString "text", PySem.Str.ofString "way", PySem.Str.ofString "label", PySem.Str.ofString "e", PySem.Str.ofString "other"], [PySem.Str.ofString "text", PySem.Str.ofString "way"], []⟩
  | .f_law => ⟨PySem.Str.ofString "law", PySem.Str.ofString "law", defArgs (topS 33), defBody (topS 33), defScope (topS 33), [PySem.Str.ofString "script", PySem.Str.ofString "draws", PySem.Str.ofString "texts", PySem.Str.ofString "k", PySem.Str.ofString "turn", PySem.Str.ofString "text", PySem.Str.ofString "made", PySem.Str.ofString "turned", PySem.Str.ofString "found"], [PySem.Str.ofString "script"], []⟩
  | .m_Label_init => ⟨PySem.Str.ofString "__init__", PySem.Str.ofString "Label.__init__", defArgs (memS 23 0), defBody (memS 23 0), defScope (memS 23 0), [PySem.Str.ofString "self", PySem.Str.ofString "name", PySem.Str.ofString "positive"], [PySem.Str.ofString "self", PySem.Str.ofString "name", PySem.Str.ofString "positive"], [(.bl true)]⟩
  | .m_Label_read => ⟨PySem.Str.ofString "read", PySem.Str.ofString "Label.read", defArgs (memS 23 1), defBody (memS 23 1), defScope (memS 23 1), [PySem.Str.ofString "cls", PySem.Str.ofString "text"], [PySem.Str.ofString "cls", PySem.Str.ofString "text"], []⟩
  | .m_Label_text => ⟨PySem.Str.ofString "text", PySem.Str.ofString "Label.text", defArgs (memS 23 2), defBody (memS 23 2), defScope (memS 23 2), [PySem.Str.ofString "self"], [PySem.Str.ofString "self"], []⟩
  | .m_Label_invert => ⟨PySem.Str.ofString "__invert__", PySem.Str.ofString "Label.__invert__", defArgs (memS 23 3), defBody (memS 23 3), defScope (memS 23 3), [PySem.Str.ofString "self"], [PySem.Str.ofString "self"], []⟩
  | .m_Label_eq => ⟨PySem.Str.ofString "__eq__", PySem.Str.ofString "Label.__eq__", defArgs (memS 23 4), defBody (memS 23 4), defScope (memS 23 4), [PySem.Str.ofString "self", PySem.Str.ofString "other"], [PySem.Str.ofString "self", PySem.Str.ofString "other"], []⟩
  | .m_Label_str => ⟨PySem.Str.ofString "__str__", PySem.Str.ofString "Label.__str__", defArgs (memS 23 5), defBody (memS 23 5), defScope (memS 23 5), [PySem.Str.ofString "self"], [PySem.Str.ofString "self"], []⟩
def memF : Cl → At → Option Mem
  | .Label, .init => some (.fn .m_Label_init)
  | .Label, .a_read => some (.cm .m_Label_read)
  | .Label, .a_text => some (.prop .m_Label_text)
  | .Label, .dinvert => some (.fn .m_Label_invert)
  | .Label, .deq => some (.fn .m_Label_eq)
  | .Label, .dstr => some (.fn .m_Label_str)
  | .Label, .dle => some .oth
  | .Label, .dlt => some .oth
  | _, _ => none
def subF : Cl → Cl → Bool
  | .CastsError, .CastsError => true
  | .BadText, .BadText => true
  | .BadText, .CastsError => true
  | .TooLarge, .CastsError => true
  | .TooLarge, .TooLarge => true
  | .NoMeet, .CastsError => true
  | .NoMeet, .NoMeet => true
  | .BadMiddle, .BadMiddle => true
  | .BadMiddle, .CastsError => true
  | .Mismatch, .CastsError => true
  | .Mismatch, .Mismatch => true
  | .BrokenRow, .BrokenRow => true
  | .BrokenRow, .CastsError => true
  | .NoPlace, .CastsError => true
  | .NoPlace, .NoPlace => true
  | .BadTrial, .BadTrial => true
  | .BadTrial, .CastsError => true
  | .Unbound, .CastsError => true
  | .Unbound, .Unbound => true
  | .WrongKind, .CastsError => true
  | .WrongKind, .WrongKind => true
  | .NoModule, .CastsError => true
  | .NoModule, .NoModule => true
  | .Refused, .CastsError => true
  | .Refused, .Refused => true
  | .BadLimit, .BadLimit => true
  | .BadLimit, .CastsError => true
  | .Label, .Label => true
  | _, _ => false
def excF : Cl → Bool
  | .CastsError => true
  | .BadText => true
  | .TooLarge => true
  | .NoMeet => true
  | .BadMiddle => true
  | .Mismatch => true
  | .BrokenRow => true
  | .NoPlace => true
  | .BadTrial => true
  | .Unbound => true
  | .WrongKind => true
  | .NoModule => true
  | .Refused => true
  | .BadLimit => true
  | .Label => false
def xiniF : Cl → Bool
  | .CastsError => false
  | .BadText => false
  | .TooLarge => false
  | .NoMeet => false
  | .BadMiddle => false
  | .Mismatch => true
  | .BrokenRow => true
  | .NoPlace => true
  | .BadTrial => true
  | .Unbound => true
  | .WrongKind => true
  | .NoModule => true
  | .Refused => true
  | .BadLimit => true
  | .Label => false
def conF : Gc → D
  | .g_LETTERS => (.str [97, 98, 99, 100, 101, 102, 103, 104, 105, 106, 107, 108, 109, 110, 111, 112, 113, 114, 115, 116, 117, 118, 119, 120, 121, 122])
  | .g_DIGITS => (.str [48, 49, 50, 51, 52, 53, 54, 55, 56, 57])
  | .g_LONGEST_NAME => (.int 8)
def globF : Fn → Bool
  | .f_consists_of => true
  | .f_is_label_name => true
  | .f_is_label => true
  | .f__law_draws => true
  | .f__law_draw => true
  | .f__law_name => true
  | .f__law_same => true
  | .f__law_sign => true
  | .f__law_string => true
  | .f__law_is_name => true
  | .f__law_told => true
  | .f_law => true
  | .m_Label_init => false
  | .m_Label_read => false
  | .m_Label_text => false
  | .m_Label_invert => false
  | .m_Label_eq => false
  | .m_Label_str => false
def GF (F : Nat) : Ctx := { fn := fun f => some (dfn f), mem := memF, con := conF, sub := subF, exc := excF, xini := xiniF, glob := globF, fuel := F }
abbrev GG : Ctx := GF 1000000000
theorem callG {F : Nat} (k : Nat) (f : Fn) (ds : List D) (s : St) : callF (GF F) (k + 1) f ds s = run (GF F) (callF (GF F) k) (callF (GF F) (k - 1)) (dfn f) ds s := by rw [callF_succ]; rfl
theorem r_f_consists_of {F k : Nat} (a0 a1 : D) (s : St) : callF (GF F) (k + 1) .f_consists_of [a0, a1] s = runR (evSs (GF F) (callF (GF F) k) (callF (GF F) (k - 1)) none b_f_consists_of [some a0, some a1, none] s) := (callG k _ _ s).trans (run_eq _ _ _ s (dfn .f_consists_of) _ _ rfl rfl)
theorem r_f_is_label_name {F k : Nat} (a0 : D) (s : St) : callF (GF F) (k + 1) .f_is_label_name [a0] s = runR (evSs (GF F) (callF (GF F) k) (callF (GF F) (k - 1)) none b_f_is_label_name [some a0] s) := (callG k _ _ s).trans (run_eq _ _ _ s (dfn .f_is_label_name) _ _ rfl rfl)
theorem r_f_is_label {F k : Nat} (a0 : D) (s : St) : callF (GF F) (k + 1) .f_is_label [a0] s = runR (evSs (GF F) (callF (GF F) k) (callF (GF F) (k - 1)) none b_f_is_label [some a0] s) := (callG k _ _ s).trans (run_eq _ _ _ s (dfn .f_is_label) _ _ rfl rfl)
theorem r_f__law_draws {F k : Nat} (a0 : D) (s : St) : callF (GF F) (k + 1) .f__law_draws [a0] s = runR (evSs (GF F) (callF (GF F) k) (callF (GF F) (k - 1)) none b_f__law_draws [some a0, none, none, none, none] s) := (callG k _ _ s).trans (run_eq _ _ _ s (dfn .f__law_draws) _ _ rfl rfl)
theorem r_f__law_draw {F k : Nat} (a0 a1 : D) (s : St) : callF (GF F) (k + 1) .f__law_draw [a0, a1] s = runR (evSs (GF F) (callF (GF F) k) (callF (GF F) (k - 1)) none b_f__law_draw [some a0, some a1] s) := (callG k _ _ s).trans (run_eq _ _ _ s (dfn .f__law_draw) _ _ rfl rfl)
theorem r_f__law_name {F k : Nat} (a0 : D) (s : St) : callF (GF F) (k + 1) .f__law_name [a0] s = runR (evSs (GF F) (callF (GF F) k) (callF (GF F) (k - 1)) none b_f__law_name [some a0, none, none, none, none, none, none] s) := (callG k _ _ s).trans (run_eq _ _ _ s (dfn .f__law_name) _ _ rfl rfl)
theorem r_f__law_same {F k : Nat} (a0 a1 : D) (s : St) : callF (GF F) (k + 1) .f__law_same [a0, a1] s = runR (evSs (GF F) (callF (GF F) k) (callF (GF F) (k - 1)) none b_f__law_same [some a0, some a1, none] s) := (callG k _ _ s).trans (run_eq _ _ _ s (dfn .f__law_same) _ _ rfl rfl)
theorem r_f__law_sign {F k : Nat} (a0 : D) (s : St) : callF (GF F) (k + 1) .f__law_sign [a0] s = runR (evSs (GF F) (callF (GF F) k) (callF (GF F) (k - 1)) none b_f__law_sign [some a0, none] s) := (callG k _ _ s).trans (run_eq _ _ _ s (dfn .f__law_sign) _ _ rfl rfl)
theorem r_f__law_string {F k : Nat} (a0 : D) (s : St) : callF (GF F) (k + 1) .f__law_string [a0] s = runR (evSs (GF F) (callF (GF F) k) (callF (GF F) (k - 1)) none b_f__law_string [some a0, none, none, none, none] s) := (callG k _ _ s).trans (run_eq _ _ _ s (dfn .f__law_string) _ _ rfl rfl)
theorem r_f__law_is_name {F k : Nat} (a0 : D) (s : St) : callF (GF F) (k + 1) .f__law_is_name [a0] s = runR (evSs (GF F) (callF (GF F) k) (callF (GF F) (k - 1)) none b_f__law_is_name [some a0, none] s) := (callG k _ _ s).trans (run_eq _ _ _ s (dfn .f__law_is_name) _ _ rfl rfl)
theorem r_f__law_told {F k : Nat} (a0 a1 : D) (s : St) : callF (GF F) (k + 1) .f__law_told [a0, a1] s = runR (evSs (GF F) (callF (GF F) k) (callF (GF F) (k - 1)) none b_f__law_told [some a0, some a1, none, none, none] s) := (callG k _ _ s).trans (run_eq _ _ _ s (dfn .f__law_told) _ _ rfl rfl)
theorem r_f_law {F k : Nat} (a0 : D) (s : St) : callF (GF F) (k + 1) .f_law [a0] s = runR (evSs (GF F) (callF (GF F) k) (callF (GF F) (k - 1)) none b_f_law [some a0, none, none, none, none, none, none, none, none] s) := (callG k _ _ s).trans (run_eq _ _ _ s (dfn .f_law) _ _ rfl rfl)
theorem r_m_Label_init {F k : Nat} (a0 a1 a2 : D) (s : St) : callF (GF F) (k + 1) .m_Label_init [a0, a1, a2] s = runR (evSs (GF F) (callF (GF F) k) (callF (GF F) (k - 1)) none b_m_Label_init [some a0, some a1, some a2] s) := (callG k _ _ s).trans (run_eq _ _ _ s (dfn .m_Label_init) _ _ rfl rfl)
theorem r1_m_Label_init {F k : Nat} (a0 a1 : D) (s : St) : callF (GF F) (k + 1) .m_Label_init [a0, a1] s = runR (evSs (GF F) (callF (GF F) k) (callF (GF F) (k - 1)) none b_m_Label_init [some a0, some a1, some (.bl true)] s) := (callG k _ _ s).trans (run_eq _ _ _ s (dfn .m_Label_init) _ _ rfl rfl)
theorem r_m_Label_read {F k : Nat} (a0 a1 : D) (s : St) : callF (GF F) (k + 1) .m_Label_read [a0, a1] s = runR (evSs (GF F) (callF (GF F) k) (callF (GF F) (k - 1)) none b_m_Label_read [some a0, some a1] s) := (callG k _ _ s).trans (run_eq _ _ _ s (dfn .m_Label_read) _ _ rfl rfl)
theorem r_m_Label_text {F k : Nat} (a0 : D) (s : St) : callF (GF F) (k + 1) .m_Label_text [a0] s = runR (evSs (GF F) (callF (GF F) k) (callF (GF F) (k - 1)) none b_m_Label_text [some a0] s) := (callG k _ _ s).trans (run_eq _ _ _ s (dfn .m_Label_text) _ _ rfl rfl)
theorem r_m_Label_str {F k : Nat} (a0 : D) (s : St) : callF (GF F) (k + 1) .m_Label_str [a0] s = runR (evSs (GF F) (callF (GF F) k) (callF (GF F) (k - 1)) none b_m_Label_str [some a0] s) := (callG k _ _ s).trans (run_eq _ _ _ s (dfn .m_Label_str) _ _ rfl rfl)
@[simp] theorem x_CastsError (F : Nat) : (GF F).exc .CastsError = true := rfl
@[simp] theorem xi_CastsError (F : Nat) : (GF F).xini .CastsError = false := rfl
@[simp] theorem sb_CastsError_CastsError (F : Nat) : (GF F).sub .CastsError .CastsError = true := rfl
@[simp] theorem sb_CastsError_BadText (F : Nat) : (GF F).sub .CastsError .BadText = false := rfl
@[simp] theorem sb_CastsError_TooLarge (F : Nat) : (GF F).sub .CastsError .TooLarge = false := rfl
@[simp] theorem sb_CastsError_NoMeet (F : Nat) : (GF F).sub .CastsError .NoMeet = false := rfl
@[simp] theorem sb_CastsError_BadMiddle (F : Nat) : (GF F).sub .CastsError .BadMiddle = false := rfl
@[simp] theorem sb_CastsError_Mismatch (F : Nat) : (GF F).sub .CastsError .Mismatch = false := rfl
@[simp] theorem sb_CastsError_BrokenRow (F : Nat) : (GF F).sub .CastsError .BrokenRow = false := rfl
@[simp] theorem sb_CastsError_NoPlace (F : Nat) : (GF F).sub .CastsError .NoPlace = false := rfl
@[simp] theorem sb_CastsError_BadTrial (F : Nat) : (GF F).sub .CastsError .BadTrial = false := rfl
@[simp] theorem sb_CastsError_Unbound (F : Nat) : (GF F).sub .CastsError .Unbound = false := rfl
@[simp] theorem sb_CastsError_WrongKind (F : Nat) : (GF F).sub .CastsError .WrongKind = false := rfl
@[simp] theorem sb_CastsError_NoModule (F : Nat) : (GF F).sub .CastsError .NoModule = false := rfl
@[simp] theorem sb_CastsError_Refused (F : Nat) : (GF F).sub .CastsError .Refused = false := rfl
@[simp] theorem sb_CastsError_BadLimit (F : Nat) : (GF F).sub .CastsError .BadLimit = false := rfl
@[simp] theorem sb_CastsError_Label (F : Nat) : (GF F).sub .CastsError .Label = false := rfl
@[simp] theorem x_BadText (F : Nat) : (GF F).exc .BadText = true := rfl
@[simp] theorem xi_BadText (F : Nat) : (GF F).xini .BadText = false := rfl
@[simp] theorem sb_BadText_CastsError (F : Nat) : (GF F).sub .BadText .CastsError = true := rfl
@[simp] theorem sb_BadText_BadText (F : Nat) : (GF F).sub .BadText .BadText = true := rfl
@[simp] theorem sb_BadText_TooLarge (F : Nat) : (GF F).sub .BadText .TooLarge = false := rfl
@[simp] theorem sb_BadText_NoMeet (F : Nat) : (GF F).sub .BadText .NoMeet = false := rfl
@[simp] theorem sb_BadText_BadMiddle (F : Nat) : (GF F).sub .BadText .BadMiddle = false := rfl
@[simp] theorem sb_BadText_Mismatch (F : Nat) : (GF F).sub .BadText .Mismatch = false := rfl
@[simp] theorem sb_BadText_BrokenRow (F : Nat) : (GF F).sub .BadText .BrokenRow = false := rfl
@[simp] theorem sb_BadText_NoPlace (F : Nat) : (GF F).sub .BadText .NoPlace = false := rfl
@[simp] theorem sb_BadText_BadTrial (F : Nat) : (GF F).sub .BadText .BadTrial = false := rfl
@[simp] theorem sb_BadText_Unbound (F : Nat) : (GF F).sub .BadText .Unbound = false := rfl
@[simp] theorem sb_BadText_WrongKind (F : Nat) : (GF F).sub .BadText .WrongKind = false := rfl
@[simp] theorem sb_BadText_NoModule (F : Nat) : (GF F).sub .BadText .NoModule = false := rfl
@[simp] theorem sb_BadText_Refused (F : Nat) : (GF F).sub .BadText .Refused = false := rfl
@[simp] theorem sb_BadText_BadLimit (F : Nat) : (GF F).sub .BadText .BadLimit = false := rfl
@[simp] theorem sb_BadText_Label (F : Nat) : (GF F).sub .BadText .Label = false := rfl
@[simp] theorem x_TooLarge (F : Nat) : (GF F).exc .TooLarge = true := rfl
@[simp] theorem xi_TooLarge (F : Nat) : (GF F).xini .TooLarge = false := rfl
@[simp] theorem sb_TooLarge_CastsError (F : Nat) : (GF F).sub .TooLarge .CastsError = true := rfl
@[simp] theorem sb_TooLarge_BadText (F : Nat) : (GF F).sub .TooLarge .BadText = false := rfl
@[simp] theorem sb_TooLarge_TooLarge (F : Nat) : (GF F).sub .TooLarge .TooLarge = true := rfl
@[simp] theorem sb_TooLarge_NoMeet (F : Nat) : (GF F).sub .TooLarge .NoMeet = false := rfl
@[simp] theorem sb_TooLarge_BadMiddle (F : Nat) : (GF F).sub .TooLarge .BadMiddle = false := rfl
@[simp] theorem sb_TooLarge_Mismatch (F : Nat) : (GF F).sub .TooLarge .Mismatch = false := rfl
@[simp] theorem sb_TooLarge_BrokenRow (F : Nat) : (GF F).sub .TooLarge .BrokenRow = false := rfl
@[simp] theorem sb_TooLarge_NoPlace (F : Nat) : (GF F).sub .TooLarge .NoPlace = false := rfl
@[simp] theorem sb_TooLarge_BadTrial (F : Nat) : (GF F).sub .TooLarge .BadTrial = false := rfl
@[simp] theorem sb_TooLarge_Unbound (F : Nat) : (GF F).sub .TooLarge .Unbound = false := rfl
@[simp] theorem sb_TooLarge_WrongKind (F : Nat) : (GF F).sub .TooLarge .WrongKind = false := rfl
@[simp] theorem sb_TooLarge_NoModule (F : Nat) : (GF F).sub .TooLarge .NoModule = false := rfl
@[simp] theorem sb_TooLarge_Refused (F : Nat) : (GF F).sub .TooLarge .Refused = false := rfl
@[simp] theorem sb_TooLarge_BadLimit (F : Nat) : (GF F).sub .TooLarge .BadLimit = false := rfl
@[simp] theorem sb_TooLarge_Label (F : Nat) : (GF F).sub .TooLarge .Label = false := rfl
@[simp] theorem x_NoMeet (F : Nat) : (GF F).exc .NoMeet = true := rfl
@[simp] theorem xi_NoMeet (F : Nat) : (GF F).xini .NoMeet = false := rfl
@[simp] theorem sb_NoMeet_CastsError (F : Nat) : (GF F).sub .NoMeet .CastsError = true := rfl
@[simp] theorem sb_NoMeet_BadText (F : Nat) : (GF F).sub .NoMeet .BadText = false := rfl
@[simp] theorem sb_NoMeet_TooLarge (F : Nat) : (GF F).sub .NoMeet .TooLarge = false := rfl
@[simp] theorem sb_NoMeet_NoMeet (F : Nat) : (GF F).sub .NoMeet .NoMeet = true := rfl
@[simp] theorem sb_NoMeet_BadMiddle (F : Nat) : (GF F).sub .NoMeet .BadMiddle = false := rfl
@[simp] theorem sb_NoMeet_Mismatch (F : Nat) : (GF F).sub .NoMeet .Mismatch = false := rfl
@[simp] theorem sb_NoMeet_BrokenRow (F : Nat) : (GF F).sub .NoMeet .BrokenRow = false := rfl
@[simp] theorem sb_NoMeet_NoPlace (F : Nat) : (GF F).sub .NoMeet .NoPlace = false := rfl
@[simp] theorem sb_NoMeet_BadTrial (F : Nat) : (GF F).sub .NoMeet .BadTrial = false := rfl
@[simp] theorem sb_NoMeet_Unbound (F : Nat) : (GF F).sub .NoMeet .Unbound = false := rfl
@[simp] theorem sb_NoMeet_WrongKind (F : Nat) : (GF F).sub .NoMeet .WrongKind = false := rfl
@[simp] theorem sb_NoMeet_NoModule (F : Nat) : (GF F).sub .NoMeet .NoModule = false := rfl
@[simp] theorem sb_NoMeet_Refused (F : Nat) : (GF F).sub .NoMeet .Refused = false := rfl
@[simp] theorem sb_NoMeet_BadLimit (F : Nat) : (GF F).sub .NoMeet .BadLimit = false := rfl
@[simp] theorem sb_NoMeet_Label (F : Nat) : (GF F).sub .NoMeet .Label = false := rfl
@[simp] theorem x_BadMiddle (F : Nat) : (GF F).exc .BadMiddle = true := rfl
@[simp] theorem xi_BadMiddle (F : Nat) : (GF F).xini .BadMiddle = false := rfl
@[simp] theorem sb_BadMiddle_CastsError (F : Nat) : (GF F).sub .BadMiddle .CastsError = true := rfl
@[simp] theorem sb_BadMiddle_BadText (F : Nat) : (GF F).sub .BadMiddle .BadText = false := rfl
@[simp] theorem sb_BadMiddle_TooLarge (F : Nat) : (GF F).sub .BadMiddle .TooLarge = false := rfl
@[simp] theorem sb_BadMiddle_NoMeet (F : Nat) : (GF F).sub .BadMiddle .NoMeet = false := rfl
@[simp] theorem sb_BadMiddle_BadMiddle (F : Nat) : (GF F).sub .BadMiddle .BadMiddle = true := rfl
@[simp] theorem sb_BadMiddle_Mismatch (F : Nat) : (GF F).sub .BadMiddle .Mismatch = false := rfl
@[simp] theorem sb_BadMiddle_BrokenRow (F : Nat) : (GF F).sub .BadMiddle .BrokenRow = false := rfl
@[simp] theorem sb_BadMiddle_NoPlace (F : Nat) : (GF F).sub .BadMiddle .NoPlace = false := rfl
@[simp] theorem sb_BadMiddle_BadTrial (F : Nat) : (GF F).sub .BadMiddle .BadTrial = false := rfl
@[simp] theorem sb_BadMiddle_Unbound (F : Nat) : (GF F).sub .BadMiddle .Unbound = false := rfl
@[simp] theorem sb_BadMiddle_WrongKind (F : Nat) : (GF F).sub .BadMiddle .WrongKind = false := rfl
@[simp] theorem sb_BadMiddle_NoModule (F : Nat) : (GF F).sub .BadMiddle .NoModule = false := rfl
@[simp] theorem sb_BadMiddle_Refused (F : Nat) : (GF F).sub .BadMiddle .Refused = false := rfl
@[simp] theorem sb_BadMiddle_BadLimit (F : Nat) : (GF F).sub .BadMiddle .BadLimit = false := rfl
@[simp] theorem sb_BadMiddle_Label (F : Nat) : (GF F).sub .BadMiddle .Label = false := rfl
@[simp] theorem x_Mismatch (F : Nat) : (GF F).exc .Mismatch = true := rfl
@[simp] theorem xi_Mismatch (F : Nat) : (GF F).xini .Mismatch = true := rfl
@[simp] theorem sb_Mismatch_CastsError (F : Nat) : (GF F).sub .Mismatch .CastsError = true := rfl
@[simp] theorem sb_Mismatch_BadText (F : Nat) : (GF F).sub .Mismatch .BadText = false := rfl
@[simp] theorem sb_Mismatch_TooLarge (F : Nat) : (GF F).sub .Mismatch .TooLarge = false := rfl
@[simp] theorem sb_Mismatch_NoMeet (F : Nat) : (GF F).sub .Mismatch .NoMeet = false := rfl
@[simp] theorem sb_Mismatch_BadMiddle (F : Nat) : (GF F).sub .Mismatch .BadMiddle = false := rfl
@[simp] theorem sb_Mismatch_Mismatch (F : Nat) : (GF F).sub .Mismatch .Mismatch = true := rfl
@[simp] theorem sb_Mismatch_BrokenRow (F : Nat) : (GF F).sub .Mismatch .BrokenRow = false := rfl
@[simp] theorem sb_Mismatch_NoPlace (F : Nat) : (GF F).sub .Mismatch .NoPlace = false := rfl
@[simp] theorem sb_Mismatch_BadTrial (F : Nat) : (GF F).sub .Mismatch .BadTrial = false := rfl
@[simp] theorem sb_Mismatch_Unbound (F : Nat) : (GF F).sub .Mismatch .Unbound = false := rfl
@[simp] theorem sb_Mismatch_WrongKind (F : Nat) : (GF F).sub .Mismatch .WrongKind = false := rfl
@[simp] theorem sb_Mismatch_NoModule (F : Nat) : (GF F).sub .Mismatch .NoModule = false := rfl
@[simp] theorem sb_Mismatch_Refused (F : Nat) : (GF F).sub .Mismatch .Refused = false := rfl
@[simp] theorem sb_Mismatch_BadLimit (F : Nat) : (GF F).sub .Mismatch .BadLimit = false := rfl
@[simp] theorem sb_Mismatch_Label (F : Nat) : (GF F).sub .Mismatch .Label = false := rfl
@[simp] theorem x_BrokenRow (F : Nat) : (GF F).exc .BrokenRow = true := rfl
@[simp] theorem xi_BrokenRow (F : Nat) : (GF F).xini .BrokenRow = true := rfl
@[simp] theorem sb_BrokenRow_CastsError (F : Nat) : (GF F).sub .BrokenRow .CastsError = true := rfl
@[simp] theorem sb_BrokenRow_BadText (F : Nat) : (GF F).sub .BrokenRow .BadText = false := rfl
@[simp] theorem sb_BrokenRow_TooLarge (F : Nat) : (GF F).sub .BrokenRow .TooLarge = false := rfl
@[simp] theorem sb_BrokenRow_NoMeet (F : Nat) : (GF F).sub .BrokenRow .NoMeet = false := rfl
@[simp] theorem sb_BrokenRow_BadMiddle (F : Nat) : (GF F).sub .BrokenRow .BadMiddle = false := rfl
@[simp] theorem sb_BrokenRow_Mismatch (F : Nat) : (GF F).sub .BrokenRow .Mismatch = false := rfl
@[simp] theorem sb_BrokenRow_BrokenRow (F : Nat) : (GF F).sub .BrokenRow .BrokenRow = true := rfl
@[simp] theorem sb_BrokenRow_NoPlace (F : Nat) : (GF F).sub .BrokenRow .NoPlace = false := rfl
@[simp] theorem sb_BrokenRow_BadTrial (F : Nat) : (GF F).sub .BrokenRow .BadTrial = false := rfl
@[simp] theorem sb_BrokenRow_Unbound (F : Nat) : (GF F).sub .BrokenRow .Unbound = false := rfl
@[simp] theorem sb_BrokenRow_WrongKind (F : Nat) : (GF F).sub .BrokenRow .WrongKind = false := rfl
@[simp] theorem sb_BrokenRow_NoModule (F : Nat) : (GF F).sub .BrokenRow .NoModule = false := rfl
@[simp] theorem sb_BrokenRow_Refused (F : Nat) : (GF F).sub .BrokenRow .Refused = false := rfl
@[simp] theorem sb_BrokenRow_BadLimit (F : Nat) : (GF F).sub .BrokenRow .BadLimit = false := rfl
@[simp] theorem sb_BrokenRow_Label (F : Nat) : (GF F).sub .BrokenRow .Label = false := rfl
@[simp] theorem x_NoPlace (F : Nat) : (GF F).exc .NoPlace = true := rfl
@[simp] theorem xi_NoPlace (F : Nat) : (GF F).xini .NoPlace = true := rfl
@[simp] theorem sb_NoPlace_CastsError (F : Nat) : (GF F).sub .NoPlace .CastsError = true := rfl
@[simp] theorem sb_NoPlace_BadText (F : Nat) : (GF F).sub .NoPlace .BadText = false := rfl
@[simp] theorem sb_NoPlace_TooLarge (F : Nat) : (GF F).sub .NoPlace .TooLarge = false := rfl
@[simp] theorem sb_NoPlace_NoMeet (F : Nat) : (GF F).sub .NoPlace .NoMeet = false := rfl
@[simp] theorem sb_NoPlace_BadMiddle (F : Nat) : (GF F).sub .NoPlace .BadMiddle = false := rfl
@[simp] theorem sb_NoPlace_Mismatch (F : Nat) : (GF F).sub .NoPlace .Mismatch = false := rfl
@[simp] theorem sb_NoPlace_BrokenRow (F : Nat) : (GF F).sub .NoPlace .BrokenRow = false := rfl
@[simp] theorem sb_NoPlace_NoPlace (F : Nat) : (GF F).sub .NoPlace .NoPlace = true := rfl
@[simp] theorem sb_NoPlace_BadTrial (F : Nat) : (GF F).sub .NoPlace .BadTrial = false := rfl
@[simp] theorem sb_NoPlace_Unbound (F : Nat) : (GF F).sub .NoPlace .Unbound = false := rfl
@[simp] theorem sb_NoPlace_WrongKind (F : Nat) : (GF F).sub .NoPlace .WrongKind = false := rfl
@[simp] theorem sb_NoPlace_NoModule (F : Nat) : (GF F).sub .NoPlace .NoModule = false := rfl
@[simp] theorem sb_NoPlace_Refused (F : Nat) : (GF F).sub .NoPlace .Refused = false := rfl
@[simp] theorem sb_NoPlace_BadLimit (F : Nat) : (GF F).sub .NoPlace .BadLimit = false := rfl
@[simp] theorem sb_NoPlace_Label (F : Nat) : (GF F).sub .NoPlace .Label = false := rfl
@[simp] theorem x_BadTrial (F : Nat) : (GF F).exc .BadTrial = true := rfl
@[simp] theorem xi_BadTrial (F : Nat) : (GF F).xini .BadTrial = true := rfl
@[simp] theorem sb_BadTrial_CastsError (F : Nat) : (GF F).sub .BadTrial .CastsError = true := rfl
@[simp] theorem sb_BadTrial_BadText (F : Nat) : (GF F).sub .BadTrial .BadText = false := rfl
@[simp] theorem sb_BadTrial_TooLarge (F : Nat) : (GF F).sub .BadTrial .TooLarge = false := rfl
@[simp] theorem sb_BadTrial_NoMeet (F : Nat) : (GF F).sub .BadTrial .NoMeet = false := rfl
@[simp] theorem sb_BadTrial_BadMiddle (F : Nat) : (GF F).sub .BadTrial .BadMiddle = false := rfl
@[simp] theorem sb_BadTrial_Mismatch (F : Nat) : (GF F).sub .BadTrial .Mismatch = false := rfl
@[simp] theorem sb_BadTrial_BrokenRow (F : Nat) : (GF F).sub .BadTrial .BrokenRow = false := rfl
@[simp] theorem sb_BadTrial_NoPlace (F : Nat) : (GF F).sub .BadTrial .NoPlace = false := rfl
@[simp] theorem sb_BadTrial_BadTrial (F : Nat) : (GF F).sub .BadTrial .BadTrial = true := rfl
@[simp] theorem sb_BadTrial_Unbound (F : Nat) : (GF F).sub .BadTrial .Unbound = false := rfl
@[simp] theorem sb_BadTrial_WrongKind (F : Nat) : (GF F).sub .BadTrial .WrongKind = false := rfl
@[simp] theorem sb_BadTrial_NoModule (F : Nat) : (GF F).sub .BadTrial .NoModule = false := rfl
@[simp] theorem sb_BadTrial_Refused (F : Nat) : (GF F).sub .BadTrial .Refused = false := rfl
@[simp] theorem sb_BadTrial_BadLimit (F : Nat) : (GF F).sub .BadTrial .BadLimit = false := rfl
@[simp] theorem sb_BadTrial_Label (F : Nat) : (GF F).sub .BadTrial .Label = false := rfl
@[simp] theorem x_Unbound (F : Nat) : (GF F).exc .Unbound = true := rfl
@[simp] theorem xi_Unbound (F : Nat) : (GF F).xini .Unbound = true := rfl
@[simp] theorem sb_Unbound_CastsError (F : Nat) : (GF F).sub .Unbound .CastsError = true := rfl
@[simp] theorem sb_Unbound_BadText (F : Nat) : (GF F).sub .Unbound .BadText = false := rfl
@[simp] theorem sb_Unbound_TooLarge (F : Nat) : (GF F).sub .Unbound .TooLarge = false := rfl
@[simp] theorem sb_Unbound_NoMeet (F : Nat) : (GF F).sub .Unbound .NoMeet = false := rfl
@[simp] theorem sb_Unbound_BadMiddle (F : Nat) : (GF F).sub .Unbound .BadMiddle = false := rfl
@[simp] theorem sb_Unbound_Mismatch (F : Nat) : (GF F).sub .Unbound .Mismatch = false := rfl
@[simp] theorem sb_Unbound_BrokenRow (F : Nat) : (GF F).sub .Unbound .BrokenRow = false := rfl
@[simp] theorem sb_Unbound_NoPlace (F : Nat) : (GF F).sub .Unbound .NoPlace = false := rfl
@[simp] theorem sb_Unbound_BadTrial (F : Nat) : (GF F).sub .Unbound .BadTrial = false := rfl
@[simp] theorem sb_Unbound_Unbound (F : Nat) : (GF F).sub .Unbound .Unbound = true := rfl
@[simp] theorem sb_Unbound_WrongKind (F : Nat) : (GF F).sub .Unbound .WrongKind = false := rfl
@[simp] theorem sb_Unbound_NoModule (F : Nat) : (GF F).sub .Unbound .NoModule = false := rfl
@[simp] theorem sb_Unbound_Refused (F : Nat) : (GF F).sub .Unbound .Refused = false := rfl
@[simp] theorem sb_Unbound_BadLimit (F : Nat) : (GF F).sub .Unbound .BadLimit = false := rfl
@[simp] theorem sb_Unbound_Label (F : Nat) : (GF F).sub .Unbound .Label = false := rfl
@[simp] theorem x_WrongKind (F : Nat) : (GF F).exc .WrongKind = true := rfl
@[simp] theorem xi_WrongKind (F : Nat) : (GF F).xini .WrongKind = true := rfl
@[simp] theorem sb_WrongKind_CastsError (F : Nat) : (GF F).sub .WrongKind .CastsError = true := rfl
@[simp] theorem sb_WrongKind_BadText (F : Nat) : (GF F).sub .WrongKind .BadText = false := rfl
@[simp] theorem sb_WrongKind_TooLarge (F : Nat) : (GF F).sub .WrongKind .TooLarge = false := rfl
@[simp] theorem sb_WrongKind_NoMeet (F : Nat) : (GF F).sub .WrongKind .NoMeet = false := rfl
@[simp] theorem sb_WrongKind_BadMiddle (F : Nat) : (GF F).sub .WrongKind .BadMiddle = false := rfl
@[simp] theorem sb_WrongKind_Mismatch (F : Nat) : (GF F).sub .WrongKind .Mismatch = false := rfl
@[simp] theorem sb_WrongKind_BrokenRow (F : Nat) : (GF F).sub .WrongKind .BrokenRow = false := rfl
@[simp] theorem sb_WrongKind_NoPlace (F : Nat) : (GF F).sub .WrongKind .NoPlace = false := rfl
@[simp] theorem sb_WrongKind_BadTrial (F : Nat) : (GF F).sub .WrongKind .BadTrial = false := rfl
@[simp] theorem sb_WrongKind_Unbound (F : Nat) : (GF F).sub .WrongKind .Unbound = false := rfl
@[simp] theorem sb_WrongKind_WrongKind (F : Nat) : (GF F).sub .WrongKind .WrongKind = true := rfl
@[simp] theorem sb_WrongKind_NoModule (F : Nat) : (GF F).sub .WrongKind .NoModule = false := rfl
@[simp] theorem sb_WrongKind_Refused (F : Nat) : (GF F).sub .WrongKind .Refused = false := rfl
@[simp] theorem sb_WrongKind_BadLimit (F : Nat) : (GF F).sub .WrongKind .BadLimit = false := rfl
@[simp] theorem sb_WrongKind_Label (F : Nat) : (GF F).sub .WrongKind .Label = false := rfl
@[simp] theorem x_NoModule (F : Nat) : (GF F).exc .NoModule = true := rfl
@[simp] theorem xi_NoModule (F : Nat) : (GF F).xini .NoModule = true := rfl
@[simp] theorem sb_NoModule_CastsError (F : Nat) : (GF F).sub .NoModule .CastsError = true := rfl
@[simp] theorem sb_NoModule_BadText (F : Nat) : (GF F).sub .NoModule .BadText = false := rfl
@[simp] theorem sb_NoModule_TooLarge (F : Nat) : (GF F).sub .NoModule .TooLarge = false := rfl
@[simp] theorem sb_NoModule_NoMeet (F : Nat) : (GF F).sub .NoModule .NoMeet = false := rfl
@[simp] theorem sb_NoModule_BadMiddle (F : Nat) : (GF F).sub .NoModule .BadMiddle = false := rfl
@[simp] theorem sb_NoModule_Mismatch (F : Nat) : (GF F).sub .NoModule .Mismatch = false := rfl
@[simp] theorem sb_NoModule_BrokenRow (F : Nat) : (GF F).sub .NoModule .BrokenRow = false := rfl
@[simp] theorem sb_NoModule_NoPlace (F : Nat) : (GF F).sub .NoModule .NoPlace = false := rfl
@[simp] theorem sb_NoModule_BadTrial (F : Nat) : (GF F).sub .NoModule .BadTrial = false := rfl
@[simp] theorem sb_NoModule_Unbound (F : Nat) : (GF F).sub .NoModule .Unbound = false := rfl
@[simp] theorem sb_NoModule_WrongKind (F : Nat) : (GF F).sub .NoModule .WrongKind = false := rfl
@[simp] theorem sb_NoModule_NoModule (F : Nat) : (GF F).sub .NoModule .NoModule = true := rfl
@[simp] theorem sb_NoModule_Refused (F : Nat) : (GF F).sub .NoModule .Refused = false := rfl
@[simp] theorem sb_NoModule_BadLimit (F : Nat) : (GF F).sub .NoModule .BadLimit = false := rfl
@[simp] theorem sb_NoModule_Label (F : Nat) : (GF F).sub .NoModule .Label = false := rfl
@[simp] theorem x_Refused (F : Nat) : (GF F).exc .Refused = true := rfl
@[simp] theorem xi_Refused (F : Nat) : (GF F).xini .Refused = true := rfl
@[simp] theorem sb_Refused_CastsError (F : Nat) : (GF F).sub .Refused .CastsError = true := rfl
@[simp] theorem sb_Refused_BadText (F : Nat) : (GF F).sub .Refused .BadText = false := rfl
@[simp] theorem sb_Refused_TooLarge (F : Nat) : (GF F).sub .Refused .TooLarge = false := rfl
@[simp] theorem sb_Refused_NoMeet (F : Nat) : (GF F).sub .Refused .NoMeet = false := rfl
@[simp] theorem sb_Refused_BadMiddle (F : Nat) : (GF F).sub .Refused .BadMiddle = false := rfl
@[simp] theorem sb_Refused_Mismatch (F : Nat) : (GF F).sub .Refused .Mismatch = false := rfl
@[simp] theorem sb_Refused_BrokenRow (F : Nat) : (GF F).sub .Refused .BrokenRow = false := rfl
@[simp] theorem sb_Refused_NoPlace (F : Nat) : (GF F).sub .Refused .NoPlace = false := rfl
@[simp] theorem sb_Refused_BadTrial (F : Nat) : (GF F).sub .Refused .BadTrial = false := rfl
@[simp] theorem sb_Refused_Unbound (F : Nat) : (GF F).sub .Refused .Unbound = false := rfl
@[simp] theorem sb_Refused_WrongKind (F : Nat) : (GF F).sub .Refused .WrongKind = false := rfl
@[simp] theorem sb_Refused_NoModule (F : Nat) : (GF F).sub .Refused .NoModule = false := rfl
@[simp] theorem sb_Refused_Refused (F : Nat) : (GF F).sub .Refused .Refused = true := rfl
@[simp] theorem sb_Refused_BadLimit (F : Nat) : (GF F).sub .Refused .BadLimit = false := rfl
@[simp] theorem sb_Refused_Label (F : Nat) : (GF F).sub .Refused .Label = false := rfl
@[simp] theorem x_BadLimit (F : Nat) : (GF F).exc .BadLimit = true := rfl
@[simp] theorem xi_BadLimit (F : Nat) : (GF F).xini .BadLimit = true := rfl
@[simp] theorem sb_BadLimit_CastsError (F : Nat) : (GF F).sub .BadLimit .CastsError = true := rfl
@[simp] theorem sb_BadLimit_BadText (F : Nat) : (GF F).sub .BadLimit .BadText = false := rfl
@[simp] theorem sb_BadLimit_TooLarge (F : Nat) : (GF F).sub .BadLimit .TooLarge = false := rfl
@[simp] theorem sb_BadLimit_NoMeet (F : Nat) : (GF F).sub .BadLimit .NoMeet = false := rfl
@[simp] theorem sb_BadLimit_BadMiddle (F : Nat) : (GF F).sub .BadLimit .BadMiddle = false := rfl
@[simp] theorem sb_BadLimit_Mismatch (F : Nat) : (GF F).sub .BadLimit .Mismatch = false := rfl
@[simp] theorem sb_BadLimit_BrokenRow (F : Nat) : (GF F).sub .BadLimit .BrokenRow = false := rfl
@[simp] theorem sb_BadLimit_NoPlace (F : Nat) : (GF F).sub .BadLimit .NoPlace = false := rfl
@[simp] theorem sb_BadLimit_BadTrial (F : Nat) : (GF F).sub .BadLimit .BadTrial = false := rfl
@[simp] theorem sb_BadLimit_Unbound (F : Nat) : (GF F).sub .BadLimit .Unbound = false := rfl
@[simp] theorem sb_BadLimit_WrongKind (F : Nat) : (GF F).sub .BadLimit .WrongKind = false := rfl
@[simp] theorem sb_BadLimit_NoModule (F : Nat) : (GF F).sub .BadLimit .NoModule = false := rfl
@[simp] theorem sb_BadLimit_Refused (F : Nat) : (GF F).sub .BadLimit .Refused = false := rfl
@[simp] theorem sb_BadLimit_BadLimit (F : Nat) : (GF F).sub .BadLimit .BadLimit = true := rfl
@[simp] theorem sb_BadLimit_Label (F : Nat) : (GF F).sub .BadLimit .Label = false := rfl
@[simp] theorem x_Label (F : Nat) : (GF F).exc .Label = false := rfl
@[simp] theorem xi_Label (F : Nat) : (GF F).xini .Label = false := rfl
@[simp] theorem sb_Label_CastsError (F : Nat) : (GF F).sub .Label .CastsError = false := rfl
@[simp] theorem sb_Label_BadText (F : Nat) : (GF F).sub .Label .BadText = false := rfl
@[simp] theorem sb_Label_TooLarge (F : Nat) : (GF F).sub .Label .TooLarge = false := rfl
@[simp] theorem sb_Label_NoMeet (F : Nat) : (GF F).sub .Label .NoMeet = false := rfl
@[simp] theorem sb_Label_BadMiddle (F : Nat) : (GF F).sub .Label .BadMiddle = false := rfl
@[simp] theorem sb_Label_Mismatch (F : Nat) : (GF F).sub .Label .Mismatch = false := rfl
@[simp] theorem sb_Label_BrokenRow (F : Nat) : (GF F).sub .Label .BrokenRow = false := rfl
@[simp] theorem sb_Label_NoPlace (F : Nat) : (GF F).sub .Label .NoPlace = false := rfl
@[simp] theorem sb_Label_BadTrial (F : Nat) : (GF F).sub .Label .BadTrial = false := rfl
@[simp] theorem sb_Label_Unbound (F : Nat) : (GF F).sub .Label .Unbound = false := rfl
@[simp] theorem sb_Label_WrongKind (F : Nat) : (GF F).sub .Label .WrongKind = false := rfl
@[simp] theorem sb_Label_NoModule (F : Nat) : (GF F).sub .Label .NoModule = false := rfl
@[simp] theorem sb_Label_Refused (F : Nat) : (GF F).sub .Label .Refused = false := rfl
@[simp] theorem sb_Label_BadLimit (F : Nat) : (GF F).sub .Label .BadLimit = false := rfl
@[simp] theorem sb_Label_Label (F : Nat) : (GF F).sub .Label .Label = true := rfl
@[simp] theorem mm_Label_deq (F : Nat) : (GF F).mem .Label .deq = some (.fn .m_Label_eq) := rfl
@[simp] theorem mm_Label_init (F : Nat) : (GF F).mem .Label .init = some (.fn .m_Label_init) := rfl
@[simp] theorem mm_Label_dinvert (F : Nat) : (GF F).mem .Label .dinvert = some (.fn .m_Label_invert) := rfl
@[simp] theorem mm_Label_dstr (F : Nat) : (GF F).mem .Label .dstr = some (.fn .m_Label_str) := rfl
@[simp] theorem mm_Label_a_name (F : Nat) : (GF F).mem .Label .a_name = none := rfl
@[simp] theorem mm_Label_a_positive (F : Nat) : (GF F).mem .Label .a_positive = none := rfl
@[simp] theorem mm_Label_a_read (F : Nat) : (GF F).mem .Label .a_read = some (.cm .m_Label_read) := rfl
@[simp] theorem mm_Label_a_text (F : Nat) : (GF F).mem .Label .a_text = some (.prop .m_Label_text) := rfl
@[simp] theorem gc_LETTERS (F : Nat) : (GF F).con .g_LETTERS = (.str [97, 98, 99, 100, 101, 102, 103, 104, 105, 106, 107, 108, 109, 110, 111, 112, 113, 114, 115, 116, 117, 118, 119, 120, 121, 122]) := rfl
@[simp] theorem gc_DIGITS (F : Nat) : (GF F).con .g_DIGITS = (.str [48, 49, 50, 51, 52, 53, 54, 55, 56, 57]) := rfl
@[simp] theorem gc_LONGEST_NAME (F : Nat) : (GF F).con .g_LONGEST_NAME = (.int 8) := rfl
@[simp] theorem fuelF (F : Nat) : (GF F).fuel = F := rfl
theorem names0 : Names0 where
  ainj := fun f g => by cases f <;> cases g <;> first | (intro _; rfl) | (intro h; exact absurd h (by decide +kernel))
  bb := fun t ht => by cases t <;> first | exact absurd rfl ht | (decide +kernel)
  tn := ⟨rfl, rfl, rfl, rfl, rfl, rfl⟩
  ini := rfl
  nms := ⟨rfl, rfl, rfl, rfl, rfl, rfl, rfl, rfl, rfl, rfl, rfl, rfl⟩
theorem d_f_consists_of : defB GG (dfn .f_consists_of) (info .f_consists_of) = true := by kernel_rfl
theorem d_f_is_label_name : defB GG (dfn .f_is_label_name) (info .f_is_label_name) = true := by kernel_rfl
theorem d_f_is_label : defB GG (dfn .f_is_label) (info .f_is_label) = true := by kernel_rfl
theorem d_f__law_draws : defB GG (dfn .f__law_draws) (info .f__law_draws) = true := by kernel_rfl
theorem d_f__law_draw : defB GG (dfn .f__law_draw) (info .f__law_draw) = true := by kernel_rfl
theorem d_f__law_name : defB GG (dfn .f__law_name) (info .f__law_name) = true := by kernel_rfl
theorem d_f__law_same : defB GG (dfn .f__law_same) (info .f__law_same) = true := by kernel_rfl
theorem d_f__law_sign : defB GG (dfn .f__law_sign) (info .f__law_sign) = true := by kernel_rfl
theorem d_f__law_string : defB GG (dfn .f__law_string) (info .f__law_string) = true := by kernel_rfl
theorem d_f__law_is_name : defB GG (dfn .f__law_is_name) (info .f__law_is_name) = true := by kernel_rfl
theorem d_f__law_told : defB GG (dfn .f__law_told) (info .f__law_told) = true := by kernel_rfl
theorem d_f_law : defB GG (dfn .f_law) (info .f_law) = true := by kernel_rfl
theorem d_m_Label_init : defB GG (dfn .m_Label_init) (info .m_Label_init) = true := by kernel_rfl
theorem d_m_Label_read : defB GG (dfn .m_Label_read) (info .m_Label_read) = true := by kernel_rfl
theorem d_m_Label_text : defB GG (dfn .m_Label_text) (info .m_Label_text) = true := by kernel_rfl
theorem d_m_Label_invert : defB GG (dfn .m_Label_invert) (info .m_Label_invert) = true := by kernel_rfl
theorem d_m_Label_eq : defB GG (dfn .m_Label_eq) (info .m_Label_eq) = true := by kernel_rfl
theorem d_m_Label_str : defB GG (dfn .m_Label_str) (info .m_Label_str) = true := by kernel_rfl
theorem hdef (f : Fn) (d : Def) (h : GG.fn f = some d) : defB GG d (info f) = true ∧ d.dfl = (info f).dfl := by
  obtain rfl : dfn f = d := Option.some.inj h
  cases f
  · exact ⟨d_f_consists_of, rfl⟩
  · exact ⟨d_f_is_label_name, rfl⟩
  · exact ⟨d_f_is_label, rfl⟩
  · exact ⟨d_f__law_draws, rfl⟩
  · exact ⟨d_f__law_draw, rfl⟩
  · exact ⟨d_f__law_name, rfl⟩
  · exact ⟨d_f__law_same, rfl⟩
  · exact ⟨d_f__law_sign, rfl⟩
  · exact ⟨d_f__law_string, rfl⟩
  · exact ⟨d_f__law_is_name, rfl⟩
  · exact ⟨d_f__law_told, rfl⟩
  · exact ⟨d_f_law, rfl⟩
  · exact ⟨d_m_Label_init, rfl⟩
  · exact ⟨d_m_Label_read, rfl⟩
  · exact ⟨d_m_Label_text, rfl⟩
  · exact ⟨d_m_Label_invert, rfl⟩
  · exact ⟨d_m_Label_eq, rfl⟩
  · exact ⟨d_m_Label_str, rfl⟩
theorem hbind (f : Fn) : BindP (info f) := by
  cases f
  · exact ⟨fun _ kV doc pm an cdv ct us hl => (match us, hl with | [_, _], _ => rfl), fun h => absurd rfl h⟩
  · exact ⟨fun _ kV doc pm an cdv ct us hl => (match us, hl with | [_], _ => rfl), fun h => absurd rfl h⟩
  · exact ⟨fun _ kV doc pm an cdv ct us hl => (match us, hl with | [_], _ => rfl), fun h => absurd rfl h⟩
  · exact ⟨fun _ kV doc pm an cdv ct us hl => (match us, hl with | [_], _ => rfl), fun h => absurd rfl h⟩
  · exact ⟨fun _ kV doc pm an cdv ct us hl => (match us, hl with | [_, _], _ => rfl), fun h => absurd rfl h⟩
  · exact ⟨fun _ kV doc pm an cdv ct us hl => (match us, hl with | [_], _ => rfl), fun h => absurd rfl h⟩
  · exact ⟨fun _ kV doc pm an cdv ct us hl => (match us, hl with | [_, _], _ => rfl), fun h => absurd rfl h⟩
  · exact ⟨fun _ kV doc pm an cdv ct us hl => (match us, hl with | [_], _ => rfl), fun h => absurd rfl h⟩
  · exact ⟨fun _ kV doc pm an cdv ct us hl => (match us, hl with | [_], _ => rfl), fun h => absurd rfl h⟩
  · exact ⟨fun _ kV doc pm an cdv ct us hl => (match us, hl with | [_], _ => rfl), fun h => absurd rfl h⟩
  · exact ⟨fun _ kV doc pm an cdv ct us hl => (match us, hl with | [_, _], _ => rfl), fun h => absurd rfl h⟩
  · exact ⟨fun _ kV doc pm an cdv ct us hl => (match us, hl with | [_], _ => rfl), fun h => absurd rfl h⟩
  · refine ⟨fun h => (by cases h), fun _ => ⟨(by decide), fun j hj T kV doc pm an cdv ct us its hu hi => ?_⟩⟩
    match j, hj with
    | 0, _ =>
      match us, its, (show us.length = 2 by have : us.length + (1 - 0) = 3 := hu; omega), hi with
      | [u0, u1], [i0], _, _ => exact ⟨_, rfl, rfl⟩
    | 1, _ =>
      match us, its, (show us.length = 3 by have : us.length + (1 - 1) = 3 := hu; omega), hi with
      | [u0, u1, u2], [i0], _, _ => exact ⟨_, rfl, rfl⟩
  · exact ⟨fun _ kV doc pm an cdv ct us hl => (match us, hl with | [_, _], _ => rfl), fun h => absurd rfl h⟩
  · exact ⟨fun _ kV doc pm an cdv ct us hl => (match us, hl with | [_], _ => rfl), fun h => absurd rfl h⟩
  · exact ⟨fun _ kV doc pm an cdv ct us hl => (match us, hl with | [_], _ => rfl), fun h => absurd rfl h⟩
  · exact ⟨fun _ kV doc pm an cdv ct us hl => (match us, hl with | [_, _], _ => rfl), fun h => absurd rfl h⟩
  · exact ⟨fun _ kV doc pm an cdv ct us hl => (match us, hl with | [_], _ => rfl), fun h => absurd rfl h⟩
def loose0 : List Str := [PySem.Str.ofString "CastsError", PySem.Str.ofString "BadText", PySem.Str.ofString "TooLarge", PySem.Str.ofString "NoMeet", PySem.Str.ofString "BadMiddle", PySem.Str.ofString "Mismatch", PySem.Str.ofString "BrokenRow", PySem.Str.ofString "NoPlace", PySem.Str.ofString "BadTrial", PySem.Str.ofString "Unbound", PySem.Str.ofString "WrongKind", PySem.Str.ofString "NoModule", PySem.Str.ofString "Refused", PySem.Str.ofString "BadLimit", PySem.Str.ofString "LETTERS", PySem.Str.ofString "DIGITS", PySem.Str.ofString "LONGEST_NAME", PySem.Str.ofString "consists_of", PySem.Str.ofString "is_label_name", PySem.Str.ofString "is_label", PySem.Str.ofString "Label", PySem.Str.ofString "_law_draws", PySem.Str.ofString "_law_draw", PySem.Str.ofString "_law_name", PySem.Str.ofString "_law_same", PySem.Str.ofString "_law_sign", PySem.Str.ofString "_law_string", PySem.Str.ofString "_law_is_name", PySem.Str.ofString "_law_told"]
def looseL : List Str := loose0
abbrev hkL : PySem.W.Hook := hookL 5 GG info
def obL (s : PySem.W.SharedT) : He.AlD := obsLG 5 GG info (HandSHeadRun.getT s)
theorem obL_eq (s : PySem.W.SharedT) : obL s = hkL.obs s.abs := obsL_eq (HandSHeadRun.getT_eq s)
end Lt
/-! ### the head -/
namespace Lt
open PySem PySem.Spec PyProof.Rows L2
theorem runL0 (w : World) : HandSHeadRun.RunEq RR (PySem.W.view RR.prog [33]) hkL obL 20000 looseL (w.withFollow "special-get-raises" false) := by
  intro os
  kernel_rfl
theorem runL1 (w : World) : HandSHeadRun.RunEq RR (PySem.W.view RR.prog [33]) hkL obL 20000 looseL (w.withFollow "special-get-raises" true) := by
  intro os
  kernel_rfl
theorem runL (w : World) : HandSHeadRun.RunEq RR (PySem.W.view RR.prog [33]) hkL obL 20000 looseL w := by
  revert w
  exact PySem.W.byRow2 "special-get-raises" runL0 runL1
end Lt
/-! ### kinds: the plain forms -/
namespace Lt
open PySem
theorem ba' {a b : Bool} (h : (a && b) = true) : a = true ∧ b = true := by cases a <;> cases b <;> first | exact ⟨rfl, rfl⟩ | cases h
inductive Bs where | int | bool | unit
  deriving DecidableEq
inductive K where | q | b (x : Bs) | fn (l r : K) | pr (l r : K)
  deriving DecidableEq
def Bs.s : Bs → List Nat
  | .int => [105, 110, 116]
  | .bool => [98, 111, 111, 108]
  | .unit => [117, 110, 105, 116]
theorem Bs.s_inj {a b : Bs} (h : a.s = b.s) : a = b := by cases a <;> cases b <;> first | rfl | cases h
abbrev sFun : List Nat := [102, 117, 110]
abbrev sPair : List Nat := [112, 97, 105, 114]
def K.d : K → D
  | .q => .str [63]
  | .b x => .str x.s
  | .fn l r => .tup [.str [102, 117, 110], l.d, r.d]
  | .pr l r => .tup [.str [112, 97, 105, 114], l.d, r.d]
def K.ht : K → Nat
  | .fn l r => max l.ht r.ht + 1
  | .pr l r => max l.ht r.ht + 1
  | _ => 0
def K.sz : K → Nat
  | .fn l r => l.sz + r.sz + 1
  | .pr l r => l.sz + r.sz + 1
  | _ => 1
def K.tup : K → Bool
  | .fn _ _ => true
  | .pr _ _ => true
  | .q => false
  | .b _ => false
@[simp] theorem K.tup_fn (l r : K) : (K.fn l r).tup = true := rfl
@[simp] theorem K.tup_pr (l r : K) : (K.pr l r).tup = true := rfl
@[simp] theorem K.tup_q : K.q.tup = false := rfl
@[simp] theorem K.tup_b (x : Bs) : (K.b x).tup = false := rfl
theorem K.ht_fn {l r : K} {n : Nat} (h : (K.fn l r).ht ≤ n) : l.ht + 1 ≤ n ∧ r.ht + 1 ≤ n := by simp only [K.ht] at h; omega
theorem K.ht_pr {l r : K} {n : Nat} (h : (K.pr l r).ht ≤ n) : l.ht + 1 ≤ n ∧ r.ht + 1 ≤ n := by simp only [K.ht] at h; omega
theorem K.sz_le : ∀ t : K, t.sz + 1 ≤ 2 ^ (t.ht + 1)
  | .q => by decide
  | .b _ => (by decide : 1 + 1 ≤ 2 ^ (0 + 1))
  | .fn l r => by
    have h1 := K.sz_le l
    have h2 := K.sz_le r
    have p1 : 2 ^ (l.ht + 1) ≤ 2 ^ (max l.ht r.ht + 1) := Nat.pow_le_pow_right (by decide) (by omega)
    have p2 : 2 ^ (r.ht + 1) ≤ 2 ^ (max l.ht r.ht + 1) := Nat.pow_le_pow_right (by decide) (by omega)
    simp only [K.sz, K.ht]
    rw [Nat.pow_succ _ (max l.ht r.ht + 1)]
    omega
  | .pr l r => by
    have h1 := K.sz_le l
    have h2 := K.sz_le r
    have p1 : 2 ^ (l.ht + 1) ≤ 2 ^ (max l.ht r.ht + 1) := Nat.pow_le_pow_right (by decide) (by omega)
    have p2 : 2 ^ (r.ht + 1) ≤ 2 ^ (max l.ht r.ht + 1) := Nat.pow_le_pow_right (by decide) (by omega)
    simp only [K.sz, K.ht]
    rw [Nat.pow_succ _ (max l.ht r.ht + 1)]
    omega
theorem K.sz_pos : ∀ t : K, t.ht < t.sz
  | .q => by decide
  | .b _ => (by decide : 0 < 1)
  | .fn l r => by have h1 := K.sz_pos l; have h2 := K.sz_pos r; simp only [K.sz, K.ht]; omega
  | .pr l r => by have h1 := K.sz_pos l; have h2 := K.sz_pos r; simp only [K.sz, K.ht]; omega
@[simp] theorem K.dpure : ∀ t : K, D.pure t.d = true
  | .q => rfl
  | .b _ => rfl
  | .fn l r => by simp [K.d, D.pure, D.pures, K.dpure l, K.dpure r]
  | .pr l r => by simp [K.d, D.pure, D.pures, K.dpure l, K.dpure r]
@[simp] theorem K.ddep : ∀ t : K, D.dep t.d = t.ht
  | .q => rfl
  | .b _ => rfl
  | .fn l r => by simp [K.d, K.ht, D.dep, D.deps, K.ddep l, K.ddep r]
  | .pr l r => by simp [K.d, K.ht, D.dep, D.deps, K.ddep l, K.ddep r]
@[simp] theorem K.dok : ∀ t : K, D.ok t.d = true
  | .q => by decide
  | .b x => by cases x <;> decide
  | .fn l r => by simp only [K.d, D.ok, D.oks, K.dok l, K.dok r]; decide
  | .pr l r => by simp only [K.d, D.ok, D.oks, K.dok l, K.dok r]; decide
theorem K.eqd : ∀ a b : K, D.eq a.d b.d = decide (a = b)
  | .q, .q => by decide
  | .q, .b x => by cases x <;> decide
  | .q, .fn _ _ => by simp [K.d, D.eq]
  | .q, .pr _ _ => by simp [K.d, D.eq]
  | .b x, .q => by cases x <;> decide
  | .b x, .b y => by cases x <;> cases y <;> decide
  | .b _, .fn _ _ => by simp [K.d, D.eq]
  | .b _, .pr _ _ => by simp [K.d, D.eq]
  | .fn _ _, .q => by simp [K.d, D.eq]
  | .fn _ _, .b _ => by simp [K.d, D.eq]
  | .fn l r, .fn l' r' => by simp [K.d, D.eq, D.eqs, K.eqd l l', K.eqd r r']
  | .fn _ _, .pr _ _ => by simp [K.d, D.eq, D.eqs]
  | .pr _ _, .q => by simp [K.d, D.eq]
  | .pr _ _, .b _ => by simp [K.d, D.eq]
  | .pr _ _, .fn _ _ => by simp [K.d, D.eq, D.eqs]
  | .pr l r, .pr l' r' => by simp [K.d, D.eq, D.eqs, K.eqd l l', K.eqd r r']
theorem K.d_inj {a b : K} (h : a.d = b.d) : a = b := by
  have e := K.eqd a b
  rw [h, K.eqd b b] at e
  have e' : decide (a = b) = true := by rw [← e]; simp
  exact of_decide_eq_true e'
theorem K.beq : ∀ t : K, D.beq t.d t.d = true
  | .q => rfl
  | .b _ => by simp [K.d, D.beq]
  | .fn l r => by simp [K.d, D.beq, D.beqs, K.beq l, K.beq r]
  | .pr l r => by simp [K.d, D.beq, D.beqs, K.beq l, K.beq r]
theorem K.shp {t : K} (h : t.ht ≤ 60) : shp t.d = true := by
  simp [Lt.shp, h]
@[simp] theorem K.eqF {a b : K} (ha : a.ht ≤ 60) (hb : b.ht ≤ 60) : eqF a.d b.d = some (decide (a = b)) := by
  simp only [Lt.eqF, K.shp ha, K.shp hb, K.eqd]
  rfl
@[simp] theorem K.eqF_q {a : K} (ha : a.ht ≤ 60) : Lt.eqF a.d (.str [63]) = some (decide (a = .q)) := K.eqF (b := .q) ha (Nat.zero_le _)
@[simp] theorem K.insC (t : K) (s : St) : insC s t.d = none := by cases t <;> rfl
@[simp] theorem K.kind (t : K) (s : St) : kind s t.d = some (.ty (if t.tup = true then .tuple else .str)) := by cases t <;> rfl
@[simp] theorem K.ix_fn0 (l r : K) (s : St) : ixF (K.fn l r).d (.int 0) s = .ok (.str [102, 117, 110]) s := rfl
@[simp] theorem K.ix_fn1 (l r : K) (s : St) : ixF (K.fn l r).d (.int 1) s = .ok l.d s := rfl
@[simp] theorem K.ix_fn2 (l r : K) (s : St) : ixF (K.fn l r).d (.int 2) s = .ok r.d s := rfl
@[simp] theorem K.ix_pr0 (l r : K) (s : St) : ixF (K.pr l r).d (.int 0) s = .ok (.str [112, 97, 105, 114]) s := rfl
@[simp] theorem K.ix_pr1 (l r : K) (s : St) : ixF (K.pr l r).d (.int 1) s = .ok l.d s := rfl
@[simp] theorem K.ix_pr2 (l r : K) (s : St) : ixF (K.pr l r).d (.int 2) s = .ok r.d s := rfl
theorem K.fold_fn (l r : K) : D.tup [.str [102, 117, 110], l.d, r.d] = (K.fn l r).d := rfl
theorem K.fold_pr (l r : K) : D.tup [.str [112, 97, 105, 114], l.d, r.d] = (K.pr l r).d := rfl
@[simp] theorem K.cmF (G : Ctx) (C : Calls) (o : Cop) (t : K) (y : D) (s : St) : cmF G C o t.d y s = cmpF o t.d y s := by cases t <;> rfl
@[simp] theorem K.isN (t : K) : D.isN t.d = false := by cases t <;> rfl
/-- the kind of a word -/
def K.mk (w : Bool) (l r : K) : K := if w = true then .pr l r else .fn l r
/-- text compared with text -/
theorem eqF_s {x y : List Nat} (hx : (x.all fun c => decide (c < 0x110000)) = true) (hy : (y.all fun c => decide (c < 0x110000)) = true) : Lt.eqF (.str x) (.str y) = some (x == y) := by
  have h1 : Lt.shp (.str x) = true := by simp only [Lt.shp, D.pure, D.dep, D.ok, hx]; rfl
  have h2 : Lt.shp (.str y) = true := by simp only [Lt.shp, D.pure, D.dep, D.ok, hy]; rfl
  simp only [Lt.eqF, h1, h2, D.eq]
  rfl
/-! ### states -/
abbrev dInts (ds : List Int) : List D := ds.map D.int
/-- all that stood stands -/
def Kept (s s' : St) : Prop := s.length ≤ s'.length ∧ ∀ i, i < s.length → s'[i]? = s[i]?
theorem Kept.refl {s : St} : Kept s s := ⟨Nat.le_refl _, fun _ _ => rfl⟩
theorem Kept.trans {s s1 s2 : St} (a : Kept s s1) (b : Kept s1 s2) : Kept s s2 := ⟨Nat.le_trans a.1 b.1, fun i h => (b.2 i (Nat.lt_of_lt_of_le h a.1)).trans (a.2 i h)⟩
theorem Kept.get {s s' : St} (k : Kept s s') {i : Nat} {o : Ob} (h : s[i]? = some o) : s'[i]? = some o := by
  rw [k.2 i (List.getElem?_eq_some_iff.mp h).1]
  exact h
theorem Kept.more {s : St} (x : St) : Kept s (s ++ x) := ⟨by simp, fun _ h => List.getElem?_append_left h⟩
theorem lt_of_at {s : St} {i : Nat} {o : Ob} (h : s[i]? = some o) : i < s.length := (List.getElem?_eq_some_iff.mp h).1
/-- the draws stand at i; all else that stood stands -/
structure Dr (i : Nat) (s s' : St) : Prop where
  at_ : ∃ ds : List Int, s'[i]? = some (.lst (dInts ds))
  len : s.length ≤ s'.length
  old : ∀ j, j < s.length → j ≠ i → s'[j]? = s[j]?
def At0 (i : Nat) (s : St) : Prop := ∃ ds : List Int, s[i]? = some (.lst (dInts ds))
theorem Dr.refl {i : Nat} {s : St} (h : At0 i s) : Dr i s s := ⟨h, Nat.le_refl _, fun _ _ _ => rfl⟩
theorem Dr.trans {i : Nat} {s s1 s2 : St} (a : Dr i s s1) (b : Dr i s1 s2) : Dr i s s2 := ⟨b.at_, Nat.le_trans a.len b.len, fun j hj hn => (b.old j (Nat.lt_of_lt_of_le hj a.len) hn).trans (a.old j hj hn)⟩
theorem At0.lt {i : Nat} {s : St} (h : At0 i s) : i < s.length := by
  obtain ⟨_, e⟩ := h
  exact lt_of_at e
theorem Kept.dr {i : Nat} {s s' : St} (k : Kept s s') (h : At0 i s) : Dr i s s' := by
  obtain ⟨ds, e⟩ := h
  exact ⟨⟨ds, k.get e⟩, k.1, fun j hj _ => k.2 j hj⟩
theorem Dr.more {i : Nat} {s : St} {o : Ob} (h : At0 i s) : Dr i s (s ++ [o]) := (Kept.more [o]).dr h
theorem Dr.get {i : Nat} {s s' : St} (k : Dr i s s') {j : Nat} {o : Ob} (h : s[j]? = some o) (hn : j ≠ i) : s'[j]? = some o := by
  rw [k.old j (lt_of_at h) hn]
  exact h
/-! ### loops -/
theorem forF_c {ok : St → Bool} {body : D → Env → St → RS} {d : D} {ds : List D} {e e' : Env} {s s' : St} (ho : ok s = true) (hb : body d e s = .nx e' s') : forF ok body (d :: ds) e s = forF ok body ds e' s' := by
  rw [forF, if_pos ho, hb]
theorem forF_n {ok : St → Bool} {body : D → Env → St → RS} {e : Env} {s : St} (ho : ok s = true) : forF ok body [] e s = .nx e s := by
  rw [forF, if_pos ho]
theorem forF_r {ok : St → Bool} {body : D → Env → St → RS} {d v : D} {ds : List D} {e : Env} {s s' : St} (ho : ok s = true) (hb : body d e s = .rt v s') : forF ok body (d :: ds) e s = .rt v s' := by
  rw [forF, if_pos ho, hb]
theorem loopF_t {c : Env → St → R Bool} {b : Env → St → RS} {n : Nat} {e e' : Env} {s s1 s' : St} (hc : c e s = .ok true s1) (hb : b e s1 = .nx e' s') : loopF c b (n + 1) e s = loopF c b n e' s' := by
  rw [loopF, hc, ofB_ok, if_pos rfl, hb]
theorem loopF_f {c : Env → St → R Bool} {b : Env → St → RS} {n : Nat} {e : Env} {s s1 : St} (hc : c e s = .ok false s1) : loopF c b (n + 1) e s = .nx e s1 := by
  rw [loopF, hc, ofB_ok, if_neg Bool.false_ne_true]
theorem lcF_c {ok : St → Bool} {f : D → St → R (Option D)} {d x : D} {ds acc : List D} {s s' : St} (ho : ok s = true) (hf : f d s = .ok (some x) s') (hl : acc.length < lim) : lcF ok f (d :: ds) acc s = lcF ok f ds (acc ++ [x]) s' := by
  rw [lcF, if_pos ho, hf]
  exact if_pos hl
theorem lcF_n {ok : St → Bool} {f : D → St → R (Option D)} {acc : List D} {s : St} (ho : ok s = true) : lcF ok f [] acc s = .ok acc s := by
  rw [lcF, if_pos ho]
theorem lcF_s {ok : St → Bool} {f : D → St → R (Option D)} {d : D} {ds acc : List D} {s s' : St} (ho : ok s = true) (hf : f d s = .ok none s') : lcF ok f (d :: ds) acc s = lcF ok f ds acc s' := by
  rw [lcF, if_pos ho, hf]
@[simp] theorem still_none (xs : List D) (s : St) : still xs none s = true := rfl
@[simp] theorem rngF_2 : rngF 0 2 = [.int 0, .int 1] := rfl
@[simp] theorem rngF_3 : rngF 0 3 = [.int 0, .int 1, .int 2] := rfl
@[simp] theorem rngF_4 : rngF 0 4 = [.int 0, .int 1, .int 2, .int 3] := rfl
@[simp] theorem rngF_5 : rngF 0 5 = [.int 0, .int 1, .int 2, .int 3, .int 4] := rfl
theorem evI_rng {G : Ctx} {C C1 : Calls} {x : Ex} {e : Env} {s s' : St} {n : Int} (h : evE G C C1 none x e s = .ok (.int n) s') (h1 : n ≤ 1000000) (h2 : 0 ≤ n) : evI G C C1 none (.rng x) e s = .ok (rngF 0 n, none) s' := by
  have q : rOk n = true := rOk_of (by omega) (by omega)
  have e0 : evI G C C1 none (.rng x) e s = (evE G C C1 none x e s).bind fun d s => (match d with
    | .int n => if rOk n = true then .ok (rngF 0 n, none) s else .bad
    | _ => .bad) := rfl
  rw [e0, h]
  exact if_pos q
theorem rngF_ints (n : Nat) : ∃ ds : List Int, rngF 0 (n : Int) = dInts ds ∧ ds.length = n := by
  refine ⟨(List.range n).map fun (i : Nat) => (0 : Int) + (i : Int), ?_, by simp⟩
  unfold rngF dInts
  rw [Int.sub_zero, Int.toNat_natCast, List.map_map]
  rfl
theorem rngF_nat (n : Nat) (z : Int) (hz : z = n) : rngF 0 z = (List.range n).map fun (i : Nat) => D.int (i : Int) := by
  unfold rngF
  rw [hz, Int.sub_zero, Int.toNat_natCast]
  apply List.map_congr_left
  intro i _
  rw [Int.zero_add]
def ixs (i n : Nat) : List D := (List.range' i n).map fun (j : Nat) => D.int (j : Int)
theorem ixs_0 (n : Nat) : rngF 0 (n : Int) = ixs 0 n := by
  rw [rngF_nat n _ rfl, ixs, List.range_eq_range']
theorem ixs_s (i n : Nat) : ixs i (n + 1) = .int (i : Int) :: ixs (i + 1) n := by simp [ixs, List.range'_succ]
theorem evI_ixs {G : Ctx} {C C1 : Calls} {x : Ex} {e : Env} {s s' : St} {z : Int} {n : Nat} (h : evE G C C1 none x e s = .ok (.int z) s') (hz : z = n) (hn : n ≤ 1000000) : evI G C C1 none (.rng x) e s = .ok (ixs 0 n, none) s' := by
  have h1 : z ≤ 1000000 := by omega
  have h2 : 0 ≤ z := by omega
  rw [evI_rng h h1 h2, hz, ixs_0]
theorem atI_of {α : Type} {xs : List α} {i : Nat} {x : α} (h : xs[i]? = some x) : atI xs (i : Int) = some x := atI_lit h
/-- a drawn item of a list -/
theorem ix_some {xs : List D} {j : Nat} {s : St} {v : Int} (h : s[j]? = some (.lst xs)) (h1 : 0 ≤ v) (h2 : v < xs.length) : ∃ x ∈ xs, ixF (.obj j) (.int v) s = .ok x s := by
  have hv : v = ((v.toNat : Nat) : Int) := by omega
  have hi : v.toNat < xs.length := by omega
  refine ⟨xs[v.toNat], List.getElem_mem hi, ?_⟩
  have := atI_of (List.getElem?_eq_getElem hi)
  rw [← hv] at this
  rw [ix_obj, h, ixO_l, this]
  rfl
end Lt
/-! ### data with short tuples -/
namespace Lt
open PySem
mutual
def D.slim : D → Bool
  | .tup xs => decide (xs.length ≤ 1000) && D.slims xs
  | _ => true
def D.slims : List D → Bool
  | [] => true
  | x :: xs => D.slim x && D.slims xs
end
/-- good data: no objects, good text, short tuples -/
def D.good (d : D) : Bool := D.pure d && (D.ok d && D.slim d)
def D.goods (ds : List D) : Bool := D.pures ds && (D.oks ds && D.slims ds)
theorem D.goods_at : ∀ {xs : List D} {i : Nat} {x : D}, D.goods xs = true → xs[i]? = some x → D.good x = true ∧ D.dep x ≤ D.deps xs
  | [], i, x, _, h => by simp at h
  | y :: ys, i, x, hg, h => by
    obtain ⟨h1, h2⟩ := ba' hg
    obtain ⟨h2, h3⟩ := ba' h2
    obtain ⟨p1, p2⟩ := ba' h1
    obtain ⟨q1, q2⟩ := ba' h2
    obtain ⟨r1, r2⟩ := ba' h3
    cases i with
    | zero =>
      have : y = x := by simpa using h
      subst this
      exact ⟨by simp [D.good, p1, q1, r1], by simp only [D.deps]; omega⟩
    | succ i =>
      have := D.goods_at (xs := ys) (i := i) (x := x) (by simp [D.goods, p2, q2, r2]) (by simpa using h)
      exact ⟨this.1, by simp only [D.deps]; omega⟩
theorem K.slim : ∀ t : K, D.slim t.d = true
  | .q => rfl
  | .b _ => rfl
  | .fn l r => by simp [K.d, D.slim, D.slims, K.slim l, K.slim r]
  | .pr l r => by simp [K.d, D.slim, D.slims, K.slim l, K.slim r]
theorem K.good (t : K) : D.good t.d = true := by simp [D.good, K.slim]
theorem K.dbeq (a b : K) : D.beq a.d b.d = decide (a = b) := by
  have h : ∀ a b : K, D.beq a.d b.d = D.eq a.d b.d := by
    intro a
    induction a with
    | q => intro b; cases b <;> simp [K.d, D.beq, D.eq]
    | b x => intro b; cases b <;> simp [K.d, D.beq, D.eq]
    | fn l r i1 i2 => intro b; cases b <;> simp [K.d, D.beq, D.eq, D.beqs, D.eqs, i1, i2]
    | pr l r i1 i2 => intro b; cases b <;> simp [K.d, D.beq, D.eq, D.beqs, D.eqs, i1, i2]
  rw [h, K.eqd]
end Lt
/-! ### loops with an invariant -/
namespace Lt
open PySem
theorem forN {body : D → Env → St → RS} {xs : List D} (Q : Nat → Env → St → Prop) (N : Nat) (hs : ∀ n e s, n < N → Q n e s → ∃ e' s', body (.int (n : Int)) e s = .nx e' s' ∧ Q (n + 1) e' s') :
    ∀ (m i : Nat) (e : Env) (s : St), i + m = N → Q i e s → ∃ e' s', forF (still xs none) body (ixs i m) e s = .nx e' s' ∧ Q N e' s'
  | 0, i, e, s, hi, h => ⟨e, s, forF_n rfl, by rw [← hi]; exact h⟩
  | m + 1, i, e, s, hi, h => by
    obtain ⟨e', s', hb, h'⟩ := hs i e s (by omega) h
    obtain ⟨e2, s2, q1, q2⟩ := forN Q N hs m (i + 1) e' s' (by omega) h'
    refine ⟨e2, s2, ?_, q2⟩
    rw [ixs_s, forF_c rfl hb]
    exact q1
theorem ixs2 : ixs 0 2 = [.int 0, .int 1] := rfl
theorem ixs3 : ixs 0 3 = [.int 0, .int 1, .int 2] := rfl
theorem ixs4 : ixs 0 4 = [.int 0, .int 1, .int 2, .int 3] := rfl
theorem ixs5 : ixs 0 5 = [.int 0, .int 1, .int 2, .int 3, .int 4] := rfl
theorem atf3 {α : Type} (f : Nat → α) {x : Nat} (h : x < 3) : atI [f 0, f 1, f 2] (x : Int) = some (f x) := by
  match x, h with
  | 0, _ => exact atI_0 _ _
  | 1, _ => exact atI_1 _ _ _
  | 2, _ => exact atI_2 _ _ _ _
theorem atf4 {α : Type} (f : Nat → α) {x : Nat} (h : x < 4) : atI [f 0, f 1, f 2, f 3] (x : Int) = some (f x) := by
  match x, h with
  | 0, _ => exact atI_0 _ _
  | 1, _ => exact atI_1 _ _ _
  | 2, _ => exact atI_2 _ _ _ _
  | 3, _ => exact atI_3 _ _ _ _ _
/-- all but one thing stands -/
def Ke (r : Nat) (s s' : St) : Prop := s.length ≤ s'.length ∧ ∀ i, i < s.length → i ≠ r → s'[i]? = s[i]?
theorem Ke.trans {r : Nat} {s s1 s2 : St} (a : Ke r s s1) (b : Ke r s1 s2) : Ke r s s2 := ⟨Nat.le_trans a.1 b.1, fun i h hn => (b.2 i (Nat.lt_of_lt_of_le h a.1) hn).trans (a.2 i h hn)⟩
theorem Ke.get {r : Nat} {s s' : St} (k : Ke r s s') {i : Nat} {o : Ob} (h : s[i]? = some o) (hn : i ≠ r) : s'[i]? = some o := by
  rw [k.2 i (lt_of_at h) hn]
  exact h
theorem Kept.ke {s s' : St} (k : Kept s s') (r : Nat) : Ke r s s' := ⟨k.1, fun i h _ => k.2 i h⟩
theorem Ke.set (s : St) (r : Nat) (o : Ob) : Ke r s (s.set r o) := ⟨by simp, fun i _ hn => List.getElem?_set_ne (Ne.symm hn)⟩
theorem Ke.kept {r n : Nat} {s s' : St} (k : Ke r s s') (h : s.length = r) : Kept s s' := ⟨k.1, fun i hi => k.2 i hi (by omega)⟩
end Lt
namespace Lt
open PySem
theorem S_ite_or (G : Ctx) (C C1 : Calls) (c d : Ex) (a b : Sms) (e : Env) (s : St) : evS G C C1 none (.ite (.or c d) a b) e s = RS.ofB e ((evE G C C1 none (.or c d) e s).bind truth) fun t s => if t = true then evSs G C C1 none a e s else evSs G C C1 none b e s := rfl
theorem S_ite_and (G : Ctx) (C C1 : Calls) (c d : Ex) (a b : Sms) (e : Env) (s : St) : evS G C C1 none (.ite (.and c d) a b) e s = RS.ofB e ((evE G C C1 none (.and c d) e s).bind truth) fun t s => if t = true then evSs G C C1 none a e s else evSs G C C1 none b e s := rfl
theorem S_ite_not (G : Ctx) (C C1 : Calls) (c : Ex) (a b : Sms) (e : Env) (s : St) : evS G C C1 none (.ite (.not c) a b) e s = RS.ofB e ((evE G C C1 none (.not c) e s).bind truth) fun t s => if t = true then evSs G C C1 none a e s else evSs G C C1 none b e s := rfl
end Lt
/-! ### draws -/
namespace Lt
open PySem
section
variable (F : Nat)
theorem draw0 (k i : Nat) (m : Int) (s : St) (h : s[i]? = some (.lst [])) : callF (GF F) (k + 1) .f__law_draw [.obj i, .int m] s = .ok (.int 0) s := by
  rw [r_f__law_draw]
  simp [b_f__law_draw, h]
theorem draw1 (k i : Nat) (m d : Int) (xs : List D) (s : St) (hm : 0 < m) (h : s[i]? = some (.lst (xs ++ [.int d]))) : callF (GF F) (k + 1) .f__law_draw [.obj i, .int m] s = .ok (.int (d % m)) (s.set i (.lst xs)) := by
  rw [r_f__law_draw]
  have h0 : ((xs.length : Int) + 1 = 0) = False := by simp; omega
  simp [b_f__law_draw, h, bin_mod, hm, h0]
theorem draw (k i : Nat) (m : Int) (s : St) (hm : 0 < m) (h : At0 i s) : ∃ v s', callF (GF F) (k + 1) .f__law_draw [.obj i, .int m] s = .ok (.int v) s' ∧ 0 ≤ v ∧ v < m ∧ Dr i s s' := by
  obtain ⟨ds, e⟩ := h
  rcases List.eq_nil_or_concat ds with rfl | ⟨xs, x, rfl⟩
  · exact ⟨0, s, draw0 F k i m s e, by omega, hm, Dr.refl ⟨[], e⟩⟩
  · have e' : s[i]? = some (.lst (dInts xs ++ [.int x])) := by rw [e]; simp [dInts]
    have hi := (List.getElem?_eq_some_iff.mp e).1
    refine ⟨x % m, _, draw1 F k i m x (dInts xs) s hm e', Int.emod_nonneg _ (by omega), Int.emod_lt_of_pos _ hm, ⟨⟨xs, by rw [List.getElem?_set_self hi]⟩, by simp, fun j _ hn => List.getElem?_set_ne (Ne.symm hn)⟩⟩
theorem in1 (C C1 : Calls) (x0 x2 : Option D) : ∀ (ks : List Int) (ds : List Int) (rest : Int) (e4 : Option D), ds.length + ks.length ≤ 100000 →
    ∃ ds' rest' e4', forF (still [] none) (bodyF (GF F) C C1 (.nm 4) b_f__law_draws_1) (dInts ks) [x0, some (.obj 0), x2, some (.int rest), e4] [.lst (dInts ds)] = .nx [x0, some (.obj 0), x2, some (.int rest'), e4'] [.lst (dInts ds')] ∧ ds'.length ≤ ds.length + ks.length
  | [], ds, rest, e4, _ => ⟨ds, rest, e4, forF_n rfl, Nat.le_refl _⟩
  | c :: ks, ds, rest, e4, hl => by
    have hl' : (dInts ds).length < lim := by simp at hl; simp [lim]; omega
    by_cases hr : 0 < rest
    · have hb : bodyF (GF F) C C1 (.nm 4) b_f__law_draws_1 (.int c) [x0, some (.obj 0), x2, some (.int rest), e4] [.lst (dInts ds)] = .nx [x0, some (.obj 0), x2, some (.int (rest / 1000)), some (.int c)] [.lst (dInts (ds ++ [rest % 1000]))] := by
        simp [bodyF, b_f__law_draws_1, bin_mod, bin_fdiv, bin_mul, appO_l _ hl', hr]
      obtain ⟨ds', rest', e4', q1, q2⟩ := in1 C C1 x0 x2 ks (ds ++ [rest % 1000]) (rest / 1000) (some (.int c)) (by simp at hl ⊢; omega)
      refine ⟨ds', rest', e4', ?_, by simp at q2 ⊢; omega⟩
      show forF _ _ (D.int c :: dInts ks) _ _ = _
      rw [forF_c rfl hb]
      exact q1
    · have hb : bodyF (GF F) C C1 (.nm 4) b_f__law_draws_1 (.int c) [x0, some (.obj 0), x2, some (.int rest), e4] [.lst (dInts ds)] = .nx [x0, some (.obj 0), x2, some (.int rest), some (.int c)] [.lst (dInts ds)] := by
        simp [bodyF, b_f__law_draws_1, bin_mod, bin_fdiv, bin_mul, appO_l _ hl', hr]
      obtain ⟨ds', rest', e4', q1, q2⟩ := in1 C C1 x0 x2 ks ds rest (some (.int c)) (by simp at hl ⊢; omega)
      refine ⟨ds', rest', e4', ?_, by simp at q2 ⊢; omega⟩
      show forF _ _ (D.int c :: dInts ks) _ _ = _
      rw [forF_c rfl hb]
      exact q1
theorem in2 (C C1 : Calls) (x0 x2 : Option D) : ∀ (ks : List Int) (ds : List Int) (rest : Int) (e4 : Option D), ds.length + ks.length ≤ 100000 →
    ∃ ds' rest' e4', forF (still [] none) (bodyF (GF F) C C1 (.nm 4) b_f__law_draws_2) (dInts ks) [x0, some (.obj 0), x2, some (.int rest), e4] [.lst (dInts ds)] = .nx [x0, some (.obj 0), x2, some (.int rest'), e4'] [.lst (dInts ds')] ∧ ds'.length ≤ ds.length + ks.length
  | [], ds, rest, e4, _ => ⟨ds, rest, e4, forF_n rfl, Nat.le_refl _⟩
  | c :: ks, ds, rest, e4, hl => by
    have hl' : (dInts ds).length < lim := by simp at hl; simp [lim]; omega
    have hb : bodyF (GF F) C C1 (.nm 4) b_f__law_draws_2 (.int c) [x0, some (.obj 0), x2, some (.int rest), e4] [.lst (dInts ds)] = .nx [x0, some (.obj 0), x2, some (.int (rest * 69621 % 2147483629)), some (.int c)] [.lst (dInts (ds ++ [rest * 69621 % 2147483629 / 7 % 1000]))] := by
      simp [bodyF, b_f__law_draws_2, bin_mod, bin_fdiv, bin_mul, appO_l _ hl']
    obtain ⟨ds', rest', e4', q1, q2⟩ := in2 C C1 x0 x2 ks (ds ++ [rest * 69621 % 2147483629 / 7 % 1000]) (rest * 69621 % 2147483629) (some (.int c)) (by simp at hl ⊢; omega)
    refine ⟨ds', rest', e4', ?_, by simp at q2 ⊢; omega⟩
    show forF _ _ (D.int c :: dInts ks) _ _ = _
    rw [forF_c rfl hb]
    exact q1
theorem dr_loop (C C1 : Calls) (x0 : Option D) : ∀ (cs : List Int) (ds : List Int) (e2 e3 e4 : Option D), ds.length + 60 * cs.length ≤ 50000 →
    ∃ ds' e2' e3' e4', forF (still [] none) (bodyF (GF F) C C1 (.nm 2) b_f__law_draws_3) (dInts cs) [x0, some (.obj 0), e2, e3, e4] [.lst (dInts ds)] = .nx [x0, some (.obj 0), e2', e3', e4'] [.lst (dInts ds')] ∧ ds'.length ≤ ds.length + 60 * cs.length
  | [], ds, e2, e3, e4, _ => ⟨ds, e2, e3, e4, forF_n rfl, by simp⟩
  | c :: cs, ds, e2, e3, e4, hl => by
    have hl0 : ds.length + 60 + 60 * cs.length ≤ 50000 := by simp at hl; omega
    have hp : ∀ s, binF .pow (.int 10) (.int 18) s = .ok (.int 1000000000000000000) s := fun s => by simp [bin_pow']
    have key : ∃ ds1 r1 k1, bodyF (GF F) C C1 (.nm 2) b_f__law_draws_3 (.int c) [x0, some (.obj 0), e2, e3, e4] [.lst (dInts ds)] = .nx [x0, some (.obj 0), some (.int c), some (.int r1), k1] [.lst (dInts ds1)] ∧ ds1.length ≤ ds.length + 60 := by
      by_cases hc : (1000000000000000000 : Int) ≤ c
      · obtain ⟨ks, er, el⟩ := rngF_ints 60
        obtain ⟨ds1, r1, k1, q1, q2⟩ := in1 F C C1 x0 (some (.int c)) ks ds c e4 (by omega)
        have hI : evI (GF F) C C1 none (.rng (.int 60)) [x0, some (.obj 0), some (.int c), some (.int c), e4] [.lst (dInts ds)] = .ok (dInts ks, none) [.lst (dInts ds)] := by
          rw [← er]
          exact evI_rng (by simp [evE]) (by omega) (by omega)
        refine ⟨ds1, r1, k1, ?_, by omega⟩
        have st : still [] none = still (dInts ks) none := rfl
        rw [st] at q1
        simp [bodyF, b_f__law_draws_3, bin_mul, bin_mod, hp, hc, hI, q1]
      · obtain ⟨ks, er, el⟩ := rngF_ints 4
        obtain ⟨ds1, r1, k1, q1, q2⟩ := in2 F C C1 x0 (some (.int c)) ks ds (c * 48271 % 2147483647) e4 (by omega)
        have hI : evI (GF F) C C1 none (.rng (.int 4)) [x0, some (.obj 0), some (.int c), some (.int (c * 48271 % 2147483647)), e4] [.lst (dInts ds)] = .ok (dInts ks, none) [.lst (dInts ds)] := by
          rw [← er]
          exact evI_rng (by simp [evE]) (by omega) (by omega)
        refine ⟨ds1, r1, k1, ?_, by omega⟩
        have st : still [] none = still (dInts ks) none := rfl
        rw [st] at q1
        simp [bodyF, b_f__law_draws_3, bin_mul, bin_mod, hp, hc, hI, q1]
    obtain ⟨ds1, r1, k1, hb, h1⟩ := key
    obtain ⟨ds2, e2', e3', e4', q1, q2⟩ := dr_loop C C1 x0 cs ds1 _ _ _ (by omega)
    refine ⟨ds2, e2', e3', e4', ?_, by simp; omega⟩
    show forF _ _ (D.int c :: dInts cs) _ _ = _
    rw [forF_c rfl hb]
    exact q1
theorem draws (ns : List Int) (hl : ns.length ≤ 63) (k : Nat) : ∃ ds : List Int, callF (GF F) (k + 1) .f__law_draws [.fz (dInts ns)] [] = .ok (.obj 0) [.lst (dInts ds)] := by
  obtain ⟨ds, e2, e3, e4, q1, q2⟩ := dr_loop F (callF (GF F) k) (callF (GF F) (k - 1)) (some (.fz (dInts ns))) ns [] none none none (by simp; omega)
  refine ⟨ds.reverse, ?_⟩
  have st : still [] none = still (dInts ns) none := rfl
  rw [st] at q1
  have e0 : dInts ([] : List Int) = [] := rfl
  rw [e0] at q1
  rw [r_f__law_draws]
  simp [b_f__law_draws, itemsF, q1]
end
end Lt
/-! ### _law_same -/
namespace Lt
open PySem
section
variable (F : Nat)
theorem same_loop (C C1 : Calls) (xs ys : List D) (hl : xs.length = ys.length) (h : ∀ (i : Nat) x y (s : St), xs[i]? = some x → ys[i]? = some y → C .f__law_same [x, y] s = .ok (.bl (D.beq x y)) s) :
    ∀ (n i : Nat) (s : St) (e2 : Option D), i + n = xs.length →
    (D.beqs (xs.drop i) (ys.drop i) = true → ∃ e2', forF (still [] none) (bodyF (GF F) C C1 (.nm 2) b_f__law_same_1) (ixs i n) [some (.tup xs), some (.tup ys), e2] s = .nx [some (.tup xs), some (.tup ys), e2'] s) ∧
    (D.beqs (xs.drop i) (ys.drop i) = false → forF (still [] none) (bodyF (GF F) C C1 (.nm 2) b_f__law_same_1) (ixs i n) [some (.tup xs), some (.tup ys), e2] s = .rt (.bl false) s)
  | 0, i, s, e2, hi => by
    have e1 : xs.drop i = [] := List.drop_eq_nil_of_le (by omega)
    have e2 : ys.drop i = [] := List.drop_eq_nil_of_le (by omega)
    rw [e1, e2]
    exact ⟨fun _ => ⟨_, forF_n rfl⟩, fun q => by cases q⟩
  | n + 1, i, s, e2, hi => by
    have hx : i < xs.length := by omega
    have hy : i < ys.length := by omega
    have gx := List.getElem?_eq_getElem hx
    have gy := List.getElem?_eq_getElem hy
    rw [List.drop_eq_getElem_cons hx, List.drop_eq_getElem_cons hy]
    have hc := h i _ _ s gx gy
    have ax := atI_of gx
    have ay := atI_of gy
    obtain ⟨i1, i2⟩ := same_loop C C1 xs ys hl h n (i + 1) s (some (.int i)) (by omega)
    have ei : ixs i (n + 1) = .int (i : Int) :: ixs (i + 1) n := by simp [ixs, List.range'_succ]
    rw [ei]
    generalize xs[i] = x at *
    generalize ys[i] = y at *
    simp only [D.beqs]
    cases hb : D.beq x y with
    | true =>
      rw [hb] at hc
      have hb' : bodyF (GF F) C C1 (.nm 2) b_f__law_same_1 (.int (i : Int)) [some (.tup xs), some (.tup ys), e2] s = .nx [some (.tup xs), some (.tup ys), some (.int (i : Int))] s := by
        simp [bodyF, b_f__law_same_1, ax, ay, hc]
      rw [forF_c rfl hb', Bool.true_and]
      exact ⟨i1, i2⟩
    | false =>
      rw [hb] at hc
      have hb' : bodyF (GF F) C C1 (.nm 2) b_f__law_same_1 (.int (i : Int)) [some (.tup xs), some (.tup ys), e2] s = .rt (.bl false) s := by
        simp [bodyF, b_f__law_same_1, ax, ay, hc]
      rw [forF_r rfl hb', Bool.false_and]
      exact ⟨fun q => (by cases q), fun _ => rfl⟩
theorem beqs_len : ∀ as bs : List D, as.length ≠ bs.length → D.beqs as bs = false
  | [], [], h => absurd rfl h
  | [], _ :: _, _ => rfl
  | _ :: _, [], _ => rfl
  | a :: as, b :: bs, h => by
    simp only [D.beqs, beqs_len as bs (fun q => h (by simp [q])), Bool.and_false]
theorem same_tup (k : Nat) (xs ys : List D) (s : St) (w : ys.length ≤ 1000) (h : ∀ (i : Nat) x y (s : St), xs[i]? = some x → ys[i]? = some y → callF (GF F) k .f__law_same [x, y] s = .ok (.bl (D.beq x y)) s) :
    callF (GF F) (k + 1) .f__law_same [.tup xs, .tup ys] s = .ok (.bl (D.beqs xs ys)) s := by
  by_cases hl : xs.length = ys.length
  · obtain ⟨i1, i2⟩ := same_loop F (callF (GF F) k) (callF (GF F) (k - 1)) xs ys hl h ys.length 0 s none (by omega)
    rw [List.drop_zero, List.drop_zero] at i1 i2
    obtain ⟨z, hz⟩ : ∃ z : Int, z = ys.length := ⟨_, rfl⟩
    have hI : evI (GF F) (callF (GF F) k) (callF (GF F) (k - 1)) none (.rng (.bi .len (.cons (.var 1) .nil))) [some (.tup xs), some (.tup ys), none] s = .ok (ixs 0 ys.length, none) s := evI_ixs (z := z) (by simp [hz]) hz (by omega)
    have st : still [] none = still (ixs 0 ys.length) none := rfl
    rw [st] at i1 i2
    rw [r_f__law_same]
    generalize ixs 0 ys.length = zs at *
    cases hb : D.beqs xs ys with
    | true =>
      obtain ⟨e2, i1⟩ := i1 hb
      simp [b_f__law_same, hl, hI, i1]
    | false => simp [b_f__law_same, hl, hI, i2 hb]
  · rw [r_f__law_same, beqs_len xs ys hl]
    obtain ⟨n, hn⟩ : ∃ n : Nat, n = xs.length := ⟨_, rfl⟩
    obtain ⟨m, hm⟩ : ∃ n : Nat, n = ys.length := ⟨_, rfl⟩
    rw [← hn, ← hm] at hl
    have hl' : ¬ (n : Int) = m := by omega
    simp [b_f__law_same, ← hn, ← hm, hl']
/-- not a tuple, not text -/
def D.sc : D → Bool
  | .non => true
  | .bl _ => true
  | .int _ => true
  | .str _ => true
  | _ => false
theorem same_scal (k : Nat) (a b : D) (s : St) (ha : D.sc a = true) (hb : D.sc b = true) (oa : D.ok a = true) (ob : D.ok b = true) : callF (GF F) (k + 1) .f__law_same [a, b] s = .ok (.bl (D.beq a b)) s := by
  rw [r_f__law_same]
  cases b with
  | non => cases a <;> first | (cases ha; done) | simp [b_f__law_same, D.beq]
  | bl y =>
    cases a with
    | bl x => simp [b_f__law_same, D.beq]
    | _ => first | (cases ha; done) | simp [b_f__law_same, D.beq]
  | int y =>
    cases a with
    | int x => simp [b_f__law_same, D.beq]
    | _ => first | (cases ha; done) | simp [b_f__law_same, D.beq]
  | str y =>
    cases a with
    | str x => simp [b_f__law_same, D.beq, eqF_s oa ob]
    | _ => first | (cases ha; done) | simp [b_f__law_same, D.beq]
  | tup _ => cases hb
  | fz _ => cases hb
  | obj _ => cases hb
  | cls _ => cases hb
  | ty _ => cases hb
theorem same_ts (k : Nat) (xs : List D) (b : D) (s : St) (hb : D.sc b = true) : callF (GF F) (k + 1) .f__law_same [.tup xs, b] s = .ok (.bl false) s ∧ callF (GF F) (k + 1) .f__law_same [b, .tup xs] s = .ok (.bl false) s := by
  rw [r_f__law_same, r_f__law_same]
  cases b <;> first | (cases hb; done) | simp [b_f__law_same]
theorem D.pure_sc {a : D} (h : D.pure a = true) : D.sc a = true ∨ ∃ xs, a = .tup xs := by
  cases a <;> first | (cases h; done) | exact .inl rfl | exact .inr ⟨_, rfl⟩
/-- _law_same of data -/
theorem same_ok : ∀ (k : Nat) (a b : D) (s : St), D.good a = true → D.good b = true → D.dep b < k → callF (GF F) k .f__law_same [a, b] s = .ok (.bl (D.beq a b)) s
  | 0, a, b, s, _, _, hk => absurd hk (Nat.not_lt_zero _)
  | k + 1, a, b, s, ga, gb, hk => by
    obtain ⟨ga1, ga2⟩ := ba' ga
    obtain ⟨ga2, ga3⟩ := ba' ga2
    obtain ⟨gb1, gb2⟩ := ba' gb
    obtain ⟨gb2, gb3⟩ := ba' gb2
    rcases D.pure_sc ga1 with ha | ⟨xs, rfl⟩
    · rcases D.pure_sc gb1 with hb | ⟨ys, rfl⟩
      · exact same_scal F k a b s ha hb ga2 gb2
      · rw [(same_ts F k ys a s ha).2]
        cases a <;> first | (cases ha; done) | rfl
    · rcases D.pure_sc gb1 with hb | ⟨ys, rfl⟩
      · rw [(same_ts F k xs b s hb).1]
        cases b <;> first | (cases hb; done) | rfl
      · obtain ⟨w1, w2⟩ := ba' ga3
        obtain ⟨v1, v2⟩ := ba' gb3
        have hk' : D.deps ys < k := by simp only [D.dep] at hk; omega
        refine same_tup F k xs ys s (of_decide_eq_true v1) fun i x y s hx hy => ?_
        obtain ⟨p1, p2⟩ := D.goods_at (xs := xs) (by simp only [D.goods, show D.pures xs = true from ga1, show D.oks xs = true from ga2, w2]; rfl) hx
        obtain ⟨q1, q2⟩ := D.goods_at (xs := ys) (by simp only [D.goods, show D.pures ys = true from gb1, show D.oks ys = true from gb2, v2]; rfl) hy
        exact same_ok k x y s p1 q1 (Nat.lt_of_le_of_lt q2 hk')
theorem same_K (k : Nat) (a b : K) (s : St) (h : b.ht < k) : callF (GF F) k .f__law_same [a.d, b.d] s = .ok (.bl (decide (a = b))) s := by
  rw [same_ok F k a.d b.d s a.good b.good (by simpa using h), K.dbeq]
end
end Lt
/-! ### texts -/
namespace Lt
open PySem
@[simp] theorem intC_le (i j : Int) : intC .le (.int i) (.int j) = some (decide (i ≤ j)) := rfl
@[simp] theorem intC_lt (i j : Int) : intC .lt (.int i) (.int j) = some (decide (i < j)) := rfl
theorem toStr_list (x : List Nat) : (toStr x).cps.toList = x := by simp [toStr]
theorem ofStr_list (x : Str) : ofStr x = x.cps.toList := rfl
theorem toStr_len' (x : List Nat) : (toStr x).length = x.length := by simp [toStr, Str.length]
/-- one sign in a text -/
theorem occ1 (c : Nat) (y : List Nat) : occ [c] y = decide (c ∈ y) := by
  have h := StrLaws.found_one (toStr y) c
  rw [toStr_list, toStr_len'] at h
  exact h
theorem ofStr_mul1 (c : Nat) (n : Int) : ofStr (Txt.mul (toStr [c]) n) = List.replicate n.toNat c := PyProof.Rows.mul_one_list c n
theorem bin_mul1 {c : Nat} {j : Int} {s : St} (h : 0 ≤ j) (h2 : j ≤ 1000) : binF .mul (.str [c]) (.int j) s = .ok (.str (List.replicate j.toNat c)) s := by
  show (if 0 ≤ j ∧ j ≤ 1000 ∧ [c].length * j.toNat ≤ lim then R.ok (D.str (ofStr (Txt.mul (toStr [c]) j))) s else .bad) = _
  rw [if_pos ⟨h, h2, by simp [lim]; omega⟩, ofStr_mul1]
theorem rp1 (c : Nat) : ∀ x : List Nat, ofStr (Txt.removeprefix (toStr x) (toStr [c])) = if x.head? = some c then x.drop 1 else x := by
  intro x
  rw [StrLaws.removeprefix_eq, toStr_list]
  have e1 : (toStr [c]).length = 1 := rfl
  have h := StrLaws.subAt_one (toStr x) c 0
  rw [toStr_list] at h
  have h' : (decide (0 + (toStr [c]).length ≤ (toStr x).length) && Builtin.Str.subAt (toStr x) (toStr [c]) 0) = true ↔ x[0]? = some c := by
    rw [Bool.and_eq_true, decide_eq_true_eq]
    exact h
  by_cases hx : x.head? = some c
  · rw [if_pos hx, if_pos (h'.mpr (by rw [← List.head?_eq_getElem?]; exact hx))]
    rw [e1, toStr_len']
    show (List.take (x.length - 1) (List.drop 1 x)).toArray.toList = _
    simp only [List.drop_one]
    exact List.take_of_length_le (by simp)
  · rw [if_neg hx, if_neg (fun q => hx (by rw [List.head?_eq_getElem?]; exact h'.mp q))]
    exact toStr_list x
theorem sw1 (c : Nat) (x : List Nat) : Txt.startswith (toStr x) (toStr [c]) = decide (x.head? = some c) := by
  have h := StrLaws.subAt_one (toStr x) c 0
  rw [toStr_list] at h
  have h' : Txt.startswith (toStr x) (toStr [c]) = true ↔ x[0]? = some c := by
    unfold Txt.startswith
    rw [Bool.and_eq_true, decide_eq_true_eq]
    exact h
  rw [← List.head?_eq_getElem?] at h'
  cases e : Txt.startswith (toStr x) (toStr [c]) with
  | true => exact (decide_eq_true (h'.mp e)).symm
  | false => exact (decide_eq_false fun q => by rw [h'.mpr q] at e; cases e).symm
/-! slices -/
theorem cut_to (x : List Nat) (k : Nat) {z : Int} (hz : z = k) : cut x none (some z) = x.take k := by
  subst hz
  unfold cut sIx
  dsimp only
  rw [if_neg (by omega), Int.toNat_natCast]
  simp [List.take_eq_take_iff]
theorem cut_from (x : List Nat) (k : Nat) {z : Int} (hz : z = k) : cut x (some z) none = x.drop k := by
  subst hz
  unfold cut sIx
  dsimp only
  rw [if_neg (by omega), Int.toNat_natCast]
  by_cases h : k ≤ x.length
  · rw [Nat.min_eq_left h, List.take_of_length_le (by simp)]
  · rw [Nat.min_eq_right (by omega), List.drop_eq_nil_of_le (Nat.le_refl _), List.drop_eq_nil_of_le (by omega)]
    simp
theorem sl_to {x : List Nat} (hx : x.length ≤ lim) (k : Nat) {z : Int} (hz : z = k) (s : St) : slF (.str x) none (some z) s = .ok (.str (x.take k)) s := by
  show (if x.length ≤ lim then R.ok (D.str (cut x none (some z))) s else .bad) = _
  rw [if_pos hx, cut_to x k hz]
theorem sl_from {x : List Nat} (hx : x.length ≤ lim) (k : Nat) {z : Int} (hz : z = k) (s : St) : slF (.str x) (some z) none s = .ok (.str (x.drop k)) s := by
  show (if x.length ≤ lim then R.ok (D.str (cut x (some z) none)) s else .bad) = _
  rw [if_pos hx, cut_from x k hz]
@[simp] theorem bndR_non (s : St) : bndR true .non s = .ok none s := rfl
@[simp] theorem bndR_int (i : Int) (s : St) : bndR false (.int i) s = .ok (some i) s := rfl
@[simp] theorem isNon_non : Ex.isNon .non = true := rfl
@[simp] theorem isNon_int (i : Int) : Ex.isNon (.int i) = false := rfl
@[simp] theorem isNon_var (i : Nat) : Ex.isNon (.var i) = false := rfl
@[simp] theorem isNon_bin (o : Bop) (a b : Ex) : Ex.isNon (.bin o a b) = false := rfl
@[simp] theorem isNon_call (f : Fn) (es : Exs) : Ex.isNon (.call f es) = false := rfl
/-! names -/
def isLet (c : Nat) : Bool := decide (97 ≤ c ∧ c ≤ 122)
def isDig (c : Nat) : Bool := decide (48 ≤ c ∧ c ≤ 57)
def isAl (c : Nat) : Bool := isLet c || isDig c
abbrev sLet : List Nat := [97, 98, 99, 100, 101, 102, 103, 104, 105, 106, 107, 108, 109, 110, 111, 112, 113, 114, 115, 116, 117, 118, 119, 120, 121, 122]
abbrev sAl : List Nat := [97, 98, 99, 100, 101, 102, 103, 104, 105, 106, 107, 108, 109, 110, 111, 112, 113, 114, 115, 116, 117, 118, 119, 120, 121, 122, 48, 49, 50, 51, 52, 53, 54, 55, 56, 57]
theorem mem_let (c : Nat) : c ∈ sLet ↔ 97 ≤ c ∧ c ≤ 122 := by simp only [List.mem_cons, List.not_mem_nil, or_false]; omega
theorem mem_al (c : Nat) : c ∈ sAl ↔ (97 ≤ c ∧ c ≤ 122) ∨ (48 ≤ c ∧ c ≤ 57) := by simp only [List.mem_cons, List.not_mem_nil, or_false]; omega
@[simp] theorem occ_let (c : Nat) : occ [c] [97, 98, 99, 100, 101, 102, 103, 104, 105, 106, 107, 108, 109, 110, 111, 112, 113, 114, 115, 116, 117, 118, 119, 120, 121, 122] = isLet c := by
  rw [occ1, isLet]
  exact decide_eq_decide.mpr (mem_let c)
@[simp] theorem occ_al (c : Nat) : occ [c] [97, 98, 99, 100, 101, 102, 103, 104, 105, 106, 107, 108, 109, 110, 111, 112, 113, 114, 115, 116, 117, 118, 119, 120, 121, 122, 48, 49, 50, 51, 52, 53, 54, 55, 56, 57] = isAl c := by
  rw [occ1, isAl, isLet, isDig, ← Bool.decide_or]
  exact decide_eq_decide.mpr (mem_al c)
def isNm : List Nat → Bool
  | [] => false
  | c :: r => decide (r.length + 1 ≤ 8) && (isLet c && (c :: r).all isAl)
def okS (x : List Nat) : Bool := x.all fun c => decide (c < 0x110000)
theorem isAl_lt {c : Nat} (h : isAl c = true) : c < 0x110000 := by
  unfold isAl isLet isDig at h
  simp at h
  omega
theorem okS_al {x : List Nat} (h : x.all isAl = true) : okS x = true := by
  unfold okS
  rw [List.all_eq_true] at h ⊢
  exact fun c hc => decide_eq_true (isAl_lt (h c hc))
theorem isNm_all : ∀ {x : List Nat}, isNm x = true → x.all isAl = true ∧ x.length ≤ 8 ∧ 1 ≤ x.length
  | [], h => by cases h
  | c :: r, h => by
    obtain ⟨h1, h2⟩ := ba' h
    obtain ⟨h2, h3⟩ := ba' h2
    have := of_decide_eq_true h1
    exact ⟨h3, by simpa using this, by simp⟩
theorem isNm_ok {x : List Nat} (h : isNm x = true) : okS x = true := okS_al (isNm_all h).1
theorem okS_good {x : List Nat} (h : okS x = true) : D.good (.str x) = true := by
  unfold D.good
  simp only [D.pure, D.slim, Bool.true_and, Bool.and_true]
  exact h
theorem okS_app {x y : List Nat} (hx : okS x = true) (hy : okS y = true) : okS (x ++ y) = true := by
  unfold okS at *
  rw [List.all_append, hx, hy]
  rfl
theorem okS_take {x : List Nat} (k : Nat) (hx : okS x = true) : okS (x.take k) = true := by
  unfold okS at *
  rw [List.all_eq_true] at hx ⊢
  exact fun c hc => hx c (List.mem_of_mem_take hc)
theorem okS_drop {x : List Nat} (k : Nat) (hx : okS x = true) : okS (x.drop k) = true := by
  unfold okS at *
  rw [List.all_eq_true] at hx ⊢
  exact fun c hc => hx c (List.mem_of_mem_drop hc)
/-- a drawn sign of a text -/
theorem ix_sign {x : List Nat} {v : Int} (h1 : 0 ≤ v) (h2 : v < x.length) (hl : x.length ≤ lim) (s : St) : ∃ c ∈ x, ixF (.str x) (.int v) s = .ok (.str [c]) s := by
  have hi : v.toNat < x.length := by omega
  have hv : ((v.toNat : Nat) : Int) = v := by omega
  refine ⟨x[v.toNat], List.getElem_mem hi, ?_⟩
  refine ix_str _ ?_ hl
  have := atI_lit (List.getElem?_eq_getElem hi)
  rw [hv] at this
  exact this
@[simp] theorem items_str (x : List Nat) (s : St) : itemsF (.str x) s = some (x.map fun c => .str [c], none) := rfl
@[simp] theorem ix_head (c : Nat) (r : List Nat) (h : r.length + 1 ≤ lim) (s : St) : ixF (.str (c :: r)) (.int 0) s = .ok (.str [c]) s := ix_str s (atI_0 _ _) (by simpa using h)
/-- a walk that stops at a sign that does not suit -/
theorem all_loop {body : D → Env → St → RS} {xs : List D} {E : Option D → Env} {p : Nat → Bool} (hb : ∀ c o s, p c = true → body (.str [c]) (E o) s = .nx (E (some (.str [c]))) s) (hn : ∀ c o s, p c = false → body (.str [c]) (E o) s = .rt (.bl false) s) :
    ∀ (x : List Nat) (o : Option D) (s : St), (x.all p = true → ∃ o', forF (still xs none) body (x.map fun c => .str [c]) (E o) s = .nx (E o') s) ∧ (x.all p = false → forF (still xs none) body (x.map fun c => .str [c]) (E o) s = .rt (.bl false) s)
  | [], o, s => ⟨fun _ => ⟨o, forF_n rfl⟩, fun h => by cases h⟩
  | c :: x, o, s => by
    obtain ⟨i1, i2⟩ := all_loop hb hn x (some (.str [c])) s
    rw [List.map_cons, List.all_cons]
    cases h : p c with
    | true => rw [forF_c rfl (hb c o s h), Bool.true_and]; exact ⟨i1, i2⟩
    | false => rw [forF_r rfl (hn c o s h), Bool.false_and]; exact ⟨fun q => (by cases q), fun _ => rfl⟩
/-- a drawn text -/
def DrS (i : Nat) (s : St) (r : R D) (P : List Nat → Prop) : Prop := ∃ (t : List Nat) (s' : St), r = .ok (.str t) s' ∧ P t ∧ Dr i s s'
end Lt
/-! ### drawn names -/
namespace Lt
open PySem
section
variable (F : Nat)
theorem app_sign {n : List Nat} {c : Nat} (s : St) (h : n.length ≤ 100) : binF .add (.str n) (.str [c]) s = .ok (.str (n ++ [c])) s := bin_adds s (by simp [lim]; omega)
theorem name_loop (i k : Nat) (a2 a3 a6 : Option D) : ∀ (ds : List Int) (s : St) (n : List Nat) (e5 : Option D), At0 i s → n.all isAl = true → n.length + ds.length ≤ 50 →
    ∃ (s' : St) (n' : List Nat) (e5' : Option D), forF (still [] none) (bodyF (GF F) (callF (GF F) (k + 1)) (callF (GF F) k) (.nm 5) b_f__law_name_1) (dInts ds) [some (.obj i), some (.str sAl), a2, a3, some (.str n), e5, a6] s = .nx [some (.obj i), some (.str sAl), a2, a3, some (.str n'), e5', a6] s' ∧ (∃ r, n' = n ++ r ∧ r.length = ds.length ∧ r.all isAl = true) ∧ Dr i s s'
  | [], s, n, e5, h0, _, _ => ⟨s, n, e5, forF_n rfl, ⟨[], by simp, rfl, rfl⟩, Dr.refl h0⟩
  | d :: ds, s, n, e5, h0, hn, hl => by
    obtain ⟨v, s1, e1, v1, v2, d1⟩ := draw F k i 36 s (by decide) h0
    obtain ⟨c, hc, ec⟩ := ix_sign (x := sAl) v1 v2 (by decide) s1
    have ac : isAl c = true := by
      rw [← occ_al, occ1]
      exact decide_eq_true hc
    have hb : bodyF (GF F) (callF (GF F) (k + 1)) (callF (GF F) k) (.nm 5) b_f__law_name_1 (.int d) [some (.obj i), some (.str sAl), a2, a3, some (.str n), e5, a6] s = .nx [some (.obj i), some (.str sAl), a2, a3, some (.str (n ++ [c])), some (.int d), a6] s1 := by
      simp [bodyF, b_f__law_name_1, e1, ec, app_sign, show n.length ≤ 100 by omega]
    obtain ⟨s2, n2, e52, q1, ⟨r, hr, hrl, hra⟩, q3⟩ := name_loop i k a2 a3 a6 ds s1 (n ++ [c]) (some (.int d)) d1.at_ (by rw [List.all_append, hn]; simp [ac]) (by simp at hl ⊢; omega)
    refine ⟨s2, n2, e52, ?_, ⟨c :: r, by rw [hr]; simp, by simp [hrl], by rw [List.all_cons, ac, hra]; rfl⟩, d1.trans q3⟩
    show forF _ _ (D.int d :: dInts ds) _ _ = _
    rw [forF_c rfl hb]
    exact q1
theorem all_rep (n : Nat) : (List.replicate n 97).all isAl = true := by
  rw [List.all_eq_true]
  intro c hc
  rw [(List.mem_replicate.mp hc).2]
  rfl
theorem isNm_mid (a b c : Nat) (h : isLet c = true) (hl : a + b + 1 ≤ 8) : isNm (List.replicate a 97 ++ [c] ++ List.replicate b 97) = true := by
  have al : isAl c = true := by unfold isAl; rw [h]; rfl
  cases a with
  | zero =>
    show (decide ((List.replicate b 97).length + 1 ≤ 8) && (isLet c && (c :: List.replicate b 97).all isAl)) = true
    rw [List.all_cons, al, all_rep, h]
    simp
    omega
  | succ a =>
    have e : List.replicate (a + 1) 97 ++ [c] ++ List.replicate b 97 = 97 :: (List.replicate a 97 ++ [c] ++ List.replicate b 97) := rfl
    rw [e]
    show (decide ((List.replicate a 97 ++ [c] ++ List.replicate b 97).length + 1 ≤ 8) && (isLet 97 && (97 :: (List.replicate a 97 ++ [c] ++ List.replicate b 97)).all isAl)) = true
    have e2 : (97 :: (List.replicate a 97 ++ [c] ++ List.replicate b 97)).all isAl = true := by
      rw [List.all_cons, List.all_append, List.all_append, all_rep, all_rep]
      simp [al]
      rfl
    rw [e2]
    have e3 : isLet 97 = true := rfl
    rw [e3]
    simp
    omega
theorem name (i k : Nat) (s : St) (hk : 0 < k) (h0 : At0 i s) : DrS i s (callF (GF F) (k + 1) .f__law_name [.obj i] s) fun x => isNm x = true := by
  obtain ⟨k, rfl⟩ : ∃ j, k = j + 1 := ⟨k - 1, by omega⟩
  obtain ⟨v, s1, e1, v1, v2, d1⟩ := draw F k i 4 s (by decide) h0
  by_cases hv : v < 2
  · obtain ⟨w, s2, e2, w1, w2, d2⟩ := draw F k i 4 s1 (by decide) d1.at_
    obtain ⟨c, hc, ec⟩ := ix_sign (x := [112, 113, 114, 115]) w1 w2 (by decide) s2
    refine ⟨[c], s2, ?_, ?_, d1.trans d2⟩
    · rw [r_f__law_name]
      simp [b_f__law_name, e1, hv, e2, ec]
    · have : c = 112 ∨ c = 113 ∨ c = 114 ∨ c = 115 := by simpa using hc
      rcases this with rfl | rfl | rfl | rfl <;> rfl
  · obtain ⟨z, s2, e2, z1, z2, d2⟩ := draw F k i 8 s1 (by decide) d1.at_
    by_cases h2 : v = 2
    · subst h2
      obtain ⟨w, s3, e3, w1, w2, d3⟩ := draw F k i 26 s2 (by decide) d2.at_
      obtain ⟨c, hc, ec⟩ : ∃ c, isLet c = true ∧ ixF (.str sAl) (.int w) s3 = .ok (.str [c]) s3 := by
        have hi : w.toNat < sAl.length := by show w.toNat < 36; omega
        refine ⟨sAl[w.toNat], ?_, ?_⟩
        · have hi2 : w.toNat < 26 := by omega
          generalize w.toNat = n at *
          revert n
          decide
        · refine ix_str _ ?_ (by decide)
          have := atI_lit (List.getElem?_eq_getElem hi)
          rw [show ((w.toNat : Nat) : Int) = w by omega] at this
          exact this
      obtain ⟨ds, er, el⟩ := rngF_ints z.toNat
      rw [show ((z.toNat : Nat) : Int) = z by omega] at er
      have al : isAl c = true := by unfold isAl; rw [hc]; rfl
      obtain ⟨s4, n', e5, q1, ⟨r, hr, hrl, hra⟩, q3⟩ := name_loop F i k (some (.int 2)) (some (.int (1 + z))) none ds s3 [c] none d3.at_ (by simp [al]) (by simp; omega)
      refine ⟨n', s4, ?_, ?_, d1.trans (d2.trans (d3.trans q3))⟩
      · have hI : evI (GF F) (callF (GF F) (k + 1)) (callF (GF F) k) none (.rng (.bin .sub (.var 3) (.int 1))) [some (.obj i), some (.str sAl), some (.int 2), some (.int (1 + z)), some (.str [c]), none, none] s3 = .ok (dInts ds, none) s3 := by
          rw [← er]
          exact evI_rng (by simp; omega) (by omega) (by omega)
        have st : still [] none = still (dInts ds) none := rfl
        rw [st] at q1
        rw [r_f__law_name]
        simp [b_f__law_name, e1, e2, e3, ec, hI, q1]
      · rw [hr]
        show (decide (r.length + 1 ≤ 8) && (isLet c && (c :: r).all isAl)) = true
        rw [List.all_cons, al, hra, hc]
        simp
        omega
    · obtain ⟨w, s3, e3, w1, w2, d3⟩ := draw F k i (1 + z) s2 (by omega) d2.at_
      obtain ⟨u, s4, e4, u1, u2, d4⟩ := draw F k i 26 s3 (by decide) d3.at_
      obtain ⟨c, hc, ec⟩ : ∃ c, isLet c = true ∧ ixF (.str sAl) (.int u) s4 = .ok (.str [c]) s4 := by
        have hi : u.toNat < sAl.length := by show u.toNat < 36; omega
        refine ⟨sAl[u.toNat], ?_, ?_⟩
        · have hi2 : u.toNat < 26 := by omega
          generalize u.toNat = n at *
          revert n
          decide
        · refine ix_str _ ?_ (by decide)
          have := atI_lit (List.getElem?_eq_getElem hi)
          rw [show ((u.toNat : Nat) : Int) = u by omega] at this
          exact this
      refine ⟨List.replicate w.toNat 97 ++ [c] ++ List.replicate (1 + z - w - 1).toNat 97, s4, ?_, isNm_mid _ _ _ hc (by omega), d1.trans (d2.trans (d3.trans d4))⟩
      have m1 := fun s => bin_mul1 (c := 97) (j := w) (s := s) w1 (by omega)
      have m2 := fun s => bin_mul1 (c := 97) (j := 1 + z - w - 1) (s := s) (by omega) (by omega)
      have a1 := app_sign (n := List.replicate w.toNat 97) (c := c) s4 (by simp; omega)
      have a2 := bin_adds (x := List.replicate w.toNat 97 ++ [c]) (y := List.replicate (1 + z - w - 1).toNat 97) s4 (by simp [lim]; omega)
      generalize (1 + z - w - 1).toNat = N at m2 a2 ⊢
      generalize w.toNat = M at m1 a1 a2 ⊢
      rw [r_f__law_name]
      simp [b_f__law_name, e1, hv, e2, h2, e3, m1, e4, ec, a1, m2, a2]
end
end Lt
/-! ### names of labels -/
namespace Lt
open PySem
section
variable (F : Nat)
theorem consists_ok (k : Nat) (x : List Nat) (s : St) : callF (GF F) (k + 1) .f_consists_of [.str x, .str sAl] s = .ok (.bl (x.all isAl)) s := by
  obtain ⟨i1, i2⟩ := all_loop (body := bodyF (GF F) (callF (GF F) k) (callF (GF F) (k - 1)) (.nm 2) b_f_consists_of_1) (xs := x.map fun c => .str [c]) (E := fun o => [some (.str x), some (.str sAl), o]) (p := isAl)
    (fun c o s h => by simp [bodyF, b_f_consists_of_1, h]) (fun c o s h => by simp [bodyF, b_f_consists_of_1, h]) x none s
  rw [r_f_consists_of]
  cases h : x.all isAl with
  | true =>
    obtain ⟨o', q⟩ := i1 h
    simp [b_f_consists_of, q]
  | false => simp [b_f_consists_of, i2 h]
theorem is_label_name_ok (k : Nat) (x : List Nat) (s : St) (hl : x.length ≤ 1000) : callF (GF F) (k + 2) .f_is_label_name [.str x] s = .ok (.bl (isNm x)) s := by
  have hl' : x.length ≤ lim := by unfold lim; omega
  rw [r_f_is_label_name]
  cases x with
  | nil =>
    have ln : ∀ s, biF (GF F) .len [.str []] s = .ok (.int 0) s := fun s => bi_len_s _ s (by decide)
    simp [b_f_is_label_name, ln, isNm]
  | cons c r =>
    have e := consists_ok F k (c :: r) s
    have hr : r.length + 1 ≤ lim := by simpa using hl'
    have ad : ∀ s, binF .add (.str sLet) (.str [48, 49, 50, 51, 52, 53, 54, 55, 56, 57]) s = .ok (.str sAl) s := fun s => bin_adds s (by decide)
    have ln : ∀ s, biF (GF F) .len [.str (c :: r)] s = .ok (.int ((r.length + 1 : Nat) : Int)) s := fun s => bi_len_s _ s hl'
    have hp : (1 : Int) ≤ ((r.length + 1 : Nat) : Int) := by omega
    by_cases h8 : r.length + 1 ≤ 8
    · have h8' : ((r.length + 1 : Nat) : Int) ≤ 8 := by omega
      generalize ((r.length + 1 : Nat) : Int) = z at *
      cases hc : isLet c <;> simp [b_f_is_label_name, ln, hp, h8', ix_head, hr, hc, isNm, ad, e, h8]
    · have h8' : ¬ ((r.length + 1 : Nat) : Int) ≤ 8 := by omega
      generalize ((r.length + 1 : Nat) : Int) = z at *
      simp [b_f_is_label_name, ln, hp, h8', isNm, h8]
/-- a label's text without its sign -/
def rpT (x : List Nat) : List Nat := if x.head? = some 126 then x.drop 1 else x
theorem rpT_len (x : List Nat) : (rpT x).length ≤ x.length := by unfold rpT; split <;> simp
theorem bm_rpT {x : List Nat} (h : x.length ≤ lim) (s : St) : bmF .removeprefix (.str x) [.str [126]] s = .ok (.str (rpT x)) s := by
  rw [bm_rp s h, rp1]
  rfl
theorem is_label_ok (k : Nat) (x : List Nat) (s : St) (hl : x.length ≤ 1000) : callF (GF F) (k + 3) .f_is_label [.str x] s = .ok (.bl (isNm (rpT x))) s := by
  have e := is_label_name_ok F k (rpT x) s (Nat.le_trans (rpT_len x) hl)
  rw [r_f_is_label]
  simp [b_f_is_label, bm_rpT (x := x) (by unfold lim; omega), e]
abbrev lOb (x : List Nat) (b : Bool) : Ob := .ins .Label [(.a_name, .str x), (.a_positive, .bl b)]
theorem set_last (s : St) (a o : Ob) : (s ++ [a]).set s.length o = s ++ [o] := by simp
theorem l_init (k : Nat) (x : List Nat) (b : Bool) (s : St) (hl : x.length ≤ 1000) : callF (GF F) (k + 3) .m_Label_init [.obj s.length, .str x, .bl b] (s ++ [.ins .Label []]) = if isNm x = true then .ok .non (s ++ [lOb x b]) else .err ⟨.BadText, []⟩ (s ++ [.ins .Label []]) := by
  have e := is_label_name_ok F k x (s ++ [.ins .Label []]) hl
  rw [r_m_Label_init]
  cases h : isNm x <;> rw [h] at e <;> simp [b_m_Label_init, e, oneStr, putF]
theorem mk_Label (k : Nat) (x : List Nat) (b : Bool) (s : St) (hl : x.length ≤ 1000) : mkF (GF F) (callF (GF F) (k + 3)) .Label [.str x, .bl b] s = if isNm x = true then .ok (.obj s.length) (s ++ [lOb x b]) else .err ⟨.BadText, []⟩ (s ++ [.ins .Label []]) := by
  have e := l_init F k x b s hl
  rw [mk_eq _ _ _ _ _ rfl]
  cases h : isNm x <;> rw [h] at e <;> simp [e]
theorem l_init1 (k : Nat) (x : List Nat) (s : St) (hl : x.length ≤ 1000) : callF (GF F) (k + 3) .m_Label_init [.obj s.length, .str x] (s ++ [.ins .Label []]) = if isNm x = true then .ok .non (s ++ [lOb x true]) else .err ⟨.BadText, []⟩ (s ++ [.ins .Label []]) := by
  have e := is_label_name_ok F k x (s ++ [.ins .Label []]) hl
  rw [r1_m_Label_init]
  cases h : isNm x <;> rw [h] at e <;> simp [b_m_Label_init, e, oneStr, putF]
theorem mk_Label1 (k : Nat) (x : List Nat) (s : St) (hl : x.length ≤ 1000) : mkF (GF F) (callF (GF F) (k + 3)) .Label [.str x] s = if isNm x = true then .ok (.obj s.length) (s ++ [lOb x true]) else .err ⟨.BadText, []⟩ (s ++ [.ins .Label []]) := by
  have e := l_init1 F k x s hl
  rw [mk_eq _ _ _ _ _ rfl]
  cases h : isNm x <;> rw [h] at e <;> simp [e]
theorem l_read (k : Nat) (x : List Nat) (s : St) (hl : x.length ≤ 1000) : callF (GF F) (k + 5) .m_Label_read [.cls .Label, .str x] s = if isNm (rpT x) = true then .ok (.obj s.length) (s ++ [lOb (rpT x) (!decide (x.head? = some 126))]) else .err ⟨.BadText, []⟩ s := by
  have e := is_label_ok F (k + 1) x s hl
  have m := mk_Label F k (rpT x) (!decide (x.head? = some 126)) s (Nat.le_trans (rpT_len x) hl)
  rw [r_m_Label_read]
  cases h : isNm (rpT x) with
  | false =>
    rw [h] at e
    simp [b_m_Label_read, e, oneStr]
  | true =>
    rw [h] at e m
    simp [b_m_Label_read, e, bm_rpT (x := x) (by unfold lim; omega), sw1]
    rw [m]
    rfl
/-- the text of a label -/
def lTx (x : List Nat) (b : Bool) : List Nat := if b = true then x else 126 :: x
theorem l_text (k o : Nat) (x : List Nat) (b : Bool) (s : St) (hl : x.length ≤ 1000) (ho : s[o]? = some (lOb x b)) : callF (GF F) (k + 1) .m_Label_text [.obj o] s = .ok (.str (lTx x b)) s := by
  have h1 : x.length ≤ lim := by unfold lim; omega
  rw [r_m_Label_text]
  cases b
  · have f1 := fmtF_str (x := [126]) (by decide)
    have f2 := fmtF_str (x := x) h1
    have hL : lim = 1000000 := rfl
    have h3 : 1 + x.length ≤ lim := by omega
    simp [b_m_Label_text, ho, f1, f2, fsK, lTx, h3, show 1 ≤ lim by omega, show x.length + 1 ≤ lim by omega]
  · simp [b_m_Label_text, ho, lTx]
end
end Lt
/-! ### the law -/
namespace Lt
open PySem
section
variable (F : Nat)
abbrev sSg : List Nat := [32, 33, 34, 35, 36, 38, 39, 40, 41, 42, 43, 44, 45, 46, 47, 48, 49, 50, 51, 52, 53, 54, 55, 56, 57, 58, 59, 60, 61, 62, 63, 64, 65, 66, 67, 68, 69, 70, 71, 72, 73, 74, 75, 76, 77, 78, 79, 80, 81, 82, 83, 84, 85, 86, 87, 88, 89, 90, 91, 92, 93, 94, 95, 96, 97, 98, 99, 100, 101, 102, 103, 104, 105, 106, 107, 108, 109, 110, 111, 112, 113, 114, 115, 116, 117, 118, 119, 120, 121, 122, 123, 124, 125, 126]
theorem sign (i k : Nat) (s : St) (h0 : At0 i s) : DrS i s (callF (GF F) (k + 2) .f__law_sign [.obj i] s) fun x => ∃ c, x = [c] ∧ c < 127 := by
  obtain ⟨v, s1, e1, v1, v2, d1⟩ := draw F k i 94 s (by decide) h0
  obtain ⟨c, hc, ec⟩ := ix_sign (x := sSg) v1 v2 (by decide) s1
  refine ⟨[c], s1, ?_, ⟨c, rfl, ?_⟩, d1⟩
  · have ad : ∀ s, binF .add (.str [32, 33, 34, 35, 36, 38, 39, 40, 41, 42, 43, 44, 45, 46, 47, 48, 49, 50, 51, 52, 53, 54, 55, 56, 57, 58, 59, 60, 61, 62, 63, 64, 65, 66, 67, 68, 69, 70, 71, 72, 73, 74, 75, 76, 77, 78, 79, 80, 81, 82, 83, 84, 85, 86, 87, 88, 89, 90, 91, 92, 93, 94, 95, 96]) (.str [97, 98, 99, 100, 101, 102, 103, 104, 105, 106, 107, 108, 109, 110, 111, 112, 113, 114, 115, 116, 117, 118, 119, 120, 121, 122, 123, 124, 125, 126]) s = .ok (.str sSg) s := fun s => bin_adds s (by decide)
    rw [r_f__law_sign]
    simp [b_f__law_sign, ad, e1, ec]
  · have h : ∀ c ∈ sSg, c < 127 := by decide
    exact h c hc
theorem str_loop (i k : Nat) (way : Int) (a4 : Option D) : ∀ (ds : List Int) (s : St) (n : List Nat) (e3 : Option D), At0 i s → okS n = true → n.length + ds.length ≤ 50 →
    ∃ (s' : St) (n' : List Nat) (e3' : Option D), forF (still [] none) (bodyF (GF F) (callF (GF F) (k + 1)) (callF (GF F) k) (.nm 3) b_f__law_string_1) (dInts ds) [some (.obj i), some (.int way), some (.str n), e3, a4] s = .nx [some (.obj i), some (.int way), some (.str n'), e3', a4] s' ∧ okS n' = true ∧ n'.length = n.length + ds.length ∧ Dr i s s'
  | [], s, n, e3, h0, hn, _ => ⟨s, n, e3, forF_n rfl, hn, rfl, Dr.refl h0⟩
  | d :: ds, s, n, e3, h0, hn, hl => by
    have key : ∃ c s1, c < 0x110000 ∧ Dr i s s1 ∧ bodyF (GF F) (callF (GF F) (k + 1)) (callF (GF F) k) (.nm 3) b_f__law_string_1 (.int d) [some (.obj i), some (.int way), some (.str n), e3, a4] s = .nx [some (.obj i), some (.int way), some (.str (n ++ [c])), some (.int d), a4] s1 := by
      by_cases hw : way = 0
      · obtain ⟨v, s1, e1, v1, v2, d1⟩ := draw F k i 36 s (by decide) h0
        obtain ⟨c, hc, ec⟩ := ix_sign (x := sAl) v1 v2 (by decide) s1
        have hb : ∀ c ∈ sAl, c < 0x110000 := by decide
        exact ⟨c, s1, hb c hc, d1, by simp [bodyF, b_f__law_string_1, hw, e1, ec, app_sign, show n.length ≤ 100 by omega]⟩
      · obtain ⟨v, s1, e1, v1, v2, d1⟩ := draw F k i 10 s (by decide) h0
        obtain ⟨c, hc, ec⟩ := ix_sign (x := [97, 49, 126, 32, 45, 65, 95, 46, 90, 122]) v1 v2 (by decide) s1
        have hb : ∀ c ∈ [97, 49, 126, 32, 45, 65, 95, 46, 90, 122], c < 0x110000 := by decide
        exact ⟨c, s1, hb c hc, d1, by simp [bodyF, b_f__law_string_1, hw, e1, ec, app_sign, show n.length ≤ 100 by omega]⟩
    obtain ⟨c, s1, hc, d1, hb⟩ := key
    obtain ⟨s2, n2, e32, q1, q2, q3, q4⟩ := str_loop i k way a4 ds s1 (n ++ [c]) (some (.int d)) d1.at_ (okS_app hn (by simp only [okS, List.all_cons, List.all_nil, decide_eq_true hc]; rfl)) (by simp at hl ⊢; omega)
    refine ⟨s2, n2, e32, ?_, q2, by simp at q3 ⊢; omega, d1.trans q4⟩
    show forF _ _ (D.int d :: dInts ds) _ _ = _
    rw [forF_c rfl hb]
    exact q1
theorem okS1 {c : Nat} (h : c < 127) : okS [c] = true := by
  simp only [okS, List.all_cons, List.all_nil, decide_eq_true (show c < 0x110000 by omega)]
  rfl
theorem okS_rep (n : Nat) : okS (List.replicate n 126) = true := by
  unfold okS
  rw [List.all_eq_true]
  intro c hc
  rw [(List.mem_replicate.mp hc).2]
  rfl
theorem string (i k : Nat) (s : St) (hk : 3 < k) (h0 : At0 i s) : DrS i s (callF (GF F) (k + 1) .f__law_string [.obj i] s) fun x => okS x = true ∧ x.length ≤ 30 := by
  obtain ⟨k, rfl⟩ : ∃ j, k = j + 3 := ⟨k - 3, by omega⟩
  obtain ⟨v, s1, e1, v1, v2, d1⟩ := draw F (k + 2) i 6 s (by decide) h0
  have hL : lim = 1000000 := rfl
  by_cases hv : v < 2
  · obtain ⟨z, s2, e2, z1, z2, d2⟩ := draw F (k + 2) i 11 s1 (by decide) d1.at_
    obtain ⟨ds, er, el⟩ := rngF_ints z.toNat
    rw [show ((z.toNat : Nat) : Int) = z by omega] at er
    obtain ⟨s3, n', e3, q1, q2, q3, q4⟩ := str_loop F i (k + 2) v none ds s2 [] none d2.at_ rfl (by simp; omega)
    refine ⟨n', s3, ?_, ⟨q2, by simp at q3; omega⟩, d1.trans (d2.trans q4)⟩
    have hI : evI (GF F) (callF (GF F) (k + 3)) (callF (GF F) (k + 2)) none (.rng (.call .f__law_draw (.cons (.var 0) (.cons (.int 11) .nil)))) [some (.obj i), some (.int v), some (.str []), none, none] s1 = .ok (dInts ds, none) s2 := by
      rw [← er]
      exact evI_rng (by simp [e2]) (by omega) (by omega)
    have st : still [] none = still (dInts ds) none := rfl
    rw [st] at q1
    rw [r_f__law_string]
    simp [b_f__law_string, e1, hv, hI, q1]
  · obtain ⟨x, s2, e2, hx, d2⟩ := name F i (k + 2) s1 (by omega) d1.at_
    obtain ⟨_, x8, x1⟩ := isNm_all hx
    have ox := isNm_ok hx
    have ln : ∀ s, biF (GF F) .len [.str x] s = .ok (.int (x.length : Int)) s := fun s => bi_len_s _ s (by omega)
    obtain ⟨z, s3, e3, z1, z2, d3⟩ := draw F (k + 2) i ((x.length : Int) + 1) s2 (by omega) d2.at_
    have hz : z = ((z.toNat : Nat) : Int) := by omega
    have t1 := fun s => sl_to (x := x) (by omega) z.toNat hz s
    have t2 := fun s => sl_from (x := x) (by omega) z.toNat hz s
    have t3 := fun s => sl_from (x := x) (by omega) (z.toNat + 1) (z := z + 1) (by omega) s
    have l1 : (x.take z.toNat).length ≤ 8 := by simp; omega
    have l2 : (x.drop z.toNat).length ≤ 8 := by simp; omega
    have l3 : (x.drop (z.toNat + 1)).length ≤ 8 := by simp; omega
    have o1 := okS_take z.toNat ox
    have o2 := okS_drop z.toNat ox
    have o3 := okS_drop (z.toNat + 1) ox
    generalize x.take z.toNat = A at *
    generalize x.drop z.toNat = B at *
    generalize x.drop (z.toNat + 1) = C at *
    generalize (x.length : Int) = L at *
    have hw : v = 2 ∨ v = 3 ∨ v = 4 ∨ v = 5 := by omega
    rcases hw with rfl | rfl | rfl | rfl
    · obtain ⟨y, s4, e4, ⟨c, rfl, hc⟩, d4⟩ := sign F i (k + 1) s3 d3.at_
      have a1 := bin_adds (x := A) (y := [c]) s4 (by simp; omega)
      have a2 := bin_adds (x := A ++ [c]) (y := C) s4 (by simp; omega)
      refine ⟨A ++ [c] ++ C, s4, ?_, ⟨okS_app (okS_app o1 (okS1 hc)) o3, by simp; omega⟩, d1.trans (d2.trans (d3.trans d4))⟩
      rw [r_f__law_string]
      simp [b_f__law_string, e1, e2, ln, e3, t1, e4, a1, t3, a2]
    · obtain ⟨y, s4, e4, ⟨c, rfl, hc⟩, d4⟩ := sign F i (k + 1) s3 d3.at_
      have a1 := bin_adds (x := A) (y := [c]) s4 (by simp; omega)
      have a2 := bin_adds (x := A ++ [c]) (y := B) s4 (by simp; omega)
      refine ⟨A ++ [c] ++ B, s4, ?_, ⟨okS_app (okS_app o1 (okS1 hc)) o2, by simp; omega⟩, d1.trans (d2.trans (d3.trans d4))⟩
      rw [r_f__law_string]
      simp [b_f__law_string, e1, e2, ln, e3, t1, e4, a1, t2, a2]
    · obtain ⟨w, s4, e4, w1, w2, d4⟩ := draw F (k + 2) i 3 s3 (by decide) d3.at_
      have m := bin_mul1 (c := 126) (j := 1 + w) (s := s4) (by omega) (by omega)
      have hN : (List.replicate (1 + w).toNat 126).length ≤ 3 := by simp; omega
      have oN := okS_rep (1 + w).toNat
      generalize List.replicate (1 + w).toNat 126 = N at *
      have a1 := bin_adds (x := N) (y := x) s4 (by omega)
      refine ⟨N ++ x, s4, ?_, ⟨okS_app oN ox, by simp; omega⟩, d1.trans (d2.trans (d3.trans d4))⟩
      rw [r_f__law_string]
      simp [b_f__law_string, e1, e2, ln, e3, e4, m, a1]
    · obtain ⟨w, s4, e4, w1, w2, d4⟩ := draw F (k + 2) i 4 s3 (by decide) d3.at_
      have a1 := bin_adds (x := x) (y := [122, 48, 121, 49, 120, 50, 119, 51, 118, 52]) s3 (by simp; omega)
      have t4 := sl_to (x := x ++ [122, 48, 121, 49, 120, 50, 119, 51, 118, 52]) (by simp; omega) (7 + w).toNat (z := 7 + w) (by omega) s4
      have o4 : okS ((x ++ [122, 48, 121, 49, 120, 50, 119, 51, 118, 52]).take (7 + w).toNat) = true := okS_take _ (okS_app ox (by decide))
      have l4 : ((x ++ [122, 48, 121, 49, 120, 50, 119, 51, 118, 52]).take (7 + w).toNat).length ≤ 30 := by simp; omega
      generalize (x ++ [122, 48, 121, 49, 120, 50, 119, 51, 118, 52]).take (7 + w).toNat = N at *
      generalize x ++ [122, 48, 121, 49, 120, 50, 119, 51, 118, 52] = M at *
      refine ⟨N, s4, ?_, ⟨o4, l4⟩, d1.trans (d2.trans (d3.trans d4))⟩
      rw [r_f__law_string]
      simp [b_f__law_string, e1, e2, ln, e3, a1, e4, t4]
theorem lname_ok (k : Nat) (x : List Nat) (s : St) (hl : x.length ≤ 1000) : callF (GF F) (k + 1) .f__law_is_name [.str x] s = .ok (.bl (isNm x)) s := by
  have hl' : x.length ≤ lim := by unfold lim; omega
  rw [r_f__law_is_name]
  cases x with
  | nil =>
    have ln : ∀ s, biF (GF F) .len [.str []] s = .ok (.int 0) s := fun s => bi_len_s _ s (by decide)
    simp [b_f__law_is_name, ln, isNm]
  | cons c r =>
    have hr : r.length + 1 ≤ lim := by simpa using hl'
    have ln : ∀ s, biF (GF F) .len [.str (c :: r)] s = .ok (.int ((r.length + 1 : Nat) : Int)) s := fun s => bi_len_s _ s hl'
    have hp : ¬ ((r.length + 1 : Nat) : Int) < 1 := by omega
    obtain ⟨i1, i2⟩ := all_loop (body := bodyF (GF F) (callF (GF F) k) (callF (GF F) (k - 1)) (.nm 1) b_f__law_is_name_1) (xs := (c :: r).map fun c => .str [c]) (E := fun o => [some (.str (c :: r)), o]) (p := isAl)
      (fun c o s h => by simp [bodyF, b_f__law_is_name_1, h]) (fun c o s h => by simp [bodyF, b_f__law_is_name_1, h]) (c :: r) none s
    by_cases h8 : r.length + 1 ≤ 8
    · have h8' : ¬ 8 < ((r.length + 1 : Nat) : Int) := by omega
      generalize ((r.length + 1 : Nat) : Int) = z at *
      cases hc : isLet c with
      | false => simp [b_f__law_is_name, ln, hp, h8', ix_head, hr, hc, isNm]
      | true =>
        rw [List.map_cons] at i1 i2
        cases ha : (c :: r).all isAl with
        | true =>
          obtain ⟨o', q⟩ := i1 ha
          have : isNm (c :: r) = true := by simp only [isNm, ha, hc, decide_eq_true h8]; rfl
          rw [this]
          simp [b_f__law_is_name, ln, hp, h8', ix_head, hr, hc, q]
        | false =>
          have q := i2 ha
          have : isNm (c :: r) = false := by simp only [isNm, ha, hc, Bool.and_false]
          rw [this]
          simp [b_f__law_is_name, ln, hp, h8', ix_head, hr, hc, q]
    · have h8' : 8 < ((r.length + 1 : Nat) : Int) := by omega
      generalize ((r.length + 1 : Nat) : Int) = z at *
      simp [b_f__law_is_name, ln, hp, h8', isNm, h8]
end
end Lt
namespace Lt
open PySem
section
variable (F : Nat)
theorem l_str (k o : Nat) (x : List Nat) (b : Bool) (s : St) (hl : x.length ≤ 1000) (ho : s[o]? = some (lOb x b)) : callF (GF F) (k + 3) .m_Label_str [.obj o] s = .ok (.str (lTx x b)) s := by
  have e := l_text F k o x b s hl ho
  have h0 : (lTx x b).length ≤ x.length + 1 := by unfold lTx; split <;> simp
  have hL : lim = 1000000 := rfl
  have h1 : (lTx x b).length ≤ lim := by omega
  have f1 := fmtF_str (x := lTx x b) h1
  rw [r_m_Label_str]
  simp [b_m_Label_str, ho, e, f1, fsK, h1]
abbrev sLab : List Nat := [108, 97, 98, 101, 108]
abbrev sRef : List Nat := [114, 101, 102, 117, 115, 101, 100]
def labD (x : List Nat) (b : Bool) : D := .tup [.str [108, 97, 98, 101, 108], .str x, .bl b, .str (lTx x b), .str (lTx x b)]
def refD : D := .tup [.str [114, 101, 102, 117, 115, 101, 100], .bl true]
theorem labD_good {x : List Nat} {b : Bool} (h : okS x = true) : D.good (labD x b) = true := by
  have h2 : okS (lTx x b) = true := by
    unfold lTx
    split
    · exact h
    · exact okS_app (x := [126]) rfl h
  have e1 : D.ok (labD x b) = true := by
    simp only [labD, D.ok, D.oks]
    rw [show (x.all fun c => decide (c < 0x110000)) = true from h, show ((lTx x b).all fun c => decide (c < 0x110000)) = true from h2]
    rfl
  unfold D.good
  rw [e1]
  rfl
theorem labD_beq (x : List Nat) (b : Bool) : D.beq (labD x b) (labD x b) = true := by simp [labD, D.beq, D.beqs]
theorem same_lab (k : Nat) (x : List Nat) (b : Bool) (s : St) (h : okS x = true) : callF (GF F) (k + 2) .f__law_same [labD x b, labD x b] s = .ok (.bl true) s := by
  rw [same_ok F (k + 2) _ _ s (labD_good h) (labD_good h) (by show 0 + 1 < _; omega), labD_beq]
theorem same_ref (k : Nat) (s : St) : callF (GF F) (k + 2) .f__law_same [refD, refD] s = .ok (.bl true) s := by
  rw [same_ok F (k + 2) _ _ s rfl rfl (by show 0 + 1 < _; omega)]
  rfl
theorem told_end (k o : Nat) (x : List Nat) (b : Bool) (s : St) (a0 a1 a3 a4 : Option D) (hl : x.length ≤ 1000) (ho : s[o]? = some (lOb x b)) :
    evSs (GF F) (callF (GF F) (k + 5)) (callF (GF F) (k + 4)) none (.cons (.ite (.not (.bi .isinstance (.cons (.var 2) (.cons (.gcls .Label) .nil)))) (.cons (.ret (.tup (.cons (.str [111, 100, 100]) .nil)))
    .nil) .nil)
    (.cons (.ret (.tup (.cons (.str [108, 97, 98, 101, 108]) (.cons (.att (.var 2) .a_name) (.cons (.att (.var 2) .a_positive) (.cons (.att (.var 2) .a_text) (.cons (.bi .str (.cons (.var 2) .nil)) .nil)))))))
    .nil)) [a0, a1, some (.obj o), a3, a4] s = .rt (labD x b) s := by
  have e1 := l_text F (k + 3) o x b s hl ho
  have e2 := l_str F (k + 1) o x b s hl ho
  simp [ho, e1, e2, labD]
theorem told_0 (k : Nat) (x : List Nat) (s : St) (hl : x.length ≤ 1000) : ∃ s', callF (GF F) (k + 6) .f__law_told [.str x, .int 0] s = .ok (if isNm x = true then labD x true else refD) s' ∧ Kept s s' := by
  have m := mk_Label1 F (k + 1) x s hl
  cases h : isNm x with
  | true =>
    rw [h] at m
    simp only [if_true] at m
    have te := told_end F k s.length x true (s ++ [lOb x true]) (some (.str x)) (some (.int 0)) none none hl (by simp)
    refine ⟨s ++ [lOb x true], ?_, Kept.more _⟩
    simp only [Q_cons] at te
    rw [r_f__law_told]
    simp only [b_f__law_told, Q_cons, S_tri]
    simp [m] at te ⊢
    rw [te]
    rfl
  | false =>
    rw [h] at m
    simp only [Bool.false_eq_true, if_false] at m
    have hd : ∀ C C1 e4, evSs (GF F) C C1 (some ⟨.BadText, []⟩) b_f__law_told_1 [some (.str x), some (.int 0), none, none, e4] (s ++ [.ins .Label []]) = .rt refD (s ++ [.ins .Label []]) := fun C C1 e4 => rfl
    refine ⟨s ++ [.ins .Label []], ?_, Kept.more _⟩
    rw [r_f__law_told]
    simp [b_f__law_told, m, hd]
theorem told_1 (k : Nat) (x : List Nat) (s : St) (hl : x.length ≤ 1000) : ∃ s', callF (GF F) (k + 6) .f__law_told [.str x, .int 1] s = .ok (if isNm x = true then labD x false else refD) s' ∧ Kept s s' := by
  have m := mk_Label F (k + 1) x false s hl
  cases h : isNm x with
  | true =>
    rw [h] at m
    simp only [if_true] at m
    have te := told_end F k s.length x false (s ++ [lOb x false]) (some (.str x)) (some (.int 1)) none none hl (by simp)
    refine ⟨s ++ [lOb x false], ?_, Kept.more _⟩
    simp only [Q_cons] at te
    rw [r_f__law_told]
    simp only [b_f__law_told, Q_cons, S_tri]
    simp [m] at te ⊢
    rw [te]
    rfl
  | false =>
    rw [h] at m
    simp only [Bool.false_eq_true, if_false] at m
    have hd : ∀ C C1 e4, evSs (GF F) C C1 (some ⟨.BadText, []⟩) b_f__law_told_1 [some (.str x), some (.int 1), none, none, e4] (s ++ [.ins .Label []]) = .rt refD (s ++ [.ins .Label []]) := fun C C1 e4 => rfl
    refine ⟨s ++ [.ins .Label []], ?_, Kept.more _⟩
    rw [r_f__law_told]
    simp [b_f__law_told, m, hd]
theorem told_2 (k : Nat) (x : List Nat) (s : St) (hl : x.length ≤ 1000) : ∃ s', callF (GF F) (k + 6) .f__law_told [.str x, .int 2] s = .ok (if isNm (rpT x) = true then labD (rpT x) (!decide (x.head? = some 126)) else refD) s' ∧ Kept s s' := by
  have m := l_read F k x s hl
  have hl2 := Nat.le_trans (rpT_len x) hl
  have cm : cmOf (GF F) .Label .a_read = some .m_Label_read := rfl
  cases h : isNm (rpT x) with
  | true =>
    rw [h] at m
    simp only [if_true] at m
    have te := told_end F k s.length (rpT x) (!decide (x.head? = some 126)) (s ++ [lOb (rpT x) (!decide (x.head? = some 126))]) (some (.str x)) (some (.int 2)) none none hl2 (by simp)
    generalize (!decide (x.head? = some 126)) = b at *
    refine ⟨s ++ [lOb (rpT x) b], ?_, Kept.more _⟩
    simp only [Q_cons] at te
    rw [r_f__law_told]
    simp only [b_f__law_told, Q_cons, S_tri]
    simp [m, cm] at te ⊢
    rw [te]
    rfl
  | false =>
    rw [h] at m
    simp only [Bool.false_eq_true, if_false] at m
    have hd : ∀ C C1 e4, evSs (GF F) C C1 (some ⟨.BadText, []⟩) b_f__law_told_1 [some (.str x), some (.int 2), none, none, e4] s = .rt refD s := fun C C1 e4 => rfl
    refine ⟨s, ?_, Kept.refl⟩
    rw [r_f__law_told]
    simp [b_f__law_told, m, hd, cm]
end
end Lt
namespace Lt
open PySem
section
variable (F : Nat)
theorem take1_eq (x : List Nat) : (x.take 1 == [126]) = decide (x.head? = some 126) := by
  cases x with
  | nil => rfl
  | cons c r =>
    simp only [List.take_succ_cons, List.take_zero, List.head?_cons, Option.some.injEq]
    by_cases h : c = 126 <;> simp [h]
theorem nm_head {x : List Nat} (h : isNm x = true) : x.head? ≠ some 126 := by
  cases x with
  | nil => cases h
  | cons c r =>
    obtain ⟨_, h2⟩ := ba' h
    obtain ⟨h2, _⟩ := ba' h2
    intro q
    have : c = 126 := by simpa using q
    subst this
    cases h2
theorem law_1 (k : Nat) (x : List Nat) (hx : okS x = true) (hl : x.length ≤ 30) (a0 a1 a2 a3 a4 a5 a6 a7 a8 : Option D) (s : St) :
    ∃ a6' a7' a8' s', bodyF (GF F) (callF (GF F) (k + 6)) (callF (GF F) (k + 5)) (.nm 5) b_f_law_1 (.str x) [a0, a1, a2, a3, a4, a5, a6, a7, a8] s = .nx [a0, a1, a2, a3, a4, some (.str x), a6', a7', a8'] s' ∧ Kept s s' := by
  have hL : lim = 1000000 := rfl
  obtain ⟨s1, e1, k1⟩ := told_0 F k x s (by omega)
  obtain ⟨s2, e2, k2⟩ := told_1 F k x s1 (by omega)
  obtain ⟨s3, e3, k3⟩ := told_2 F k x s2 (by omega)
  have n1 := lname_ok F (k + 5) x s (by omega)
  have n2 := lname_ok F (k + 5) (x.drop 1) s (by simp; omega)
  have t1 := fun s => sl_to (x := x) (by omega) 1 (z := 1) rfl s
  have t2 := fun s => sl_from (x := x) (by omega) 1 (z := 1) rfl s
  have q1 : eqF (.str (x.take 1)) (.str [126]) = some (decide (x.head? = some 126)) := by
    rw [eqF_s (okS_take 1 hx) (by decide), take1_eq]
  have ad : ∀ s, binF .add (.str [126]) (.str x) s = .ok (.str (126 :: x)) s := fun s => bin_adds s (by simp; omega)
  have kk := k1.trans (k2.trans k3)
  have sr : ∀ s, callF (GF F) (k + 6) .f__law_same [refD, refD] s = .ok (.bl true) s := fun s => same_ref F (k + 4) s
  have rd : D.tup [.str [114, 101, 102, 117, 115, 101, 100], .bl true] = refD := rfl
  cases h : isNm x with
  | true =>
    have hh := nm_head h
    have er : rpT x = x := by unfold rpT; rw [if_neg hh]
    rw [er] at e3
    rw [h] at e1 e2 e3 n1
    simp only [if_true, decide_eq_false hh, Bool.not_false] at e1 e2 e3
    have s1' := fun s => same_lab F (k + 4) x true s hx
    have s2' := fun s => same_lab F (k + 4) x false s hx
    have l1 : D.tup [.str [108, 97, 98, 101, 108], .str x, .bl true, .str x, .str x] = labD x true := by simp [labD, lTx]
    have l2 : D.tup [.str [108, 97, 98, 101, 108], .str x, .bl false, .str (126 :: x), .str (126 :: x)] = labD x false := by simp [labD, lTx]
    refine ⟨some (labD x true), some (labD x false), some (labD x true), s3, ?_, kk⟩
    simp [bodyF, b_f_law_1, n1, l1, l2, ad, e1, s1', e2, s2', e3]
  | false =>
    rw [h] at e1 e2 n1
    simp only [Bool.false_eq_true, if_false] at e1 e2
    by_cases hh : x.head? = some 126
    · have er : rpT x = x.drop 1 := by unfold rpT; rw [if_pos hh]
      rw [er] at e3
      rw [decide_eq_true hh] at q1 e3
      cases h2 : isNm (x.drop 1) with
      | true =>
        rw [h2] at e3 n2
        simp only [if_true, Bool.not_true] at e3
        have ex : 126 :: x.drop 1 = x := by
          cases x with
          | nil => cases hh
          | cons c r =>
            have : c = 126 := by simpa using hh
            rw [this]
            rfl
        have s3' := fun s => same_lab F (k + 4) (x.drop 1) false s (okS_drop 1 hx)
        have l3 : D.tup [.str [108, 97, 98, 101, 108], .str (x.drop 1), .bl false, .str x, .str x] = labD (x.drop 1) false := by
          unfold labD lTx
          rw [if_neg (by decide), ex]
        generalize x.drop 1 = y at *
        refine ⟨some refD, some refD, some (labD y false), s3, ?_, kk⟩
        simp [bodyF, b_f_law_1, rd, n1, t1, q1, t2, n2, l3, e1, sr, e2, e3, s3']
      | false =>
        rw [h2] at e3 n2
        simp only [Bool.false_eq_true, if_false] at e3
        generalize x.drop 1 = y at *
        refine ⟨some refD, some refD, some refD, s3, ?_, kk⟩
        simp [bodyF, b_f_law_1, rd, n1, t1, q1, t2, n2, e1, sr, e2, e3]
    · have er : rpT x = x := by unfold rpT; rw [if_neg hh]
      rw [er, h] at e3
      rw [decide_eq_false hh] at q1
      simp only [Bool.false_eq_true, if_false] at e3
      refine ⟨some refD, some refD, some refD, s3, ?_, kk⟩
      simp [bodyF, b_f_law_1, rd, n1, t1, q1, e1, sr, e2, e3]
theorem beqs_str : ∀ xs : List (List Nat), D.beqs (xs.map D.str) (xs.map D.str) = true
  | [] => rfl
  | x :: xs => by
    show (D.beq (.str x) (.str x) && D.beqs (xs.map D.str) (xs.map D.str)) = true
    rw [beqs_str xs]
    simp [D.beq]
theorem law_1s (k T : Nat) (all : List (List Nat)) (a0 a1 a2 a3 a4 : Option D) : ∀ (xs : List (List Nat)) (s : St) (a5 a6 a7 a8 : Option D), (∀ x ∈ xs, okS x = true ∧ x.length ≤ 30) → s[T]? = some (.lst (all.map D.str)) →
    ∃ a5' a6' a7' a8' s', forF (still (all.map D.str) (some T)) (bodyF (GF F) (callF (GF F) (k + 6)) (callF (GF F) (k + 5)) (.nm 5) b_f_law_1) (xs.map D.str) [a0, a1, a2, a3, a4, a5, a6, a7, a8] s = .nx [a0, a1, a2, a3, a4, a5', a6', a7', a8'] s' ∧ Kept s s'
  | [], s, a5, a6, a7, a8, _, hT => ⟨a5, a6, a7, a8, s, forF_n (by simp only [still, hT, beqs_str]), Kept.refl⟩
  | x :: xs, s, a5, a6, a7, a8, hx, hT => by
    obtain ⟨o1, o2⟩ := hx x List.mem_cons_self
    obtain ⟨b6, b7, b8, s1, e1, k1⟩ := law_1 F k x o1 o2 a0 a1 a2 a3 a4 a5 a6 a7 a8 s
    obtain ⟨c5, c6, c7, c8, s2, e2, k2⟩ := law_1s k T all a0 a1 a2 a3 a4 xs s1 (some (.str x)) b6 b7 b8 (fun y hy => hx y (List.mem_cons_of_mem _ hy)) (k1.get hT)
    refine ⟨c5, c6, c7, c8, s2, ?_, k1.trans k2⟩
    rw [List.map_cons, forF_c (by simp only [still, hT, beqs_str]) e1]
    exact e2
theorem app_loop (k T : Nat) (hk : 5 < k) (a0 a4 a5 a6 a7 a8 : Option D) : ∀ (ds : List Int) (s : St) (xs : List (List Nat)) (e3 : Option D), At0 0 s → T ≠ 0 → s[T]? = some (.lst (xs.map D.str)) → (∀ x ∈ xs, okS x = true ∧ x.length ≤ 30) → xs.length + ds.length ≤ 1000 →
    ∃ (e3' : Option D) (s' : St) (xs' : List (List Nat)), forF (still [] none) (bodyF (GF F) (callF (GF F) (k + 1)) (callF (GF F) k) (.nm 3) b_f_law_3) (dInts ds) [a0, some (.obj 0), some (.obj T), e3, a4, a5, a6, a7, a8] s = .nx [a0, some (.obj 0), some (.obj T), e3', a4, a5, a6, a7, a8] s' ∧ s'[T]? = some (.lst (xs'.map D.str)) ∧ ∀ x ∈ xs', okS x = true ∧ x.length ≤ 30
  | [], s, xs, e3, h0, hn, hT, hx, _ => ⟨e3, s, xs, forF_n rfl, hT, hx⟩
  | d :: ds, s, xs, e3, h0, hn, hT, hx, hl => by
    obtain ⟨x, s1, e1, hxx, d1⟩ := string F 0 k s (by omega) h0
    have gT := d1.get hT hn
    have c1 : (xs.map D.str).length < lim := by simp [lim] at hl ⊢; omega
    have hT2 : (s1.set T (.lst ((xs ++ [x]).map D.str)))[T]? = some (.lst ((xs ++ [x]).map D.str)) := List.getElem?_set_self (lt_of_at gT)
    have h02 : At0 0 (s1.set T (.lst ((xs ++ [x]).map D.str))) := by
      obtain ⟨ds', e⟩ := d1.at_
      exact ⟨ds', by rw [List.getElem?_set_ne hn]; exact e⟩
    obtain ⟨e3', s2, xs', q1, q2, q3⟩ := app_loop k T hk a0 a4 a5 a6 a7 a8 ds _ (xs ++ [x]) (some (.int d)) h02 hn hT2 (fun y hy => by
      rcases List.mem_append.mp hy with h | h
      · exact hx y h
      · rw [List.mem_singleton.mp h]; exact hxx) (by simp at hl ⊢; omega)
    refine ⟨e3', s2, xs', ?_, q2, q3⟩
    have hb : bodyF (GF F) (callF (GF F) (k + 1)) (callF (GF F) k) (.nm 3) b_f_law_3 (.int d) [a0, some (.obj 0), some (.obj T), e3, a4, a5, a6, a7, a8] s = .nx [a0, some (.obj 0), some (.obj T), some (.int d), a4, a5, a6, a7, a8] (s1.set T (.lst ((xs ++ [x]).map D.str))) := by
      simp [bodyF, b_f_law_3, hT, e1, gT, appO_l _ c1]
    show forF _ _ (D.int d :: dInts ds) _ _ = _
    rw [forF_c rfl hb]
    exact q1
theorem mainF (hF : 10000 ≤ F) (ns : List Int) (hl : ns.length ≤ 63) : ∃ s, callF (GF F) 61 .f_law [.fz (ns.map .int)] [] = .ok (.bl true) s := by
  obtain ⟨ds, e0⟩ := draws F ns hl 59
  have a0 : At0 0 [.lst (dInts ds)] := ⟨ds, rfl⟩
  obtain ⟨x, s1, e1, hx, d1⟩ := name F 0 59 _ (by omega) a0
  obtain ⟨_, x8, _⟩ := isNm_all hx
  have d2 : Dr 0 s1 (s1 ++ [Ob.lst [.str x]]) := Dr.more d1.at_
  have hn : s1.length ≠ 0 := by have := At0.lt d1.at_; omega
  obtain ⟨s2, hs2⟩ : ∃ s2 : St, s1 ++ [Ob.lst [.str x]] = s2 := ⟨_, rfl⟩
  rw [hs2] at d2
  have hT2 : s2[s1.length]? = some (.lst ([x].map D.str)) := by rw [← hs2]; simp
  obtain ⟨v, s3, e3, v1, v2, d3⟩ := draw F 59 0 4 s2 (by decide) d2.at_
  obtain ⟨ks, er, el⟩ := rngF_ints (2 + v).toNat
  rw [show (((2 + v).toNat : Nat) : Int) = 2 + v by omega] at er
  obtain ⟨e3', s4, xs, q1, hT4, hxs⟩ := app_loop F 59 s1.length (by omega) (some (.fz (dInts ns))) none none none none none ks s3 [x] none d3.at_ hn (d3.get hT2 hn) (fun y hy => by rw [List.mem_singleton.mp hy]; exact ⟨isNm_ok hx, by omega⟩) (by simp; omega)
  have bd : ∀ (n : Nat) (b4 b5 b6 b7 b8 : Option D) (s : St), s[s1.length]? = some (.lst (xs.map D.str)) → ∃ b5' b6' b7' b8' s', bodyF (GF F) (callF (GF F) 60) (callF (GF F) 59) (.nm 4) b_f_law_2 (.int (n : Int)) [some (.fz (dInts ns)), some (.obj 0), some (.obj s1.length), e3', b4, b5, b6, b7, b8] s = .nx [some (.fz (dInts ns)), some (.obj 0), some (.obj s1.length), e3', some (.int (n : Int)), b5', b6', b7', b8'] s' ∧ Kept s s' := by
    intro n b4 b5 b6 b7 b8 s hs
    obtain ⟨b5', b6', b7', b8', s', q, k'⟩ := law_1s F 54 s1.length xs (some (.fz (dInts ns))) (some (.obj 0)) (some (.obj s1.length)) e3' (some (.int (n : Int))) xs s b5 b6 b7 b8 hxs hs
    refine ⟨b5', b6', b7', b8', s', ?_, k'⟩
    simp only [Nat.reduceAdd] at q
    generalize xs.map D.str = X at *
    simp [bodyF, b_f_law_2, itemsF, hs, q]
  obtain ⟨c5, c6, c7, c8, s5, p1, k5⟩ := bd 0 none none none none none s4 hT4
  obtain ⟨f5, f6, f7, f8, s6, p2, k6⟩ := bd 1 (some (.int 0)) c5 c6 c7 c8 s5 (k5.get hT4)
  refine ⟨s6, ?_⟩
  have fl : forF (still [.int 0, .int 1] none) (bodyF (GF F) (callF (GF F) 60) (callF (GF F) 59) (.nm 4) b_f_law_2) [.int 0, .int 1] [some (.fz (dInts ns)), some (.obj 0), some (.obj s1.length), e3', none, none, none, none, none] s4 = .nx [some (.fz (dInts ns)), some (.obj 0), some (.obj s1.length), e3', some (.int 1), f5, f6, f7, f8] s6 := by
    have p1' := p1
    have p2' := p2
    simp only [Int.natCast_zero, Int.natCast_one] at p1' p2'
    rw [forF_c rfl p1', forF_c rfl p2', forF_n rfl]
  have hI2 : ∀ e s, evI (GF F) (callF (GF F) 60) (callF (GF F) 59) none (.rng (.int 2)) e s = .ok ([.int 0, .int 1], none) s := fun e s => evI_ixs (z := 2) (n := 2) (by simp) rfl (by omega)
  have e0' : ns.map D.int = dInts ns := rfl
  simp only [Nat.reduceAdd] at e0 e1 e3 q1
  have hI : evI (GF F) (callF (GF F) 60) (callF (GF F) 59) none (.rng (.bin .add (.int 2) (.call .f__law_draw (.cons (.var 1) (.cons (.int 4) .nil))))) [some (.fz (dInts ns)), some (.obj 0), some (.obj s1.length), none, none, none, none, none, none] s2 = .ok (dInts ks, none) s3 := by
    rw [← er]
    exact evI_rng (by simp [e3]) (by omega) (by omega)
  have st : still [] none = still (dInts ks) none := rfl
  rw [st] at q1
  rw [e0', r_f_law]
  simp [b_f_law, e0, e1, hs2, hI, q1, hI2, fl]
end
end Lt
namespace Lt
theorem main (ns : List Int) (hl : ns.length ≤ 63) (_ : ∀ z ∈ ns, PySem.Builtin.Int.intBits z ≤ 1048576) : ∃ s, callF GG 61 .f_law [.fz (ns.map .int)] [] = .ok (.bl true) s := mainF 1000000000 (by decide) ns hl
end Lt
open PySem PySem.W PySem.Calls PyProof.Rows
theorem PySem.Challenge.cw_castmiddles_k01_label_refusals_holds : PySem.Challenge.rw_castmiddles_k01_label_refusals.Holds := by
  w_on; o_law
  refine HandSHeadRun.head_any (r := OpenLaw.row PySem.Challenge.rw_castmiddles_k01_label_refusals) (q := view (OpenLaw.row PySem.Challenge.rw_castmiddles_k01_label_refusals).prog [33]) (H := Lt.hkL) (ob := Lt.obL) (M := 20000) (loose := Lt.looseL) (d := HandSHeadRun.topDef (OpenLaw.row PySem.Challenge.rw_castmiddles_k01_label_refusals).prog 33) (kwd := []) Lt.obL_eq
    (by kernel_rfl) (fun s => by kernel_rfl) Lt.runL (by kernel_rfl) (by kernel_rfl) (by kernel_rfl) (by rfl) (by first | assumption | decide +kernel) (by decide +kernel) ⟨rfl, rfl, rfl, rfl, rfl, by decide +kernel⟩ ?hw ?hc
  case hw => w_witness2
  case hc => exact Lt.lite (l := PySem.Challenge.rw_castmiddles_k01_label_refusals) (n := 63) (k := 60) (j := 5) (x := "script") (G := Lt.GG) (info := Lt.info) (law := .f_law) (dl := Lt.dfn .f_law) Lt.names0 rfl (by decide) (by kernel_rfl) ⟨rfl, by decide, by decide⟩ (by kernel_rfl) rfl rfl (by kernel_rfl) rfl Lt.hdef rfl Lt.hbind Lt.main
