import PyProof.Rows.All
import HandS.ForMost
import HandS.ForExc
import KE.SortData
import HandS.Conv
import HandS.Iter
import HandS.Rev
import KE.GoesRev
import HandS.ExcInit
import HandS.ExcField
import HandS.IsInst
import KE.KExcIs
import HandS.Wide
import HandS.Deep
import HandS.Style
import HandS.TupAny
import HandS.TupMul
import HandS.Flow
import HandS.Codes
import PyProof.P3In
import HandS.ListEq
import HandS.DeepEq
import KE.LtSeq
import KE.LtData
import HandS.TupLe
import HandS.SortInts
import PyProof.StrOps2
import HandS.DictEq
import PyProof.NeKinds
import PyProof.EqAt
import PyProof.EqKinds
import HandS.Text
import HandS.DictComp
import PyProof.ListStr
import HandS.List
import HandS.More
import HandS.Dict
import HandS.Flt
import HandS.Zip
import KE.GoesEnum
import KE.KDictZip
import HandS.HeadHook1
import HandS.TryOnly
import HandS.Defaults
import HandS.RaiseMore
import Wide.All
import OpenK.AllK
import Wide.FinOn
import KE.KStateDown
import Lean
import HandS.Head0
import HandS.Head1
import HandS.Head2
import HandS.HeadEnd
import HandS.EndBits
import HandS.HeadHook2
import PySem.Challenge.RW_wireparley_k41_states_reached_and_ending
set_option Elab.async false
set_option linter.all false
set_option maxRecDepth 100000
/-! WpD: data as trees, a small language of expressions and statements, and what must hold ahead of it (weakest preconditions). No model of Python here. -/
namespace Wp
open PySem

/-- data: lists that never change are trees; what changes stands in the memory at a place -/
inductive D where
  | non | bl (b : Bool) | int (i : Int) | str (x : Str)
  | tup (ds : List D) | lst (ds : List D)
  | scr (ns : List Int)
  | emp
  | loc (a : Addr)

/-- what stands in the memory -/
inductive Ob where
  | lst (ds : List D)
  | dic (kvs : List (Sum Int Str × D))
  -- a dict that stays as it is from here on; a dict whose keys are tuples
  | fdc (kvs : List (Sum Int Str × D))
  | dtc (kvs : List (List (Sum Int Str) × D))
  | ins (c : Nat) (fs : List (Str × D))
  -- an object of the program's own class: its class, its fields
  | obj (c : Nat) (fs : List (Str × D))

abbrev Mem := Addr → Option Ob
def Mem.upd (M : Mem) (a : Addr) (o : Ob) : Mem := fun b => if b = a then some o else M b
def Mem.del (M : Mem) (a : Addr) : Mem := fun b => if b = a then none else M b

/-- an exception: its class, its fields -/
structure Exn where
  c : Nat
  fs : List (Str × D)

abbrev Env := List (Option D)
abbrev QK := D → Mem → Prop
abbrev BK := Bool → Mem → Prop
abbrev AK := List D → Mem → Prop
abbrev XQ := Exn → Mem → Prop

/-- the things in a list -/
def asL (M : Mem) : D → Option (List D)
  | .lst ds => some ds
  | .scr ns => some (ns.map .int)
  | .loc a => match M a with
    | some (.lst ds) => some ds
    | _ => none
  | _ => none
/-- a list that may be put together with another one -/
def asLT (M : Mem) : D → Option (List D)
  | .lst ds => some ds
  | .loc a => match M a with
    | some (.lst ds) => some ds
    | _ => none
  | _ => none
/-- the things in a list or a tuple -/
def asS (M : Mem) : D → Option (List D)
  | .tup ds => some ds
  | d => asL M d

/-- a new list: one that stays, or one in the memory -/
def newL (fr : Bool) (ds : List D) (M : Mem) (Q : QK) : Prop :=
  ds.length ≤ sizeLine ∧ match fr with
  | true => Q (.lst ds) M
  | false => ∀ p, M p = none → Q (.loc p) (M.upd p (.lst ds))

/-! ### equality, by value -/
mutual
/-- a tree without places as plain data -/
def toPy : D → Option PyData
  | .non => some .none
  | .bl b => some (.bool b)
  | .int i => some (.int i)
  | .str x => some (.str x)
  | .tup ds => (toPys ds).map .tuple
  | .lst ds => (toPys ds).map .list
  | .scr ns => some (.list (ns.map .int))
  | .emp => none
  | .loc _ => none
def toPys : List D → Option (List PyData)
  | [] => some []
  | d :: ds => match toPy d, toPys ds with
    | some p, some ps => some (p :: ps)
    | _, _ => none
end
/-- the same of a list in the memory, whose things are trees -/
def toPy1 (M : Mem) : D → Option PyData
  | .loc a => match M a with
    | some (.lst ds) => (toPys ds).map .list
    | _ => none
  | d => toPy d
def toPys1 (M : Mem) : List D → Option (List PyData)
  | [] => some []
  | d :: ds => match toPy1 M d, toPys1 M ds with
    | some p, some ps => some (p :: ps)
    | _, _ => none
/-- .. or a tuple of such -/
def toPyM (M : Mem) : D → Option PyData
  | .tup ds => (toPys1 M ds).map .tuple
  | d => toPy1 M d
def keyD : D → Option (Sum Int Str)
  | .int i => some (.inl i)
  | .str s => some (.inr s)
  | _ => none
def lookD {κ : Type} [DecidableEq κ] (kvs : List (κ × D)) (k : κ) : Option D := (kvs.find? fun kv => decide (kv.1 = k)).map (·.2)
/-- the dict at a place -/
def dicAt (M : Mem) : D → Option (List (Sum Int Str × D))
  | .loc a => match M a with
    | some (.dic kvs) => some kvs
    | some (.fdc kvs) => some kvs
    | _ => none
  | _ => none
/-- .. that stays -/
def fdcAt (M : Mem) : D → Option (List (Sum Int Str × D))
  | .loc a => match M a with
    | some (.fdc kvs) => some kvs
    | _ => none
  | _ => none
/-- .. with tuples as keys -/
def dtcAt (M : Mem) : D → Option (List (List (Sum Int Str) × D))
  | .loc a => match M a with
    | some (.dtc kvs) => some kvs
    | _ => none
  | _ => none
/-- a tuple of ints as a key -/
def keyTs : List D → Option (List (Sum Int Str))
  | [] => some []
  | .int i :: ds => (keyTs ds).map (.inl i :: ·)
  | _ :: _ => none
def keyT : D → Option (List (Sum Int Str))
  | .tup ds => keyTs ds
  | _ => none
/-- a key as a thing -/
def kD : Sum Int Str → D
  | .inl i => .int i
  | .inr z => .str z
/-- two dicts, entry by entry -/
def dicEq (ls : List (Sum Int Str × D)) : List (Sum Int Str × D) → Option Bool
  | [] => some true
  | (k, v) :: r => match lookD ls k with
    | none => some false
    | some w => match toPy v, toPy w, dicEq ls r with
      | some p, some q, some b => if SeqAt.shaped p && SeqAt.shaped q then some (PyData.eqv p q && b) else none
      | _, _, _ => none

def optAll {α β : Type} (f : α → Option β) : List α → Option (List β)
  | [] => some []
  | d :: ds => match f d, optAll f ds with
    | some p, some ps => some (p :: ps)
    | _, _ => none
/-- a tree with places of lists at any depth (so deep at most) -/
def toPyF (M : Mem) : Nat → D → Option PyData
  | 0, _ => none
  | n + 1, d => match d with
    | .tup ds => (optAll (toPyF M n) ds).map .tuple
    | .lst ds => (optAll (toPyF M n) ds).map .list
    | .loc a => match M a with
      | some (.lst ds) => (optAll (toPyF M n) ds).map .list
      | _ => none
    | d => toPy d
mutual
/-- data that is alike to itself: flat things, tuples, lists, {}; so deep at most -/
def eqOk : Nat → D → Bool
  | 0, _ => false
  | n + 1, .tup ds => eqOks n ds
  | n + 1, .lst ds => eqOks n ds
  | _ + 1, .non => true
  | _ + 1, .bl _ => true
  | _ + 1, .int _ => true
  | _ + 1, .str _ => true
  | _ + 1, .emp => true
  | _ + 1, _ => false
def eqOks : Nat → List D → Bool
  | _, [] => true
  | n, d :: ds => eqOk n d && eqOks n ds
end
/-- what is no dict's place, nor the script -/
def flK : D → Bool
  | .non => true
  | .bl _ => true
  | .int _ => true
  | .str _ => true
  | .tup _ => true
  | .lst _ => true
  | .emp => true
  | _ => false
def allStr : List D → Bool
  | [] => true
  | .str _ :: r => allStr r
  | _ :: _ => false
/-- two lists of the same -/
def eqX (neg : Bool) (x y : D) (M : Mem) (Q : QK) : Prop :=
  match x, y with
  | .lst ds, .lst es => ds = es ∧ eqOks 60 ds = true ∧ Q (.bl (!neg)) M
  | .tup (d :: _ :: _), .tup [.str _] => flK d = true ∧ Q (.bl neg) M
  | .tup ds, .tup es => ds = es ∧ eqOks 60 ds = true ∧ Q (.bl (!neg)) M
  | .emp, .emp => Q (.bl (!neg)) M
  | .emp, .str _ => Q (.bl neg) M
  | .str _, .emp => Q (.bl neg) M
  | .loc a, .loc b => match dicAt M (.loc a), dicAt M (.loc b) with
    | some ks, some ls => match dicEq ls ks with
      | some r => Q (.bl (if neg then !(ks.length == ls.length && r) else ks.length == ls.length && r)) M
      | none => False
    | _, _ => False
  | _, _ => False
/-- alike, through lists and dicts at places; so deep at most -/
def dpE (M : Mem) : Nat → D → D → Prop
  | 0, _, _ => False
  | n + 1, x, y => (x = y ∧ eqOk 30 x = true) ∨
      (∃ xs ys, asLT M x = some xs ∧ asLT M y = some ys ∧ xs.length = ys.length ∧ ∀ (i : Nat) (a b : D), xs[i]? = some a → ys[i]? = some b → dpE M n a b) ∨
      (∃ ks ls, dicAt M x = some ks ∧ dicAt M y = some ls ∧ ks.length = ls.length ∧ ∀ p ∈ ks, ∃ u, lookD ls p.1 = some u ∧ dpE M n p.2 u)
/-- two lists that are alike so -/
def dpT (M : Mem) (x y : D) : Prop := ∃ xs ys, asLT M x = some xs ∧ asLT M y = some ys ∧ xs.length = ys.length ∧ ∀ (i : Nat) (a b : D), xs[i]? = some a → ys[i]? = some b → dpE M 20 a b
/-- == of data with places at any depth -/
def eqF (neg : Bool) (x y : D) (M : Mem) (Q : QK) : Prop :=
  match toPyF M 30 x, toPyF M 30 y with
  | some d, some e => SeqAt.shaped d = true ∧ SeqAt.shaped e = true ∧ Q (.bl (if neg then !PyData.eqv d e else PyData.eqv d e)) M
  | _, _ => eqX neg x y M Q ∨ (dpT M x y ∧ Q (.bl (!neg)) M)
/-- == and != of data -/
def eqP (neg : Bool) (x y : D) (M : Mem) (Q : QK) : Prop :=
  match toPyM M x, toPyM M y with
  | some d, some e => SeqAt.shaped d = true ∧ SeqAt.shaped e = true ∧ Q (.bl (if neg then !PyData.eqv d e else PyData.eqv d e)) M
  | _, _ => eqF neg x y M Q
/-- of two tuples one is empty, and one alone -/
def eqU : D → D → Bool
  | .tup [], .tup (_ :: _) => true
  | .tup (_ :: _), .tup [] => true
  | _, _ => false
/-- .. lists of unlike lengths may hold anything -/
def eqL (neg : Bool) (x y : D) (M : Mem) (Q : QK) : Prop :=
  match asL M x, asL M y with
  | some xs, some ys => if xs.length = ys.length then eqP neg x y M Q else Q (.bl neg) M
  | _, _ => match eqU x y with
    | true => Q (.bl neg) M
    | false => eqP neg x y M Q
/-- .. of plain things -/
def eqA : D → D → Option Bool
  | .str a, .str b => some (decide (a = b))
  | .int a, .int b => some (decide (a = b))
  | .bl a, .bl b => some (decide (a = b))
  | .non, .non => some true
  | .non, .int _ => some false
  | .non, .bl _ => some false
  | .non, .str _ => some false
  | .int _, .non => some false
  | .bl _, .non => some false
  | .str _, .non => some false
  | .int _, .str _ => some false
  | .bl _, .str _ => some false
  | .str _, .int _ => some false
  | .str _, .bl _ => some false
  | _, _ => none
def eqW (neg : Bool) (x y : D) (M : Mem) (Q : QK) : Prop :=
  match eqA x y with
  | some b => Q (.bl (if neg then !b else b)) M
  | none => eqL neg x y M Q
/-- a tuple in a dict -/
def inT (neg : Bool) (x y : D) (M : Mem) (Q : QK) : Prop :=
  match dtcAt M y, keyT x with
  | some kvs, some k => Q (.bl (if neg then !(lookD kvs k).isSome else (lookD kvs k).isSome)) M
  | _, _ => False
def inS (neg : Bool) (x y : D) (M : Mem) (Q : QK) : Prop :=
  match x, y with
  | .str a, .str b => Q (.bl (if neg then !(!(Builtin.Str.occurrences b a 0 b.length 1).isEmpty) else !(Builtin.Str.occurrences b a 0 b.length 1).isEmpty)) M
  | .emp, .tup ys => allStr ys = true ∧ Q (.bl neg) M
  | x, y => match toPyM M x, asS M y with
    | some d, some ys => match toPys ys with
      | some ds => SeqAt.shaped d = true ∧ SeqAt.shaped (.list ds) = true ∧ Q (.bl (if neg then !(ds.any fun z => PyData.eqv z d) else ds.any fun z => PyData.eqv z d)) M
      | none => False
    | _, _ => inT neg x y M Q
def inW (neg : Bool) (x y : D) (M : Mem) (Q : QK) : Prop :=
  match dicAt M y with
  | some kvs => match keyD x with
    | some k => Q (.bl (if neg then !(lookD kvs k).isSome else (lookD kvs k).isSome)) M
    | none => False
  | none => inS neg x y M Q

/-! ### operators -/
def b2i (b : Bool) : Int := if b then 1 else 0
/-- factors together below so many bits -/
def mulOk (i j : Int) : Prop := i.natAbs.log2 + j.natAbs.log2 < 100000000
def addW (fr : Bool) (x y : D) (M : Mem) (Q : QK) : Prop :=
  match x, y with
  | .int i, .int j => Q (.int (i + j)) M
  | .str a, .str b => a.length + b.length ≤ sizeLine ∧ Q (.str (a ++ b)) M
  | .tup a, .tup b => a.length + b.length ≤ sizeLine ∧ Q (.tup (a ++ b)) M
  | x, y => match asLT M x, asLT M y with
    | some a, some b => newL fr (a ++ b) M Q
    | _, _ => False
/-- a text, n times -/
def repS (z : Str) (n : Nat) : Str := ⟨(List.replicate n z.cps.toList).flatten.toArray⟩
def mulW (fr : Bool) (x y : D) (M : Mem) (Q : QK) : Prop :=
  match x, y with
  | .int i, .int j => mulOk i j ∧ Q (.int (i * j)) M
  | .str z, .int k => -(2 ^ 63) ≤ k ∧ k < 2 ^ 63 ∧ z.length * k.toNat ≤ sizeLine ∧ Q (.str (repS z k.toNat)) M
  | .tup a, .int k => -(2 ^ 63) ≤ k ∧ k ≤ 1000 ∧ a.length ≤ 1000 ∧ Q (.tup (List.replicate k.toNat a).flatten) M
  | x, .int k => match asLT M x with
    | some a => -(2 ^ 63) ≤ k ∧ k < 2 ^ 63 ∧ a.length * k.toNat ≤ sizeLine ∧ newL fr (List.replicate k.toNat a).flatten M Q
    | none => False
  | _, _ => False
def binW (op : Operator) (fr : Bool) (x y : D) (M : Mem) (Q : QK) : Prop :=
  match op with
  | .Add => addW fr x y M Q
  | .Mult => mulW fr x y M Q
  | .Sub => match x, y with
    | .int i, .int j => Q (.int (i - j)) M
    | _, _ => False
  | .Mod => match x, y with
    | .int i, .int j => 0 < j ∧ Q (.int (i % j)) M
    | _, _ => False
  | .FloorDiv => match x, y with
    | .int i, .int j => 0 < j ∧ j.natAbs.log2 < 9000 ∧ Q (.int (i / j)) M
    | _, _ => False
  | .Pow => match x, y with
    | .int i, .int j => (0 ≤ j ∧ j ≤ 1000000 ∧ i.natAbs < 2 ^ 64) ∧ Q (.int (i ^ j.toNat)) M
    | _, _ => False
  | _ => False
def negW (x : D) (M : Mem) (Q : QK) : Prop :=
  match x with
  | .int i => Q (.int (-i)) M
  | _ => False
def intsOf : List D → Option (List Int)
  | [] => some []
  | .int i :: ds => (intsOf ds).map (i :: ·)
  | _ :: _ => none
/-- lists of ints, one ahead of the other -/
def gtL : List Int → List Int → Bool
  | [], _ => false
  | _ :: _, [] => true
  | x :: xs, y :: ys => if x = y then gtL xs ys else decide (y < x)
def cmpW (op : CmpOp) (x y : D) (M : Mem) (Q : QK) : Prop :=
  match op with
  | .Eq => eqW false x y M Q
  | .NotEq => eqW true x y M Q
  | .Lt => match x, y with
    | .int i, .int j => Q (.bl (decide (i < j))) M
    | .str a, .str b => Q (.bl (decide (a.cps.toList < b.cps.toList))) M
    | _, _ => False
  | .LtE => match x, y with
    | .int i, .int j => Q (.bl (decide (i ≤ j))) M
    | .str a, .str b => Q (.bl (!decide (b.cps.toList < a.cps.toList))) M
    | _, _ => False
  | .Gt => match x, y with
    | .int i, .int j => Q (.bl (decide (j < i))) M
    | .str a, .str b => Q (.bl (decide (b.cps.toList < a.cps.toList))) M
    | x, y => match asL M x, asL M y with
      | some xs, some ys => match intsOf xs, intsOf ys with
        | some ns, some ms => Q (.bl (gtL ns ms)) M
        | _, _ => False
      | _, _ => False
  | .GtE => match x, y with
    | .int i, .int j => Q (.bl (decide (j ≤ i))) M
    | .str a, .str b => Q (.bl (!decide (a.cps.toList < b.cps.toList))) M
    | _, _ => False
  | .Is => match x, y with
    | .bl a, .bl b => Q (.bl (decide (a = b))) M
    | .non, .non => Q (.bl true) M
    | .loc _, .non => Q (.bl false) M
    | .int _, .non => Q (.bl false) M
    | .bl _, .non => Q (.bl false) M
    | .str _, .non => Q (.bl false) M
    | .tup _, .non => Q (.bl false) M
    | .lst _, .non => Q (.bl false) M
    | .scr _, .non => Q (.bl false) M
    | .emp, .non => Q (.bl false) M
    | _, _ => False
  | .IsNot => match x, y with
    | .bl a, .bl b => Q (.bl (!decide (a = b))) M
    | .non, .non => Q (.bl false) M
    | .loc _, .non => Q (.bl true) M
    | .int _, .non => Q (.bl true) M
    | .bl _, .non => Q (.bl true) M
    | .str _, .non => Q (.bl true) M
    | .tup _, .non => Q (.bl true) M
    | .lst _, .non => Q (.bl true) M
    | .scr _, .non => Q (.bl true) M
    | .emp, .non => Q (.bl true) M
    | _, _ => False
  | .In => inW false x y M Q
  | .NotIn => inW true x y M Q
/-- a value's truth -/
def truW (x : D) (M : Mem) (Q : BK) : Prop :=
  match x with
  | .non => Q false M
  | .bl b => Q b M
  | .int i => Q (i != 0) M
  | .str x => x.length ≤ sizeLine ∧ Q ((x.length : Int) != 0) M
  | .emp => Q false M
  | x => match asS M x with
    | some ds => Q (!ds.isEmpty) M
    | none => False

/-! ### subscripts -/
def ixN (n : Nat) (i : Int) : Option Nat := if 0 ≤ i then (if i < n then some i.toNat else none) else if -(n : Int) ≤ i then some (i + n).toNat else none
def atI {α : Type} (xs : List α) (i : Int) : Option α := (ixN xs.length i).bind fun j => xs[j]?
def idxW (x i : D) (M : Mem) (Q : QK) : Prop :=
  match x, i with
  | .str z, .int k => z.length ≤ sizeLine ∧ match atI z.cps.toList k with
    | some c => Q (.str ⟨#[c]⟩) M
    | none => False
  | x, .int k => match asS M x with
    | some ds => match atI ds k with
      | some d => Q d M
      | none => False
    | none => False
  | _, _ => False
/-- the place where a slice's end lies -/
def slN (n d : Nat) : Option Int → Nat
  | none => d
  | some i => if i < 0 then (i + n).toNat else min i.toNat n
def cut {α : Type} (xs : List α) (lo hi : Option Int) : List α :=
  (xs.drop (slN xs.length 0 lo)).take (slN xs.length xs.length hi - slN xs.length 0 lo)
def sliW (fr : Bool) (x : D) (lo hi : Option Int) (M : Mem) (Q : QK) : Prop :=
  match x with
  | .str z => z.length ≤ sizeLine ∧ Q (.str ⟨(cut z.cps.toList lo hi).toArray⟩) M
  | .tup ds => Q (.tup (cut ds lo hi)) M
  | x => match asL M x with
    | some ds => newL fr (cut ds lo hi) M Q
    | none => False

/-- x[::-1] -/
def revW (fr : Bool) (x : D) (M : Mem) (Q : QK) : Prop :=
  match x with
  | .tup ds => Q (.tup ds.reverse) M
  | x => match asL M x with
    | some ds => newL fr ds.reverse M Q
    | none => False

/-! ### built-ins -/
inductive Bi where
  | len | int_ | list_ | tuple_ | str_ | ord_ | abs_ | min_ | max_ | sum_ | all_ | any_ | sorted_ | dict_
  deriving DecidableEq
/-- the kinds that isinstance asks for -/
inductive Ty where
  | int_ | bool_ | str_ | tuple_ | list_ | dict_
  deriving DecidableEq
def isiB (t : Ty) (x : D) (M : Mem) : Option Bool :=
  match x with
  | .non => some false
  | .bl _ => some (t = .int_ || t = .bool_)
  | .int _ => some (t = .int_)
  | .str _ => some (t = .str_)
  | .tup _ => some (t = .tuple_)
  | .lst _ => some (t = .list_)
  | .scr _ => some (t = .list_)
  | .emp => some (t = .dict_)
  | .loc a => match M a with
    | some (.lst _) => some (t = .list_)
    | some (.dic _) => some (t = .dict_)
    | _ => none
/-- .. of one of these -/
def istB : List Ty → D → Mem → Option Bool
  | [], _, _ => some false
  | t :: ts, x, M => match isiB t x M, istB ts x M with
    | some a, some b => some (a || b)
    | _, _ => none
def bools : List D → Option (List Bool)
  | [] => some []
  | .bl i :: ds => (bools ds).map (i :: ·)
  | _ :: _ => none
def lenW (x : D) (M : Mem) (Q : QK) : Prop :=
  match x with
  | .str z => z.length ≤ sizeLine ∧ Q (.int z.length) M
  | x => match asS M x with
    | some ds => Q (.int ds.length) M
    | none => False
def signs (z : Str) : List D := z.cps.toList.map fun c => .str ⟨#[c]⟩
def max2 (i j : Int) : Int := if i < j then j else i
def min2 (i j : Int) : Int := if j < i then j else i
/-- pairs of texts -/
def prS (p : Str × Str) : PyData := .tuple [.str p.1, .str p.2]
def twoD (p : Str × Str) : D := .tup [.str p.1, .str p.2]
def twoS : List D → Option (List (Str × Str))
  | [] => some []
  | .tup [.str a, .str b] :: ds => match twoS ds with
    | some ps => some ((a, b) :: ps)
    | none => none
  | _ => none
/-- tuples of ints, none of them empty -/
def inP (ns : List Int) : PyData := .tuple (ns.map .int)
def intT (ns : List Int) : D := .tup (ns.map .int)
def intTs : List D → Option (List (List Int))
  | [] => some []
  | .tup (x :: xs) :: ds => match intsOf (x :: xs), intTs ds with
    | some (n :: ns), some ps => some ((n :: ns) :: ps)
    | _, _ => none
  | _ => none
/-- pairs of a key and a thing -/
def prsD : List D → Option (List (Sum Int Str × D))
  | [] => some []
  | .tup [k, v] :: r => match keyD k, prsD r with
    | some k, some kvs => some ((k, v) :: kvs)
    | _, _ => none
  | _ => none
def putD {κ : Type} [DecidableEq κ] (kvs : List (κ × D)) (k : κ) (v : D) : List (κ × D) :=
  if (kvs.any fun kv => decide (kv.1 = k)) = true then kvs.map (fun kv => if kv.1 = k then (kv.1, v) else kv) else kvs ++ [(k, v)]
def mergeD (kvs more : List (Sum Int Str × D)) : List (Sum Int Str × D) := more.foldl (fun acc kv => putD acc kv.1 kv.2) kvs
/-- the keys of a dict, all ints -/
def keysI : List (Sum Int Str × D) → Option (List Int)
  | [] => some []
  | (.inl i, _) :: r => (keysI r).map (i :: ·)
  | _ :: _ => none
/-- sorted of a dict -/
def sortD (fr : Bool) (x : D) (M : Mem) (Q : QK) : Prop :=
  match dicAt M x with
  | some kvs => match keysI kvs with
    | some ns => ns.length < 64 ∧ ∀ ns' : List Int, ns'.Perm ns → ns'.Pairwise (· ≤ ·) → newL fr (ns'.map D.int) M Q
    | none => False
  | none => False
def biW (b : Bi) (fr : Bool) (ds : List D) (M : Mem) (Q : QK) : Prop :=
  match b, ds with
  | .len, [x] => lenW x M Q
  | .int_, [.int i] => Q (.int i) M
  | .int_, [.bl k] => Q (.int (if k then 1 else 0)) M
  | .int_, [.str a] => a.length ≤ 640 ∧ match PySem.intText? a with
    | some n => Q (.int n) M
    | none => False
  | .list_, [.str z] => z.length ≤ sizeLine ∧ newL fr (signs z) M Q
  | .list_, [x] => match asS M x with
    | some ds => newL fr ds M Q
    | none => False
  | .tuple_, [.tup ds] => Q (.tup ds) M
  | .tuple_, [x] => match asL M x with
    | some ds => Q (.tup ds) M
    | none => False
  | .str_, [.int i] => i.natAbs.log2 < 1920 ∧ Q (.str (toString i)) M
  | .ord_, [.str x] => x.length = 1 ∧ Q (.int (x.cps.getD 0 0 : Nat)) M
  | .abs_, [.int i] => Q (.int (if i < 0 then -i else i)) M
  | .min_, [.int i, .int j] => Q (.int (if j < i then j else i)) M
  | .max_, [.int i, .int j] => Q (.int (if j > i then j else i)) M
  | .min_, [.int i, .int j, .int k] => Q (.int (min2 (min2 i j) k)) M
  | .max_, [.int i, .int j, .int k] => Q (.int (max2 (max2 i j) k)) M
  | .min_, [x] => match asL M x with
    | some ds => match intsOf ds with
      | some ns => 0 < ns.length ∧ ∀ m, m ∈ ns → (∀ y, y ∈ ns → m ≤ y) → Q (.int m) M
      | none => False
    | none => False
  | .max_, [x] => match asL M x with
    | some ds => match intsOf ds with
      | some ns => 0 < ns.length ∧ ∀ m, m ∈ ns → (∀ y, y ∈ ns → y ≤ m) → Q (.int m) M
      | none => False
    | none => False
  | .sum_, [x] => match asL M x with
    | some ds => match intsOf ds with
      | some ns => Q (.int ns.sum) M
      | none => False
    | none => False
  | .sorted_, [x] => match asL M x with
    | some ds => match intsOf ds with
      | some ns => ∀ ns' : List Int, ns'.Perm ns → ns'.Pairwise (· ≤ ·) → newL fr (ns'.map D.int) M Q
      | none => match twoS ds with
        | some ps => ∀ ps' : List (Str × Str), ps'.Perm ps → ps'.Pairwise (fun a b => PySem.W.dataLe false prS a b = true) → newL fr (ps'.map twoD) M Q
        | none => match intTs ds with
          | some ps => ∀ ps' : List (List Int), ps'.Perm ps → ps'.Pairwise (fun a b => PySem.W.dataLe false inP a b = true) → newL fr (ps'.map intT) M Q
          | none => False
    | none => sortD fr x M Q
  | .all_, [x] => match asL M x with
    | some ds => match bools ds with
      | some bs => Q (.bl (bs.all id)) M
      | none => False
    | none => False
  | .dict_, [x] => match asL M x with
    | some ds => match prsD ds with
      | some kvs => ∀ p, M p = none → Q (.loc p) (M.upd p (.dic (mergeD [] kvs)))
      | none => False
    | none => False
  | _, _ => False

/-! ### methods of built-in kinds -/
inductive Bm where
  | append | extend | index | join | pop | reverse_ | clear | insert | find | upper | split | partition
  deriving DecidableEq
def strsOf : List D → Option (List Str)
  | [] => some []
  | .str i :: ds => (strsOf ds).map (i :: ·)
  | _ :: _ => none
/-- what a method's receiver must be -/
def rcvW (b : Bm) (x : D) (M : Mem) : Prop :=
  match b with
  | .append => (asL M x).isSome = true
  | .extend => (asL M x).isSome = true
  | .index => (asL M x).isSome = true
  | .pop => (asL M x).isSome = true
  | .reverse_ => (asL M x).isSome = true
  | .clear => (asL M x).isSome = true
  | .insert => (asL M x).isSome = true
  | _ => match x with
    | .str _ => True
    | _ => False
def eqAll (d : PyData) : List PyData → Bool
  | [] => false
  | z :: zs => PyData.eqv z d || eqAll d zs
/-- the place of the first equal thing -/
def firstOf (d : PyData) : List PyData → Nat → Option Nat
  | [], _ => none
  | z :: zs, n => if PyData.eqv z d = true then some n else firstOf d zs (n + 1)
def bmW (b : Bm) (fr : Bool) (x : D) (ds : List D) (M : Mem) (Q : QK) : Prop :=
  match b, x, ds with
  | .append, .loc a, [y] => match M a with
    | some (.lst xs) => xs.length < sizeLine ∧ Q .non (M.upd a (.lst (xs ++ [y])))
    | _ => False
  | .extend, .loc a, [y] => match M a, asLT M y with
    | some (.lst xs), some ys => xs.length + ys.length ≤ sizeLine ∧ Q .non (M.upd a (.lst (xs ++ ys)))
    | _, _ => False
  | .reverse_, .loc a, [] => match M a with
    | some (.lst xs) => Q .non (M.upd a (.lst xs.reverse))
    | _ => False
  | .clear, .loc a, [] => match M a with
    | some (.lst xs) => Q .non (M.upd a (.lst []))
    | _ => False
  | .insert, .loc a, [.int i, y] => match M a with
    | some (.lst xs) => xs.length < sizeLine ∧ 0 ≤ i ∧ i < 2 ^ 63 ∧ Q .non (M.upd a (.lst (xs.take i.toNat ++ [y] ++ xs.drop i.toNat)))
    | _ => False
  | .pop, .loc a, [.int i] => match M a with
    | some (.lst xs) => 0 ≤ i ∧ i < 2 ^ 63 ∧ match xs[i.toNat]? with
      | some y => Q y (M.upd a (.lst (xs.eraseIdx i.toNat)))
      | none => False
    | _ => False
  | .pop, .loc a, [] => match M a with
    | some (.lst xs) => match xs[xs.length - 1]? with
      | some y => Q y (M.upd a (.lst xs.dropLast))
      | none => False
    | _ => False
  | .join, .str a, [y] => match asS M y with
    | some ys => match strsOf ys with
      | some zs => (zs.map (·.length)).sum + zs.length * a.length ≤ 16777216 ∧ Q (.str (Txt.join a zs)) M
      | none => False
    | none => False
  | .index, x, [y] => match asL M x, toPyM M y with
    | some xs, some d => match toPys xs with
      | some ps => SeqAt.shaped (.list ps) = true ∧ SeqAt.shaped d = true ∧ match firstOf d ps 0 with
        | some j => Q (.int (j : Nat)) M
        | none => False
      | none => False
    | _, _ => False
  | .find, .str a, [.str b] => Q (.int (Txt.find a b)) M
  | .upper, .str a, [] => a.length ≤ 5592405 ∧ Q (.str (Txt.upper a)) M
  | .split, .str a, [.str b] => (b.length == 0) = false ∧ a.length + 2 ≤ sizeLine ∧ newL fr ((Txt.split a b).map D.str) M Q
  | .partition, .str a, [.str b] => (b.length == 0) = false ∧ a.length ≤ sizeLine ∧ Q (.tup [.str (Txt.partition a b).1, .str (Txt.partition a b).2.1, .str (Txt.partition a b).2.2]) M
  | _, _, _ => False

/-! ### dicts with ints and texts as keys -/
def dgetW (x k : D) (M : Mem) (Q : QK) : Prop :=
  match x with
  | .loc a => match M a, keyD k with
    | some (.dic kvs), some k => match lookD kvs k with
      | some v => Q v M
      | none => False
    | some (.fdc kvs), some k => match lookD kvs k with
      | some v => Q v M
      | none => False
    | some (.dtc kvs), _ => match keyT k with
      | some k => match lookD kvs k with
        | some v => Q v M
        | none => False
      | none => False
    | _, _ => False
  | _ => False
def dgtW (x k : D) (M : Mem) (Q : QK) : Prop :=
  match dicAt M x, keyD k with
  | some kvs, some k => Q ((lookD kvs k).getD .non) M
  | _, _ => False
/-- d.get(k, z) -/
def dg2W (x k z : D) (M : Mem) (Q : QK) : Prop :=
  match dicAt M x, keyD k with
  | some kvs, some k => Q ((lookD kvs k).getD z) M
  | _, _ => False
def dputW (o k v : D) (M : Mem) (Q : Mem → Prop) : Prop :=
  match o with
  | .loc a => match M a, keyD k with
    | some (.dic kvs), some k => kvs.length < sizeLine ∧ Q (M.upd a (.dic (putD kvs k v)))
    | some (.dtc kvs), _ => match keyT k with
      | some k => kvs.length < sizeLine ∧ Q (M.upd a (.dtc (putD kvs k v)))
      | none => False
    | _, _ => False
  | _ => False

/-- xs[i:j] = ys -/
def sasW (o : D) (l h : Option Int) (x : D) (M : Mem) (Q : Mem → Prop) : Prop :=
  match o, l, h, x with
  | .loc a, some i, some j, .loc b => match M a, M b with
    | some (.lst xs), some (.lst ys) => a ≠ b ∧ (0 ≤ i ∧ i ≤ j ∧ j ≤ (xs.length : Int)) ∧ xs.length + ys.length ≤ sizeLine ∧ Q (M.upd a (.lst (xs.take i.toNat ++ ys ++ xs.drop j.toNat)))
    | _, _ => False
  | _, _, _, _ => False

/-! ### exceptions -/
/-- class c is class d's or stands under it (0: ValueError; 1: the program's own base) -/
def subX (c d : Nat) : Bool := decide (c = d) || decide (d ≤ 1)
def isxW (x : D) (c : Nat) (M : Mem) (Q : QK) : Prop :=
  match x with
  | .loc a => match M a with
    | some (.ins k _) => Q (.bl (subX k c)) M
    | _ => False
  | _ => False
def ixsW (x : D) (cs : List Nat) (M : Mem) (Q : QK) : Prop :=
  match x with
  | .loc a => match M a with
    | some (.ins k _) => Q (.bl (cs.any fun c => subX k c)) M
    | _ => False
  | _ => False
def atrW (x : D) (f : Str) (M : Mem) (Q : QK) : Prop :=
  match x with
  | .loc a => match M a with
    | some (.ins _ fs) => match fs.lookup f with
      | some d => Q d M
      | none => False
    | _ => False
  | _ => False

/-! ### objects -/
def putS (f : Str) (d : D) : List (Str × D) → List (Str × D)
  | [] => [(f, d)]
  | (g, x) :: r => if g = f then (g, d) :: r else (g, x) :: putS f d r
def fldW (x : D) (f : Str) (M : Mem) (Q : QK) : Prop :=
  match x with
  | .loc a => match M a with
    | some (.obj _ fs) => match fs.lookup f with
      | some d => Q d M
      | none => False
    | _ => False
  | _ => False
def sflW (x : D) (f : Str) (v : D) (M : Mem) (Q : Mem → Prop) : Prop :=
  match x with
  | .loc a => match M a with
    | some (.obj c fs) => fs.length < 1000 ∧ Q (M.upd a (.obj c (putS f v fs)))
    | _ => False
  | _ => False
def clsW (x : D) (M : Mem) : Option Nat :=
  match x with
  | .loc a => match M a with
    | some (.obj c _) => some c
    | _ => none
  | _ => none
/-- what the receiver of a method must be -/
def mthW (x : D) (c : Nat) (m : Str) (M : Mem) : Prop :=
  match x with
  | .loc a => match M a with
    | some (.obj k fs) => k = c ∧ fs.lookup m = none
    | _ => False
  | _ => False

/-! ### the language -/
/-- a target: a name, or a tuple of targets (co t (co .. no)) -/
inductive Tg where
  | nm (i : Nat) | no | co (t ts : Tg)
inductive Ex where
  | var (i : Nat)
  | non | bl (b : Bool) | int (i : Int) | str (x : Str)
  | glob (x : Str) (d : D)
  | bin (op : Operator) (fr : Bool) (a b : Ex)
  | neg (a : Ex) | not (a : Ex) | and (a b : Ex) | or (a b : Ex)
  | cmp (op : CmpOp) (a b : Ex)
  | ch2 (o1 o2 : CmpOp) (a b c : Ex)
  | ch3 (o1 o2 o3 : CmpOp) (a b c d : Ex)
  | ife (t a b : Ex)
  | tup (es : Ex) | lst (fr : Bool) (es : Ex) | emp
  -- a dict with written keys; d[k]
  | dct (ks : List (Sum Int Str)) (es : Ex) | dget (a i : Ex)
  | nil | cons (e es : Ex)
  | call (f : Nat) (es : Ex)
  -- [f, g, ..][i](es)
  | cll (fs : List Nat) (i es : Ex)
  | bi (b : Bi) (fr : Bool) (es : Ex)
  | isi (a : Ex) (t : Ty)
  -- isinstance, kinds in a tuple; d.get(k); what is walked: reversed(list)
  | ist (a : Ex) (ts : List Ty) | dgt (d k : Ex) | itr (e : Ex)
  -- isinstance of a caught exception; its field
  | isx (a : Ex) (c : Nat) | atr (a : Ex) (f : Str)
  -- an object's field; o.m(es), m of class c the def f; C(es), c its number, f its __init__
  | fld (a : Ex) (f : Str) | mth (o : Ex) (c : Nat) (m : Str) (f : Nat) (es : Ex) | mk (c f : Nat) (es : Ex)
  -- isinstance of a caught exception, classes in a tuple
  | ixs (a : Ex) (cs : List Nat)
  | bm (b : Bm) (fr : Bool) (o : Ex) (es : Ex)
  | idx (a i : Ex)
  | sli (fr : Bool) (a lo hi : Ex)
  | rev (fr : Bool) (a : Ex)
  -- list(range(..))
  | lrg (fr : Bool) (es : Ex)
  -- list(reversed(list)); o.m(es), m of one of some classes; d.get(k, e); what is never come to
  | lrv (fr : Bool) (a : Ex) | mtv (o : Ex) (m : Str) (cs : List (Nat × Nat)) (es : Ex) | dg2 (d k e : Ex) | nev
  | part (a : Ex) | nopart
  | comp (fr : Bool) (own : List Nat) (tg : Tg) (iter cond elt : Ex)
  -- what is walked
  | itl (e : Ex) | itt (e : Ex) | its (e : Ex) | it1 (a : Ex) | it2 (a b : Ex) | it3 (a b c : Ex) | ite (e : Ex) | itz (a b : Ex)
  -- enumerate, its pairs bound to one name
  | itn (e : Ex)
  -- a dict that stays is walked; {} whose keys will be tuples
  | itd (e : Ex) | dnt

/-- a walk: the things, and what must stand still -/
structure Wk where
  items : List D
  still : Mem → Prop

def slv (env : Env) (i : Nat) : Option D := (env[i]?).join
def setV (env : Env) (i : Nat) (d : D) : Env := env.set i (some d)
/-! a store to a target -/
mutual
def tgW : Tg → D → Env → (Env → Prop) → Prop
  | .nm i, d, env, Q => Q (setV env i d)
  | .no, d, env, Q => match d with
    | .tup [] => Q env
    | .lst [] => Q env
    | _ => False
  | .co t ts, d, env, Q => match d with
    | .tup (d :: ds) => tgW t d env fun e => tgsW ts ds e Q
    | .lst (d :: ds) => tgW t d env fun e => tgsW ts ds e Q
    | _ => False
def tgsW : Tg → List D → Env → (Env → Prop) → Prop
  | .no, [], env, Q => Q env
  | .co t ts, d :: ds, env, Q => tgW t d env fun e => tgsW ts ds e Q
  | _, _, _, _ => False
end
def stillAt (d : D) (ds : List D) : Mem → Prop :=
  match d with
  | .loc a => fun M' => M' a = some (.lst ds)
  | _ => fun _ => True
/-- a list (or a tuple) walked -/
def walkL (d : D) (M : Mem) (Q : Wk → Mem → Prop) : Prop :=
  match d with
  | .tup ds => Q ⟨ds, fun _ => True⟩ M
  | d => match asL M d with
    | some ds => Q ⟨ds, stillAt d ds⟩ M
    | none => False
def walkT (d : D) (M : Mem) (Q : Wk → Mem → Prop) : Prop :=
  match d with
  | .tup ds => Q ⟨ds, fun _ => True⟩ M
  | _ => False
def walkS (d : D) (M : Mem) (Q : Wk → Mem → Prop) : Prop :=
  match d with
  | .str z => Q ⟨signs z, fun _ => True⟩ M
  | _ => False
def rng (lo : Int) (n : Nat) : List D := (List.range n).map fun i => .int (lo + (i : Nat))
def rngC (lo c : Int) (n : Nat) : List D := (List.range n).map fun i => .int (lo + (i : Nat) * c)
def inB (i : Int) : Prop := -(2 ^ 62) ≤ i ∧ i < 2 ^ 62
def walkR (ds : List D) (M : Mem) (Q : Wk → Mem → Prop) : Prop :=
  match ds with
  | [.int j] => inB j ∧ Q ⟨rng 0 j.toNat, fun _ => True⟩ M
  | [.int i, .int j] => (inB i ∧ inB j) ∧ Q ⟨rng i (j - i).toNat, fun _ => True⟩ M
  | [.int i, .int j, .int c] => match decide (0 < c) with
    | true => (inB i ∧ inB j ∧ c < 1000000) ∧ Q ⟨rngC i c (Builtin.Range.rangeSize i j c).toNat, fun _ => True⟩ M
    | false => (inB i ∧ inB j ∧ c = -1) ∧ Q ⟨rngC i (-1) (i - j).toNat, fun _ => True⟩ M
  | _ => False
def enumD : Nat → List D → List D
  | _, [] => []
  | n, d :: ds => .tup [.int (n : Nat), d] :: enumD (n + 1) ds
/-- a list (or a tuple) numbered -/
def enumW (x : D) (M : Mem) (Q : Wk → Mem → Prop) : Prop :=
  match x with
  | .tup ds => Q ⟨enumD 0 ds, fun _ => True⟩ M
  | x => match asL M x with
    | some ds => Q ⟨enumD 0 ds, stillAt x ds⟩ M
    | none => False
def zipD : List D → List D → List D
  | d :: ds, e :: es => .tup [d, e] :: zipD ds es
  | _, _ => []
/-- two lists, or two tuples, side by side -/
def zipW (x y : D) (M : Mem) (Q : Wk → Mem → Prop) : Prop :=
  match x, y with
  | .tup ds, .tup es => Q ⟨zipD ds es, fun _ => True⟩ M
  | x, y => match asL M x, asL M y with
    | some ds, some es => Q ⟨zipD ds es, fun M => stillAt x ds M ∧ stillAt y es M⟩ M
    | _, _ => False
/-- a comprehension: thing by thing -/
def compW (step : D → Env → Mem → (Option D → Mem → Prop) → Prop) (still : Mem → Prop) (env : Env) : List D → List D → Mem → AK → Prop
  | [], acc, M, Q => still M ∧ Q acc M
  | d :: ds, acc, M, Q => still M ∧ step d env M fun o M1 => match o with
    | some y => acc.length < sizeLine ∧ compW step still env ds (acc ++ [y]) M1 Q
    | none => compW step still env ds acc M1 Q
def wipeE (env : Env) (own : List Nat) : Env := own.foldr (fun i e => e.set i none) env

section
variable (R : Nat → List D → Mem → QK → XQ → Prop)
mutual
def wpE : Ex → Env → Mem → QK → XQ → Prop
  | .var i, env, M, Q, _ => match slv env i with
    | some d => Q d M
    | none => False
  | .non, _, M, Q, _ => Q .non M
  | .bl b, _, M, Q, _ => Q (.bl b) M
  | .int i, _, M, Q, _ => Q (.int i) M
  | .str x, _, M, Q, _ => Q (.str x) M
  | .glob _ d, _, M, Q, _ => Q d M
  | .bin op fr a b, env, M, Q, E => wpE a env M (fun x M1 => wpE b env M1 (fun y M2 => binW op fr x y M2 Q) E) E
  | .neg a, env, M, Q, E => wpE a env M (fun x M1 => negW x M1 Q) E
  | .not a, env, M, Q, E => wpE a env M (fun x M1 => truW x M1 fun b M2 => Q (.bl (!b)) M2) E
  | .and a b, env, M, Q, E => wpE a env M (fun x M1 => truW x M1 fun c M2 => match c with
      | true => wpE b env M2 Q E
      | false => Q x M2) E
  | .or a b, env, M, Q, E => wpE a env M (fun x M1 => truW x M1 fun c M2 => match c with
      | true => Q x M2
      | false => wpE b env M2 Q E) E
  | .cmp op a b, env, M, Q, E => wpE a env M (fun x M1 => wpE b env M1 (fun y M2 => cmpW op x y M2 Q) E) E
  | .ch2 o1 o2 a b c, env, M, Q, E => wpE a env M (fun x M1 => wpE b env M1 (fun y M2 => cmpW o1 x y M2 fun r M3 => match r with
      | .bl true => wpE c env M3 (fun z M4 => cmpW o2 y z M4 Q) E
      | .bl false => Q (.bl false) M3
      | _ => False) E) E
  | .ch3 o1 o2 o3 a b c d, env, M, Q, E => wpE a env M (fun x M1 => wpE b env M1 (fun y M2 => cmpW o1 x y M2 fun r M3 => match r with
      | .bl true => wpE c env M3 (fun z M4 => cmpW o2 y z M4 fun r2 M5 => match r2 with
        | .bl true => wpE d env M5 (fun u M6 => cmpW o3 z u M6 Q) E
        | .bl false => Q (.bl false) M5
        | _ => False) E
      | .bl false => Q (.bl false) M3
      | _ => False) E) E
  | .ife t a b, env, M, Q, E => wpE t env M (fun x M1 => truW x M1 fun c M2 => match c with
      | true => wpE a env M2 Q E
      | false => wpE b env M2 Q E) E
  | .tup es, env, M, Q, E => wpA es env M (fun ds M1 => ds.length ≤ sizeLine ∧ Q (.tup ds) M1) E
  | .lst fr es, env, M, Q, E => wpA es env M (fun ds M1 => newL fr ds M1 Q) E
  | .emp, _, M, Q, _ => Q .emp M
  | .dnt, _, M, Q, _ => ∀ p, M p = none → Q (.loc p) (M.upd p (.dtc []))
  | .dct ks es, env, M, Q, E => ks.length ≤ 15 ∧ ∀ p, M p = none → wpA es env (M.upd p (.dic [])) (fun ds M1 => M1 p = some (.dic []) ∧ ks.length = ds.length ∧ Q (.loc p) (M1.upd p (.dic (mergeD [] (ks.zip ds))))) E
  | .dget a i, env, M, Q, E => wpE a env M (fun x M1 => wpE i env M1 (fun y M2 => dgetW x y M2 Q) E) E
  | .call f es, env, M, Q, E => wpA es env M (fun ds M1 => R f ds M1 Q E) E
  | .cll fs i es, env, M, Q, E => wpE i env M (fun y M1 => match y with
      | .int k => match atI fs k with
        | some f => wpA es env M1 (fun ds M2 => R f ds M2 Q E) E
        | none => False
      | _ => False) E
  | .bi b fr es, env, M, Q, E => wpA es env M (fun ds M1 => biW b fr ds M1 Q) E
  | .isi a t, env, M, Q, E => wpE a env M (fun x M1 => match isiB t x M1 with
      | some b => Q (.bl b) M1
      | none => False) E
  | .ist a ts, env, M, Q, E => wpE a env M (fun x M1 => match istB ts x M1 with
      | some b => Q (.bl b) M1
      | none => False) E
  | .dgt a i, env, M, Q, E => wpE a env M (fun x M1 => (dicAt M1 x).isSome = true ∧ wpE i env M1 (fun y M2 => dgtW x y M2 Q) E) E
  | .isx a c, env, M, Q, E => wpE a env M (fun x M1 => isxW x c M1 Q) E
  | .ixs a cs, env, M, Q, E => wpE a env M (fun x M1 => ixsW x cs M1 Q) E
  | .atr a f, env, M, Q, E => wpE a env M (fun x M1 => atrW x f M1 Q) E
  | .fld a f, env, M, Q, E => wpE a env M (fun x M1 => fldW x f M1 Q) E
  | .mth o c m f es, env, M, Q, E => wpE o env M (fun x M1 => mthW x c m M1 ∧ wpA es env M1 (fun ds M2 => R f (x :: ds) M2 Q E) E) E
  | .mk c f es, env, M, Q, E => wpA es env M (fun ds M1 => ∀ p, M1 p = none → R f (.loc p :: ds) (M1.upd p (.obj c [])) (fun v M2 => v = .non ∧ Q (.loc p) M2) E) E
  | .bm b fr o es, env, M, Q, E => wpE o env M (fun x M1 => rcvW b x M1 ∧ wpA es env M1 (fun ds M2 => bmW b fr x ds M2 Q) E) E
  | .idx a i, env, M, Q, E => wpE a env M (fun x M1 => wpE i env M1 (fun y M2 => idxW x y M2 Q) E) E
  | .sli fr a lo hi, env, M, Q, E => wpE a env M (fun x M1 => wpP lo env M1 (fun l M2 => wpP hi env M2 (fun h M3 => sliW fr x l h M3 Q) E) E) E
  | .lrg fr es, env, M, Q, E => wpA es env M (fun ds M1 => walkR ds M1 fun w M2 => newL fr w.items M2 Q) E
  | .lrv fr a, env, M, Q, E => wpE a env M (fun x M1 => match asL M1 x with
      | some ds => newL fr ds.reverse M1 Q
      | none => False) E
  | .mtv o m cs es, env, M, Q, E => ∃ c f, (c, f) ∈ cs ∧ wpE o env M (fun x M1 => mthW x c m M1 ∧ wpA es env M1 (fun ds M2 => R f (x :: ds) M2 Q E) E) E
  | .dg2 a i e, env, M, Q, E => wpE a env M (fun x M1 => (dicAt M1 x).isSome = true ∧ wpE i env M1 (fun y M2 => wpE e env M2 (fun z M3 => dg2W x y z M3 Q) E) E) E
  | .rev fr a, env, M, Q, E => wpE a env M (fun x M1 => revW fr x M1 Q) E
  | .comp fr own tg iter cond elt, env, M, Q, E => wpW iter env M (fun w M1 =>
      compW (fun d e M Q => tgW tg d e fun e' => wpC cond e' M (fun b M1 => match b with
        | true => wpE elt e' M1 (fun y M2 => Q (some y) M2) fun _ _ => False
        | false => Q none M1) fun _ _ => False) w.still (wipeE env own) w.items [] M1 fun ds M2 => newL fr ds M2 Q) E
  | _, _, _, _, _ => False
/-- arguments -/
def wpA : Ex → Env → Mem → AK → XQ → Prop
  | .nil, _, M, Q, _ => Q [] M
  | .cons e es, env, M, Q, E => wpE e env M (fun x M1 => wpA es env M1 (fun ds M2 => Q (x :: ds) M2) E) E
  | _, _, _, _, _ => False
/-- an end of a slice -/
def wpP : Ex → Env → Mem → (Option Int → Mem → Prop) → XQ → Prop
  | .nopart, _, M, Q, _ => Q none M
  | .part e, env, M, Q, E => wpE e env M (fun x M1 => match x with
      | .int i => Q (some i) M1
      | _ => False) E
  | _, _, _, _, _ => False
/-- a comprehension's test -/
def wpC : Ex → Env → Mem → BK → XQ → Prop
  | .nopart, _, M, Q, _ => Q true M
  | .part e, env, M, Q, E => wpE e env M (fun x M1 => truW x M1 Q) E
  | _, _, _, _, _ => False
/-- what is walked -/
def wpW : Ex → Env → Mem → (Wk → Mem → Prop) → XQ → Prop
  | .itl e, env, M, Q, E => wpE e env M (fun x M1 => walkL x M1 Q) E
  | .itt e, env, M, Q, E => wpE e env M (fun x M1 => walkT x M1 Q) E
  | .its e, env, M, Q, E => wpE e env M (fun x M1 => walkS x M1 Q) E
  | .it1 a, env, M, Q, E => wpE a env M (fun x M1 => walkR [x] M1 Q) E
  | .it2 a b, env, M, Q, E => wpE a env M (fun x M1 => wpE b env M1 (fun y M2 => walkR [x, y] M2 Q) E) E
  | .it3 a b c, env, M, Q, E => wpE a env M (fun x M1 => wpE b env M1 (fun y M2 => wpE c env M2 (fun z M3 => walkR [x, y, z] M3 Q) E) E) E
  | .ite e, env, M, Q, E => wpE e env M (fun x M1 => enumW x M1 Q) E
  | .itn e, env, M, Q, E => wpE e env M (fun x M1 => match asL M1 x with
      | some ds => Q ⟨enumD 0 ds, stillAt x ds⟩ M1
      | none => False) E
  | .itr e, env, M, Q, E => wpE e env M (fun x M1 => match asL M1 x with
      | some ds => Q ⟨ds.reverse, stillAt x ds⟩ M1
      | none => False) E
  | .itz a b, env, M, Q, E => wpE a env M (fun x M1 => wpE b env M1 (fun y M2 => zipW x y M2 Q) E) E
  | .itd e, env, M, Q, E => wpE e env M (fun x M1 => match fdcAt M1 x with
      | some kvs => Q ⟨kvs.map fun kv => kD kv.1, fun _ => True⟩ M1
      | none => False) E
  | _, _, _, _, _ => False
end
/-- a test -/
def wpT (e : Ex) (env : Env) (M : Mem) (Q : BK) (E : XQ) : Prop := wpE R e env M (fun x M1 => truW x M1 Q) E
end

/-! ### statements -/
/-- targets side by side: a name, a list's place, a dict's key -/
inductive Ts where
  | nm (i : Nat) | sb (o i : Ex) | db (o i : Ex)
inductive Sx where
  | nil | seq (s t : Sx)
  | asg (tg : Tg) (e : Ex)
  | sub (o i e : Ex)
  | dput (o i e : Ex)
  -- o[lo:hi] = e
  | sas (o lo hi e : Ex)
  | aug (i : Nat) (op : Operator) (e : Ex)
  | drop (e : Ex)
  | ret (e : Ex)
  | ife (c : Ex) (s t : Sx)
  | loop (c : Ex) (s : Sx)
  | each (tg : Tg) (w : Ex) (s : Sx)
  | pass | brk | cnt
  | never
  -- raise C(a), f the field that C's own __init__ writes
  | rse (c : Nat) (f : Str) (a : Ex)
  -- raise C(a), no own __init__
  | rsp (c : Nat) (a : Ex)
  -- try: s, except C as the slot i: t
  | tri (c i : Nat) (s t : Sx)
  -- .. without a name
  | trn (c : Nat) (s t : Sx)
  -- o.f = e; o.f op= e; d[k] op= e; t, u, .. = e
  | sfl (o : Ex) (f : Str) (e : Ex)
  | fau (o : Ex) (f : Str) (op : Operator) (e : Ex)
  | dau (o i : Ex) (op : Operator) (e : Ex)
  | asu (ts : List Ts) (e : Ex)
  -- raise C(at), raise C(at, side), C's own __init__ with both, side None at first
  | rsb (c : Nat) (es : Ex)
  -- try: s, except C (as i): t, except D (as j): u
  | tr2 (c : Nat) (i : Option Nat) (t : Sx) (d : Nat) (j : Option Nat) (u : Sx) (s : Sx)
  -- ghost: the list in a place is kept as it is from here on; a dict
  | frz (i : Nat) | frd (i : Nat)

structure Ends where
  nx : Env → Mem → Prop
  rt : QK
  bk : Env → Mem → Prop
  ct : Env → Mem → Prop
  ex : Exn → Env → Mem → Prop

def putW (o i v : D) (M : Mem) (Q : Mem → Prop) : Prop :=
  match o, i with
  | .loc a, .int k => match M a with
    | some (.lst xs) => match ixN xs.length k with
      | some j => Q (M.upd a (.lst (xs.set j v)))
      | none => False
    | _ => False
  | _, _ => False
def augW (op : Operator) (x y : D) (M : Mem) (Q : QK) : Prop :=
  match op, x, y with
  | .Add, .int i, .int j => Q (.int (i + j)) M
  | .Sub, .int i, .int j => Q (.int (i - j)) M
  | _, _, _ => False
/-- a loop over things -/
def eachW (body : Ends → Env → Mem → Prop) (tg : Tg) (still : Mem → Prop) (N : Ends) : List D → Env → Mem → Prop
  | [], env, M => still M ∧ N.nx env M
  | d :: ds, env, M => still M ∧ tgW tg d env fun e => body { N with nx := eachW body tg still N ds, ct := eachW body tg still N ds, bk := N.nx } e M
/-- a while loop that ends within n turns -/
def loopW (test : Env → Mem → (Bool → Mem → Prop) → Prop) (body : Ends → Env → Mem → Prop) (D : Ends) : Nat → Env → Mem → Prop
  | 0, _, _ => False
  | n + 1, env, M => test env M fun c M1 => match c with
    | true => body { D with nx := loopW test body D n, ct := loopW test body D n, bk := D.nx } env M1
    | false => D.nx env M1

section
variable (R : Nat → List D → Mem → QK → XQ → Prop)
def tsW : List Ts → List D → Env → Mem → (Env → Mem → Prop) → (Exn → Env → Mem → Prop) → Prop
  | [], [], env, M, Q, _ => Q env M
  | .nm i :: ts, d :: ds, env, M, Q, E => tsW ts ds (setV env i d) M Q E
  | .sb o i :: ts, d :: ds, env, M, Q, E => wpE R o env M (fun a M1 => wpE R i env M1 (fun k M2 => putW a k d M2 fun M3 => tsW ts ds env M3 Q E) fun z M => E z env M) fun z M => E z env M
  | .db o i :: ts, d :: ds, env, M, Q, E => wpE R o env M (fun a M1 => wpE R i env M1 (fun k M2 => dputW a k d M2 fun M3 => tsW ts ds env M3 Q E) fun z M => E z env M) fun z M => E z env M
  | _, _, _, _, _, _ => False
/-- a clause's suite: the exception, if it is named, stands at a new place -/
def clW (t : Ends → Env → Mem → Prop) (i : Option Nat) (N : Ends) (z : Exn) (env : Env) (M : Mem) : Prop :=
  match i with
  | some i => ∀ p, M p = none → t ⟨fun e M => N.nx (e.set i none) M, N.rt, fun e M => N.bk (e.set i none) M, fun e M => N.ct (e.set i none) M, fun _ _ _ => False⟩ (setV env i (.loc p)) (M.upd p (.ins z.c z.fs))
  | none => t ⟨N.nx, N.rt, N.bk, N.ct, fun _ _ _ => False⟩ env M
def wpS : Sx → Ends → Env → Mem → Prop
  | .nil, D, env, M => D.nx env M
  | .seq s t, D, env, M => wpS s { D with nx := wpS t D } env M
  | .asg tg e, D, env, M => wpE R e env M (fun x M1 => tgW tg x env fun e' => D.nx e' M1) fun z M1 => D.ex z env M1
  | .sub o i e, D, env, M => wpE R e env M (fun x M1 => wpE R o env M1 (fun a M2 => wpE R i env M2 (fun k M3 => putW a k x M3 fun M4 => D.nx env M4) fun z M => D.ex z env M) fun z M => D.ex z env M) fun z M => D.ex z env M
  | .dput o i e, D, env, M => wpE R e env M (fun x M1 => wpE R o env M1 (fun a M2 => wpE R i env M2 (fun k M3 => dputW a k x M3 fun M4 => D.nx env M4) fun z M => D.ex z env M) fun z M => D.ex z env M) fun z M => D.ex z env M
  | .sas o lo hi e, D, env, M => wpE R e env M (fun x M1 => wpE R o env M1 (fun a M2 => wpP R lo env M2 (fun l M3 => wpP R hi env M3 (fun h M4 => sasW a l h x M4 fun M5 => D.nx env M5) fun z M => D.ex z env M) fun z M => D.ex z env M) fun z M => D.ex z env M) fun z M => D.ex z env M
  | .aug i op e, D, env, M => match slv env i with
    | some x => wpE R e env M (fun y M1 => augW op x y M1 fun z M2 => D.nx (setV env i z) M2) fun z M1 => D.ex z env M1
    | none => False
  | .drop e, D, env, M => wpE R e env M (fun _ M1 => D.nx env M1) fun z M1 => D.ex z env M1
  | .ret e, D, env, M => wpE R e env M (fun x M1 => D.rt x M1) fun z M1 => D.ex z env M1
  | .ife c s t, D, env, M => wpT R c env M (fun b M1 => match b with
      | true => wpS s D env M1
      | false => wpS t D env M1) fun z M1 => D.ex z env M1
  | .loop c s, D, env, M => ∃ n, loopW (fun e M Q => wpT R c e M Q fun z M1 => D.ex z e M1) (wpS s) D n env M
  | .each tg w s, D, env, M => wpW R w env M (fun w M1 => eachW (wpS s) tg w.still D w.items env M1) fun z M1 => D.ex z env M1
  | .pass, D, env, M => D.nx env M
  | .brk, D, env, M => D.bk env M
  | .cnt, D, env, M => D.ct env M
  | .never, _, _, _ => False
  | .rse c f a, D, env, M => wpE R a env M (fun x M1 => D.ex ⟨c, [(f, x)]⟩ env M1) fun z M1 => D.ex z env M1
  | .rsp c a, D, env, M => wpE R a env M (fun _ M1 => D.ex ⟨c, []⟩ env M1) fun z M1 => D.ex z env M1
  | .tri c i s t, D, env, M => wpS s ⟨D.nx, D.rt, D.bk, D.ct, fun z env' M' => match subX z.c c with
      | true => ∀ p, M' p = none → wpS t ⟨fun e M => D.nx (e.set i none) M, D.rt, fun e M => D.bk (e.set i none) M, fun e M => D.ct (e.set i none) M, fun _ _ _ => False⟩ (setV env' i (.loc p)) (M'.upd p (.ins z.c z.fs))
      | false => D.ex z env' M'⟩ env M
  | .trn c s t, D, env, M => wpS s ⟨D.nx, D.rt, D.bk, D.ct, fun z env' M' => match subX z.c c with
      | true => wpS t ⟨D.nx, D.rt, D.bk, D.ct, fun _ _ _ => False⟩ env' M'
      | false => D.ex z env' M'⟩ env M
  | .sfl o f e, D, env, M => wpE R e env M (fun x M1 => wpE R o env M1 (fun a M2 => sflW a f x M2 fun M3 => D.nx env M3) fun z M => D.ex z env M) fun z M => D.ex z env M
  | .fau o f op e, D, env, M => wpE R o env M (fun a M1 => fldW a f M1 fun x M2 => wpE R e env M2 (fun y M3 => augW op x y M3 fun z M4 => clsW a M4 = clsW a M1 ∧ sflW a f z M4 fun M5 => D.nx env M5) fun z M => D.ex z env M) fun z M => D.ex z env M
  | .dau o i op e, D, env, M => wpE R o env M (fun a M1 => wpE R i env M1 (fun k M2 => dgetW a k M2 fun x M3 => wpE R e env M3 (fun y M4 => augW op x y M4 fun z M5 => dputW a k z M5 fun M6 => D.nx env M6) fun z M => D.ex z env M) fun z M => D.ex z env M) fun z M => D.ex z env M
  | .asu ts e, D, env, M => wpE R e env M (fun x M1 => match x with
      | .tup ds => ts.length = ds.length ∧ tsW R ts ds env M1 D.nx D.ex
      | _ => False) fun z M => D.ex z env M
  | .rsb c es, D, env, M => wpA R es env M (fun ds M1 => match ds with
      | [a] => D.ex ⟨c, [("side", .non), ("at", a)]⟩ env M1
      | [a, b] => D.ex ⟨c, [("side", b), ("at", a)]⟩ env M1
      | _ => False) fun z M => D.ex z env M
  | .tr2 c i t d j u s, D, env, M => wpS s ⟨D.nx, D.rt, D.bk, D.ct, fun z env' M' => match subX z.c c with
      | true => clW (wpS t) i D z env' M'
      | false => match subX z.c d with
        | true => clW (wpS u) j D z env' M'
        | false => D.ex z env' M'⟩ env M
  | .frz i, D, env, M => match slv env i with
    | some (.loc a) => match M a with
      | some (.lst ds) => D.nx (setV env i (.lst ds)) (M.del a)
      | _ => False
    | _ => False
  | .frd i, D, env, M => match slv env i with
    | some (.loc a) => match M a with
      | some (.dic kvs) => D.nx env (M.upd a (.fdc kvs))
      | _ => False
    | _ => False
end

/-! ### defs -/
structure Fn where
  np : Nat
  ns : Nat
  body : Sx
mutual
/-- a place replaced by a tree -/
def repD (a : Addr) (ds : List D) : D → D
  | .tup xs => .tup (repDs a ds xs)
  | .lst xs => .lst (repDs a ds xs)
  | .loc b => if b = a then .lst ds else .loc b
  | d => d
def repDs (a : Addr) (ds : List D) : List D → List D
  | [] => []
  | x :: xs => repD a ds x :: repDs a ds xs
end
/-- lists in the memory become trees -/
inductive Frz : D → Mem → QK → Prop
  | done {d M} {Q : QK} : Q d M → Frz d M Q
  | step {d M a ds} {Q : QK} : M a = some (.lst ds) → Frz (repD a ds d) (M.del a) Q → Frz d M Q

def start (fn : Fn) (ds : List D) : Env := ds.map some ++ List.replicate (fn.ns - fn.np) none
/-- a def at a level: k calls, one in another, may be under way -/
def run (T : Nat → Option Fn) : Nat → Nat → List D → Mem → QK → XQ → Prop
  | 0, _, _, _, _, _ => False
  | k + 1, f, ds, M, Q, E => match T f with
    | some fn => ds.length = fn.np ∧ wpS (run T k) fn.body ⟨fun _ M1 => Frz .non M1 Q, fun x M1 => Frz x M1 Q, fun _ _ => False, fun _ _ => False, fun z _ M1 => E z M1⟩ (start fn ds) M
    | none => False
end Wp

/-! WpLrg: list(range(..)). -/
namespace Wp
open PySem PySem.Spec PyProof.Rows L2
def rgcV (lo c : Int) (n : Nat) : List V := (List.range n).map fun i => V.int (lo + (i : Nat) * c)
theorem rgcV_len (lo c : Int) (n : Nat) : (rgcV lo c n).length = n := by unfold rgcV; rw [List.length_map, List.length_range]
theorem vals_rgc {lo c : Int} {n : Nat} {acc : Array Value} (h : ItemsOf (fun i v => ∃ t, v = .int (lo + i * c) t) acc n) : Vals (rgcV lo c n) acc.toList := by
  have e : acc.toList.length = n := by rw [Array.length_toList]; exact h.1
  unfold rgcV
  rw [← e]
  refine vals_of_get acc.toList _ fun j u hj => ?_
  obtain ⟨t, rfl⟩ := h.2 j u (by rw [← hj, Array.getElem?_toList])
  exact ⟨t, rfl⟩
def Rgs (vs : List V) (i j c : Int) : Prop := (vs = [.int j] ∧ i = 0 ∧ c = 1) ∨ (vs = [.int i, .int j] ∧ c = 1) ∨ vs = [.int i, .int j, .int c]
def tRgs (ta : TA) (Q : Int → Int → Int → Hp → Prop)   : L2.St → Hp → Prop := fun σ H => ta σ H fun vs H1 => ∃ i j c, Rgs vs i j c ∧ c ≠ 0 ∧ c.natAbs < 1073741824 ∧ Q i j c H1
section
variable {X : Cx}
theorem rg_eval {e1 : Expr} {es : List Expr} {ta : TA} {p pos : Pos} (hg : Gl X "range") (hm : X.mg "range" = none) (ha : PA X (e1 :: es) ta)
    (hs : starEach (e1 :: es) X.env = (false, eval e1 X.env) :: starEach es X.env) (hpl : (backTo pos (starEach es X.env)).any (·.1) = false)
    (pins : List (Addr × Obj)) (s : Shared) (σ : L2.St) (H : Hp) (Q : Int → Int → Int → Hp → Prop) (I : Inv X pins σ H s) (h : tRgs ta Q σ H) :
    wpAny (model X.prog X.w) X.A (eval (.Call (.Name "range" p) (e1 :: es) [] pos) X.env) (fun x s' => ∃ r a b c t u v H', x = .ref r ∧ IsRange s'.heap r a b c t u v ∧ Inv X pins σ H' s' ∧ Q a b c H') X.xe s := by
  refine Call_ (ld_blt I hg hm boot_range (PyProof.Rows.callWith_type1 (thn (ha.run pos pins s σ H _ I h) fun us s1 ⟨vs, H1, I1, r1, q1⟩ => ?_) hs hpl))
  obtain ⟨i, j, c, hv, c0, c1, q⟩ := q1
  rcases hv with ⟨rfl, rfl, rfl⟩ | ⟨rfl, rfl⟩ | rfl
  · cases r1 with
    | cons r rr =>
      cases rr
      obtain ⟨t, rfl⟩ := r
      exact call_range_1 ⟨_, 0, j, 1, _, _, _, H1, rfl, IsRange.new _ _ _ _ _ _ _, I1.kept fun b u e => Heap.get?_push_of_some _ e, q⟩
  · cases r1 with
    | cons r rr =>
      cases rr with
      | cons r' rr =>
        cases rr
        obtain ⟨t, rfl⟩ := r
        obtain ⟨t', rfl⟩ := r'
        exact call_range_2 ⟨_, i, j, 1, _, _, _, H1, rfl, IsRange.new _ _ _ _ _ _ _, I1.kept fun b u e => Heap.get?_push_of_some _ e, q⟩
  · cases r1 with
    | cons r rr =>
      cases rr with
      | cons r' rr =>
        cases rr with
        | cons r'' rr =>
          cases rr
          obtain ⟨t, rfl⟩ := r
          obtain ⟨t', rfl⟩ := r'
          obtain ⟨t'', rfl⟩ := r''
          exact call_range_3 c0 ⟨_, i, j, c, _, _, _, H1, rfl, IsRange.new _ _ _ _ _ _ _, I1.kept fun b u e => Heap.get?_push_of_some _ e, q⟩ (.inl (PyProof.noPylong_small c1))
def tLrg (ta : TA) : TE := fun σ H Q => tRgs ta (fun i j c H1 => ∃ n, RgC i j c n ∧ n ≤ 2 ^ 24 ∧ ∀ q, H1 q = none → Q (.ref q) (upd H1 q (.lst (rgcV i c n)))) σ H
theorem pe_lrg {e1 : Expr} {es : List Expr} {ta : TA} {p p2 pos pos2 : Pos} (hc : X.calm = true) (hgl : Gl X "list") (hml : X.mg "list" = none) (hg : Gl X "range") (hm : X.mg "range" = none) (ha : PA X (e1 :: es) ta)
    (hs : starEach (e1 :: es) X.env = (false, eval e1 X.env) :: starEach es X.env) (hpl : (backTo pos2 (starEach es X.env)).any (·.1) = false)
    (na : starEach [.Call (.Name "range" p2) (e1 :: es) [] pos2] X.env = (false, eval (.Call (.Name "range" p2) (e1 :: es) [] pos2) X.env) :: starEach [] X.env := by rfl) :
    PE X (.Call (.Name "list" p) [.Call (.Name "range" p2) (e1 :: es) [] pos2] [] pos) (tLrg ta) := by
  refine ⟨fun pins s σ H Q I h => ?_⟩
  refine Call_ (ld_blt I hgl hml boot_list (PyProof.Rows.callWith_type1 (args_cons (thn (rg_eval hg hm ha hs hpl pins s σ H _ I h) fun x s1 ⟨r, a, b, c, t, u, v, H1, ex, hr, I1, n, ok, b5, q⟩ => args_nil ?_) na) na))
  subst ex
  refine call_list_range (n := n) (I1.ok.hd hc) hr ok.2.2.1 ok.2.2.2 b5 fun h' tk acc c' hk e' hi => ?_
  refine ⟨.ref s1.heap.objs.size, upd H1 s1.heap.objs.size (.lst (rgcV a c n)), I1.laid hk (Nat.le_refl _) (show ObjOk X.prog X.w _ _ _ (.lst (rgcV a c n)) from ⟨?_, acc.toList, c', vals_rgc hi, ?_⟩), rfl, q _ (I1.hok.fresh (Nat.le_refl _))⟩
  · rw [rgcV_len, sizeLine_eq]; omega
  · rw [Array.toArray_toList]; exact e'
end
end Wp

/-! WpRev: list(reversed(a list)). -/
namespace Wp
open PySem PySem.Spec PyProof.Rows L2 RT
theorem lri_len : typeLookup (.type "list_reverseiterator") "__len__" = pure none := by rw [typeLookup_type, builtinLookup_eq_fast]; kernel_rfl
theorem lri_slot : Slot "list_reverseiterator" "__length_hint__" "list_reverseiterator.__length_hint__" := by
  refine .of (owner := "list_reverseiterator") (n := "__length_hint__") (by rw [typeLookup_type, builtinLookup_eq_fast]; kernel_rfl) (by decide +kernel) (by decide +kernel) (by decide +kernel) ?_ ?_
  · first
      | exact .inr (by decide +kernel)
      | exact .inl (by decide +kernel)
  · rw [isSubtype_type]; kernel_rfl
section
variable {prog : Program} {w : World} {A : Around} {E : Value → Shared → Prop} {s : Shared}
theorem lri_hint {it l : Addr} {i : Int} {Q : Bool → Shared → Prop} (hit : s.heap.IsRevIter it l i) (h : Q false s) : wpAny (model prog w) A (Builtin.List.listLengthHint (.ref it)) Q E s := by
  unfold Builtin.List.listLengthHint
  refine wpAny_bind (wpAny_specialOf hit.typeIs lri_len ?_)
  show wpAny _ _ (specialOf (Value.ref it) (Str.ofString "__length_hint__") >>= _) _ _ _
  refine wpAny_bind (wpAny_specialOf hit.typeIs lri_slot.lookup ?_)
  generalize hid : ("list_reverseiterator.__length_hint__" : String) = id0
  wp_delta
  rw [show splitId id0 = some ("list_reverseiterator", "__length_hint__") from by subst hid; decide +kernel]
  subst hid
  refine wpAny_bind (wpAny_isInstance (T := "list_reverseiterator") (b := true) hit.typeIs (by rw [isSubtype_type]; kernel_rfl) ?_)
  refine wpAny_ite_split (fun hab => absurd hab (by decide)) (fun _ => ?_)
  refine wpAny_ite_split (fun _ => ?_) (fun hab => absurd (by decide +kernel) hab)
  refine wpAny_ite_split (fun hab => absurd hab (by decide +kernel)) (fun _ => ?_)
  exact wpAny_pure h
theorem rev_extend {R : Result → Shared → Prop} {S it l : Addr} {items : Array Value} (hh : A.handled = none) (hne : l ≠ it) (hit : s.heap.IsRevIter it l ((items.size : Int) - 1)) (hl : s.heap.IsList l items) (hSi : S ≠ it) (hSl : S ≠ l) (res : Value) (c0 : Nat)
    (hS : s.heap.get? S = some { cls := .type "list", data := .seq #[] c0 }) (hn : items.size ≤ sizeLine)
    (hR : ∀ h' tk acc' c', (∀ b o, b ≠ S → b ≠ it → s.heap.get? b = some o → h'.get? b = some o) → h'.get? S = some { cls := .type "list", dict := none, data := .seq acc' c', slots := #[] } → ItemsOf (fun i v => items[items.size - 1 - i]? = some v) acc' items.size → R (.ok (.ret res)) { s with heap := h', toks := tk }) :
    wpAny (model prog w) A.in1 (Builtin.List.listExtendWith (.ref S) (.ref it) res) (fun fin s' => match fin with | .done f => R (.ok f) s' | .again c' => c'.quiet = true ∧ codeAny (model prog w) A c' R s') (fun e s' => R (.error e) s') s := by
  have W := (Walks.listRev (prog := prog) (w := w) (A := A.in1) hh it l hne items).toS
  have hSf : S ∉ [it, l] := by simp [hSi, hSl]
  have st : (fun (i : Nat) (s : Shared) => (fun i h => i ≤ items.size ∧ Heap.IsRevIter h it l ((items.size : Int) - 1 - (i : Int)) ∧ Heap.IsList h l items) i s.heap) 0 s := ⟨Nat.zero_le _, by rw [show ((items.size : Int) - 1 - ((0 : Nat) : Int)) = (items.size : Int) - 1 by omega]; exact hit, hl⟩
  unfold Builtin.List.listExtendWith
  refine wpAny_bind (wpAny_typeOf hit.typeIs ?_)
  have h1 : Builtin.List.listSameRef (.ref S) (.ref it) = false := by simp [Builtin.List.listSameRef, hSi]
  have h2 : (Value.type "list_reverseiterator" == Value.type "list") = false := by decide
  have h3 : (Value.type "list_reverseiterator" == Value.type "tuple") = false := by decide
  simp only [h1, h2, h3, Bool.or_false, Bool.false_eq_true, if_false]
  refine wpAny_bind (wpAny_pyIter_revIter hit ?_)
  refine wpAny_bind (wpAny_holding (lri_hint hit ?_))
  refine wpAny_ite_split (fun hab => absurd hab (by decide +kernel)) (fun _ => ?_)
  refine wpAny_pure ⟨plainId_quiet F.plain_extend_loop _, codeAny_extend_loopS W hn S hSf res items.size 0 s #[] c0 rfl (Nat.zero_le _) st hS (ItemsOf.nil _) fun s' acc' c' hm hS' hacc => ?_⟩
  rw [Moved.eq_with hm]
  exact hR s'.heap s'.toks acc' c' (fun b o n1 n2 e => hm.heap b o (by simp [n1, n2]) e) hS' hacc
theorem call_list_rev {Q : Value → Shared → Prop} {it l : Addr} {items : Array Value} (hh : A.handled = none) (hne : l ≠ it) (hit : s.heap.IsRevIter it l ((items.size : Int) - 1)) (hl : s.heap.IsList l items) (hn : items.size ≤ sizeLine)
    (hQ : ∀ h' tk acc' c', (∀ b o, b ≠ it → s.heap.get? b = some o → h'.get? b = some o) → h'.get? s.heap.objs.size = some { cls := .type "list", dict := none, data := .seq acc' c', slots := #[] } →
      ItemsOf (fun i v => items[items.size - 1 - i]? = some v) acc' items.size → Q (.ref s.heap.objs.size) { s with heap := h', toks := tk }) : wpAny (model prog w) A (call (.type "list") [.ref it]) Q E s := by
  refine callType_codes (Q₁ := fun obj s1 => obj = .ref s.heap.objs.size ∧ s1 = { s with heap := s.heap.push { cls := .type "list", data := .seq #[] } }) F.called_list (F.typeCall_list_1 _) F.entry_list_init (code_list_new _ ⟨rfl, rfl⟩) fun obj s1 h1 => ?_
  obtain ⟨rfl, rfl⟩ := h1
  have hS : (s.heap.push { cls := .type "list", data := .seq #[] }).get? s.heap.objs.size = some { cls := .type "list", data := .seq #[] } := Heap.get?_push_size _ rfl
  have li : it < s.heap.objs.size := by obtain ⟨o, ho, _⟩ := hit; exact Heap.lt_size ho
  have ll : l < s.heap.objs.size := by obtain ⟨o, ho, _⟩ := hl; exact Heap.lt_size ho
  have hSi : s.heap.objs.size ≠ it := Nat.ne_of_gt li
  have hSl : s.heap.objs.size ≠ l := Nat.ne_of_gt ll
  have hit1 : (s.heap.push { cls := .type "list", data := .seq #[] }).IsRevIter it l ((items.size : Int) - 1) := by
    obtain ⟨o, ho, r⟩ := hit
    exact ⟨o, Heap.get?_push_of_some _ ho, r⟩
  have hl1 : (s.heap.push { cls := .type "list", data := .seq #[] }).IsList l items := hl.push _
  refine ⟨⟨_, hS, rfl⟩, F.args_list_init_2 _ _, ?_⟩
  show wpAny _ _ (do let old ← Builtin.List.listItems (.ref s.heap.objs.size); Builtin.List.listUpdate (.ref s.heap.objs.size) (fun _ => #[]); letGo old.toList.reverse; Builtin.List.listExtendWith (.ref s.heap.objs.size) (.ref it) .none) _ _ _
  refine wpAny_bind ?_
  unfold Builtin.List.listItems
  refine wpAny_bind (wpAny_seqItems hS rfl (wpAny_pure ?_))
  show wpAny _ _ (updateSeq s.heap.objs.size (fun _ => #[]) >>= fun _ => letGo (#[] : Array Value).toList.reverse >>= fun _ => Builtin.List.listExtendWith (.ref s.heap.objs.size) (.ref it) .none) _ _ _
  refine wpAny_bind (wpAny_updateSeq hS rfl ?_)
  have hS2 := Heap.get?_update_self (Obj.mapSeq (fun _ => (#[] : Array Value))) hS rfl
  have oth : ∀ b o, b ≠ s.heap.objs.size → (s.heap.push { cls := .type "list", data := .seq #[] }).get? b = some o → ((s.heap.push { cls := .type "list", data := .seq #[] }).update s.heap.objs.size (Obj.mapSeq (fun _ => (#[] : Array Value)))).get? b = some o :=
    fun b o hb e => (Heap.get?_update_other _ _ (Ne.symm hb)).trans e
  refine wpAny_bind (wpAny_letGo ?_)
  have hit2 : Heap.IsRevIter ((s.heap.push { cls := .type "list", data := .seq #[] }).update s.heap.objs.size (Obj.mapSeq (fun _ => (#[] : Array Value)))) it l ((items.size : Int) - 1) := by
    obtain ⟨o, ho, r⟩ := hit1
    exact ⟨o, oth it o (Ne.symm hSi) ho, r⟩
  have hl2 : Heap.IsList ((s.heap.push { cls := .type "list", data := .seq #[] }).update s.heap.objs.size (Obj.mapSeq (fun _ => (#[] : Array Value)))) l items := by
    obtain ⟨o, ho, r⟩ := hl1
    exact ⟨o, oth l o (Ne.symm hSl) ho, r⟩
  refine rev_extend (A := A.in1) hh hne hit2 hl2 hSi hSl .none _ hS2 hn fun h' tk acc' c' hk hS' hacc => ?_
  exact ⟨rfl, hQ h' tk acc' c' (fun b o nb e => hk b o (Nat.ne_of_lt (Heap.lt_size e)) nb (oth b o (Nat.ne_of_lt (Heap.lt_size e)) (Heap.get?_push_of_some _ e))) hS' hacc⟩
end
/-- list(reversed(x)), x a list: a new one -/
def tLrv (K : PySem.W.Frag) (te : TE) : TE := fun σ H Q => te σ H fun v H1 => ∃ (a : Addr) (xs : List V), v = .ref a ∧ SqL K H1 a xs ∧ ∀ q, H1 q = none → Q (.ref q) (upd H1 q (.lst xs.reverse))
theorem pe_lrv {X : Cx} {e : Expr} {te : TE} {p p2 pos pos2 : Pos} (hc : X.calm = true) (hg : Gl X "list") (hm : X.mg "list" = none) (hg2 : Gl X "reversed") (hm2 : X.mg "reversed" = none) (he : PE X e te)
    (hs : starEach [e] X.env = (false, eval e X.env) :: starEach [] X.env) (hs2 : starEach [.Call (.Name "reversed" p2) [e] [] pos2] X.env = (false, eval (.Call (.Name "reversed" p2) [e] [] pos2) X.env) :: starEach [] X.env := by rfl) :
    PE X (.Call (.Name "list" p) [.Call (.Name "reversed" p2) [e] [] pos2] [] pos) (tLrv X.K te) := by
  refine ⟨fun pins s σ H Q I h => ?_⟩
  refine Call_ (ld_blt I hg hm boot_list (PyProof.Rows.callWith_type1 (args_cons (Call_ (ld_blt I hg2 hm2 PyProof.Rows.boot_reversed (PyProof.Rows.callWith_type1 (args_cons (thn (he.run pins s σ H _ I h) fun u s1 ⟨v, H1, I1, r1, q1⟩ => args_nil ?_) hs) hs rfl))) hs2) hs2 rfl))
  obtain ⟨a, xs, ev, hq, q⟩ := q1
  subst ev
  obtain rfl : u = Value.ref a := r1
  obtain ⟨its, rv, p', hz⟩ := I1.list hq
  refine call_reversed_list p'.isList (args_nil ?_)
  have kp : ∀ b o, s1.heap.get? b = some o → (s1.heap.push (revObj a ((its.toArray.size : Int) - 1))).get? b = some o := fun b o e => Heap.get?_push_of_some _ e
  have I2 : Inv X pins σ H1 { s1 with heap := s1.heap.push (revObj a ((its.toArray.size : Int) - 1)) } := I1.kept (t' := s1.toks) kp
  obtain ⟨f0, f1, f2, f3, f4, f5⟩ := I1.fpOk (H' := H1) (b := s1.heap.objs.size) (Nat.le_refl _) (I1.hok.fresh (Nat.le_refl _))
  obtain ⟨ol, hol, _⟩ := id p'.isList
  have hne : a ≠ s1.heap.objs.size := Nat.ne_of_lt (Heap.lt_size hol)
  have hn : its.toArray.size ≤ sizeLine := by rw [List.size_toArray, ← rv.length]; exact hz
  have z1 : (s1.heap.push (revObj a ((its.toArray.size : Int) - 1))).objs.size = s1.heap.objs.size + 1 := Heap.size_push ..
  refine call_list_rev (s := { s1 with heap := s1.heap.push (revObj a ((its.toArray.size : Int) - 1)) }) (I1.ok.hd hc) hne ⟨_, Heap.get?_push_size _ rfl, rfl, rfl⟩ (p'.isList.push _) hn fun h' tk acc c' hk hS hi => ?_
  have ne1 : s1.heap.objs.size ≠ (s1.heap.push (revObj a ((its.toArray.size : Int) - 1))).objs.size := by rw [z1]; exact Nat.ne_of_lt (Nat.lt_succ_self _)
  have I3 : Inv X pins σ H1 { s1 with heap := h', toks := tk } := I2.turned (t' := tk) (fun b o hb e => hk b o hb e) f0 f1 f3 f4 f5
  refine ⟨.ref _, upd H1 (s1.heap.push (revObj a ((its.toArray.size : Int) - 1))).objs.size (.lst xs.reverse), ?_, rfl, q _ (I2.hok.fresh (Nat.le_refl _))⟩
  refine I2.turnedNew (t' := tk) (ch := [s1.heap.objs.size]) (fun b o hb e => hk b o (by simpa using hb) e) (fun b hb => ?_) (Nat.le_refl _) (show ObjOk X.prog X.w _ _ _ (.lst xs.reverse) from ⟨by rw [List.length_reverse]; exact hz, acc.toList, c', vals_rev rv hi, ?_⟩)
  · have e : b = s1.heap.objs.size := by simpa using hb
    subst e
    exact I1.fpOk (Nat.le_refl _) (I1.hok.fresh (Nat.le_refl _))
  · rw [Array.toArray_toList]
    exact hS
end Wp

/-! WpE1: a caught exception that stands in the heap: try .. except X as n, isinstance of it, its fields. -/
namespace L2
open PySem PySem.Spec PyProof.Rows
/-- a caught exception: its class, its dict -/
def ExH (cls : Value) (d : Option Addr) (a : Addr) : HO := .ext fun h => ∃ (oe : Obj) (vs : Array Value), h.get? a = some oe ∧ Zc cls d oe ∧ oe.data = .fields vs
theorem exH_ok {P : Program} {w : World} {H : Hp} {h : Heap} {a : Addr} {cls : Value} {d : Option Addr} {oe : Obj} {vs : Array Value} (e : h.get? a = some oe) (z : Zc cls d oe) (dd : oe.data = .fields vs) : ObjOk P w H h a (ExH cls d a) :=
  ⟨⟨oe, vs, e, z, dd⟩, ⟨oe, e⟩, fun _ _ ⟨o, v, q, r⟩ k => ⟨o, v, k o q, r⟩⟩
theorem exH_at {P : Program} {w : World} {H : Hp} {h : Heap} {a : Addr} {cls : Value} {d : Option Addr} (hok : HOk P w H h) (e : H a = some (ExH cls d a)) : ∃ (oe : Obj) (vs : Array Value), h.get? a = some oe ∧ Zc cls d oe ∧ oe.data = .fields vs := by
  have x : ObjOk P w H h a (.ext fun h => ∃ (oe : Obj) (vs : Array Value), h.get? a = some oe ∧ Zc cls d oe ∧ oe.data = .fields vs) := hok a _ e
  exact x.1
section
variable {X : Cx} {pins : List (Addr × Obj)} {σ : St} {H : Hp} {s : Shared}
/-- an object that came since the entry is told of from here on -/
theorem Inv.track {a : Addr} {o : HO} {oe : Obj} {vs : Array Value} (I : Inv X pins σ H s) (hn : H a = none) (n0 : X.s_0.heap.get? a = none) (he : s.heap.get? a = some oe) (hd : oe.data = .fields vs) (nL : a ≠ X.env.locals) (np : ∀ p ∈ X.pn ++ pins, p.1 ≠ a) (new : ObjOk X.prog X.w (upd H a o) s.heap a o) : Inv X pins σ (upd H a o) s := by
  have ne0 : ∀ b u, X.s_0.heap.get? b = some u → b ≠ a := fun b u e z => by
    rw [z, n0] at e
    cases e
  have nc : ∀ x c, X.env.cells.lookup x = some c → c ≠ a := fun x c e z => by
    obtain ⟨v, u, h1, h2⟩ := I.cell x c e
    rw [z, he] at h1
    cases h1
    rw [hd] at h2
    cases h2
  refine ⟨I.ok, I.os, I.bare, ⟨I.base.keep, I.base.slot, fun b u e n hx => ?_, I.base.there, fun b xs e => ?_, fun b u w e => ?_, fun b ps e => ?_⟩, I.loc, I.cell, ?_, fun x c e => ?_, fun p hp => ?_, fun b u e => ?_, I.len⟩
  · rw [upd_ne (ne0 b u e)]
    exact I.base.free b u e n hx
  · have q := I.base.tups b xs e
    rw [upd_ne (ne_of_none q hn)]
    exact q
  · have q := I.base.frzs b u w e
    rw [upd_ne (ne_of_none q hn)]
    exact q
  · obtain ⟨m, q⟩ := I.base.tbls b ps e
    exact ⟨m, by rw [upd_ne (ne_of_none q hn)]; exact q⟩
  · rw [upd_ne (Ne.symm nL)]
    exact I.free
  · rw [upd_ne (nc x c e)]
    exact I.freeC x c e
  · obtain ⟨e, n, ne, nf, d⟩ := I.pin p hp
    exact ⟨e, by rw [upd_ne (np p hp)]; exact n, ne, nf, d⟩
  · by_cases hb : b = a
    · subst hb
      rw [upd_same] at e
      cases e
      exact new
    · rw [upd_ne hb] at e
      exact (I.hok b u e).stay (fun c v _ q => q) (fun c q => by rw [upd_ne (ne_of_none q hn)]; exact q) fun c xs q => by rw [upd_ne (ne_of_none q hn)]; exact q
theorem Inv.suite0 (I : Inv X pins σ H s) (a : Addr) : Inv (X.suite a (X.pn ++ pins)) [] σ H s :=
  ⟨I.ok.suite _ _, I.os, I.bare, I.base, I.loc, I.cell, I.free, I.freeC, fun p hp => I.pin p (by rw [List.append_nil] at hp; exact hp), I.hok, I.len⟩
theorem Inv.unsuite0 {a : Addr} {pn' : List (Addr × Obj)} (I : Inv (X.suite a (X.pn ++ pins)) pn' σ H s) (ok : X.Ok) : Inv X pins σ H s :=
  ⟨ok, I.os, I.bare, I.base, I.loc, I.cell, I.free, I.freeC, fun p hp => I.pin p (List.mem_append_left _ hp), I.hok, I.len⟩
end
/-- what the clause 'except x as n' wishes of an exception of the body: it stands in the heap from here on -/
def wOwn (K : PySem.W.Frag) (c : Value) (i : Nat) (ts : TS) (Wout : WX) (D : Ends) : WX := fun cls d σ H =>
  ∃ b, PySem.W.exmOne K cls c = some b ∧ (b = true → ∀ a, H a = none → ts { nx := fun σ' H' => D.nx (σ'.set i none) H', rt := D.rt, bk := fun σ' H' => D.bk (σ'.set i none) H', ct := fun σ' H' => D.ct (σ'.set i none) H' } (σ.set i (some (.ref a))) (upd H a (ExH cls d a))) ∧
    (b = false → Wout cls d σ H)
section
variable {X : Cx} {x n : Str} {c : Value} {i : Nat} {body suite : List Stmt} {b₀ : Stmt} {np pos pos' : Pos} {tb : WX → TS} {ts : TS} {Wout : WX}
theorem ps_try_own (hex : X.ex = []) (hs : X.stack = X.env :: X.outer) (hf : X.env.frame = some X.env.locals) (hN : X.N.Nodup) (hi : X.N[i]? = some n) (hln : X.env.kindOf n = some .local) (hc : Names X x c) (tk : Takes X Wout)
    (hb : ∀ (W : WX) (pn : List (Addr × Obj)) (xe : Value → Shared → Prop), Takes (X.tr pn xe) W → PassesOwn (model X.prog X.w) X.A X.env xe → PSs (X.tr pn xe) body (tb W))
    (hsu : ∀ (a : Addr) (pn : List (Addr × Obj)), PSs (X.suite a pn) (b₀ :: suite) ts) :
    PS X (.Try body [.ExceptHandler (some (.Name x np)) (some n) (b₀ :: suite) pos'] [] [] pos) (fun D σ H => tb (wOwn X.K c i ts Wout D) D σ H) := by
  refine ⟨fun pins s σ H D I h => ?_⟩
  have ok := I.ok
  have hfr : X.A.frames = some (X.env :: X.outer) := by rw [ok.frames, hs]
  have hloc : Loc X.env.scope n := .inl hln
  refine wpAny_Try_except ?_
  refine wpAny_mono ((hb (wOwn X.K c i ts Wout D) (X.pn ++ pins) (fun e s₁ => wpAny (model X.prog X.w) X.A (noteFrame e X.env) (fun _ s₂ => wpAny (model X.prog X.w) X.A (setFlight e none) (fun _ s₃ =>
    wpAny (model X.prog X.w) X.A (handleBy e X.env [.ExceptHandler (some (.Name x np)) (some n) (b₀ :: suite) pos']) (SP X pins D) X.xe s₃) X.xe s₂) X.xe s₁) (fun u s' xx => ?_) PassesOwn.looking).run [] s σ H D (I.toTry _) h) (fun f s1 hsp => ?_) (fun e s1 he => he)
  · obtain ⟨a, B, sI, pins', σ', H', cls, d, rfl, J', nb, up, sky, na, os, ag, b, hb1, hyes, hno⟩ := xx
    have J : Inv X pins σ' H' sI := J'.ofTry ok
    have sky' : Sky B (X.env :: X.outer) a (Zc cls d) X.env.locals s'.heap := by rw [← hs]; exact sky
    show wpAny (model X.prog X.w) X.A (noteFrame (.ref a) X.env) _ _ _
    refine Sky.land Zc.steady hfr hf sky' fun h3 fl3 up3 => ?_
    have J3 : Inv X pins σ' H' { s' with heap := h3 } := J.landed nb fl3.1 (up.trans up3) os ag
    obtain ⟨oe3, vs3, he3, hz3, hd3⟩ := fl3.there
    have nfr : a ∉ frs (X.env :: X.outer) := fun hm => by
      obtain ⟨_, o', e', hnf⟩ := fl3.2.2.1.mem hm
      rw [he3] at e'; cases e'
      exact hnf _ hd3
    have nL : a ≠ X.env.locals := fun z => nfr (List.mem_filterMap.mpr ⟨X.env, List.mem_cons_self, by rw [hf, z]⟩)
    have nI : sI.heap.get? a = none := by
      cases q : sI.heap.get? a with
      | none => rfl
      | some o =>
        have z := nb a o q (by rw [hs]; exact nfr)
        rw [fl3.2.1] at z
        cases z
    have n0 : X.s_0.heap.get? a = none := by
      cases q : X.s_0.heap.get? a with
      | none => rfl
      | some o =>
        obtain ⟨o', z⟩ := J.base.there a o q (by rw [hex]; exact fun z => nomatch z)
        rw [nI] at z
        cases z
    have npn : ∀ p ∈ X.pn ++ pins, p.1 ≠ a := fun p hp z => by
      have q := (J.pin p hp).1
      rw [z, nI] at q
      cases q
    have S3 := J3.suite0 a
    refine wpAny_handleBy_cons (codeAny_handlers_test ?_) (by intro q; cases q)
    have LT : PySem.W.Looks (model X.prog X.w) h3 (typeOf (.ref a)) cls := fun A Q E s k q => wpAny_typeOf_ref (k _ _ he3) (by rw [hz3.1]; exact q)
    have LM := PySem.W.exm_one (M := model X.prog X.w) (J3.kIn) LT hb1
    have test : ∀ {Q : Value → Shared → Prop} {E : Value → Shared → Prop}, Q c { s' with heap := h3 } → wpAny (model X.prog X.w) (X.A.mark (some (.ref a))) (eval (.Name x np) X.env) Q E { s' with heap := h3 } := fun {Q E} q => by
      obtain ⟨hg, hdbg, hm | ⟨hm, hv, hnn⟩⟩ := hc
      · exact ld_glob (X := X.suite a (X.pn ++ pins)) S3 hg hm q hdbg
      · exact ld_blt (X := X.suite a (X.pn ++ pins)) S3 hg hm hv q hnn hdbg
    refine test (LM.here ?_)
    cases b with
    | true =>
      refine codeAny_handlers_suite_as ?_
      refine HandSPX.lands_againZ fl3 fun h4 fl4 up4 => ?_
      have J4 : Inv X pins σ' H' { s' with heap := h4 } := J.landed nb fl4.1 ((up.trans up3).trans up4) os ag
      obtain ⟨oe4, vs4, he4, hz4, hd4⟩ := fl4.there
      have J5 : Inv X pins σ' (upd H' a (ExH cls d a)) { s' with heap := h4 } := J4.track na n0 he4 hd4 nL npn (exH_ok he4 hz4 hd4)
      have S5 := J5.suite0 a
      refine store_ok (X := X.suite a (X.pn ++ pins)) (v := .ref a) S5 hN hi hloc rfl (fun s5 S5 => ?_) (.inr hln)
      refine wpAny_mono ((hsu a (X.pn ++ pins)).run [] s5 _ _ _ S5 (hyes rfl a na)) (fun f s6 hsp => ?_) (fun _ _ z => False.elim z)
      have end_ : ∀ {σ6 : St} {H6 : Hp} {Q : Shared → Prop}, Inv (X.suite a (X.pn ++ pins)) [] σ6 H6 s6 → (∀ s7, Inv X pins (σ6.set i none) H6 s7 → Q s7) →
          wpAny (model X.prog X.w) X.A (do bindName X.env n .none; unbindBehindTheSuite X.env n pos') (fun _ s7 => Q s7) X.xe s6 := fun {σ6 H6 Q} S6 hq => gone_ok (S6.unsuite0 ok) hN hi hln hq
      cases f with
      | next =>
        obtain ⟨σ6, H6, S6, q6⟩ := hsp
        exact end_ S6 fun s7 J7 => ⟨_, _, J7, q6⟩
      | brk =>
        obtain ⟨σ6, H6, S6, q6⟩ := hsp
        exact end_ S6 fun s7 J7 => ⟨_, _, J7, q6⟩
      | cont =>
        obtain ⟨σ6, H6, S6, q6⟩ := hsp
        exact end_ S6 fun s7 J7 => ⟨_, _, J7, q6⟩
      | ret u =>
        obtain ⟨v6, σ6, H6, S6, r6, q6⟩ := hsp
        exact end_ S6 fun s7 J7 => ⟨_, _, _, J7, r6, q6⟩
    | false =>
      show wpAny _ X.A (handleBy (.ref a) X.env []) _ _ _
      refine wpAny_handleBy_nil ?_
      obtain ⟨k1, k2, k3, oe, vs, T, oT, ts', he, hz, hd, h1, hr⟩ := id fl3
      unfold PySem.passOn
      refine wpAny_bind (wpAny_field he hd h1 ?_)
      rw [if_neg (show ¬ ((Value.ref T == Value.none) = true) from by simp)]
      have fin : wpAny (model X.prog X.w) X.A (setFlight (.ref a) X.env.frame) (fun _ s4 => wpAny (model X.prog X.w) X.A (throw (.ref a) : Sem Flow) (SP X pins D) X.xe s4) X.xe { s' with heap := h3 } := by
        rw [hf]
        refine HandSPX.setFlight_upZ fl3 fun h4 hh4 up4 => wpAny_throw (tk _ _ ?_)
        exact ⟨a, B, sI, pins, σ', H', cls, d, rfl, J, nb, (up.trans up3).trans up4, .inr (.inr (by rw [hs]; exact hh4)), na, os, ag, hno rfl⟩
      first
        | exact wpAny_bind (wpAny_pure (wpAny_bind fin))
        | exact wpAny_bind fin
  · cases f with
    | next =>
      obtain ⟨σ', H', J', q⟩ := hsp
      exact wpAny_execs_nil ⟨σ', H', J'.ofTry ok, q⟩
    | brk =>
      obtain ⟨σ', H', J', q⟩ := hsp
      exact ⟨σ', H', J'.ofTry ok, q⟩
    | cont =>
      obtain ⟨σ', H', J', q⟩ := hsp
      exact ⟨σ', H', J'.ofTry ok, q⟩
    | ret u =>
      obtain ⟨v, σ', H', J', r, q⟩ := hsp
      exact ⟨v, σ', H', J'.ofTry ok, r, q⟩
end
/-! ### isinstance, a field -/
/-- what the class C must say for its caught instances to be asked and read -/
structure XcC (K : PySem.W.Frag) (C : Addr) : Prop where
  cl : (PySem.W.clsIn K C).isSome = true
  ga : PySem.W.findIn K (.ref C) "__getattribute__" = some (some (.builtin "BaseException.__getattribute__"))
  gt : PySem.W.findIn K (.ref C) "__getattr__" = some none
  sb : PySem.W.subIn K (.ref C) (.type "BaseException") = some true
  ca : PySem.W.findIn K (.ref C) "__class__" = some (some (.builtin "object.__class__"))
  cg : PySem.W.specialIn K (.builtin "object.__class__") "__get__" = some (some (.builtin "getset_descriptor.__get__"))
  ct : PySem.W.takesIn K (.builtin "object.__class__") = some true
  mo : PySem.W.mroIn K C (.type "object") = some true
  hd : PySem.W.hasDictIn K C = true
def xcB (K : PySem.W.Frag) (C : Addr) : Bool :=
  (PySem.W.clsIn K C).isSome && (decide (PySem.W.findIn K (.ref C) "__getattribute__" = some (some (.builtin "BaseException.__getattribute__"))) && (decide (PySem.W.findIn K (.ref C) "__getattr__" = some none) &&
  (decide (PySem.W.subIn K (.ref C) (.type "BaseException") = some true) && (decide (PySem.W.findIn K (.ref C) "__class__" = some (some (.builtin "object.__class__"))) && (decide (PySem.W.specialIn K (.builtin "object.__class__") "__get__" = some (some (.builtin "getset_descriptor.__get__"))) &&
  (decide (PySem.W.takesIn K (.builtin "object.__class__") = some true) && (decide (PySem.W.mroIn K C (.type "object") = some true) && PySem.W.hasDictIn K C)))))))
theorem xcB_ok {K : PySem.W.Frag} {C : Addr} (h : xcB K C = true) : XcC K C := by
  obtain ⟨h1, h⟩ := Bool.and_eq_true_iff.mp h
  obtain ⟨h2, h⟩ := Bool.and_eq_true_iff.mp h
  obtain ⟨h3, h⟩ := Bool.and_eq_true_iff.mp h
  obtain ⟨h4, h⟩ := Bool.and_eq_true_iff.mp h
  obtain ⟨h5, h⟩ := Bool.and_eq_true_iff.mp h
  obtain ⟨h6, h⟩ := Bool.and_eq_true_iff.mp h
  obtain ⟨h7, h⟩ := Bool.and_eq_true_iff.mp h
  obtain ⟨h8, h9⟩ := Bool.and_eq_true_iff.mp h
  exact ⟨h1, of_decide_eq_true h2, of_decide_eq_true h3, of_decide_eq_true h4, of_decide_eq_true h5, of_decide_eq_true h6, of_decide_eq_true h7, of_decide_eq_true h8, h9⟩
/-- the exception at a, of class C; its dict, if it has one, is told of -/
def XAt (H : Hp) (a C : Addr) : Prop := ∃ d, H a = some (ExH (.ref C) d a) ∧ (d = none ∨ ∃ dd fs, d = some dd ∧ H dd = some (.xd fs))
theorem xat_inst {X : Cx} {pins : List (Addr × Obj)} {σ : St} {H : Hp} {s : Shared} {a C : Addr} (I : Inv X pins σ H s) (h : XAt H a C) : ∃ ox od, PySem.W.InstAt s.heap a ox C od := by
  obtain ⟨d, ea, hd⟩ := h
  obtain ⟨oe, vs, he, hz, hv⟩ := exH_at I.hok ea
  rcases hd with rfl | ⟨dd, fs, rfl, ed⟩
  · exact ⟨oe, none, he, hz.1, by unfold PySem.W.notCls; rw [hv] <;> rfl, by rw [hz.2]; trivial⟩
  · have hx : ObjOk X.prog X.w H s.heap dd (.xd fs) := I.hok dd _ ed
    obtain ⟨mA, hns, hr⟩ := hx
    obtain ⟨od, ho, hl⟩ := lookIn_ns hns
    exact ⟨oe, some od, he, hz.1, by unfold PySem.W.notCls; rw [hv] <;> rfl, by rw [hz.2]; exact ho⟩
def rIsX (K : PySem.W.Frag) : List V → Hp → VK → Prop := fun xs H Q => ∃ (a C : Addr) (c : V) (u : Value) (b : Bool), xs = [.ref a, c] ∧ XAt H a C ∧ XcC K C ∧ ClsV c u ∧ PySem.W.kitOne K (.ref C) u = some b ∧ Q (.bl b) H
theorem call_isX {X : Cx} : CallR X (.builtin "isinstance") (rIsX X.K) := by
  intro pins s σ H xs us Q I r h
  obtain ⟨a, C, c, u, b, rfl, hx, T, k, e, q⟩ := h
  cases r with
  | cons rx rr =>
    cases rr with
    | cons rt rr =>
      cases rr
      cases rx
      have e2 := k.eq rt
      subst e2
      obtain ⟨ox, od, J⟩ := xat_inst I hx
      exact PySem.W.kia_one (PySem.W.kitx_exc T.cl T.ga T.gt T.sb T.ca T.cg T.ct T.mo) I.kIn J e (fun z => nomatch z) fun tk => ⟨.bl b, H, I.tok tk, rfl, q⟩
def rIsXT (K : PySem.W.Frag) : List V → Hp → VK → Prop := fun xs H Q => ∃ (a C tp : Addr) (cs : List V) (us : List Value) (b : Bool), xs = [.ref a, .ref tp] ∧ H tp = some (.tup cs) ∧ Paired ClsV cs us ∧ XAt H a C ∧ XcC K C ∧ PySem.W.kitAny K (.ref C) us = some b ∧ Q (.bl b) H
theorem call_isXT {X : Cx} : CallR X (.builtin "isinstance") (rIsXT X.K) := by
  intro pins s σ H xs ws Q I r h
  obtain ⟨a, C, tp, cs, us, b, rfl, hT, k, hx, T, e, q⟩ := h
  obtain ⟨u1, u2, rfl, r1, r2⟩ := vals2 r
  cases (show u2 = Value.ref tp from r2)
  cases (show u1 = Value.ref a from r1)
  obtain ⟨ox, od, J⟩ := xat_inst I hx
  obtain ⟨_, its, rv, o, h1, h2, n, h3⟩ := (show ObjOk X.prog X.w H s.heap tp (.tup cs) from I.hok tp _ hT)
  have e3 := ClsV.all k rv
  subst e3
  obtain ⟨oc, od', dt, sl⟩ := o
  simp only at h2 h3
  subst h2 h3
  exact PySem.W.kia_tup (PySem.W.kitx_exc T.cl T.ga T.gt T.sb T.ca T.cg T.ct T.mo) I.kIn J h1 e (fun z => nomatch z) fun tk => ⟨.bl b, H, I.tok tk, rfl, q⟩
/-- e.f, e a caught exception -/
def tAtr (K : PySem.W.Frag) (f : Str) (te : TE) : TE := fun σ H Q => te σ H fun x H1 => ∃ (a C dd : Addr) (fs : List (Str × V)) (v : V), x = .ref a ∧ H1 a = some (ExH (.ref C) (some dd) a) ∧ H1 dd = some (.xd fs) ∧ XcC K C ∧ PySem.W.findIn K (.ref C) f = some none ∧ fs.lookup f = some v ∧ Q v H1
theorem pe_atr {X : Cx} {e : Expr} {te : TE} {pos : Pos} {n : Str} (he : PE X e te) (hb : attributeBase e n X.env (eval e X.env) = eval e X.env := by rfl) : PE X (.Attribute e n pos) (tAtr X.K n te) := by
  refine ⟨fun pins s σ H Q I h => ?_⟩
  refine attr_of hb (thn (he.run pins s σ H _ I h) fun u s1 hh => ?_)
  obtain ⟨x, H1, I1, rx, a, C, dd, fs, v, ex, ea, ed, T, hno, l, q⟩ := hh
  subst ex
  obtain rfl : u = Value.ref a := rx
  obtain ⟨oe, vs, he, hz, hv⟩ := exH_at I1.hok ea
  have hx : ObjOk X.prog X.w H1 s1.heap dd (.xd fs) := I1.hok dd _ ed
  obtain ⟨mA, hns, hr⟩ := hx
  obtain ⟨od, ho, hl⟩ := lookIn_ns hns
  obtain ⟨u, hu, ru⟩ := RelO.some_of (v := v) (o := mA n) (by rw [← l]; exact hr n)
  have J : PySem.W.InstAt s1.heap a oe C (some od) := ⟨he, hz.1, by unfold PySem.W.notCls; rw [hv] <;> rfl, by rw [hz.2]; exact ho⟩
  exact HandSPX.exc_get I1.kIn J T.ga T.gt T.sb (PySem.W.findObj_own T.hd hno rfl (by rw [hl, hu])) (handed_of ru) ⟨v, H1, I1.tok _, ru, q⟩
end L2

/-! WpS1: how trees and memory stand in the layer's abstract heap; the operators' rules. -/
namespace Wp
open PySem PySem.Spec PyProof.Rows L2

/-- the written part, where the classes stand, and what is there but not told of -/
structure Gx where
  K : PySem.W.Frag
  cl : Nat → Option Addr
  co : Nat → Option Addr
  P : Hp

/-- a tuple: one of one's own, or a written one with a text in it -/
def TupF (G : Gx) (F : Hp) (a : Addr) (vs : List V) : Prop := F a = some (.tup vs) ∨ (SqT G.K F a vs ∧ ∃ z, V.str z ∈ vs)
theorem TupF.sq {G : Gx} {F : Hp} {a : Addr} {vs : List V} (h : TupF G F a vs) : SqT G.K F a vs := h.elim (fun h => .of h) fun h => h.1
mutual
inductive RelD (G : Gx) (F : Hp) : V → D → Prop
  | non : RelD G F .non .non
  | bl (b : Bool) : RelD G F (.bl b) (.bl b)
  | int (i : Int) : RelD G F (.int i) (.int i)
  | str (x : Str) : RelD G F (.str x) (.str x)
  | tup {a : Addr} {vs : List V} {ds : List D} : TupF G F a vs → RelDs G F vs ds → RelD G F (.ref a) (.tup ds)
  | lst {a : Addr} {vs : List V} {ds : List D} : F a = some (.lst vs) → RelDs G F vs ds → RelD G F (.ref a) (.lst ds)
  | scr {a : Addr} {ns : List Int} : SqL G.K F a (ns.map V.int) → RelD G F (.ref a) (.scr ns)
  | emp {a : Addr} : F a = some (.dK []) → RelD G F (.ref a) .emp
  | loc {a : Addr} : RelD G F (.ref a) (.loc a)
inductive RelDs (G : Gx) (F : Hp) : List V → List D → Prop
  | nil : RelDs G F [] []
  | cons {v : V} {vs : List V} {d : D} {ds : List D} : RelD G F v d → RelDs G F vs ds → RelDs G F (v :: vs) (d :: ds)
end

theorem same_t {K : PySem.W.Frag} {H H' : Hp} {a : Addr} {xs : List V} (e : Same H H') (h : SqT K H a xs) : SqT K H' a xs := by
  rcases h with (h | ⟨o, h⟩) | h
  · exact .inl (.inl (e _ _ h))
  · exact .inl (.inr ⟨o, e _ _ h⟩)
  · exact .inr h
theorem TupF.mono {G : Gx} {F F' : Hp} (s : Same F F') {a : Addr} {vs : List V} (h : TupF G F a vs) : TupF G F' a vs := h.elim (fun h => .inl (s _ _ h)) fun h => .inr ⟨same_t s h.1, h.2⟩
section
variable {G : Gx} {F F' H : Hp}
mutual
theorem RelD.mono (s : Same F F') : ∀ {v : V} {d : D}, RelD G F v d → RelD G F' v d
  | _, _, .non => .non
  | _, _, .bl b => .bl b
  | _, _, .int i => .int i
  | _, _, .str x => .str x
  | _, _, .tup h r => .tup (h.mono s) (RelDs.mono s r)
  | _, _, .lst h r => .lst (s _ _ h) (RelDs.mono s r)
  | _, _, .scr h => .scr (s.seq h)
  | _, _, .emp h => .emp (s _ _ h)
  | _, _, .loc => .loc
theorem RelDs.mono (s : Same F F') : ∀ {vs : List V} {ds : List D}, RelDs G F vs ds → RelDs G F' vs ds
  | _, _, .nil => .nil
  | _, _, .cons r t => .cons (RelD.mono s r) (RelDs.mono s t)
end
theorem RelDs.len : ∀ {vs : List V} {ds : List D}, RelDs G F vs ds → vs.length = ds.length
  | _, _, .nil => rfl
  | _, _, .cons _ t => congrArg Nat.succ (RelDs.len t)
theorem RelDs.app : ∀ {vs ws : List V} {ds es : List D}, RelDs G F vs ds → RelDs G F ws es → RelDs G F (vs ++ ws) (ds ++ es)
  | _, _, _, _, .nil, s => s
  | _, _, _, _, .cons r t, s => .cons r (RelDs.app t s)
theorem RelDs.take : ∀ {vs : List V} {ds : List D} (n : Nat), RelDs G F vs ds → RelDs G F (vs.take n) (ds.take n)
  | _, _, 0, _ => .nil
  | _, _, _ + 1, .nil => .nil
  | _, _, n + 1, .cons r t => .cons r (RelDs.take n t)
theorem RelDs.drop : ∀ {vs : List V} {ds : List D} (n : Nat), RelDs G F vs ds → RelDs G F (vs.drop n) (ds.drop n)
  | _, _, 0, r => r
  | _, _, _ + 1, .nil => .nil
  | _, _, n + 1, .cons r t => RelDs.drop n t
theorem RelDs.get : ∀ {vs : List V} {ds : List D} {i : Nat} {d : D}, RelDs G F vs ds → ds[i]? = some d → ∃ v, vs[i]? = some v ∧ RelD G F v d
  | _, _, _, _, .nil, e => by simp at e
  | _, _, 0, _, .cons r _, e => by simp at e; subst e; exact ⟨_, rfl, r⟩
  | _, _, i + 1, d, .cons _ t, e => by
    obtain ⟨u, h1, h2⟩ := RelDs.get (i := i) (d := d) t (by simpa using e)
    exact ⟨u, by simpa using h1, h2⟩
theorem RelDs.getV : ∀ {vs : List V} {ds : List D} {i : Nat} {v : V}, RelDs G F vs ds → vs[i]? = some v → ∃ d, ds[i]? = some d ∧ RelD G F v d
  | _, _, _, _, .nil, e => by simp at e
  | _, _, 0, _, .cons r _, e => by simp at e; subst e; exact ⟨_, rfl, r⟩
  | _, _, i + 1, d, .cons _ t, e => by
    obtain ⟨u, h1, h2⟩ := RelDs.getV (i := i) (v := d) t (by simpa using e)
    exact ⟨u, by simpa using h1, h2⟩
theorem RelDs.set : ∀ {vs : List V} {ds : List D} {v : V} {d : D} (i : Nat), RelDs G F vs ds → RelD G F v d → RelDs G F (vs.set i v) (ds.set i d)
  | _, _, _, _, _, .nil, _ => .nil
  | _, _, _, _, 0, .cons _ t, q => .cons q t
  | _, _, _, _, i + 1, .cons r t, q => .cons r (RelDs.set i t q)
theorem RelDs.rev {vs : List V} {ds : List D} (h : RelDs G F vs ds) : RelDs G F vs.reverse ds.reverse := by
  have go : ∀ {vs : List V} {ds : List D} {ws : List V} {es : List D}, RelDs G F vs ds → RelDs G F ws es → RelDs G F (vs.reverseAux ws) (ds.reverseAux es) := by
    intro vs
    induction vs with
    | nil => intro ds ws es h q; cases h; exact q
    | cons v vs ih =>
      intro ds ws es h q
      cases h with
      | cons r t =>
        have z := ih t (.cons r q)
        exact z
  exact go h .nil
theorem RelDs.rep {vs : List V} {ds : List D} (h : RelDs G F vs ds) : ∀ n : Nat, RelDs G F (List.replicate n vs).flatten (List.replicate n ds).flatten
  | 0 => .nil
  | n + 1 => by
    rw [List.replicate_succ, List.replicate_succ, List.flatten_cons, List.flatten_cons]
    exact h.app (RelDs.rep h n)
theorem RelDs.ints : ∀ (ns : List Int), RelDs G F (ns.map V.int) (ns.map D.int)
  | [] => .nil
  | n :: ns => .cons (.int n) (RelDs.ints ns)
theorem RelDs.strs : ∀ (cs : List Nat), RelDs G F (cs.map fun c => V.str ⟨#[c]⟩) (cs.map fun c => D.str ⟨#[c]⟩)
  | [] => .nil
  | n :: ns => .cons (.str _) (RelDs.strs ns)

/-- what is not told of plays no part -/
abbrev Gx.hide (G : Gx) (P : Hp) : Gx := { G with P := P }
mutual
theorem RelD.hide (P : Hp) : ∀ {v : V} {d : D}, RelD G F v d → RelD (G.hide P) F v d
  | _, _, .non => .non
  | _, _, .bl b => .bl b
  | _, _, .int i => .int i
  | _, _, .str x => .str x
  | _, _, .tup h r => .tup h (RelDs.hide P r)
  | _, _, .lst h r => .lst h (RelDs.hide P r)
  | _, _, .scr h => .scr h
  | _, _, .emp h => .emp h
  | _, _, .loc => .loc
theorem RelDs.hide (P : Hp) : ∀ {vs : List V} {ds : List D}, RelDs G F vs ds → RelDs (G.hide P) F vs ds
  | _, _, .nil => .nil
  | _, _, .cons r t => .cons (RelD.hide P r) (RelDs.hide P t)
end
theorem RelD.unhide {P : Hp} {v : V} {d : D} (h : RelD (G.hide P) F v d) : RelD G F v d := h.hide (G := G.hide P) G.P
theorem RelDs.unhide {P : Hp} {vs : List V} {ds : List D} (h : RelDs (G.hide P) F vs ds) : RelDs G F vs ds := h.hide (G := G.hide P) G.P
/-- a dict's pairs -/
inductive KVR {κ : Type} (G : Gx) (F : Hp) : List (κ × V) → List (κ × D) → Prop
  | nil : KVR G F [] []
  | cons {k : κ} {v : V} {d : D} {r : List (κ × V)} {s : List (κ × D)} : RelD G F v d → KVR G F r s → KVR G F ((k, v) :: r) ((k, d) :: s)
theorem KVR.mono {κ : Type} (s : Same F F') {r : List (κ × V)} {t : List (κ × D)} (h : KVR G F r t) : KVR G F' r t := by
  induction h with
  | nil => exact .nil
  | cons h _ ih => exact .cons (h.mono s) ih
theorem KVR.look {κ : Type} [DecidableEq κ] {k : κ} {d : D} {r : List (κ × V)} {t : List (κ × D)} (h : KVR G F r t) (e : lookD t k = some d) : ∃ v, valV r k = some v ∧ RelD G F v d := by
  induction h with
  | nil => cases e
  | @cons k' v d' r s h _ ih =>
    by_cases q : k' = k
    · refine ⟨v, valV_pos q, ?_⟩
      have e2 : lookD ((k', d') :: s) k = some d' := by
        show (((k', d') :: s).find? fun kv => decide (kv.1 = k)).map (·.2) = some d'
        rw [List.find?_cons_of_pos (by exact decide_eq_true q)]; rfl
      rw [e2] at e
      cases e
      exact h
    · have e2 : lookD ((k', d') :: s) k = lookD s k := by
        show (((k', d') :: s).find? fun kv => decide (kv.1 = k)).map (·.2) = _
        rw [List.find?_cons_of_neg (by intro z; exact q (of_decide_eq_true z))]; rfl
      rw [e2] at e
      rw [valV_neg q]
      exact ih e
theorem KVR.anyK {κ : Type} [DecidableEq κ] {k : κ} {r : List (κ × V)} {t : List (κ × D)} (h : KVR G F r t) : (r.any fun kv => decide (kv.1 = k)) = (t.any fun kv => decide (kv.1 = k)) := by
  induction h with
  | nil => rfl
  | cons _ _ ih => rw [List.any_cons, List.any_cons, ih]
theorem KVR.putM {κ : Type} [DecidableEq κ] {k : κ} {v : V} {d : D} {r : List (κ × V)} {t : List (κ × D)} (h : KVR G F r t) (hd : RelD G F v d) : KVR G F (r.map fun kv => if kv.1 = k then (kv.1, v) else kv) (t.map fun kv => if kv.1 = k then (kv.1, d) else kv) := by
  induction h with
  | nil => exact .nil
  | @cons k' _ _ _ _ h _ ih =>
    rw [List.map_cons, List.map_cons]
    by_cases q : k' = k
    · rw [if_pos q, if_pos q]; exact .cons hd ih
    · rw [if_neg q, if_neg q]; exact .cons h ih
theorem KVR.snoc {κ : Type} {k : κ} {v : V} {d : D} {r : List (κ × V)} {t : List (κ × D)} (h : KVR G F r t) (hd : RelD G F v d) : KVR G F (r ++ [(k, v)]) (t ++ [(k, d)]) := by
  induction h with
  | nil => exact .cons hd .nil
  | cons h _ ih => exact .cons h ih
theorem KVR.put {κ : Type} [DecidableEq κ] {k : κ} {v : V} {d : D} {r : List (κ × V)} {t : List (κ × D)} (h : KVR G F r t) (hd : RelD G F v d) : KVR G F (putK r k v) (putD t k d) := by
  unfold putK putD
  rw [h.anyK (k := k)]
  by_cases q : (t.any fun kv => decide (kv.1 = k)) = true
  · rw [if_pos q, if_pos q]; exact h.putM hd
  · rw [if_neg q, if_neg q]; exact h.snoc hd
theorem KVR.merge : ∀ {ks : List (Sum Int Str)} {vs : List V} {ds : List D} {r : List (Key × V)} {t : List (Sum Int Str × D)}, KVR G F r t → RelDs G F vs ds → KVR G F (mergeK r (ks.zip vs)) (mergeD t (ks.zip ds))
  | [], vs, ds, r, t, h, _ => by cases vs <;> cases ds <;> exact h
  | k :: ks, _, _, r, t, h, .nil => h
  | k :: ks, _, _, r, t, h, .cons h1 h2 => KVR.merge (ks := ks) (h.put (k := k) h1) h2
theorem KVR.len {κ : Type} {r : List (κ × V)} {t : List (κ × D)} (h : KVR G F r t) : r.length = t.length := by
  induction h with
  | nil => rfl
  | cons _ _ ih => rw [List.length_cons, List.length_cons, ih]
theorem KVR.get9 {κ : Type} {r : List (κ × V)} {t : List (κ × D)} (h : KVR G F r t) : ∀ {i : Nat} {kv : κ × D}, t[i]? = some kv → ∃ v, r[i]? = some (kv.1, v) := by
  induction h with
  | nil => intro i kv e; cases e
  | cons h _ ih =>
    intro i kv e
    cases i with
    | zero => cases e; exact ⟨_, rfl⟩
    | succ i => exact ih e
theorem KVR.hide {κ : Type} {G : Gx} {F : Hp} (P : Hp) {r : List (κ × V)} {t : List (κ × D)} (h : KVR G F r t) : KVR (G.hide P) F r t := by
  induction h with
  | nil => exact .nil
  | cons h _ ih => exact .cons (h.hide P) ih
theorem KVR.unhide {κ : Type} {G : Gx} {F : Hp} {P : Hp} {r : List (κ × V)} {t : List (κ × D)} (h : KVR (G.hide P) F r t) : KVR G F r t := h.hide (G := G.hide P) G.P
/-- what stands at a place -/
def RelOb (G : Gx) (F H : Hp) (a : Addr) : Ob → Prop
  | .lst ds => ∃ vs, H a = some (.lst vs) ∧ RelDs G F vs ds
  | .dic kvs => ∃ vks, H a = some (.dK vks) ∧ KVR G F vks kvs
  | .fdc kvs => ∃ o vks, F a = some (.frz o (.dK vks)) ∧ H a = some (.frz o (.dK vks)) ∧ KVR G F vks kvs
  | .dtc kvs => ∃ vks, H a = some (.dT vks) ∧ KVR G F vks kvs
  | .ins c fs => ∃ C dd, G.cl c = some C ∧ H a = some (L2.ExH (.ref C) dd a) ∧ (fs = [] ∧ dd = none ∨ ∃ d fvs, dd = some d ∧ F d = some (.xd fvs) ∧ Paired (fun (p : Str × V) (q : Str × D) => p.1 = q.1 ∧ RelD G F p.2 q.2) fvs fs)
  | .obj c fs => ∃ C dx fvs, G.co c = some C ∧ H a = some (.ins C dx fvs) ∧ Paired (fun (p : Str × V) (q : Str × D) => p.1 = q.1 ∧ RelD G F p.2 q.2) fvs fs
theorem fvs_mono {G : Gx} {F F' : Hp} (s : Same F F') {fvs : List (Str × V)} {fs : List (Str × D)} (h : Paired (fun (p : Str × V) (q : Str × D) => p.1 = q.1 ∧ RelD G F p.2 q.2) fvs fs) : Paired (fun (p : Str × V) (q : Str × D) => p.1 = q.1 ∧ RelD G F' p.2 q.2) fvs fs :=
  Paired.mapP h fun p q z => ⟨z.1, z.2.mono s⟩
theorem RelOb.at {F F' H H' : Hp} {a : Addr} {ob : Ob} (s : Same F F') (e : H' a = H a) (h : RelOb G F H a ob) : RelOb G F' H' a ob := by
  cases ob with
  | lst ds => obtain ⟨vs, h1, h2⟩ := h; exact ⟨vs, e.trans h1, h2.mono s⟩
  | dic kvs => obtain ⟨vs, h1, h2⟩ := h; exact ⟨vs, e.trans h1, h2.mono s⟩
  | fdc kvs => obtain ⟨o, vs, h0, h1, h2⟩ := h; exact ⟨o, vs, s _ _ h0, e.trans h1, h2.mono s⟩
  | dtc kvs => obtain ⟨vs, h1, h2⟩ := h; exact ⟨vs, e.trans h1, h2.mono s⟩
  | ins c fs =>
    obtain ⟨C, dd, h1, h2, h3⟩ := h
    refine ⟨C, dd, h1, e.trans h2, ?_⟩
    rcases h3 with h3 | ⟨d, fvs, h4, h5, h6⟩
    · exact .inl h3
    · exact .inr ⟨d, fvs, h4, s _ _ h5, fvs_mono s h6⟩
  | obj c fs =>
    obtain ⟨C, dx, fvs, h1, h2, h3⟩ := h
    exact ⟨C, dx, fvs, h1, e.trans h2, fvs_mono s h3⟩
theorem RelOb.there {F H : Hp} {a : Addr} {ob : Ob} (h : RelOb G F H a ob) : ∃ o, H a = some o := by
  cases ob with
  | lst ds => obtain ⟨vs, h1, _⟩ := h; exact ⟨_, h1⟩
  | dic kvs => obtain ⟨vs, h1, _⟩ := h; exact ⟨_, h1⟩
  | fdc kvs => obtain ⟨o, vs, _, h1, _⟩ := h; exact ⟨_, h1⟩
  | dtc kvs => obtain ⟨vs, h1, _⟩ := h; exact ⟨_, h1⟩
  | ins c fs => obtain ⟨C, dd, h1, h2, h3⟩ := h; exact ⟨_, h2⟩
  | obj c fs => obtain ⟨C, dx, fvs, h1, h2, h3⟩ := h; exact ⟨_, h2⟩
/-- what may change -/
def Ob.thaw : Ob → Bool
  | .fdc _ => false
  | _ => true
/-- F: what never changes; M: what may -/
structure RM (G : Gx) (F : Hp) (M : Mem) (H : Hp) : Prop where
  fz : Same F H
  mt : ∀ a ob, M a = some ob → (ob.thaw = true → F a = none) ∧ RelOb G F H a ob
  hd : ∀ a o, G.P a = some o → H a = some o ∧ F a = none ∧ M a = none
theorem RM.freeF {M : Mem} {p : Addr} (r : RM G F M H) (hp : H p = none) : F p = none := r.fz.free hp
theorem RM.freeM {M : Mem} {p : Addr} (r : RM G F M H) (hp : H p = none) : M p = none := by
  cases q : M p with
  | none => rfl
  | some ob =>
    obtain ⟨o, h⟩ := (r.mt p ob q).2.there
    rw [hp] at h; cases h
theorem same_upd {F : Hp} {p : Addr} {o : HO} (hp : F p = none) : Same F (upd F p o) := fun b u e => by rw [upd_ne (ne_of_none e hp)]; exact e
/-- a new thing that stays -/
theorem RM.neP {M : Mem} {p a : Addr} {o : HO} (r : RM G F M H) (hp : H p = none) (e : G.P a = some o) : a ≠ p := ne_of_none (r.hd a o e).1 hp
theorem RM.frz {M : Mem} {p : Addr} {o : HO} (r : RM G F M H) (hp : H p = none) : RM G (upd F p o) M (upd H p o) := by
  refine ⟨fun b u e => ?_, fun a ob e => ?_, fun a u e => by rw [upd_ne (r.neP hp e), upd_ne (r.neP hp e)]; exact r.hd a u e⟩
  · by_cases hb : b = p
    · subst hb; rw [upd_same] at e ⊢; exact e
    · rw [upd_ne hb] at e ⊢; exact r.fz b u e
  · obtain ⟨h1, h2⟩ := r.mt a ob e
    have ne : a ≠ p := fun z => by rw [z, r.freeM hp] at e; cases e
    exact ⟨fun t => by rw [upd_ne ne]; exact h1 t, h2.at (same_upd (r.freeF hp)) (upd_ne ne)⟩
/-- a new thing that is not told of -/
theorem RM.junk {M : Mem} {p : Addr} {o : HO} (r : RM G F M H) (hp : H p = none) : RM G F M (upd H p o) := by
  refine ⟨fun b u e => ?_, fun a ob e => ?_, fun a u e => by rw [upd_ne (r.neP hp e)]; exact r.hd a u e⟩
  · rw [upd_ne (ne_of_none e (r.freeF hp))]
    exact r.fz b u e
  · obtain ⟨h1, h2⟩ := r.mt a ob e
    have ne : a ≠ p := fun z => by rw [z, r.freeM hp] at e; cases e
    exact ⟨h1, h2.at (Same.refl F) (upd_ne ne)⟩
/-- a new thing that may change -/
theorem RM.new {M : Mem} {p : Addr} {o : HO} {ob : Ob} (r : RM G F M H) (hp : H p = none) (h : RelOb G F (upd H p o) p ob) : RM G F (M.upd p ob) (upd H p o) := by
  refine ⟨fun b u e => by rw [upd_ne (ne_of_none e (r.freeF hp))]; exact r.fz b u e, fun a ob' e => ?_, fun a u e => by
    rw [upd_ne (r.neP hp e)]
    unfold Mem.upd
    rw [if_neg (r.neP hp e)]
    exact r.hd a u e⟩
  unfold Mem.upd at e
  by_cases ha : a = p
  · subst ha; rw [if_pos rfl] at e; cases e; exact ⟨fun _ => r.freeF hp, h⟩
  · rw [if_neg ha] at e
    obtain ⟨h1, h2⟩ := r.mt a ob' e
    exact ⟨h1, h2.at (Same.refl F) (upd_ne ha)⟩
/-- a thing changed -/
theorem RM.put {M : Mem} {p : Addr} {o : HO} {ob ob' : Ob} (r : RM G F M H) (hp : M p = some ob) (h : RelOb G F (upd H p o) p ob') (ht : ob.thaw = true := by rfl) : RM G F (M.upd p ob') (upd H p o) := by
  have nf := (r.mt p ob hp).1 ht
  have nP : ∀ a u, G.P a = some u → a ≠ p := fun a u e z => by
    have q := (r.hd a u e).2.2
    rw [z, hp] at q; cases q
  refine ⟨fun b u e => by rw [upd_ne (ne_of_none e nf)]; exact r.fz b u e, fun a ob' e => ?_, fun a u e => by
    rw [upd_ne (nP a u e)]
    unfold Mem.upd
    rw [if_neg (nP a u e)]
    exact r.hd a u e⟩
  unfold Mem.upd at e
  by_cases ha : a = p
  · subst ha; rw [if_pos rfl] at e; cases e; exact ⟨fun _ => nf, h⟩
  · rw [if_neg ha] at e
    obtain ⟨h1, h2⟩ := r.mt a ob' e
    exact ⟨h1, h2.at (Same.refl F) (upd_ne ha)⟩
/-- a thing that stays from here on -/
theorem RM.freeze {M : Mem} {p : Addr} {ds : List D} (r : RM G F M H) (hp : M p = some (.lst ds)) : ∃ vs, F p = none ∧ H p = some (.lst vs) ∧ RelDs G F vs ds ∧ RM G (upd F p (.lst vs)) (M.del p) H := by
  obtain ⟨nf, vs, h1, h2⟩ := r.mt p _ hp
  have nf := nf rfl
  have nP : ∀ a u, G.P a = some u → a ≠ p := fun a u e z => by
    have q := (r.hd a u e).2.2
    rw [z, hp] at q; cases q
  refine ⟨vs, nf, h1, h2, fun b u e => ?_, fun a ob e => ?_, fun a u e => by
    rw [upd_ne (nP a u e)]
    unfold Mem.del
    rw [if_neg (nP a u e)]
    exact r.hd a u e⟩
  · by_cases hb : b = p
    · subst hb; rw [upd_same] at e; cases e; exact h1
    · rw [upd_ne hb] at e; exact r.fz b u e
  · unfold Mem.del at e
    by_cases ha : a = p
    · subst ha; rw [if_pos rfl] at e; cases e
    · rw [if_neg ha] at e
      obtain ⟨h3, h4⟩ := r.mt a ob e
      exact ⟨fun t => by rw [upd_ne ha]; exact h3 t, h4.at (same_upd nf) rfl⟩
/-- a dict that stays from here on -/
theorem RM.freezeD {M : Mem} {p : Addr} {kvs : List (Sum Int Str × D)} (r : RM G F M H) (hp : M p = some (.dic kvs)) : ∃ vks, F p = none ∧ H p = some (.dK vks) ∧ ∀ o, RM G (upd F p (.frz o (.dK vks))) (M.upd p (.fdc kvs)) (upd H p (.frz o (.dK vks))) := by
  obtain ⟨nf, vks, h1, h2⟩ := r.mt p _ hp
  have nf := nf rfl
  have nP : ∀ a u, G.P a = some u → a ≠ p := fun a u e z => by
    have q := (r.hd a u e).2.2
    rw [z, hp] at q; cases q
  refine ⟨vks, nf, h1, fun o => ⟨fun b u e => ?_, fun a ob e => ?_, fun a u e => by
    rw [upd_ne (nP a u e), upd_ne (nP a u e)]
    unfold Mem.upd
    rw [if_neg (nP a u e)]
    exact r.hd a u e⟩⟩
  · by_cases hb : b = p
    · subst hb; rw [upd_same] at e ⊢; exact e
    · rw [upd_ne hb] at e ⊢; exact r.fz b u e
  · unfold Mem.upd at e
    by_cases ha : a = p
    · subst ha; rw [if_pos rfl] at e; cases e; exact ⟨fun t => Bool.noConfusion (show false = true from t), o, vks, upd_same, upd_same, h2.mono (same_upd nf)⟩
    · rw [if_neg ha] at e
      obtain ⟨h3, h4⟩ := r.mt a ob e
      exact ⟨fun t => by rw [upd_ne ha]; exact h3 t, h4.at (same_upd nf) (upd_ne ha)⟩

/-! ### reading -/
theorem rd_T {M : Mem} {v : V} {ds : List D} (r : RM G F M H) (h : RelD G F v (.tup ds)) : ∃ p vs, v = .ref p ∧ SqT G.K H p vs ∧ RelDs G F vs ds := by
  cases h with
  | tup h1 h2 => exact ⟨_, _, rfl, same_t r.fz h1.sq, h2⟩
theorem rd_L {M : Mem} {v : V} {d : D} {ds : List D} (r : RM G F M H) (h : RelD G F v d) (e : asL M d = some ds) : ∃ p vs, v = .ref p ∧ SqL G.K H p vs ∧ RelDs G F vs ds := by
  cases h with
  | lst h1 h2 =>
    cases e
    exact ⟨_, _, rfl, .of (r.fz _ _ h1), h2⟩
  | scr h1 =>
    cases e
    exact ⟨_, _, rfl, r.fz.seq h1, RelDs.ints _⟩
  | @loc a =>
    dsimp only [asL] at e
    cases q : M a with
    | none => rw [q] at e; cases e
    | some ob =>
      rw [q] at e
      cases ob with
      | lst ds' =>
        cases e
        obtain ⟨_, vs, h1, h2⟩ := r.mt a _ q
        exact ⟨_, _, rfl, .of h1, h2⟩
      | dic _ => cases e
      | fdc _ => cases e
      | dtc _ => cases e
      | ins _ _ => cases e
      | obj _ _ => cases e
  | _ => cases e
theorem rd_LT {M : Mem} {v : V} {d : D} {ds : List D} (r : RM G F M H) (h : RelD G F v d) (e : asLT M d = some ds) : ∃ p vs, v = .ref p ∧ H p = some (.lst vs) ∧ RelDs G F vs ds := by
  cases h with
  | lst h1 h2 =>
    cases e
    exact ⟨_, _, rfl, r.fz _ _ h1, h2⟩
  | @loc a =>
    dsimp only [asLT] at e
    cases q : M a with
    | none => rw [q] at e; cases e
    | some ob =>
      rw [q] at e
      cases ob with
      | lst ds' =>
        cases e
        obtain ⟨_, vs, h1, h2⟩ := r.mt a _ q
        exact ⟨_, _, rfl, h1, h2⟩
      | dic _ => cases e
      | fdc _ => cases e
      | dtc _ => cases e
      | ins _ _ => cases e
      | obj _ _ => cases e
  | _ => cases e
theorem rd_S {M : Mem} {v : V} {d : D} {ds : List D} (r : RM G F M H) (h : RelD G F v d) (e : asS M d = some ds) : ∃ p vs, v = .ref p ∧ (SqL G.K H p vs ∨ SqT G.K H p vs) ∧ RelDs G F vs ds := by
  by_cases ht : ∃ es, d = .tup es
  · obtain ⟨es, rfl⟩ := ht
    cases e
    obtain ⟨p, vs, h1, h2, h3⟩ := rd_T r h
    exact ⟨p, vs, h1, .inr h2, h3⟩
  · have e' : asL M d = some ds := by
      cases d with
      | tup es => exact absurd ⟨es, rfl⟩ ht
      | _ => exact e
    obtain ⟨p, vs, h1, h2, h3⟩ := rd_L r h e'
    exact ⟨p, vs, h1, .inl h2, h3⟩
end

/-! ### what follows -/
section
variable (G : Gx)
/-- what follows with a value -/
def Cn (F : Hp) (q : QK) (Q : VK) : Prop := ∀ F' M' H' v d, Same F F' → RM G F' M' H' → RelD G F' v d → q d M' → Q v H'
def CnB (F : Hp) (q : BK) (Q : Bool → Hp → Prop) : Prop := ∀ F' M' H' b, Same F F' → RM G F' M' H' → q b M' → Q b H'
def CnA (F : Hp) (q : AK) (Q : List V → Hp → Prop) : Prop := ∀ F' M' H' vs ds, Same F F' → RM G F' M' H' → RelDs G F' vs ds → q ds M' → Q vs H'
/-- an exception's object -/
def RelX (F _H : Hp) (z : Exn) (c : Value) (dd : Option Addr) : Prop :=
  ∃ C, G.cl z.c = some C ∧ c = .ref C ∧ (z.fs = [] ∧ dd = none ∨ ∃ d fvs, dd = some d ∧ F d = some (.xd fvs) ∧ Paired (fun (p : Str × V) (q : Str × D) => p.1 = q.1 ∧ RelD G F p.2 q.2) fvs z.fs)
def CnX (F : Hp) (e : XQ) (W : Value → Option Addr → Hp → Prop) : Prop := ∀ F' M' H' z c dd, Same F F' → RM G F' M' H' → RelX G F' H' z c dd → e z M' → W c dd H'
/-- the slots -/
structure EnvR (F : Hp) (env : Env) (σ : L2.St) : Prop where
  len : env.length = σ.length
  at_ : ∀ i d, slv env i = some d → ∃ v, σ[i]? = some (some v) ∧ RelD G F v d
end
section
variable {G : Gx} {F F' H : Hp} {M : Mem}
theorem Cn.mono {q : QK} {Q : VK} (s : Same F F') (c : Cn G F q Q) : Cn G F' q Q := fun F2 M2 H2 v d s2 => c F2 M2 H2 v d (s.trans s2)
theorem CnB.mono {q : BK} {Q : Bool → Hp → Prop} (s : Same F F') (c : CnB G F q Q) : CnB G F' q Q := fun F2 M2 H2 b s2 => c F2 M2 H2 b (s.trans s2)
theorem CnA.mono {q : AK} {Q : List V → Hp → Prop} (s : Same F F') (c : CnA G F q Q) : CnA G F' q Q := fun F2 M2 H2 b d s2 => c F2 M2 H2 b d (s.trans s2)
theorem CnX.mono {e : XQ} {W : Value → Option Addr → Hp → Prop} (s : Same F F') (c : CnX G F e W) : CnX G F' e W := fun F2 M2 H2 z c' dd s2 => c F2 M2 H2 z c' dd (s.trans s2)
theorem EnvR.mono {env : Env} {σ : L2.St} (s : Same F F') (h : EnvR G F env σ) : EnvR G F' env σ := ⟨h.len, fun i d e => let ⟨v, h1, h2⟩ := h.at_ i d e; ⟨v, h1, h2.mono s⟩⟩
theorem vals_set {env : Env} {i j : Nat} {o : Option D} : slv (env.set i o) j = if i = j ∧ i < env.length then o else slv env j := by
  unfold slv
  by_cases h : i = j
  · subst h
    by_cases hl : i < env.length
    · rw [List.getElem?_set_self hl, if_pos ⟨rfl, hl⟩]; rfl
    · rw [if_neg (fun z => hl z.2), List.getElem?_eq_none (by simpa using hl), List.getElem?_eq_none (by simpa using hl)]
  · rw [List.getElem?_set_ne h, if_neg (fun z => h z.1)]
theorem EnvR.set {env : Env} {σ : L2.St} {i : Nat} {v : V} {d : D} (h : EnvR G F env σ) (r : RelD G F v d) : EnvR G F (setV env i d) (σ.set i (some v)) := by
  refine ⟨by unfold setV; rw [List.length_set, List.length_set]; exact h.len, fun j e hj => ?_⟩
  unfold setV at hj
  rw [vals_set] at hj
  by_cases hc : i = j ∧ i < env.length
  · rw [if_pos hc] at hj
    cases hj
    obtain ⟨rfl, hl⟩ := hc
    exact ⟨v, by rw [List.getElem?_set_self (by rw [← h.len]; exact hl)], r⟩
  · rw [if_neg hc] at hj
    obtain ⟨w, h1, h2⟩ := h.at_ j e hj
    refine ⟨w, ?_, h2⟩
    by_cases hij : i = j
    · subst hij
      have hl : ¬ i < env.length := fun z => hc ⟨rfl, z⟩
      rw [h.len] at hl
      rw [List.getElem?_eq_none (by omega)] at h1
      cases h1
    · rw [List.getElem?_set_ne hij]; exact h1
theorem EnvR.wipe {env : Env} {σ : L2.St} (h : EnvR G F env σ) : ∀ (own : List Nat), EnvR G F (wipeE env own) (L2.wipe σ own)
  | [] => h
  | i :: own => by
    have ih := EnvR.wipe h own
    refine ⟨?_, fun j e hj => ?_⟩
    · show ((wipeE env own).set i none).length = ((L2.wipe σ own).set i none).length
      rw [List.length_set, List.length_set]; exact ih.len
    · have hj : slv ((wipeE env own).set i none) j = some e := hj
      show ∃ v, ((L2.wipe σ own).set i none)[j]? = some (some v) ∧ RelD G F v e
      rw [vals_set] at hj
      by_cases hc : i = j ∧ i < (wipeE env own).length
      · rw [if_pos hc] at hj; cases hj
      · rw [if_neg hc] at hj
        obtain ⟨w, h1, h2⟩ := ih.at_ j e hj
        refine ⟨w, ?_, h2⟩
        by_cases hij : i = j
        · subst hij
          have hl : ¬ i < (wipeE env own).length := fun z => hc ⟨rfl, z⟩
          rw [ih.len] at hl
          rw [List.getElem?_eq_none (by omega)] at h1
          cases h1
        · rw [List.getElem?_set_ne hij]; exact h1

/-! ### new lists -/
theorem newL_ok {fr : Bool} {vs : List V} {ds : List D} {q : QK} {Q : VK} (r : RM G F M H) (rs : RelDs G F vs ds) (cn : Cn G F q Q) (h : newL fr ds M q) :
    vs.length ≤ sizeLine ∧ ∀ p, H p = none → Q (.ref p) (upd H p (.lst vs)) := by
  obtain ⟨hz, h⟩ := h
  refine ⟨by rw [rs.len]; exact hz, fun p hp => ?_⟩
  cases fr with
  | true =>
    have s := same_upd (o := .lst vs) (r.freeF hp)
    exact cn _ M _ _ _ s (r.frz hp) (.lst upd_same (rs.mono s)) h
  | false =>
    exact cn F _ _ _ _ (Same.refl F) (r.new (ob := .lst ds) hp ⟨vs, upd_same, rs⟩) .loc (h p (r.freeM hp))
theorem newT_ok {vs : List V} {ds : List D} {q : QK} {Q : VK} (r : RM G F M H) (rs : RelDs G F vs ds) (cn : Cn G F q Q) (h : q (.tup ds) M) {p : Addr} (hp : H p = none) : Q (.ref p) (upd H p (.tup vs)) := by
  have s := same_upd (o := .tup vs) (r.freeF hp)
  exact cn _ M _ _ _ s (r.frz hp) (.tup (.inl upd_same) (rs.mono s)) h
theorem newE_ok {q : QK} {Q : VK} (r : RM G F M H) (cn : Cn G F q Q) (h : q .emp M) {p : Addr} (hp : H p = none) : Q (.ref p) (upd H p (.dK [])) := by
  have s := same_upd (o := .dK []) (r.freeF hp)
  exact cn _ M _ _ _ s (r.frz hp) (.emp upd_same) h

/-! ### data -/
theorem dpAll_ints {K : PySem.W.Frag} : ∀ (ns : List Int), DpAll K H (ns.map V.int) (ns.map PyData.int)
  | [] => .nil
  | n :: ns => .cons (.int n) (dpAll_ints ns)
mutual
theorem dp_of (r : RM G F M H) : ∀ {d : D} {v : V} {p : PyData}, RelD G F v d → toPy d = some p → Dp G.K H v p
  | .non, _, _, h, e => by cases h; cases e; exact .non
  | .bl b, _, _, h, e => by cases h; cases e; exact .bl b
  | .int i, _, _, h, e => by cases h; cases e; exact .int i
  | .str x, _, _, h, e => by cases h; cases e; exact .str x
  | .tup ds, _, p, h, e => by
    unfold toPy at e
    cases q : toPys ds with
    | none => rw [q] at e; cases e
    | some ps =>
      rw [q] at e; cases e
      cases h with
      | tup h1 h2 => exact .tup (same_t r.fz h1.sq) (dp_all r h2 q)
  | .lst ds, _, p, h, e => by
    unfold toPy at e
    cases q : toPys ds with
    | none => rw [q] at e; cases e
    | some ps =>
      rw [q] at e; cases e
      cases h with
      | lst h1 h2 => exact .lst (.of (r.fz _ _ h1)) (dp_all r h2 q)
  | .scr ns, _, p, h, e => by
    cases e
    cases h with
    | scr h1 => exact .lst (r.fz.seq h1) (dpAll_ints ns)
  | .emp, _, _, _, e => by cases e
  | .loc _, _, _, _, e => by cases e
theorem dp_all (r : RM G F M H) : ∀ {ds : List D} {vs : List V} {ps : List PyData}, RelDs G F vs ds → toPys ds = some ps → DpAll G.K H vs ps
  | [], _, _, h, e => by cases h; cases e; exact .nil
  | d :: ds, _, ps, h, e => by
    unfold toPys at e
    cases q1 : toPy d with
    | none => rw [q1] at e; cases e
    | some p =>
      cases q2 : toPys ds with
      | none => rw [q1, q2] at e; cases e
      | some ps' =>
        rw [q1, q2] at e; cases e
        cases h with
        | cons h1 h2 => exact .cons (dp_of r h1 q1) (dp_all r h2 q2)
end
theorem dp_1 (r : RM G F M H) {d : D} {v : V} {p : PyData} (h : RelD G F v d) (e : toPy1 M d = some p) : Dp G.K H v p := by
  cases d with
  | loc a =>
    dsimp only [toPy1] at e
    cases q : M a with
    | none => rw [q] at e; cases e
    | some ob =>
      rw [q] at e
      cases ob with
      | lst ds =>
        have e : (toPys ds).map PyData.list = some p := e
        cases q2 : toPys ds with
        | none => rw [q2] at e; cases e
        | some ps =>
          rw [q2] at e; cases e
          cases h
          obtain ⟨_, vs, h1, h2⟩ := r.mt a _ q
          exact .lst (.of h1) (dp_all r h2 q2)
      | dic _ => cases e
      | fdc _ => cases e
      | dtc _ => cases e
      | ins _ _ => cases e
      | obj _ _ => cases e
  | _ => exact dp_of r h e

theorem dps_1 (r : RM G F M H) : ∀ {ds : List D} {vs : List V} {ps : List PyData}, RelDs G F vs ds → toPys1 M ds = some ps → DpAll G.K H vs ps
  | [], vs, ps, h, e => by
    cases e; cases h; exact .nil
  | d :: ds, vs, ps, h, e => by
    unfold toPys1 at e
    cases q1 : toPy1 M d with
    | none => rw [q1] at e; cases e
    | some p =>
      cases q2 : toPys1 M ds with
      | none => rw [q1, q2] at e; cases e
      | some ps' =>
        rw [q1, q2] at e; cases e
        cases h with
        | cons h1 h2 => exact .cons (dp_1 r h1 q1) (dps_1 r h2 q2)
theorem dp_M (r : RM G F M H) {d : D} {v : V} {p : PyData} (h : RelD G F v d) (e : toPyM M d = some p) : Dp G.K H v p := by
  cases d with
  | tup ds =>
    have e : (toPys1 M ds).map PyData.tuple = some p := e
    cases q2 : toPys1 M ds with
    | none => rw [q2] at e; cases e
    | some ps =>
      rw [q2] at e; cases e
      cases h with
      | tup h1 h2 => exact .tup (same_t r.fz h1.sq) (dps_1 r h2 q2)
  | _ => exact dp_1 r h e

theorem dps_F {f : D → Option PyData} (ih : ∀ {d : D} {v : V} {p : PyData}, RelD G F v d → f d = some p → Dp G.K H v p) : ∀ {ds : List D} {vs : List V} {ps : List PyData}, RelDs G F vs ds → optAll f ds = some ps → DpAll G.K H vs ps
  | [], vs, ps, h, e => by
    cases e; cases h; exact .nil
  | d :: ds, vs, ps, h, e => by
    unfold optAll at e
    cases q1 : f d with
    | none => rw [q1] at e; cases e
    | some p =>
      cases q2 : optAll f ds with
      | none => rw [q1, q2] at e; cases e
      | some ps' =>
        rw [q1, q2] at e; cases e
        cases h with
        | cons h1 h2 => exact .cons (ih h1 q1) (dps_F ih h2 q2)
theorem dp_F (r : RM G F M H) : ∀ (n : Nat) {d : D} {v : V} {p : PyData}, RelD G F v d → toPyF M n d = some p → Dp G.K H v p
  | 0, _, _, _, _, e => by cases e
  | n + 1, d, v, p, h, e => by
    have ih : ∀ {d : D} {v : V} {p : PyData}, RelD G F v d → toPyF M n d = some p → Dp G.K H v p := fun h e => dp_F r n h e
    cases d with
    | tup ds =>
      have e : (optAll (toPyF M n) ds).map PyData.tuple = some p := e
      cases q2 : optAll (toPyF M n) ds with
      | none => rw [q2] at e; cases e
      | some ps =>
        rw [q2] at e; cases e
        cases h with
        | tup h1 h2 => exact .tup (same_t r.fz h1.sq) (dps_F ih h2 q2)
    | lst ds =>
      have e : (optAll (toPyF M n) ds).map PyData.list = some p := e
      cases q2 : optAll (toPyF M n) ds with
      | none => rw [q2] at e; cases e
      | some ps =>
        rw [q2] at e; cases e
        cases h with
        | lst h1 h2 => exact .lst (.of (r.fz _ _ h1)) (dps_F ih h2 q2)
    | loc a =>
      dsimp only [toPyF] at e
      cases q : M a with
      | none => rw [q] at e; cases e
      | some ob =>
        rw [q] at e
        cases ob with
        | lst ds =>
          have e : (optAll (toPyF M n) ds).map PyData.list = some p := e
          cases q2 : optAll (toPyF M n) ds with
          | none => rw [q2] at e; cases e
          | some ps =>
            rw [q2] at e; cases e
            cases h
            obtain ⟨_, vs, h1, h2⟩ := r.mt a _ q
            exact .lst (.of h1) (dps_F ih h2 q2)
        | dic _ => cases e
        | fdc _ => cases e
        | dtc _ => cases e
        | ins _ _ => cases e
        | obj _ _ => cases e
    | _ => exact dp_of r h e

/-! ### operators by values -/
/-- a two-place operation -/
def lift2 (G : Gx) (w : D → D → Mem → QK → Prop) : R2 := fun x y H Q => ∃ F M dx dy q, RM G F M H ∧ RelD G F x dx ∧ RelD G F y dy ∧ Cn G F q Q ∧ w dx dy M q
theorem OpR.or2 {X : Cx} {f : Value → Value → Sem Value} {r : R2} (h : ∀ x y H Q, r x y H Q → ∃ r', OpR X f r' ∧ r' x y H Q) : OpR X f r := by
  intro pins s σ H x y v u Q I rx ry q
  obtain ⟨r', h1, h2⟩ := h x y H Q q
  exact h1 pins s σ H x y v u Q I rx ry h2
variable {X : Cx}
theorem opr_add (hK : X.K = G.K) {fr : Bool} : OpR X (binaryOp .Add) (lift2 G (addW fr)) := by
  refine OpR.or2 fun x y H Q ⟨F, M, dx, dy, q, rm, r1, r2, cn, h⟩ => ?_
  have lists : (match asLT M dx, asLT M dy with
    | some a, some b => newL fr (a ++ b) M q
    | _, _ => False) → ∃ r', OpR X (binaryOp .Add) r' ∧ r' x y H Q := fun h => by
    cases e1 : asLT M dx with
    | none => rw [e1] at h; exact h.elim
    | some a =>
      cases e2 : asLT M dy with
      | none => rw [e1, e2] at h; exact h.elim
      | some b =>
        rw [e1, e2] at h
        obtain ⟨p1, vs1, rfl, g1, g2⟩ := rd_LT rm r1 e1
        obtain ⟨p2, vs2, rfl, g3, g4⟩ := rd_LT rm r2 e2
        obtain ⟨hz, k⟩ := newL_ok rm (g2.app g4) cn h
        exact ⟨_, op_cat, p1, p2, vs1, vs2, rfl, rfl, g1, g3, by rw [List.length_append] at hz; exact hz, k⟩
  have cnh : ∀ {v d}, RelD G F v d → q d M → Q v H := fun r h => cn F M H _ _ (Same.refl F) rm r h
  cases dx with
  | int i =>
    cases dy with
    | int j => cases r1; cases r2; exact ⟨_, op_add, i, j, rfl, rfl, cnh (.int _) h⟩
    | _ => exact lists h
  | str a =>
    cases dy with
    | str b => cases r1; cases r2; exact ⟨_, op_add_str, a, b, rfl, rfl, h.1, cnh (.str _) h.2⟩
    | _ => exact lists h
  | tup a =>
    cases dy with
    | tup b =>
      obtain ⟨p1, vs1, rfl, g1, g2⟩ := rd_T rm r1
      obtain ⟨p2, vs2, rfl, g3, g4⟩ := rd_T rm r2
      refine ⟨_, op_catA, p1, p2, vs1, vs2, rfl, rfl, by rw [hK]; exact g1, by rw [hK]; exact g3, by rw [g2.len, g4.len]; exact h.1, fun e => ?_, fun _ e => ?_, fun _ _ p hp => newT_ok rm (g2.app g4) cn h.2 hp⟩
      · subst e; cases g2; exact cnh r2 h.2
      · subst e; cases g4
        have := h.2
        rw [List.append_nil] at this
        exact cnh r1 this
    | _ => exact lists h
  | _ => exact lists h
theorem mul_okI {i j : Int} (h : mulOk i j) : IntMulOk i j := by
  have b : ∀ x : Int, Builtin.Int.intBits x ≤ x.natAbs.log2 + 1 := fun x => by
    unfold Builtin.Int.intBits
    split <;> omega
  have h1 := b i
  have h2 := b j
  have h3 : i.natAbs.log2 + j.natAbs.log2 < 100000000 := h
  have e : bitsLine = 134217728 := by decide
  unfold IntMulOk
  intro z
  rw [Bool.and_eq_true] at z
  have z2 := z.2
  unfold Builtin.Int.intTooBig at z2
  have z3 := of_decide_eq_true z2
  rw [e] at z3
  omega
theorem op_mulG {X : Cx} : OpR X (binaryOp .Mult) (rI mulOk fun i j => .int (i * j)) := opI fun _ _ _ _ _ _ _ hc q => mul_int q (mul_okI hc)
end
end Wp

/-! WpNe: != of lists whose things are told alike within one model. -/
namespace Wp
open PySem PySem.SeqAt
open AutoSeq1 (wpAny_loadPart')
open MeetsSeq MeetsSeq2 MeetsSeq3 SeqRoads2
section
variable {prog : Program} {w : World}
theorem neP_loop (l b : Addr) (items items2 : Array Value) (n n2 : Nat) (dd dd2 : Option Addr) (sl sl2 : Array (Option Value)) (hsz : items.size = items2.size) (e : Nat → Bool) (k : Nat) :
    ∀ i : Nat, items.size - i = k → MeetsIn prog w (Builtin.«list.__eq__.loop» ⟨[.ref l, .ref b, rawInt i, rawInt 3], []⟩)
      (fun A R s => s.heap.get? l = some { cls := .type "list", dict := dd, data := .seq items n, slots := sl } ∧ s.heap.get? b = some { cls := .type "list", dict := dd2, data := .seq items2 n2, slots := sl2 } ∧
        (∀ j (h1 : j < items.size) (h2 : j < items2.size), EqP prog w A.in1 s items[j] items2[j] (e j)) ∧
        R (.ok (.ret (.bool (!((List.range items.size).drop i).all e)))) s) := by
  induction k with
  | zero =>
    intro i hk A R s h
    obtain ⟨hp, g, d, tk, os⟩ := s; obtain ⟨hl, hb, he, h⟩ := h
    wp_walk using wpAny_loadPart' hl, wpAny_loadPart' hb
    have hi1 : items[((i : Nat) : Int).toNat]? = none := by simp; omega
    have hi2 : items2[((i : Nat) : Int).toNat]? = none := by simp; omega
    have hd : (List.range items.size).drop i = [] := by simp; omega
    rw [hd] at h
    rw [hi1, hi2]
    wp_walk using wpAny_loadPart' hl, wpAny_loadPart' hb
    show R (.ok (.ret (.bool (items.size != items2.size)))) _
    rw [hsz]
    simpa using h
  | succ k ih =>
    intro i hk A R s h
    obtain ⟨hp, g, d, tk, os⟩ := s; obtain ⟨hl, hb, he, h⟩ := h
    wp_walk using wpAny_loadPart' hl, wpAny_loadPart' hb
    have hlt : i < items.size := by omega
    have hlt2 : i < items2.size := by omega
    have hi1 : items[((i : Nat) : Int).toNat]? = some items[i] := by simp [hlt]
    have hi2 : items2[((i : Nat) : Int).toNat]? = some items2[i] := by simp [hlt2]
    have hd : (List.range items.size).drop i = i :: (List.range items.size).drop (i + 1) := by simp [List.drop_eq_getElem_cons, hlt]
    have hc : ((i : Int) + 1) = ((i + 1 : Nat) : Int) := by push_cast; rfl
    rw [hd, List.all_cons] at h
    rw [hi1, hi2]
    refine wpAny_bind (he i hlt hlt2 _ _ ?_)
    cases hb' : e i with
    | true =>
      rw [hb'] at h
      wp_walk
      rw [hc]
      exact ⟨plainId_quiet plain_eq_loop _, codeAny_builtin entry_eq_loop (by
        rw [Around.under_plainId plain_eq_loop _]
        exact ih (i + 1) (by omega) A R _ ⟨hl, hb, he, by simpa using h⟩)⟩
    | false =>
      rw [hb'] at h
      wp_walk using wpAny_loadPart' hl, wpAny_loadPart' hb
      rw [hi1, hi2]
      wp_walk
      simpa using h
theorem neP_list (l b : Addr) (items items2 : Array Value) (n n2 : Nat) (dd dd2 : Option Addr) (sl sl2 : Array (Option Value)) (hsz : items.size = items2.size) (e : Nat → Bool) :
    MeetsIn prog w (Builtin.«list.__ne__» ⟨[.ref l, .ref b], []⟩)
      (fun A R s => s.heap.get? l = some { cls := .type "list", dict := dd, data := .seq items n, slots := sl } ∧ s.heap.get? b = some { cls := .type "list", dict := dd2, data := .seq items2 n2, slots := sl2 } ∧
        (∀ j (h1 : j < items.size) (h2 : j < items2.size), EqP prog w A.in1 s items[j] items2[j] (e j)) ∧
        R (.ok (.ret (.bool (!(List.range items.size).all e)))) s) := by
  intro A R s h
  obtain ⟨hp, g, d, tk, os⟩ := s; obtain ⟨hl, hb, he, h⟩ := h
  have f3 := AutoSeq1.sub_list_list
  have hne : ¬ (items.size != items2.size) = true := by simp [hsz]
  wp_walk using wpAny_loadPart' hl, wpAny_loadPart' hb
  exact ⟨plainId_quiet plain_eq_loop _, codeAny_builtin entry_eq_loop (by
    rw [Around.under_plainId plain_eq_loop _]
    exact neP_loop l b items items2 n n2 dd dd2 sl sl2 hsz e _ 0 rfl A R _ ⟨hl, hb, he, by simpa using h⟩)⟩
theorem neP_lists {A : Around} {s : Shared} {l b : Addr} {items items2 : Array Value} {e : Nat → Bool} (hl : s.heap.IsList l items) (hb : s.heap.IsList b items2) (hsz : items.size = items2.size) (hu : A.units < cLine)
    (he : ∀ j (h1 : j < items.size) (h2 : j < items2.size), EqP prog w A.in1 s items[j] items2[j] (e j)) (E Q : Value → Shared → Prop) (h : Q (.bool (!(List.range items.size).all e)) s) : wpAny (model prog w) A (richCompare .NotEq (.ref l) (.ref b)) Q E s := by
  obtain ⟨⟨cls, dd, data, sl⟩, ho, hc, n, hd⟩ := id hl
  obtain ⟨⟨cls2, dd2, data2, sl2⟩, ho2, hc2, n2, hd2⟩ := id hb
  simp only at hc hd hc2 hd2
  subst hc hd hc2 hd2
  have ta : s.TypeIs (.ref l) "list" := ⟨_, ho, rfl⟩
  have tb : s.TypeIs (.ref b) "list" := ⟨_, ho2, rfl⟩
  exact wpAny_richCompare_same_room (op := .NotEq) ta tb F.slot_list_ne (call_meetsIn F.slot_list_ne ta F.entry_list_ne (F.args_list_ne_2 _ _) (neP_list l b items items2 n n2 dd dd2 sl sl2 hsz e)
    ⟨ho, ho2, he, show Value.bool (!(List.range items.size).all e) ≠ Value.notImplemented ∧ Q (.bool (!(List.range items.size).all e)) s from ⟨(fun x => nomatch x), h⟩⟩) hu
end
end Wp

/-! WpGt: a > b of two lists of ints. -/
namespace Wp
open PySem PySem.SeqAt
open _root_.Ob (RcOp)
open PySem.AutoSeq1 (wpAny_loadPart')
open PySem.MeetsSeq PySem.MeetsSeq2 PySem.MeetsSeq3
theorem gt_loopAt (l b : Addr) (items items2 : Array Value) (n n2 : Nat) (dd dd2 : Option Addr) (sl sl2 : Array (Option Value)) (e r : Nat → Bool) (k : Nat) :
    ∀ i : Nat, min items.size items2.size - i = k → Meets (Builtin.«list.__eq__.loop» ⟨[.ref l, .ref b, rawInt i, rawInt 4], []⟩)
      (fun A R s => s.heap.get? l = some { cls := .type "list", dict := dd, data := .seq items n, slots := sl } ∧ s.heap.get? b = some { cls := .type "list", dict := dd2, data := .seq items2 n2, slots := sl2 } ∧
        (∀ j (h1 : j < items.size) (h2 : j < items2.size), EqAt A.in1 s items[j] items2[j] (e j)) ∧ (∀ j (h1 : j < items.size) (h2 : j < items2.size), e j = false → RcOp .Gt A.in1 s items[j] items2[j] (r j)) ∧
        R (.ok (.ret (.bool (firstLt e r (decide (items.size > items2.size)) ((List.range (min items.size items2.size)).drop i))))) s) := by
  induction k with
  | zero =>
    intro i hk prog w A R s h
    obtain ⟨hp, g, d, tk, os⟩ := s; obtain ⟨hl, hb, he, hr, h⟩ := h
    have hd : (List.range (min items.size items2.size)).drop i = [] := by simp; omega
    rw [hd] at h
    wp_walk using wpAny_loadPart' hl, wpAny_loadPart' hb
    by_cases h1 : items.size ≤ i
    · have hi1 : items[((i : Nat) : Int).toNat]? = none := by simp; omega
      rw [hi1]
      wp_walk using wpAny_loadPart' hl, wpAny_loadPart' hb
      exact h
    · have hlt : i < items.size := by omega
      have hi1 : items[((i : Nat) : Int).toNat]? = some items[i] := by simp [hlt]
      have hi2 : items2[((i : Nat) : Int).toNat]? = none := by simp; omega
      rw [hi1, hi2]
      wp_walk using wpAny_loadPart' hl, wpAny_loadPart' hb
      exact h
  | succ k ih =>
    intro i hk prog w A R s h
    obtain ⟨hp, g, d, tk, os⟩ := s; obtain ⟨hl, hb, he, hr, h⟩ := h
    wp_walk using wpAny_loadPart' hl, wpAny_loadPart' hb
    have hm : i < min items.size items2.size := by omega
    have hlt : i < items.size := Nat.lt_of_lt_of_le hm (Nat.min_le_left _ _)
    have hlt2 : i < items2.size := Nat.lt_of_lt_of_le hm (Nat.min_le_right _ _)
    have hi1 : items[((i : Nat) : Int).toNat]? = some items[i] := by simp [hlt]
    have hi2 : items2[((i : Nat) : Int).toNat]? = some items2[i] := by simp [hlt2]
    have hd : (List.range (min items.size items2.size)).drop i = i :: (List.range (min items.size items2.size)).drop (i + 1) := by simp [List.drop_eq_getElem_cons, hm]
    have hc : ((i : Int) + 1) = ((i + 1 : Nat) : Int) := by push_cast; rfl
    rw [hd] at h
    rw [hi1, hi2]
    refine wpAny_bind (he i hlt hlt2 prog w _ _ ?_)
    cases hb' : e i with
    | true =>
      rw [firstLt_yes hb'] at h
      wp_walk
      rw [hc]
      exact ⟨plainId_quiet plain_eq_loop _, codeAny_builtin entry_eq_loop (by
        rw [Around.under_plainId plain_eq_loop _]
        exact ih (i + 1) (by omega) prog w A R _ ⟨hl, hb, he, hr, h⟩)⟩
    | false =>
      rw [firstLt_no hb'] at h
      wp_walk using wpAny_loadPart' hl, wpAny_loadPart' hb
      rw [hi1, hi2]
      have hri := hr i hlt hlt2 hb' prog w
      wp_walk using hri
      exact h
theorem list_gtAt (l b : Addr) (items items2 : Array Value) (n n2 : Nat) (dd dd2 : Option Addr) (sl sl2 : Array (Option Value)) (e r : Nat → Bool) :
    Meets (Builtin.«list.__gt__» ⟨[.ref l, .ref b], []⟩)
      (fun A R s => s.heap.get? l = some { cls := .type "list", dict := dd, data := .seq items n, slots := sl } ∧ s.heap.get? b = some { cls := .type "list", dict := dd2, data := .seq items2 n2, slots := sl2 } ∧
        (∀ j (h1 : j < items.size) (h2 : j < items2.size), EqAt A.in1 s items[j] items2[j] (e j)) ∧ (∀ j (h1 : j < items.size) (h2 : j < items2.size), e j = false → RcOp .Gt A.in1 s items[j] items2[j] (r j)) ∧
        R (.ok (.ret (.bool (firstLt e r (decide (items.size > items2.size)) (List.range (min items.size items2.size)))))) s) := by
  intro prog w A R s h
  obtain ⟨hp, g, d, tk, os⟩ := s; obtain ⟨hl, hb, he, hr, h⟩ := h
  have f3 := AutoSeq1.sub_list_list
  wp_walk using wpAny_loadPart' hl, wpAny_loadPart' hb
  exact ⟨plainId_quiet plain_eq_loop _, codeAny_builtin entry_eq_loop (by
    rw [Around.under_plainId plain_eq_loop _]
    exact gt_loopAt l b items items2 n n2 dd dd2 sl sl2 e r _ 0 rfl prog w A R _ ⟨hl, hb, he, hr, by simpa using h⟩)⟩
theorem lists_gt {A : Around} {s : Shared} {l b : Addr} {items items2 : Array Value} {e r : Nat → Bool} (hl : s.heap.IsList l items) (hb : s.heap.IsList b items2) (hu : A.units < cLine)
    (he : ∀ j (h1 : j < items.size) (h2 : j < items2.size), EqAt A.in1 s items[j] items2[j] (e j)) (hr : ∀ j (h1 : j < items.size) (h2 : j < items2.size), e j = false → RcOp .Gt A.in1 s items[j] items2[j] (r j)) :
    RcOp .Gt A s (.ref l) (.ref b) (firstLt e r (decide (items.size > items2.size)) (List.range (min items.size items2.size))) := fun prog w E Q h => by
  obtain ⟨⟨cls, dd, data, sl⟩, ho, hc, n, hd⟩ := id hl
  obtain ⟨⟨cls2, dd2, data2, sl2⟩, ho2, hc2, n2, hd2⟩ := id hb
  simp only at hc hd hc2 hd2
  subst hc hd hc2 hd2
  exact richCompare_meets_room (op := .Gt) ⟨_, ho, rfl⟩ ⟨_, ho2, rfl⟩ F.slot_list_gt F.entry_list_gt (F.args_list_gt_2 _ _) (list_gtAt l b items items2 n n2 dd dd2 sl sl2 e r)
    ⟨ho, ho2, he, hr, ⟨(fun x => nomatch x), h⟩⟩ hu
open PySem.Spec PyProof.Rows L2
theorem first_gt : ∀ (ns ms : List Int), firstLt (fun j => decide (ns.getD j 0 = ms.getD j 0)) (fun j => decide (ms.getD j 0 < ns.getD j 0)) (decide (ns.length > ms.length)) (List.range (min ns.length ms.length)) = gtL ns ms
  | [], ms => by
    rw [List.length_nil, Nat.zero_min]
    show decide (0 > ms.length) = false
    exact decide_eq_false (by omega)
  | x :: xs, [] => by
    rw [List.length_nil, Nat.min_zero]
    show decide ((x :: xs).length > 0) = true
    exact decide_eq_true (by rw [List.length_cons]; omega)
  | x :: xs, y :: ys => by
    rw [List.length_cons, List.length_cons, Nat.succ_min_succ, List.range_succ_eq_map]
    have ih := first_gt xs ys
    show (if decide (x = y) = true then firstLt _ _ _ ((List.range (min xs.length ys.length)).map Nat.succ) else decide (y < x)) = gtL (x :: xs) (y :: ys)
    unfold gtL
    by_cases h : x = y
    · rw [if_pos h, if_pos (decide_eq_true h), PySem.W.firstLt_map, ← ih]
      have e : decide (xs.length + 1 > ys.length + 1) = decide (xs.length > ys.length) := by
        by_cases q : xs.length > ys.length
        · rw [decide_eq_true q, decide_eq_true (by omega)]
        · rw [decide_eq_false q, decide_eq_false (by omega)]
      rw [e]
      rfl
    · rw [if_neg h, if_neg (by rw [decide_eq_false h]; exact Bool.false_ne_true)]
def rGtL (K : PySem.W.Frag) : R2 := fun x y H Q => ∃ (a b : Addr) (ns ms : List Int), x = .ref a ∧ y = .ref b ∧ SqL K H a (ns.map V.int) ∧ SqL K H b (ms.map V.int) ∧ Q (.bl (gtL ns ms)) H
theorem op_gtL {X : Cx} (hu : X.A.units < cLine) : OpR X (compareOp .Gt) (rGtL X.K) := by
  intro pins s σ H x y v u Q I rx ry h
  obtain ⟨a, b, ns, ms, rfl, rfl, ha, hb, q⟩ := h
  cases rx
  cases ry
  obtain ⟨its, r1, p1, _⟩ := I.list ha
  obtain ⟨its2, r2, p2, _⟩ := I.list hb
  have i1 : IntsAre its ns := Vals.ints r1
  have i2 : IntsAre its2 ms := Vals.ints r2
  have e1 : its.toArray.size = ns.length := by rw [List.size_toArray]; exact i1.length
  have e2 : its2.toArray.size = ms.length := by rw [List.size_toArray]; exact i2.length
  have at1 : ∀ j (h1 : j < its.toArray.size), ∃ t, its.toArray[j] = .int (ns.getD j 0) t := fun j h1 => PyProof.Rows.IntsAre.int_at i1 _ _ (by simp at h1; simp [h1])
  have at2 : ∀ j (h1 : j < its2.toArray.size), ∃ t, its2.toArray[j] = .int (ms.getD j 0) t := fun j h1 => PyProof.Rows.IntsAre.int_at i2 _ _ (by simp at h1; simp [h1])
  have R := lists_gt (A := X.A) (s := s) (e := fun j => decide (ns.getD j 0 = ms.getD j 0)) (r := fun j => decide (ms.getD j 0 < ns.getD j 0)) p1.isList p2.isList hu (fun j h1 h2 => by
    obtain ⟨t, et⟩ := at1 j h1
    obtain ⟨t', et'⟩ := at2 j h2
    rw [et, et']
    have z : (ns.getD j 0 == ms.getD j 0) = decide (ns.getD j 0 = ms.getD j 0) := by
      by_cases q : ns.getD j 0 = ms.getD j 0
      · rw [decide_eq_true q]; exact beq_iff_eq.mpr q
      · rw [decide_eq_false q]; exact beq_eq_false_iff_ne.mpr q
    rw [← z]
    exact SeqAt.EqAt.int_int _ _ _ _) (fun j h1 h2 _ => by
    obtain ⟨t, et⟩ := at1 j h1
    obtain ⟨t', et'⟩ := at2 j h2
    rw [et, et']
    exact _root_.Ob.RcOp.gt_int _ _ _ _)
  rw [e1, e2, first_gt] at R
  have z : wpAny (model X.prog X.w) X.A (compareOp .Gt (.ref a) (.ref b)) (EP X pins σ Q) X.xe s := R X.prog X.w X.xe (EP X pins σ Q) ⟨.bl _, H, I, rfl, q⟩
  exact z
end Wp

/-! WpX1: text * int, tuple * int where it is none or one time. -/
namespace Wp
open PySem PySem.Spec PyProof.Rows L2
theorem fold_nats (x : Array Nat) : ∀ (k : Nat) (acc : Array Nat), ((List.replicate k x).foldl (· ++ ·) acc).toList = acc.toList ++ (List.replicate k x.toList).flatten
  | 0, acc => by simp
  | k + 1, acc => by
    rw [List.replicate_succ, List.foldl_cons, fold_nats x k, List.replicate_succ, List.flatten_cons, Array.toList_append, List.append_assoc]
theorem repS_eq (z : Str) (n : Nat) : (⟨(List.replicate n z.cps).foldl (· ++ ·) #[]⟩ : Str) = repS z n := by
  have h := fold_nats z.cps n #[]
  unfold repS
  rw [show (List.replicate n z.cps).foldl (· ++ ·) #[] = (List.replicate n z.cps.toList).flatten.toArray from Array.toList_inj.mp (by rw [h]; rfl)]
theorem repS_len (z : Str) (n : Nat) : (repS z n).length = z.length * n := by
  show (List.replicate n z.cps.toList).flatten.toArray.size = _
  rw [List.size_toArray, PyProof.Rows.lm_len_rep_flat, Array.length_toList, Nat.mul_comm]
  rfl
theorem repS_one (z : Str) : repS z 1 = z := by
  unfold repS
  simp
theorem repS_nil {z : Str} (n : Nat) (h : z.length = 0) : repS z n = z := by
  have e : z.cps = #[] := Array.eq_empty_of_size_eq_zero h
  unfold repS
  cases z with
  | mk c =>
    cases e
    simp
section
variable {X : Cx}
theorem op_repS : OpR X (binaryOp .Mult) (fun x y H Q => ∃ z k, x = .str z ∧ y = .int k ∧ -(2 ^ 63) ≤ k ∧ k < 2 ^ 63 ∧ z.length * k.toNat ≤ sizeLine ∧ Q (.str (repS z k.toNat)) H) := by
  intro pins s σ H x y v u Q I rx ry h
  obtain ⟨z, k, rfl, rfl, h1, h2, hz, q⟩ := h
  obtain ⟨t, rfl⟩ := rx
  obtain ⟨t', rfl⟩ := ry
  have hS : sizeLine ≤ 1000000000 := by decide
  refine P.mul_str ?_ ?_ ?_ ?_
  · rw [decide_eq_false (by omega), decide_eq_false (by omega)]; rfl
  · intro h3 h4
    have e : ((z.length : Nat) : Int) * k ≤ 1000000000 := by
      have : ((z.length * k.toNat : Nat) : Int) = z.length * k := by rw [Int.natCast_mul, Int.toNat_of_nonneg (by omega)]
      rw [← this]
      omega
    rw [Int.not_lt]
    refine (Int.le_ediv_iff_mul_le (by omega)).mpr ?_
    omega
  · intro h3 h4
    exact decide_eq_false (by omega)
  · split
    · rename_i h3
      have e : repS z k.toNat = Str.empty := by
        have : k.toNat = 0 := by omega
        rw [this]
        rfl
      exact ⟨by decide, .str (repS z k.toNat), H, I.tok _, ⟨_, by rw [e]⟩, q⟩
    · split
      · rename_i h3 h4
        have e : repS z k.toNat = z := by
          rw [Bool.or_eq_true, beq_iff_eq, beq_iff_eq] at h4
          rcases h4 with h4 | h4
          · rw [h4]; exact repS_one z
          · exact repS_nil _ h4
        refine ⟨.str (repS z k.toNat), H, I, ⟨t, by rw [e]⟩, q⟩
      · rw [repS_eq]
        exact ⟨by rw [repS_len]; exact hz, .str (repS z k.toNat), H, I.tok _, ⟨_, rfl⟩, q⟩
/-! ### tuple * 1, tuple * 0 -/
theorem tuple_same (l : Addr) (items : Array Value) (n : Nat) (dd : Option Addr) (sl : Array (Option Value)) (x : Int) (u : Tok) (c0 : (decide (x < -(2 ^ 63)) || decide (x ≥ 2 ^ 63)) = false) (c1 : (items.isEmpty || x == 1) = true) :
    Meets (Builtin.«tuple.__mul__» ⟨[.ref l, .int x u], []⟩) (fun _ R s => s.heap.get? l = some { cls := .type "tuple", dict := dd, data := .seq items n, slots := sl } ∧
      R (.ok (.ret (.ref l))) s) :=
  .of_wp fun prog w A R s h => by
    obtain ⟨hp, g, d, tk, os⟩ := s
    obtain ⟨hl, h⟩ := h
    have f1 := AutoSeq1.idx_int
    wp_walk using wpAny_loadPart' hl
    repeat (first
      | (refine wpAny_ite_false (decide_eq_false (by rw [c0]; exact Bool.false_ne_true)) ?_; wp_walk using wpAny_loadPart' hl)
      | (refine wpAny_ite_true (decide_eq_true (by rw [c1])) ?_; wp_walk using wpAny_loadPart' hl))
    exact ⟨_, rfl, h⟩
theorem tuple_none (l : Addr) (items : Array Value) (n : Nat) (dd : Option Addr) (sl : Array (Option Value)) (x : Int) (u : Tok) (c0 : (decide (x < -(2 ^ 63)) || decide (x ≥ 2 ^ 63)) = false) (c1 : (items.isEmpty || x == 1) = false) (c2 : (decide (x ≤ 0) || items.isEmpty) = true) :
    Meets (Builtin.«tuple.__mul__» ⟨[.ref l, .int x u], []⟩) (fun _ R s => s.heap.get? l = some { cls := .type "tuple", dict := dd, data := .seq items n, slots := sl } ∧
      R (.ok (.ret (Value.ref s.heap.objs.size))) { s with heap := s.heap.push { cls := Value.type "tuple", data := Data.seq #[] }, toks := s.toks }) :=
  .of_wp fun prog w A R s h => by
    obtain ⟨hp, g, d, tk, os⟩ := s
    obtain ⟨hl, h⟩ := h
    have f1 := AutoSeq1.idx_int
    wp_walk using wpAny_loadPart' hl
    repeat (first
      | (refine wpAny_ite_false (decide_eq_false (by rw [c0]; exact Bool.false_ne_true)) ?_; wp_walk using wpAny_loadPart' hl)
      | (refine wpAny_ite_false (decide_eq_false (by rw [c1]; exact Bool.false_ne_true)) ?_; wp_walk using wpAny_loadPart' hl)
      | (refine wpAny_ite_true (decide_eq_true (by rw [c2])) ?_; wp_walk using wpAny_loadPart' hl))
    exact ⟨_, rfl, h⟩
def rRepT0 (K : PySem.W.Frag) : R2 := fun x y H Q => ∃ l k xs, x = .ref l ∧ y = .int k ∧ SqT K H l xs ∧ -(2 ^ 63) ≤ k ∧ k < 2 ^ 63 ∧ ((xs = [] ∨ k = 1) → Q (.ref l) H) ∧ (xs ≠ [] → k ≤ 0 → ∀ p, H p = none → Q (.ref p) (upd H p (.tup []))) ∧ (xs = [] ∨ k ≤ 1)
theorem op_repT0 : OpR X (binaryOp .Mult) (rRepT0 X.K) := by
  intro pins s σ H x y v u Q I rx ry h
  obtain ⟨l, k, xs, rfl, rfl, hT, h1, h2, q1, q2, h3⟩ := h
  cases rx
  obtain ⟨t, rfl⟩ := ry
  obtain ⟨its, r, ⟨⟨cls, dd, data, sl⟩, ho, hc, n, hd⟩, hs⟩ := I.tuple hT
  simp only at hc hd
  subst hc hd
  have c0 : (decide (k < -(2 ^ 63)) || decide (k ≥ 2 ^ 63)) = false := by
    rw [decide_eq_false (by omega), decide_eq_false (by omega)] <;> rfl
  by_cases e : xs = [] ∨ k = 1
  · have c1 : (its.toArray.isEmpty || k == 1) = true := by
      rcases e with e | e
      · subst e; cases r; rfl
      · rw [e, Bool.or_eq_true]; exact .inr rfl
    refine wpAny_binaryOp_repeat_ref (T := "tuple") (U := "int") (by decide) ⟨_, ho, rfl⟩ (fun s' => typeIs_int s' k t) noFill_tuple_mul F.fills_int_mul F.slot_int_rmul repeat_tuple F.slot_int_index.lookup
      (call_meets F.slot_int_rmul (typeIs_int s k t) F.entry_int_rmul (F.args_int_rmul_2 _ _) (int_rmul_tuple k t l its.toArray n dd sl)
        ⟨ho, rfl, ⟨_, ho, rfl⟩, call_meets F.slot_tuple_mul ⟨_, ho, rfl⟩ F.entry_tuple_mul (F.args_tuple_mul_2 _ _) (tuple_same l its.toArray n dd sl k t c0 c1) ⟨ho, ?_⟩⟩)
    exact ⟨.ref l, H, I, rfl, q1 e⟩
  · have hn : xs ≠ [] := fun z => e (.inl z)
    have hk : k ≤ 0 := by
      rcases h3 with h3 | h3
      · exact absurd h3 hn
      · have : k ≠ 1 := fun z => e (.inr z)
        omega
    have hi : its.toArray.isEmpty = false := by
      cases r with
      | nil => exact absurd rfl hn
      | cons a b => rfl
    have c1 : (its.toArray.isEmpty || k == 1) = false := by
      rw [hi, Bool.false_or]
      exact beq_eq_false_iff_ne.mpr (by omega)
    have c2 : (decide (k ≤ 0) || its.toArray.isEmpty) = true := by
      rw [decide_eq_true hk]; rfl
    refine wpAny_binaryOp_repeat_ref (T := "tuple") (U := "int") (by decide) ⟨_, ho, rfl⟩ (fun s' => typeIs_int s' k t) noFill_tuple_mul F.fills_int_mul F.slot_int_rmul repeat_tuple F.slot_int_index.lookup
      (call_meets F.slot_int_rmul (typeIs_int s k t) F.entry_int_rmul (F.args_int_rmul_2 _ _) (int_rmul_tuple k t l its.toArray n dd sl)
        ⟨ho, rfl, ⟨_, ho, rfl⟩, call_meets F.slot_tuple_mul ⟨_, ho, rfl⟩ F.entry_tuple_mul (F.args_tuple_mul_2 _ _) (tuple_none l its.toArray n dd sl k t c0 c1 c2) ⟨ho, ?_⟩⟩)
    refine ⟨.ref s.heap.objs.size, _, I.laid (t' := s.toks) (o := .tup []) (fun b ob q => Heap.get?_push_of_some _ q) (Nat.le_refl _) ?_, rfl, q2 hn hk _ (I.hok.fresh (Nat.le_refl _))⟩
    exact ⟨by decide, [], .nil, IsTup.new _ _⟩
end
end Wp

/-! WpDc: a dict and a text are never alike. -/
namespace Wp
open PySem PySem.SeqAt PySem.MeetsSeq PySem.AutoSeq1
section
variable {A : Around} {s : Shared} {a : Addr} {o : Obj}
theorem dict_eq_declines {prog : Program} {w : World} {E Q : Value → Shared → Prop} {b : Str} {u : Tok} (ta : s.TypeIs (.ref a) "dict") (h : Q .notImplemented s) :
    wpAny (model prog w) A (call (.builtin "dict.__eq__") [.ref a, .str b u]) Q E s := by
  refine wpAny_call_entry PySem.F.slot_dict_eq ta PySem.F.entry_dict_eq ?_ (PySem.F.args_dict_eq_2 _ _)
  show wpAny _ _ (Builtin.Dict.dictSlotArgs "__eq__" ⟨[.ref a, .str b u], []⟩ >>= _) _ _ s
  refine wpAny_bind ?_
  unfold Builtin.Dict.dictSlotArgs
  refine wpAny_bind (wpAny_notOrdered_dict ta ?_)
  show wpAny _ _ (pure (Value.ref a, Value.str b u)) _ _ s
  refine wpAny_pure ?_
  refine wpAny_bind (wpAny_isInstance (T := "str") (typeIs_str s b u) PySem.F.sub_str_dict ?_)
  simp only [Bool.not_false, if_true]
  refine wpAny_bind (wpAny_rule ?_)
  exact wpAny_pure ⟨_, rfl, h⟩
theorem str_eq_declines_any (b : Str) (u : Tok) (l : Addr) (c : Value) (es : Array DictEntry) (n : Nat) (dd : Option Addr) (sl : Array (Option Value)) :
    Meets (Builtin.«str.__eq__» ⟨[.str b u, .ref l], []⟩) (fun _ R s => s.heap.get? l = some { cls := c, dict := dd, data := .dict es n, slots := sl } ∧ R (.ok (.ret .notImplemented)) s) :=
  .of_wp fun prog w A R s h => by obtain ⟨hp, g, d, tk, os⟩ := s; obtain ⟨hl, h⟩ := h; wp_walk using wpAny_loadPart' hl, wpAny_load hl; exact ⟨_, rfl, h⟩
theorem rc_dict_str (b : Str) (u : Tok) (ho : ∃ o es n, s.heap.get? a = some o ∧ o.data = .dict es n) (ta : s.TypeIs (.ref a) "dict") (hu : A.units < cLine) : RcAt A s (.ref a) (.str b u) false := fun prog w E Q h => by
  obtain ⟨⟨cls, dd, data, sl⟩, es, n, ho, hd⟩ := ho
  simp only at hd
  subst hd
  exact
  rc_eq_decline_or (k := false) ta (typeIs_str s b u) (by decide) F.sub_str_dict F.slot_dict_eq F.slot_str_eq_refl
    (fun _ hq => dict_eq_declines ta hq)
    (fun _ hq => call_meets F.slot_str_eq_refl (typeIs_str s b u) F.entry_str_eq (F.args_str_eq_2 _ _) (str_eq_declines_any b u a cls es n dd sl) ⟨ho, hq⟩)
    (fun _ hq => wpAny_of_eq (rfl : isSame (.ref a) (.str b u) = pure false) hq) (.inr hu) h
theorem rc_str_dict (b : Str) (u : Tok) (ho : ∃ o es n, s.heap.get? a = some o ∧ o.data = .dict es n) (ta : s.TypeIs (.ref a) "dict") (hu : A.units < cLine) : RcAt A s (.str b u) (.ref a) false := fun prog w E Q h => by
  obtain ⟨⟨cls, dd, data, sl⟩, es, n, ho, hd⟩ := ho
  simp only at hd
  subst hd
  exact
  rc_eq_decline_or (k := false) (typeIs_str s b u) ta (by decide) F.sub_dict_str F.slot_str_eq F.slot_dict_eq_refl
    (fun _ hq => call_meets F.slot_str_eq (typeIs_str s b u) F.entry_str_eq (F.args_str_eq_2 _ _) (str_eq_declines_any b u a cls es n dd sl) ⟨ho, hq⟩)
    (fun _ hq => dict_eq_declines ta hq)
    (fun _ hq => wpAny_of_eq (rfl : isSame (.str b u) (.ref a) = pure false) hq) (.inr hu) h
theorem eqAt_dict_str (b : Str) (u : Tok) (ho : ∃ o es n, s.heap.get? a = some o ∧ o.data = .dict es n) (ta : s.TypeIs (.ref a) "dict") (hu : A.units < cLine) : EqAt A s (.ref a) (.str b u) false := fun prog w E Q h => by
  unfold eqBool
  refine wpAny_holding ?_
  refine wpAny_ite_split (fun hab => absurd (eq_of_beq hab) nofun) (fun _ => ?_)
  exact wpAny_bind (rc_dict_str b u ho ta hu prog w E _ (wpAny_truthy_bool h))
theorem eqAt_str_dict (b : Str) (u : Tok) (ho : ∃ o es n, s.heap.get? a = some o ∧ o.data = .dict es n) (ta : s.TypeIs (.ref a) "dict") (hu : A.units < cLine) : EqAt A s (.str b u) (.ref a) false := fun prog w E Q h => by
  unfold eqBool
  refine wpAny_holding ?_
  refine wpAny_ite_split (fun hab => absurd (eq_of_beq hab) nofun) (fun _ => ?_)
  exact wpAny_bind (rc_str_dict b u ho ta hu prog w E _ (wpAny_truthy_bool h))
theorem dict_ne_declines {prog : Program} {w : World} {E Q : Value → Shared → Prop} {b : Str} {u : Tok} (ta : s.TypeIs (.ref a) "dict") (h : Q .notImplemented s) :
    wpAny (model prog w) A (call (.builtin "dict.__ne__") [.ref a, .str b u]) Q E s := by
  refine wpAny_call_entry PySem.F.slot_dict_ne ta PySem.F.entry_dict_ne ?_ (PySem.F.args_dict_ne_2 _ _)
  show wpAny _ _ (Builtin.Dict.dictSlotArgs "__ne__" ⟨[.ref a, .str b u], []⟩ >>= _) _ _ s
  refine wpAny_bind ?_
  unfold Builtin.Dict.dictSlotArgs
  refine wpAny_bind (wpAny_notOrdered_dict ta ?_)
  show wpAny _ _ (pure (Value.ref a, Value.str b u)) _ _ s
  refine wpAny_pure ?_
  refine wpAny_bind (wpAny_isInstance (T := "str") (typeIs_str s b u) PySem.F.sub_str_dict ?_)
  simp only [Bool.not_false, if_true]
  refine wpAny_bind (wpAny_rule ?_)
  exact wpAny_pure ⟨_, rfl, h⟩
theorem str_ne_declines_any (b : Str) (u : Tok) (l : Addr) (c : Value) (es : Array DictEntry) (n : Nat) (dd : Option Addr) (sl : Array (Option Value)) :
    Meets (Builtin.«str.__ne__» ⟨[.str b u, .ref l], []⟩) (fun _ R s => s.heap.get? l = some { cls := c, dict := dd, data := .dict es n, slots := sl } ∧ R (.ok (.ret .notImplemented)) s) :=
  .of_wp fun prog w A R s h => by obtain ⟨hp, g, d, tk, os⟩ := s; obtain ⟨hl, h⟩ := h; wp_walk using wpAny_loadPart' hl, wpAny_load hl; exact ⟨_, rfl, h⟩
theorem rcn_dict_str (b : Str) (u : Tok) (ho : ∃ o es n, s.heap.get? a = some o ∧ o.data = .dict es n) (ta : s.TypeIs (.ref a) "dict") (hu : A.units < cLine) : RcNeAt A s (.ref a) (.str b u) true := fun prog w E Q h => by
  obtain ⟨⟨cls, dd, data, sl⟩, es, n, ho, hd⟩ := ho
  simp only at hd
  subst hd
  exact
  rc_ne_decline_or (k := false) ta (typeIs_str s b u) (by decide) F.sub_str_dict F.slot_dict_ne F.slot_str_ne_refl
    (fun _ hq => dict_ne_declines ta hq)
    (fun _ hq => call_meets F.slot_str_ne_refl (typeIs_str s b u) F.entry_str_ne (F.args_str_ne_2 _ _) (str_ne_declines_any b u a cls es n dd sl) ⟨ho, hq⟩)
    (fun _ hq => wpAny_of_eq (rfl : isSame (.ref a) (.str b u) = pure false) hq) (.inr hu) h
theorem rcn_str_dict (b : Str) (u : Tok) (ho : ∃ o es n, s.heap.get? a = some o ∧ o.data = .dict es n) (ta : s.TypeIs (.ref a) "dict") (hu : A.units < cLine) : RcNeAt A s (.str b u) (.ref a) true := fun prog w E Q h => by
  obtain ⟨⟨cls, dd, data, sl⟩, es, n, ho, hd⟩ := ho
  simp only at hd
  subst hd
  exact
  rc_ne_decline_or (k := false) (typeIs_str s b u) ta (by decide) F.sub_dict_str F.slot_str_ne F.slot_dict_ne_refl
    (fun _ hq => call_meets F.slot_str_ne (typeIs_str s b u) F.entry_str_ne (F.args_str_ne_2 _ _) (str_ne_declines_any b u a cls es n dd sl) ⟨ho, hq⟩)
    (fun _ hq => dict_ne_declines ta hq)
    (fun _ hq => wpAny_of_eq (rfl : isSame (.str b u) (.ref a) = pure false) hq) (.inr hu) h
end
end Wp

/-! WpS2: the other operators, subscripts, built-ins, by values. -/
namespace Wp
open PySem PySem.Spec PyProof.Rows L2
section
variable {G : Gx} {F F' H : Hp} {M : Mem} {X : Cx}
theorem opr_mul (hK : X.K = G.K) {fr : Bool} : OpR X (binaryOp .Mult) (lift2 G (mulW fr)) := by
  refine OpR.or2 fun x y H Q ⟨F, M, dx, dy, q, rm, r1, r2, cn, h⟩ => ?_
  cases dy with
  | int k =>
    cases r2
    have lists : (match asLT M dx with
      | some a => -(2 ^ 63) ≤ k ∧ k < 2 ^ 63 ∧ a.length * k.toNat ≤ sizeLine ∧ newL fr (List.replicate k.toNat a).flatten M q
      | none => False) → ∃ r', OpR X (binaryOp .Mult) r' ∧ r' x (.int k) H Q := fun h => by
      cases e1 : asLT M dx with
      | none => rw [e1] at h; exact h.elim
      | some a =>
        rw [e1] at h
        obtain ⟨h1, h2, h3, h4⟩ := h
        obtain ⟨p1, vs1, rfl, g1, g2⟩ := rd_LT rm r1 e1
        obtain ⟨hz, kk⟩ := newL_ok rm (g2.rep k.toNat) cn h4
        exact ⟨_, op_rep, p1, k, vs1, rfl, rfl, g1, h1, h2, by rw [g2.len]; exact h3, kk⟩
    cases dx with
    | int i => cases r1; exact ⟨_, op_mulG, i, k, rfl, rfl, h.1, cn F M H _ _ (Same.refl F) rm (.int _) h.2⟩
    | tup a =>
      obtain ⟨h1, h2, h4, h5⟩ := h
      obtain ⟨p1, vs1, rfl, g1, g2⟩ := rd_T rm r1
      by_cases hk : vs1 ≠ [] ∧ 2 ≤ k
      · exact ⟨_, op_repT, p1, k, vs1, rfl, rfl, by rw [hK]; exact g1, hk.1, hk.2, h2, by rw [g2.len]; exact h4, fun p hp => newT_ok rm (g2.rep k.toNat) cn h5 hp⟩
      · refine ⟨_, op_repT0, p1, k, vs1, rfl, rfl, by rw [hK]; exact g1, h1, by omega, fun e => ?_, fun e1 e2 p hp => ?_, ?_⟩
        · have e2 : (List.replicate k.toNat a).flatten = a := by
            rcases e with e | e
            · subst e; cases g2
              simp
            · subst e
              show (List.replicate 1 a).flatten = a
              simp
          rw [e2] at h5
          exact cn F M H _ _ (Same.refl F) rm r1 h5
        · have e : k.toNat = 0 := by omega
          rw [e] at h5
          exact newT_ok rm .nil cn h5 hp
        · by_cases e : vs1 = []
          · exact .inl e
          · refine .inr ?_
            have h9 : ¬ 2 ≤ k := fun z => hk ⟨e, z⟩
            omega
    | str z =>
      cases r1
      obtain ⟨h1, h2, h3, h4⟩ := h
      exact ⟨_, op_repS, z, k, rfl, rfl, h1, h2, h3, cn F M H _ _ (Same.refl F) rm (.str _) h4⟩
    | _ => exact lists h
  | _ => cases dx <;> exact (show False from h).elim
theorem opr_bin (hK : X.K = G.K) {op : Operator} {fr : Bool} : OpR X (binaryOp op) (lift2 G (binW op fr)) := by
  cases op with
  | Add => exact opr_add hK
  | Mult => exact opr_mul hK
  | Sub =>
    refine OpR.or2 fun x y H Q ⟨F, M, dx, dy, q, rm, r1, r2, cn, h⟩ => ?_
    cases dx <;> cases dy <;> try exact (show False from h).elim
    cases r1; cases r2
    exact ⟨_, op_sub, _, _, rfl, rfl, cn F M H _ _ (Same.refl F) rm (.int _) h⟩
  | Mod =>
    refine OpR.or2 fun x y H Q ⟨F, M, dx, dy, q, rm, r1, r2, cn, h⟩ => ?_
    cases dx <;> cases dy <;> try exact (show False from h).elim
    cases r1; cases r2
    exact ⟨_, op_mod, _, _, rfl, rfl, h.1, cn F M H _ _ (Same.refl F) rm (.int _) h.2⟩
  | FloorDiv =>
    refine OpR.or2 fun x y H Q ⟨F, M, dx, dy, q, rm, r1, r2, cn, h⟩ => ?_
    cases dx <;> cases dy <;> try exact (show False from h).elim
    cases r1; cases r2
    exact ⟨_, op_fdivW, _, _, rfl, rfl, ⟨h.1, h.2.1⟩, cn F M H _ _ (Same.refl F) rm (.int _) h.2.2⟩
  | Pow =>
    refine OpR.or2 fun x y H Q ⟨F, M, dx, dy, q, rm, r1, r2, cn, h⟩ => ?_
    cases dx <;> cases dy <;> try exact (show False from h).elim
    cases r1; cases r2
    exact ⟨_, op_pow, _, _, rfl, rfl, h.1, cn F M H _ _ (Same.refl F) rm (.int _) h.2⟩
  | _ =>
    intro pins s σ H x y v u Q I rx ry ⟨F, M, dx, dy, q, rm, r1, r2, cn, h⟩
    exact (show False from h).elim
/-- a one-place operation -/
def lift1 (G : Gx) (w : D → Mem → QK → Prop) : V → Hp → VK → Prop := fun x H Q => ∃ F M dx q, RM G F M H ∧ RelD G F x dx ∧ Cn G F q Q ∧ w dx M q
theorem unr_neg : UnR X (unaryOp .USub) (lift1 G negW) := by
  intro pins s σ H x v Q I rx ⟨F, M, dx, q, rm, r1, cn, h⟩
  cases dx <;> try exact (show False from h).elim
  cases r1
  exact un_neg pins s σ H _ v Q I rx ⟨_, rfl, cn F M H _ _ (Same.refl F) rm (.int _) h⟩

/-! ### comparisons -/
/-- an empty dict, whatever the world -/
theorem emp_any {P P' : Program} {w w' : World} {h : Heap} {a : Addr} (x : h.DictOf (mixKind P w) a []) : h.DictOf (mixKind P' w') a [] := by
  obtain ⟨o, es, ep, h1, h2, h3, h4, h5, h6⟩ := x
  refine ⟨o, es, ep, h1, h2, h3, ?_, ?_, h6⟩
  · have e : es.toList = [] := by
      have := h5.length
      exact List.length_eq_zero_iff.mp this
    have e2 : es = #[] := by
      obtain ⟨l⟩ := es
      simp only at e
      rw [e]
    subst e2
    intro i hi
    simp at hi
  · have e : es.toList = [] := by
      have := h5.length
      exact List.length_eq_zero_iff.mp this
    rw [e]
    exact .nil
theorem eqOks_get : ∀ {n : Nat} {ds : List D}, eqOks n ds = true → ∀ d ∈ ds, eqOk n d = true
  | _, [], _, d, hd => by cases hd
  | n, x :: ds, h, d, hd => by
    unfold eqOks at h
    rw [Bool.and_eq_true] at h
    cases hd with
    | head => exact h.1
    | tail _ hd => exact eqOks_get h.2 d hd
section
variable {pins : List (Addr × Obj)} {σ : L2.St} {s : Shared}
/-- what two lists of the same hold is alike, one by one -/
theorem eqAt_items {n : Nat} {A : Around} (ih : ∀ (d : D) (x y : V) (v u : Value), eqOk n d = true → RelD G F x d → RelD G F y d → RelV x v → RelV y u → SeqAt.EqAt A s v u true) : ∀ {ds : List D} {xs ys : List V} {us ws : List Value}, eqOks n ds = true → RelDs G F xs ds → RelDs G F ys ds → Vals xs us → Vals ys ws →
    us.length = ws.length ∧ ∀ j (h1 : j < us.length) (h2 : j < ws.length), SeqAt.EqAt A s us[j] ws[j] true
  | [], _, _, _, _, _, .nil, .nil, .nil, .nil => ⟨rfl, fun j h1 _ => absurd h1 (Nat.not_lt_zero j)⟩
  | d :: ds, _, _, _, _, h, .cons a1 b1, .cons a2 b2, .cons c1 e1, .cons c2 e2 => by
    unfold eqOks at h
    rw [Bool.and_eq_true] at h
    obtain ⟨k1, k2⟩ := eqAt_items ih h.2 b1 b2 e1 e2
    refine ⟨congrArg Nat.succ k1, fun j h1 h2 => ?_⟩
    cases j with
    | zero => exact ih _ _ _ _ _ h.1 a1 a2 c1 c2
    | succ j => exact k2 j (Nat.lt_of_succ_lt_succ h1) (Nat.lt_of_succ_lt_succ h2)
theorem eqAt_same (hK : X.K = G.K) {H : Hp} (I : Inv X pins σ H s) (fz : Same F H) : ∀ (n : Nat) (A : Around), A.units + n < cLine → ∀ (d : D) (x y : V) (v u : Value), eqOk n d = true → RelD G F x d → RelD G F y d → RelV x v → RelV y u → SeqAt.EqAt A s v u true
  | 0, _, _, d, _, _, _, _, h, _, _, _, _ => by cases d <;> cases h
  | n + 1, A, hu, d, x, y, v, u, h, r1, r2, rx, ry => by
    have ih := eqAt_same hK I fz n A.in1 (by show A.units + 1 + n < cLine; omega)
    have tru : ∀ k : Nat, ((List.range k).all fun _ => true) = true := fun k => List.all_eq_true.mpr fun _ _ => rfl
    have hA : A.units < cLine := by omega
    cases r1 with
    | non => cases r2; cases (show v = Value.none from rx); cases (show u = Value.none from ry); exact .same _
    | bl b => cases r2; cases (show v = Value.bool b from rx); cases (show u = Value.bool b from ry); exact .same _
    | int i =>
      cases r2
      obtain ⟨t, rfl⟩ := (show ∃ t, v = Value.int i t from rx)
      obtain ⟨t', rfl⟩ := (show ∃ t, u = Value.int i t from ry)
      have := SeqAt.EqAt.int_int (A := A) (s := s) i t i t'
      rw [beq_self_eq_true] at this
      exact this
    | str z =>
      cases r2
      obtain ⟨t, rfl⟩ := (show ∃ t, v = Value.str z t from rx)
      obtain ⟨t', rfl⟩ := (show ∃ t, u = Value.str z t from ry)
      have := SeqAt.EqAt.str_str (A := A) (s := s) z t z t'
      rw [beq_self_eq_true] at this
      exact this
    | @tup a vs ds t1 q1 =>
      cases r2 with
      | @tup b ws _ t2 q2 =>
        cases (show v = Value.ref a from rx)
        cases (show u = Value.ref b from ry)
        by_cases e : a = b
        · subst e; exact .same _
        · have t1 := same_t fz t1.sq
          have t2 := same_t fz t2.sq
          rw [← hK] at t1 t2
          obtain ⟨us, c1, p1, _⟩ := I.tuple t1
          obtain ⟨ws', c2, p2, _⟩ := I.tuple t2
          obtain ⟨hl, he⟩ := eqAt_items ih (ds := ds) h q1 q2 c1 c2
          have z := SeqAt.EqAt.of_refs e (SeqAt.RcAt.tuples (A := A) (e := fun _ => true) p1 p2 hA (fun j h1 h2 => by simpa using he j (by simpa using h1) (by simpa using h2)))
          rw [tru, Bool.true_and, show (us.toArray.size == ws'.toArray.size) = true from by rw [List.size_toArray, List.size_toArray, hl]; exact beq_self_eq_true _] at z
          exact z
    | @lst a vs ds t1 q1 =>
      cases r2 with
      | @lst b ws _ t2 q2 =>
        cases (show v = Value.ref a from rx)
        cases (show u = Value.ref b from ry)
        by_cases e : a = b
        · subst e; exact .same _
        · obtain ⟨us, c1, p1, _⟩ := I.list (.of (fz _ _ t1))
          obtain ⟨ws', c2, p2, _⟩ := I.list (.of (fz _ _ t2))
          obtain ⟨hl, he⟩ := eqAt_items ih (ds := ds) h q1 q2 c1 c2
          have z := SeqAt.EqAt.of_refs e (SeqAt.RcAt.lists (e := fun _ => true) p1.isList p2.isList (by rw [List.size_toArray, List.size_toArray, hl]) hA (fun j h1 h2 => by simpa using he j (by simpa using h1) (by simpa using h2)))
          rw [tru] at z
          exact z
    | scr _ => cases h
    | @emp a t1 =>
      cases r2 with
      | @emp b t2 =>
        cases (show v = Value.ref a from rx)
        cases (show u = Value.ref b from ry)
        by_cases e : a = b
        · subst e; exact .same _
        · obtain ⟨_, ya, va, ra, da⟩ := (show ObjOk X.prog X.w H s.heap a (.dK []) from I.hok a _ (fz _ _ t1))
          obtain ⟨_, yb, vb, rb, db⟩ := (show ObjOk X.prog X.w H s.heap b (.dK []) from I.hok b _ (fz _ _ t2))
          cases ra
          cases rb
          refine SeqAt.EqAt.of_refs e fun prog w E Q hq => ?_
          exact PySem.W.rcP_dicts (knd := mixKind prog w) (r := true) ya yb (emp_any da) (emp_any db) (by omega) (fun _ => .nil) E Q hq
    | loc => cases h
end
theorem dic_in {G : Gx} {F H : Hp} {M : Mem} {y : D} {kvs : List (Sum Int Str × D)} (rm : RM G F M H) (h : dicAt M y = some kvs) : ∃ a vks, y = .loc a ∧ Rd H a (.dK vks) ∧ KVR G F vks kvs := by
  unfold dicAt at h
  split at h
  · split at h
    · cases h
      rename_i e
      obtain ⟨_, vks, g1, g2⟩ := rm.mt _ _ e
      exact ⟨_, vks, rfl, .inl g1, g2⟩
    · cases h
      rename_i e
      obtain ⟨_, o, vks, _, g1, g2⟩ := rm.mt _ _ e
      exact ⟨_, vks, rfl, .inr ⟨o, g1⟩, g2⟩
    · cases h
  · cases h
theorem dtc_in {G : Gx} {F H : Hp} {M : Mem} {y : D} {kvs : List (List (Sum Int Str) × D)} (rm : RM G F M H) (h : dtcAt M y = some kvs) : ∃ a vks, y = .loc a ∧ H a = some (.dT vks) ∧ KVR G F vks kvs := by
  unfold dtcAt at h
  split at h
  · split at h
    · cases h
      rename_i e
      obtain ⟨_, vks, g1, g2⟩ := rm.mt _ _ e
      exact ⟨_, vks, rfl, g1, g2⟩
    · cases h
  · cases h
theorem dget_rd {H : Hp} {a : Addr} {kvs : List (Key × V)} {k : Key} (e : Rd H a (.dK kvs)) : DGet H a (kV k) (valV kvs k) := .inl ⟨kvs, k, e, rfl, rfl⟩
theorem keyTs_rel {G : Gx} {F : Hp} : ∀ {ds : List D} {vs : List V} {k : List (Sum Int Str)}, keyTs ds = some k → RelDs G F vs ds → vs = k.map kV ∧ ∀ z, V.str z ∉ vs
  | [], _, k, e, .nil => by
    cases e
    exact ⟨rfl, fun z h => by cases h⟩
  | d :: ds, _, k, e, .cons (v := v) (vs := vs) r t => by
    cases d with
    | int i =>
      have e : (keyTs ds).map (Sum.inl i :: ·) = some k := e
      cases q : keyTs ds with
      | none => rw [q] at e; cases e
      | some k2 =>
        rw [q] at e
        cases e
        cases r
        obtain ⟨e1, e2⟩ := keyTs_rel q t
        refine ⟨by rw [e1]; rfl, fun z h => ?_⟩
        rcases List.mem_cons.mp h with h | h
        · cases h
        · exact e2 z h
    | _ => cases e
theorem keyT_rel {G : Gx} {F H : Hp} {M : Mem} (rm : RM G F M H) {v : V} {d : D} {k : List (Sum Int Str)} (r : RelD G F v d) (e : keyT d = some k) : ∃ b, v = .ref b ∧ H b = some (.tup (k.map kV)) := by
  cases r with
  | @tup a vs ds t1 q1 =>
    obtain ⟨e1, e2⟩ := keyTs_rel e q1
    rcases t1 with t1 | ⟨_, z, hz⟩
    · exact ⟨a, rfl, by rw [← e1]; exact rm.fz _ _ t1⟩
    · exact absurd hz (e2 z)
  | _ => cases e
theorem KVR.lookN {κ : Type} [DecidableEq κ] {G : Gx} {F : Hp} {k : κ} {r : List (κ × V)} {t : List (κ × D)} (h : KVR G F r t) : lookD t k = none → valV r k = none := by
  intro e
  unfold lookD at e
  unfold valV
  rw [Option.map_eq_none_iff] at e ⊢
  rw [List.find?_eq_none] at e ⊢
  have any := h.anyK (k := k)
  intro x hx hk
  have : (r.any fun kv => decide (kv.1 = k)) = true := List.any_eq_true.mpr ⟨x, hx, hk⟩
  rw [any, List.any_eq_true] at this
  obtain ⟨y, hy, hy2⟩ := this
  exact e y hy hy2
theorem hits_D {G : Gx} {X : Cx} {F H : Hp} {M : Mem} {pins : List (Addr × Obj)} {σ : L2.St} {s : Shared} (hK : X.K = G.K) (hu : X.A.units + 65 < cLine) (rm : RM G F M H) (I : Inv X pins σ H s) {ls : List (Sum Int Str × D)} {vl : List (Key × V)} {vb : List (Key × Value)} (hl : KVR G F vl ls) (rb : KV vl vb) :
    ∀ {ks : List (Sum Int Str × D)} {vk : List (Key × V)} {va : List (Key × Value)} {b : Bool}, KVR G F vk ks → KV vk va → dicEq ls ks = some b → PySem.W.KeqHits X.A.in1 s vb va b
  | [], vk, va, b, h1, h2, e => by
    cases e
    cases h1
    cases h2
    exact .nil
  | (k, d) :: ks, vk, va, b, h1, h2, e => by
    cases h1 with
    | @cons k1 d1 _ ps _ r1 g2 =>
      unfold KV at h2
      cases h2 with
      | @cons _ q _ qs j1 j2 =>
        obtain ⟨k2, v2⟩ := q
        obtain ⟨e2, r2⟩ := j1
        have e2 : k = k2 := e2
        subst e2
        unfold dicEq at e
        have rv : RelO (valV vl k) (valueAt vb k) := rb.val k
        cases hlk : lookD ls k with
        | none =>
          rw [hlk] at e
          cases e
          rw [hl.lookN hlk] at rv
          refine .miss ?_
          cases hv : valueAt vb k with
          | none => rfl
          | some y => rw [hv] at rv; exact (show False from rv).elim
        | some w =>
          rw [hlk] at e
          obtain ⟨w1, w2, w3⟩ := hl.look hlk
          rw [w2] at rv
          obtain ⟨y, hy, ry⟩ := rv.some_of
          dsimp only at e
          split at e
          · rename_i p q b' t1 t2 t3
            split at e
            · rename_i hs
              rw [Bool.and_eq_true] at hs
              cases e
              have z1 := dp_of rm r1 t1
              have z2 := dp_of rm w3 t2
              rw [← hK] at z1 z2
              obtain ⟨as, a1⟩ := Dp.reads I p d1 v2 z1 r2
              obtain ⟨bs, b1⟩ := Dp.reads I q w1 y z2 ry
              exact .hit hy (PySem.W.keq_at a1 b1 hs.1 hs.2 (by show X.A.units + 1 + 64 < cLine; omega)) (hits_D hK hu rm I hl rb g2 j2 t3)
            · cases e
          · cases e
/-- anything flat and a text, the one against the other -/
theorem flK_eq (hK : X.K = G.K) {pins σ s} (I : Inv X pins σ H s) (rm : RM G F M H) (hu : X.A.units + 2 < cLine) {d : D} {y : V} {v : Value} (h : flK d = true) (r : RelD G F y d) (k : RelV y v) (z : Str) (t : Tok) : ∃ e, SeqAt.EqAt X.A.in1 s v (Value.str z t) e := by
  have hA : X.A.in1.units < cLine := by show X.A.units + 1 < cLine; omega
  cases r with
  | non => cases (show v = Value.none from k); exact ⟨_, SeqAt.EqAt.none_str z t⟩
  | bl b => cases (show v = Value.bool b from k); exact ⟨_, SeqAt.EqAt.bool_str b z t⟩
  | int i => obtain ⟨t', rfl⟩ := (show ∃ t', v = Value.int i t' from k); exact ⟨_, SeqAt.EqAt.int_str i t' z t⟩
  | str x => obtain ⟨t', rfl⟩ := (show ∃ t', v = Value.str x t' from k); exact ⟨_, SeqAt.EqAt.str_str x t' z t⟩
  | @tup a vs ds t1 q1 =>
    cases (show v = Value.ref a from k)
    have t1 := same_t rm.fz t1.sq
    rw [← hK] at t1
    obtain ⟨us, c1, p1, _⟩ := I.tuple t1
    exact ⟨_, SeqAt.EqAt.tuple_str z t p1 hA⟩
  | @lst a vs ds t1 q1 =>
    cases (show v = Value.ref a from k)
    obtain ⟨us, c1, p1, _⟩ := I.list (.of (rm.fz _ _ t1))
    exact ⟨_, SeqAt.EqAt.list_str z t p1.isList hA⟩
  | scr _ => cases h
  | @emp a t1 =>
    cases (show v = Value.ref a from k)
    obtain ⟨_, ya, va, ra, da⟩ := (show ObjOk X.prog X.w H s.heap a (.dK []) from I.hok a _ (rm.fz _ _ t1))
    obtain ⟨o, es, ep, ho, _, hd, _⟩ := id da
    exact ⟨_, eqAt_dict_str z t ⟨o, es, ep, ho, hd⟩ da.typeIs hA⟩
  | loc => cases h
theorem opr_eqX (hK : X.K = G.K) (hu : X.A.units + 65 < cLine) {neg : Bool} : OpR X (compareOp (if neg then .NotEq else .Eq)) (lift2 G (eqX neg)) := by
  intro pins s σ H x y v u Q I rx ry ⟨F, M, dx, dy, q, rm, r1, r2, cn, h⟩
  unfold eqX at h
  split at h
  · rename_i ds es
    obtain ⟨e1, e2, h3⟩ := h
    subst e1
    cases r1 with
    | @lst a vs _ t1 q1 =>
      cases r2 with
      | @lst b ws _ t2 q2 =>
        cases (show v = Value.ref a from rx)
        cases (show u = Value.ref b from ry)
        obtain ⟨us, c1, p1, _⟩ := I.list (.of (rm.fz _ _ t1))
        obtain ⟨ws', c2, p2, _⟩ := I.list (.of (rm.fz _ _ t2))
        obtain ⟨hl, he⟩ := eqAt_items (eqAt_same hK I rm.fz 60 X.A.in1 (by show X.A.units + 1 + 60 < cLine; omega)) (ds := ds) e2 q1 q2 c1 c2
        have fin : Q (.bl (!neg)) H := cn F M H _ _ (Same.refl F) rm (.bl _) h3
        have tru : ((List.range us.toArray.size).all fun _ => true) = true := List.all_eq_true.mpr fun _ _ => rfl
        have hsz : us.toArray.size = ws'.toArray.size := by rw [List.size_toArray, List.size_toArray, hl]
        cases neg with
        | false =>
          refine SeqAt.RcAt.lists (e := fun _ => true) p1.isList p2.isList hsz (by omega) (fun j h1 h2 => by simpa using he j (by simpa using h1) (by simpa using h2)) X.prog X.w _ _ ?_
          rw [tru]
          exact ⟨.bl true, H, I, rfl, fin⟩
        | true =>
          refine SeqAt.RcNeAt.lists (e := fun _ => true) p1.isList p2.isList hsz (by omega) (fun j h1 h2 => by simpa using he j (by simpa using h1) (by simpa using h2)) X.prog X.w _ _ ?_
          rw [tru]
          exact ⟨.bl false, H, I, rfl, fin⟩
  · rename_i d d2 ds z
    obtain ⟨h1, h3⟩ := h
    cases r1 with
    | @tup a vs _ t1 q1 =>
      cases r2 with
      | @tup b ws _ t2 q2 =>
        cases (show v = Value.ref a from rx)
        cases (show u = Value.ref b from ry)
        have t1 := same_t rm.fz t1.sq
        have t2 := same_t rm.fz t2.sq
        rw [← hK] at t1 t2
        obtain ⟨us, c1, p1, _⟩ := I.tuple t1
        obtain ⟨ws', c2, p2, _⟩ := I.tuple t2
        have fin : Q (.bl neg) H := cn F M H _ _ (Same.refl F) rm (.bl _) h3
        cases q1 with
        | cons y1 q1 =>
          cases q1 with
          | cons y2 q1 =>
            cases q2 with
            | cons z1 q2 =>
              cases q2
              cases z1
              cases c1 with
              | cons k1 c1 =>
                cases c1 with
                | cons k2 c1 =>
                  cases c2 with
                  | cons k3 c2 =>
                    cases c2
                    obtain ⟨tk, rfl⟩ := (show ∃ tk, _ = Value.str z tk from k3)
                    obtain ⟨e0, he0⟩ := flK_eq hK I rm (hu := by omega) h1 y1 k1 z tk
                    have hj : ∀ (xs : Array Value) (i : Value) (r : List Value), xs = (i :: r).toArray → SeqAt.EqAt X.A.in1 s i (Value.str z tk) e0 → ∀ j (h1 : j < xs.size) (h2 : j < [Value.str z tk].toArray.size), SeqAt.EqAt X.A.in1 s xs[j] [Value.str z tk].toArray[j] e0 := fun xs i r hx hi j h1 h2 => by
                      subst hx
                      cases j with
                      | zero => exact hi
                      | succ j => exact absurd h2 (by simp)
                    cases neg with
                    | false =>
                      refine SeqAt.RcAt.tuples (e := fun _ => e0) p1 p2 (by omega) (hj _ _ _ rfl he0) X.prog X.w _ _ ?_
                      rw [show ((_ : Bool) && (_ : Nat) == _) = false from by simp]
                      exact ⟨.bl false, H, I, rfl, fin⟩
                    | true =>
                      refine SeqAt.RcNeAt.tuples (e := fun _ => e0) p1 p2 (by omega) (hj _ _ _ rfl he0) X.prog X.w _ _ ?_
                      rw [show (!((_ : Bool) && (_ : Nat) == _)) = true from by simp]
                      exact ⟨.bl true, H, I, rfl, fin⟩
  · rename_i ds es _
    obtain ⟨e1, e2, h3⟩ := h
    subst e1
    cases r1 with
    | @tup a vs _ t1 q1 =>
      cases r2 with
      | @tup b ws _ t2 q2 =>
        cases (show v = Value.ref a from rx)
        cases (show u = Value.ref b from ry)
        have t1 := same_t rm.fz t1.sq
        have t2 := same_t rm.fz t2.sq
        rw [← hK] at t1 t2
        obtain ⟨us, c1, p1, _⟩ := I.tuple t1
        obtain ⟨ws', c2, p2, _⟩ := I.tuple t2
        obtain ⟨hl, he⟩ := eqAt_items (eqAt_same hK I rm.fz 60 X.A.in1 (by show X.A.units + 1 + 60 < cLine; omega)) (ds := ds) e2 q1 q2 c1 c2
        have fin : Q (.bl (!neg)) H := cn F M H _ _ (Same.refl F) rm (.bl _) h3
        have tru : ((List.range us.toArray.size).all fun _ => true) = true := List.all_eq_true.mpr fun _ _ => rfl
        have hsz : (us.toArray.size == ws'.toArray.size) = true := by rw [List.size_toArray, List.size_toArray, hl]; exact beq_self_eq_true _
        have hmin : ((List.range (min us.toArray.size ws'.toArray.size)).all fun _ => true) = true := List.all_eq_true.mpr fun _ _ => rfl
        cases neg with
        | false =>
          refine SeqAt.RcAt.tuples (e := fun _ => true) p1 p2 (by omega) (fun j h1 h2 => by simpa using he j (by simpa using h1) (by simpa using h2)) X.prog X.w _ _ ?_
          first
            | rw [tru, Bool.true_and, hsz]
            | rw [hmin, Bool.true_and, hsz]
          exact ⟨.bl true, H, I, rfl, fin⟩
        | true =>
          refine SeqAt.RcNeAt.tuples (e := fun _ => true) p1 p2 (by omega) (fun j h1 h2 => by simpa using he j (by simpa using h1) (by simpa using h2)) X.prog X.w _ _ ?_
          first
            | rw [tru, Bool.true_and, hsz]
            | rw [hmin, Bool.true_and, hsz]
          exact ⟨.bl false, H, I, rfl, fin⟩
  · cases r1 with
    | @emp a t1 =>
      cases r2 with
      | @emp b t2 =>
        cases neg with
        | false => exact op_eq_dictA (by omega) pins s σ H _ _ v u Q I rx ry ⟨a, b, [], [], rfl, rfl, rm.fz _ _ t1, rm.fz _ _ t2, rfl, (fun p hp => by cases hp), cn F M H _ _ (Same.refl F) rm (.bl _) h⟩
        | true => exact op_ne_dictA (by omega) pins s σ H _ _ v u Q I rx ry ⟨a, b, [], [], rfl, rfl, rm.fz _ _ t1, rm.fz _ _ t2, rfl, (fun p hp => by cases hp), cn F M H _ _ (Same.refl F) rm (.bl _) h⟩
  · rename_i z
    cases r1 with
    | @emp a t1 =>
      cases r2 with
      | str =>
        cases (show v = Value.ref a from rx)
        obtain ⟨tk, rfl⟩ := (show ∃ tk, u = Value.str z tk from ry)
        obtain ⟨_, ya, va, ra, da⟩ := (show ObjOk X.prog X.w H s.heap a (.dK []) from I.hok a _ (rm.fz _ _ t1))
        obtain ⟨o, es, ep, ho, _, hd, _⟩ := id da
        have fin : Q (.bl neg) H := cn F M H _ _ (Same.refl F) rm (.bl _) h
        cases neg with
        | false => exact rc_dict_str z tk ⟨o, es, ep, ho, hd⟩ da.typeIs (by omega) X.prog X.w _ _ ⟨.bl false, H, I, rfl, fin⟩
        | true => exact rcn_dict_str z tk ⟨o, es, ep, ho, hd⟩ da.typeIs (by omega) X.prog X.w _ _ ⟨.bl true, H, I, rfl, fin⟩
  · rename_i z
    cases r2 with
    | @emp a t1 =>
      cases r1 with
      | str =>
        cases (show u = Value.ref a from ry)
        obtain ⟨tk, rfl⟩ := (show ∃ tk, v = Value.str z tk from rx)
        obtain ⟨_, ya, va, ra, da⟩ := (show ObjOk X.prog X.w H s.heap a (.dK []) from I.hok a _ (rm.fz _ _ t1))
        obtain ⟨o, es, ep, ho, _, hd, _⟩ := id da
        have fin : Q (.bl neg) H := cn F M H _ _ (Same.refl F) rm (.bl _) h
        cases neg with
        | false => exact rc_str_dict z tk ⟨o, es, ep, ho, hd⟩ da.typeIs (by omega) X.prog X.w _ _ ⟨.bl false, H, I, rfl, fin⟩
        | true => exact rcn_str_dict z tk ⟨o, es, ep, ho, hd⟩ da.typeIs (by omega) X.prog X.w _ _ ⟨.bl true, H, I, rfl, fin⟩
  · rename_i a b
    cases h1 : dicAt M (.loc a) with
    | none => rw [h1] at h; exact h.elim
    | some ks =>
      cases h2 : dicAt M (.loc b) with
      | none => rw [h1, h2] at h; exact h.elim
      | some ls =>
        rw [h1, h2] at h
        cases h3 : dicEq ls ks with
        | none => dsimp only at h; rw [h3] at h; exact h.elim
        | some r =>
          dsimp only at h
          rw [h3] at h
          dsimp only at h
          obtain ⟨a', vk, e1, g1, g2⟩ := dic_in rm h1
          obtain ⟨b', vl, e2, j1, j2⟩ := dic_in rm h2
          cases e1
          cases e2
          cases r1
          cases r2
          cases (show v = Value.ref a from rx)
          cases (show u = Value.ref b from ry)
          obtain ⟨_, ya, va, ra, da⟩ := dk_rd I.hok g1
          obtain ⟨_, yb, vb, rb, db⟩ := dk_rd I.hok j1
          have hits := hits_D hK hu rm I j2 rb g2 ra h3
          have l1 : va.length = ks.length := by rw [← ra.length]; exact g2.len
          have l2 : vb.length = ls.length := by rw [← rb.length]; exact j2.len
          have fin := cn F M H _ _ (Same.refl F) rm (.bl _) h
          cases neg with
          | false => exact PySem.W.keq_eq (knd := mixKind X.prog X.w) ya yb da db (by omega) (fun _ => hits) ⟨.bl (va.length == vb.length && r), H, I, rfl, by rw [l1, l2]; exact fin⟩
          | true => exact PySem.W.keq_ne (knd := mixKind X.prog X.w) ya yb da db (by omega) (fun _ => hits) ⟨.bl (!(va.length == vb.length && r)), H, I, rfl, by rw [l1, l2]; exact fin⟩
  · exact h.elim
theorem dp_items {P : Program} {w : World} {A : Around} {s : Shared} {G : Gx} {F : Hp} {M : Mem} {n : Nat} (ih : ∀ (x y : V) (dx dy : D) (v u : Value), dpE M n dx dy → RelD G F x dx → RelD G F y dy → RelV x v → RelV y u → SeqAt.EqP P w A s v u true) : ∀ {xs ys : List D} {vs ws : List V} {us zs : List Value}, xs.length = ys.length → (∀ (i : Nat) (a b : D), xs[i]? = some a → ys[i]? = some b → dpE M n a b) → RelDs G F vs xs → RelDs G F ws ys → Vals vs us → Vals ws zs →
    us.length = zs.length ∧ ∀ j (h1 : j < us.length) (h2 : j < zs.length), SeqAt.EqP P w A s us[j] zs[j] true
  | [], [], _, _, _, _, _, _, .nil, .nil, .nil, .nil => ⟨rfl, fun j h1 _ => absurd h1 (Nat.not_lt_zero j)⟩
  | [], _ :: _, _, _, _, _, hl, _, _, _, _, _ => by cases hl
  | _ :: _, [], _, _, _, _, hl, _, _, _, _, _ => by cases hl
  | x :: xs, y :: ys, _, _, _, _, hl, h, .cons a1 b1, .cons a2 b2, .cons c1 e1, .cons c2 e2 => by
    obtain ⟨k1, k2⟩ := dp_items ih (Nat.succ.inj hl) (fun i a b ha hb => h (i + 1) a b ha hb) b1 b2 e1 e2
    refine ⟨congrArg Nat.succ k1, fun j h1 h2 => ?_⟩
    cases j with
    | zero => exact ih _ _ _ _ _ _ (h 0 _ _ rfl rfl) a1 a2 c1 c2
    | succ j => exact k2 j (Nat.lt_of_succ_lt_succ h1) (Nat.lt_of_succ_lt_succ h2)
theorem dp_hits {P : Program} {w : World} {A : Around} {s : Shared} {G : Gx} {F : Hp} {M : Mem} {n : Nat} (ih : ∀ (x y : V) (dx dy : D) (v u : Value), dpE M n dx dy → RelD G F x dx → RelD G F y dy → RelV x v → RelV y u → SeqAt.EqP P w A s v u true) {ls : List (Sum Int Str × D)} {vl : List (Key × V)} {vb : List (Key × Value)} (hl : KVR G F vl ls) (rb : KV vl vb) :
    ∀ {ks : List (Sum Int Str × D)} {vk : List (Key × V)} {va : List (Key × Value)}, KVR G F vk ks → KV vk va → (∀ p ∈ ks, ∃ u, lookD ls p.1 = some u ∧ dpE M n p.2 u) → PySem.W.KeqHitsP P w A s vb va true
  | [], vk, va, h1, h2, _ => by
    cases h1
    cases h2
    exact .nil
  | (k, d) :: ks, vk, va, h1, h2, e => by
    cases h1 with
    | @cons k1 v1 d1 ps _ r1 g2 =>
      unfold KV at h2
      cases h2 with
      | @cons _ q _ qs j1 j2 =>
        obtain ⟨k2, v2⟩ := q
        obtain ⟨e2, r2⟩ := j1
        have e2 : k = k2 := e2
        subst e2
        obtain ⟨u, u1, u2⟩ := e _ (List.mem_cons_self ..)
        obtain ⟨w1, w2, w3⟩ := hl.look u1
        have rr : RelO (some w1) (valueAt vb k) := by rw [← w2]; exact rb.val k
        obtain ⟨y, hy, ry⟩ := rr.some_of
        show PySem.W.KeqHitsP P w A s vb ((k, v2) :: qs) (true && true)
        exact .hit hy (ih _ _ _ _ _ _ u2 r1 w3 r2 ry) (dp_hits ih hl rb g2 j2 fun p hp => e p (List.mem_cons_of_mem _ hp))
theorem dpE_run (hK : X.K = G.K) {F H : Hp} {M : Mem} {pins : List (Addr × Obj)} {σ : L2.St} {s : Shared} (rm : RM G F M H) (I : Inv X pins σ H s) : ∀ (n : Nat) (A : Around), A.units + n + 31 < cLine → ∀ (x y : V) (dx dy : D) (v u : Value), dpE M n dx dy → RelD G F x dx → RelD G F y dy → RelV x v → RelV y u → SeqAt.EqP X.prog X.w A s v u true
  | 0, _, _, _, _, _, _, _, _, h, _, _, _, _ => (show False from h).elim
  | n + 1, A, hu, x, y, dx, dy, v, u, h, r1, r2, rx, ry => by
    have ih := dpE_run hK rm I n A.in1 (by show A.units + 1 + n + 31 < cLine; omega)
    have tru : ∀ k : Nat, ((List.range k).all fun _ => true) = true := fun k => List.all_eq_true.mpr fun _ _ => rfl
    have refs : ∀ {a b : Addr}, (∀ (E Q : Value → Shared → Prop), Q (.bool true) s → wpAny (model X.prog X.w) A (richCompare .Eq (.ref a) (.ref b)) Q E s) → SeqAt.EqP X.prog X.w A s (.ref a) (.ref b) true := fun {a b} h => by
      by_cases e : a = b
      · subst e; exact (SeqAt.EqAt.same _).eqP
      · exact SeqAt.eqP_refs e h
    unfold dpE at h
    rcases h with ⟨rfl, h⟩ | ⟨xs, ys, h1, h2, hl, h⟩ | ⟨ks, ls, h1, h2, hl, h⟩
    · exact (eqAt_same hK I rm.fz 30 A (by omega) dx x y v u h r1 r2 rx ry).eqP
    · obtain ⟨a, vs, rfl, a1, a2⟩ := rd_LT rm r1 h1
      obtain ⟨b, ws, rfl, b1, b2⟩ := rd_LT rm r2 h2
      cases (show v = Value.ref a from rx)
      cases (show u = Value.ref b from ry)
      obtain ⟨us, c1, p1, _⟩ := I.list (.of a1)
      obtain ⟨zs, c2, p2, _⟩ := I.list (.of b1)
      obtain ⟨k1, k2⟩ := dp_items ih hl h a2 b2 c1 c2
      refine refs fun E Q q => ?_
      refine SeqAt.rcP_lists (e := fun _ => true) p1.isList p2.isList (by rw [List.size_toArray, List.size_toArray, k1]) (by omega) (fun j h1 h2 => by simpa using k2 j (by simpa using h1) (by simpa using h2)) E Q ?_
      rw [tru]
      exact q
    · obtain ⟨a, vk, rfl, a1, a2⟩ := dic_in rm h1
      obtain ⟨b, vl, rfl, b1, b2⟩ := dic_in rm h2
      cases r1
      cases r2
      cases (show v = Value.ref a from rx)
      cases (show u = Value.ref b from ry)
      obtain ⟨_, ya, va, ra, da⟩ := dk_rd I.hok a1
      obtain ⟨_, yb, vb, rb, db⟩ := dk_rd I.hok b1
      refine refs fun E Q q => ?_
      refine PySem.W.rcP_dicts (knd := mixKind X.prog X.w) (r := true) ya yb da db (by omega) (fun _ => dp_hits ih b2 rb a2 ra h) E Q ?_
      have e : va.length = vb.length := by rw [← ra.length, ← rb.length, a2.len, b2.len]; exact hl
      rw [show (va.length == vb.length && true) = true from by rw [e]; simp]
      exact q
theorem opr_dpT (hK : X.K = G.K) (hu : X.A.units + 65 < cLine) {neg : Bool} : OpR X (compareOp (if neg then .NotEq else .Eq)) (lift2 G fun x y M Q => dpT M x y ∧ Q (.bl (!neg)) M) := by
  intro pins s σ H x y v u Q I rx ry ⟨F, M, dx, dy, q, rm, r1, r2, cn, ⟨xs, ys, h1, h2, hl, h⟩, h3⟩
  have tru : ∀ k : Nat, ((List.range k).all fun _ => true) = true := fun k => List.all_eq_true.mpr fun _ _ => rfl
  have ih := dpE_run hK rm I 20 X.A.in1 (by show X.A.units + 1 + 20 + 31 < cLine; omega)
  obtain ⟨a, vs, rfl, a1, a2⟩ := rd_LT rm r1 h1
  obtain ⟨b, ws, rfl, b1, b2⟩ := rd_LT rm r2 h2
  cases (show v = Value.ref a from rx)
  cases (show u = Value.ref b from ry)
  obtain ⟨us, c1, p1, _⟩ := I.list (.of a1)
  obtain ⟨zs, c2, p2, _⟩ := I.list (.of b1)
  obtain ⟨k1, k2⟩ := dp_items ih hl h a2 b2 c1 c2
  have fin : Q (.bl (!neg)) H := cn F M H _ _ (Same.refl F) rm (.bl _) h3
  cases neg with
  | false =>
    refine SeqAt.rcP_lists (e := fun _ => true) p1.isList p2.isList (by rw [List.size_toArray, List.size_toArray, k1]) (by omega) (fun j h1 h2 => by simpa using k2 j (by simpa using h1) (by simpa using h2)) _ _ ?_
    rw [tru]
    exact ⟨.bl true, H, I, rfl, fin⟩
  | true =>
    refine neP_lists (e := fun _ => true) p1.isList p2.isList (by rw [List.size_toArray, List.size_toArray, k1]) (by omega) (fun j h1 h2 => by simpa using k2 j (by simpa using h1) (by simpa using h2)) _ _ ?_
    rw [tru]
    exact ⟨.bl false, H, I, rfl, fin⟩
theorem opr_eqF (hK : X.K = G.K) (hu : X.A.units + 65 < cLine) {neg : Bool} : OpR X (compareOp (if neg then .NotEq else .Eq)) (lift2 G (eqF neg)) := by
  refine OpR.or2 fun x y H Q ⟨F, M, dx, dy, q, rm, r1, r2, cn, h⟩ => ?_
  have alt : eqX neg dx dy M q ∨ (dpT M dx dy ∧ q (.bl (!neg)) M) → ∃ r', OpR X (compareOp (if neg then .NotEq else .Eq)) r' ∧ r' x y H Q := fun h => h.elim (fun h => ⟨_, opr_eqX hK hu, F, M, dx, dy, q, rm, r1, r2, cn, h⟩) fun h => ⟨_, opr_dpT hK hu, F, M, dx, dy, q, rm, r1, r2, cn, h⟩
  unfold eqF at h
  cases e1 : toPyF M 30 dx with
  | none => rw [e1] at h; exact alt h
  | some d =>
    cases e2 : toPyF M 30 dy with
    | none => rw [e1, e2] at h; exact alt h
    | some e =>
      rw [e1, e2] at h
      obtain ⟨h1, h2, h3⟩ := h
      have z1 := dp_F rm 30 r1 e1
      have z2 := dp_F rm 30 r2 e2
      rw [← hK] at z1 z2
      cases neg with
      | false => exact ⟨_, op_eqD (by omega), d, e, z1, z2, h1, h2, cn F M H _ _ (Same.refl F) rm (.bl _) h3⟩
      | true => exact ⟨_, op_neD (by omega), d, e, z1, z2, h1, h2, cn F M H _ _ (Same.refl F) rm (.bl _) h3⟩
theorem opr_eqP (hK : X.K = G.K) (hu : X.A.units + 65 < cLine) {neg : Bool} : OpR X (compareOp (if neg then .NotEq else .Eq)) (lift2 G (eqP neg)) := by
  refine OpR.or2 fun x y H Q ⟨F, M, dx, dy, q, rm, r1, r2, cn, h⟩ => ?_
  unfold eqP at h
  cases e1 : toPyM M dx with
  | none => rw [e1] at h; exact ⟨_, opr_eqF hK hu, F, M, dx, dy, q, rm, r1, r2, cn, h⟩
  | some d =>
    cases e2 : toPyM M dy with
    | none => rw [e1, e2] at h; exact ⟨_, opr_eqF hK hu, F, M, dx, dy, q, rm, r1, r2, cn, h⟩
    | some e =>
      rw [e1, e2] at h
      obtain ⟨h1, h2, h3⟩ := h
      have z1 := dp_M rm r1 e1
      have z2 := dp_M rm r2 e2
      rw [← hK] at z1 z2
      cases neg with
      | false => exact ⟨_, op_eqD (by omega), d, e, z1, z2, h1, h2, cn F M H _ _ (Same.refl F) rm (.bl _) h3⟩
      | true => exact ⟨_, op_neD (by omega), d, e, z1, z2, h1, h2, cn F M H _ _ (Same.refl F) rm (.bl _) h3⟩
/-- lists of unlike lengths -/
theorem op_unlike (hu : X.A.units < cLine) (neg : Bool) : OpR X (compareOp (if neg then .NotEq else .Eq)) (fun x y H Q => ∃ p r xs ys, x = .ref p ∧ y = .ref r ∧ SqL X.K H p xs ∧ SqL X.K H r ys ∧ xs.length ≠ ys.length ∧ Q (.bl neg) H) := by
  intro pins s σ H x y v u Q I rx ry ⟨p, r, xs, ys, e1, e2, h1, h2, hne, q⟩
  subst e1 e2
  cases rx
  cases ry
  obtain ⟨its, r1, pl, _⟩ := I.list h1
  obtain ⟨its2, r2, pl2, _⟩ := I.list h2
  have hsz : (its.toArray.size != its2.toArray.size) = true := by
    rw [List.size_toArray, List.size_toArray, ← r1.length, ← r2.length]
    simpa using hne
  cases neg with
  | false => exact SeqAt.eq_list_lengthsAt pl.isList pl2.isList hsz hu ⟨.bl false, H, I, rfl, q⟩
  | true => exact SeqAt.RcNeAt.lists_lengths pl.isList pl2.isList hsz hu X.prog X.w _ _ ⟨.bl true, H, I, rfl, q⟩
/-- tuples, of which one alone is empty -/
theorem op_unlikeT (hu : X.A.units < cLine) (neg : Bool) : OpR X (compareOp (if neg then .NotEq else .Eq)) (fun x y H Q => ∃ p r xs ys, x = .ref p ∧ y = .ref r ∧ SqT X.K H p xs ∧ SqT X.K H r ys ∧ ((xs = [] ∧ ys ≠ []) ∨ (xs ≠ [] ∧ ys = [])) ∧ Q (.bl neg) H) := by
  intro pins s σ H x y v u Q I rx ry ⟨p, r, xs, ys, e1, e2, h1, h2, hne, q⟩
  subst e1 e2
  cases rx
  cases ry
  obtain ⟨its, r1, pl, _⟩ := I.tuple h1
  obtain ⟨its2, r2, pl2, _⟩ := I.tuple h2
  have l1 := r1.length
  have l2 := r2.length
  have no : ∀ j, j < its.toArray.size → j < its2.toArray.size → False := fun j a b => by
    rw [List.size_toArray] at a b
    rcases hne with ⟨e, _⟩ | ⟨_, e⟩ <;> subst e <;> simp only [List.length_nil] at l1 l2 <;> omega
  have val : ((List.range (min its.toArray.size its2.toArray.size)).all (fun _ => true) && its.toArray.size == its2.toArray.size) = false := by
    rw [List.size_toArray, List.size_toArray, ← l1, ← l2, Bool.and_eq_false_iff]
    refine .inr (beq_eq_false_iff_ne.mpr ?_)
    rcases hne with ⟨e, e'⟩ | ⟨e', e⟩ <;> subst e
    · exact fun z => e' (List.eq_nil_of_length_eq_zero z.symm)
    · exact fun z => e' (List.eq_nil_of_length_eq_zero z)
  cases neg with
  | false => exact SeqAt.eq_tupleAt (e := fun _ => true) pl pl2 hu (fun j a b => (no j a b).elim) (by rw [val]; exact ⟨.bl false, H, I, rfl, q⟩)
  | true =>
    have h := SeqAt.RcNeAt.tuples (e := fun _ => true) pl pl2 hu (fun j a b => (no j a b).elim)
    rw [val] at h
    exact h X.prog X.w _ _ ⟨.bl true, H, I, rfl, q⟩
theorem opr_eq (hK : X.K = G.K) (hu : X.A.units + 65 < cLine) {neg : Bool} : OpR X (compareOp (if neg then .NotEq else .Eq)) (lift2 G (eqW neg)) := by
  refine OpR.or2 fun x y H Q ⟨F, M, dx, dy, q, rm, r1, r2, cn, h⟩ => ?_
  unfold eqW at h
  split at h
  · rename_i b eb
    have atom : ∀ {u v : V}, scal u v = true → (∀ F M, RelD G F x dx → RelD G F y dy → x = u ∧ y = v) → decide (u = v) = b → ∃ r', OpR X (compareOp (if neg then .NotEq else .Eq)) r' ∧ r' x y H Q := fun {u v} s g e => by
      obtain ⟨e1, e2⟩ := g F M r1 r2
      subst e1 e2
      cases neg with
      | false => exact ⟨_, op_eq, s, cn F M H _ _ (Same.refl F) rm (by rw [e]; exact .bl _) h⟩
      | true => exact ⟨_, op_ne, s, cn F M H _ _ (Same.refl F) rm (by rw [e]; exact .bl _) h⟩
    unfold eqA at eb
    split at eb <;> cases eb <;> cases r1 <;> cases r2 <;> refine atom ?_ (fun F M a b => ⟨rfl, rfl⟩) ?_ <;> first | rfl | simp
  unfold eqL at h
  split at h
  · split at h
    · exact ⟨_, opr_eqP hK hu, F, M, dx, dy, q, rm, r1, r2, cn, h⟩
    · rename_i xs ys e1 e2 hne
      obtain ⟨p, vs, rfl, g1, g2⟩ := rd_L rm r1 e1
      obtain ⟨r, ws, rfl, g3, g4⟩ := rd_L rm r2 e2
      exact ⟨_, op_unlike (by omega) neg, p, r, vs, ws, rfl, rfl, by rw [hK]; exact g1, by rw [hK]; exact g3, by rw [g2.len, g4.len]; exact hne, cn F M H _ _ (Same.refl F) rm (.bl _) h⟩
  · split at h
    · rename_i eu
      unfold eqU at eu
      split at eu
      · obtain ⟨p, vs, rfl, g1, g2⟩ := rd_T rm r1
        obtain ⟨r, ws, rfl, g3, g4⟩ := rd_T rm r2
        cases g2; cases g4
        exact ⟨_, op_unlikeT (by omega) neg, p, r, _, _, rfl, rfl, by rw [hK]; exact g1, by rw [hK]; exact g3, .inl ⟨rfl, by simp⟩, cn F M H _ _ (Same.refl F) rm (.bl _) h⟩
      · obtain ⟨p, vs, rfl, g1, g2⟩ := rd_T rm r1
        obtain ⟨r, ws, rfl, g3, g4⟩ := rd_T rm r2
        cases g2; cases g4
        exact ⟨_, op_unlikeT (by omega) neg, p, r, _, _, rfl, rfl, by rw [hK]; exact g1, by rw [hK]; exact g3, .inr ⟨by simp, rfl⟩, cn F M H _ _ (Same.refl F) rm (.bl _) h⟩
      · cases eu
    · exact ⟨_, opr_eqP hK hu, F, M, dx, dy, q, rm, r1, r2, cn, h⟩
def rInTD (K : PySem.W.Frag) (neg : Bool) : R2 := fun x y H Q => ∃ d ds, Dp K H x d ∧ Dp K H y (.tuple ds) ∧ SeqAt.shaped d = true ∧ SeqAt.shaped (.list ds) = true ∧ Q (.bl (if neg then !ds.any fun z => PyData.eqv z d else ds.any fun z => PyData.eqv z d)) H
theorem op_inTD (hu : X.A.units + 65 < cLine) (neg : Bool) : OpR X (compareOp (if neg then .NotIn else .In)) (rInTD X.K neg) := by
  intro pins s σ H x y v u Q I rx ry h
  obtain ⟨d, ds, hd, he, sd, se, q⟩ := h
  obtain ⟨as, r1⟩ := Dp.reads I d x v hd rx
  obtain ⟨bs, r2⟩ := Dp.reads I (.tuple ds) y u he ry
  cases neg with
  | false => exact SeqAt.in_tuple_reads r2 r1 (SeqAt.canLay_of_shaped se) (SeqAt.canLay_of_shaped sd) (room_in_shaped sd hu) ⟨.bl _, H, I, rfl, q⟩
  | true => exact SeqAt.notIn_tuple_reads r2 r1 (SeqAt.canLay_of_shaped se) (SeqAt.canLay_of_shaped sd) (room_in_shaped sd hu) ⟨.bl _, H, I, rfl, q⟩
theorem dpAll_of (r : RM G F M H) {ds : List D} {vs : List V} {ps : List PyData} (h : RelDs G F vs ds) (e : toPys ds = some ps) : DpAll G.K H vs ps := dp_all r h e
theorem strs_vals : ∀ {zs : List Str} {us : List Value}, Vals (zs.map V.str) us → ∀ y ∈ us, ∃ z t, y = Value.str z t
  | [], _, .nil, y, hy => by cases hy
  | z :: zs, u :: us, .cons k1 c1, y, hy => by
    rcases List.mem_cons.mp hy with rfl | hm
    · exact ⟨z, k1⟩
    · exact strs_vals c1 y hm
/-- a {} at a place, a tuple of texts -/
def InE (X : Cx) (H : Hp) (x y : V) : Prop := ∃ (a b : Addr) (vs : List V) (zs : List Str), x = .ref a ∧ y = .ref b ∧ H a = some (.dK []) ∧ SqT X.K H b vs ∧ vs = zs.map V.str
theorem op_in_emp {X : Cx} (hu : X.A.units + 2 < cLine) (neg : Bool) : OpR X (compareOp (if neg then .NotIn else .In)) (fun x y H Q => InE X H x y ∧ Q (.bl neg) H) := by
  intro pins s σ H x y v u Q I rx ry ⟨⟨a, b, vs, zs, e1, e2, h1, h2, e3⟩, q⟩
  subst e1 e2
  cases (show v = Value.ref a from rx)
  cases (show u = Value.ref b from ry)
  obtain ⟨us, c1, p1, _⟩ := I.tuple h2
  obtain ⟨_, ya, va, ra, da⟩ := (show ObjOk X.prog X.w H s.heap a (.dK []) from I.hok a _ h1)
  obtain ⟨o, es, ep, ho, _, hd, _⟩ := id da
  have hA : X.A.in1.units < cLine := by show X.A.units + 1 < cLine; omega
  have he : ∀ y, y ∈ us.toArray → SeqAt.EqAt X.A.in1 s y (Value.ref a) ((fun _ => false) y) := fun y hy => by
    obtain ⟨z, t, rfl⟩ : ∃ z t, y = Value.str z t := by
      subst e3
      exact strs_vals c1 y (by simpa using hy)
    exact eqAt_str_dict z t ⟨o, es, ep, ho, hd⟩ da.typeIs hA
  have hany : us.toArray.any (fun _ => false) = false := by simp
  cases neg with
  | false => exact SeqAt.in_tupleAt (fun _ => false) p1 he (by rw [hany]; exact ⟨.bl false, H, I, rfl, q⟩)
  | true => exact SeqAt.notIn_tupleAt (fun _ => false) p1 he (by rw [hany]; exact ⟨.bl true, H, I, rfl, q⟩)
theorem strs_relE : ∀ {vs : List V} {ys : List D}, RelDs G F vs ys → allStr ys = true → ∃ zs : List Str, vs = zs.map V.str
  | _, [], .nil, _ => ⟨[], rfl⟩
  | _, .str z :: ys, .cons r q, h => by
    cases r
    obtain ⟨zs, e⟩ := strs_relE q h
    exact ⟨z :: zs, by rw [e]; rfl⟩
theorem RM.in_emp (rm : RM G F M H) (hK : X.K = G.K) {x y : V} {ys : List D} (r1 : RelD G F x .emp) (r2 : RelD G F y (.tup ys)) (h : allStr ys = true) : InE X H x y := by
  cases r1 with
  | @emp a t1 =>
    cases r2 with
    | @tup b ws _ t2 q2 =>
      have t2 := same_t rm.fz t2.sq
      rw [← hK] at t2
      obtain ⟨zs, e⟩ := strs_relE q2 h
      exact ⟨a, b, ws, zs, rfl, rfl, rm.fz _ _ t1, t2, e⟩
theorem op_dIn {X : Cx} (hu : X.A.units + 1 < cLine) (neg : Bool) : OpR X (compareOp (if neg then .NotIn else .In)) (fun y x H Q => ∃ a o, x = .ref a ∧ DGet H a y o ∧ Q (.bl (if neg then !o.isSome else o.isSome)) H) := by
  intro pins s σ H x y v u Q I rx ry h
  obtain ⟨a, o, rfl, g, q⟩ := h
  obtain rfl : u = Value.ref a := ry
  cases neg with
  | false => exact d_in hu I g rx fun s' I' => ⟨.bl o.isSome, H, I', rfl, q⟩
  | true => exact d_notIn hu I g rx fun s' I' => ⟨.bl (!o.isSome), H, I', rfl, q⟩
theorem opr_inS (hK : X.K = G.K) (hu : X.A.units + 65 < cLine) {neg : Bool} : OpR X (compareOp (if neg then .NotIn else .In)) (lift2 G (inS neg)) := by
  refine OpR.or2 fun x y H Q ⟨F, M, dx, dy, q, rm, r1, r2, cn, h⟩ => ?_
  have tl : inT neg dx dy M q → ∃ r', OpR X (compareOp (if neg then .NotIn else .In)) r' ∧ r' x y H Q := fun h9 => by
    unfold inT at h9
    split at h9
    · rename_i kvs k e1 e2
      obtain ⟨a, vks, rfl, g1, g2⟩ := dtc_in rm e1
      cases r2
      obtain ⟨b, rfl, hb⟩ := keyT_rel rm r1 e2
      refine ⟨_, op_dIn (by omega) neg, a, valV vks k, rfl, DGet.t g1 hb, ?_⟩
      have e : (valV vks k).isSome = (lookD kvs k).isSome := by
        cases e1 : lookD kvs k with
        | none => rw [g2.lookN e1]; rfl
        | some d =>
          obtain ⟨w, w1, _⟩ := g2.look e1
          rw [w1]; rfl
      rw [e]
      exact cn F M H _ _ (Same.refl F) rm (.bl _) h9
    · exact h9.elim
  have seqs : (match toPyM M dx, asS M dy with
    | some d, some ys => match toPys ys with
      | some ds => SeqAt.shaped d = true ∧ SeqAt.shaped (.list ds) = true ∧ q (.bl (if neg then !(ds.any fun z => PyData.eqv z d) else ds.any fun z => PyData.eqv z d)) M
      | none => False
    | _, _ => inT neg dx dy M q) → ∃ r', OpR X (compareOp (if neg then .NotIn else .In)) r' ∧ r' x y H Q := fun h => by
    cases e1 : toPyM M dx with
    | none => rw [e1] at h; exact tl h
    | some d =>
      cases e2 : asS M dy with
      | none => rw [e1, e2] at h; exact tl h
      | some ys =>
        rw [e1, e2] at h
        cases e3 : toPys ys with
        | none => dsimp only at h; rw [e3] at h; exact h.elim
        | some ds =>
          dsimp only at h
          rw [e3] at h
          obtain ⟨h1, h2, h3⟩ := h
          have z1 := dp_M rm r1 e1
          obtain ⟨p, vs, rfl, g1, g2⟩ := rd_S rm r2 e2
          have z2 := dp_all rm g2 e3
          have c := cn F M H _ _ (Same.refl F) rm (.bl _) h3
          rw [← hK] at z1 z2 g1
          rcases g1 with g1 | g1
          · cases neg with
            | false => exact ⟨_, op_inD hu, d, ds, z1, .lst g1 z2, h1, h2, c⟩
            | true => exact ⟨_, op_notInD hu, d, ds, z1, .lst g1 z2, h1, h2, c⟩
          · exact ⟨_, op_inTD hu neg, d, ds, z1, .tup g1 z2, h1, h2, c⟩
  cases dx with
  | emp =>
    cases dy with
    | tup ys =>
      obtain ⟨h1, h3⟩ := (show allStr ys = true ∧ q (.bl neg) M from h)
      exact ⟨_, op_in_emp (by omega) neg, rm.in_emp hK r1 r2 h1, cn F M H _ _ (Same.refl F) rm (.bl _) h3⟩
    | _ => exact seqs h
  | str a =>
    cases dy with
    | str b =>
      cases r1; cases r2
      cases neg with
      | false => exact ⟨_, op_in_str, a, b, rfl, rfl, cn F M H _ _ (Same.refl F) rm (.bl _) h⟩
      | true => exact ⟨_, op_notIn_str, a, b, rfl, rfl, cn F M H _ _ (Same.refl F) rm (.bl _) h⟩
    | _ => exact seqs h
  | _ => exact seqs h
theorem keyV {G : Gx} {F : Hp} {v : V} {d : D} {k : Sum Int Str} (r : RelD G F v d) (e : keyD d = some k) : v = kV k := by
  cases r <;> first | (cases e; done) | (cases e; rfl)
theorem opr_in (hK : X.K = G.K) (hu : X.A.units + 65 < cLine) {neg : Bool} : OpR X (compareOp (if neg then .NotIn else .In)) (lift2 G (inW neg)) := by
  refine OpR.or2 fun x y H Q ⟨F, M, dx, dy, q, rm, r1, r2, cn, h⟩ => ?_
  unfold inW at h
  cases hd : dicAt M dy with
  | some kvs =>
    obtain ⟨a, vks, rfl, g1, g2⟩ := dic_in rm hd
    cases r2
    rw [hd] at h
    cases hk : keyD dx with
    | none => rw [hk] at h; exact h.elim
    | some k =>
      rw [hk] at h
      refine ⟨_, op_dIn (by omega) neg, a, valV vks k, rfl, ?_, ?_⟩
      · rw [keyV r1 hk]; exact dget_rd g1
      · have e : (valV vks k).isSome = (lookD kvs k).isSome := by
          cases e1 : lookD kvs k with
          | none => rw [g2.lookN e1]; rfl
          | some d =>
            obtain ⟨w, w1, _⟩ := g2.look e1
            rw [w1]; rfl
        rw [e]
        exact cn F M H _ _ (Same.refl F) rm (.bl _) h
  | none =>
    rw [hd] at h
    exact ⟨_, opr_inS hK hu, F, M, dx, dy, q, rm, r1, r2, cn, h⟩
theorem gt_cases {x y : D} {M : Mem} {q : QK} (h : cmpW .Gt x y M q) : (∃ i j, x = .int i ∧ y = .int j ∧ q (.bl (decide (j < i))) M) ∨ (∃ a b, x = .str a ∧ y = .str b ∧ q (.bl (decide (b.cps.toList < a.cps.toList))) M) ∨ (∃ xs ys ns ms, asL M x = some xs ∧ asL M y = some ys ∧ intsOf xs = some ns ∧ intsOf ys = some ms ∧ q (.bl (gtL ns ms)) M) := by
  dsimp only [cmpW] at h
  split at h
  · exact .inl ⟨_, _, rfl, rfl, h⟩
  · exact .inr (.inl ⟨_, _, rfl, rfl, h⟩)
  · split at h
    · rename_i e1 e2
      split at h
      · rename_i e3 e4
        exact .inr (.inr ⟨_, _, _, _, e1, e2, e3, e4, h⟩)
      · exact h.elim
    · exact h.elim
theorem ints_relL : ∀ {vs : List V} {ds : List D} {ns : List Int}, RelDs G F vs ds → intsOf ds = some ns → vs = ns.map V.int
  | _, _, _, .nil, e => by cases e; rfl
  | _, d :: ds, ns, .cons r t, e => by
    cases d with
    | int i =>
      unfold intsOf at e
      cases q : intsOf ds with
      | none => rw [q] at e; cases e
      | some ms =>
        rw [q] at e; cases e
        cases r
        rw [ints_relL t q]; rfl
    | _ => cases e
theorem opr_cmp (hK : X.K = G.K) (hu : X.A.units + 65 < cLine) {op : CmpOp} : OpR X (compareOp op) (lift2 G (cmpW op)) := by
  have hu4 : X.A.units + 64 < cLine := by omega
  cases op with
  | Eq => exact opr_eq hK hu (neg := false)
  | NotEq => exact opr_eq hK hu (neg := true)
  | In => exact opr_in hK hu (neg := false)
  | NotIn => exact opr_in hK hu (neg := true)
  | Lt =>
    refine OpR.or2 fun x y H Q ⟨F, M, dx, dy, q, rm, r1, r2, cn, h⟩ => ?_
    cases dx <;> cases dy <;> try exact (show False from h).elim
    · cases r1; cases r2
      exact ⟨_, op_lt, _, _, rfl, rfl, cn F M H _ _ (Same.refl F) rm (.bl _) h⟩
    · cases r1; cases r2
      exact ⟨_, op_lt_str, _, _, rfl, rfl, cn F M H _ _ (Same.refl F) rm (.bl _) h⟩
  | LtE =>
    refine OpR.or2 fun x y H Q ⟨F, M, dx, dy, q, rm, r1, r2, cn, h⟩ => ?_
    cases dx <;> cases dy <;> try exact (show False from h).elim
    · cases r1; cases r2
      exact ⟨_, op_le, _, _, rfl, rfl, cn F M H _ _ (Same.refl F) rm (.bl _) h⟩
    · cases r1; cases r2
      exact ⟨_, op_le_str, _, _, rfl, rfl, cn F M H _ _ (Same.refl F) rm (.bl _) h⟩
  | Gt =>
    refine OpR.or2 fun x y H Q ⟨F, M, dx, dy, q, rm, r1, r2, cn, h⟩ => ?_
    rcases gt_cases h with ⟨i, j, rfl, rfl, h⟩ | ⟨a, b, rfl, rfl, h⟩ | ⟨xs, ys, ns, ms, e1, e2, e3, e4, h⟩
    · cases r1; cases r2
      exact ⟨_, op_gt, _, _, rfl, rfl, cn F M H _ _ (Same.refl F) rm (.bl _) h⟩
    · cases r1; cases r2
      exact ⟨_, op_gt_str, _, _, rfl, rfl, cn F M H _ _ (Same.refl F) rm (.bl _) h⟩
    · obtain ⟨p, vs, rfl, g1, g2⟩ := rd_L rm r1 e1
      obtain ⟨r, ws, rfl, g3, g4⟩ := rd_L rm r2 e2
      rw [ints_relL g2 e3] at g1
      rw [ints_relL g4 e4] at g3
      exact ⟨_, op_gtL (by omega), p, r, ns, ms, rfl, rfl, by rw [hK]; exact g1, by rw [hK]; exact g3, cn F M H _ _ (Same.refl F) rm (.bl _) h⟩
  | GtE =>
    refine OpR.or2 fun x y H Q ⟨F, M, dx, dy, q, rm, r1, r2, cn, h⟩ => ?_
    cases dx <;> cases dy <;> try exact (show False from h).elim
    · cases r1; cases r2
      exact ⟨_, op_ge, _, _, rfl, rfl, cn F M H _ _ (Same.refl F) rm (.bl _) h⟩
    · cases r1; cases r2
      exact ⟨_, op_ge_str, _, _, rfl, rfl, cn F M H _ _ (Same.refl F) rm (.bl _) h⟩
  | Is =>
    refine OpR.or2 fun x y H Q ⟨F, M, dx, dy, q, rm, r1, r2, cn, h⟩ => ?_
    have c : ∀ {b}, q (.bl b) M → Q (.bl b) H := fun h => cn F M H _ _ (Same.refl F) rm (.bl _) h
    cases dy <;> cases dx <;> try exact (show False from h).elim
    all_goals cases r1; cases r2; first
      | exact ⟨_, op_is_bl, _, _, rfl, rfl, c h⟩
      | exact ⟨_, op_isN, rfl, c h⟩
  | IsNot =>
    refine OpR.or2 fun x y H Q ⟨F, M, dx, dy, q, rm, r1, r2, cn, h⟩ => ?_
    have c : ∀ {b}, q (.bl b) M → Q (.bl b) H := fun h => cn F M H _ _ (Same.refl F) rm (.bl _) h
    cases dy <;> cases dx <;> try exact (show False from h).elim
    all_goals cases r1; cases r2; first
      | exact ⟨_, op_isnot_bl, _, _, rfl, rfl, c h⟩
      | exact ⟨_, op_notN, rfl, c h⟩
theorem inT_bl {neg : Bool} {q : QK} {x y : D} : inT neg x y M q → inT neg x y M fun d M' => (∃ b, d = .bl b) ∧ q d M' := by
  unfold inT
  split
  · exact fun c => ⟨⟨_, rfl⟩, c⟩
  · exact id
theorem eqX_bl {neg : Bool} {q : QK} {x y : D} : eqX neg x y M q → eqX neg x y M fun d M' => (∃ b, d = .bl b) ∧ q d M' := by
  unfold eqX
  split
  · exact fun ⟨a, b, c⟩ => ⟨a, b, ⟨_, rfl⟩, c⟩
  · exact fun ⟨a, c⟩ => ⟨a, ⟨_, rfl⟩, c⟩
  · exact fun ⟨a, b, c⟩ => ⟨a, b, ⟨_, rfl⟩, c⟩
  · exact fun c => ⟨⟨_, rfl⟩, c⟩
  · exact fun c => ⟨⟨_, rfl⟩, c⟩
  · exact fun c => ⟨⟨_, rfl⟩, c⟩
  · split
    · split
      · exact fun c => ⟨⟨_, rfl⟩, c⟩
      · exact id
    · exact id
  · exact id
theorem eqF_bl {neg : Bool} {q : QK} {x y : D} : eqF neg x y M q → eqF neg x y M fun d M' => (∃ b, d = .bl b) ∧ q d M' := by
  unfold eqF
  split
  · exact fun ⟨a, b, c⟩ => ⟨a, b, ⟨_, rfl⟩, c⟩
  · exact fun h => h.elim (fun h => .inl (eqX_bl h)) fun h => .inr ⟨h.1, ⟨_, rfl⟩, h.2⟩
theorem eqP_bl {neg : Bool} {q : QK} {x y : D} : eqP neg x y M q → eqP neg x y M fun d M' => (∃ b, d = .bl b) ∧ q d M' := by
  unfold eqP
  split
  · exact fun ⟨a, b, c⟩ => ⟨a, b, ⟨_, rfl⟩, c⟩
  · exact eqF_bl
theorem lift2_bl {op : CmpOp} {q : QK} : ∀ {x y : D}, cmpW op x y M q → cmpW op x y M fun d M' => (∃ b, d = .bl b) ∧ q d M' := by
  intro x y h
  cases op with
  | Eq =>
    revert h
    dsimp only [cmpW, eqW, eqL]
    split
    · exact fun h => ⟨⟨_, rfl⟩, h⟩
    split
    · split
      · exact eqP_bl
      · exact fun h => ⟨⟨_, rfl⟩, h⟩
    · split
      · exact fun h => ⟨⟨_, rfl⟩, h⟩
      · exact eqP_bl
  | NotEq =>
    revert h
    dsimp only [cmpW, eqW, eqL]
    split
    · exact fun h => ⟨⟨_, rfl⟩, h⟩
    split
    · split
      · exact eqP_bl
      · exact fun h => ⟨⟨_, rfl⟩, h⟩
    · split
      · exact fun h => ⟨⟨_, rfl⟩, h⟩
      · exact eqP_bl
  | In =>
    revert h
    dsimp only [cmpW, inW, inS]
    split
    · split
      · exact fun c => ⟨⟨_, rfl⟩, c⟩
      · exact id
    · split
      · exact fun c => ⟨⟨_, rfl⟩, c⟩
      · exact fun ⟨a, c⟩ => ⟨a, ⟨_, rfl⟩, c⟩
      · split
        · split
          · exact fun ⟨a, b, c⟩ => ⟨a, b, ⟨_, rfl⟩, c⟩
          · exact id
        · exact inT_bl
  | NotIn =>
    revert h
    dsimp only [cmpW, inW, inS]
    split
    · split
      · exact fun c => ⟨⟨_, rfl⟩, c⟩
      · exact id
    · split
      · exact fun c => ⟨⟨_, rfl⟩, c⟩
      · exact fun ⟨a, c⟩ => ⟨a, ⟨_, rfl⟩, c⟩
      · split
        · split
          · exact fun ⟨a, b, c⟩ => ⟨a, b, ⟨_, rfl⟩, c⟩
          · exact id
        · exact inT_bl
  | Gt =>
    revert h
    dsimp only [cmpW]
    split
    · exact fun h => ⟨⟨_, rfl⟩, h⟩
    · exact fun h => ⟨⟨_, rfl⟩, h⟩
    · split
      · split
        · exact fun h => ⟨⟨_, rfl⟩, h⟩
        · exact id
      · exact id
  | _ => cases x <;> cases y <;> first
    | exact (show False from h).elim
    | exact ⟨⟨_, rfl⟩, h⟩
theorem tru_of (rm : RM G F M H) {v : V} {d : D} {q : BK} {Q : Bool → Hp → Prop} (r : RelD G F v d) (cn : CnB G F q Q) (h : truW d M q) : ∃ k, TruV G.K v H k ∧ Q k H := by
  have c : ∀ {b}, q b M → Q b H := fun h => cn F M H _ (Same.refl F) rm h
  have seqs : (match asS M d with
    | some ds => q (!ds.isEmpty) M
    | none => False) → ∃ k, TruV G.K v H k ∧ Q k H := fun h => by
    cases e : asS M d with
    | none => rw [e] at h; exact h.elim
    | some ds =>
      rw [e] at h
      obtain ⟨p, vs, rfl, g1, g2⟩ := rd_S rm r e
      have ei : vs.isEmpty = ds.isEmpty := by cases g2 <;> rfl
      refine ⟨!vs.isEmpty, ?_, by rw [ei]; exact c h⟩
      rcases g1 with g1 | g1
      · exact .inl ⟨vs, g1, rfl⟩
      · exact .inr (.inl ⟨vs, g1, rfl⟩)
  cases d with
  | non => cases r; exact ⟨_, rfl, c h⟩
  | bl b => cases r; exact ⟨_, rfl, c h⟩
  | int i => cases r; exact ⟨_, rfl, c h⟩
  | str x => cases r; exact ⟨_, ⟨h.1, rfl⟩, c h.2⟩
  | emp =>
    cases r with
    | emp h1 => exact ⟨_, .inr (.inr ⟨[], rm.fz _ _ h1, rfl⟩), c h⟩
  | _ => exact seqs h

/-! ### subscripts -/
theorem relds_atI {vs : List V} {ds : List D} {i : Int} {d : D} (h : RelDs G F vs ds) (e : atI ds i = some d) : ∃ v, L2.atI vs i = some v ∧ RelD G F v d := by
  unfold atI at e
  unfold L2.atI
  have : L2.ixN vs.length i = ixN ds.length i := by rw [h.len]; rfl
  rw [this]
  cases q : ixN ds.length i with
  | none => rw [q] at e; cases e
  | some j =>
    rw [q] at e
    exact h.get e
theorem ixr_idx (hK : X.K = G.K) : IxR X (lift2 G idxW) := by
  intro value slice pins s σ H x y v u Q I rx ry ⟨F, M, dx, dy, q, rm, r1, r2, cn, h⟩ hs
  cases dy with
  | int k =>
    cases r2
    have seqs : (match asS M dx with
      | some ds => match atI ds k with
        | some d => q d M
        | none => False
      | none => False) → wpAny (model X.prog X.w) X.A (subscriptTail value slice v u) (EP X pins σ Q) X.xe s := fun h => by
      cases e : asS M dx with
      | none => rw [e] at h; exact h.elim
      | some ds =>
        rw [e] at h
        dsimp only at h
        cases e2 : atI ds k with
        | none => rw [e2] at h; exact h.elim
        | some d =>
          rw [e2] at h
          obtain ⟨p, vs, rfl, g1, g2⟩ := rd_S rm r1 e
          obtain ⟨w, a1, a2⟩ := relds_atI g2 e2
          have c := cn F M H _ _ (Same.refl F) rm a2 h
          rcases g1 with g1 | g1
          · exact ix_list value slice pins s σ H _ _ v u Q I rx ry ⟨p, vs, k, w, rfl, rfl, by rw [hK]; exact g1, a1, c⟩ hs
          · exact ix_tup value slice pins s σ H _ _ v u Q I rx ry ⟨p, vs, k, w, rfl, rfl, by rw [hK]; exact g1, a1, c⟩ hs
    cases dx with
    | str z =>
      cases r1
      obtain ⟨h1, h2⟩ := h
      cases e : atI z.cps.toList k with
      | none => rw [e] at h2; exact h2.elim
      | some c =>
        rw [e] at h2
        exact ix_str value slice pins s σ H _ _ v u Q I rx ry ⟨z, k, c, rfl, rfl, h1, e, cn F M H _ _ (Same.refl F) rm (.str _) h2⟩ hs
    | _ => exact seqs h
  | _ => cases dx <;> exact (show False from h).elim
theorem slN_eq (n d : Nat) (i : Option Int) : slN n d i = HT.sIx n d i := by
  cases i with
  | none => rfl
  | some i =>
    first
      | rfl
      | (unfold slN HT.sIx; rfl)
theorem cut_eq (vs : List V) (lo hi : Option Int) : cutV vs lo hi = cut vs lo hi := by
  unfold cutV cut
  rw [slN_eq, slN_eq]
theorem RelDs.cut {vs : List V} {ds : List D} (h : RelDs G F vs ds) (lo hi : Option Int) : RelDs G F (cut vs lo hi) (cut ds lo hi) := by
  unfold Wp.cut
  rw [h.len]
  exact (h.drop _).take _
def lift3 (G : Gx) (w : D → Option Int → Option Int → Mem → QK → Prop) : V → Option Int → Option Int → Hp → VK → Prop := fun x l u H Q => ∃ F M dx q, RM G F M H ∧ RelD G F x dx ∧ Cn G F q Q ∧ w dx l u M q
theorem cut_whole {α : Type} (xs : List α) (lo hi : Option Int) (h : slN xs.length 0 lo = 0 ∧ slN xs.length xs.length hi = xs.length) : cut xs lo hi = xs := by
  unfold cut
  rw [h.1, h.2]
  simp
theorem SlR.or2 {X : Cx} {r : V → Option Int → Option Int → Hp → VK → Prop} (h : ∀ x l u H Q, r x l u H Q → ∃ r', SlR X r' ∧ r' x l u H Q) : SlR X r := by
  intro pins s σ H x v vl vu lo hi sl Q I rx hs pl pu q
  obtain ⟨r', h1, h2⟩ := h x lo hi H Q q
  exact h1 pins s σ H x v vl vu lo hi sl Q I rx hs pl pu h2
theorem slr_sli (hK : X.K = G.K) {fr : Bool} : SlR X (lift3 G (sliW fr)) := by
  refine SlR.or2 fun x lo hi H Q ⟨F, M, dx, q, rm, r1, cn, h⟩ => ?_
  have lists : (match asL M dx with
    | some ds => newL fr (cut ds lo hi) M q
    | none => False) → ∃ r', SlR X r' ∧ r' x lo hi H Q := fun h => by
    cases e : asL M dx with
    | none => rw [e] at h; exact h.elim
    | some ds =>
      rw [e] at h
      obtain ⟨p, vs, rfl, g1, g2⟩ := rd_L rm r1 e
      obtain ⟨_, k⟩ := newL_ok rm (g2.cut lo hi) cn h
      exact ⟨_, sl_list, p, vs, rfl, by rw [hK]; exact g1, by rw [cut_eq]; exact k⟩
  cases dx with
  | str z =>
    cases r1
    refine ⟨_, sl_str, z, rfl, h.1, ?_⟩
    have e : cutS z lo hi = ⟨(cut z.cps.toList lo hi).toArray⟩ := by
      unfold cutS Wp.cut
      simp only [slN_eq]
      rfl
    rw [e]
    exact cn F M H _ _ (Same.refl F) rm (.str _) h.2
  | tup ds =>
    have hh := r1
    obtain ⟨p, vs, rfl, g1, g2⟩ := rd_T rm r1
    refine ⟨_, sl_tupA, p, vs, rfl, by rw [hK]; exact g1, fun e => ?_, fun _ p hp => ?_⟩
    · rw [← slN_eq, ← slN_eq, g2.len] at e
      have h : q (.tup (cut ds lo hi)) M := h
      rw [cut_whole ds lo hi e] at h
      exact cn F M H _ _ (Same.refl F) rm hh h
    · rw [cut_eq]
      exact newT_ok rm (g2.cut lo hi) cn h hp
  | _ => exact lists h
end
end Wp

/-! WpSrt: sorted(xs), xs a list of pairs of texts. -/
namespace Wp
open PySem L2 PyProof.Rows
/-- a pair, with its place -/
def pk (p : (Str × Str) × Addr) : PyData := prS p.1
theorem pk_le : PySem.W.dataLe false pk = fun a b => PySem.W.dataLe false prS a.1 b.1 := rfl
def rSortedD (K : PySem.W.Frag) : List V → Hp → VK → Prop := fun vs H Q => ∃ (a : Addr) (ps : List ((Str × Str) × Addr)), vs = [V.ref a] ∧ SqL K H a (ps.map fun p => V.ref p.2) ∧ (∀ p ∈ ps, SqT K H p.2 [.str p.1.1, .str p.1.2]) ∧
  ∀ (ps' : List ((Str × Str) × Addr)) (p : Addr), ps'.Perm ps → ps'.Pairwise (fun a b => PySem.W.dataLe false prS a.1 b.1 = true) → H p = none → Q (.ref p) (upd H p (.lst (ps'.map fun p => V.ref p.2)))
section
variable {X : Cx}
theorem pk_reads {pins : List (Addr × Obj)} {σ : L2.St} {H : Hp} {s : Shared} (I : Inv X pins σ H s) {p : (Str × Str) × Addr} (h : SqT X.K H p.2 [.str p.1.1, .str p.1.2]) : ∃ as, Reads s.heap (.ref p.2) (pk p) as := by
  obtain ⟨its, rv, ⟨o, ho, hc, n, hd⟩, -⟩ := I.tuple h
  obtain ⟨u1, u2, rfl, r1, r2⟩ := vals2 rv
  obtain ⟨t1, rfl⟩ := r1
  obtain ⟨t2, rfl⟩ := r2
  exact ⟨_, .tuple ho hc hd (.cons (.str _ _) (.cons (.str _ _) .nil))⟩
theorem each_pk {pins : List (Addr × Obj)} {σ : L2.St} {H : Hp} {s : Shared} (I : Inv X pins σ H s) : ∀ {ps : List ((Str × Str) × Addr)}, (∀ p ∈ ps, SqT X.K H p.2 [.str p.1.1, .str p.1.2]) →
    PySem.W.EachIs (fun (v : Value) (b : (Str × Str) × Addr) => v = .ref b.2) (ps.map fun p => Value.ref p.2) ps ∧ PySem.W.EachIs (fun v b => ∃ as, Reads s.heap v (pk b) as) (ps.map fun p => Value.ref p.2) ps
  | [], _ => ⟨.nil, .nil⟩
  | p :: ps, h => by
    obtain ⟨h1, h2⟩ := each_pk I (ps := ps) fun q hq => h q (List.mem_cons_of_mem _ hq)
    exact ⟨.cons rfl h1, .cons (pk_reads I (h p (List.mem_cons_self ..))) h2⟩
theorem vals_pk : ∀ {ps : List ((Str × Str) × Addr)} {its : List Value}, Vals (ps.map fun p => V.ref p.2) its → its = ps.map fun p => Value.ref p.2
  | [], _, .nil => rfl
  | p :: ps, _, .cons r rs => by
    cases r
    rw [vals_pk rs]
    rfl
theorem pk_vals : ∀ ps : List ((Str × Str) × Addr), Vals (ps.map fun p => V.ref p.2) (ps.map fun p => Value.ref p.2)
  | [] => .nil
  | p :: ps => .cons rfl (pk_vals ps)
theorem each_back : ∀ {out : List Value} {ps : List ((Str × Str) × Addr)}, PySem.W.EachIs (fun (v : Value) (b : (Str × Str) × Addr) => v = .ref b.2) out ps → out = ps.map fun p => Value.ref p.2
  | _, _, .nil => rfl
  | _, _, .cons h t => by rw [h, each_back t]; rfl
theorem cr_sortedD (hu : X.A.units + 10 < cLine) : CallR X (.builtin "sorted") (rSortedD X.K) := by
  intro pins s σ H vs us Q I r h
  obtain ⟨a, ps, rfl, hs, hp, q⟩ := h
  obtain ⟨its, rv, hl, hz⟩ := I.list hs
  rw [Vals.ref1 r]
  obtain rfl := vals_pk rv
  obtain ⟨e1, e2⟩ := each_pk I hp
  rw [List.length_map] at hz
  refine PySem.W.sorted_data (enc := pk) hl.isList e1 e2 (.of fun b b' => by simp [pk, prS, PySem.W.alike, PySem.W.alikeAll]) (.tuples fun b => ⟨_, _, rfl⟩) hz (fun b hb => ?_) fun out ho eo => ?_
  · show X.A.units + 2 + (PyData.depth (.tuple [.str b.1.1, .str b.1.2])) < cLine
    have : PyData.depth (.tuple [.str b.1.1, .str b.1.2]) ≤ 5 := by simp [PyData.depth, PyData.depthAll]
    omega
  · obtain rfl := each_back eo
    obtain ⟨ep, he'⟩ := sortedAll_at s.heap (ps.map fun p => Value.ref p.2) (List.toArray ((ps.mergeSort (PySem.W.dataLe false pk)).map fun p => Value.ref p.2))
    have pm : (ps.mergeSort (PySem.W.dataLe false pk)).Perm ps := List.mergeSort_perm ..
    have hlen : ((ps.mergeSort (PySem.W.dataLe false pk)).map fun p => V.ref p.2).length ≤ sizeLine := by rw [List.length_map, pm.length_eq]; exact hz
    refine ⟨.ref _, upd H (s.heap.objs.size + 1) (.lst ((ps.mergeSort (PySem.W.dataLe false pk)).map fun p => V.ref p.2)), I.laid (t' := s.toks) (fun _ _ => sortedAll_old) (Nat.le_succ _) ⟨hlen, _, ep, pk_vals _, he'⟩, rfl, q _ _ pm ?_ (I.hok.fresh (Nat.le_succ _))⟩
    exact PySem.W.sort_pairwise (PySem.W.sortLe_total _ false _) ps
end
/-- tuples of ints -/
theorem reads_ints (h : Heap) : ∀ {ns : List Int} {us : List Value}, Vals (ns.map V.int) us → ∃ as, ReadsAll h us (ns.map PyData.int) as
  | [], _, .nil => ⟨_, .nil⟩
  | n :: ns, _, .cons r rs => by
    obtain ⟨as, ih⟩ := reads_ints h rs
    obtain ⟨t, rfl⟩ := r
    exact ⟨_, .cons (.int _ _) ih⟩
theorem depth_ints : ∀ ns : List Int, PyData.depthAll (ns.map PyData.int) ≤ 1
  | [] => by simp [PyData.depthAll]
  | n :: ns => by
    have := depth_ints ns
    simp [PyData.depthAll, PyData.depth]
    omega
theorem ik_ne {ns : List Int} {a : Addr} (h : ns ≠ []) : ∃ x r, (PyData.tuple (ns.map PyData.int)) = .tuple (x :: r) := by
  cases ns with
  | nil => exact absurd rfl h
  | cons n ns => exact ⟨_, _, rfl⟩
/-- a tuple of ints, with its place -/
def ik (p : List Int × Addr) : PyData := inP p.1
theorem ik_le : PySem.W.dataLe false ik = fun a b => PySem.W.dataLe false inP a.1 b.1 := rfl
def rSortTs (K : PySem.W.Frag) : List V → Hp → VK → Prop := fun vs H Q => ∃ (a : Addr) (ps : List (List Int × Addr)), vs = [V.ref a] ∧ SqL K H a (ps.map fun p => V.ref p.2) ∧ (∀ p ∈ ps, SqT K H p.2 (p.1.map V.int) ∧ p.1 ≠ []) ∧
  ∀ (ps' : List (List Int × Addr)) (p : Addr), ps'.Perm ps → ps'.Pairwise (fun a b => PySem.W.dataLe false inP a.1 b.1 = true) → H p = none → Q (.ref p) (upd H p (.lst (ps'.map fun p => V.ref p.2)))
section
variable {X : Cx}
theorem ik_reads {pins : List (Addr × Obj)} {σ : L2.St} {H : Hp} {s : Shared} (I : Inv X pins σ H s) {p : List Int × Addr} (h : SqT X.K H p.2 (p.1.map V.int)) : ∃ as, Reads s.heap (.ref p.2) (ik p) as := by
  obtain ⟨its, rv, ⟨o, ho, hc, n, hd⟩, -⟩ := I.tuple h
  obtain ⟨as, ra⟩ := reads_ints s.heap rv
  exact ⟨_, .tuple ho hc hd ra⟩
theorem each_ik {pins : List (Addr × Obj)} {σ : L2.St} {H : Hp} {s : Shared} (I : Inv X pins σ H s) : ∀ {ps : List (List Int × Addr)}, (∀ p ∈ ps, SqT X.K H p.2 (p.1.map V.int)) →
    PySem.W.EachIs (fun (v : Value) (b : List Int × Addr) => v = .ref b.2) (ps.map fun p => Value.ref p.2) ps ∧ PySem.W.EachIs (fun v b => ∃ as, Reads s.heap v (ik b) as) (ps.map fun p => Value.ref p.2) ps
  | [], _ => ⟨.nil, .nil⟩
  | p :: ps, h => by
    obtain ⟨h1, h2⟩ := each_ik I (ps := ps) fun q hq => h q (List.mem_cons_of_mem _ hq)
    exact ⟨.cons rfl h1, .cons (ik_reads I (h p (List.mem_cons_self ..))) h2⟩
theorem vals_ik : ∀ {ps : List (List Int × Addr)} {its : List Value}, Vals (ps.map fun p => V.ref p.2) its → its = ps.map fun p => Value.ref p.2
  | [], _, .nil => rfl
  | p :: ps, _, .cons r rs => by
    cases r
    rw [vals_ik rs]
    rfl
theorem ik_vals : ∀ ps : List (List Int × Addr), Vals (ps.map fun p => V.ref p.2) (ps.map fun p => Value.ref p.2)
  | [] => .nil
  | p :: ps => .cons rfl (ik_vals ps)
theorem each_backI : ∀ {out : List Value} {ps : List (List Int × Addr)}, PySem.W.EachIs (fun (v : Value) (b : List Int × Addr) => v = .ref b.2) out ps → out = ps.map fun p => Value.ref p.2
  | _, _, .nil => rfl
  | _, _, .cons h t => by rw [h, each_backI t]; rfl
theorem cr_sortTs (hu : X.A.units + 10 < cLine) : CallR X (.builtin "sorted") (rSortTs X.K) := by
  intro pins s σ H vs us Q I r h
  obtain ⟨a, ps, rfl, hs, hp, q⟩ := h
  obtain ⟨its, rv, hl, hz⟩ := I.list hs
  rw [Vals.ref1 r]
  obtain rfl := vals_ik rv
  obtain ⟨e1, e2⟩ := each_ik I fun p h => (hp p h).1
  rw [List.length_map] at hz
  refine PySem.W.sorted_data (enc := ik) hl.isList e1 e2 (.of fun b b' => by unfold ik inP PySem.W.alike; exact PySem.W.alike_ints _ _) (.inl fun d hd => by obtain ⟨b, hb, rfl⟩ := List.mem_map.mp hd; exact ik_ne (a := b.2) (hp b hb).2) hz (fun b hb => ?_) fun out ho eo => ?_
  · show X.A.units + 2 + (PyData.depth (.tuple (b.1.map PyData.int))) < cLine
    have : PyData.depth (.tuple (b.1.map PyData.int)) ≤ 5 := by
      have := depth_ints b.1
      show PyData.depthAll (b.1.map PyData.int) + 1 ≤ 5
      omega
    omega
  · obtain rfl := each_backI eo
    obtain ⟨ep, he'⟩ := sortedAll_at s.heap (ps.map fun p => Value.ref p.2) (List.toArray ((ps.mergeSort (PySem.W.dataLe false ik)).map fun p => Value.ref p.2))
    have pm : (ps.mergeSort (PySem.W.dataLe false ik)).Perm ps := List.mergeSort_perm ..
    have hlen : ((ps.mergeSort (PySem.W.dataLe false ik)).map fun p => V.ref p.2).length ≤ sizeLine := by rw [List.length_map, pm.length_eq]; exact hz
    refine ⟨.ref _, upd H (s.heap.objs.size + 1) (.lst ((ps.mergeSort (PySem.W.dataLe false ik)).map fun p => V.ref p.2)), I.laid (t' := s.toks) (fun _ _ => sortedAll_old) (Nat.le_succ _) ⟨hlen, _, ep, ik_vals _, he'⟩, rfl, q _ _ pm ?_ (I.hok.fresh (Nat.le_succ _))⟩
    exact PySem.W.sort_pairwise (PySem.W.sortLe_total _ false _) ps
end
section
variable {G : Gx} {F : Hp}
theorem twoS_rel : ∀ {vs : List V} {ds : List D} {ps : List (Str × Str)}, RelDs G F vs ds → twoS ds = some ps → ∃ qs : List ((Str × Str) × Addr), vs = (qs.map fun q => V.ref q.2) ∧ qs.map (·.1) = ps ∧ ∀ q ∈ qs, TupF G F q.2 [.str q.1.1, .str q.1.2]
  | _, _, ps, .nil, e => by
    cases e
    exact ⟨[], rfl, rfl, fun q hq => by cases hq⟩
  | _, _, ps, .cons (v := v) (vs := vs) (d := d) (ds := ds) r t, e => by
    match d, r, e with
    | .tup [.str a, .str b], r, e =>
      have e : (match twoS ds with | some ps => some ((a, b) :: ps) | none => none) = some ps := e
      cases q : twoS ds with
      | none => rw [q] at e; cases e
      | some ps2 =>
        rw [q] at e
        cases e
        obtain ⟨qs, e1, e2, e3⟩ := twoS_rel t q
        cases r with
        | @tup x _ _ h1 h2 =>
          cases h2 with
          | cons r1 r2 =>
            cases r2 with
            | cons r3 r4 =>
              cases r4
              cases r1
              cases r3
              refine ⟨((a, b), x) :: qs, by rw [e1]; rfl, by rw [List.map_cons, e2], fun q hq => ?_⟩
              rcases List.mem_cons.mp hq with rfl | hq
              · exact h1
              · exact e3 q hq
theorem two_rel : ∀ {qs : List ((Str × Str) × Addr)}, (∀ q ∈ qs, TupF G F q.2 [.str q.1.1, .str q.1.2]) → RelDs G F (qs.map fun q => V.ref q.2) ((qs.map (·.1)).map twoD)
  | [], _ => .nil
  | q :: qs, h => .cons (.tup (h q (List.mem_cons_self ..)) (.cons (.str _) (.cons (.str _) .nil))) (two_rel fun x hx => h x (List.mem_cons_of_mem _ hx))
end
section
variable {G : Gx} {F : Hp}
theorem ints_of9 : ∀ {ds : List D} {ns : List Int} {vs : List V}, intsOf ds = some ns → RelDs G F vs ds → vs = ns.map V.int ∧ ds = ns.map D.int
  | [], ns, _, e, .nil => by cases e; exact ⟨rfl, rfl⟩
  | d :: ds, ns, _, e, .cons r t => by
    cases d with
    | int i =>
      have e : (intsOf ds).map (i :: ·) = some ns := e
      cases q : intsOf ds with
      | none => rw [q] at e; cases e
      | some k2 =>
        rw [q] at e
        cases e
        cases r
        obtain ⟨e1, e2⟩ := ints_of9 q t
        exact ⟨by rw [e1]; rfl, by rw [e2]; rfl⟩
    | _ => cases e
theorem intTs_rel : ∀ {vs : List V} {ds : List D} {ps : List (List Int)}, RelDs G F vs ds → intTs ds = some ps → ∃ qs : List (List Int × Addr), vs = (qs.map fun q => V.ref q.2) ∧ qs.map (·.1) = ps ∧ ∀ q ∈ qs, TupF G F q.2 (q.1.map V.int) ∧ q.1 ≠ []
  | _, _, ps, .nil, e => by
    cases e
    exact ⟨[], rfl, rfl, fun q hq => by cases hq⟩
  | _, _, ps, .cons (v := v) (vs := vs) (d := d) (ds := ds) r t, e => by
    unfold intTs at e
    split at e
    · rename_i h; cases h
    · rename_i xs ds' h
      cases h
      split at e
      · rename_i ns ps2 q1 q2
        cases e
        obtain ⟨qs, e1, e2, e3⟩ := intTs_rel t q2
        cases r with
        | @tup x _ _ h1 h2 =>
          obtain ⟨f1, f2⟩ := ints_of9 q1 h2
          refine ⟨(_, x) :: qs, by rw [e1]; rfl, by rw [List.map_cons, e2], fun q hq => ?_⟩
          rcases List.mem_cons.mp hq with rfl | hq
          · exact ⟨by rw [← f1]; exact h1, by simp⟩
          · exact e3 q hq
      · cases e
    · cases e
theorem intT_rel : ∀ {qs : List (List Int × Addr)}, (∀ q ∈ qs, TupF G F q.2 (q.1.map V.int)) → RelDs G F (qs.map fun q => V.ref q.2) ((qs.map (·.1)).map intT)
  | [], _ => .nil
  | q :: qs, h => .cons (.tup (h q (List.mem_cons_self ..)) (RelDs.ints _)) (intT_rel fun x hx => h x (List.mem_cons_of_mem _ hx))
end
end Wp

/-! WpX2: list(text). -/
namespace Wp
open PySem PySem.Spec PyProof.Rows L2
def signsV (z : Str) : List V := z.cps.toList.map fun c => .str ⟨#[c]⟩
theorem vals_signs (z : Str) : ∀ (cs : List Nat) (n : Nat) (vs : List Value), vs.length = cs.length → (∀ (j : Nat) (v : Value), vs[j]? = some v → ∃ (c : Nat) (u : Tok), cs[j]? = some c ∧ v = Value.str ⟨#[c]⟩ u) → Vals (cs.map fun c => V.str ⟨#[c]⟩) vs
  | [], _, [], _, _ => .nil
  | [], _, _ :: _, h, _ => by cases h
  | _ :: _, _, [], h, _ => by cases h
  | c :: cs, n, v :: vs, h, hv => by
    obtain ⟨c', u, e1, e2⟩ := hv 0 v rfl
    cases e1
    subst e2
    exact .cons ⟨u, rfl⟩ (vals_signs z cs n vs (Nat.succ.inj h) fun j v e => hv (j + 1) v e)
section
variable {X : Cx}
theorem call_listS (hc : X.calm = true) : CallR X (.type "list") (fun xs H Q => ∃ z, xs = [.str z] ∧ z.length ≤ sizeLine ∧ ∀ l, H l = none → Q (.ref l) (upd H l (.lst (signsV z)))) := by
  intro pins s σ H xs us Q I r h
  obtain ⟨z, rfl, hz, q⟩ := h
  obtain ⟨u, rfl, t, rfl⟩ : ∃ u, us = [u] ∧ ∃ t, u = .str z t := by
    cases r with
    | cons a b => cases b; obtain ⟨t, e⟩ := a; exact ⟨_, rfl, t, e⟩
  refine call_list_str (I.ok.hd hc) z t (fun h' tk acc c hk hl hi => ?_) hz
  have hv : Vals (signsV z) acc.toList := by
    refine vals_signs z z.cps.toList 0 acc.toList ?_ fun j v e => ?_
    · rw [Array.length_toList, Array.length_toList]; exact hi.1
    · obtain ⟨c, u, e1, e2⟩ := hi.2 j v (by rw [← Array.getElem?_toList]; exact e)
      exact ⟨c, u, by rw [Array.getElem?_toList]; exact e1, e2⟩
  refine ⟨.ref s.heap.objs.size, _, I.laid (t' := tk) (o := .lst (signsV z)) hk (Nat.le_refl _) ?_, rfl, q _ (I.hok.fresh (Nat.le_refl _))⟩
  exact ⟨by unfold signsV; rw [List.length_map, Array.length_toList]; exact hz, _, c, hv, hl⟩
end
end Wp

/-! WpS3: built-ins and methods by values. -/
namespace Wp
open PySem PySem.Spec PyProof.Rows L2
section
variable {G : Gx} {F F' H : Hp} {M : Mem} {X : Cx}
def liftN (G : Gx) (w : List D → Mem → QK → Prop) : List V → Hp → VK → Prop := fun vs H Q => ∃ F M ds q, RM G F M H ∧ RelDs G F vs ds ∧ Cn G F q Q ∧ w ds M q
theorem CallR.or2 {f : Value} {r : List V → Hp → VK → Prop} (h : ∀ xs H Q, r xs H Q → ∃ r', CallR X f r' ∧ r' xs H Q) : CallR X f r := by
  intro pins s σ H xs us Q I rs q
  obtain ⟨r', h1, h2⟩ := h xs H Q q
  exact h1 pins s σ H xs us Q I rs h2
def biV : Bi → Value
  | .len => .builtin "len" | .int_ => .type "int" | .list_ => .type "list" | .tuple_ => .type "tuple" | .str_ => .type "str" | .ord_ => .builtin "ord" | .abs_ => .builtin "abs"
  | .min_ => .builtin "min" | .max_ => .builtin "max" | .sum_ => .builtin "sum" | .all_ => .builtin "all" | .any_ => .builtin "any" | .sorted_ => .builtin "sorted" | .dict_ => .type "dict"
def biNm : Bi → Str
  | .len => "len" | .int_ => "int" | .list_ => "list" | .tuple_ => "tuple" | .str_ => "str" | .ord_ => "ord" | .abs_ => "abs"
  | .min_ => "min" | .max_ => "max" | .sum_ => "sum" | .all_ => "all" | .any_ => "any" | .sorted_ => "sorted" | .dict_ => "dict"
theorem bi_boot (b : Bi) : bootBuiltins (biNm b) = some (biV b) := by cases b <;> decide +kernel
theorem bi_no (b : Bi) : biNm b ≠ "__name__" ∧ (biNm b == ("__debug__" : Str)) = false := by cases b <;> decide +kernel
theorem relds1 {vs : List V} {d : D} (h : RelDs G F vs [d]) : ∃ v, vs = [v] ∧ RelD G F v d := by
  cases h with
  | cons r t => cases t; exact ⟨_, rfl, r⟩
theorem rel_signs (z : Str) : RelDs G F (signsV z) (signs z) := by
  unfold signsV signs
  induction z.cps.toList with
  | nil => exact .nil
  | cons c cs ih => exact .cons (.str _) ih
theorem nu_min2 (i j : Int) : nuMin2 (.int i) (.int j) = some (.int (min2 i j)) := by
  show some (if decide (j < i) = true then V.int j else V.int i) = _
  unfold min2
  by_cases h : j < i
  · rw [if_pos (decide_eq_true h), if_pos h]
  · rw [if_neg (by rw [decide_eq_false h]; decide), if_neg h]
theorem nu_max2 (i j : Int) : nuMax2 (.int i) (.int j) = some (.int (max2 i j)) := by
  show some (if decide (i < j) = true then V.int j else V.int i) = _
  unfold max2
  by_cases h : i < j
  · rw [if_pos (decide_eq_true h), if_pos h]
  · rw [if_neg (by rw [decide_eq_false h]; decide), if_neg h]
theorem nu_min3 (i j k : Int) : nuMin3 (.int i) (.int j) (.int k) = some (.int (min2 (min2 i j) k)) := by
  unfold nuMin3
  rw [nu_min2]
  exact nu_min2 _ _
theorem nu_max3 (i j k : Int) : nuMax3 (.int i) (.int j) (.int k) = some (.int (max2 (max2 i j) k)) := by
  unfold nuMax3
  rw [nu_max2]
  exact nu_max2 _ _
theorem relds3 {vs : List V} {d e f : D} (h : RelDs G F vs [d, e, f]) : ∃ v w x, vs = [v, w, x] ∧ RelD G F v d ∧ RelD G F w e ∧ RelD G F x f := by
  cases h with
  | cons a b => cases b with
    | cons b c => cases c with
      | cons c d => cases d; exact ⟨_, _, _, rfl, a, b, c⟩
theorem relds2 {vs : List V} {d e : D} (h : RelDs G F vs [d, e]) : ∃ v w, vs = [v, w] ∧ RelD G F v d ∧ RelD G F w e := by
  cases h with
  | cons r t => obtain ⟨w, rfl, r2⟩ := relds1 t; exact ⟨_, _, rfl, r, r2⟩
theorem ints_rel : ∀ {vs : List V} {ds : List D} {ns : List Int}, RelDs G F vs ds → intsOf ds = some ns → vs = ns.map V.int
  | _, _, _, .nil, e => by cases e; rfl
  | _, d :: ds, ns, .cons r t, e => by
    cases d with
    | int i =>
      unfold intsOf at e
      cases q : intsOf ds with
      | none => rw [q] at e; cases e
      | some ms =>
        rw [q] at e; cases e
        cases r
        rw [ints_rel t q]; rfl
    | _ => cases e
theorem bools_rel : ∀ {vs : List V} {ds : List D} {ns : List Bool}, RelDs G F vs ds → bools ds = some ns → vs = ns.map V.bl
  | _, _, _, .nil, e => by cases e; rfl
  | _, d :: ds, ns, .cons r t, e => by
    cases d with
    | bl i =>
      unfold bools at e
      cases q : bools ds with
      | none => rw [q] at e; cases e
      | some ms =>
        rw [q] at e; cases e
        cases r
        rw [bools_rel t q]; rfl
    | _ => cases e
theorem strs_rel : ∀ {vs : List V} {ds : List D} {ns : List Str}, RelDs G F vs ds → strsOf ds = some ns → vs = ns.map V.str
  | _, _, _, .nil, e => by cases e; rfl
  | _, d :: ds, ns, .cons r t, e => by
    cases d with
    | str i =>
      unfold strsOf at e
      cases q : strsOf ds with
      | none => rw [q] at e; cases e
      | some ms =>
        rw [q] at e; cases e
        cases r
        rw [strs_rel t q]; rfl
    | _ => cases e
theorem key_relV {G : Gx} {F : Hp} {v : V} {d : D} {k : Sum Int Str} (r : RelD G F v d) (e : keyD d = some k) : v = kV k := by
  cases r <;> first | (cases e; done) | (cases e; rfl)
theorem prs_rel (rm : RM G F M H) : ∀ {vs : List V} {ds : List D} {kvs : List (Sum Int Str × D)}, RelDs G F vs ds → prsD ds = some kvs → ∃ (ps : List Addr) (vks : List (Key × V)), vs = ps.map V.ref ∧ Paired (fun p kv => SqT G.K H p [kV kv.1, kv.2]) ps vks ∧ KVR G F vks kvs
  | _, [], kvs, r, e => by
    cases r
    cases e
    exact ⟨[], [], rfl, .nil, .nil⟩
  | _, d :: ds, kvs, r, e => by
    cases r with
    | cons r t =>
      unfold prsD at e
      split at e
      · rename_i hq
        cases hq
      · rename_i hq
        injection hq with q1 q2
        subst q1 q2
        split at e
        · rename_i e1 e2
          cases e
          obtain ⟨ps, vks, rfl, h1, h2⟩ := prs_rel rm t e2
          obtain ⟨p, us, rfl, g1, g2⟩ := rd_T rm r
          obtain ⟨u, w, rfl, r1, r2⟩ := relds2 g2
          rw [key_relV r1 e1] at g1
          exact ⟨p :: ps, (_, w) :: vks, rfl, .cons g1 h1, .cons r2 h2⟩
        · cases e
      · cases e
theorem KVR.merges : ∀ {r1 : List (Key × V)} {t1 : List (Sum Int Str × D)} {r : List (Key × V)} {t : List (Sum Int Str × D)}, KVR G F r t → KVR G F r1 t1 → KVR G F (mergeK r r1) (mergeD t t1) := by
  intro r1 t1 r t h h1
  induction h1 generalizing r t with
  | nil => exact h
  | cons a _ ih => exact ih (h.put a)
theorem keysI_rel {G : Gx} {F : Hp} : ∀ {vks : List (Key × V)} {kvs : List (Sum Int Str × D)} {ns : List Int}, KVR G F vks kvs → keysI kvs = some ns → vks.map (·.1) = ns.map Sum.inl
  | _, _, ns, .nil, e => by cases e; rfl
  | _, _, ns, .cons (k := k) (s := kvs) r t, e => by
    cases k with
    | inr z => cases e
    | inl i =>
      have e : (keysI kvs).map (i :: ·) = some ns := e
      cases q : keysI kvs with
      | none => rw [q] at e; cases e
      | some k2 =>
        rw [q] at e
        cases e
        rw [List.map_cons, keysI_rel t q]; rfl
theorem callr_bi (hK : X.K = G.K) (hc : X.calm = true) (hu : X.A.units + 10 < cLine) (b : Bi) {fr : Bool} : CallR X (biV b) (liftN G (biW b fr)) := by
  refine CallR.or2 fun xs H Q ⟨F, M, ds, q, rm, rs, cn, h⟩ => ?_
  have c : ∀ {v d}, RelD G F v d → q d M → Q v H := fun r h => cn F M H _ _ (Same.refl F) rm r h
  have hlen : ∀ x, RelDs G F xs [x] → lenW x M q → ∃ r', CallR X (biV .len) r' ∧ r' xs H Q := fun x rs h => by
    obtain ⟨v, rfl, r⟩ := relds1 rs
    have seqs : (match asS M x with
      | some ds => q (.int ds.length) M
      | none => False) → ∃ r', CallR X (biV .len) r' ∧ r' [v] H Q := fun h => by
      cases e : asS M x with
      | none => rw [e] at h; exact h.elim
      | some ds =>
        rw [e] at h
        obtain ⟨p, vs, rfl, g1, g2⟩ := rd_S rm r e
        exact ⟨_, call_len_seq, p, vs, rfl, by rw [hK]; exact g1, by rw [g2.len]; exact c (.int _) h⟩
    cases x with
    | str z => cases r; exact ⟨_, call_len_str, z, rfl, h.1, c (.int _) h.2⟩
    | _ => exact seqs h
  have hlist : ∀ x, RelDs G F xs [x] → (match asS M x with
      | some ds => newL fr ds M q
      | none => False) → ∃ r', CallR X (biV .list_) r' ∧ r' xs H Q := fun x rs h => by
    obtain ⟨v, rfl, r⟩ := relds1 rs
    cases e : asS M x with
    | none => rw [e] at h; exact h.elim
    | some ds =>
      rw [e] at h
      obtain ⟨p, vs, rfl, g1, g2⟩ := rd_S rm r e
      exact ⟨_, call_list_of, p, vs, rfl, by rw [hK]; exact g1, (newL_ok rm g2 cn h).2⟩
  have htup : ∀ x, RelDs G F xs [x] → (match asL M x with
      | some ds => q (.tup ds) M
      | none => False) → ∃ r', CallR X (biV .tuple_) r' ∧ r' xs H Q := fun x rs h => by
    obtain ⟨v, rfl, r⟩ := relds1 rs
    cases e : asL M x with
    | none => rw [e] at h; exact h.elim
    | some ds =>
      rw [e] at h
      obtain ⟨p, vs, rfl, g1, g2⟩ := rd_L rm r e
      exact ⟨_, call_tuple_of, p, vs, rfl, .inl ⟨by rw [hK]; exact g1, fun l hl => newT_ok rm g2 cn h hl⟩⟩
  have hmin : ∀ x, RelDs G F xs [x] → (match asL M x with
      | some ds => match intsOf ds with
        | some ns => 0 < ns.length ∧ ∀ m, m ∈ ns → (∀ y, y ∈ ns → m ≤ y) → q (.int m) M
        | none => False
      | none => False) → ∃ r', CallR X (biV .min_) r' ∧ r' xs H Q := fun x rs h => by
    obtain ⟨v, rfl, r⟩ := relds1 rs
    cases e : asL M x with
    | none => rw [e] at h; exact h.elim
    | some ds =>
      rw [e] at h
      dsimp only at h
      cases e2 : intsOf ds with
      | none => rw [e2] at h; exact h.elim
      | some ns =>
        rw [e2] at h
        obtain ⟨p, vs, rfl, g1, g2⟩ := rd_L rm r e
        rw [ints_rel g2 e2] at g1
        exact ⟨_, cr_min hc, p, ns, rfl, by rw [hK]; exact g1, h.1, fun m h1 h2 => c (.int _) (h.2 m h1 h2)⟩
  have hmax : ∀ x, RelDs G F xs [x] → (match asL M x with
      | some ds => match intsOf ds with
        | some ns => 0 < ns.length ∧ ∀ m, m ∈ ns → (∀ y, y ∈ ns → y ≤ m) → q (.int m) M
        | none => False
      | none => False) → ∃ r', CallR X (biV .max_) r' ∧ r' xs H Q := fun x rs h => by
    obtain ⟨v, rfl, r⟩ := relds1 rs
    cases e : asL M x with
    | none => rw [e] at h; exact h.elim
    | some ds =>
      rw [e] at h
      dsimp only at h
      cases e2 : intsOf ds with
      | none => rw [e2] at h; exact h.elim
      | some ns =>
        rw [e2] at h
        obtain ⟨p, vs, rfl, g1, g2⟩ := rd_L rm r e
        rw [ints_rel g2 e2] at g1
        exact ⟨_, cr_max hc, p, ns, rfl, by rw [hK]; exact g1, h.1, fun m h1 h2 => c (.int _) (h.2 m h1 h2)⟩
  have hsum : ∀ x, RelDs G F xs [x] → (match asL M x with
      | some ds => match intsOf ds with
        | some ns => q (.int ns.sum) M
        | none => False
      | none => False) → ∃ r', CallR X (biV .sum_) r' ∧ r' xs H Q := fun x rs h => by
    obtain ⟨v, rfl, r⟩ := relds1 rs
    cases e : asL M x with
    | none => rw [e] at h; exact h.elim
    | some ds =>
      rw [e] at h
      dsimp only at h
      cases e2 : intsOf ds with
      | none => rw [e2] at h; exact h.elim
      | some ns =>
        rw [e2] at h
        obtain ⟨p, vs, rfl, g1, g2⟩ := rd_L rm r e
        rw [ints_rel g2 e2] at g1
        exact ⟨_, cr_sum hc, p, ns, rfl, by rw [hK]; exact g1, c (.int _) h⟩
  have hall : ∀ x, RelDs G F xs [x] → (match asL M x with
      | some ds => match bools ds with
        | some bs => q (.bl (bs.all id)) M
        | none => False
      | none => False) → ∃ r', CallR X (biV .all_) r' ∧ r' xs H Q := fun x rs h => by
    obtain ⟨v, rfl, r⟩ := relds1 rs
    cases e : asL M x with
    | none => rw [e] at h; exact h.elim
    | some ds =>
      rw [e] at h
      dsimp only at h
      cases e2 : bools ds with
      | none => rw [e2] at h; exact h.elim
      | some ns =>
        rw [e2] at h
        obtain ⟨p, vs, rfl, g1, g2⟩ := rd_L rm r e
        rw [bools_rel g2 e2] at g1
        exact ⟨_, cr_all hc, p, ns, rfl, by rw [hK]; exact g1, c (.bl _) h⟩
  have hsort : ∀ x, RelDs G F xs [x] → (match asL M x with
      | some ds => match intsOf ds with
        | some ns => ∀ ns' : List Int, ns'.Perm ns → ns'.Pairwise (· ≤ ·) → newL fr (ns'.map D.int) M q
        | none => match twoS ds with
          | some ps => ∀ ps' : List (Str × Str), ps'.Perm ps → ps'.Pairwise (fun a b => PySem.W.dataLe false prS a b = true) → newL fr (ps'.map twoD) M q
          | none => match intTs ds with
            | some ps => ∀ ps' : List (List Int), ps'.Perm ps → ps'.Pairwise (fun a b => PySem.W.dataLe false inP a b = true) → newL fr (ps'.map intT) M q
            | none => False
      | none => sortD fr x M q) → ∃ r', CallR X (biV .sorted_) r' ∧ r' xs H Q := fun x rs h => by
    obtain ⟨v, rfl, r⟩ := relds1 rs
    cases e : asL M x with
    | none =>
      rw [e] at h
      dsimp only at h
      unfold sortD at h
      split at h
      · rename_i kvs hd
        obtain ⟨a, vks, e1, g1, g2⟩ := dic_in rm hd
        cases e1
        cases r
        split at h
        · rename_i ns hk
          refine ⟨_, call_sortedDI hc, a, vks, ns, rfl, g1, keysI_rel g2 hk, h.1, fun ns' p hp1 hp2 hp => ?_⟩
          exact (newL_ok rm (RelDs.ints ns') cn (h.2 ns' hp1 hp2)).2 p hp
        · exact h.elim
      · exact h.elim
    | some ds =>
      rw [e] at h
      dsimp only at h
      cases e2 : intsOf ds with
      | none =>
        rw [e2] at h
        dsimp only at h
        cases e3 : twoS ds with
        | none =>
          rw [e3] at h
          dsimp only at h
          cases e4 : intTs ds with
          | none => rw [e4] at h; exact h.elim
          | some ps =>
            rw [e4] at h
            dsimp only at h
            obtain ⟨p, vs, rfl, g1, g2⟩ := rd_L rm r e
            obtain ⟨qs, rfl, f2, f3⟩ := intTs_rel g2 e4
            subst f2
            refine ⟨_, cr_sortTs hu, p, qs, rfl, by rw [hK]; exact g1, fun z hz => ⟨by rw [hK]; exact same_t rm.fz (f3 z hz).1.sq, (f3 z hz).2⟩, fun qs' p a b hp => ?_⟩
            exact (newL_ok rm (intT_rel fun z hz => (f3 z (a.mem_iff.mp hz)).1) cn (h (qs'.map (·.1)) (a.map _) (List.pairwise_map.mpr b))).2 p hp
        | some ps =>
          rw [e3] at h
          dsimp only at h
          obtain ⟨p, vs, rfl, g1, g2⟩ := rd_L rm r e
          obtain ⟨qs, rfl, f2, f3⟩ := twoS_rel g2 e3
          subst f2
          refine ⟨_, cr_sortedD hu, p, qs, rfl, by rw [hK]; exact g1, fun z hz => by rw [hK]; exact same_t rm.fz (f3 z hz).sq, fun qs' p a b hp => ?_⟩
          exact (newL_ok rm (two_rel fun z hz => f3 z (a.mem_iff.mp hz)) cn (h (qs'.map (·.1)) (a.map _) (List.pairwise_map.mpr b))).2 p hp
      | some ns =>
        rw [e2] at h
        obtain ⟨p, vs, rfl, g1, g2⟩ := rd_L rm r e
        rw [ints_rel g2 e2] at g1
        exact ⟨_, cr_sortedI, p, ns, rfl, by rw [hK]; exact g1, fun ns' p a b hp => (newL_ok rm (RelDs.ints ns') cn (h ns' a b)).2 p hp⟩
  have hdict : ∀ x, RelDs G F xs [x] → (match asL M x with
      | some ds => match prsD ds with
        | some kvs => ∀ p, M p = none → q (.loc p) (M.upd p (.dic (mergeD [] kvs)))
        | none => False
      | none => False) → ∃ r', CallR X (biV .dict_) r' ∧ r' xs H Q := fun x rs h => by
    obtain ⟨v, rfl, r⟩ := relds1 rs
    cases e : asL M x with
    | none => rw [e] at h; exact h.elim
    | some ds =>
      rw [e] at h
      dsimp only at h
      cases e2 : prsD ds with
      | none => rw [e2] at h; exact h.elim
      | some kvs =>
        rw [e2] at h
        obtain ⟨p, vs, rfl, g1, g2⟩ := rd_L rm r e
        obtain ⟨ps, vks, rfl, h1, h2⟩ := prs_rel rm g2 e2
        refine ⟨_, call_dictP hc, p, ps, vks, rfl, by rw [hK]; exact g1, by rw [hK]; exact h1, fun a ha => ?_⟩
        have nF := rm.freeF ha
        exact cn F _ _ _ _ (Same.refl F) (rm.new (ob := .dic (mergeD [] kvs)) ha ⟨_, upd_same, KVR.merges .nil h2⟩) .loc (h a (rm.freeM ha))
  unfold biW at h
  split at h
  · exact hlen _ rs h
  · obtain ⟨v, rfl, r⟩ := relds1 rs
    cases r
    exact ⟨_, call_int1, .inl ⟨_, rfl, c (.int _) h⟩⟩
  · obtain ⟨v, rfl, r⟩ := relds1 rs
    cases r
    exact ⟨_, call_int1, .inr ⟨_, rfl, c (.int _) h⟩⟩
  · obtain ⟨v, rfl, r⟩ := relds1 rs
    cases r
    obtain ⟨hl, h⟩ := h
    split at h
    · rename_i hn
      exact ⟨_, call_int_str, _, _, rfl, hn, hl, c (.int _) h⟩
    · exact h.elim
  · obtain ⟨v, rfl, r⟩ := relds1 rs
    cases r
    exact ⟨_, call_listS hc, _, rfl, h.1, (newL_ok rm (rel_signs _) cn h.2).2⟩
  · exact hlist _ rs h
  · -- tuple of a tuple
    obtain ⟨v, rfl, r⟩ := relds1 rs
    have hh := r
    obtain ⟨p, vs, rfl, g1, g2⟩ := rd_T rm r
    exact ⟨_, call_tuple_of, p, vs, rfl, .inr ⟨by rw [hK]; exact g1, c hh h⟩⟩
  · exact htup _ rs h
  · obtain ⟨v, rfl, r⟩ := relds1 rs
    cases r
    exact ⟨_, call_str_int, _, rfl, h.1, c (.str _) h.2⟩
  · obtain ⟨v, rfl, r⟩ := relds1 rs
    cases r
    exact ⟨_, call_ord, _, rfl, h.1, c (.int _) h.2⟩
  · obtain ⟨v, rfl, r⟩ := relds1 rs
    cases r
    exact ⟨_, call_abs, _, rfl, c (.int _) h⟩
  · obtain ⟨v, w, rfl, r, r2⟩ := relds2 rs
    cases r; cases r2
    exact ⟨_, call_min2 hc, _, _, rfl, c (.int _) h⟩
  · obtain ⟨v, w, rfl, r, r2⟩ := relds2 rs
    cases r; cases r2
    exact ⟨_, call_max2 hc, _, _, rfl, c (.int _) h⟩
  · obtain ⟨v, w, z, rfl, r, r2, r3⟩ := relds3 rs
    cases r; cases r2; cases r3
    exact ⟨_, call_min3Nu hc, _, _, _, _, rfl, nu_min3 _ _ _, c (.int _) h⟩
  · obtain ⟨v, w, z, rfl, r, r2, r3⟩ := relds3 rs
    cases r; cases r2; cases r3
    exact ⟨_, call_max3Nu hc, _, _, _, _, rfl, nu_max3 _ _ _, c (.int _) h⟩
  · exact hmin _ rs h
  · exact hmax _ rs h
  · exact hsum _ rs h
  · exact hsort _ rs h
  · exact hall _ rs h
  · exact hdict _ rs h
  · exact h.elim

/-! ### isinstance -/
def tyN : Ty → String
  | .int_ => "int" | .bool_ => "bool" | .str_ => "str" | .tuple_ => "tuple" | .list_ => "list" | .dict_ => "dict"
def tyNm : Ty → Str
  | .int_ => "int" | .bool_ => "bool" | .str_ => "str" | .tuple_ => "tuple" | .list_ => "list" | .dict_ => "dict"
theorem ty_boot (t : Ty) : bootBuiltins (tyNm t) = some (.type (tyN t)) := by cases t <;> decide +kernel
theorem ty_no (t : Ty) : tyNm t ≠ "__name__" ∧ (tyNm t == ("__debug__" : Str)) = false := by cases t <;> decide +kernel
theorem isi_all {K : PySem.W.Frag} (hK : K = G.K) (rm : RM G F M H) {t : Ty} {d : D} {v : V} {b : Bool} (r : RelD G F v d) (e : isiB t d M = some b) :
    ∃ n : String, TyX K H v (.type n) ∧ ∀ t b, isiB t d M = some b → PySem.W.kitOne K (.type n) (.type (tyN t)) = some b := by
  subst hK
  cases r with
  | non => exact ⟨_, .base .non, fun t b e => by cases e; exact kit_ty (by cases t <;> decide +kernel)⟩
  | bl x => exact ⟨_, .base (.bl x), fun t b e => by cases e; exact kit_ty (by cases t <;> decide +kernel)⟩
  | int x => exact ⟨_, .base (.int x), fun t b e => by cases e; exact kit_ty (by cases t <;> decide +kernel)⟩
  | str x => exact ⟨_, .base (.str x), fun t b e => by cases e; exact kit_ty (by cases t <;> decide +kernel)⟩
  | tup h1 h2 =>
    have g := same_t rm.fz h1.sq
    refine ⟨"tuple", ?_, fun t b e => by cases e; exact kit_ty (by cases t <;> decide +kernel)⟩
    rcases g with (g | ⟨o, g⟩) | ⟨o, its, n, g, c, _⟩
    · exact .base (.tup g)
    · exact .fTuple g
    · exact .kTuple g c
  | lst h1 h2 => exact ⟨_, .base (.lst (rm.fz _ _ h1)), fun t b e => by cases e; exact kit_ty (by cases t <;> decide +kernel)⟩
  | scr h1 =>
    have g := rm.fz.seq h1
    refine ⟨"list", ?_, fun t b e => by cases e; exact kit_ty (by cases t <;> decide +kernel)⟩
    rcases g with (g | ⟨o, g⟩) | ⟨o, its, n, g, c, _⟩
    · exact .base (.lst g)
    · exact .base (.frz g)
    · exact .kList g c
  | emp h1 => exact ⟨_, .base (.dK (rm.fz _ _ h1)), fun t b e => by cases e; exact kit_ty (by cases t <;> decide +kernel)⟩
  | @loc a =>
    dsimp only [isiB] at e
    cases q : M a with
    | none => rw [q] at e; cases e
    | some ob =>
      rw [q] at e
      cases ob with
      | lst ds =>
        obtain ⟨_, vs, h1, _⟩ := rm.mt a _ q
        exact ⟨_, .base (.lst h1), fun t b e => by dsimp only [isiB] at e; rw [q] at e; cases e; exact kit_ty (by cases t <;> decide +kernel)⟩
      | dic _ =>
        obtain ⟨_, vs, h1, _⟩ := rm.mt a _ q
        exact ⟨_, .base (.dK h1), fun t b e => by dsimp only [isiB] at e; rw [q] at e; cases e; exact kit_ty (by cases t <;> decide +kernel)⟩
      | fdc _ => cases e
      | dtc _ => cases e
      | ins _ _ => cases e
      | obj _ _ => cases e
theorem isi_ok {K : PySem.W.Frag} (hK : K = G.K) (rm : RM G F M H) {t : Ty} {d : D} {v : V} {b : Bool} (r : RelD G F v d) (e : isiB t d M = some b) :
    ∃ n : String, TyX K H v (.type n) ∧ PySem.W.kitOne K (.type n) (.type (tyN t)) = some b := by
  obtain ⟨n, h1, h2⟩ := isi_all hK rm r e
  exact ⟨n, h1, h2 t b e⟩
theorem ist_kit {K : PySem.W.Frag} {n : String} {d : D} (h : ∀ t b, isiB t d M = some b → PySem.W.kitOne K (.type n) (.type (tyN t)) = some b) : ∀ {ts : List Ty} {b : Bool}, istB ts d M = some b → PySem.W.kitAny K (.type n) (ts.map fun t => .type (tyN t)) = some b
  | [], b, e => e
  | t :: ts, b, e => by
    unfold istB at e
    split at e
    · rename_i a c h1 h2
      cases e
      refine kitAny_cons (h t a h1) (fun hb => ?_) fun hb => ?_
      · subst hb
        rw [ist_kit h h2]; rfl
      · subst hb; rfl
    · cases e
theorem ist_ok {K : PySem.W.Frag} (hK : K = G.K) (rm : RM G F M H) {t : Ty} {ts : List Ty} {d : D} {v : V} {b : Bool} (r : RelD G F v d) (e : istB (t :: ts) d M = some b) :
    ∃ n : String, TyX K H v (.type n) ∧ PySem.W.kitAny K (.type n) ((t :: ts).map fun t => .type (tyN t)) = some b := by
  have e2 := e
  unfold istB at e2
  split at e2
  · rename_i a c h1 h2
    obtain ⟨n, h3, h4⟩ := isi_all hK rm r h1
    exact ⟨n, h3, ist_kit h4 e⟩
  · cases e2

/-! ### methods -/
def bmT : Bm → String
  | .append => "list" | .extend => "list" | .index => "list" | .pop => "list" | .reverse_ => "list" | .clear => "list" | .insert => "list"
  | _ => "str"
def bmNm : Bm → Str
  | .append => "append" | .extend => "extend" | .index => "index" | .join => "join" | .pop => "pop" | .reverse_ => "reverse" | .clear => "clear" | .insert => "insert" | .find => "find" | .upper => "upper" | .split => "split" | .partition => "partition"
def liftM (G : Gx) (w : D → List D → Mem → QK → Prop) : V → List V → Hp → VK → Prop := fun v vs H Q => ∃ F M d ds q, RM G F M H ∧ RelD G F v d ∧ RelDs G F vs ds ∧ Cn G F q Q ∧ w d ds M q
theorem rcv_ok {K : PySem.W.Frag} (hK : K = G.K) (rm : RM G F M H) {b : Bm} {d : D} {v : V} (r : RelD G F v d) (h : rcvW b d M) : tyV K (bmT b) v H := by
  subst hK
  have lists : (asL M d).isSome = true → tyV G.K "list" v H := fun h => by
    obtain ⟨ds, e⟩ := Option.isSome_iff_exists.mp h
    obtain ⟨p, vs, rfl, g1, _⟩ := rd_L rm r e
    exact .inl ⟨rfl, vs, g1⟩
  cases b <;> first
    | exact lists h
    | (cases d <;> first | exact (show False from h).elim | (cases r; exact rfl))
/-- a list in the memory and what stands there -/
theorem rd_loc (rm : RM G F M H) {a : Addr} {ds : List D} (q : M a = some (.lst ds)) : ∃ vs, H a = some (.lst vs) ∧ RelDs G F vs ds := (rm.mt a _ q).2
theorem put_ok (rm : RM G F M H) {a : Addr} {ds es : List D} {ws : List V} {q : QK} {Q : VK} {d : D} {v : V} (hq : M a = some (.lst ds)) (rs : RelDs G F ws es) (rd : RelD G F v d) (cn : Cn G F q Q) (h : q d (M.upd a (.lst es))) : Q v (upd H a (.lst ws)) :=
  cn F _ _ _ _ (Same.refl F) (rm.put (ob' := .lst es) hq ⟨ws, upd_same, rs⟩) rd h
theorem first_ok {d : PyData} : ∀ {ps : List PyData} {n j : Nat}, firstOf d ps n = some j → ∃ i z, j = n + i ∧ ps[i]? = some z ∧ PyData.eqv z d = true ∧ ∀ (m : Nat) (z' : PyData), m < i → ps[m]? = some z' → PyData.eqv z' d = false
  | [], _, _, e => by cases e
  | z :: zs, n, j, e => by
    unfold firstOf at e
    by_cases h : PyData.eqv z d = true
    · rw [if_pos h] at e
      cases e
      exact ⟨0, z, rfl, rfl, h, fun m z' hm => absurd hm (Nat.not_lt_zero _)⟩
    · rw [if_neg h] at e
      obtain ⟨i, y, h1, h2, h3, h4⟩ := first_ok e
      refine ⟨i + 1, y, by omega, h2, h3, fun m z' hm hz => ?_⟩
      cases m with
      | zero =>
        have e : z = z' := by simpa using hz
        rw [← e]
        exact Bool.eq_false_iff.mpr h
      | succ m => exact h4 m z' (by omega) hz
end
end Wp

/-! WpS4: when a text is the tree (a check that runs), and that what must hold ahead by the tree is enough for the text: expressions. -/
namespace Wp
open PySem PySem.Spec PyProof.Rows L2

mutual
def eqD : D → D → Bool
  | .non, .non => true
  | .bl a, .bl b => a == b
  | .int a, .int b => decide (a = b)
  | .str a, .str b => decide (a = b)
  | .tup a, .tup b => eqDs a b
  | .lst a, .lst b => eqDs a b
  | _, _ => false
def eqDs : List D → List D → Bool
  | [], [] => true
  | a :: as, b :: bs => eqD a b && eqDs as bs
  | _, _ => false
end
mutual
theorem eqD_eq : ∀ {a b : D}, eqD a b = true → a = b
  | .non, b, h => by cases b <;> first | rfl | cases h
  | .bl x, b, h => by
    cases b with
    | bl y => exact congrArg D.bl (by cases x <;> cases y <;> first | rfl | cases h)
    | _ => cases h
  | .int x, b, h => by
    cases b with
    | int y => exact congrArg D.int (of_decide_eq_true h)
    | _ => cases h
  | .str x, b, h => by
    cases b with
    | str y => exact congrArg D.str (of_decide_eq_true h)
    | _ => cases h
  | .tup x, b, h => by
    cases b with
    | tup y => exact congrArg D.tup (eqDs_eq h)
    | _ => cases h
  | .lst x, b, h => by
    cases b with
    | lst y => exact congrArg D.lst (eqDs_eq h)
    | _ => cases h
  | .scr _, b, h => by cases b <;> cases h
  | .emp, b, h => by cases b <;> cases h
  | .loc _, b, h => by cases b <;> cases h
theorem eqDs_eq : ∀ {a b : List D}, eqDs a b = true → a = b
  | [], b, h => by cases b <;> first | rfl | cases h
  | x :: xs, b, h => by
    cases b with
    | nil => cases h
    | cons y ys =>
      have h : (eqD x y && eqDs xs ys) = true := h
      rw [Bool.and_eq_true] at h
      rw [eqD_eq h.1, eqDs_eq h.2]
end

/-- a law's table: the defs' names by number, how many parameters each has, the module's constants, the names that are built in -/
structure Tb where
  nm : Nat → Option Str
  ar : Nat → Nat
  cs : List (Str × D)
  bn : List Str
  -- classes of exceptions by number; the field that a class's own __init__ writes
  xc : List (Nat × Str) := []
  xr : List (Nat × Str) := []
  -- classes without an own __init__ that are made
  xo : List Nat := []
  -- classes whose __init__ writes at and side
  xb : List Nat := []
  -- methods by number: the class, the name; own classes by number; the names of fields
  me : Nat → Option (Nat × Str) := fun _ => none
  oc : List (Nat × Str) := []
  of : List Str := []
  -- no suite of an except clause
  hot : Bool := true
/-- what may stand in an except suite -/
def Tb.cold (tb : Tb) : Tb := { tb with nm := fun _ => none, bn := tb.bn.filter fun x => x == "isinstance" || x == "ValueError", xr := [], xo := [], xb := [], me := fun _ => none, oc := [], hot := false }

def visB (sc : Scope) (x : Str) : Bool := match sc.names.lookup x with
  | some .local => true
  | some .cell => true
  | some .free => true
  | _ => false
def okB (x : Str) : Bool := !(x == ("__debug__" : Str)) && !(x == ("__classdict__" : Str))
def glB (sc : Scope) (x : Str) : Bool := decide (sc.names.lookup x = some .globalImplicit) && okB x
def bnB (tb : Tb) (sc : Scope) (x : Str) : Bool := glB sc x && tb.bn.any fun y => decide (y = x)
def noStar : Expr → Bool
  | .Starred _ _ => false
  | _ => true
def noSlice : Expr → Bool
  | .Slice _ _ _ _ => false
  | _ => true
def plainT : Expr → Bool
  | .UnaryOp .Not _ _ => false
  | .BoolOp _ _ _ => false
  | .IfExp _ _ _ _ => false
  | .Compare _ _ _ _ => false
  | _ => true
def plainO : Expr → Bool
  | .Call (.Name id _) [] [] _ => !(id == "super")
  | _ => true
/-- a def's names: their cells were made at its entry -/
def allN : Str → Bool := fun _ => true
/-- a target -/
def locB (sc : Scope) (top : Str → Bool) (x : Str) : Bool := match sc.names.lookup x with
  | some .local => true
  | some .cell => top x
  | _ => false
mutual
def chkG (N : List Str) (sc : Scope) (top : Str → Bool) : Tg → Expr → Bool
  | .nm i, x0 => match x0 with
    | .Name x _ => decide (N[i]? = some x) && locB sc top x
    | _ => false
  | .no, x0 => match x0 with
    | .Tuple [] _ _ => true
    | _ => false
  | .co t ts, x0 => match x0 with
    | .Tuple (e :: es) _ _ => chkG N sc top t e && noStar e && chkGs N sc top ts es
    | _ => false
def chkGs (N : List Str) (sc : Scope) (top : Str → Bool) : Tg → List Expr → Bool
  | .no, x0 => match x0 with
    | [] => true
    | _ => false
  | .co t ts, x0 => match x0 with
    | e :: es => chkG N sc top t e && noStar e && chkGs N sc top ts es
    | _ => false
  | .nm _, _ => false
end
def isTupT : Expr → Bool
  | .Tuple _ _ _ => true
  | _ => false
def isNmT : Expr → Bool
  | .Name _ _ => true
  | _ => false
def noSet : Expr → Bool
  | .Set _ _ _ => false
  | _ => true
/-- written keys -/
def keyB : Sum Int Str → Option Expr → Bool
  | .inl i, x0 => match x0 with
    | some (.Constant (.int j) _ _) => decide (i = j)
    | _ => false
  | .inr s, x0 => match x0 with
    | some (.Constant (.str t) _ _) => decide (s = t)
    | _ => false
def chkK : List (Sum Int Str) → List (Option Expr) → Bool
  | [], [] => true
  | k :: ks, e :: es => keyB k e && chkK ks es
  | _, _ => false
def slots : Tg → List Nat
  | .nm i => [i]
  | .no => []
  | .co t ts => slots t ++ slots ts
def ownOf (N : List Str) (own : List Nat) : List (Str × Nat) := own.map fun i => (N.getD i "", i)

/-- a class by its name; 0: ValueError -/
def xnB (tb : Tb) (sc : Scope) (c : Nat) (y : Str) : Bool := (decide (c = 0) && decide (y = "ValueError") && bnB tb sc y) || ((tb.xc.any fun p => decide (p = (c, y))) && glB sc y)
/-- own classes, name by name -/
def chkC (tb : Tb) (sc : Scope) : List Nat → List Expr → Bool
  | [], [] => true
  | c :: cs, .Name y _ :: es => (tb.xc.any fun p => decide (p = (c, y))) && glB sc y && chkC tb sc cs es
  | _, _ => false
def tyNm4 : Ty → Str
  | .int_ => "int" | .bool_ => "bool" | .str_ => "str" | .tuple_ => "tuple" | .list_ => "list" | .dict_ => "dict"
def chkTy (tb : Tb) (sc : Scope) : List Ty → List Expr → Bool
  | [], [] => true
  | t :: ts, .Name y _ :: es => decide (tyNm4 t = y) && bnB tb sc y && chkTy tb sc ts es
  | _, _ => false
def chkFn (tb : Tb) (sc : Scope) : List Nat → List Expr → Bool
  | [], [] => true
  | f :: fs, .Name y _ :: es => decide (tb.nm f = some y) && glB sc y && chkFn tb sc fs es
  | _, _ => false
def fldN (f : Str) : Bool := decide (f = "at") || decide (f = "side")
section
variable (tb : Tb) (N : List Str)
mutual
/-- the text e is the tree -/
def chkE : Ex → Scope → Expr → Bool
  | .var i, sc, x0 => match x0 with
    | .Name x _ => decide (N[i]? = some x) && visB sc x && okB x
    | _ => false
  | .non, _, x0 => match x0 with
    | .Constant .none _ _ => true
    | _ => false
  | .bl b, _, x0 => match x0 with
    | .Constant (.bool c) _ _ => b == c
    | _ => false
  | .int i, _, x0 => match x0 with
    | .Constant (.int j) _ _ => decide (i = j)
    | _ => false
  | .str x, _, x0 => match x0 with
    | .Constant (.str y) _ _ => decide (x = y)
    | _ => false
  | .glob x d, sc, x0 => match x0 with
    | .Name y _ => decide (x = y) && glB sc y && tb.cs.any fun p => decide (p.1 = x) && eqD p.2 d
    | _ => false
  | .bin op _ a b, sc, x0 => match x0 with
    | .BinOp a' op' b' _ => decide (op = op') && chkE a sc a' && chkE b sc b'
    | _ => false
  | .neg a, sc, x0 => match x0 with
    | .UnaryOp .USub a' _ => chkE a sc a'
    | _ => false
  | .not a, sc, x0 => match x0 with
    | .UnaryOp .Not a' _ => chkE a sc a'
    | _ => false
  | .and a b, sc, x0 => match x0 with
    | .BoolOp .And (a' :: b' :: r) pos => chkE a sc a' && match r with
      | [] => chkE b sc b'
      | c' :: r' => chkE b sc (.BoolOp .And (b' :: c' :: r') pos)
    | _ => false
  | .or a b, sc, x0 => match x0 with
    | .BoolOp .Or (a' :: b' :: r) pos => chkE a sc a' && match r with
      | [] => chkE b sc b'
      | c' :: r' => chkE b sc (.BoolOp .Or (b' :: c' :: r') pos)
    | _ => false
  | .cmp op a b, sc, x0 => match x0 with
    | .Compare a' [op'] [b'] _ => decide (op = op') && chkE a sc a' && chkE b sc b' && noSet b'
    | _ => false
  | .ch2 o1 o2 a b c, sc, x0 => match x0 with
    | .Compare a' [p1, p2] [b', c'] _ => decide (o1 = p1) && decide (o2 = p2) && chkE a sc a' && chkE b sc b' && chkE c sc c' && noSet c'
    | _ => false
  | .ch3 o1 o2 o3 a b c d, sc, x0 => match x0 with
    | .Compare a' [p1, p2, p3] [b', c', d'] _ => decide (o1 = p1) && decide (o2 = p2) && decide (o3 = p3) && chkE a sc a' && chkE b sc b' && chkE c sc c' && chkE d sc d' && noSet d'
    | _ => false
  | .ife t a b, sc, x0 => match x0 with
    | .IfExp t' a' b' _ => chkE t sc t' && chkE a sc a' && chkE b sc b'
    | _ => false
  | .tup es, sc, x0 => match x0 with
    | .Tuple es' _ _ => chkA es sc es'
    | _ => false
  | .lst _ es, sc, x0 => match x0 with
    | .List es' _ => chkA es sc es'
    | _ => false
  | .emp, _, x0 => match x0 with
    | .Dict [] [] _ => true
    | _ => false
  | .dnt, _, x0 => match x0 with
    | .Dict [] [] _ => true
    | _ => false
  | .dct ks es, sc, x0 => match x0 with
    | .Dict [] [] _ => decide (ks.length = 0) && chkA es sc []
    | .Dict keys values _ => chkK ks keys && chkA es sc values && decide (0 < ks.length) && decide (ks.length ≤ 15) && decide (values.length = ks.length)
    | _ => false
  | .dget a i, sc, x0 => match x0 with
    | .Subscript a' i' _ => chkE a sc a' && chkE i sc i' && noSlice i'
    | _ => false
  | .call f es, sc, x0 => match x0 with
    | .Call (.Name x _) (e :: es') [] _ => decide (tb.nm f = some x) && glB sc x && chkA es sc (e :: es')
    | _ => false
  | .cll fs i es, sc, x0 => match x0 with
    | .Call (.Subscript (.List ns _) i' _) (e :: es') [] _ => chkFn tb sc fs ns && decide (fs.length ≤ 20) && decide (0 < fs.length) && chkE i sc i' && noSlice i' && chkA es sc (e :: es')
    | _ => false
  | .bi b _ es, sc, x0 => match x0 with
    | .Call (.Name x _) (e :: es') [] _ => decide (biNm b = x) && bnB tb sc x && chkA es sc (e :: es')
    | _ => false
  | .isi a t, sc, x0 => match x0 with
    | .Call (.Name x _) [a', .Name y _] [] _ => decide (x = "isinstance") && bnB tb sc x && chkE a sc a' && noStar a' && decide (tyNm t = y) && bnB tb sc y
    | _ => false
  | .ist a ts, sc, x0 => match x0 with
    | .Call (.Name x _) [a', .Tuple es _ _] [] _ => decide (x = "isinstance") && bnB tb sc x && chkE a sc a' && noStar a' && chkTy tb sc ts es && decide (ts.length ≤ 20) && decide (0 < ts.length)
    | _ => false
  | .dgt d k, sc, x0 => match x0 with
    | .Call (.Attribute o' m ap) [k'] [] cp => decide (m = "get") && (ap.endLine == cp.line) && chkE d sc o' && plainO o' && chkE k sc k' && noStar k'
    | _ => false
  | .isx a c, sc, x0 => match x0 with
    | .Call (.Name x _) [a', .Name y _] [] _ => decide (x = "isinstance") && bnB tb sc x && chkE a sc a' && noStar a' && xnB tb sc c y
    | _ => false
  | .ixs a cs, sc, x0 => match x0 with
    | .Call (.Name x _) [a', .Tuple es _ _] [] _ => decide (x = "isinstance") && bnB tb sc x && chkE a sc a' && noStar a' && chkC tb sc cs es && decide (cs.length ≤ 20)
    | _ => false
  | .atr a f, sc, x0 => match x0 with
    | .Attribute a' n _ => decide (f = n) && chkE a sc a' && plainO a' && fldN f
    | _ => false
  | .fld a f, sc, x0 => match x0 with
    | .Attribute a' n _ => decide (f = n) && chkE a sc a' && plainO a' && tb.of.any fun g => decide (g = f)
    | _ => false
  | .mth o c m f es, sc, x0 => match x0 with
    | .Call (.Attribute o' m' ap) es' [] cp => decide (m = m') && (ap.endLine == cp.line) && chkE o sc o' && plainO o' && chkA es sc es' && decide (es'.length < 20) && decide (tb.me f = some (c, m))
    | _ => false
  | .mk c f es, sc, x0 => match x0 with
    | .Call (.Name x _) es' [] _ => (tb.oc.any fun p => decide (p = (c, x))) && glB sc x && decide (tb.me f = some (c, ("__init__" : Str))) && chkA es sc es'
    | _ => false
  | .bm b _ o es, sc, x0 => match x0 with
    | .Call (.Attribute o' m ap) es' [] cp => decide (bmNm b = m) && (ap.endLine == cp.line) && chkE o sc o' && plainO o' && chkA es sc es' && decide (es'.length < 20)
    | _ => false
  | .idx a i, sc, x0 => match x0 with
    | .Subscript a' i' _ => chkE a sc a' && chkE i sc i' && noSlice i'
    | _ => false
  | .sli _ a lo hi, sc, x0 => match x0 with
    | .Subscript a' (.Slice lo' hi' none _) _ => chkE a sc a' && chkP lo sc lo' && chkP hi sc hi'
    | _ => false
  | .rev _ a, sc, x0 => match x0 with
    | .Subscript a' (.Slice none none (some (.UnaryOp .USub (.Constant (.int 1) _ _) _)) _) _ => chkE a sc a'
    | _ => false
  | .lrg _ es, sc, x0 => match x0 with
    | .Call (.Name x _) [.Call (.Name y _) (e :: es') [] _] [] _ => decide (x = "list") && bnB tb sc x && decide (y = "range") && bnB tb sc y && chkA es sc (e :: es')
    | _ => false
  | .lrv _ a, sc, x0 => match x0 with
    | .Call (.Name x _) [.Call (.Name y _) [a'] [] _] [] _ => decide (x = "list") && bnB tb sc x && decide (y = "reversed") && bnB tb sc y && chkE a sc a' && noStar a'
    | _ => false
  | .mtv o m cs es, sc, x0 => match x0 with
    | .Call (.Attribute o' m' ap) es' [] cp => decide (m = m') && (ap.endLine == cp.line) && chkE o sc o' && plainO o' && chkA es sc es' && decide (es'.length < 20) && cs.all fun p => decide (tb.me p.2 = some (p.1, m))
    | _ => false
  | .dg2 d k z, sc, x0 => match x0 with
    | .Call (.Attribute o' m ap) [k', z'] [] cp => decide (m = "get") && (ap.endLine == cp.line) && chkE d sc o' && plainO o' && chkE k sc k' && noStar k' && chkE z sc z' && noStar z'
    | _ => false
  | .nev, _, x0 => match x0 with
    | .ListComp _ _ _ _ => false
    | e => plainT e
  | .comp _ own tg iter cond elt, sc, x0 => match x0 with
    | .ListComp elt' [⟨tg', iter', ifs', 0⟩] scope _ => blkC N sc scope (ownOf N own) && chkW iter sc tg' iter' && chkG N (relS scope sc) (fun x => scope.names.lookup x == some .cell) tg tg' && ((slots tg).all fun i => own.any fun j => i == j) && chkF cond (relS scope sc) ifs' && chkE elt (relS scope sc) elt' && (noSet iter' && tb.hot)
    | _ => false
  | _, _, _ => false
def chkA : Ex → Scope → List Expr → Bool
  | .nil, _, x0 => match x0 with
    | [] => true
    | _ => false
  | .cons e es, sc, x0 => match x0 with
    | e' :: es' => chkE e sc e' && noStar e' && chkA es sc es'
    | _ => false
  | _, _, _ => false
def chkP : Ex → Scope → Option Expr → Bool
  | .nopart, _, x0 => match x0 with
    | none => true
    | _ => false
  | .part e, sc, x0 => match x0 with
    | some e' => chkE e sc e'
    | _ => false
  | _, _, _ => false
def chkF : Ex → Scope → List Expr → Bool
  | .nopart, _, x0 => match x0 with
    | [] => true
    | _ => false
  | .part e, sc, x0 => match x0 with
    | [e'] => chkE e sc e'
    | _ => false
  | _, _, _ => false
/-- what is walked; tp: the target -/
def chkW : Ex → Scope → Expr → Expr → Bool
  | .itl e, sc, _, e' => chkE e sc e'
  | .itt e, sc, _, e' => chkE e sc e'
  | .itd e, sc, _, e' => chkE e sc e'
  | .its e, sc, _, e' => chkE e sc e'
  | .it1 a, sc, _, x0 => match x0 with
    | .Call (.Name x _) [a'] [] _ => decide (x = "range") && bnB tb sc x && chkE a sc a' && noStar a'
    | _ => false
  | .it2 a b, sc, _, x0 => match x0 with
    | .Call (.Name x _) [a', b'] [] _ => decide (x = "range") && bnB tb sc x && chkE a sc a' && noStar a' && chkE b sc b' && noStar b'
    | _ => false
  | .it3 a b c, sc, _, x0 => match x0 with
    | .Call (.Name x _) [a', b', c'] [] _ => decide (x = "range") && bnB tb sc x && chkE a sc a' && noStar a' && chkE b sc b' && noStar b' && chkE c sc c' && noStar c'
    | _ => false
  | .ite e, sc, tp, x0 => match x0 with
    | .Call (.Name x _) [e'] [] _ => isTupT tp && decide (x = "enumerate") && bnB tb sc x && chkE e sc e' && noStar e'
    | _ => false
  | .itn e, sc, tp, x0 => match x0 with
    | .Call (.Name x _) [e'] [] _ => isNmT tp && decide (x = "enumerate") && bnB tb sc x && chkE e sc e' && noStar e'
    | _ => false
  | .itr e, sc, _, x0 => match x0 with
    | .Call (.Name x _) [e'] [] _ => decide (x = "reversed") && bnB tb sc x && chkE e sc e' && noStar e'
    | _ => false
  | .itz a b, sc, tp, x0 => match x0 with
    | .Call (.Name x _) [a', b'] [] _ => isTupT tp && decide (x = "zip") && bnB tb sc x && chkE a sc a' && noStar a' && chkE b sc b' && noStar b'
    | _ => false
  | _, _, _, _ => false
end
end
end Wp

/-! WpIt: enumerate(tuple). -/
namespace Wp
open PySem PySem.Spec PyProof.Rows L2
/-- the tuple at a, each item in a new pair -/
def IteT (K : PySem.W.Frag) (a : Addr) : It :=
  ⟨fun i H => ∃ (xs : List V) (x : V), SqT K H a xs ∧ xs[i]? = some x, fun i H v H' => ∃ T x, v = .ref T ∧ H T = none ∧ H' = upd H T (.tup [.int (i : Nat), x]) ∧ ∀ xs, SqT K H a xs → xs[i]? = some x, fun i H => ∃ xs : List V, SqT K H a xs ∧ xs.length ≤ i⟩
theorem tup_ne {h : Heap} {a it : Addr} {i : Nat} {items : Array Value} (hit : h.IsTupleIter it a i) (p : h.IsTuple a items) : a ≠ it := by
  rintro rfl
  obtain ⟨o, ho, hc, _⟩ := hit
  obtain ⟨o2, ho2, hc2, _⟩ := p
  rw [ho] at ho2
  cases ho2
  rw [hc] at hc2
  injection hc2 with z
  exact absurd z (by decide)
theorem enum_ne {h : Heap} {a e it : Addr} {i : Int} {old : Value} {items : Array Value} (he : IsEnum h e it i old) (p : h.IsTuple a items) : e ≠ a := by
  rintro rfl
  obtain ⟨o2, ho2, hc2, _⟩ := p
  have he : h.get? e = some _ := he
  rw [he] at ho2
  cases ho2
  injection hc2 with z
  exact absurd z (by decide)
theorem turn_enumT {P : Program} {w : World} {K : PySem.W.Frag} {elts : List Expr} {kk : Nat} {tpos : Pos} (a e it : Addr) :
    Turn P w K (.Tuple elts kk tpos) (IteT K a) [e, it] e (fun i h => (∃ old, IsEnum h e it ((i : Nat) : Int) old) ∧ h.IsTupleIter it a i ∧ e ≠ it) where
  mem := by simp
  obj := fun i h st b hb => by
    obtain ⟨⟨old, he⟩, ⟨o, ho, hc, hd⟩, _⟩ := st
    have e' : b = e ∨ b = it := by simpa using hb
    rcases e' with z | z
    · rw [z]; exact ⟨_, he, fun v q => nomatch q⟩
    · rw [z]; exact ⟨o, ho, fun v q => by rw [hd] at q; cases q⟩
  keep := fun i h h' st k => let ⟨⟨old, he⟩, hi, hne⟩ := st; ⟨⟨old, k e (by simp) _ he⟩, hi.at fun o q => k it (by simp) o q, hne⟩
  item := by
    intro X hP hw hK hc i pins s σ H E I hf st hg
    subst hP hw hK
    obtain ⟨⟨old, he⟩, hit, hne⟩ := st
    obtain ⟨xs, x, hq, hx⟩ := hg
    obtain ⟨its, rv, p, hz⟩ := I.tuple hq
    obtain ⟨u, hu, ru⟩ := rv.get hx
    have hel : e < s.heap.objs.size := Heap.lt_size he
    have hil : it < s.heap.objs.size := by obtain ⟨_, q, _⟩ := hit; exact Heap.lt_size q
    have hai := tup_ne hit p
    have hea := enum_ne he p
    have D := Draws.tuple (prog := X.prog) (w := X.w) (A := X.A.in1) (show X.A.in1.handled = none from I.ok.hd hc) it a hai its.toArray
    have hlt : i < its.toArray.size := by
      have := (List.getElem?_eq_some_iff.mp hu).1
      simpa using this
    refine wpAny_pyNext_enum_itemD D he ⟨hit, p⟩ hlt hne (by simp [hne, hea]) fun x' h' tk hPx ho st' hT hsz hk => ?_
    have ex : x' = u := by
      have q1 : its.toArray[i]? = some x' := hPx
      have q2 : its.toArray[i]? = some u := by simpa using hu
      rw [q1] at q2
      cases q2; rfl
    subst ex
    have hit' := st'.1
    refine ⟨_, rfl, wpAny_letOwnedTupleGo_enum (s := { s with heap := h', toks := tk + 1 }) ho fun h'' he' sb => ?_⟩
    have hT2 : h''.get? s.heap.objs.size = some { cls := .type "tuple", data := .seq #[.int i tk, x'] } := (sb.2 _ (Nat.ne_of_gt hel)).trans hT
    have new : ObjOk X.prog X.w (upd H s.heap.objs.size (.tup [.int (i : Nat), x])) h'' s.heap.objs.size (.tup [.int (i : Nat), x]) :=
      ⟨by show 2 ≤ sizeLine; decide, [.int i tk, x'], .cons ⟨_, rfl⟩ (.cons ru .nil), ⟨_, hT2, rfl, _, rfl⟩⟩
    have I1 : Inv X pins σ (upd H s.heap.objs.size (.tup [.int (i : Nat), x])) { s with heap := h'', toks := tk + 1 } :=
      I.turnedNew (ch := [e, it]) (fun b ob hb q => (sb.2 b (fun z => hb (by simp [z]))).trans (hk b ob (fun z => hb (by simp [z])) (fun z => hb (by simp [z])) q)) hf (Nat.le_refl _) new
    refine ⟨.ref s.heap.objs.size, _, I1, rfl, ⟨_, x, rfl, I.hok.fresh (Nat.le_refl _), rfl, fun ys hy => by rw [I.tuple_inj hy hq]; exact hx⟩, ⟨⟨x', ?_⟩, hit'.at fun o q => (sb.2 it (Ne.symm hne)).trans q, hne⟩, fun b hb => ?_⟩
    · have e1 : ((i + 1 : Nat) : Int) = (i : Int) + 1 := by omega
      rw [e1]; exact he'
    · have hb' : b < s.heap.objs.size := by
        have e' : b = e ∨ b = it := by simpa using hb
        rcases e' with z | z
        · rw [z]; exact hel
        · rw [z]; exact hil
      rw [upd_ne (Nat.ne_of_lt hb')]
      exact (hf b hb).1
  done := by
    intro X hP hw hK hc i pins s σ H E I hf st hg
    subst hP hw hK
    obtain ⟨⟨old, he⟩, hit, hne⟩ := st
    obtain ⟨xs, hq, hx⟩ := hg
    obtain ⟨its, rv, p, hz⟩ := I.tuple hq
    obtain ⟨f0, f1, f2, f3, f4, f5⟩ := hf it (by simp)
    have hl := rv.length
    have hT : s.TypeIs (.ref e) "enumerate" := ⟨_, he, rfl⟩
    unfold pyNext
    refine wpAny_bind (wpAny_attempt (wpAny_callSpecial?_slot (name := Str.ofString "__next__") hT F.slot_enumerate_next
      (wpAny_call_entry F.slot_enumerate_next hT F.entry_enumerate_next ?_ (F.args_enumerate_next_1 _))))
    show wpAny _ _ (field (.ref e) 2 >>= _) _ _ _
    refine wpAny_bind (wpAny_field he rfl (x := .ref it) rfl ?_)
    refine wpAny_bind (wpAny_nextOf_tuple_end (show X.A.in1.in1.handled = none from I.ok.hd hc) hit p (by simp; omega) fun h' z eb hz' => ?_)
    obtain ⟨o, ho, hcl⟩ := hz'
    refine wpAny_bind (wpAny_isInstance (T := "StopIteration") (b := true) ⟨o, ho, hcl⟩ isSubtype_stop ?_)
    exact wpAny_pure ⟨rfl, I.turned (t' := s.toks) (fun b o hb q => eb b o hb q) f0 f1 f3 f4 f5⟩
  self := fun A i s Q E st h => let ⟨⟨_, he⟩, _⟩ := st; wpAny_pyIter_enum he h
open Sem (wp)
set_option maxHeartbeats 1000000 in
theorem meets_enumT (t : Addr) (items : Array Value) :
    Meets (Builtin.«enumerate.__new__» ⟨[.type "enumerate", .ref t], []⟩) (fun _ R s => s.heap.IsTuple t items ∧
      R (.ok (.ret (.ref (s.heap.push { cls := .type "tuple_iterator", data := .fields #[.ref t, .int 0 0] }).objs.size)))
        { s with heap := (s.heap.push { cls := .type "tuple_iterator", data := .fields #[.ref t, .int 0 0] }).push { cls := .type "enumerate", data := .fields #[.none, .bool false, .ref s.heap.objs.size, rawInt 0, .none, .none] } }) :=
  .of_wp fun prog w A R s h => by
    obtain ⟨hp, g, d, tk, os⟩ := s; obtain ⟨h1, h⟩ := h
    have hsub := sub_enumerate
    have q1 : ∀ {A' : Around} {E : Value → Shared → Prop} {Q : Value → Shared → Prop}, Q (.ref hp.objs.size) ⟨hp.push { cls := .type "tuple_iterator", data := .fields #[.ref t, .int 0 0] }, g, d, tk, os⟩ → PySem.wpAny (model prog w) A' (pyIter (.ref t)) Q E ⟨hp, g, d, tk, os⟩ :=
      fun q => wpAny_pyIter_tuple (s := ⟨hp, g, d, tk, os⟩) h1 q
    wp_walk using q1
    refine wpAny_stack_any fun st => wpAny_pure ?_
    split
    · rename_i c _ _ _ _ _
      cases (c == Value.type "enumerate")
      · wp_walk using q1
        exact ⟨_, rfl, h⟩
      · wp_walk using q1
        exact ⟨_, rfl, h⟩
    · wp_walk using q1
      exact ⟨_, rfl, h⟩
theorem call_enumT {prog : Program} {w : World} {A : Around} {E : Value → Shared → Prop} {s : Shared} {t : Addr} {items : Array Value} {Q : Value → Shared → Prop} (hL : s.heap.IsTuple t items)
    (h : ∀ h', IsEnum h' (s.heap.objs.size + 1) s.heap.objs.size 0 .none → h'.IsTupleIter s.heap.objs.size t 0 → h'.objs.size = s.heap.objs.size + 2 →
      (∀ b o, s.heap.get? b = some o → h'.get? b = some o) → Q (.ref (s.heap.objs.size + 1)) { s with heap := h' }) :
    wpAny (model prog w) A (call (.type "enumerate") [.ref t]) Q E s := by
  refine callType_new F.called_enumerate (by decide) (F.typeCall_enumerate_1 _) (F.newCall_enumerate_1 _) (fun obj => F.args_object_init_2 obj _) F.entry_enumerate_new
    (meets_enumT t items) ⟨hL, ?_⟩
  have hz : (s.heap.push { cls := .type "tuple_iterator", data := .fields #[.ref t, .int 0 0] }).objs.size = s.heap.objs.size + 1 := Heap.size_push ..
  show _ ∧ _
  rw [hz]
  have he : IsEnum ((s.heap.push { cls := .type "tuple_iterator", data := .fields #[.ref t, .int 0 0] }).push
      { cls := .type "enumerate", data := .fields #[.none, .bool false, .ref s.heap.objs.size, rawInt 0, .none, .none] }) (s.heap.objs.size + 1) s.heap.objs.size 0 .none := by
    have := Heap.get?_push_size (s.heap.push { cls := .type "tuple_iterator", data := .fields #[.ref t, .int 0 0] })
      (o := { cls := .type "enumerate", data := .fields #[.none, .bool false, .ref s.heap.objs.size, rawInt 0, .none, .none] }) rfl
    rw [hz] at this; exact this
  refine ⟨⟨_, he, rfl⟩, h _ he ⟨_, Heap.get?_push_of_some _ (Heap.get?_push_size _ rfl), rfl, rfl⟩ (by rw [Heap.size_push, hz]) fun b o x => Heap.get?_push_of_some _ (Heap.get?_push_of_some _ x)⟩
def iEnumA (K : PySem.W.Frag) (ta : TA) : TI := fun σ H R => ta σ H fun vs H1 => ∃ a xs, vs = [.ref a] ∧ ((SqL K H1 a xs ∧ R (Ite K a) H1) ∨ (SqT K H1 a xs ∧ R (IteT K a) H1))
theorem pi_enumA {X : Cx} {e : Expr} {ta : TA} {p pos tpos : Pos} {elts : List Expr} {kk : Nat} (hg : Gl X "enumerate") (hm : X.mg "enumerate" = none) (ha : PA X [e] ta) (hs : starEach [e] X.env = [(false, eval e X.env)]) :
    PI X (.Tuple elts kk tpos) (.Call (.Name "enumerate" p) [e] [] pos) (iEnumA X.K ta) := by
  refine ⟨fun pins s σ H R I h => ?_⟩
  refine Call_ (ld_blt I hg hm boot_enumerate (PyProof.Rows.callWith_type1 (thn (ha.run pos pins s σ H _ I h) fun us s1 ⟨vs, H1, I1, r1, q1⟩ => ?_) hs rfl))
  obtain ⟨a, xs, ex, q⟩ := q1
  subst ex
  cases r1 with
  | cons r rr =>
    cases rr
    cases r
    have fresh : ∀ b ∈ [s1.heap.objs.size + 1, s1.heap.objs.size], s1.heap.objs.size ≤ b := fun b hb => by
      have e' : b = s1.heap.objs.size + 1 ∨ b = s1.heap.objs.size := by simpa using hb
      rcases e' with z | z
      · rw [z]; exact Nat.le_add_right _ _
      · rw [z]; exact Nat.le_refl _
    rcases q with ⟨hq, q⟩ | ⟨hq, q⟩
    · obtain ⟨its, rv, p', hz⟩ := I1.list hq
      refine call_enumerate_list p'.isList fun h' he hit hsz hk => wpAny_pyIter_enum he ?_
      have I2 : Inv X pins σ H1 { s1 with heap := h' } := I1.kept (t' := s1.toks) hk
      exact ⟨s1.heap.objs.size + 1, [s1.heap.objs.size + 1, s1.heap.objs.size], _, _, H1, rfl, I2, turn_enum a (s1.heap.objs.size + 1) s1.heap.objs.size, ⟨⟨.none, he⟩, hit, Nat.succ_ne_self _⟩, fun b hb => I1.fpOk (fresh b hb) (I1.hok.fresh (fresh b hb)), q⟩
    · obtain ⟨its, rv, p', hz⟩ := I1.tuple hq
      refine call_enumT p' fun h' he hit hsz hk => wpAny_pyIter_enum he ?_
      have I2 : Inv X pins σ H1 { s1 with heap := h' } := I1.kept (t' := s1.toks) hk
      exact ⟨s1.heap.objs.size + 1, [s1.heap.objs.size + 1, s1.heap.objs.size], _, _, H1, rfl, I2, turn_enumT a (s1.heap.objs.size + 1) s1.heap.objs.size, ⟨⟨.none, he⟩, hit, Nat.succ_ne_self _⟩, fun b hb => I1.fpOk (fresh b hb) (I1.hok.fresh (fresh b hb)), q⟩
end Wp

/-! WpIt2: enumerate, its pairs bound to one name (the iterator's own pair may be out). -/
namespace Wp
open PySem PySem.Spec PyProof.Rows L2
theorem alive_any {M : Model} {A : Around} {E : Value → Shared → Prop} {s : Shared} {a : Addr} {Q : Option Obj → Shared → Prop} (h : Q (s.heap.get? a) s) : wpAny M A (loadIfAlive a) Q E s := by
  intro Γ p _
  exact h
/-- an enumerate object; its own pair: none, or one that was handed out -/
def EnA (h : Heap) (e it : Addr) (c : Int) : Prop := ∃ (o : Value) (f : Bool) (old : Value), (o = .none ∨ ∃ T : Addr, o = rawInt T) ∧
  h.get? e = some { cls := .type "enumerate", dict := none, data := .fields #[o, .bool f, .ref it, rawInt c, .none, old], slots := #[] }
section
variable {prog : Program} {w : World} {A : Around} {E : Value → Shared → Prop} {s : Shared}
/-- whether it is free: the record may be marked -/
theorem free_en {e it : Addr} {c : Int} {o old : Value} {f : Bool} {Q : Bool → Shared → Prop} (ho : o = .none ∨ ∃ T : Addr, o = rawInt T)
    (he : s.heap.get? e = some { cls := .type "enumerate", dict := none, data := .fields #[o, .bool f, .ref it, rawInt c, .none, old], slots := #[] })
    (h : ∀ h' b f', h'.get? e = some { cls := .type "enumerate", dict := none, data := .fields #[o, .bool f', .ref it, rawInt c, .none, old], slots := #[] } → Heap.SameBut e s.heap h' → Q b { s with heap := h' }) :
    wpAny (model prog w) A (Builtin.SmallTypes.ownedTupleIsFree (.ref e)) Q E s := by
  unfold Builtin.SmallTypes.ownedTupleIsFree
  rcases ho with rfl | ⟨T, rfl⟩
  · exact wpAny_bind (wpAny_field he rfl (x := .none) rfl (wpAny_pure (h s.heap true f he (Heap.SameBut.refl _ _))))
  · refine wpAny_bind (wpAny_field he rfl (x := rawInt T) rfl ?_)
    show wpAny _ _ (loadIfAlive ((T : Int).toNat) >>= _) _ _ _
    refine wpAny_bind (alive_any ?_)
    cases hq : (s.heap.get? (T : Int).toNat).isNone with
    | true =>
      simp only [if_true]
      exact wpAny_pure (h s.heap true f he (Heap.SameBut.refl _ _))
    | false =>
      simp only [Bool.false_eq_true, if_false]
      refine wpAny_bind (wpAny_field he rfl (x := .bool f) rfl ?_)
      cases f with
      | true =>
        rw [if_neg (show ¬ ((Value.bool true != Value.bool true) = true) from Bool.false_ne_true)]
        exact wpAny_pure (h s.heap false true he (Heap.SameBut.refl _ _))
      | false =>
        rw [if_pos (show (Value.bool false != Value.bool true) = true from rfl)]
        exact wpAny_bind (wpAny_setField_rec he (by simp) fun h1 e1 s1 => wpAny_pure (h h1 false true e1 s1))
/-- the next pair, in a new tuple -/
theorem en_next {e it : Addr} {fp : List Addr} {n i : Nat} {c : Int} {P : Nat → Value → Prop} {St : Nat → Heap → Prop} {Q : Option Value → Shared → Prop}
    (D : Draws prog w A.in1 it fp n P St) (he : EnA s.heap e it c) (hst : St i s.heap) (hlt : i < n) (hne : e ≠ it) (hef : e ∉ fp)
    (hQ : ∀ x h' tk, P i x → EnA h' e it (c + 1) → St (i + 1) h' → h'.get? s.heap.objs.size = some { cls := .type "tuple", data := .seq #[.int c tk, x] } →
      (∀ b o, b ≠ e → b ≠ it → s.heap.get? b = some o → h'.get? b = some o) → Q (some (.ref s.heap.objs.size)) { s with heap := h', toks := tk + 1 }) :
    wpAny (model prog w) A (pyNext (.ref e)) Q E s := by
  obtain ⟨o, f, old, ho, he⟩ := he
  have hT : s.TypeIs (.ref e) "enumerate" := ⟨_, he, rfl⟩
  unfold pyNext
  refine wpAny_bind (wpAny_attempt (wpAny_callSpecial?_slot (name := Str.ofString "__next__") hT F.slot_enumerate_next (wpAny_call_entry F.slot_enumerate_next hT F.entry_enumerate_next ?_ (F.args_enumerate_next_1 _))))
  obtain ⟨hp, g, d, tk0, os⟩ := s
  show wpAny _ _ (field (.ref e) 2 >>= _) _ _ _
  refine wpAny_bind (wpAny_field he rfl (x := .ref it) rfl ?_)
  refine wpAny_bind (D.item i _ _ _ hlt hst fun x h1 tk hP st1 sb1 => ?_)
  replace sb1 : Heap.SameBut it hp h1 := sb1
  have e1 : h1.get? e = some { cls := .type "enumerate", dict := none, data := .fields #[o, .bool f, .ref it, rawInt c, .none, old], slots := #[] } := (sb1.2 e hne).trans he
  show wpAny _ _ (field (.ref e) 3 >>= _) _ _ ⟨h1, g, d, tk, os⟩
  refine wpAny_bind (wpAny_field e1 rfl (x := rawInt c) rfl ?_)
  show wpAny _ _ (field (.ref e) 4 >>= _) _ _ ⟨h1, g, d, tk, os⟩
  refine wpAny_bind (wpAny_field e1 rfl (x := .none) rfl ?_)
  show wpAny _ _ (mkInt c >>= _) _ _ ⟨h1, g, d, tk, os⟩
  refine wpAny_bind (wpAny_mkInt ?_)
  show wpAny _ _ (setField (.ref e) 3 (rawInt (c + 1)) >>= _) _ _ ⟨h1, g, d, tk + 1, os⟩
  refine wpAny_bind (wpAny_setField_rec e1 (by simp) fun h2 e2 sb2 => ?_)
  replace sb2 : Heap.SameBut e h1 h2 := sb2
  replace e2 : h2.get? e = some { cls := .type "enumerate", dict := none, data := .fields #[o, .bool f, .ref it, rawInt (c + 1), .none, old], slots := #[] } := e2
  show wpAny _ _ (setField (.ref e) 4 .none >>= _) _ _ ⟨h2, g, d, tk + 1, os⟩
  refine wpAny_bind (wpAny_setField_rec e2 (by simp) fun h3 e3 sb3 => ?_)
  replace sb3 : Heap.SameBut e h2 h3 := sb3
  replace e3 : h3.get? e = some { cls := .type "enumerate", dict := none, data := .fields #[o, .bool f, .ref it, rawInt (c + 1), .none, old], slots := #[] } := e3
  show wpAny _ _ (newTuple [.int c tk, x] >>= _) _ _ ⟨h3, g, d, tk + 1, os⟩
  refine wpAny_bind (wpAny_newTuple ?_)
  have z3 : h3.objs.size = hp.objs.size := by rw [sb3.1, sb2.1, sb1.1]
  have el : e < hp.objs.size := Heap.lt_size he
  have old3 : ∀ b ob, b ≠ e → b ≠ it → hp.get? b = some ob → h3.get? b = some ob := fun b ob n1 n2 q => sb3.extBut b ob n1 (sb2.extBut b ob n1 (sb1.extBut b ob n2 q))
  have st3 : St (i + 1) h3 := D.frame _ _ _ st1 fun b hb ob q => by
    have n1 : b ≠ e := fun z => hef (z ▸ hb)
    exact sb3.extBut b ob n1 (sb2.extBut b ob n1 q)
  have e4 : (h3.push { cls := .type "tuple", data := .seq #[.int c tk, x] }).get? e = _ := Heap.get?_push_of_some _ e3
  have t4 : (h3.push { cls := .type "tuple", data := .seq #[.int c tk, x] }).get? hp.objs.size = some { cls := .type "tuple", data := .seq #[.int c tk, x] } := by rw [← z3]; exact Heap.get?_push_size _ rfl
  have old4 : ∀ b ob, b ≠ e → b ≠ it → hp.get? b = some ob → (h3.push { cls := .type "tuple", data := .seq #[.int c tk, x] }).get? b = some ob := fun b ob n1 n2 q => Heap.get?_push_of_some _ (old3 b ob n1 n2 q)
  have st4 : St (i + 1) (h3.push { cls := .type "tuple", data := .seq #[.int c tk, x] }) := D.frame _ _ _ st3 fun b _ ob q => Heap.get?_push_of_some _ q
  rw [z3]
  generalize h3.push { cls := .type "tuple", data := .seq #[.int c tk, x] } = h4 at e4 t4 old4 st4
  have fin : ∀ h', EnA h' e it (c + 1) → Heap.SameBut e h4 h' → Q (some (.ref hp.objs.size)) ⟨h', g, d, tk + 1, os⟩ := fun h' q sb =>
    hQ x h' tk hP q (D.frame _ _ _ st4 fun b hb ob y => sb.extBut b ob (fun z => hef (z ▸ hb)) y) (sb.extBut _ _ (Nat.ne_of_gt el) t4) fun b ob n1 n2 y => sb.extBut b ob n1 (old4 b ob n1 n2 y)
  refine wpAny_bind (free_en ho e4 fun h5 b f5 e5 sb5 => ?_)
  replace sb5 : Heap.SameBut e h4 h5 := sb5
  cases b with
  | false =>
    simp only [Bool.false_eq_true, if_false]
    exact wpAny_pure ⟨_, rfl, wpAny_pure (fin h5 ⟨o, f5, old, ho, e5⟩ sb5)⟩
  | true =>
    simp only [if_true]
    refine wpAny_bind (wpAny_rule ?_)
    refine wpAny_bind (wpAny_field e5 rfl (x := old) rfl ?_)
    refine wpAny_bind (wpAny_setField_rec e5 (by simp) fun h6 e6 sb6 => ?_)
    replace sb6 : Heap.SameBut e h5 h6 := sb6
    replace e6 : h6.get? e = some { cls := .type "enumerate", dict := none, data := .fields #[o, .bool f5, .ref it, rawInt (c + 1), .none, x], slots := #[] } := e6
    show wpAny _ _ (Builtin.SmallTypes.ownedTupleHandOut (.ref e) (.ref hp.objs.size) >>= _) _ _ ⟨h6, g, d, tk + 1, os⟩
    refine wpAny_bind ?_
    unfold Builtin.SmallTypes.ownedTupleHandOut
    refine wpAny_bind (wpAny_setField_rec e6 (by simp) fun h7 e7 sb7 => ?_)
    replace sb7 : Heap.SameBut e h6 h7 := sb7
    replace e7 : h7.get? e = some { cls := .type "enumerate", dict := none, data := .fields #[rawInt (hp.objs.size : Addr), .bool f5, .ref it, rawInt (c + 1), .none, x], slots := #[] } := e7
    refine wpAny_setField_rec e7 (by simp) fun h8 e8 sb8 => ?_
    replace sb8 : Heap.SameBut e h7 h8 := sb8
    replace e8 : h8.get? e = some { cls := .type "enumerate", dict := none, data := .fields #[rawInt (hp.objs.size : Addr), .bool false, .ref it, rawInt (c + 1), .none, x], slots := #[] } := e8
    refine wpAny_bind (wpAny_letGo (wpAny_pure ⟨_, rfl, wpAny_pure (fin h8 ⟨_, false, x, .inr ⟨_, rfl⟩, e8⟩ ?_)⟩))
    exact ((sb5.trans sb6).trans sb7).trans sb8
/-- .. there is none -/
theorem en_end {e it : Addr} {fp : List Addr} {n : Nat} {c : Int} {P : Nat → Value → Prop} {St : Nat → Heap → Prop} {Q : Option Value → Shared → Prop}
    (D : Draws prog w A.in1 it fp n P St) (he : EnA s.heap e it c) (hst : St n s.heap)
    (hQ : ∀ h', Heap.ExtBut it s.heap h' → Q none { s with heap := h' }) : wpAny (model prog w) A (pyNext (.ref e)) Q E s := by
  obtain ⟨o, f, old, ho, he⟩ := he
  have hT : s.TypeIs (.ref e) "enumerate" := ⟨_, he, rfl⟩
  unfold pyNext
  refine wpAny_bind (wpAny_attempt (wpAny_callSpecial?_slot (name := Str.ofString "__next__") hT F.slot_enumerate_next (wpAny_call_entry F.slot_enumerate_next hT F.entry_enumerate_next ?_ (F.args_enumerate_next_1 _))))
  show wpAny _ _ (field (.ref e) 2 >>= _) _ _ _
  refine wpAny_bind (wpAny_field he rfl (x := .ref it) rfl ?_)
  refine wpAny_bind (D.done _ _ _ hst fun h' z eb hz' => ?_)
  obtain ⟨o, ho, hcl⟩ := hz'
  refine wpAny_bind (wpAny_isInstance (T := "StopIteration") (b := true) ⟨o, ho, hcl⟩ isSubtype_stop ?_)
  exact wpAny_pure (hQ h' eb)
theorem en_self {e it : Addr} {c : Int} {Q : Value → Shared → Prop} (he : EnA s.heap e it c) (h : Q (.ref e) s) : wpAny (model prog w) A (pyIter (.ref e)) Q E s := by
  obtain ⟨o, f, old, ho, he⟩ := he
  have hT : s.TypeIs (.ref e) "enumerate" := ⟨_, he, rfl⟩
  refine wpAny_pyIter_slot hT F.slot_enumerate_iter (wpAny_call_entry F.slot_enumerate_iter hT F.entry_enumerate_iter ?_ (F.args_enumerate_iter_1 _))
  show wpAny _ _ (ret (.ref e)) _ _ s
  exact wpAny_pure ⟨_, rfl, "enumerate", _, hT, F.slot_enumerate_next.lookup, h⟩
end
theorem turn_en {P : Program} {w : World} {K : PySem.W.Frag} {n : Str} {tpos : Pos} (a e it : Addr) :
    Turn P w K (.Name n tpos) (Ite K a) [e, it] e (fun i h => EnA h e it ((i : Nat) : Int) ∧ h.IsListIter it a i ∧ e ≠ it ∧ a ≠ it ∧ e ≠ a) where
  mem := by simp
  obj := fun i h st b hb => by
    obtain ⟨⟨o, f, old, _, he⟩, ⟨o2, ho, hc, hd⟩, _⟩ := st
    have e' : b = e ∨ b = it := by simpa using hb
    rcases e' with z | z
    · rw [z]; exact ⟨_, he, fun v q => nomatch q⟩
    · rw [z]; exact ⟨o2, ho, fun v q => by rw [hd] at q; cases q⟩
  keep := fun i h h' st k => let ⟨⟨o, f, old, ho, he⟩, hi, hne⟩ := st; ⟨⟨o, f, old, ho, k e (by simp) _ he⟩, hi.at fun o q => k it (by simp) o q, hne⟩
  item := by
    intro X hP hw hK hc i pins s σ H E I hf st hg
    subst hP hw hK
    obtain ⟨he, hit, hne, hai, hea⟩ := st
    obtain ⟨xs, x, hq, hx⟩ := hg
    obtain ⟨its, rv, p, hz⟩ := I.list hq
    obtain ⟨u, hu, ru⟩ := rv.get hx
    have hel : e < s.heap.objs.size := by obtain ⟨_, _, _, _, q⟩ := he; exact Heap.lt_size q
    have hil : it < s.heap.objs.size := by obtain ⟨_, q, _⟩ := hit; exact Heap.lt_size q
    have D := Draws.list (prog := X.prog) (w := X.w) (A := X.A.in1) (show X.A.in1.handled = none from I.ok.hd hc) it a hai its.toArray
    have hlt : i < its.toArray.size := by
      have := (List.getElem?_eq_some_iff.mp hu).1
      simpa using this
    refine en_next D he ⟨hit, p.isList⟩ hlt hne (by simp [hne, hea]) fun x' h' tk hPx he' st' hT hk => ?_
    have ex : x' = u := by
      have q1 : its.toArray[i]? = some x' := hPx
      have q2 : its.toArray[i]? = some u := by simpa using hu
      rw [q1] at q2
      cases q2; rfl
    subst ex
    refine ⟨_, rfl, wpAny_pure ?_⟩
    have new : ObjOk X.prog X.w (upd H s.heap.objs.size (.tup [.int (i : Nat), x])) h' s.heap.objs.size (.tup [.int (i : Nat), x]) :=
      ⟨by show 2 ≤ sizeLine; decide, [.int i tk, x'], .cons ⟨_, rfl⟩ (.cons ru .nil), ⟨_, hT, rfl, _, rfl⟩⟩
    have I1 : Inv X pins σ (upd H s.heap.objs.size (.tup [.int (i : Nat), x])) { s with heap := h', toks := tk + 1 } :=
      I.turnedNew (ch := [e, it]) (fun b ob hb q => hk b ob (fun z => hb (by simp [z])) (fun z => hb (by simp [z])) q) hf (Nat.le_refl _) new
    refine ⟨.ref s.heap.objs.size, _, I1, rfl, ⟨_, x, rfl, I.hok.fresh (Nat.le_refl _), rfl, fun ys hy => by rw [I.list_inj hy hq]; exact hx⟩, ⟨?_, st'.1, hne, hai, hea⟩, fun b hb => ?_⟩
    · have e1 : ((i + 1 : Nat) : Int) = (i : Int) + 1 := by omega
      rw [e1]; exact he'
    · have hb' : b < s.heap.objs.size := by
        have e' : b = e ∨ b = it := by simpa using hb
        rcases e' with z | z
        · rw [z]; exact hel
        · rw [z]; exact hil
      rw [upd_ne (Nat.ne_of_lt hb')]
      exact (hf b hb).1
  done := by
    intro X hP hw hK hc i pins s σ H E I hf st hg
    subst hP hw hK
    obtain ⟨he, hit, hne, hai, hea⟩ := st
    obtain ⟨xs, hq, hx⟩ := hg
    obtain ⟨its, rv, p, hz⟩ := I.list hq
    obtain ⟨f0, f1, f2, f3, f4, f5⟩ := hf it (by simp)
    have hl := rv.length
    obtain ⟨o, f, old, ho, he⟩ := he
    have hT : s.TypeIs (.ref e) "enumerate" := ⟨_, he, rfl⟩
    unfold pyNext
    refine wpAny_bind (wpAny_attempt (wpAny_callSpecial?_slot (name := Str.ofString "__next__") hT F.slot_enumerate_next (wpAny_call_entry F.slot_enumerate_next hT F.entry_enumerate_next ?_ (F.args_enumerate_next_1 _))))
    show wpAny _ _ (field (.ref e) 2 >>= _) _ _ _
    refine wpAny_bind (wpAny_field he rfl (x := .ref it) rfl ?_)
    refine wpAny_bind (wpAny_nextOf_list_end (show X.A.in1.in1.handled = none from I.ok.hd hc) hit p.isList (by simp; omega) fun h' z eb hz' => ?_)
    obtain ⟨o, ho, hcl⟩ := hz'
    refine wpAny_bind (wpAny_isInstance (T := "StopIteration") (b := true) ⟨o, ho, hcl⟩ isSubtype_stop ?_)
    exact wpAny_pure ⟨rfl, I.turned (t' := s.toks) (fun b o hb q => eb b o hb q) f0 f1 f3 f4 f5⟩
  self := fun A i s Q E st h => en_self st.1 h
theorem EnA.of {h : Heap} {e it : Addr} {c : Int} {old : Value} (x : IsEnum h e it c old) : EnA h e it c := ⟨_, _, _, .inl rfl, x⟩
def iEnumN (K : PySem.W.Frag) (ta : TA) : TI := fun σ H R => ta σ H fun vs H1 => ∃ a xs, vs = [.ref a] ∧ SqL K H1 a xs ∧ R (Ite K a) H1
theorem pi_enumN {X : Cx} {e : Expr} {ta : TA} {p pos tpos : Pos} {n : Str} (hg : Gl X "enumerate") (hm : X.mg "enumerate" = none) (ha : PA X [e] ta) (hs : starEach [e] X.env = [(false, eval e X.env)]) :
    PI X (.Name n tpos) (.Call (.Name "enumerate" p) [e] [] pos) (iEnumN X.K ta) := by
  refine ⟨fun pins s σ H R I h => ?_⟩
  refine Call_ (ld_blt I hg hm boot_enumerate (PyProof.Rows.callWith_type1 (thn (ha.run pos pins s σ H _ I h) fun us s1 ⟨vs, H1, I1, r1, q1⟩ => ?_) hs rfl))
  obtain ⟨a, xs, ex, hq, q⟩ := q1
  subst ex
  cases r1 with
  | cons r rr =>
    cases rr
    cases r
    have fresh : ∀ b ∈ [s1.heap.objs.size + 1, s1.heap.objs.size], s1.heap.objs.size ≤ b := fun b hb => by
      have e' : b = s1.heap.objs.size + 1 ∨ b = s1.heap.objs.size := by simpa using hb
      rcases e' with z | z
      · rw [z]; exact Nat.le_add_right _ _
      · rw [z]; exact Nat.le_refl _
    obtain ⟨its, rv, p', hz⟩ := I1.list hq
    have ha : a < s1.heap.objs.size := by obtain ⟨o, q, _⟩ := p'.isList; exact Heap.lt_size q
    refine call_enumerate_list p'.isList fun h' he hit hsz hk => wpAny_pyIter_enum he ?_
    have I2 : Inv X pins σ H1 { s1 with heap := h' } := I1.kept (t' := s1.toks) hk
    exact ⟨s1.heap.objs.size + 1, [s1.heap.objs.size + 1, s1.heap.objs.size], _, _, H1, rfl, I2, turn_en a (s1.heap.objs.size + 1) s1.heap.objs.size, ⟨.of he, hit, Nat.succ_ne_self _, Nat.ne_of_lt ha, Nat.ne_of_gt (Nat.lt_succ_of_lt ha)⟩, fun b hb => I1.fpOk (fresh b hb) (I1.hok.fresh (fresh b hb)), q⟩
end Wp

/-! WpM: what is enough for less is enough for what follows from it. -/
namespace Wp
open PySem
section
variable {q q' : QK} (hq : ∀ d M, q d M → q' d M)
include hq
theorem newL_mono {fr : Bool} {ds : List D} {M : Mem} : newL fr ds M q → newL fr ds M q' := by
  cases fr with
  | true => exact fun h => ⟨h.1, hq _ _ h.2⟩
  | false => exact fun h => ⟨h.1, fun p hp => hq _ _ (h.2 p hp)⟩
theorem addW_mono {fr : Bool} {x y : D} {M : Mem} : addW fr x y M q → addW fr x y M q' := by
  unfold addW
  split
  · exact hq _ _
  · exact fun h => ⟨h.1, hq _ _ h.2⟩
  · exact fun h => ⟨h.1, hq _ _ h.2⟩
  · split
    · exact newL_mono hq
    · exact id
theorem mulW_mono {fr : Bool} {x y : D} {M : Mem} : mulW fr x y M q → mulW fr x y M q' := by
  unfold mulW
  split
  · exact fun h => ⟨h.1, hq _ _ h.2⟩
  · exact fun h => ⟨h.1, h.2.1, h.2.2.1, hq _ _ h.2.2.2⟩
  · exact fun h => ⟨h.1, h.2.1, h.2.2.1, hq _ _ h.2.2.2⟩
  · split
    · exact fun h => ⟨h.1, h.2.1, h.2.2.1, newL_mono hq h.2.2.2⟩
    · exact id
  · exact id
theorem binW_mono {op : Operator} {fr : Bool} {x y : D} {M : Mem} : binW op fr x y M q → binW op fr x y M q' := by
  unfold binW
  split
  · exact addW_mono hq
  · exact mulW_mono hq
  · split
    · exact hq _ _
    · exact id
  · split
    · exact fun h => ⟨h.1, hq _ _ h.2⟩
    · exact id
  · split
    · exact fun h => ⟨h.1, h.2.1, hq _ _ h.2.2⟩
    · exact id
  · split
    · exact fun h => ⟨h.1, hq _ _ h.2⟩
    · exact id
  · exact id
theorem negW_mono {x : D} {M : Mem} : negW x M q → negW x M q' := by
  unfold negW
  split
  · exact hq _ _
  · exact id
theorem eqX_mono {neg : Bool} {x y : D} {M : Mem} : eqX neg x y M q → eqX neg x y M q' := by
  unfold eqX
  split
  · exact fun h => ⟨h.1, h.2.1, hq _ _ h.2.2⟩
  · exact fun h => ⟨h.1, hq _ _ h.2⟩
  · exact fun h => ⟨h.1, h.2.1, hq _ _ h.2.2⟩
  · exact hq _ _
  · exact hq _ _
  · exact hq _ _
  · split
    · split
      · exact hq _ _
      · exact id
    · exact id
  · exact id
theorem eqF_mono {neg : Bool} {x y : D} {M : Mem} : eqF neg x y M q → eqF neg x y M q' := by
  unfold eqF
  split
  · exact fun h => ⟨h.1, h.2.1, hq _ _ h.2.2⟩
  · exact fun h => h.elim (fun h => .inl (eqX_mono hq h)) fun h => .inr ⟨h.1, hq _ _ h.2⟩
theorem eqP_mono {neg : Bool} {x y : D} {M : Mem} : eqP neg x y M q → eqP neg x y M q' := by
  unfold eqP
  split
  · exact fun h => ⟨h.1, h.2.1, hq _ _ h.2.2⟩
  · exact eqF_mono hq
theorem eqW_mono {neg : Bool} {x y : D} {M : Mem} : eqW neg x y M q → eqW neg x y M q' := by
  unfold eqW
  split
  · exact hq _ _
  unfold eqL
  split
  · split
    · exact eqP_mono hq
    · exact hq _ _
  · split
    · exact hq _ _
    · exact eqP_mono hq
theorem inT_mono {neg : Bool} {x y : D} {M : Mem} : inT neg x y M q → inT neg x y M q' := by
  unfold inT
  split
  · exact hq _ _
  · exact id
theorem inS_mono {neg : Bool} {x y : D} {M : Mem} : inS neg x y M q → inS neg x y M q' := by
  unfold inS
  split
  · exact hq _ _
  · exact fun h => ⟨h.1, hq _ _ h.2⟩
  · split
    · split
      · exact fun h => ⟨h.1, h.2.1, hq _ _ h.2.2⟩
      · exact id
    · exact inT_mono hq
theorem inW_mono {neg : Bool} {x y : D} {M : Mem} : inW neg x y M q → inW neg x y M q' := by
  unfold inW
  split
  · split
    · exact hq _ _
    · exact id
  · exact inS_mono hq
theorem cmpW_mono {op : CmpOp} {x y : D} {M : Mem} : cmpW op x y M q → cmpW op x y M q' := by
  unfold cmpW
  split
  · exact eqW_mono hq
  · exact eqW_mono hq
  · split <;> first | exact hq _ _ | exact id
  · split <;> first | exact hq _ _ | exact id
  · split
    · exact hq _ _
    · exact hq _ _
    · split
      · split
        · exact hq _ _
        · exact id
      · exact id
  · split <;> first | exact hq _ _ | exact id
  · split <;> first | exact hq _ _ | exact id
  · split <;> first | exact hq _ _ | exact id
  · exact inW_mono hq
  · exact inW_mono hq
theorem idxW_mono {x y : D} {M : Mem} : idxW x y M q → idxW x y M q' := by
  unfold idxW
  split
  · refine fun h => ⟨h.1, ?_⟩
    have h := h.2
    revert h
    split
    · exact hq _ _
    · exact id
  · split
    · split
      · exact hq _ _
      · exact id
    · exact id
  · exact id
theorem sliW_mono {fr : Bool} {x : D} {l u : Option Int} {M : Mem} : sliW fr x l u M q → sliW fr x l u M q' := by
  unfold sliW
  split
  · exact fun h => ⟨h.1, hq _ _ h.2⟩
  · exact hq _ _
  · split
    · exact newL_mono hq
    · exact id
theorem revW_mono {fr : Bool} {x : D} {M : Mem} : revW fr x M q → revW fr x M q' := by
  unfold revW
  split
  · exact hq _ _
  · split
    · exact newL_mono hq
    · exact id
theorem isxW_mono {x : D} {c : Nat} {M : Mem} : isxW x c M q → isxW x c M q' := by
  unfold isxW
  split
  · split
    · exact hq _ _
    · exact id
  · exact id
theorem ixsW_mono {x : D} {cs : List Nat} {M : Mem} : ixsW x cs M q → ixsW x cs M q' := by
  unfold ixsW
  split
  · split
    · exact hq _ _
    · exact id
  · exact id
theorem atrW_mono {x : D} {f : Str} {M : Mem} : atrW x f M q → atrW x f M q' := by
  unfold atrW
  split
  · split
    · split
      · exact hq _ _
      · exact id
    · exact id
  · exact id
theorem fldW_mono {x : D} {f : Str} {M : Mem} : fldW x f M q → fldW x f M q' := by
  unfold fldW
  split
  · split
    · split
      · exact hq _ _
      · exact id
    · exact id
  · exact id
theorem sortD_mono {fr : Bool} {x : D} {M : Mem} : sortD fr x M q → sortD fr x M q' := by
  unfold sortD
  split
  · split
    · exact fun h => ⟨h.1, fun ns' a b => newL_mono hq (h.2 ns' a b)⟩
    · exact id
  · exact id
theorem biW_mono {b : Bi} {fr : Bool} {ds : List D} {M : Mem} : biW b fr ds M q → biW b fr ds M q' := by
  unfold biW lenW
  split
  · split
    · exact fun h => ⟨h.1, hq _ _ h.2⟩
    · split
      · exact hq _ _
      · exact id
  · exact hq _ _
  · exact hq _ _
  · refine fun h => ⟨h.1, ?_⟩
    have h := h.2
    revert h
    split
    · exact hq _ _
    · exact id
  · exact fun h => ⟨h.1, newL_mono hq h.2⟩
  · split
    · exact newL_mono hq
    · exact id
  · exact hq _ _
  · split
    · exact hq _ _
    · exact id
  · exact fun h => ⟨h.1, hq _ _ h.2⟩
  · exact fun h => ⟨h.1, hq _ _ h.2⟩
  · exact hq _ _
  · exact hq _ _
  · exact hq _ _
  · exact hq _ _
  · exact hq _ _
  · split
    · split
      · exact fun h => ⟨h.1, fun m h1 h2 => hq _ _ (h.2 m h1 h2)⟩
      · exact id
    · exact id
  · split
    · split
      · exact fun h => ⟨h.1, fun m h1 h2 => hq _ _ (h.2 m h1 h2)⟩
      · exact id
    · exact id
  · split
    · split
      · exact hq _ _
      · exact id
    · exact id
  · split
    · split
      · exact fun h ns' a b => newL_mono hq (h ns' a b)
      · split
        · exact fun h ns' a b => newL_mono hq (h ns' a b)
        · split
          · exact fun h ns' a b => newL_mono hq (h ns' a b)
          · exact id
    · exact sortD_mono hq
  · split
    · split
      · exact hq _ _
      · exact id
    · exact id
  · split
    · split
      · exact fun h p hp => hq _ _ (h p hp)
      · exact id
    · exact id
  · exact id
theorem bmW_mono {b : Bm} {fr : Bool} {x : D} {ds : List D} {M : Mem} : bmW b fr x ds M q → bmW b fr x ds M q' := by
  unfold bmW
  split
  · split
    · exact fun h => ⟨h.1, hq _ _ h.2⟩
    · exact id
  · split
    · exact fun h => ⟨h.1, hq _ _ h.2⟩
    · exact id
  · split
    · exact hq _ _
    · exact id
  · split
    · exact hq _ _
    · exact id
  · split
    · exact fun h => ⟨h.1, h.2.1, h.2.2.1, hq _ _ h.2.2.2⟩
    · exact id
  · split
    · refine fun h => ⟨h.1, h.2.1, ?_⟩
      have h := h.2.2
      revert h
      split
      · exact hq _ _
      · exact id
    · exact id
  · split
    · split
      · exact hq _ _
      · exact id
    · exact id
  · split
    · split
      · exact fun h => ⟨h.1, hq _ _ h.2⟩
      · exact id
    · exact id
  · split
    · split
      · refine fun h => ⟨h.1, h.2.1, ?_⟩
        have h := h.2.2
        revert h
        split
        · exact hq _ _
        · exact id
      · exact id
    · exact id
  · exact hq _ _
  · exact fun h => ⟨h.1, hq _ _ h.2⟩
  · exact fun h => ⟨h.1, h.2.1, newL_mono hq h.2.2⟩
  · exact fun h => ⟨h.1, h.2.1, hq _ _ h.2.2⟩
  · exact id
end
theorem truW_mono {q q' : BK} (hq : ∀ c M, q c M → q' c M) {x : D} {M : Mem} : truW x M q → truW x M q' := by
  unfold truW
  split
  · exact hq _ _
  · exact hq _ _
  · exact hq _ _
  · exact fun h => ⟨h.1, hq _ _ h.2⟩
  · exact hq _ _
  · split
    · exact hq _ _
    · exact id
mutual
theorem tgW_mono : ∀ (t : Tg) {d : D} {env : Env} {Q Q' : Env → Prop}, (∀ e, Q e → Q' e) → tgW t d env Q → tgW t d env Q'
  | .nm _, _, _, _, _, hq, h => hq _ h
  | .no, d, env, Q, Q', hq, h => by
    unfold tgW at h ⊢
    split at h
    · exact hq _ h
    · exact hq _ h
    · exact h.elim
  | .co t ts, d, env, Q, Q', hq, h => by
    unfold tgW at h ⊢
    split at h
    · exact tgW_mono t (fun e h => tgsW_mono ts hq h) h
    · exact tgW_mono t (fun e h => tgsW_mono ts hq h) h
    · exact h.elim
theorem tgsW_mono : ∀ (t : Tg) {ds : List D} {env : Env} {Q Q' : Env → Prop}, (∀ e, Q e → Q' e) → tgsW t ds env Q → tgsW t ds env Q'
  | .nm _, ds, _, _, _, _, h => by cases ds <;> exact (show False from h).elim
  | .no, ds, env, Q, Q', hq, h => by
    cases ds with
    | nil => exact hq _ h
    | cons a b => exact (show False from h).elim
  | .co t ts, ds, env, Q, Q', hq, h => by
    cases ds with
    | nil => exact (show False from h).elim
    | cons d ds => exact tgW_mono t (fun e h => tgsW_mono ts hq h) (show tgW t d env (fun e => tgsW ts ds e Q) from h)
end
theorem compW_mono {step step' : D → Env → Mem → (Option D → Mem → Prop) → Prop} (hs : ∀ d e M P P', (∀ o M, P o M → P' o M) → step d e M P → step' d e M P') {still : Mem → Prop} {env : Env} {Q Q' : AK} (hq : ∀ ds M, Q ds M → Q' ds M) :
    ∀ {items acc : List D} {M : Mem}, compW step still env items acc M Q → compW step' still env items acc M Q'
  | [], _, _, h => ⟨h.1, hq _ _ h.2⟩
  | d :: ds, acc, M, h => ⟨h.1, hs _ _ _ _ _ (fun o M1 h => by
      cases o with
      | none => exact compW_mono hs hq h
      | some y => exact ⟨h.1, compW_mono hs hq h.2⟩) h.2⟩
theorem walkL_mono {Q Q' : Wk → Mem → Prop} (hq : ∀ w M, Q w M → Q' w M) {d : D} {M : Mem} : walkL d M Q → walkL d M Q' := by
  unfold walkL
  split
  · exact hq _ _
  · split
    · exact hq _ _
    · exact id
theorem walkT_mono {Q Q' : Wk → Mem → Prop} (hq : ∀ w M, Q w M → Q' w M) {d : D} {M : Mem} : walkT d M Q → walkT d M Q' := by
  unfold walkT
  split
  · exact hq _ _
  · exact id
theorem walkS_mono {Q Q' : Wk → Mem → Prop} (hq : ∀ w M, Q w M → Q' w M) {d : D} {M : Mem} : walkS d M Q → walkS d M Q' := by
  unfold walkS
  split
  · exact hq _ _
  · exact id
theorem walkR_mono {Q Q' : Wk → Mem → Prop} (hq : ∀ w M, Q w M → Q' w M) {ds : List D} {M : Mem} : walkR ds M Q → walkR ds M Q' := by
  unfold walkR
  split
  · exact fun h => ⟨h.1, hq _ _ h.2⟩
  · exact fun h => ⟨h.1, hq _ _ h.2⟩
  · split
    · exact fun h => ⟨h.1, hq _ _ h.2⟩
    · exact fun h => ⟨h.1, hq _ _ h.2⟩
  · exact id
theorem dgetW_mono {q q' : QK} (hq : ∀ d M, q d M → q' d M) {x k : D} {M : Mem} : dgetW x k M q → dgetW x k M q' := by
  unfold dgetW
  split
  · split
    · split
      · exact hq _ _
      · exact id
    · split
      · exact hq _ _
      · exact id
    · split
      · split
        · exact hq _ _
        · exact id
      · exact id
    · exact id
  · exact id
theorem dgtW_mono {q q' : QK} (hq : ∀ d M, q d M → q' d M) {x k : D} {M : Mem} : dgtW x k M q → dgtW x k M q' := by
  unfold dgtW
  split
  · exact hq _ _
  · exact id
theorem dg2W_mono {q q' : QK} (hq : ∀ d M, q d M → q' d M) {x k z : D} {M : Mem} : dg2W x k z M q → dg2W x k z M q' := by
  unfold dg2W
  split
  · exact hq _ _
  · exact id
theorem dputW_mono {q q' : Mem → Prop} (hq : ∀ M, q M → q' M) {o k v : D} {M : Mem} : dputW o k v M q → dputW o k v M q' := by
  unfold dputW
  split
  · split
    · exact fun h => ⟨h.1, hq _ h.2⟩
    · split
      · exact fun h => ⟨h.1, hq _ h.2⟩
      · exact id
    · exact id
  · exact id
theorem sasW_mono {q q' : Mem → Prop} (hq : ∀ M, q M → q' M) {o x : D} {l h : Option Int} {M : Mem} : sasW o l h x M q → sasW o l h x M q' := by
  unfold sasW
  split
  · split
    · exact fun h => ⟨h.1, h.2.1, h.2.2.1, hq _ h.2.2.2⟩
    · exact id
  · exact id
theorem sflW_mono {q q' : Mem → Prop} (hq : ∀ M, q M → q' M) {o v : D} {f : Str} {M : Mem} : sflW o f v M q → sflW o f v M q' := by
  unfold sflW
  split
  · split
    · exact fun h => ⟨h.1, hq _ h.2⟩
    · exact id
  · exact id
theorem zipW_mono {Q Q' : Wk → Mem → Prop} (hq : ∀ w M, Q w M → Q' w M) {x y : D} {M : Mem} : zipW x y M Q → zipW x y M Q' := by
  unfold zipW
  split
  · exact hq _ _
  · split
    · exact hq _ _
    · exact id

/-- a semantics of calls that is monotone -/
def MonR (R R' : Nat → List D → Mem → QK → XQ → Prop) : Prop := ∀ f ds M Q Q' E E', (∀ d M, Q d M → Q' d M) → (∀ z M, E z M → E' z M) → R f ds M Q E → R' f ds M Q' E'
/-- what is wanted of an expression's parts -/
structure MonX (R R' : Nat → List D → Mem → QK → XQ → Prop) (ex : Ex) : Prop where
  E : ∀ {env : Env} {M : Mem} {Q Q' : QK} {E E' : XQ}, (∀ d M, Q d M → Q' d M) → (∀ z M, E z M → E' z M) → wpE R ex env M Q E → wpE R' ex env M Q' E'
  A : ∀ {env : Env} {M : Mem} {Q Q' : AK} {E E' : XQ}, (∀ d M, Q d M → Q' d M) → (∀ z M, E z M → E' z M) → wpA R ex env M Q E → wpA R' ex env M Q' E'
  P : ∀ {env : Env} {M : Mem} {Q Q' : Option Int → Mem → Prop} {E E' : XQ}, (∀ d M, Q d M → Q' d M) → (∀ z M, E z M → E' z M) → wpP R ex env M Q E → wpP R' ex env M Q' E'
  C : ∀ {env : Env} {M : Mem} {Q Q' : BK} {E E' : XQ}, (∀ d M, Q d M → Q' d M) → (∀ z M, E z M → E' z M) → wpC R ex env M Q E → wpC R' ex env M Q' E'
  W : ∀ {env : Env} {M : Mem} {Q Q' : Wk → Mem → Prop} {E E' : XQ}, (∀ d M, Q d M → Q' d M) → (∀ z M, E z M → E' z M) → wpW R ex env M Q E → wpW R' ex env M Q' E'
theorem mon (R R' : Nat → List D → Mem → QK → XQ → Prop) (hR : MonR R R') (ex : Ex) : MonX R R' ex := by
  induction ex with
  | var i =>
    refine ⟨fun hq he h => ?_, fun hq he h => h.elim, fun hq he h => h.elim, fun hq he h => h.elim, fun hq he h => h.elim⟩
    revert h
    dsimp only [wpE]
    split
    · exact hq _ _
    · exact id
  | non => exact ⟨fun hq he h => hq _ _ h, fun hq he h => h.elim, fun hq he h => h.elim, fun hq he h => h.elim, fun hq he h => h.elim⟩
  | bl b => exact ⟨fun hq he h => hq _ _ h, fun hq he h => h.elim, fun hq he h => h.elim, fun hq he h => h.elim, fun hq he h => h.elim⟩
  | int b => exact ⟨fun hq he h => hq _ _ h, fun hq he h => h.elim, fun hq he h => h.elim, fun hq he h => h.elim, fun hq he h => h.elim⟩
  | str b => exact ⟨fun hq he h => hq _ _ h, fun hq he h => h.elim, fun hq he h => h.elim, fun hq he h => h.elim, fun hq he h => h.elim⟩
  | glob b d => exact ⟨fun hq he h => hq _ _ h, fun hq he h => h.elim, fun hq he h => h.elim, fun hq he h => h.elim, fun hq he h => h.elim⟩
  | dnt => exact ⟨fun hq he h p hp => hq _ _ (h p hp), fun hq he h => h.elim, fun hq he h => h.elim, fun hq he h => h.elim, fun hq he h => h.elim⟩
  | emp => exact ⟨fun hq he h => hq _ _ h, fun hq he h => h.elim, fun hq he h => h.elim, fun hq he h => h.elim, fun hq he h => h.elim⟩
  | dct ks es h1 => exact ⟨fun hq he h => ⟨h.1, fun p hp => h1.A (fun ds M1 h => ⟨h.1, h.2.1, hq _ _ h.2.2⟩) he (h.2 p hp)⟩, fun hq he h => h.elim, fun hq he h => h.elim, fun hq he h => h.elim, fun hq he h => h.elim⟩
  | dget a i h1 h2 => exact ⟨fun hq he h => h1.E (fun x M1 h => h2.E (fun y M2 h => dgetW_mono hq h) he h) he h, fun hq he h => h.elim, fun hq he h => h.elim, fun hq he h => h.elim, fun hq he h => h.elim⟩
  | bin op fr a b ha hb => exact ⟨fun hq he h => ha.E (fun x M1 h => hb.E (fun y M2 h => binW_mono hq h) he h) he h, fun hq he h => h.elim, fun hq he h => h.elim, fun hq he h => h.elim, fun hq he h => h.elim⟩
  | neg a ha => exact ⟨fun hq he h => ha.E (fun x M1 h => negW_mono hq h) he h, fun hq he h => h.elim, fun hq he h => h.elim, fun hq he h => h.elim, fun hq he h => h.elim⟩
  | not a ha => exact ⟨fun hq he h => ha.E (fun x M1 h => truW_mono (fun c M h => hq _ _ h) h) he h, fun hq he h => h.elim, fun hq he h => h.elim, fun hq he h => h.elim, fun hq he h => h.elim⟩
  | and a b ha hb => exact ⟨fun hq he h => ha.E (fun x M1 h => truW_mono (fun c M h => by
      cases c with
      | true => exact hb.E hq he h
      | false => exact hq _ _ h) h) he h, fun hq he h => h.elim, fun hq he h => h.elim, fun hq he h => h.elim, fun hq he h => h.elim⟩
  | or a b ha hb => exact ⟨fun hq he h => ha.E (fun x M1 h => truW_mono (fun c M h => by
      cases c with
      | false => exact hb.E hq he h
      | true => exact hq _ _ h) h) he h, fun hq he h => h.elim, fun hq he h => h.elim, fun hq he h => h.elim, fun hq he h => h.elim⟩
  | cmp op a b ha hb => exact ⟨fun hq he h => ha.E (fun x M1 h => hb.E (fun y M2 h => cmpW_mono hq h) he h) he h, fun hq he h => h.elim, fun hq he h => h.elim, fun hq he h => h.elim, fun hq he h => h.elim⟩
  | ch2 o1 o2 a b c ha hb hc => exact ⟨fun hq he h => ha.E (fun x M1 h => hb.E (fun y M2 h => cmpW_mono (fun r M3 h => by
      revert h
      split
      · exact hc.E (fun z M4 h => cmpW_mono hq h) he
      · exact hq _ _
      · exact id) h) he h) he h, fun hq he h => h.elim, fun hq he h => h.elim, fun hq he h => h.elim, fun hq he h => h.elim⟩
  | ch3 o1 o2 o3 a b c d ha hb hc hd => exact ⟨fun hq he h => ha.E (fun x M1 h => hb.E (fun y M2 h => cmpW_mono (fun r M3 h => by
      revert h
      split
      · exact hc.E (fun z M4 h => cmpW_mono (fun r M5 h => by
          revert h
          split
          · exact hd.E (fun z M4 h => cmpW_mono hq h) he
          · exact hq _ _
          · exact id) h) he
      · exact hq _ _
      · exact id) h) he h) he h, fun hq he h => h.elim, fun hq he h => h.elim, fun hq he h => h.elim, fun hq he h => h.elim⟩
  | ife t a b ht ha hb => exact ⟨fun hq he h => ht.E (fun x M1 h => truW_mono (fun c M h => by
      cases c with
      | true => exact ha.E hq he h
      | false => exact hb.E hq he h) h) he h, fun hq he h => h.elim, fun hq he h => h.elim, fun hq he h => h.elim, fun hq he h => h.elim⟩
  | tup es hs => exact ⟨fun hq he h => hs.A (fun ds M1 h => ⟨h.1, hq _ _ h.2⟩) he h, fun hq he h => h.elim, fun hq he h => h.elim, fun hq he h => h.elim, fun hq he h => h.elim⟩
  | lst fr es hs => exact ⟨fun hq he h => hs.A (fun ds M1 h => newL_mono hq h) he h, fun hq he h => h.elim, fun hq he h => h.elim, fun hq he h => h.elim, fun hq he h => h.elim⟩
  | nil => exact ⟨fun hq he h => h.elim, fun hq he h => hq _ _ h, fun hq he h => h.elim, fun hq he h => h.elim, fun hq he h => h.elim⟩
  | cons e es h1 h2 => exact ⟨fun hq he h => h.elim, fun hq he h => h1.E (fun x M1 h => h2.A (fun ds M2 h => hq _ _ h) he h) he h, fun hq he h => h.elim, fun hq he h => h.elim, fun hq he h => h.elim⟩
  | call f es hs => exact ⟨fun hq he h => hs.A (fun ds M1 h => hR _ _ _ _ _ _ _ hq he h) he h, fun hq he h => h.elim, fun hq he h => h.elim, fun hq he h => h.elim, fun hq he h => h.elim⟩
  | cll fs i es h1 hs => exact ⟨fun hq he h => h1.E (fun y M1 h => by
      cases y with
      | int k =>
        revert h
        dsimp only
        cases atI fs k with
        | none => exact fun h => h
        | some f => exact fun h => hs.A (fun ds M2 h => hR _ _ _ _ _ _ _ hq he h) he h
      | _ => exact h.elim) he h, fun hq he h => h.elim, fun hq he h => h.elim, fun hq he h => h.elim, fun hq he h => h.elim⟩
  | bi b fr es hs => exact ⟨fun hq he h => hs.A (fun ds M1 h => biW_mono hq h) he h, fun hq he h => h.elim, fun hq he h => h.elim, fun hq he h => h.elim, fun hq he h => h.elim⟩
  | isi a t ha => exact ⟨fun hq he h => ha.E (fun x M1 h => by
      revert h
      split
      · exact hq _ _
      · exact id) he h, fun hq he h => h.elim, fun hq he h => h.elim, fun hq he h => h.elim, fun hq he h => h.elim⟩
  | ist a ts ha => exact ⟨fun hq he h => ha.E (fun x M1 h => by
      revert h
      split
      · exact hq _ _
      · exact id) he h, fun hq he h => h.elim, fun hq he h => h.elim, fun hq he h => h.elim, fun hq he h => h.elim⟩
  | dgt a i h1 h2 => exact ⟨fun hq he h => h1.E (fun x M1 h => ⟨h.1, h2.E (fun y M2 h => dgtW_mono hq h) he h.2⟩) he h, fun hq he h => h.elim, fun hq he h => h.elim, fun hq he h => h.elim, fun hq he h => h.elim⟩
  | itr e h1 => exact ⟨fun hq he h => h.elim, fun hq he h => h.elim, fun hq he h => h.elim, fun hq he h => h.elim, fun hq he h => h1.E (fun x M1 h => by
      revert h
      split
      · exact hq _ _
      · exact id) he h⟩
  | isx a c ha => exact ⟨fun hq he h => ha.E (fun x M1 h => isxW_mono hq h) he h, fun hq he h => h.elim, fun hq he h => h.elim, fun hq he h => h.elim, fun hq he h => h.elim⟩
  | ixs a cs ha => exact ⟨fun hq he h => ha.E (fun x M1 h => ixsW_mono hq h) he h, fun hq he h => h.elim, fun hq he h => h.elim, fun hq he h => h.elim, fun hq he h => h.elim⟩
  | atr a f ha => exact ⟨fun hq he h => ha.E (fun x M1 h => atrW_mono hq h) he h, fun hq he h => h.elim, fun hq he h => h.elim, fun hq he h => h.elim, fun hq he h => h.elim⟩
  | fld a f ha => exact ⟨fun hq he h => ha.E (fun x M1 h => fldW_mono hq h) he h, fun hq he h => h.elim, fun hq he h => h.elim, fun hq he h => h.elim, fun hq he h => h.elim⟩
  | mth o c m f es ho hs => exact ⟨fun hq he h => ho.E (fun x M1 h => ⟨h.1, hs.A (fun ds M2 h => hR _ _ _ _ _ _ _ hq he h) he h.2⟩) he h, fun hq he h => h.elim, fun hq he h => h.elim, fun hq he h => h.elim, fun hq he h => h.elim⟩
  | mk c f es hs => exact ⟨fun hq he h => hs.A (fun ds M1 h p hp => hR _ _ _ _ _ _ _ (fun v M2 h => ⟨h.1, hq _ _ h.2⟩) he (h p hp)) he h, fun hq he h => h.elim, fun hq he h => h.elim, fun hq he h => h.elim, fun hq he h => h.elim⟩
  | bm b fr o es ho hs => exact ⟨fun hq he h => ho.E (fun x M1 h => ⟨h.1, hs.A (fun ds M2 h => bmW_mono hq h) he h.2⟩) he h, fun hq he h => h.elim, fun hq he h => h.elim, fun hq he h => h.elim, fun hq he h => h.elim⟩
  | idx a i ha hi => exact ⟨fun hq he h => ha.E (fun x M1 h => hi.E (fun y M2 h => idxW_mono hq h) he h) he h, fun hq he h => h.elim, fun hq he h => h.elim, fun hq he h => h.elim, fun hq he h => h.elim⟩
  | sli fr a lo hi ha hl hh => exact ⟨fun hq he h => ha.E (fun x M1 h => hl.P (fun l M2 h => hh.P (fun u M3 h => sliW_mono hq h) he h) he h) he h, fun hq he h => h.elim, fun hq he h => h.elim, fun hq he h => h.elim, fun hq he h => h.elim⟩
  | rev fr a ha => exact ⟨fun hq he h => ha.E (fun x M1 h => revW_mono hq h) he h, fun hq he h => h.elim, fun hq he h => h.elim, fun hq he h => h.elim, fun hq he h => h.elim⟩
  | lrg fr es hs => exact ⟨fun hq he h => hs.A (fun ds M1 h => walkR_mono (fun w M2 h => newL_mono hq h) h) he h, fun hq he h => h.elim, fun hq he h => h.elim, fun hq he h => h.elim, fun hq he h => h.elim⟩
  | lrv fr a h1 => exact ⟨fun hq he h => h1.E (fun x M1 h => by
      revert h
      split
      · exact newL_mono hq
      · exact id) he h, fun hq he h => h.elim, fun hq he h => h.elim, fun hq he h => h.elim, fun hq he h => h.elim⟩
  | mtv o m cs es ho hs => exact ⟨fun hq he h => (by
      obtain ⟨c, f, hm, h⟩ := h
      exact ⟨c, f, hm, ho.E (fun x M1 h => ⟨h.1, hs.A (fun ds M2 h => hR _ _ _ _ _ _ _ hq he h) he h.2⟩) he h⟩), fun hq he h => h.elim, fun hq he h => h.elim, fun hq he h => h.elim, fun hq he h => h.elim⟩
  | dg2 a i e h1 h2 h3 => exact ⟨fun hq he h => h1.E (fun x M1 h => ⟨h.1, h2.E (fun y M2 h => h3.E (fun z M3 h => dg2W_mono hq h) he h) he h.2⟩) he h, fun hq he h => h.elim, fun hq he h => h.elim, fun hq he h => h.elim, fun hq he h => h.elim⟩
  | nev => exact ⟨fun hq he h => h.elim, fun hq he h => h.elim, fun hq he h => h.elim, fun hq he h => h.elim, fun hq he h => h.elim⟩
  | itd e h1 => exact ⟨fun hq he h => h.elim, fun hq he h => h.elim, fun hq he h => h.elim, fun hq he h => h.elim, fun hq he h => h1.E (fun x M1 h => by
      revert h
      split
      · exact hq _ _
      · exact id) he h⟩
  | itn e h1 => exact ⟨fun hq he h => h.elim, fun hq he h => h.elim, fun hq he h => h.elim, fun hq he h => h.elim, fun hq he h => h1.E (fun x M1 h => by
      revert h
      split
      · exact hq _ _
      · exact id) he h⟩
  | part e h1 => exact ⟨fun hq he h => h.elim, fun hq he h => h.elim, fun hq he h => h1.E (fun x M1 h => by
      revert h
      split
      · exact hq _ _
      · exact id) he h, fun hq he h => h1.E (fun x M1 h => truW_mono hq h) he h, fun hq he h => h.elim⟩
  | nopart => exact ⟨fun hq he h => h.elim, fun hq he h => h.elim, fun hq he h => hq _ _ h, fun hq he h => hq _ _ h, fun hq he h => h.elim⟩
  | comp fr own tg iter cond elt hi hc he1 => exact ⟨fun hq he h => hi.W (fun w M1 h => compW_mono (fun d e M P P' hp h => tgW_mono tg (fun e' h => hc.C (fun b M1 h => by
      cases b with
      | true => exact he1.E (fun y M2 h => hp _ _ h) (fun _ _ z => z) h
      | false => exact hp _ _ h) (fun _ _ z => z) h) h) (fun ds M2 h => newL_mono hq h) h) he h, fun hq he h => h.elim, fun hq he h => h.elim, fun hq he h => h.elim, fun hq he h => h.elim⟩
  | itl e h1 => exact ⟨fun hq he h => h.elim, fun hq he h => h.elim, fun hq he h => h.elim, fun hq he h => h.elim, fun hq he h => h1.E (fun x M1 h => walkL_mono hq h) he h⟩
  | itt e h1 => exact ⟨fun hq he h => h.elim, fun hq he h => h.elim, fun hq he h => h.elim, fun hq he h => h.elim, fun hq he h => h1.E (fun x M1 h => walkT_mono hq h) he h⟩
  | its e h1 => exact ⟨fun hq he h => h.elim, fun hq he h => h.elim, fun hq he h => h.elim, fun hq he h => h.elim, fun hq he h => h1.E (fun x M1 h => walkS_mono hq h) he h⟩
  | it1 a h1 => exact ⟨fun hq he h => h.elim, fun hq he h => h.elim, fun hq he h => h.elim, fun hq he h => h.elim, fun hq he h => h1.E (fun x M1 h => walkR_mono hq h) he h⟩
  | it2 a b h1 h2 => exact ⟨fun hq he h => h.elim, fun hq he h => h.elim, fun hq he h => h.elim, fun hq he h => h.elim, fun hq he h => h1.E (fun x M1 h => h2.E (fun y M2 h => walkR_mono hq h) he h) he h⟩
  | it3 a b c h1 h2 h3 => exact ⟨fun hq he h => h.elim, fun hq he h => h.elim, fun hq he h => h.elim, fun hq he h => h.elim, fun hq he h => h1.E (fun x M1 h => h2.E (fun y M2 h => h3.E (fun z M3 h => walkR_mono hq h) he h) he h) he h⟩
  | ite e h1 => exact ⟨fun hq he h => h.elim, fun hq he h => h.elim, fun hq he h => h.elim, fun hq he h => h.elim, fun hq he h => h1.E (fun x M1 h => by
      revert h
      unfold enumW
      split
      · exact hq _ _
      · split
        · exact hq _ _
        · exact id) he h⟩
  | itz a b h1 h2 => exact ⟨fun hq he h => h.elim, fun hq he h => h.elim, fun hq he h => h.elim, fun hq he h => h.elim, fun hq he h => h1.E (fun x M1 h => h2.E (fun y M2 h => zipW_mono hq h) he h) he h⟩
end Wp

/-! WpS5: expressions. -/
namespace Wp
open PySem PySem.Spec PyProof.Rows L2

/-! ### readings by trees -/
section
variable (G : Gx) (W : WX)
def liftE (w : Env → Mem → QK → XQ → Prop) : TE := fun σ H Q => ∃ F M env q e, RM G F M H ∧ EnvR G F env σ ∧ Cn G F q Q ∧ CnX G F e (fun c d H => W c d σ H) ∧ w env M q e
def liftT (w : Env → Mem → BK → XQ → Prop) : TT := fun σ H Q => ∃ F M env q e, RM G F M H ∧ EnvR G F env σ ∧ CnB G F q Q ∧ CnX G F e (fun c d H => W c d σ H) ∧ w env M q e
def liftA (w : Env → Mem → AK → XQ → Prop) : TA := fun σ H Q => ∃ F M env q e, RM G F M H ∧ EnvR G F env σ ∧ CnA G F q Q ∧ CnX G F e (fun c d H => W c d σ H) ∧ w env M q e
def CnP (F : Hp) (q : Option Int → Mem → Prop) (Q : Option Int → Hp → Prop) : Prop := ∀ F' M' H' o, Same F F' → RM G F' M' H' → q o M' → Q o H'
def liftP (w : Env → Mem → (Option Int → Mem → Prop) → XQ → Prop) : TO := fun σ H Q => ∃ F M env q e, RM G F M H ∧ EnvR G F env σ ∧ CnP G F q Q ∧ CnX G F e (fun c d H => W c d σ H) ∧ w env M q e
/-- the things that a walk yields, one by one -/
def Real (F : Hp) (J : It) (wk : Wk) : Prop := ∀ P i F' M H, Same F F' → RM (G.hide P) F' M H → wk.still M →
  (∀ d, wk.items[i]? = some d → J.go i H ∧ ∀ x H', J.yld i H x H' → ∃ F2, Same F' F2 ∧ RM (G.hide P) F2 M H' ∧ RelD G F2 x d) ∧ (i = wk.items.length → J.stop i H)
def CnW (F : Hp) (q : Wk → Mem → Prop) (Rr : It → Hp → Prop) : Prop := ∀ F' M' H' wk J, Same F F' → RM G F' M' H' → Real G F' J wk → q wk M' → Rr J H'
def liftW (w : Env → Mem → (Wk → Mem → Prop) → XQ → Prop) : TI := fun σ H Q => ∃ F M env q e, RM G F M H ∧ EnvR G F env σ ∧ CnW G F q Q ∧ CnX G F e (fun c d H => W c d σ H) ∧ w env M q e
end
/-- a def's promise by trees -/
def liftSp (G : Gx) (n : Nat) (r : List D → Mem → QK → XQ → Prop) : Sp := fun vs H Q E => vs.length = n ∧ ∃ P F M ds q e, RM (G.hide P) F M H ∧ RelDs G F vs ds ∧ Cn (G.hide P) F q Q ∧ CnX (G.hide P) F e E ∧ r ds M q e
section
variable {X : Cx} {e : Expr}
theorem PE.imp {t t' : TE} (h : PE X e t) (hi : ∀ σ H Q, t' σ H Q → t σ H Q) : PE X e t' := ⟨fun pins s σ H Q I q => h.run pins s σ H Q I (hi _ _ _ q)⟩
theorem PT.imp {t t' : TT} (h : PT X e t) (hi : ∀ σ H Q, t' σ H Q → t σ H Q) : PT X e t' := ⟨fun pins s σ H Q I q => h.run pins s σ H Q I (hi _ _ _ q)⟩
theorem PA.imp {es : List Expr} {t t' : TA} (h : PA X es t) (hi : ∀ σ H Q, t' σ H Q → t σ H Q) : PA X es t' := ⟨fun pos pins s σ H Q I q => h.run pos pins s σ H Q I (hi _ _ _ q)⟩
theorem PI.imp {tg : Expr} {t t' : TI} (h : PI X tg e t) (hi : ∀ σ H Q, t' σ H Q → t σ H Q) : PI X tg e t' := ⟨fun pins s σ H Q I q => h.run pins s σ H Q I (hi _ _ _ q)⟩
end

/-- the classes of exceptions: what the written part says of them -/
structure XTab (K : PySem.W.Frag) (mg : Str → Option Value) (cl : Nat → Option Addr) (xc : List (Nat × Str)) : Prop where
  nm : ∀ p ∈ xc, ∃ C, mg p.2 = some (.ref C) ∧ cl p.1 = some C
  xc : ∀ c C, cl c = some C → L2.XcC K C
  ve : ∀ c C, cl c = some C → PySem.W.kitOne K (.ref C) (.type "ValueError") = some true
  sub : ∀ c C d D, cl c = some C → cl d = some D → PySem.W.kitOne K (.ref C) (.ref D) = some (subX c d) ∧ PySem.W.exmOne K (.ref C) (.ref D) = some (subX c d)
  na : ∀ c C f, cl c = some C → fldN f = true → PySem.W.findIn K (.ref C) f = some none
/-- __init__(self, v): self.f = v -/
def spI (C : Addr) (f : Str) : Sp := fun vs H Q _ => ∃ (a : Addr) (v : V), vs = [.ref a, v] ∧ H a = some (L2.exo a C none) ∧ ∀ dx, H dx = none → dx ≠ a → Q .non (upd (upd H dx (L2.exd dx [(f, v)])) a (L2.exo a C (some dx)))
/-- an own exception class whose __init__ writes one field -/
structure XMk (P : Program) (w : World) (K : PySem.W.Frag) (mg : Str → Option Value) (base : Heap) (cl : Nat → Option Addr) (c : Nat) (x f : Str) : Prop where
  ex : ∃ (C fI : Addr) (fd : FuncData) (ps : List Str), cl c = some C ∧ mg x = some (.ref C) ∧ PySem.W.keepIn K (.ref C) = true ∧ L2.OexC K C ∧ PySem.W.findIn K (.ref C) "__init__" = some (some (.ref fI)) ∧
    PySem.W.typeIn K (.ref fI) = some (.type "function") ∧ Binds K fd ps [] ∧ FnOk P w K mg base L2.CX0 1 fI fd ps (spI C f)
/-- __init__(self, v, y): self.at = v; self.side = y -/
def spB (C : Addr) : Sp := fun vs H Q _ => ∃ (a : Addr) (v y : V), vs = [.ref a, v, y] ∧ H a = some (L2.exo a C none) ∧ ∀ dx, H dx = none → dx ≠ a → Q .non (upd (upd (upd H dx (L2.exd dx [("at", v)])) a (L2.exo a C (some dx))) dx (L2.exd dx [("side", y), ("at", v)]))
structure XMb (P : Program) (w : World) (K : PySem.W.Frag) (mg : Str → Option Value) (base : Heap) (cl : Nat → Option Addr) (c : Nat) (x : Str) : Prop where
  ex : ∃ (C fI : Addr) (fd : FuncData) (ps : List Str), cl c = some C ∧ mg x = some (.ref C) ∧ PySem.W.keepIn K (.ref C) = true ∧ L2.OexC K C ∧ PySem.W.findIn K (.ref C) "__init__" = some (some (.ref fI)) ∧
    PySem.W.typeIn K (.ref fI) = some (.type "function") ∧ Binds K fd ps [] ∧ Binds K fd ps [.none] ∧ FnOk P w K mg base L2.CX0 1 fI fd ps (spB C)
/-- own classes, their methods -/
structure GoodO (G : Gx) (tb : Tb) (R : Nat → List D → Mem → QK → XQ → Prop) (k : Nat) (P : Program) (w : World) (K : PySem.W.Frag) (mg : Str → Option Value) (base : Heap) : Prop where
  mts : ∀ f c m, tb.me f = some (c, m) → ∃ C ad fd ps, G.co c = some C ∧ Meth K C m ad ∧ Binds K fd ps [] ∧ ps.length = tb.ar f ∧ FnOk P w K mg base (L2.CX P w) k ad fd ps (liftSp G (tb.ar f) (R f))
  hot : ∀ f c m, tb.me f = some (c, m) → tb.hot = true
  len : ∀ f c m ds M q e, tb.me f = some (c, m) → R f ds M q e → ds.length = tb.ar f
  cls : ∀ c C, G.co c = some C → Cls K C ∧ ∀ f ∈ tb.of, NoAttr K C f
  mks : ∀ c x, (c, x) ∈ tb.oc → ∃ C, G.co c = some C ∧ mg x = some (.ref C) ∧ PySem.W.makesIn K C = true ∧ PySem.W.keepIn K (.ref C) = true
  xbs : ∀ c x, c ∈ tb.xb → (c, x) ∈ tb.xc → XMb P w K mg base G.cl c x
/-- an own exception class without an own __init__ -/
structure XOwn (K : PySem.W.Frag) (mg : Str → Option Value) (cl : Nat → Option Addr) (c : Nat) (x : Str) : Prop where
  ex : ∃ C : Addr, cl c = some C ∧ mg x = some (.ref C) ∧ PySem.W.keepIn K (.ref C) = true ∧ PySem.W.excIn K C He.veBase "ValueError.__new__" = true ∧ PySem.W.subIn K (.ref C) (.type "BaseException") = some true ∧ PySem.W.typeIn K (.ref C) = some (.type "type")
/-- what a context must have -/
structure Good (G : Gx) (tb : Tb) (R : Nat → List D → Mem → QK → XQ → Prop) (k : Nat) (W : WX) (X : Cx) : Prop where
  hK : X.K = G.K
  nd : X.N.Nodup
  calm : tb.hot = true → X.calm = true
  room : tb.hot = true → Room (k + 1) X.A
  un : X.A.units + 200 < cLine
  hn : ∀ f x, tb.nm f = some x → tb.hot = true
  hb : ∀ b : Bi, biNm b ∈ tb.bn → tb.hot = true
  tk : Takes X W
  fns : ∀ f x, tb.nm f = some x → ∃ ad fd ps, X.mg x = some (.ref ad) ∧ PySem.W.keepIn X.K (.ref ad) = true ∧ Binds X.K fd ps [] ∧ ps.length = tb.ar f ∧ FnOk X.prog X.w X.K X.mg X.base (L2.CX X.prog X.w) k ad fd ps (liftSp G (tb.ar f) (R f))
  glb : ∀ p ∈ tb.cs, ∃ v u, X.mg p.1 = some u ∧ RelV v u ∧ ∀ F, RelD G F v p.2
  bnn : ∀ x ∈ tb.bn, X.mg x = none
  len : ∀ f x ds M q e, tb.nm f = some x → R f ds M q e → ds.length = tb.ar f
  mon : MonR R R
  k2 : 2 ≤ k
  xt : XTab X.K X.mg G.cl tb.xc
  mkr : ∀ c f x, (c, f) ∈ tb.xr → (c, x) ∈ tb.xc → XMk X.prog X.w X.K X.mg X.base G.cl c x f
  own : ∀ c x, c ∈ tb.xo → (c, x) ∈ tb.xc → XOwn X.K X.mg G.cl c x
  ob : GoodO G tb R k X.prog X.w X.K X.mg X.base
theorem liftSp_hide {G : Gx} {P : Hp} {n : Nat} {r : List D → Mem → QK → XQ → Prop} : liftSp (G.hide P) n r = liftSp G n r := by
  funext vs H Q E
  apply propext
  constructor
  · rintro ⟨hl, P', F, M, ds, q, e, rm, rs, cn, cx, h⟩
    exact ⟨hl, P', F, M, ds, q, e, rm, rs.unhide, cn, cx, h⟩
  · rintro ⟨hl, P', F, M, ds, q, e, rm, rs, cn, cx, h⟩
    exact ⟨hl, P', F, M, ds, q, e, rm, rs.hide P, cn, cx, h⟩
theorem Good.hide {G : Gx} {tb : Tb} {R : Nat → List D → Mem → QK → XQ → Prop} {k : Nat} {W : WX} {X : Cx} (g : Good G tb R k W X) (P : Hp) : Good (G.hide P) tb R k W X :=
  ⟨g.hK, g.nd, g.calm, g.room, g.un, g.hn, g.hb, g.tk, fun f x e => by
    obtain ⟨ad, fd, ps, h1, h2, h3, h4, h5⟩ := g.fns f x e
    exact ⟨ad, fd, ps, h1, h2, h3, h4, by rw [liftSp_hide]; exact h5⟩, fun p hp => by
    obtain ⟨v, u, h1, h2, h3⟩ := g.glb p hp
    exact ⟨v, u, h1, h2, fun F => (h3 F).hide P⟩, g.bnn, g.len, g.mon, g.k2, g.xt, g.mkr, g.own, ⟨fun f c m e => by
    obtain ⟨C, ad, fd, ps, h1, h2, h3, h4, h5⟩ := g.ob.mts f c m e
    exact ⟨C, ad, fd, ps, h1, h2, h3, h4, by rw [liftSp_hide]; exact h5⟩, g.ob.hot, g.ob.len, g.ob.cls, g.ob.mks, g.ob.xbs⟩⟩
theorem Good.blk {G : Gx} {tb : Tb} {R : Nat → List D → Mem → QK → XQ → Prop} {k : Nat} {W : WX} {X : Cx} (g : Good G tb R k W X) {s : Shared} {H : Hp} {scope : Scope} {ce : PySem.Env} {fp : List Addr} :
    Good G tb R k (fun _ _ _ _ => False) (X.blk s H scope ce fp) :=
  ⟨g.hK, g.nd, g.calm, g.room, g.un, g.hn, g.hb, takes0, g.fns, g.glb, g.bnn, g.len, g.mon, g.k2, g.xt, g.mkr, g.own, g.ob⟩

/-! ### side conditions -/
section
variable {X : Cx}
theorem star_ok {e : Expr} {es : List Expr} {env : PySem.Env} (h : noStar e = true) : starEach (e :: es) env = (false, eval e env) :: starEach es env := by
  cases e <;> first | rfl | cases h
theorem plainIx_ok {e : Expr} (h : noSlice e = true) : PlainIx e := by
  cases e <;> first | exact fun _ _ => rfl | cases h
theorem noset_ok {e : Expr} {op : CmpOp} (h : noSet e = true) : behindInMarks op e = false := by
  cases e <;> first | rfl | cases h
theorem fold_ok {e : Expr} {env : PySem.Env} (h : noSet e = true) (x : Value) : foldedSetIterable e env x = pure x := by
  cases e <;> first | rfl | cases h
theorem plainO_ok {e : Expr} {m : Str} {env : PySem.Env} (h : plainO e = true) : attributeBase e m env (eval e env) = eval e env := by
  cases e <;> try rfl
  case Call f es kw p =>
    cases f <;> try rfl
    case Name id p2 =>
      cases es <;> cases kw <;> try rfl
      have h : (!(id == "super")) = true := h
      unfold attributeBase
      have : (id != "super") = true := h
      simp [this]
theorem mem_lastMarks {o1 o2 : CmpOp} {b c : Expr} (h : noSet c = true) : lastMarks [o1, o2] [b, c] = false := noset_ok h
theorem mem_lastMarks3 {o1 o2 o3 : CmpOp} {b c d : Expr} (h : noSet d = true) : lastMarks [o1, o2, o3] [b, c, d] = false := noset_ok h
theorem plainT_ok {e : Expr} {env : PySem.Env} (h : plainT e = true) (whole : Sem Value) : isTrue e env whole = (do let v ← whole; standAt e.pos; holding [v] (truthy v)) := by
  cases e <;> try rfl
  case UnaryOp op a p => cases op <;> first | rfl | cases h
  all_goals cases h
end
end Wp

/-! WpS6: that the tree is enough for the text: expressions. -/
namespace Wp
open PySem PySem.Spec PyProof.Rows L2

theorem vis_of {sc : Scope} {x : Str} (h : visB sc x = true) : Vis sc x := by
  unfold visB at h
  unfold Vis
  split at h
  · exact .inl (by assumption)
  · exact .inr (.inl (by assumption))
  · exact .inr (.inr (by assumption))
  · cases h
theorem ok_of {x : Str} (h : okB x = true) : (x == ("__debug__" : Str)) = false ∧ (x == ("__classdict__" : Str)) = false := by
  unfold okB at h
  rw [Bool.and_eq_true] at h
  exact ⟨by simpa using h.1, by simpa using h.2⟩
theorem gl_of {X : Cx} {sc : Scope} {x : Str} (hs : X.env.scope = sc) (h : glB sc x = true) : Gl X x ∧ (x == ("__debug__" : Str)) = false := by
  unfold glB at h
  rw [Bool.and_eq_true] at h
  refine ⟨?_, (ok_of h.2).1⟩
  show X.env.scope.names.lookup x = _
  rw [hs]
  exact of_decide_eq_true h.1
theorem bn_of {G : Gx} {tb : Tb} {R : Nat → List D → Mem → QK → XQ → Prop} {k : Nat} {W : WX} {X : Cx} {sc : Scope} {x : Str} (g : Good G tb R k W X) (hs : X.env.scope = sc) (h : bnB tb sc x = true) : Gl X x ∧ (x == ("__debug__" : Str)) = false ∧ X.mg x = none := by
  unfold bnB at h
  rw [Bool.and_eq_true] at h
  obtain ⟨h1, h2⟩ := gl_of hs h.1
  refine ⟨h1, h2, g.bnn x ?_⟩
  obtain ⟨y, hy, e⟩ := List.any_eq_true.mp h.2
  rw [← of_decide_eq_true e]
  exact hy

/-! ### values put together -/
section
variable {G : Gx} {W : WX} {X : Cx}
/-- a value wanted by trees is wanted -/
theorem cn_here {F H : Hp} {M : Mem} {q : QK} {Q : VK} {v : V} {d : D} (rm : RM G F M H) (cn : Cn G F q Q) (r : RelD G F v d) (h : q d M) : Q v H := cn F M H v d (Same.refl F) rm r h
theorem enter {w : Env → Mem → QK → XQ → Prop} {F H : Hp} {M : Mem} {env : Env} {σ : L2.St} {q : QK} {e : XQ} {Q : VK} (rm : RM G F M H) (er : EnvR G F env σ) (cx : CnX G F e fun c d H => W c d σ H) (h : w env M q e)
    (k : ∀ F' M' H' v d, Same F F' → RM G F' M' H' → EnvR G F' env σ → CnX G F' e (fun c d H => W c d σ H) → RelD G F' v d → q d M' → Q v H') : liftE G W w σ H Q :=
  ⟨F, M, env, q, e, rm, er, fun F' M' H' v d s rm' r hq => k F' M' H' v d s rm' (er.mono s) (cx.mono s) r hq, cx, h⟩
theorem enterA {w : Env → Mem → AK → XQ → Prop} {F H : Hp} {M : Mem} {env : Env} {σ : L2.St} {q : AK} {e : XQ} {Q : List V → Hp → Prop} (rm : RM G F M H) (er : EnvR G F env σ) (cx : CnX G F e fun c d H => W c d σ H) (h : w env M q e)
    (k : ∀ F' M' H' v d, Same F F' → RM G F' M' H' → EnvR G F' env σ → CnX G F' e (fun c d H => W c d σ H) → RelDs G F' v d → q d M' → Q v H') : liftA G W w σ H Q :=
  ⟨F, M, env, q, e, rm, er, fun F' M' H' v d s rm' r hq => k F' M' H' v d s rm' (er.mono s) (cx.mono s) r hq, cx, h⟩
theorem enterP {w : Env → Mem → (Option Int → Mem → Prop) → XQ → Prop} {F H : Hp} {M : Mem} {env : Env} {σ : L2.St} {q : Option Int → Mem → Prop} {e : XQ} {Q : Option Int → Hp → Prop} (rm : RM G F M H) (er : EnvR G F env σ) (cx : CnX G F e fun c d H => W c d σ H) (h : w env M q e)
    (k : ∀ F' M' H' o, Same F F' → RM G F' M' H' → EnvR G F' env σ → CnX G F' e (fun c d H => W c d σ H) → q o M' → Q o H') : liftP G W w σ H Q :=
  ⟨F, M, env, q, e, rm, er, fun F' M' H' o s rm' hq => k F' M' H' o s rm' (er.mono s) (cx.mono s) hq, cx, h⟩
end

/-! ### truth is one -/
theorem tru_det {M : Mem} {x : D} {P : BK} (h : truW x M P) : ∃ c, P c M ∧ ∀ Q : BK, (Q c M → truW x M Q) ∧ (truW x M Q → Q c M) := by
  have seqs : (match asS M x with
    | some ds => P (!ds.isEmpty) M
    | none => False) → ∃ c, P c M ∧ ∀ Q : BK, (Q c M → (match asS M x with
    | some ds => Q (!ds.isEmpty) M
    | none => False)) ∧ ((match asS M x with
    | some ds => Q (!ds.isEmpty) M
    | none => False) → Q c M) := fun h => by
    cases e : asS M x with
    | none => rw [e] at h; exact h.elim
    | some ds => rw [e] at h; exact ⟨_, h, fun Q => ⟨fun q => q, fun q => q⟩⟩
  cases x with
  | non => exact ⟨_, h, fun Q => ⟨fun q => q, fun q => q⟩⟩
  | bl b => exact ⟨_, h, fun Q => ⟨fun q => q, fun q => q⟩⟩
  | int i => exact ⟨_, h, fun Q => ⟨fun q => q, fun q => q⟩⟩
  | emp => exact ⟨_, h, fun Q => ⟨fun q => q, fun q => q⟩⟩
  | str y => exact ⟨_, h.2, fun Q => ⟨fun q => ⟨h.1, q⟩, fun q => q.2⟩⟩
  | _ => exact seqs h

/-! ### a walk's things -/
section
variable {G : Gx} {F H : Hp} {M : Mem}
/-- where a list that is read stands -/
theorem still_of {v : V} {d : D} {ds : List D} (rm : RM G F M H) (r : RelD G F v d) (e : asL M d = some ds) : ∃ a vs, v = .ref a ∧ SqL G.K H a vs ∧ RelDs G F vs ds ∧ stillAt d ds M ∧ ∀ P F' M H, Same F F' → RM (G.hide P) F' M H → stillAt d ds M → ∃ ws, SqL G.K H a ws ∧ RelDs G F' ws ds := by
  cases r with
  | lst h1 h2 =>
    cases e
    exact ⟨_, _, rfl, .of (rm.fz _ _ h1), h2, trivial, fun P F' M H s rm' _ => ⟨_, .of (rm'.fz _ _ (s _ _ h1)), h2.mono s⟩⟩
  | scr h1 =>
    cases e
    exact ⟨_, _, rfl, rm.fz.seq h1, RelDs.ints _, trivial, fun P F' M H s rm' _ => ⟨_, rm'.fz.seq (s.seq h1), RelDs.ints _⟩⟩
  | @loc a =>
    dsimp only [asL] at e
    cases q : M a with
    | none => rw [q] at e; cases e
    | some ob =>
      rw [q] at e
      cases ob with
      | lst ds' =>
        cases e
        obtain ⟨_, vs, h1, h2⟩ := rm.mt a _ q
        refine ⟨a, vs, rfl, .of h1, h2, q, fun P F' M H s rm' st => ?_⟩
        obtain ⟨_, ws, g1, g2⟩ := rm'.mt a _ (show M a = some (.lst ds) from st)
        exact ⟨ws, .of g1, g2.unhide⟩
      | dic _ => cases e
      | fdc _ => cases e
      | dtc _ => cases e
      | ins _ _ => cases e
      | obj _ _ => cases e
  | _ => cases e
theorem real_L {a : Addr} {d : D} {ds : List D} (hst : ∀ P F' M H, Same F F' → RM (G.hide P) F' M H → stillAt d ds M → ∃ ws, SqL G.K H a ws ∧ RelDs G F' ws ds) : Real G F (Itl G.K a) ⟨ds, stillAt d ds⟩ := by
  intro P i F' M H s rm st
  obtain ⟨ws, hs, rs⟩ := hst P F' M H s rm st
  refine ⟨fun e he => ?_, fun hi => ⟨ws, hs, by rw [rs.len]; exact Nat.le_of_eq hi.symm⟩⟩
  obtain ⟨v, hv, r⟩ := rs.get he
  refine ⟨⟨ws, v, hs, hv⟩, fun x H' y => ?_⟩
  obtain ⟨e1, y⟩ := y
  subst e1
  have e2 := y ws hs
  rw [hv] at e2
  cases e2
  exact ⟨F', Same.refl _, rm, r⟩
theorem real_rev {a : Addr} {d : D} {ds : List D} (hst : ∀ P F' M H, Same F F' → RM (G.hide P) F' M H → stillAt d ds M → ∃ ws, SqL G.K H a ws ∧ RelDs G F' ws ds) : Real G F (Itv G.K a ds.length) ⟨ds.reverse, stillAt d ds⟩ := by
  intro P i F' M H s rm st
  obtain ⟨ws, hs, rs⟩ := hst P F' M H s rm st
  refine ⟨fun e he => ?_, fun hi => ?_⟩
  · have he : ds.reverse[i]? = some e := he
    have hi : i < ds.length := by
      have := (List.getElem?_eq_some_iff.mp he).1
      rw [List.length_reverse] at this
      exact this
    rw [List.getElem?_reverse hi] at he
    obtain ⟨v, hv, r⟩ := rs.get he
    refine ⟨⟨hi, ws, v, hs, hv⟩, fun x H' y => ?_⟩
    obtain ⟨e1, y⟩ := y
    subst e1
    have e2 := y ws hs
    rw [hv] at e2
    cases e2
    exact ⟨F', Same.refl _, rm, r⟩
  · have hi : i = ds.reverse.length := hi
    rw [List.length_reverse] at hi
    exact Nat.le_of_eq hi.symm
theorem real_T {a : Addr} {ds : List D} {vs : List V} (h : SqT G.K F a vs) (rs : RelDs G F vs ds) : Real G F (Itt G.K a) ⟨ds, fun _ => True⟩ := by
  intro P i F' M H s rm _
  have hs := same_t rm.fz (same_t s h)
  refine ⟨fun e he => ?_, fun hi => ⟨vs, hs, by rw [rs.len]; exact Nat.le_of_eq hi.symm⟩⟩
  obtain ⟨v, hv, r⟩ := (rs.mono s).get he
  refine ⟨⟨vs, v, hs, hv⟩, fun x H' y => ?_⟩
  obtain ⟨e1, y⟩ := y
  subst e1
  have e2 := y vs hs
  rw [hv] at e2
  cases e2
  exact ⟨F', Same.refl _, rm, r⟩
theorem real_S {z : Str} : Real G F (Its z) ⟨signs z, fun _ => True⟩ := by
  intro P i F' M H s rm _
  have hlen : (signs z).length = z.cps.size := by unfold signs; rw [List.length_map, Array.length_toList]
  refine ⟨fun d he => ?_, fun hi => by show z.cps.size ≤ i; rw [hi, ← hlen]; exact Nat.le_refl _⟩
  unfold signs at he
  rw [List.getElem?_map] at he
  cases q : z.cps.toList[i]? with
  | none => rw [q] at he; cases he
  | some c =>
    rw [q] at he
    cases he
    have hi : i < z.cps.size := by
      have := (List.getElem?_eq_some_iff.mp q).1
      rwa [Array.length_toList] at this
    refine ⟨hi, fun x H' y => ?_⟩
    obtain ⟨e1, c', hc, e2⟩ := y
    subst e1 e2
    rw [Array.getElem?_toList] at q
    rw [q] at hc
    cases hc
    exact ⟨F', Same.refl _, rm, .str _⟩
theorem real_rng {lo : Int} {n : Nat} : Real G F (Itr lo n) ⟨rng lo n, fun _ => True⟩ := by
  intro P i F' M H s rm _
  have hlen : (rng lo n).length = n := by unfold rng; rw [List.length_map, List.length_range]
  refine ⟨fun d he => ?_, fun hi => by show n ≤ i; rw [hi, hlen]; exact Nat.le_refl _⟩
  have hi : i < n := by
    have := (List.getElem?_eq_some_iff.mp he).1
    rwa [hlen] at this
  refine ⟨hi, fun x H' y => ?_⟩
  obtain ⟨e1, e2⟩ := y
  subst e1 e2
  unfold rng at he
  rw [List.getElem?_map, List.getElem?_range hi] at he
  cases he
  exact ⟨F', Same.refl _, rm, .int _⟩
theorem real_rngC {lo c : Int} {n : Nat} : Real G F (Itc lo c n) ⟨rngC lo c n, fun _ => True⟩ := by
  intro P i F' M H s rm _
  have hlen : (rngC lo c n).length = n := by unfold rngC; rw [List.length_map, List.length_range]
  refine ⟨fun d he => ?_, fun hi => by show n ≤ i; rw [hi, hlen]; exact Nat.le_refl _⟩
  have hi : i < n := by
    have := (List.getElem?_eq_some_iff.mp he).1
    rwa [hlen] at this
  refine ⟨hi, fun x H' y => ?_⟩
  obtain ⟨e1, e2⟩ := y
  subst e1 e2
  unfold rngC at he
  rw [List.getElem?_map, List.getElem?_range hi] at he
  cases he
  exact ⟨F', Same.refl _, rm, .int _⟩
theorem enum_get : ∀ {n i : Nat} {ds : List D} {d : D}, (enumD n ds)[i]? = some d → ∃ e, ds[i]? = some e ∧ d = .tup [.int ((n + i : Nat)), e]
  | _, _, [], _, h => by simp [enumD] at h
  | n, 0, e :: ds, d, h => by
    simp [enumD] at h
    exact ⟨e, rfl, by rw [← h]; simp⟩
  | n, i + 1, e :: ds, d, h => by
    have h : (enumD (n + 1) ds)[i]? = some d := by simpa [enumD] using h
    obtain ⟨e', h1, h2⟩ := enum_get h
    exact ⟨e', h1, by rw [h2]; congr 4; omega⟩
theorem enum_len : ∀ (n : Nat) (ds : List D), (enumD n ds).length = ds.length
  | _, [] => rfl
  | n, _ :: ds => congrArg Nat.succ (enum_len (n + 1) ds)
theorem real_enum {a : Addr} {d : D} {ds : List D} (hst : ∀ P F' M H, Same F F' → RM (G.hide P) F' M H → stillAt d ds M → ∃ ws, SqL G.K H a ws ∧ RelDs G F' ws ds) : Real G F (Ite G.K a) ⟨enumD 0 ds, stillAt d ds⟩ := by
  intro P i F' M H s rm st
  obtain ⟨ws, hs, rs⟩ := hst P F' M H s rm st
  refine ⟨fun e he => ?_, fun hi => ⟨ws, hs, by rw [rs.len]; rw [show (Wk.mk (enumD 0 ds) (stillAt d ds)).items = enumD 0 ds from rfl, enum_len] at hi; exact Nat.le_of_eq hi.symm⟩⟩
  obtain ⟨e', h1, h2⟩ := enum_get he
  subst h2
  obtain ⟨v, hv, r⟩ := rs.get h1
  refine ⟨⟨ws, v, hs, hv⟩, fun x H' y => ?_⟩
  obtain ⟨T, x', rfl, hT, rfl, hx⟩ := y
  have e2 := hx ws hs
  rw [hv] at e2
  cases e2
  have s2 := same_upd (o := .tup [.int (i : Nat), v]) (rm.freeF hT)
  refine ⟨upd F' T (.tup [.int (i : Nat), v]), s2, rm.frz hT, .tup (.inl upd_same) (.cons ?_ (.cons (r.mono s2) .nil))⟩
  rw [Nat.zero_add]
  exact .int _
theorem real_enumT {a : Addr} {vs : List V} {ds : List D} (h : SqT G.K F a vs) (rs : RelDs G F vs ds) : Real G F (IteT G.K a) ⟨enumD 0 ds, fun _ => True⟩ := by
  intro P i F' M H s rm _
  have hs := same_t rm.fz (same_t s h)
  refine ⟨fun e he => ?_, fun hi => ⟨vs, hs, by rw [rs.len]; rw [show (Wk.mk (enumD 0 ds) (fun _ => True)).items = enumD 0 ds from rfl, enum_len] at hi; exact Nat.le_of_eq hi.symm⟩⟩
  obtain ⟨e', h1, h2⟩ := enum_get he
  subst h2
  obtain ⟨v, hv, r⟩ := (rs.mono s).get h1
  refine ⟨⟨vs, v, hs, hv⟩, fun x H' y => ?_⟩
  obtain ⟨T, x', rfl, hT, rfl, hx⟩ := y
  have e2 := hx vs hs
  rw [hv] at e2
  cases e2
  have s2 := same_upd (o := .tup [.int (i : Nat), v]) (rm.freeF hT)
  refine ⟨upd F' T (.tup [.int (i : Nat), v]), s2, rm.frz hT, .tup (.inl upd_same) (.cons ?_ (.cons (r.mono s2) .nil))⟩
  rw [Nat.zero_add]
  exact .int _
theorem enum_inv {x : D} {M : Mem} {Q : Wk → Mem → Prop} (h : enumW x M Q) : (∃ ds, x = .tup ds ∧ Q ⟨enumD 0 ds, fun _ => True⟩ M) ∨ (∃ ds, asL M x = some ds ∧ Q ⟨enumD 0 ds, stillAt x ds⟩ M) := by
  unfold enumW at h
  split at h
  · exact .inl ⟨_, rfl, h⟩
  · split at h
    · exact .inr ⟨_, by assumption, h⟩
    · exact h.elim
theorem real_keys {a : Addr} {o : Obj} {vks : List (Key × V)} {kvs : List (Sum Int Str × D)} (h : F a = some (.frz o (.dK vks))) (rs : KVR G F vks kvs) : Real G F (Itk a o vks) ⟨kvs.map fun kv => kD kv.1, fun _ => True⟩ := by
  intro P i F' M H s rm _
  have hs := rm.fz _ _ (s _ _ h)
  refine ⟨fun e he => ?_, fun hi => ⟨hs, ?_⟩⟩
  · have he : (kvs.map fun kv => kD kv.1)[i]? = some e := he
    rw [List.getElem?_map] at he
    cases q : kvs[i]? with
    | none => rw [q] at he; cases he
    | some kv =>
      rw [q] at he
      cases he
      obtain ⟨v, hv⟩ := rs.get9 q
      have hl := (List.getElem?_eq_some_iff.mp hv).1
      refine ⟨⟨hs, hl⟩, fun x H' y => ?_⟩
      obtain ⟨e1, k, v', h1, h2⟩ := y
      subst e1 h2
      rw [hv] at h1
      cases h1
      refine ⟨F', Same.refl _, rm, ?_⟩
      obtain ⟨k, d⟩ := kv
      cases k with
      | inl i => exact .int i
      | inr z => exact .str z
  · have hi : i = (kvs.map fun kv => kD kv.1).length := hi
    rw [List.length_map] at hi
    rw [rs.len]
    omega
theorem zip_get : ∀ {i : Nat} {ds es : List D} {d : D}, (zipD ds es)[i]? = some d → ∃ x y, ds[i]? = some x ∧ es[i]? = some y ∧ d = .tup [x, y]
  | _, [], _, _, h => by simp [zipD] at h
  | _, _ :: _, [], _, h => by simp [zipD] at h
  | 0, x :: ds, y :: es, d, h => by
    simp [zipD] at h
    exact ⟨x, y, rfl, rfl, h.symm⟩
  | i + 1, x :: ds, y :: es, d, h => by
    have h : (zipD ds es)[i]? = some d := by simpa [zipD] using h
    obtain ⟨x', y', h1, h2, h3⟩ := zip_get h
    exact ⟨x', y', h1, h2, h3⟩
theorem zip_len : ∀ (ds es : List D), (zipD ds es).length = min ds.length es.length
  | [], _ => by simp [zipD]
  | _ :: _, [] => by simp [zipD]
  | _ :: ds, _ :: es => by simp [zipD, zip_len ds es, Nat.succ_min_succ]
theorem real_zip {a b : Addr} {d e : D} {ds es : List D} (hst : ∀ P F' M H, Same F F' → RM (G.hide P) F' M H → stillAt d ds M → ∃ ws, SqL G.K H a ws ∧ RelDs G F' ws ds)
    (hst2 : ∀ P F' M H, Same F F' → RM (G.hide P) F' M H → stillAt e es M → ∃ ws, SqL G.K H b ws ∧ RelDs G F' ws es) : Real G F (Itz G.K a b) ⟨zipD ds es, fun M => stillAt d ds M ∧ stillAt e es M⟩ := by
  intro P i F' M H s rm ⟨st1, st2⟩
  obtain ⟨ws, hs, rs⟩ := hst P F' M H s rm st1
  obtain ⟨us, hs2, rs2⟩ := hst2 P F' M H s rm st2
  refine ⟨fun t ht => ?_, fun hi => ⟨ws, us, hs, hs2, ?_⟩⟩
  · obtain ⟨x, y, h1, h2, h3⟩ := zip_get ht
    subst h3
    obtain ⟨v, hv, r⟩ := rs.get h1
    obtain ⟨u, hu, r2⟩ := rs2.get h2
    refine ⟨⟨ws, us, v, u, hs, hs2, hv, hu⟩, fun x H' y => ?_⟩
    obtain ⟨T, x', y', rfl, hT, rfl, hx, hy⟩ := y
    have e2 := hx ws hs
    have e3 := hy us hs2
    rw [hv] at e2
    rw [hu] at e3
    cases e2
    cases e3
    have s2 := same_upd (o := .tup [v, u]) (rm.freeF hT)
    exact ⟨upd F' T (.tup [v, u]), s2, rm.frz hT, .tup (.inl upd_same) (.cons (r.mono s2) (.cons (r2.mono s2) .nil))⟩
  · have hi : i = min ds.length es.length := by rw [← zip_len]; exact hi
    rw [rs.len, rs2.len]
    omega
theorem real_zipT {a b : Addr} {vs ws : List V} {ds es : List D} (h : SqT G.K F a vs) (rs : RelDs G F vs ds) (h2 : SqT G.K F b ws) (rs2 : RelDs G F ws es) : Real G F (RZ.ItzT G.K a b) ⟨zipD ds es, fun _ => True⟩ := by
  intro P i F' M H s rm _
  have hs := same_t rm.fz (same_t s h)
  have hs2 := same_t rm.fz (same_t s h2)
  refine ⟨fun t ht => ?_, fun hi => ⟨vs, ws, hs, hs2, ?_⟩⟩
  · obtain ⟨x, y, h1, h2, h3⟩ := zip_get ht
    subst h3
    obtain ⟨v, hv, r⟩ := (rs.mono s).get h1
    obtain ⟨u, hu, r2⟩ := (rs2.mono s).get h2
    refine ⟨⟨vs, ws, v, u, hs, hs2, hv, hu⟩, fun x H' y => ?_⟩
    obtain ⟨T, x', y', rfl, hT, rfl, hx, hy⟩ := y
    have e2 := hx vs hs
    have e3 := hy ws hs2
    rw [hv] at e2
    rw [hu] at e3
    cases e2
    cases e3
    have s2 := same_upd (o := .tup [v, u]) (rm.freeF hT)
    exact ⟨upd F' T (.tup [v, u]), s2, rm.frz hT, .tup (.inl upd_same) (.cons (r.mono s2) (.cons (r2.mono s2) .nil))⟩
  · have hi : i = min ds.length es.length := by rw [← zip_len]; exact hi
    rw [rs.len, rs2.len]
    omega
theorem zip_inv {x y : D} {M : Mem} {Q : Wk → Mem → Prop} (h : zipW x y M Q) : (∃ ds es, x = .tup ds ∧ y = .tup es ∧ Q ⟨zipD ds es, fun _ => True⟩ M) ∨ (∃ ds es, asL M x = some ds ∧ asL M y = some es ∧ Q ⟨zipD ds es, fun M => stillAt x ds M ∧ stillAt y es M⟩ M) := by
  unfold zipW at h
  split at h
  · exact .inl ⟨_, _, rfl, rfl, h⟩
  · split at h
    · exact .inr ⟨_, _, by assumption, by assumption, h⟩
    · exact h.elim
end
end Wp

/-! WpS7: targets, comprehensions. -/
namespace Wp
open PySem PySem.Spec PyProof.Rows L2

/-! ### targets -/
def OffT (t : Tg) (σ σ' : L2.St) : Prop := σ'.length = σ.length ∧ ∀ j, j ∉ slots t → σ'[j]? = σ[j]?
def liftG (G : Gx) (t : Tg) : TG := fun v σ H Q => ∃ F M env d Qe, RM G F M H ∧ EnvR G F env σ ∧ RelD G F v d ∧ tgW t d env Qe ∧ ∀ env' σ', EnvR G F env' σ' → OffT t σ σ' → Qe env' → Q σ' H
def liftGs (G : Gx) (t : Tg) : TGs := fun vs σ H Q => ∃ F M env ds Qe, RM G F M H ∧ EnvR G F env σ ∧ RelDs G F vs ds ∧ tgsW t ds env Qe ∧ ∀ env' σ', EnvR G F env' σ' → OffT t σ σ' → Qe env' → Q σ' H
theorem PG.imp {X : Cx} {e : Expr} {t t' : TG} (h : PG X e t) (hi : ∀ v σ H Q, t' v σ H Q → t v σ H Q) : PG X e t' := ⟨fun pins s σ H v u Q I r q => h.run pins s σ H v u Q I r (hi _ _ _ _ q)⟩
theorem PGs.imp {X : Cx} {e : List Expr} {t t' : TGs} (h : PGs X e t) (hi : ∀ v σ H Q, t' v σ H Q → t v σ H Q) : PGs X e t' := ⟨fun pins s σ H v u Q I r q => h.run pins s σ H v u Q I r (hi _ _ _ _ q)⟩
theorem asg_ok {e : Expr} {es : List Expr} {env : PySem.Env} (h : noStar e = true) : assignEach (e :: es) env = (false, assign e env) :: assignEach es env := by
  cases e <;> first | rfl | cases h
theorem asg_len {N : List Str} {sc : Scope} {top : Str → Bool} {env : PySem.Env} : ∀ {t : Tg} {es : List Expr}, chkGs N sc top t es = true → (assignEach es env).length = es.length ∧ (assignEach es env).findIdx? (·.1) = none
  | .no, [], _ => ⟨rfl, rfl⟩
  | .no, _ :: _, h => by cases h
  | .nm _, es, h => by cases h
  | .co t ts, [], h => by cases h
  | .co t ts, e :: es, h => by
    have h : (chkG N sc top t e && noStar e && chkGs N sc top ts es) = true := h
    rw [Bool.and_eq_true, Bool.and_eq_true] at h
    obtain ⟨⟨_, h2⟩, h3⟩ := h
    obtain ⟨i1, i2⟩ := asg_len (env := env) h3
    rw [asg_ok h2]
    refine ⟨congrArg Nat.succ i1, ?_⟩
    rw [List.findIdx?_cons]
    simp [i2]
theorem loc_of {X : Cx} {sc : Scope} {top : Str → Bool} {x : Str} (hs : X.env.scope = sc) (hf : ∀ y, top y = true → X.fn y = true) (h : locB sc top x = true) : Loc X.env.scope x ∧ (X.fn x = true ∨ X.env.scope.names.lookup x = some .local) := by
  unfold locB at h
  split at h
  · rename_i e
    refine ⟨?_, .inr ?_⟩
    · rw [hs]; exact .inl e
    · rw [hs]; exact e
  · rename_i e
    refine ⟨?_, .inl ?_⟩
    · rw [hs]; exact .inr e
    · exact hf _ h
  · cases h
section
variable {G : Gx} {X : Cx} {N : List Str} {sc : Scope} {top : Str → Bool}
theorem off_refl {t : Tg} {σ : L2.St} : OffT t σ σ := ⟨rfl, fun _ _ => rfl⟩
theorem off_trans {t ts : Tg} {σ σ1 σ2 : L2.St} (a : OffT t σ σ1) (b : OffT ts σ1 σ2) : OffT (.co t ts) σ σ2 := by
  refine ⟨b.1.trans a.1, fun j hj => ?_⟩
  have hj : j ∉ slots t ++ slots ts := hj
  rw [List.mem_append, not_or] at hj
  exact (b.2 j hj.2).trans (a.2 j hj.1)
mutual
theorem tg_ex : ∀ (t : Tg) {d : D} {env : Env} {Q : Env → Prop}, tgW t d env Q → ∃ e, Q e
  | .nm i, _, _, _, h => ⟨_, h⟩
  | .no, d, env, Q, h => by
    unfold tgW at h
    split at h
    · exact ⟨_, h⟩
    · exact ⟨_, h⟩
    · exact h.elim
  | .co t ts, d, env, Q, h => by
    unfold tgW at h
    split at h
    · obtain ⟨e, h2⟩ := tg_ex t h
      exact tgs_ex ts h2
    · obtain ⟨e, h2⟩ := tg_ex t h
      exact tgs_ex ts h2
    · exact h.elim
theorem tgs_ex : ∀ (t : Tg) {ds : List D} {env : Env} {Q : Env → Prop}, tgsW t ds env Q → ∃ e, Q e
  | .nm _, ds, _, _, h => by cases ds <;> exact (show False from h).elim
  | .no, ds, env, Q, h => by
    cases ds with
    | nil => exact ⟨_, h⟩
    | cons a b => exact (show False from h).elim
  | .co t ts, ds, env, Q, h => by
    cases ds with
    | nil => exact (show False from h).elim
    | cons d ds =>
      obtain ⟨e, h2⟩ := tg_ex t (show tgW t d env (fun e => tgsW ts ds e Q) from h)
      exact tgs_ex ts h2
end
/-- a tuple is as long as its target -/
theorem tgs_len : ∀ {t : Tg} {es : List Expr} {ds : List D} {env : Env} {Q : Env → Prop}, chkGs N sc top t es = true → tgsW t ds env Q → ds.length = es.length
  | .nm _, _, _, _, _, h, _ => by cases h
  | .no, es, ds, _, _, h, q => by
    cases es with
    | nil => cases ds with
      | nil => rfl
      | cons a b => exact (show False from q).elim
    | cons a b => cases h
  | .co t ts, es, ds, env, Q, h, q => by
    cases es with
    | nil => cases h
    | cons e es =>
      cases ds with
      | nil => exact (show False from q).elim
      | cons d ds =>
        have h : (chkG N sc top t e && noStar e && chkGs N sc top ts es) = true := h
        rw [Bool.and_eq_true, Bool.and_eq_true] at h
        obtain ⟨e', q2⟩ := tg_ex t (show tgW t d env (fun e => tgsW ts ds e Q) from q)
        exact congrArg Nat.succ (tgs_len h.2 q2)
theorem PG.or {X : Cx} {e : Expr} {t t' : TG} (h : PG X e t) (h' : PG X e t') : PG X e (fun v σ H Q => t v σ H Q ∨ t' v σ H Q) :=
  ⟨fun pins s σ H v u Q I r q => q.elim (h.run pins s σ H v u Q I r) (h'.run pins s σ H v u Q I r)⟩
mutual
theorem snd_G (hK : X.K = G.K) (hN : X.N = N) (nd : X.N.Nodup) (hs : X.env.scope = sc) (hc : X.calm = true) (hf : ∀ y, top y = true → X.fn y = true) : ∀ (t : Tg) {e : Expr}, chkG N sc top t e = true → PG X e (liftG G t)
  | .nm i, e, h => by
    unfold chkG at h
    split at h
    · rename_i x p
      rw [Bool.and_eq_true] at h
      obtain ⟨h1, h2⟩ := loc_of hs hf h.2
      refine PG.imp (pg_name nd (by rw [hN]; exact of_decide_eq_true h.1) h1 h2) fun v σ H Q ⟨F, M, env, d, Qe, rm, er, r, q, k⟩ => ?_
      refine k _ _ (er.set r) ⟨List.length_set, fun j hj => ?_⟩ q
      have : i ≠ j := fun z => hj (by subst z; exact List.mem_singleton.mpr rfl)
      exact List.getElem?_set_ne this
    · cases h
  | .no, e, h => by
    unfold chkG at h
    split at h
    · refine PG.imp (PG.or (pg_tup hc pgs_nil rfl rfl) (pg_lst hc pgs_nil rfl rfl)) fun v σ H Q ⟨F, M, env, d, Qe, rm, er, r, q, k⟩ => ?_
      unfold tgW at q
      split at q
      · obtain ⟨p, vs, rfl, g1, g2⟩ := rd_T rm r
        cases g2
        exact .inl ⟨p, [], rfl, by rw [hK]; exact g1, rfl, rfl, k _ _ er off_refl q⟩
      · obtain ⟨p, vs, rfl, g1, g2⟩ := rd_L rm r rfl
        cases g2
        exact .inr ⟨p, [], rfl, by rw [hK]; exact g1, rfl, rfl, k _ _ er off_refl q⟩
      · exact q.elim
    · cases h
  | .co t ts, e, h => by
    unfold chkG at h
    split at h
    · rename_i e es k0 p
      have hh : chkGs N sc top (.co t ts) (e :: es) = true := h
      rw [Bool.and_eq_true, Bool.and_eq_true] at h
      obtain ⟨⟨h1, h2⟩, h3⟩ := h
      obtain ⟨l1, l2⟩ := asg_len (env := X.env) hh
      have gs := pgs_cons (snd_G hK hN nd hs hc hf t h1) (snd_Gs hK hN nd hs hc hf ts h3) (by rw [asg_ok h2]; rfl)
      refine PG.imp (PG.or (pg_tup hc gs l1 l2) (pg_lst hc gs l1 l2)) fun v σ H Q ⟨F, M, env, d, Qe, rm, er, r, q, k⟩ => ?_
      unfold tgW at q
      split at q
      · rename_i d ds
        obtain ⟨p, vs, rfl, g1, g2⟩ := rd_T rm r
        obtain ⟨_, qq⟩ := tg_ex t q
        have hl : vs.length = (e :: es).length := by
          rw [g2.len]
          exact congrArg Nat.succ (tgs_len h3 qq)
        cases g2 with
        | cons a b =>
          refine .inl ⟨p, _, rfl, by rw [hK]; exact g1, hl, _, _, rfl, F, M, env, _, _, rm, er, a, q, fun env' σ' er' o1 q' => ?_⟩
          exact ⟨F, M, env', _, Qe, rm, er', b, q', fun env2 σ2 er2 o2 q2 => k _ _ er2 (off_trans o1 o2) q2⟩
      · rename_i d ds
        obtain ⟨p, vs, rfl, g1, g2⟩ := rd_L rm r rfl
        obtain ⟨_, qq⟩ := tg_ex t q
        have hl : vs.length = (e :: es).length := by
          rw [g2.len]
          exact congrArg Nat.succ (tgs_len h3 qq)
        cases g2 with
        | cons a b =>
          refine .inr ⟨p, _, rfl, by rw [hK]; exact g1, hl, _, _, rfl, F, M, env, _, _, rm, er, a, q, fun env' σ' er' o1 q' => ?_⟩
          exact ⟨F, M, env', _, Qe, rm, er', b, q', fun env2 σ2 er2 o2 q2 => k _ _ er2 (off_trans o1 o2) q2⟩
      · exact q.elim
    · cases h
theorem snd_Gs (hK : X.K = G.K) (hN : X.N = N) (nd : X.N.Nodup) (hs : X.env.scope = sc) (hc : X.calm = true) (hf : ∀ y, top y = true → X.fn y = true) : ∀ (t : Tg) {es : List Expr}, chkGs N sc top t es = true → PGs X es (liftGs G t)
  | .no, es, h => by
    cases es with
    | nil =>
      refine PGs.imp pgs_nil fun v σ H Q ⟨F, M, env, d, Qe, rm, er, r, q, k⟩ => ?_
      cases r with
      | nil => exact ⟨rfl, k _ _ er off_refl q⟩
      | cons a b => exact (show False from q).elim
    | cons a b => cases h
  | .nm _, es, h => by cases h
  | .co t ts, es, h => by
    cases es with
    | nil => cases h
    | cons e es =>
      have h : (chkG N sc top t e && noStar e && chkGs N sc top ts es) = true := h
      rw [Bool.and_eq_true, Bool.and_eq_true] at h
      obtain ⟨⟨h1, h2⟩, h3⟩ := h
      refine PGs.imp (pgs_cons (snd_G hK hN nd hs hc hf t h1) (snd_Gs hK hN nd hs hc hf ts h3) (by rw [asg_ok h2]; rfl)) fun v σ H Q ⟨F, M, env, d, Qe, rm, er, r, q, k⟩ => ?_
      cases r with
      | nil => exact (show False from q).elim
      | cons a b =>
        refine ⟨_, _, rfl, F, M, env, _, _, rm, er, a, q, fun env' σ' er' o1 q' => ?_⟩
        exact ⟨F, M, env', _, Qe, rm, er', b, q', fun env2 σ2 er2 o2 q2 => k _ _ er2 (off_trans o1 o2) q2⟩
end
end
end Wp

/-! WpS8: that the tree is enough for the text: comprehensions, expressions. -/
namespace Wp
open PySem PySem.Spec PyProof.Rows L2
theorem PE.ex {X : Cx} {e : Expr} {ι : Type} {t : ι → TE} (h : ∀ i, PE X e (t i)) : PE X e (fun σ H Q => ∃ i, t i σ H Q) := ⟨fun pins s σ H Q I ⟨i, q⟩ => (h i).run pins s σ H Q I q⟩
theorem PG.ex {X : Cx} {e : Expr} {ι : Type} {t : ι → TG} (h : ∀ i, PG X e (t i)) : PG X e (fun v σ H Q => ∃ i, t i v σ H Q) := ⟨fun pins s σ H v u Q I r ⟨i, q⟩ => (h i).run pins s σ H v u Q I r q⟩
theorem PTs.ex {X : Cx} {e : List Expr} {ι : Type} {t : ι → TT} (h : ∀ i, PTs X e (t i)) : PTs X e (fun σ H Q => ∃ i, t i σ H Q) := ⟨fun pins s σ H Q I ⟨i, q⟩ => (h i).run pins s σ H Q I q⟩
theorem PTs.imp {X : Cx} {e : List Expr} {t t' : TT} (h : PTs X e t) (hi : ∀ σ H Q, t' σ H Q → t σ H Q) : PTs X e t' := ⟨fun pins s σ H Q I q => h.run pins s σ H Q I (hi _ _ _ q)⟩
theorem PW.imp {X : Cx} {e : Expr} {t t' : TT} (h : L2.PW X e t) (hi : ∀ σ H Q, t' σ H Q → t σ H Q) : L2.PW X e t' := ⟨fun wh pins s σ H Q I q => h.run wh pins s σ H Q I (hi _ _ _ q)⟩

/-! ### a hidden thing -/
theorem ins_hide {G : Gx} {P F H H' : Hp} {a : Addr} {c : Nat} {fs : List (Str × D)} (e : H' a = H a) (h : RelOb G F H a (.ins c fs)) : RelOb (G.hide P) F H' a (.ins c fs) := by
  obtain ⟨C, dd, h1, h2, h3⟩ := h
  refine ⟨C, dd, h1, e.trans h2, ?_⟩
  rcases h3 with h3 | ⟨d, fvs, h4, h5, h6⟩
  · exact .inl h3
  · exact .inr ⟨d, fvs, h4, h5, Paired.mapP h6 fun p q z => ⟨z.1, z.2.hide P⟩⟩
theorem obj_hide {G : Gx} {P F H H' : Hp} {a : Addr} {c : Nat} {fs : List (Str × D)} (e : H' a = H a) (h : RelOb G F H a (.obj c fs)) : RelOb (G.hide P) F H' a (.obj c fs) := by
  obtain ⟨C, dx, fvs, h1, h2, h3⟩ := h
  exact ⟨C, dx, fvs, h1, e.trans h2, Paired.mapP h3 fun p q z => ⟨z.1, z.2.hide P⟩⟩
theorem obj_unhide {G : Gx} {P F H : Hp} {a : Addr} {c : Nat} {fs : List (Str × D)} (h : RelOb (G.hide P) F H a (.obj c fs)) : RelOb G F H a (.obj c fs) := obj_hide (G := G.hide P) (P := G.P) rfl h
theorem ins_unhide {G : Gx} {P F H : Hp} {a : Addr} {c : Nat} {fs : List (Str × D)} (h : RelOb (G.hide P) F H a (.ins c fs)) : RelOb G F H a (.ins c fs) := ins_hide (G := G.hide P) (P := G.P) rfl h
section
variable {G : Gx} {F H : Hp} {M : Mem} {P : Hp} {dd : Addr} {o o' : HO}
theorem RM.hid (r : RM G F M H) (hD : H dd = none) : RM (G.hide (upd G.P dd o)) F M (upd H dd o) := by
  have nF := r.freeF hD
  have nM := r.freeM hD
  refine ⟨fun b u e => by rw [upd_ne (ne_of_none e nF)]; exact r.fz b u e, fun a ob e => ?_, fun a u e => ?_⟩
  · obtain ⟨h1, h2⟩ := r.mt a ob e
    have ne : a ≠ dd := fun z => by rw [z, nM] at e; cases e
    refine ⟨h1, ?_⟩
    cases ob with
    | lst ds => obtain ⟨vs, h3, h4⟩ := h2; exact ⟨vs, (upd_ne ne).trans h3, h4.hide _⟩
    | dic ds => obtain ⟨vs, h3, h4⟩ := h2; exact ⟨vs, (upd_ne ne).trans h3, h4.hide _⟩
    | fdc ds => obtain ⟨o, vs, h0, h3, h4⟩ := h2; exact ⟨o, vs, h0, (upd_ne ne).trans h3, h4.hide _⟩
    | dtc ds => obtain ⟨vs, h3, h4⟩ := h2; exact ⟨vs, (upd_ne ne).trans h3, h4.hide _⟩
    | ins _ _ => exact ins_hide (upd_ne ne) h2
    | obj _ _ => exact obj_hide (upd_ne ne) h2
  · have e : upd G.P dd o a = some u := e
    by_cases ha : a = dd
    · subst ha
      rw [upd_same] at e
      cases e
      exact ⟨upd_same, nF, nM⟩
    · rw [upd_ne ha] at e
      rw [upd_ne ha]
      exact r.hd a u e
/-- .. changed -/
theorem RM.rehid (r : RM (G.hide (upd P dd o)) F M H) : RM (G.hide (upd P dd o')) F M (upd H dd o') := by
  obtain ⟨h0, nF, nM⟩ := r.hd dd o upd_same
  refine ⟨fun b u e => by rw [upd_ne (ne_of_none e nF)]; exact r.fz b u e, fun a ob e => ?_, fun a u e => ?_⟩
  · obtain ⟨h1, h2⟩ := r.mt a ob e
    have ne : a ≠ dd := fun z => by rw [z, nM] at e; cases e
    refine ⟨h1, ?_⟩
    cases ob with
    | lst ds => obtain ⟨vs, h3, h4⟩ := h2; exact ⟨vs, (upd_ne ne).trans h3, (h4.unhide).hide _⟩
    | dic ds => obtain ⟨vs, h3, h4⟩ := h2; exact ⟨vs, (upd_ne ne).trans h3, (h4.unhide).hide _⟩
    | fdc ds => obtain ⟨o, vs, h0, h3, h4⟩ := h2; exact ⟨o, vs, h0, (upd_ne ne).trans h3, (h4.unhide).hide _⟩
    | dtc ds => obtain ⟨vs, h3, h4⟩ := h2; exact ⟨vs, (upd_ne ne).trans h3, (h4.unhide).hide _⟩
    | ins _ _ => exact ins_hide (upd_ne ne) (ins_unhide h2)
    | obj _ _ => exact obj_hide (upd_ne ne) (obj_unhide h2)
  · have e : upd P dd o' a = some u := e
    by_cases ha : a = dd
    · subst ha
      rw [upd_same] at e
      cases e
      exact ⟨upd_same, nF, nM⟩
    · rw [upd_ne ha] at e
      rw [upd_ne ha]
      exact r.hd a u (by show upd P dd o a = some u; rw [upd_ne ha]; exact e)
/-- .. told: it stays from here on, or may change -/
theorem RM.told {vs : List V} (hP : G.P dd = none) (r : RM (G.hide (upd G.P dd (.lst vs))) F M H) : F dd = none ∧ RM G (upd F dd (.lst vs)) M H := by
  obtain ⟨h0, nF, nM⟩ := r.hd dd _ upd_same
  have s := same_upd (o := .lst vs) nF
  refine ⟨nF, fun b u e => ?_, fun a ob e => ?_, fun a u e => ?_⟩
  · by_cases hb : b = dd
    · subst hb; rw [upd_same] at e; cases e; exact h0
    · rw [upd_ne hb] at e; exact r.fz b u e
  · obtain ⟨h1, h2⟩ := r.mt a ob e
    have ne : a ≠ dd := fun z => by rw [z, nM] at e; cases e
    refine ⟨fun t => by rw [upd_ne ne]; exact h1 t, ?_⟩
    cases ob with
    | lst ds => obtain ⟨vs, h3, h4⟩ := h2; exact ⟨vs, h3, h4.unhide.mono s⟩
    | dic ds => obtain ⟨vs, h3, h4⟩ := h2; exact ⟨vs, h3, h4.unhide.mono s⟩
    | fdc ds => obtain ⟨o, vs, h0, h3, h4⟩ := h2; exact ⟨o, vs, s _ _ h0, h3, h4.unhide.mono s⟩
    | dtc ds => obtain ⟨vs, h3, h4⟩ := h2; exact ⟨vs, h3, h4.unhide.mono s⟩
    | ins _ _ => exact (ins_unhide h2).at s rfl
    | obj _ _ => exact (obj_unhide h2).at s rfl
  · have ne : a ≠ dd := fun z => by rw [z, hP] at e; cases e
    obtain ⟨g1, g2, g3⟩ := r.hd a u (by show upd G.P dd _ a = some u; rw [upd_ne ne]; exact e)
    exact ⟨g1, by rw [upd_ne ne]; exact g2, g3⟩
theorem RM.toldM {vs : List V} {ds : List D} (hP : G.P dd = none) (r : RM (G.hide (upd G.P dd (.lst vs))) F M H) (rs : RelDs G F vs ds) : M dd = none ∧ RM G F (M.upd dd (.lst ds)) H := by
  obtain ⟨h0, nF, nM⟩ := r.hd dd _ upd_same
  refine ⟨nM, r.fz, fun a ob e => ?_, fun a u e => ?_⟩
  · unfold Mem.upd at e
    by_cases ha : a = dd
    · subst ha; rw [if_pos rfl] at e; cases e; exact ⟨fun _ => nF, vs, h0, rs⟩
    · rw [if_neg ha] at e
      obtain ⟨h1, h2⟩ := r.mt a ob e
      refine ⟨h1, ?_⟩
      cases ob with
      | lst ds => obtain ⟨vs, h3, h4⟩ := h2; exact ⟨vs, h3, h4.unhide⟩
      | dic ds => obtain ⟨vs, h3, h4⟩ := h2; exact ⟨vs, h3, h4.unhide⟩
      | fdc ds => obtain ⟨o, vs, h0, h3, h4⟩ := h2; exact ⟨o, vs, h0, h3, h4.unhide⟩
      | dtc ds => obtain ⟨vs, h3, h4⟩ := h2; exact ⟨vs, h3, h4.unhide⟩
      | ins _ _ => exact ins_unhide h2
      | obj _ _ => exact obj_unhide h2
  · have ne : a ≠ dd := fun z => by rw [z, hP] at e; cases e
    obtain ⟨g1, g2, g3⟩ := r.hd a u (by show upd G.P dd _ a = some u; rw [upd_ne ne]; exact e)
    refine ⟨g1, g2, ?_⟩
    unfold Mem.upd
    rw [if_neg ne]
    exact g3
end

/-! ### the block's own names -/
theorem wipe_get (σ : L2.St) (j : Nat) : ∀ vs : List Nat, (L2.wipe σ vs)[j]? = if j ∈ vs ∧ j < σ.length then some none else σ[j]?
  | [] => by simp [L2.wipe]
  | v :: vs => by
    show ((L2.wipe σ vs).set v none)[j]? = _
    have ih := wipe_get σ j vs
    have hl := L2.wipe_length σ vs
    by_cases hv : v = j
    · subst hv
      by_cases hlt : v < σ.length
      · rw [List.getElem?_set_self (by rw [hl]; exact hlt), if_pos ⟨List.mem_cons_self, hlt⟩]
      · rw [List.getElem?_eq_none (by rw [List.length_set, hl]; omega), if_neg (fun z => hlt z.2), List.getElem?_eq_none (by omega)]
    · rw [List.getElem?_set_ne hv, ih]
      have : (j ∈ v :: vs) ↔ j ∈ vs := by
        rw [List.mem_cons]
        exact ⟨fun z => z.resolve_left (fun e => hv e.symm), .inr⟩
      simp only [this]
theorem wipe_off {σ σ2 : L2.St} {vs : List Nat} {t : Tg} (h : OffT t (L2.wipe σ vs) σ2) (hs : ∀ i ∈ slots t, i ∈ vs) : L2.wipe σ2 vs = L2.wipe σ vs := by
  have hl : σ2.length = σ.length := h.1.trans (L2.wipe_length σ vs)
  apply List.ext_getElem?
  intro j
  rw [wipe_get, wipe_get, hl]
  by_cases hj : j ∈ vs ∧ j < σ.length
  · rw [if_pos hj, if_pos hj]
  · rw [if_neg hj, if_neg hj]
    by_cases hm : j ∈ slots t
    · have hv := hs j hm
      have hge : ¬ j < σ.length := fun z => hj ⟨hv, z⟩
      rw [List.getElem?_eq_none (by omega), List.getElem?_eq_none (by omega)]
    · rw [h.2 j hm, wipe_get, if_neg hj]

section
variable {G : Gx} {W : WX} {X : Cx}
/-- THE COMPREHENSION: from the walk, the target, the test, the thing made -/
theorem comp_read {fr : Bool} {own : List Nat} {tg : Tg} {wi : Env → Mem → (Wk → Mem → Prop) → XQ → Prop} {wc : Env → Mem → BK → XQ → Prop} {we : Env → Mem → QK → XQ → Prop} (hsl : ∀ i ∈ slots tg, i ∈ own) {σ : L2.St} {H : Hp} {Q : VK}
    (h : liftE G W (fun env M Q E => wi env M (fun w M1 =>
      compW (fun d e M Q => tgW tg d e fun e' => wc e' M (fun b M1 => match b with
        | true => we e' M1 (fun y M2 => Q (some y) M2) fun _ _ => False
        | false => Q none M1) fun _ _ => False) w.still (wipeE env own) w.items [] M1 fun ds M2 => newL fr ds M2 Q) E) σ H Q) :
    tLc (liftW G W wi) (fun v σ H Q => ∃ P : Hp, liftG (G.hide P) tg v σ H Q) (fun σ H Q => ∃ P : Hp, liftT (G.hide P) (fun _ _ _ _ => False) wc σ H Q) (fun σ H Q => ∃ P : Hp, liftE (G.hide P) (fun _ _ _ _ => False) we σ H Q) own σ H Q := by
  obtain ⟨F, M, env, q, e, rm, er, cn, cx, h⟩ := h
  refine ⟨F, M, env, _, e, rm, er, fun F1 M1 H1 wk J s1 rm1 real hq => ?_, cx, h⟩
  intro Dn hDn
  have hPn : G.P Dn = none := by
    cases z : G.P Dn with
    | none => rfl
    | some u =>
      have := (rm1.hd Dn u z).1
      rw [hDn] at this; cases this
  have er1 := (er.mono s1).wipe own
  refine ⟨fun i m H' => m = wk.items.length - i ∧ i ≤ wk.items.length ∧ ∃ F2 M2 acc accV, Same F1 F2 ∧ RM (G.hide (upd G.P Dn (.lst accV))) F2 M2 H' ∧ RelDs G F2 accV acc ∧
    compW (fun d e M Q => tgW tg d e fun e' => wc e' M (fun b M1 => match b with
        | true => we e' M1 (fun y M2 => Q (some y) M2) fun _ _ => False
        | false => Q none M1) fun _ _ => False) wk.still (wipeE env own) (wk.items.drop i) acc M2 (fun ds M2 => newL fr ds M2 q),
    ⟨wk.items.length, rfl, Nat.zero_le _, F1, M1, [], [], Same.refl _, rm1.hid hDn, .nil, hq⟩, ?_⟩
  rintro i m H' ⟨rfl, hi, F2, M2, acc, accV, s2, rm2, rs, cw⟩
  by_cases hlt : i < wk.items.length
  · -- one turn
    rw [List.drop_eq_getElem_cons hlt] at cw
    obtain ⟨st, cw⟩ := cw
    obtain ⟨rl, _⟩ := real (upd G.P Dn (.lst accV)) i F2 M2 H' s2 rm2 st
    obtain ⟨go, yl⟩ := rl wk.items[i] (List.getElem?_eq_getElem hlt)
    refine .inr ⟨go, fun H'' => ∃ F2 M2 acc accV, Same F1 F2 ∧ RM (G.hide (upd G.P Dn (.lst accV))) F2 M2 H'' ∧ RelDs G F2 accV acc ∧
      compW (fun d e M Q => tgW tg d e fun e' => wc e' M (fun b M1 => match b with
        | true => we e' M1 (fun y M2 => Q (some y) M2) fun _ _ => False
        | false => Q none M1) fun _ _ => False) wk.still (wipeE env own) (wk.items.drop (i + 1)) acc M2 (fun ds M2 => newL fr ds M2 q), fun H'' x => ⟨_, by omega, rfl, hlt, x⟩, fun x H3 y => ?_⟩
    obtain ⟨F3, s3, rm3, r3⟩ := yl x H3 y
    have er3 : EnvR (G.hide (upd G.P Dn (.lst accV))) F3 (wipeE env own) (L2.wipe σ own) := ⟨(er1.mono (s2.trans s3)).len, fun i d e => by
      obtain ⟨v, h1, h2⟩ := (er1.mono (s2.trans s3)).at_ i d e
      exact ⟨v, h1, h2.hide _⟩⟩
    refine ⟨upd G.P Dn (.lst accV), F3, M2, _, _, _, rm3, er3, r3.hide _, cw, fun env' σ' er' off cw => ?_⟩
    refine ⟨wipe_off off hsl, upd G.P Dn (.lst accV), F3, M2, env', _, _, rm3, er', fun F4 M4 H4 b s4 rm4 cw => ?_, fun _ _ _ _ _ _ _ _ _ z => z, cw⟩
    cases b with
    | false =>
      rw [if_neg Bool.false_ne_true]
      exact ⟨F4, M4, acc, accV, s2.trans (s3.trans s4), rm4, rs.mono (s3.trans s4), cw⟩
    | true =>
      rw [if_pos rfl]
      refine ⟨upd G.P Dn (.lst accV), F4, M4, env', _, _, rm4, er'.mono s4, fun F5 M5 H5 v d s5 rm5 r5 cw => ?_, fun _ _ _ _ _ _ _ _ _ z => z, cw⟩
      obtain ⟨hz, cw⟩ := cw
      have ss := s3.trans (s4.trans s5)
      refine ⟨accV, (rm5.hd Dn _ upd_same).1, by rw [rs.len]; exact hz, F5, M5, acc ++ [d], accV ++ [v], s2.trans ss, rm5.rehid, (rs.mono ss).app (.cons r5.unhide .nil), cw⟩
  · -- the end
    have e1 : i = wk.items.length := by omega
    subst e1
    rw [List.drop_length] at cw
    obtain ⟨st, cw⟩ := cw
    refine .inl ⟨(real (upd G.P Dn (.lst accV)) _ F2 M2 H' s2 rm2 st).2 rfl, ?_⟩
    obtain ⟨hz, cw⟩ := cw
    cases fr with
    | true =>
      obtain ⟨nF, rm6⟩ := RM.told hPn rm2
      have s6 := same_upd (o := .lst accV) nF
      exact cn _ M2 H' _ _ (s1.trans (s2.trans s6)) rm6 (.lst upd_same (rs.mono s6)) cw
    | false =>
      obtain ⟨nM, rm6⟩ := RM.toldM hPn rm2 rs
      exact cn F2 _ H' _ _ (s1.trans s2) rm6 .loc (cw Dn nM)
end
end Wp

/-! WpS8d: dicts. -/
namespace Wp
open PySem PySem.Spec PyProof.Rows L2
def exLen : Ex → Nat
  | .cons _ es => exLen es + 1
  | _ => 0
section
variable (G : Gx) (W : WX) (R : Nat → List D → Mem → QK → XQ → Prop)
def tCst (k : Sum Int Str) : TE := fun _ H Q => Q (kV k) H
def trsOf : List (Sum Int Str) → Ex → List (TE × TE)
  | k :: ks, .cons e es => (tCst k, liftE G W (wpE R e)) :: trsOf ks es
  | _, _ => []
end
theorem pairs_read {G : Gx} {W : WX} {R : Nat → List D → Mem → QK → XQ → Prop} {env : Env} {σ : L2.St} {e : XQ} (es : Ex) : ∀ {ks : List (Sum Int Str)} {F H : Hp} {M : Mem} {q : AK} {Q : List (V × V) → Hp → Prop}, RM G F M H → EnvR G F env σ → (CnX G F e fun c d H => W c d σ H) → wpA R es env M q e → exLen es = ks.length →
    (∀ F' M' H' vs ds, Same F F' → RM G F' M' H' → RelDs G F' vs ds → q ds M' → Q ((ks.map kV).zip vs) H') → tPairs (trsOf G W R ks es) σ H Q := by
  induction es with
  | nil =>
    intro ks F H M q Q rm er cx h hl k
    have : ks = [] := List.eq_nil_of_length_eq_zero hl.symm
    subst this
    exact k F M H [] [] (Same.refl F) rm .nil h
  | cons x xs _ ih =>
    intro ks F H M q Q rm er cx h hl k
    match ks, hl with
    | k0 :: ks, hl =>
      have hl : exLen xs + 1 = ks.length + 1 := hl
      show liftE G W (wpE R x) σ H fun y H2 => tPairs (trsOf G W R ks xs) σ H2 fun ps H3 => Q ((kV k0, y) :: ps) H3
      exact enter rm er cx h fun F1 M1 H1 v1 d1 s1 rm1 er1 cx1 r1 h => ih (ks := ks) rm1 er1 cx1 h (by omega) fun F2 M2 H2 vs ds s2 rm2 rs h => k F2 M2 H2 (v1 :: vs) (d1 :: ds) (s1.trans s2) rm2 (.cons (r1.mono s2) rs) h
  | _ => exact fun rm er cx h hl k => (show False from h).elim
theorem zip_kV : ∀ (ks : List (Sum Int Str)) (vs : List V), (ks.map kV).zip vs = (ks.zip vs).map fun kv => (kV kv.1, kv.2)
  | [], vs => rfl
  | k :: ks, [] => rfl
  | k :: ks, v :: vs => congrArg ((kV k, v) :: ·) (zip_kV ks vs)
theorem chkK_len : ∀ {ks : List (Sum Int Str)} {keys : List (Option Expr)}, chkK ks keys = true → keys.length = ks.length
  | [], [], _ => rfl
  | k :: ks, e :: es, h => by
    unfold chkK at h
    rw [Bool.and_eq_true] at h
    rw [List.length_cons, List.length_cons, chkK_len h.2]
  | [], _ :: _, h => by cases h
  | _ :: _, [], h => by cases h
theorem keyB_some {k : Sum Int Str} {e : Option Expr} (h : keyB k e = true) : ∃ e', e = some e' := by
  cases e with
  | none => cases k <;> cases h
  | some e => exact ⟨e, rfl⟩
theorem chkK_some : ∀ {ks : List (Sum Int Str)} {keys : List (Option Expr)}, chkK ks keys = true → keys.all (·.isSome) = true
  | [], [], _ => rfl
  | k :: ks, e :: es, h => by
    unfold chkK at h
    rw [Bool.and_eq_true] at h
    obtain ⟨e', rfl⟩ := keyB_some h.1
    rw [List.all_cons, chkK_some h.2]; rfl
  | [], _ :: _, h => by cases h
  | _ :: _, [], h => by cases h
theorem key_pe {X : Cx} {k : Sum Int Str} {e : Expr} (h : keyB k (some e) = true) : PE X e (tCst k) := by
  unfold keyB at h
  split at h
  · split at h
    · rename_i hq
      cases hq
      have e1 := of_decide_eq_true h
      subst e1
      exact PE.imp pe_int fun σ H Q h => h
    · cases h
  · split at h
    · rename_i hq
      cases hq
      have e1 := of_decide_eq_true h
      subst e1
      exact PE.imp pe_str fun σ H Q h => h
    · cases h
theorem dget_inv {G : Gx} {F H : Hp} {x y : D} {M : Mem} {q : QK} {vx vy : V} (rm : RM G F M H) (rx : RelD G F vx x) (ry : RelD G F vy y) (h : dgetW x y M q) : ∃ a v w, vx = .ref a ∧ DGet H a vy (some w) ∧ RelD G F w v ∧ q v M := by
  unfold dgetW at h
  split at h
  · cases rx
    split at h
    · rename_i e1 e2
      split at h
      · rename_i e3
        obtain ⟨_, vks, g1, g2⟩ := rm.mt _ _ e1
        obtain ⟨w, w1, w2⟩ := g2.look e3
        exact ⟨_, _, w, rfl, by rw [keyV ry e2, ← w1]; exact DGet.k g1, w2, h⟩
      · exact h.elim
    · rename_i e1 e2
      split at h
      · rename_i e3
        obtain ⟨_, o, vks, _, g1, g2⟩ := rm.mt _ _ e1
        obtain ⟨w, w1, w2⟩ := g2.look e3
        exact ⟨_, _, w, rfl, by rw [keyV ry e2, ← w1]; exact dget_rd (.inr ⟨o, g1⟩), w2, h⟩
      · exact h.elim
    · rename_i e1
      split at h
      · rename_i e2
        split at h
        · rename_i e3
          obtain ⟨_, vks, g1, g2⟩ := rm.mt _ _ e1
          obtain ⟨w, w1, w2⟩ := g2.look e3
          obtain ⟨b, rfl, hb⟩ := keyT_rel rm ry e2
          exact ⟨_, _, w, rfl, by rw [← w1]; exact DGet.t g1 hb, w2, h⟩
        · exact h.elim
      · exact h.elim
    · exact h.elim
  · exact h.elim
/-- what is put: the object that stands there, the new one -/
theorem dput_inv {G : Gx} {F H : Hp} {x y v : D} {M : Mem} {q : Mem → Prop} {vx vy vv : V} (rm : RM G F M H) (rx : RelD G F vx x) (ry : RelD G F vy y) (rv : RelD G F vv v) (h : dputW x y v M q) : ∃ a o ob', vx = .ref a ∧ x = .loc a ∧ DPut H a vy vv (upd H a o) ∧ RM G F (M.upd a ob') (upd H a o) ∧ q (M.upd a ob') := by
  unfold dputW at h
  split at h
  · cases rx
    split at h
    · rename_i e1 e2
      obtain ⟨_, vks, g1, g2⟩ := rm.mt _ _ e1
      exact ⟨_, _, _, rfl, rfl, by rw [keyV ry e2]; exact DPut.k g1 (by rw [g2.len]; exact h.1), rm.put (ob' := .dic (putD _ _ v)) e1 ⟨_, upd_same, g2.put rv⟩, h.2⟩
    · rename_i e1
      split at h
      · rename_i e2
        obtain ⟨_, vks, g1, g2⟩ := rm.mt _ _ e1
        obtain ⟨b, rfl, hb⟩ := keyT_rel rm ry e2
        exact ⟨_, _, _, rfl, rfl, DPut.t g1 hb (by rw [g2.len]; exact h.1), rm.put (ob' := .dtc (putD _ _ v)) e1 ⟨_, upd_same, g2.put rv⟩, h.2⟩
      · exact h.elim
    · exact h.elim
  · exact h.elim
theorem key_rel {G : Gx} {F : Hp} {v : V} {d : D} {k : Sum Int Str} (r : RelD G F v d) (e : keyD d = some k) : v = kV k := by
  cases r <;> first | (cases e; done) | (cases e; rfl)
theorem nosl_ok {i : Expr} (h : noSlice i = true) : NoSl i := by
  cases i <;> first | exact fun _ _ => rfl | cases h
theorem chkA_len {tb : Tb} {N : List Str} : ∀ {ex : Ex} {sc : Scope} {es : List Expr}, chkA tb N ex sc es = true → exLen ex = es.length := by
  intro ex
  induction ex with
  | nil =>
    intro sc es h
    unfold chkA at h
    split at h
    · rfl
    · cases h
  | cons x xs _ ih =>
    intro sc es h
    unfold chkA at h
    split at h
    · rw [Bool.and_eq_true] at h
      rw [List.length_cons, ← ih h.2]
      rfl
    · cases h
  | _ => intro sc es h; cases h
end Wp

/-! WpX3: t[::-1], t a tuple. -/
namespace Wp
open PySem PySem.Spec PyProof.Rows L2
theorem adjust_rev (n : Nat) : Builtin.Slice.sliceAdjust none none (-1) (n : Int) = ((n : Int) - 1, -1) := by
  unfold Builtin.Slice.sliceAdjust
  simp only [show ((-1 : Int) < 0) from by decide, if_true]
theorem places_rev (n : Nat) : Builtin.Slice.slicePlaces ((n : Int) - 1) (-1) (-1) = n := by
  unfold Builtin.Slice.slicePlaces
  simp only [show ¬ ((-1 : Int) > 0) from by decide, if_false]
  split <;> simp <;> omega
theorem pick_rev (xs : Array Value) : ((List.range xs.size).filterMap fun (m : Nat) => xs[((xs.size : Int) - 1 + (m : Int) * (-1)).toNat]?).toArray = xs.toList.reverse.toArray := by
  have e : (List.range xs.size).filterMap (fun (m : Nat) => xs[((xs.size : Int) - 1 + (m : Int) * (-1)).toNat]?) = xs.toList.reverse := by
    have h : ∀ m, m < xs.size → xs[((xs.size : Int) - 1 + (m : Int) * (-1)).toNat]? = some (xs.toList.reverse[m]?.getD .none) := fun m hm => by
      have : ((xs.size : Int) - 1 + (m : Int) * (-1)).toNat = xs.size - 1 - m := by omega
      have hl : m < xs.toList.length := by rw [Array.length_toList]; exact hm
      rw [this, List.getElem?_reverse hl, Array.length_toList, Array.getElem?_toList, Array.getElem?_eq_getElem (by omega)]
      rfl
    refine List.ext_getElem? fun j => ?_
    have f : (List.range xs.size).filterMap (fun (m : Nat) => xs[((xs.size : Int) - 1 + (m : Int) * (-1)).toNat]?) = (List.range xs.size).map fun m => xs.toList.reverse[m]?.getD .none := by
      have go : ∀ l : List Nat, (∀ m ∈ l, m < xs.size) → l.filterMap (fun (m : Nat) => xs[((xs.size : Int) - 1 + (m : Int) * (-1)).toNat]?) = l.map fun m => xs.toList.reverse[m]?.getD .none := fun l => by
        induction l with
        | nil => exact fun _ => rfl
        | cons a l ih =>
          intro hl
          rw [List.filterMap_cons, h a (hl a (List.mem_cons_self ..)), List.map_cons, ih fun m hm => hl m (List.mem_cons_of_mem _ hm)]
      exact go _ fun m hm => List.mem_range.mp hm
    rw [f, List.getElem?_map]
    by_cases hj : j < xs.size
    · rw [List.getElem?_range hj]
      show some (xs.toList.reverse[j]?.getD .none) = _
      rw [List.getElem?_eq_getElem (by rw [List.length_reverse, Array.length_toList]; exact hj)]
      rfl
    · rw [List.getElem?_eq_none (by rw [List.length_range]; omega), List.getElem?_eq_none (by rw [List.length_reverse, Array.length_toList]; omega)]
      rfl
  rw [e]
section
variable {prog : Program} {w : World} {A : Around} {E : Value → Shared → Prop} {s : Shared}
theorem applied_rev {sl : Addr} {vl vu vs : Value} {n : Nat} {Q : Int × Int × Nat → Shared → Prop} (hs : s.heap.IsSliceOf sl vl vu vs) (pl : IsPart vl none) (pu : IsPart vu none) (ps : IsPart vs (some (-1)))
    (h : Q ((n : Int) - 1, -1, n) s) : wpAny (model prog w) A (Builtin.Slice.sliceApplied (.ref sl) (pure (n : Int))) Q E s := by
  obtain ⟨os, hos, hcs, hds⟩ := id hs
  unfold Builtin.Slice.sliceApplied Builtin.Slice.sliceFields
  refine wpAny_bind (wpAny_bind (wpAny_field hos hds (x := vl) rfl (wpAny_bind (wpAny_field hos hds (x := vu) rfl (wpAny_bind (wpAny_field hos hds (x := vs) rfl (wpAny_pure ?_)))))))
  refine wpAny_bind (HT.slicePart_ ps ?_)
  show wpAny _ _ (if ((-1 : Int) == 0) = true then _ else _) _ _ s
  rw [if_neg (by decide)]
  refine wpAny_bind (HT.slicePart_ pl (wpAny_bind (HT.slicePart_ pu (wpAny_bind (wpAny_pure ?_)))))
  show wpAny _ _ (match Builtin.Slice.sliceAdjust none none (-1) (n : Int) with | (lo, hi) => pure (lo, (-1 : Int), Builtin.Slice.slicePlaces lo hi (-1))) _ _ s
  rw [adjust_rev n]
  show wpAny _ _ (pure ((n : Int) - 1, (-1 : Int), Builtin.Slice.slicePlaces ((n : Int) - 1) (-1) (-1))) _ _ s
  rw [places_rev]
  exact wpAny_pure h
theorem getItem_tuple_rev {t sl : Addr} {items : Array Value} {vl vu vs : Value} {Q : Value → Shared → Prop} (ht : IsTup s.heap t items) (hs : s.heap.IsSliceOf sl vl vu vs) (pl : IsPart vl none) (pu : IsPart vu none) (ps : IsPart vs (some (-1)))
    (h : Q (.ref s.heap.objs.size) { s with heap := s.heap.push { cls := .type "tuple", data := .seq items.toList.reverse.toArray } })
    (hsz : items.size ≤ sizeLine) : wpAny (model prog w) A (getItem (.ref t) (.ref sl)) Q E s := by
  have htake : sizeOk (.seq items.toList.reverse.toArray) := by
    show items.toList.reverse.toArray.size ≤ sizeLine
    rw [List.size_toArray, List.length_reverse, Array.length_toList]
    exact hsz
  obtain ⟨os, hos, hcs, hds⟩ := id hs
  have hTs : s.TypeIs (.ref sl) "slice" := ⟨os, hos, hcs⟩
  unfold getItem
  try with_reducible refine wpAny_holding ?_
  first | refine wpAny_bind (wpAny_pure ?_) | skip
  refine wpAny_bind (wpAny_sequenceKey ht.typeIs (by decide) ?_)
  refine wpAny_bind (wpAny_callSpecial?_slot (name := Str.ofString "__getitem__") ht.typeIs PyProof.Rows.slot_tuple_getitem
    (wpAny_call_entry PyProof.Rows.slot_tuple_getitem ht.typeIs entry_tuple_getitem ?_ (args_tuple_getitem _ _)))
  show wpAny _ _ (Builtin.Tuple.tupleItemsOf (.ref t) >>= _) _ _ s
  refine wpAny_bind (tupleItemsOf_ ht ?_)
  refine wpAny_bind (wpAny_typeOf hTs ?_)
  rw [if_pos (by decide)]
  refine wpAny_bind (applied_rev hs pl pu ps ?_)
  have hno : ¬ ((((items.size : Int) - 1) == 0 && (-1 : Int) == 1 && items.size == items.size) = true) := by
    rw [show ((-1 : Int) == 1) = false from rfl, Bool.and_false, Bool.false_and]
    exact Bool.false_ne_true
  show wpAny _ _ (if (((items.size : Int) - 1) == 0 && (-1 : Int) == 1 && items.size == items.size) = true then _ else _) _ _ s
  rw [if_neg hno, pick_rev]
  first
    | exact wpAny_bind (m := Builtin.Tuple.tupleExact _) (wpAny_newObj_type (wpAny_pure ⟨_, rfl, wpAny_pure h⟩) htake)
    | exact wpAny_bind (m := Builtin.Tuple.tupleExact _) (wpAny_newObj_type (wpAny_bind (wpAny_pure (wpAny_pure ⟨_, rfl, wpAny_pure h⟩))) htake)
    | exact wpAny_bind (wpAny_bind (m := Builtin.Tuple.tupleExact _) (wpAny_newObj_type (wpAny_pure (wpAny_pure ⟨_, rfl, wpAny_pure h⟩)) htake))
    | exact wpAny_bind (wpAny_bind (m := Builtin.Tuple.tupleExact _) (wpAny_newObj_type (wpAny_pure ⟨_, rfl, wpAny_pure h⟩) htake))
end
section
variable {X : Cx}
/-- x[::-1] of a list or a tuple -/
def tRevA (K : PySem.W.Frag) (te : TE) : TE := fun σ H Q => te σ H fun x H1 => (∃ a xs, x = .ref a ∧ SqL K H1 a xs ∧ ∀ p, H1 p = none → Q (.ref p) (upd H1 p (.lst xs.reverse))) ∨ (∃ a xs, x = .ref a ∧ SqT K H1 a xs ∧ ∀ p, H1 p = none → Q (.ref p) (upd H1 p (.tup xs.reverse)))
theorem pe_revA {e : Expr} {te : TE} {k : Nat} {p1 p2 p3 pos : Pos} (he : PE X e te) : PE X (.Subscript e (.Slice none none (some (.UnaryOp .USub (.Constant (.int 1) k p1) p2)) p3) pos) (tRevA X.K te) := by
  refine ⟨fun pins s σ H Q I h => ?_⟩
  refine Subscript_ (thn (he.run pins s σ H _ I h) fun v s1 ⟨x, H1, I1, r1, q1⟩ => ?_)
  have hst : PO X (some (.UnaryOp .USub (.Constant (.int 1) k p1) p2)) (tPart (tUn (rU fun i => .int (-i)) (tC (.int 1)))) := po_some (pe_un un_neg pe_int)
  refine wpAny_Slice (thn (po_none.run pins s1 σ H1 (fun o H2 => o = none ∧ H2 = H1) I1 ⟨rfl, rfl⟩) fun vl s2 ⟨l, H2, I2, pl, el, e2⟩ => ?_)
  subst el e2
  refine thn (po_none.run pins s2 σ H2 (fun o H3 => o = none ∧ H3 = H2) I2 ⟨rfl, rfl⟩) fun vu s3 ⟨u, H3, I3, pu, eu, e3⟩ => ?_
  subst eu e3
  refine thn (hst.run pins s3 σ H3 (fun o H4 => o = some (-1) ∧ H4 = H3) I3 ⟨1, rfl, -1, rfl, rfl, rfl⟩) fun vs s4 ⟨o, H4, I4, ps, eo, e4⟩ => ?_
  subst eo e4
  have I5 : Inv X pins σ H4 { s4 with heap := s4.heap.push { cls := .type "slice", data := .fields #[vl, vu, vs] } } := I4.kept (t' := s4.toks) fun b ob q => Heap.get?_push_of_some _ q
  rcases q1 with ⟨a, xs, ex, hx, q⟩ | ⟨a, xs, ex, hx, q⟩
  · subst ex
    cases r1
    obtain ⟨its, r, ht, hz⟩ := I5.list hx
    have hlen := r.length
    show wpAny (model X.prog X.w) X.A (subscriptTail e (.Slice none none (some (.UnaryOp .USub (.Constant (.int 1) k p1) p2)) p3) (.ref a) (.ref s4.heap.objs.size)) (EP X pins σ Q) X.xe { s4 with heap := s4.heap.push { cls := .type "slice", data := .fields #[vl, vu, vs] } }
    refine tail_any (ops := [.ref a, .ref s4.heap.objs.size]) ht.isList.typeIs (PySem.slot_list_getitem.lookup) ?_ (by with_unfolding_all rfl)
    refine wpAny_getItem_list_slice ht.isList (Heap.IsSliceOf.new _ vl vu vs) pl pu ps (by decide) ?_ (by rw [List.size_toArray]; omega)
    rw [PySem.W.krv_pick]
    refine ⟨.ref _, _, I5.laid (t' := s4.toks) (o := .lst xs.reverse) (fun b ob q => Heap.get?_push_of_some _ q) (Nat.le_refl _) ?_, rfl, q _ (I5.hok.fresh (Nat.le_refl _))⟩
    exact ⟨by rw [List.length_reverse]; exact hz, _, 0, r.reverse, Heap.get?_push_size _ rfl⟩
  · subst ex
    cases r1
    obtain ⟨its, r, ht, hz⟩ := I5.tuple hx
    have hlen := r.length
    show wpAny (model X.prog X.w) X.A (subscriptTail e (.Slice none none (some (.UnaryOp .USub (.Constant (.int 1) k p1) p2)) p3) (.ref a) (.ref s4.heap.objs.size)) (EP X pins σ Q) X.xe { s4 with heap := s4.heap.push { cls := .type "slice", data := .fields #[vl, vu, vs] } }
    refine tail_any (ops := [.ref a, .ref s4.heap.objs.size]) ht.typeIs (PyProof.Rows.slot_tuple_getitem.lookup) ?_ (by with_unfolding_all rfl)
    refine getItem_tuple_rev ht (Heap.IsSliceOf.new _ vl vu vs) pl pu ps ?_ (by rw [List.size_toArray]; omega)
    refine ⟨.ref _, _, I5.laid (t' := s4.toks) (o := .tup xs.reverse) (fun b ob q => Heap.get?_push_of_some _ q) (Nat.le_refl _) ?_, rfl, q _ (I5.hok.fresh (Nat.le_refl _))⟩
    exact ⟨by rw [List.length_reverse]; exact hz, _, r.reverse, IsTup.new _ _⟩
end
end Wp

/-! WpO1: methods and new instances of own classes, where what is raised is wished for at the caller's slots. -/
namespace L2
open PySem PySem.Spec PyProof.Rows
/-- the tree of a method's call -/
theorem meth_tree {o : Expr} {m : Str} {apos pos : Pos} {args : List Expr} {env : Env} (hb : attributeBase o m env (eval o env) = eval o env)
    (hf : methodCallForm (args.length + ([] : List Keyword).length) (backTo pos (starEach args env)) (backToKw pos (keywordEach [] env)) = true) (hl : (apos.endLine == pos.line) = true) :
    eval (.Call (.Attribute o m apos) args [] pos) env = (do
      let ov ← eval o env
      standAt apos.atName
      let (f, first) ← holding [ov] (getMethod ov m (do return (← importBound o env).getD true))
      callWith pos f first (backTo pos (starEach args env)) (backToKw pos (keywordEach [] env))) := by
  have hpos : methodCallPos true o env apos pos = pure pos := by unfold methodCallPos; simp [hl]
  rw [arm_eval_Call, hb]
  refine congrArg _ (funext fun ov => ?_)
  refine congrArg _ (funext fun _ => ?_)
  unfold methodCall
  rw [hf, hpos]
  refine congrArg _ (funext fun p => ?_)
  obtain ⟨f, first⟩ := p
  show (pure pos >>= fun callPos => callWith callPos f first (backTo pos (starEach args env)) (backToKw pos (keywordEach [] env))) = _
  rw [pure_bind]
section
variable {X : Cx} {CX : CXT} {k : Nat} {f C : Addr} {fd : FuncData} {ps : List Str} {sp : Sp} {E : St → XK} {x m : Str} {p pos apos : Pos} {e o : Expr} {es : List Expr} {ta : TE} {t : TA}
/-- o.m(e, ..) -/
def tMethX (C : Addr) (m : Str) (sp : Sp) (E : St → XK) (ta : TE) (t : TA) : TE := fun σ H Q => ta σ H fun x H1 => ∃ a dx fs, x = .ref a ∧ H1 a = some (.ins C dx fs) ∧ fs.lookup m = none ∧ t σ H1 fun vs H2 => sp (x :: vs) H2 Q (E σ)
theorem pe_methX (he : PE X o ta) (c : Cls X.K C) (hm : Meth X.K C m f) (F : FnOk X.prog X.w X.K X.mg X.base CX k f fd ps sp) (hr : Room k X.A) (hb : Binds X.K fd ps []) (hx : ∀ σ, PassesAt CX X σ (E σ)) (ha : PA X (e :: es) t)
    (hbase : attributeBase o m X.env (eval o X.env) = eval o X.env) (hform : methodCallForm ((e :: es).length + ([] : List Keyword).length) (backTo pos (starEach (e :: es) X.env)) (backToKw pos (keywordEach [] X.env)) = true) (hline : (apos.endLine == pos.line) = true)
    (hst : starEach (e :: es) X.env = (false, eval e X.env) :: starEach es X.env) (hpl : (backTo pos (starEach es X.env)).any (·.1) = false) :
    PE X (.Call (.Attribute o m apos) (e :: es) [] pos) (tMethX C m sp E ta t) := by
  refine ⟨fun pins s σ H Q I h => ?_⟩
  refine PySem.W.methodCall_KW (pl := (do return (← importBound o X.env).getD true)) (thn (he.run pins s σ H _ I h) fun u s1 ⟨x, H1, I1, rx, a, dx, fs, ex, ea, l, q⟩ => ?_) (meth_tree hbase hform hline)
  subst ex
  obtain rfl : u = Value.ref a := rx
  refine getmeth_ok I1 ea c hm l ?_
  refine PySem.W.callWith_K (first := [.ref a]) (h₀ := X.base) I.ok.mod.kin hm.kp (thn (ha.run pos pins s1 σ H1 _ I1 q) fun us s2 ⟨vs, H2, I2, r, q2⟩ => ⟨I2.kIn, ?_⟩) hst hpl
  exact run_fnS (us := .ref a :: us) (vs := .ref a :: vs) F hr hb (hx σ) I2 (.cons rfl r) q2
theorem pe_methX0 (he : PE X o ta) (c : Cls X.K C) (hm : Meth X.K C m f) (F : FnOk X.prog X.w X.K X.mg X.base CX k f fd ps sp) (hr : Room k X.A) (hb : Binds X.K fd ps []) (hx : ∀ σ, PassesAt CX X σ (E σ))
    (hbase : attributeBase o m X.env (eval o X.env) = eval o X.env) (hline : (apos.endLine == pos.line) = true) :
    PE X (.Call (.Attribute o m apos) [] [] pos) (tMethX C m sp E ta tNil) := by
  refine ⟨fun pins s σ H Q I h => ?_⟩
  refine PySem.W.methodCall_KW (pl := (do return (← importBound o X.env).getD true)) (thn (he.run pins s σ H _ I h) fun u s1 ⟨x, H1, I1, rx, a, dx, fs, ex, ea, l, q⟩ => ?_) (meth_tree hbase rfl hline)
  subst ex
  obtain rfl : u = Value.ref a := rx
  refine getmeth_ok I1 ea c hm l ?_
  exact PySem.W.callWith_K0 (first := [.ref a]) I1.kIn hm.kp (run_fnS (us := [.ref a]) (vs := [.ref a]) F hr hb (hx σ) I1 (.cons rfl .nil) q)
/-- C(e, ..) -/
def tMakeX (C : Addr) (sp : Sp) (E : St → XK) (t : TA) : TE := fun σ H Q => t σ H fun vs H1 => ∀ x dx, H1 x = none → H1 dx = none → dx ≠ x → sp (.ref x :: vs) (upd (upd H1 dx (.own x)) x (.ins C dx [])) (fun v H2 => v = .non ∧ Q (.ref x) H2) (E σ)
theorem run_makeX {pins : List (Addr × Obj)} {σ : St} {H : Hp} {s : Shared} {Q : VK} {us : List Value} {vs : List V} (M : Mk X.K C f) (F : FnOk X.prog X.w X.K X.mg X.base CX k f fd ps sp) (hr : Room (k + 1) X.A) (hb : Binds X.K fd ps [])
    (hx : PassesAt CX X σ (E σ)) (I : Inv X pins σ H s) (r : Vals vs us)
    (h : ∀ x dx, H x = none → H dx = none → dx ≠ x → sp (.ref x :: vs) (upd (upd H dx (.own x)) x (.ins C dx [])) (fun v H2 => v = .non ∧ Q (.ref x) H2) (E σ)) :
    wpAny (model X.prog X.w) X.A (call (.ref C) us) (EP X pins σ Q) X.xe s := by
  have hq := h (s.heap.objs.size + 1) s.heap.objs.size (I.hok.fresh (Nat.le_succ _)) (I.hok.fresh (Nat.le_refl _)) (Nat.ne_of_lt (Nat.lt_succ_self _))
  have I2 := Inv.made (C := C) I
  have r2 : Vals (V.ref (s.heap.objs.size + 1) :: vs) (Value.ref (s.heap.objs.size + 1) :: us) := .cons rfl r
  have hl : (Value.ref (s.heap.objs.size + 1) :: us).length = ps.length := by
    have e := r2.length
    rw [F.len _ _ _ _ hq] at e
    exact e.symm
  have b := hb _ (Value.ref (s.heap.objs.size + 1) :: us) I2.kIn (by rw [List.append_nil]; exact hl)
  rw [List.append_nil] at b
  refine wpAny_call (make_map (f := f) I.kIn M.makes M.init (beq_iff_eq.mp M.fn) (codeAny_mono (F.run _ X.stack _ _ ⟨Value.ref (s.heap.objs.size + 1) :: us, []⟩ (Value.ref (s.heap.objs.size + 1) :: us) _ _ (E σ) (hr.make C us [])
    (I2.env0.make C us []) b r2 hq) fun r s' hq' => ?_))
  cases r with
  | error e => exact hx pins _ _ e s' I2 hq'
  | ok fl =>
    cases fl with
    | ret u =>
      obtain ⟨v, H', I3, rv, ev, q3⟩ := I2.after hq'
      subst ev
      exact ⟨rv, ⟨V.ref (s.heap.objs.size + 1), H', I3, rfl, q3⟩⟩
    | next => exact False.elim hq'
    | brk => exact False.elim hq'
    | cont => exact False.elim hq'
theorem pe_makeX (M : Mk X.K C f) (F : FnOk X.prog X.w X.K X.mg X.base CX k f fd ps sp) (hr : Room (k + 1) X.A) (hg : Gl X x) (hm : X.mg x = some (.ref C)) (hb : Binds X.K fd ps []) (hx : ∀ σ, PassesAt CX X σ (E σ))
    (ha : PA X (e :: es) t) (hdb : (x == ("__debug__" : Str)) = false) (he : starEach (e :: es) X.env = (false, eval e X.env) :: starEach es X.env) (hpl : (backTo pos (starEach es X.env)).any (·.1) = false) :
    PE X (.Call (.Name x p) (e :: es) [] pos) (tMakeX C sp E t) := by
  refine ⟨fun pins s σ H Q I h => ?_⟩
  refine wpAny_Call_Name_kw (ld_glob I hg hm ?_ hdb)
  refine PySem.W.callWith_K (h₀ := X.base) I.ok.mod.kin M.kp (thn (ha.run pos pins s σ H _ I h) fun us s1 ⟨vs, H1, I1, r, q⟩ => ⟨I1.kIn, ?_⟩) he hpl
  exact run_makeX M F hr hb (hx σ) I1 r q
theorem pe_makeX0 (M : Mk X.K C f) (F : FnOk X.prog X.w X.K X.mg X.base CX k f fd ps sp) (hr : Room (k + 1) X.A) (hg : Gl X x) (hm : X.mg x = some (.ref C)) (hb : Binds X.K fd ps []) (hx : ∀ σ, PassesAt CX X σ (E σ))
    (hdb : (x == ("__debug__" : Str)) = false) : PE X (.Call (.Name x p) [] [] pos) (tMakeX C sp E tNil) := by
  refine ⟨fun pins s σ H Q I h => ?_⟩
  refine wpAny_Call_Name_kw (ld_glob I hg hm ?_ hdb)
  exact PySem.W.callWith_K0 I.kIn M.kp (run_makeX (us := []) M F hr hb (hx σ) I .nil h)
end
end L2

/-! WpS9: that the tree is enough for the text: expressions, all of them. -/
namespace Wp
open PySem PySem.Spec PyProof.Rows L2

/-- a op1 b op2 c op3 d -/
def tChain3 (r r' r'' : R2) (ta tb tc td : TE) : TE := fun σ H Q => ta σ H fun x H1 => tb σ H1 fun y H2 => r x y H2 fun z H3 => ∃ k, z = .bl k ∧
  (if k = true then tc σ H3 fun w' H4 => r' y w' H4 fun z2 H5 => ∃ k2, z2 = .bl k2 ∧ (if k2 = true then td σ H5 fun u H6 => r'' w' u H6 Q else Q (.bl false) H5) else Q (.bl false) H3)
theorem pe_chain3 {X : Cx} {op op' op'' : CmpOp} {r r' r'' : R2} {a b c d : Expr} {ta tb tc td : TE} {pos : Pos} (ho : OpR X (compareOp op) r) (ho' : OpR X (compareOp op') r') (ho'' : OpR X (compareOp op'') r'') (ha : PE X a ta) (hb : PE X b tb) (hc : PE X c tc) (hd : PE X d td)
    (hm : lastMarks [op, op', op''] [b, c, d] = false) : PE X (.Compare a [op, op', op''] [b, c, d] pos) (tChain3 r r' r'' ta tb tc td) := by
  refine ⟨fun pins s σ H Q I h => ?_⟩
  refine Compare_chain (thn (ha.run pins s σ H _ I h) fun v s1 ⟨x, H1, I1, r1, q1⟩ => chain_link (thn (hb.run pins s1 σ H1 _ I1 q1) fun u s2 ⟨y, H2, I2, r2, q2⟩ =>
    thn (ho pins s2 σ H2 x y v u _ I2 r1 r2 q2) fun d s3 ⟨z, H3, I3, r3, k, e, q3⟩ => ?_)) hm
  subst e
  cases r3
  refine wpAny_truthy_bool ?_
  cases k with
  | false => exact ite_ff ⟨.bl false, H3, I3, rfl, q3⟩
  | true =>
    refine ite_tt (chain_link (thn (hc.run pins s3 σ H3 _ I3 q3) fun w' s4 ⟨z', H4, I4, r4, q4⟩ => thn (ho' pins s4 σ H4 y z' u w' _ I4 r2 r4 q4) fun d2 s5 ⟨z2, H5, I5, r5, k2, e2, q5⟩ => ?_))
    subst e2
    cases r5
    refine wpAny_truthy_bool ?_
    cases k2 with
    | false => exact ite_ff ⟨.bl false, H5, I5, rfl, q5⟩
    | true => exact ite_tt (chain_last (thn (hd.run pins s5 σ H5 _ I5 q5) fun w2 s6 ⟨z3, H6, I6, r6, q6⟩ => ho'' pins s6 σ H6 z' z3 w' w2 Q I6 r4 r6 q6))

theorem pt_chain3 {X : Cx} {op op' op'' : CmpOp} {r r' r'' : R2} {a b c d : Expr} {ta tb tc td : TE} {pos : Pos} (ho : OpR X (compareOp op) r) (ho' : OpR X (compareOp op') r') (ho'' : OpR X (compareOp op'') r'') (ha : PE X a ta) (hb : PE X b tb) (hc : PE X c tc) (hd : PE X d td)
    (hm : lastMarks [op, op', op''] [b, c, d] = false) : PT X (.Compare a [op, op', op''] [b, c, d] pos) (tTest (tChain3 r r' r'' ta tb tc td)) := by
  refine ⟨fun pins s σ H Q I h => ?_⟩
  refine isTrue_chain (thn (ha.run pins s σ H _ I h) fun v s1 ⟨x, H1, I1, r1, q1⟩ => test_link (thn (hb.run pins s1 σ H1 _ I1 q1) fun u s2 ⟨y, H2, I2, r2, q2⟩ =>
    thn (ho pins s2 σ H2 x y v u _ I2 r1 r2 q2) fun d s3 ⟨z, H3, I3, r3, k, e, q3⟩ => ?_)) hm
  subst e
  cases r3
  refine wpAny_truthy_bool ?_
  cases k with
  | false =>
    obtain ⟨k', e', q'⟩ := q3
    cases e'
    exact ite_ff ⟨H3, I3, q'⟩
  | true =>
    refine ite_tt (test_link (thn (hc.run pins s3 σ H3 _ I3 q3) fun w' s4 ⟨z', H4, I4, r4, q4⟩ => thn (ho' pins s4 σ H4 y z' u w' _ I4 r2 r4 q4) fun d2 s5 ⟨z2, H5, I5, r5, k2, e2, q5⟩ => ?_))
    subst e2
    cases r5
    refine wpAny_truthy_bool ?_
    cases k2 with
    | false =>
      obtain ⟨k', e', q'⟩ := q5
      cases e'
      exact ite_ff ⟨H5, I5, q'⟩
    | true =>
      refine ite_tt (test_last (thn (hd.run pins s5 σ H5 _ I5 q5) fun w2 s6 ⟨z3, H6, I6, r6, q6⟩ => thn (ho'' pins s6 σ H6 z' z3 w' w2 _ I6 r4 r6 q6) fun d3 s7 ⟨z4, H7, I7, r7, k3, e3, q7⟩ => ?_))
      subst e3
      cases r7
      exact wpAny_truthy_bool ⟨H7, I7, q7⟩
/-- a if c else b, as a test -/
theorem pt_ife {X : Cx} {a b c : Expr} {tc ta tb : TT} {pos : Pos} (hc : PT X c tc) (ha : PT X a ta) (hb : PT X b tb) : PT X (.IfExp c a b pos) (fun σ H Q => tc σ H fun k H1 => if k = true then ta σ H1 Q else tb σ H1 Q) := by
  refine ⟨fun pins s σ H Q I h => ?_⟩
  show wpAny _ _ (do if ← isTrue c X.env (eval c X.env) then isTrue a X.env (eval a X.env) else isTrue b X.env (eval b X.env)) _ _ s
  refine wpAny_bind (thn (hc.run pins s σ H _ I h) fun k s1 ⟨H1, I1, q1⟩ => ?_)
  cases k with
  | true =>
    rw [if_pos rfl] at q1
    rw [if_pos rfl]
    exact ha.run pins s1 σ H1 Q I1 q1
  | false =>
    rw [if_neg Bool.false_ne_true] at q1
    rw [if_neg Bool.false_ne_true]
    exact hb.run pins s1 σ H1 Q I1 q1

def special : Ex → Bool
  | .not _ => true
  | .and _ _ => true
  | .or _ _ => true
  | .ife _ _ _ => true
  | .cmp _ _ _ => true
  | .ch2 _ _ _ _ _ => true
  | .ch3 _ _ _ _ _ _ _ => true
  | _ => false
theorem plain_of {tb : Tb} {N : List Str} {ex : Ex} {sc : Scope} {e : Expr} (h : chkE tb N ex sc e = true) (hx : special ex = false) : plainT e = true := by
  cases ex <;> first
    | (cases hx; done)
    | (cases e <;> first
      | rfl
      | (cases h; done)
      | (rename_i op _ _; cases op <;> first | rfl | (cases h; done)))
/-- the pieces of a written call -/
theorem chkA_cons {tb : Tb} {N : List Str} {ex : Ex} {sc : Scope} {e : Expr} {es : List Expr} (h : chkA tb N ex sc (e :: es) = true) : ∃ x xs, ex = .cons x xs ∧ chkE tb N x sc e = true ∧ noStar e = true ∧ chkA tb N xs sc es = true := by
  cases ex <;> first
    | (cases h; done)
    | skip
  rename_i x xs
  have h : (chkE tb N x sc e && noStar e && chkA tb N xs sc es) = true := h
  rw [Bool.and_eq_true, Bool.and_eq_true] at h
  exact ⟨x, xs, rfl, h.1.1, h.1.2, h.2⟩
theorem chkA_nil {tb : Tb} {N : List Str} {ex : Ex} {sc : Scope} (h : chkA tb N ex sc [] = true) : ex = .nil := by
  cases ex <;> first
    | rfl
    | (cases h; done)
theorem tr_any {tb : Tb} {N : List Str} {env : PySem.Env} {pos : Pos} {sc : Scope} : ∀ {es : List Expr} {ex : Ex}, chkA tb N ex sc es = true → (backTo pos (starEach es env)).any (·.1) = false
  | [], _, _ => rfl
  | a :: b, _, h => by
    obtain ⟨x, xs, rfl, h1, h2, h3⟩ := chkA_cons h
    rw [star_ok h2]
    have ih := tr_any (env := env) (pos := pos) h3
    show (false || (backTo pos (starEach b env)).any (·.1)) = false
    rw [ih]; rfl
theorem tr_all {tb : Tb} {N : List Str} {env : PySem.Env} {pos : Pos} {sc : Scope} : ∀ {es : List Expr} {ex : Ex}, chkA tb N ex sc es = true → (backTo pos (starEach es env)).all (fun x => !x.1) = true
  | [], _, _ => rfl
  | a :: b, _, h => by
    obtain ⟨x, xs, rfl, h1, h2, h3⟩ := chkA_cons h
    rw [star_ok h2]
    have ih := tr_all (env := env) (pos := pos) h3
    show (true && (backTo pos (starEach b env)).all (fun x => !x.1)) = true
    rw [ih]; rfl
theorem tr_head {tb : Tb} {N : List Str} {ex : Ex} {sc : Scope} {e : Expr} {es : List Expr} {env : PySem.Env} {pos : Pos} (h : chkA tb N ex sc (e :: es) = true) :
    starEach (e :: es) env = (false, eval e env) :: starEach es env ∧ (backTo pos (starEach es env)).any (·.1) = false := by
  obtain ⟨x, xs, rfl, h1, h2, h3⟩ := chkA_cons h
  exact ⟨star_ok h2, tr_any h3⟩
theorem env_relS {X : Cx} {s : Shared} {H : Hp} {scope : Scope} {C : Addr} {cl : List (Str × Addr)} {fp : List Addr} {sc : Scope} (hs : X.env.scope = sc) : (X.blk s H scope (compEnvC scope cl C X.env) fp).env.scope = relS scope sc := by
  rw [← hs]; rfl
section
variable {tb : Tb} {R : Nat → List D → Mem → QK → XQ → Prop} {k : Nat} {N : List Str}
theorem bn_mem {tb : Tb} {sc : Scope} {x : Str} (h : bnB tb sc x = true) : x ∈ tb.bn := by
  unfold bnB at h
  rw [Bool.and_eq_true] at h
  obtain ⟨y, hy, e⟩ := List.any_eq_true.mp h.2
  rw [← of_decide_eq_true e]
  exact hy
theorem chkC_ok {G : Gx} {W : WX} {X : Cx} {sc : Scope} (g : Good G tb R k W X) (hs : X.env.scope = sc) : ∀ (cs : List Nat) {es : List Expr}, chkC tb sc cs es = true → ∃ (vs : List V) (us : List Value), PA X es (fun _ H Q => Q vs H) ∧ Paired ClsV vs us ∧ vs.length = cs.length ∧ ∀ c C, G.cl c = some C → PySem.W.kitAny X.K (.ref C) us = some (cs.any fun d => subX c d)
  | [], [], h => ⟨[], [], pa_nil, .nil, rfl, fun c C e => rfl⟩
  | [], _ :: _, h => by cases h
  | c :: cs, [], h => by cases h
  | c :: cs, e :: es, h => by
    unfold chkC at h
    split at h
    · rename_i hq; cases hq
    · rename_i c' cs' y p es' hq1 hq2
      injection hq1 with q1 q2
      injection hq2 with q3 q4
      subst q1 q2 q3 q4
      simp only [Bool.and_eq_true] at h
      obtain ⟨⟨k1, k2⟩, k3⟩ := h
      obtain ⟨q, hq, e2⟩ := List.any_eq_true.mp k1
      have e2 := of_decide_eq_true e2
      subst e2
      obtain ⟨D, m1, m2⟩ := g.xt.nm _ hq
      obtain ⟨j1, j2⟩ := gl_of hs k2
      obtain ⟨vs, us, pa, pu, pl, pk⟩ := chkC_ok g hs cs k3
      refine ⟨.ref D :: vs, .ref D :: us, PA.imp (pa_cons (pe_glob (v := .ref D) j1 m1 rfl j2) pa rfl) fun σ H Q h => h, .cons (.own D) pu, by rw [List.length_cons, List.length_cons, pl], fun d C e => ?_⟩
      refine kitAny_cons (g.xt.sub d C c D e m2).1 (fun hb => ?_) fun hb => ?_
      · rw [pk d C e, List.any_cons, hb, Bool.false_or]
      · rw [List.any_cons, hb, Bool.true_or]
    · cases h
theorem ty4 (t : Ty) : tyNm4 t = tyNm t := by cases t <;> rfl
theorem chkTy_ok {G : Gx} {W : WX} {X : Cx} {sc : Scope} (g : Good G tb R k W X) (hs : X.env.scope = sc) : ∀ (ts : List Ty) {es : List Expr}, chkTy tb sc ts es = true → PA X es (fun _ H Q => Q (ts.map fun t => V.ty (tyN t)) H) ∧ Paired ClsV (ts.map fun t => V.ty (tyN t)) (ts.map fun t => Value.type (tyN t))
  | [], [], h => ⟨pa_nil, .nil⟩
  | [], _ :: _, h => by cases h
  | t :: ts, [], h => by cases h
  | t :: ts, e :: es, h => by
    unfold chkTy at h
    split at h
    · rename_i hq; cases hq
    · rename_i t' ts' y p es' hq1 hq2
      injection hq1 with q1 q2
      injection hq2 with q3 q4
      subst q1 q2 q3 q4
      simp only [Bool.and_eq_true] at h
      obtain ⟨⟨k1, k2⟩, k3⟩ := h
      have e2 := of_decide_eq_true k1
      rw [ty4] at e2
      subst e2
      obtain ⟨j1, j2, j3⟩ := bn_of g hs k2
      obtain ⟨pa, pu⟩ := chkTy_ok g hs ts k3
      have pt : PE X (.Name (tyNm t) p) (tC (.ty (tyN t))) := pe_bltn j1 j3 (ty_boot t) rfl (ty_no t).1 j2
      exact ⟨PA.imp (pa_cons pt pa rfl) fun σ H Q h => h, .cons (.ty _) pu⟩
    · cases h
/-- a def as a value -/
def FnV (G : Gx) (tb : Tb) (R : Nat → List D → Mem → QK → XQ → Prop) (k : Nat) (X : Cx) (v : V) (f : Nat) : Prop :=
  ∃ x ad fd ps, tb.nm f = some x ∧ v = .ref ad ∧ PySem.W.keepIn X.K (.ref ad) = true ∧ Binds X.K fd ps [] ∧ FnOk X.prog X.w X.K X.mg X.base (L2.CX X.prog X.w) k ad fd ps (liftSp G (tb.ar f) (R f))
theorem chkFn_ok {G : Gx} {W : WX} {X : Cx} {sc : Scope} (g : Good G tb R k W X) (hs : X.env.scope = sc) : ∀ (fs : List Nat) {es : List Expr}, chkFn tb sc fs es = true → ∃ vs : List V, PA X es (fun _ H Q => Q vs H) ∧ vs.length = fs.length ∧ ∀ (j f : Nat), fs[j]? = some f → ∃ v, vs[j]? = some v ∧ FnV G tb R k X v f
  | [], [], h => ⟨[], pa_nil, rfl, fun j f e => by simp at e⟩
  | [], _ :: _, h => by cases h
  | t :: ts, [], h => by cases h
  | t :: ts, e :: es, h => by
    unfold chkFn at h
    split at h
    · rename_i hq; cases hq
    · rename_i t' ts' y p es' hq1 hq2
      injection hq1 with q1 q2
      injection hq2 with q3 q4
      subst q1 q2 q3 q4
      simp only [Bool.and_eq_true] at h
      obtain ⟨⟨k1, k2⟩, k3⟩ := h
      have e2 := of_decide_eq_true k1
      obtain ⟨j1, j2⟩ := gl_of hs k2
      obtain ⟨vs, pa, hl, hv⟩ := chkFn_ok g hs ts k3
      obtain ⟨ad, fd, ps, m1, m2, m3, m4, m5⟩ := g.fns t y e2
      have pt : PE X (.Name y p) (tC (.ref ad)) := pe_glob j1 m1 rfl j2
      refine ⟨.ref ad :: vs, PA.imp (pa_cons pt pa rfl) fun σ H Q h => h, congrArg Nat.succ hl, fun j f e => ?_⟩
      cases j with
      | zero =>
        simp at e; subst e
        exact ⟨_, rfl, y, ad, fd, ps, e2, rfl, m2, m3, m5⟩
      | succ j =>
        obtain ⟨v, e3, e4⟩ := hv j f (by simpa using e)
        exact ⟨v, by simpa using e3, e4⟩
    · cases h
theorem atI_map {α β : Type} {xs : List α} {ys : List β} {P : β → α → Prop} (hl : ys.length = xs.length) (h : ∀ (j : Nat) (x : α), xs[j]? = some x → ∃ y, ys[j]? = some y ∧ P y x) {i : Int} {x : α} (e : atI xs i = some x) : ∃ y, atI ys i = some y ∧ P y x := by
  unfold atI at *
  rw [hl]
  cases q : ixN xs.length i with
  | none => rw [q] at e; cases e
  | some j =>
    rw [q] at e
    exact h j x e
/-- f(e, ..), f an expression that gives a def -/
theorem pe_callF {X : Cx} {CX : CXT} {k : Nat} {E : L2.St → XK} {e fe : Expr} {es : List Expr} {tf : TE} {t : TA} {pos : Pos} (hf : PE X fe tf) (hr : Room k X.A) (hx : ∀ σ, L2.PassesAt CX X σ (E σ)) (ha : PA X (e :: es) t)
    (ht : eval (.Call fe (e :: es) [] pos) X.env = (do callWith pos (← eval fe X.env) [] (backTo pos (starEach (e :: es) X.env)) (backToKw pos (keywordEach [] X.env))))
    (he : starEach (e :: es) X.env = (false, eval e X.env) :: starEach es X.env) (hpl : (backTo pos (starEach es X.env)).any (·.1) = false) :
    PE X (.Call fe (e :: es) [] pos) (fun σ H Q => tf σ H fun y H1 => ∃ f fd ps sp, y = V.ref f ∧ PySem.W.keepIn X.K (.ref f) = true ∧ Binds X.K fd ps [] ∧ FnOk X.prog X.w X.K X.mg X.base CX k f fd ps sp ∧ t σ H1 fun vs H2 => sp vs H2 Q (E σ)) := by
  refine ⟨fun pins s σ H Q I h => ?_⟩
  refine Call_ (thn (hf.run pins s σ H _ I h) fun u s1 ⟨y, H1, I1, ry, f, fd, ps, sp, ey, hk, hb, F, q⟩ => ?_) ht
  subst ey
  obtain rfl : u = Value.ref f := ry
  refine PySem.W.callWith_K (h₀ := X.base) I1.ok.mod.kin hk (thn (ha.run pos pins s1 σ H1 _ I1 q) fun us s2 ⟨vs, H2, I2, r, q2⟩ => ⟨I2.kIn, ?_⟩) he hpl
  exact L2.run_fnS F hr hb (hx σ) I2 r q2
/-- a list or a tuple, walked -/
theorem pi_both {X : Cx} {tg l : Expr} {tl : TE} (hl : PE X l tl) : PI X tg l (fun σ H R => tl σ H fun x H1 => ∃ a, x = .ref a ∧ ((∃ xs, SqL X.K H1 a xs) ∧ R (Itl X.K a) H1 ∨ (∃ xs, SqT X.K H1 a xs) ∧ R (Itt X.K a) H1)) := by
  refine ⟨fun pins s σ H R I h => ?_⟩
  refine thn (hl.run pins s σ H _ I h) fun v s1 ⟨x, H1, I1, r1, q1⟩ => ?_
  obtain ⟨a, e, q⟩ := q1
  subst e
  cases r1
  rcases q with ⟨⟨xs, hq⟩, q⟩ | ⟨⟨xs, hq⟩, q⟩
  · obtain ⟨its, rv, p, hz⟩ := I1.list hq
    refine wpAny_pyIter_list p.isList ?_
    refine ⟨s1.heap.objs.size, [s1.heap.objs.size], _, _, H1, rfl, I1.kept (t' := s1.toks) fun b o e => Heap.get?_push_of_some _ e, turn_list a _, ⟨_, Heap.get?_push_size _ rfl, rfl, rfl⟩, fun b hb => ?_, q⟩
    have e : b = s1.heap.objs.size := by simpa using hb
    subst e
    exact I1.fpOk (Nat.le_refl _) (I1.hok.fresh (Nat.le_refl _))
  · obtain ⟨its, rv, p, hz⟩ := I1.tuple hq
    refine wpAny_pyIter_tuple (show s1.heap.IsTuple a its.toArray from p) ?_
    refine ⟨s1.heap.objs.size, [s1.heap.objs.size], _, _, H1, rfl, I1.kept (t' := s1.toks) fun b o e => Heap.get?_push_of_some _ e, turn_tuple a _, ⟨_, Heap.get?_push_size _ rfl, rfl, rfl⟩, fun b hb => ?_, q⟩
    have e : b = s1.heap.objs.size := by simpa using hb
    subst e
    exact I1.fpOk (Nat.le_refl _) (I1.hok.fresh (Nat.le_refl _))
/-- a call of a built-in -/
theorem pe_bi {G : Gx} {W : WX} {X : Cx} {sc : Scope} {b : Bi} {fr : Bool} {x : Str} {e : Expr} {es : List Expr} {p pos : Pos} {t : TA} (g : Good G tb R k W X) (hs : X.env.scope = sc) (hx : biNm b = x) (hb : bnB tb sc x = true) (ha : PA X (e :: es) t)
    (he : starEach (e :: es) X.env = (false, eval e X.env) :: starEach es X.env) (hpl : (backTo pos (starEach es X.env)).any (·.1) = false) : PE X (.Call (.Name x p) (e :: es) [] pos) (tCB (liftN G (biW b fr)) t) := by
  subst hx
  obtain ⟨h1, h2, h3⟩ := bn_of g hs hb
  have hbt := bi_boot b
  have hno := bi_no b
  have hr := callr_bi (G := G) g.hK (g.calm (g.hb b (bn_mem hb))) (by have := g.un; omega) b (fr := fr)
  cases b <;> first
    | exact pe_callB hr h1 h3 hbt ha hno.1 h2 he hpl
    | exact pe_callTy hr h1 h3 hbt ha hno.1 h2 he hpl

theorem PO.imp {X : Cx} {e : Option Expr} {t t' : TO} (h : PO X e t) (hi : ∀ σ H Q, t' σ H Q → t σ H Q) : PO X e t' := ⟨fun pins s σ H Q I q => h.run pins s σ H Q I (hi _ _ _ q)⟩
/-! ### methods of built-in kinds -/
def bmId : Bm → String
  | .append => "list.append" | .extend => "list.extend" | .index => "list.index" | .join => "str.join" | .pop => "list.pop" | .reverse_ => "list.reverse" | .clear => "list.clear" | .insert => "list.insert" | .find => "str.find" | .upper => "str.upper" | .split => "str.split" | .partition => "str.partition"
theorem MtR.or2 {X : Cx} {id : String} {r : V → List V → Hp → VK → Prop} (h : ∀ x xs H Q, r x xs H Q → ∃ r', MtR X id r' ∧ r' x xs H Q) : MtR X id r := by
  intro pins s σ H x xs v us Q I rx rs q
  obtain ⟨r', h1, h2⟩ := h x xs H Q q
  exact h1 pins s σ H x xs v us Q I rx rs h2
theorem ix_of_nat {n : Nat} {i : Int} (h0 : 0 ≤ i) (h : i.toNat < n) : seqIndex? i n = some i.toNat := by
  obtain ⟨j, rfl⟩ : ∃ j : Nat, i = j := ⟨i.toNat, by omega⟩
  unfold seqIndex?
  have h : j < n := by simpa using h
  have h1 : ¬ (j : Int) < 0 := by omega
  simp [h]
  rw [if_neg h1]
  exact ⟨⟨by omega, by omega⟩, by simp⟩
theorem RelDs.strL {G : Gx} {F : Hp} : ∀ zs : List Str, RelDs G F (zs.map V.str) (zs.map D.str)
  | [] => .nil
  | z :: zs => .cons (.str z) (RelDs.strL zs)
theorem mtr_bm {G : Gx} {X : Cx} (hK : X.K = G.K) (hu : X.A.units + 65 < cLine) (b : Bm) {fr : Bool} : MtR X (bmId b) (liftM G (bmW b fr)) := by
  refine MtR.or2 fun x xs H Q ⟨F, M, d, ds, q, rm, r1, rs, cn, h⟩ => ?_
  unfold bmW at h
  split at h
  · split at h
    · obtain ⟨v, rfl, r⟩ := relds1 rs
      cases r1
      obtain ⟨vs, g1, g2⟩ := rd_loc rm (by assumption)
      exact ⟨_, mt_append, _, vs, v, rfl, rfl, g1, by rw [g2.len]; exact h.1, put_ok rm (by assumption) (g2.app (.cons r .nil)) .non cn h.2⟩
    · exact h.elim
  · split at h
    · obtain ⟨v, rfl, r⟩ := relds1 rs
      cases r1
      obtain ⟨vs, g1, g2⟩ := rd_loc rm (by assumption)
      obtain ⟨p, ws, rfl, g3, g4⟩ := rd_LT rm r (by assumption)
      exact ⟨_, mt_extend, _, p, vs, ws, rfl, rfl, g1, g3, by rw [g2.len, g4.len]; exact h.1, put_ok rm (by assumption) (g2.app g4) .non cn h.2⟩
    · exact h.elim
  · split at h
    · cases rs
      cases r1
      obtain ⟨vs, g1, g2⟩ := rd_loc rm (by assumption)
      exact ⟨_, mt_reverse, _, vs, rfl, rfl, g1, put_ok rm (by assumption) g2.rev .non cn h⟩
    · exact h.elim
  · split at h
    · cases rs
      cases r1
      obtain ⟨vs, g1, g2⟩ := rd_loc rm (by assumption)
      exact ⟨_, mt_clear, _, vs, rfl, rfl, g1, put_ok rm (by assumption) .nil .non cn h⟩
    · exact h.elim
  · split at h
    · obtain ⟨v, w, rfl, r, r2⟩ := relds2 rs
      cases r1
      cases r
      obtain ⟨vs, g1, g2⟩ := rd_loc rm (by assumption)
      obtain ⟨h1, h2, h3, h4⟩ := h
      exact ⟨_, mt_insert, _, vs, _, w, rfl, rfl, g1, by rw [g2.len]; exact h1, h2, h3, put_ok rm (by assumption) (((g2.take _).app (.cons r2 .nil)).app (g2.drop _)) .non cn h4⟩
    · exact h.elim
  · split at h
    · obtain ⟨h1, h2, h3⟩ := h
      split at h3
      · rename_i y hy
        obtain ⟨v, rfl, r⟩ := relds1 rs
        cases r1
        cases r
        obtain ⟨vs, g1, g2⟩ := rd_loc rm (by assumption)
        obtain ⟨w, w1, w2⟩ := g2.get hy
        have hlt := (List.getElem?_eq_some_iff.mp w1).1
        refine ⟨_, mt_popAt, _, vs, _, _, w, rfl, rfl, g1, by omega, h2, ix_of_nat h1 hlt, w1, put_ok rm (by assumption) ?_ w2 cn h3⟩
        rw [List.eraseIdx_eq_take_drop_succ, List.eraseIdx_eq_take_drop_succ]
        exact (g2.take _).app (g2.drop _)
      · exact h3.elim
    · exact h.elim
  · split at h
    · split at h
      · rename_i y hy
        cases rs
        cases r1
        obtain ⟨vs, g1, g2⟩ := rd_loc rm (by assumption)
        obtain ⟨w, w1, w2⟩ := g2.get hy
        refine ⟨_, mt_pop, _, vs, w, rfl, rfl, g1, by rw [g2.len]; exact w1, put_ok rm (by assumption) ?_ w2 cn h⟩
        rw [List.dropLast_eq_take, List.dropLast_eq_take, g2.len]
        exact g2.take _
      · exact h.elim
    · exact h.elim
  · split at h
    · split at h
      · obtain ⟨v, rfl, r⟩ := relds1 rs
        cases r1
        obtain ⟨p, vs, rfl, g1, g2⟩ := rd_S rm r (by assumption)
        rw [strs_rel g2 (by assumption)] at g1
        exact ⟨_, mt_join, _, p, _, rfl, rfl, by rw [hK]; exact g1, h.1, cn_here rm cn (.str _) h.2⟩
      · exact h.elim
    · exact h.elim
  · split at h
    · split at h
      · obtain ⟨h1, h2, h3⟩ := h
        split at h3
        · rename_i j hj
          obtain ⟨v, rfl, r⟩ := relds1 rs
          obtain ⟨p, vs, rfl, g1, g2⟩ := rd_L rm r1 (by assumption)
          obtain ⟨i, z, e1, e2, e3, e4⟩ := first_ok hj
          rw [Nat.zero_add] at e1
          subst e1
          have z1 := dp_M rm r (by assumption)
          have z2 := dp_all rm g2 (by assumption)
          rw [← hK] at z1 z2 g1
          exact ⟨_, mt_indexD hu, p, v, _, _, j, z, rfl, rfl, .lst g1 z2, z1, h1, h2, e2, e3, e4, cn_here rm cn (.int _) h3⟩
        · exact h3.elim
      · exact h.elim
    · exact h.elim
  · obtain ⟨v, rfl, r⟩ := relds1 rs
    cases r1
    cases r
    exact ⟨_, mt_find, _, _, rfl, rfl, cn_here rm cn (.int _) h⟩
  · cases rs
    cases r1
    exact ⟨_, mt_upper, _, rfl, rfl, h.1, cn_here rm cn (.str _) h.2⟩
  · obtain ⟨v, rfl, r⟩ := relds1 rs
    cases r1
    cases r
    refine ⟨_, mt_split, _, _, rfl, rfl, h.1, h.2.1, fun p hp => ?_⟩
    exact (newL_ok rm (RelDs.strL _) cn h.2.2).2 p hp
  · obtain ⟨v, rfl, r⟩ := relds1 rs
    cases r1
    cases r
    exact ⟨_, mt_partition, _, _, rfl, rfl, h.1, h.2.1, fun p hp => newT_ok rm (.cons (.str _) (.cons (.str _) (.cons (.str _) .nil))) cn h.2.2 hp⟩
  · exact h.elim
theorem pe_bmm {G : Gx} {W : WX} {X : Cx} {sc : Scope} {fr : Bool} {o : Expr} {es : List Expr} {ex : Ex} {ap cp : Pos} {wo : Env → Mem → QK → XQ → Prop} (g : Good G tb R k W X) (b : Bm) (ho : PE X o (liftE G W wo)) (hp : plainO o = true) (ha : PA X es (liftA G W (wpA R ex))) (hes : chkA tb N ex sc es = true) (hl : es.length < 20)
    (hline : (ap.endLine == cp.line) = true) : PE X (.Call (.Attribute o (bmNm b) ap) es [] cp) (tBM X.K (bmT b) (liftM G (bmW b fr)) (liftE G W wo) (liftA G W (wpA R ex))) := by
  have hm := mtr_bm (G := G) g.hK (by have := g.un; omega) b (fr := fr)
  have pa : PlainAttrs (bmT b) := by cases b <;> first | exact PySem.F.plainAttrs_list | exact PySem.F.plainAttrs_str
  have sl : Slot (bmT b) (bmNm b) (bmId b) := by
    cases b
    · exact PySem.F.slot_list_append
    · exact PySem.F.slot_list_extend
    · exact PySem.F.slot_list_index
    · exact PySem.F.slot_str_join
    · exact PySem.F.slot_list_pop
    · exact PySem.F.slot_list_reverse
    · exact PySem.F.slot_list_clear
    · exact PySem.F.slot_list_insert
    · exact PySem.F.slot_str_find
    · exact PySem.F.slot_str_upper
    · exact PySem.F.slot_str_split
    · exact PySem.F.slot_str_partition
  have ty : typeOf (.builtin (bmId b)) = pure (.type "method_descriptor") := by
    cases b
    · exact PySem.F.type_list_append
    · exact PySem.F.type_list_extend
    · exact PySem.F.type_list_index
    · exact PySem.F.type_str_join
    · exact PySem.F.type_list_pop
    · exact PySem.F.type_list_reverse
    · exact PySem.F.type_list_clear
    · exact PySem.F.type_list_insert
    · exact PySem.F.type_str_find
    · exact PySem.F.type_str_upper
    · exact PySem.F.type_str_split
    · exact PySem.F.type_str_partition
  cases es with
  | nil =>
    cases chkA_nil hes
    refine PE.imp (pe_bm0 pa sl ty hm ho (plainO_ok hp) hline) fun σ H Q ⟨F, M, env, q, e, rm, er, cn, cx, h⟩ => ?_
    refine ⟨F, M, env, q, e, rm, er, fun F1 M1 H1 v1 d1 s1 rm1 r1 h => ?_, cx, h⟩
    obtain ⟨h1, F2, M2, env2, q2, e2, rm2, er2, cn2, cx2, h2⟩ := cn F1 M1 H1 v1 d1 s1 rm1 r1 h
    exact ⟨h1, cn2 F2 M2 _ _ _ (Same.refl F2) rm2 .nil h2⟩
  | cons e es =>
    obtain ⟨s1, s2⟩ := tr_head (env := X.env) (pos := cp) hes
    refine pe_bm pa sl ty hm ho ha (plainO_ok hp) ?_ hline s1 s2
    rw [tr_all hes]
    show (true && (true && decide ((e :: es).length + 0 + (if ([] : List Keyword).isEmpty then 0 else 1) < 30))) = true
    rw [Bool.true_and, Bool.true_and]
    refine decide_eq_true ?_
    simp only [List.isEmpty_nil, if_true]
    simp only [List.length_cons] at hl ⊢
    omega

theorem nm_of {tg : Expr} (h : isNmT tg = true) : ∃ n p, tg = .Name n p := by
  cases tg <;> first | exact ⟨_, _, rfl⟩ | cases h
theorem tup_of {tg : Expr} (h : isTupT tg = true) : ∃ elts kk tp, tg = .Tuple elts kk tp := by
  cases tg <;> first
    | exact ⟨_, _, _, rfl⟩
    | cases h
theorem small_step {i j c : Int} (h0 : 0 < c) (h1 : c < 1000000) (ha : -(2 ^ 62) ≤ i) (ha' : i < 2 ^ 62) (hb : -(2 ^ 62) ≤ j) (hb' : j < 2 ^ 62) : Builtin.Range.small i j c = true := by
  have e : 0 ≤ Builtin.Range.rangeSize i j c ∧ Builtin.Range.rangeSize i j c ≤ 2 ^ 63 - 1 := by
    unfold Builtin.Range.rangeSize
    rw [if_pos h0]
    split
    · have a := Int.ediv_nonneg (a := j - i - 1) (b := c) (by omega) (by omega)
      have b := Int.ediv_le_self c (show (0 : Int) ≤ j - i - 1 by omega)
      omega
    · omega
  unfold Builtin.Range.small
  generalize Builtin.Range.rangeSize i j c = n at e
  simp only [Builtin.Range.rangeFitsLong, Bool.and_eq_true, Bool.or_eq_true, decide_eq_true_eq, beq_iff_eq, if_pos h0]
  omega
theorem rgC_pos {i j c : Int} (h0 : 0 < c) (h1 : c < 1000000) (b1 : inB i) (b2 : inB j) : L2.RgC i j c (Builtin.Range.rangeSize i j c).toNat := by
  have e : 0 ≤ Builtin.Range.rangeSize i j c := by
    unfold Builtin.Range.rangeSize
    rw [if_pos h0]
    split
    · have a := Int.ediv_nonneg (a := j - i - 1) (b := c) (by omega) (by omega)
      omega
    · omega
  exact ⟨by omega, by omega, small_step h0 h1 b1.1 b1.2 b2.1 b2.2, by omega⟩
theorem walkR3_inv {x y z : D} {M : Mem} {q : Wk → Mem → Prop} (h : walkR [x, y, z] M q) : ∃ (i j c : Int) (n : Nat), x = .int i ∧ y = .int j ∧ z = .int c ∧ L2.RgC i j c n ∧ q ⟨rngC i c n, fun _ => True⟩ M := by
  unfold walkR at h
  split at h
  · rename_i e; cases e
  · rename_i e; cases e
  · rename_i i j c e
    injection e with e1 e2
    injection e2 with e2 e3
    injection e3 with e3 e4
    split at h
    · rename_i hc
      obtain ⟨⟨b1, b2, b3⟩, b4⟩ := h
      exact ⟨i, j, c, _, e1, e2, e3, rgC_pos (of_decide_eq_true hc) b3 b1 b2, b4⟩
    · obtain ⟨⟨b1, b2, b3⟩, b4⟩ := h
      exact ⟨i, j, -1, _, e1, e2, by rw [e3, b3], L2.RgC.neg b1.1 b1.2 b2.1 b2.2, b4⟩
  · exact h.elim
theorem rel_rgc {lo c : Int} : ∀ n : Nat, RelDs G F (rgcV lo c n) (rngC lo c n) := fun n => by
  unfold rgcV rngC
  generalize List.range n = l
  induction l with
  | nil => exact .nil
  | cons a l ih => exact .cons (.int _) ih
theorem rng_rngC {lo : Int} {n : Nat} : rng lo n = rngC lo 1 n := by
  unfold rng rngC
  refine List.map_congr_left fun i _ => ?_
  rw [Int.mul_one]
theorem rgC_one {i j : Int} (b1 : inB i) (b2 : inB j) : L2.RgC i j 1 (j - i).toNat :=
  ⟨by decide, by decide, small_one b1.1 b1.2 b2.1 b2.2, rangeSize_nat i j⟩
theorem lrg_ok {G : Gx} {F : Hp} {M : Mem} {H : Hp} {fr : Bool} {vs : List V} {ds : List D} {q : QK} {Q : VK} (rm : RM G F M H) (rs : RelDs G F vs ds) (cn : Cn G F q Q) (h : walkR ds M fun w M2 => newL fr w.items M2 q) :
    ∃ i j c, Rgs vs i j c ∧ c ≠ 0 ∧ c.natAbs < 1073741824 ∧ ∃ n, L2.RgC i j c n ∧ n ≤ 2 ^ 24 ∧ ∀ p, H p = none → Q (.ref p) (upd H p (.lst (rgcV i c n))) := by
  unfold walkR at h
  split at h
  · rename_i j
    cases rs with
    | cons r t =>
      cases t; cases r
      have g := rgC_one (i := 0) ⟨by decide, by decide⟩ h.1
      rw [Int.sub_zero] at g
      have hl : newL fr (rngC 0 1 j.toNat) M q := by rw [← rng_rngC]; exact h.2
      have k := newL_ok rm (rel_rgc j.toNat) cn hl
      exact ⟨0, j, 1, .inl ⟨rfl, rfl, rfl⟩, g.1, g.2.1, _, g, by have := k.1; rw [rgcV_len] at this; exact this, k.2⟩
  · rename_i i j
    cases rs with
    | cons r t =>
      cases t with
      | cons r' t =>
        cases t; cases r; cases r'
        have g := rgC_one h.1.1 h.1.2
        have hl : newL fr (rngC i 1 (j - i).toNat) M q := by rw [← rng_rngC]; exact h.2
        have k := newL_ok rm (rel_rgc (j - i).toNat) cn hl
        exact ⟨i, j, 1, .inr (.inl ⟨rfl, rfl⟩), g.1, g.2.1, _, g, by have := k.1; rw [rgcV_len] at this; exact this, k.2⟩
  · rename_i i j c
    cases rs with
    | cons r t =>
      cases t with
      | cons r' t =>
        cases t with
        | cons r'' t =>
          cases t; cases r; cases r'; cases r''
          have fin : ∀ n, L2.RgC i j c n → newL fr (rngC i c n) M q → ∃ i' j' c', Rgs [.int i, .int j, .int c] i' j' c' ∧ c' ≠ 0 ∧ c'.natAbs < 1073741824 ∧ ∃ n, L2.RgC i' j' c' n ∧ n ≤ 2 ^ 24 ∧ ∀ p, H p = none → Q (.ref p) (upd H p (.lst (rgcV i' c' n))) := fun n g hl => by
            have k := newL_ok rm (rel_rgc n) cn hl
            exact ⟨i, j, c, .inr (.inr rfl), g.1, g.2.1, _, g, by have := k.1; rw [rgcV_len] at this; exact this, k.2⟩
          split at h
          · rename_i hc
            exact fin _ (rgC_pos (of_decide_eq_true hc) h.1.2.2 h.1.1 h.1.2.1) h.2
          · obtain ⟨⟨b1, b2, b3⟩, b4⟩ := h
            subst b3
            exact fin _ (L2.RgC.neg b1.1 b1.2 b2.1 b2.2) b4
  · exact h.elim
/-- as a value, as a test, in an and, an or -/
structure Snd (R : Nat → List D → Mem → QK → XQ → Prop) (G : Gx) (W : WX) (X : Cx) (ex : Ex) (e : Expr) : Prop where
  E : PE X e (liftE G W (wpE R ex))
  T : PT X e (liftT G W (wpT R ex))
  B : (∃ op es p, e = .BoolOp op es p) → L2.PW X e (liftT G W (wpT R ex))
/-- a test by the value's truth -/
theorem t_plain {G : Gx} {W : WX} {X : Cx} {ex : Ex} {e : Expr} (hK : X.K = G.K) (h : PE X e (liftE G W (wpE R ex))) (hp : plainT e = true) : PT X e (liftT G W (wpT R ex)) := by
  refine PT.imp (pt_truth h (plainT_ok hp)) fun σ H Q ⟨F, M, env, q, e, rm, er, cn, cx, h⟩ => ?_
  refine enter rm er cx h fun F1 M1 H1 v1 d1 s1 rm1 er1 cx1 r1 h => ?_
  obtain ⟨c, t1, t2⟩ := tru_of rm1 r1 (cn.mono s1) h
  exact ⟨c, by rw [hK]; exact t1, t2⟩
theorem Snd.plain {G : Gx} {W : WX} {X : Cx} {ex : Ex} {e : Expr} (hK : X.K = G.K) (hp : plainT e = true) (h : PE X e (liftE G W (wpE R ex))) : Snd R G W X ex e :=
  ⟨h, t_plain hK h hp, fun ⟨_, _, _, z⟩ => by subst z; cases hp⟩

theorem revW_cases {fr : Bool} {x : D} {M : Mem} {Q : QK} (h : revW fr x M Q) : (∃ ds, asL M x = some ds ∧ newL fr ds.reverse M Q) ∨ (∃ ds, x = .tup ds ∧ Q (.tup ds.reverse) M) := by
  unfold revW at h
  split at h
  · exact .inr ⟨_, rfl, h⟩
  · split at h
    · rename_i e
      exact .inl ⟨_, e, h⟩
    · exact h.elim
theorem fvs_none {G : Gx} {F : Hp} {f : Str} : ∀ {fvs : List (Str × V)} {fs : List (Str × D)}, Paired (fun (p : Str × V) (q : Str × D) => p.1 = q.1 ∧ RelD G F p.2 q.2) fvs fs → fs.lookup f = none → fvs.lookup f = none
  | _, _, .nil, _ => rfl
  | (a, v) :: fvs, (b, d) :: fs, .cons h r, e => by
    have e1 : a = b := h.1
    subst e1
    rw [List.lookup_cons] at e ⊢
    cases q : (f == a) with
    | true => rw [q] at e; cases e
    | false => rw [q] at e; exact fvs_none r e
theorem fvs_put {G : Gx} {F : Hp} {f : Str} {v : V} {d : D} (hd : RelD G F v d) : ∀ {fvs : List (Str × V)} {fs : List (Str × D)}, Paired (fun (p : Str × V) (q : Str × D) => p.1 = q.1 ∧ RelD G F p.2 q.2) fvs fs → Paired (fun (p : Str × V) (q : Str × D) => p.1 = q.1 ∧ RelD G F p.2 q.2) (putF f v fvs) (putS f d fs)
  | _, _, .nil => .cons ⟨rfl, hd⟩ .nil
  | (a, w) :: fvs, (b, x) :: fs, .cons h r => by
    have e1 : a = b := h.1
    subst e1
    unfold putF putS
    by_cases q : a = f
    · rw [if_pos q, if_pos q]; exact .cons ⟨rfl, hd⟩ r
    · rw [if_neg q, if_neg q]; exact .cons h (fvs_put hd r)
theorem fvs_len {G : Gx} {F : Hp} : ∀ {fvs : List (Str × V)} {fs : List (Str × D)}, Paired (fun (p : Str × V) (q : Str × D) => p.1 = q.1 ∧ RelD G F p.2 q.2) fvs fs → fvs.length = fs.length
  | _, _, .nil => rfl
  | _ :: _, _ :: _, .cons _ r => congrArg Nat.succ (fvs_len r)
theorem fvs_look {G : Gx} {F : Hp} {f : Str} {d : D} : ∀ {fvs : List (Str × V)} {fs : List (Str × D)}, Paired (fun (p : Str × V) (q : Str × D) => p.1 = q.1 ∧ RelD G F p.2 q.2) fvs fs → fs.lookup f = some d → ∃ v, fvs.lookup f = some v ∧ RelD G F v d
  | _, _, .nil, h => by cases h
  | (a, v) :: fvs, (b, e) :: fs, .cons r t, h => by
    obtain ⟨r1, r2⟩ := r
    have r1 : a = b := r1
    subst r1
    rw [List.lookup_cons] at h ⊢
    cases q : (f == a) with
    | true =>
      rw [q] at h
      cases h
      exact ⟨v, rfl, r2⟩
    | false =>
      rw [q] at h
      exact fvs_look t h
theorem mth_snd {G : Gx} {W : WX} {X : Cx} {sc : Scope} {o es : Ex} {o' : Expr} {m : Str} {ap cp : Pos} {es' : List Expr} {c f : Nat} (g : Good G tb R k W X) (k2 : (ap.endLine == cp.line) = true) (k4 : plainO o' = true) (k5 : chkA tb N es sc es' = true) (k6 : decide (es'.length < 20) = true) (nmx : tb.me f = some (c, m))
    (A : PE X o' (liftE G W (wpE R o))) (B : PA X es' (liftA G W (wpA R es))) : PE X (.Call (.Attribute o' m ap) es' [] cp) (liftE G W fun env M Q E => wpE R o env M (fun x M1 => mthW x c m M1 ∧ wpA R es env M1 (fun ds M2 => R f (x :: ds) M2 Q E) E) E) := by
  obtain ⟨C, ad, fd, ps, m1, m2, m3, m4, m5⟩ := g.ob.mts f c m nmx
  obtain ⟨c1, c2⟩ := g.ob.cls c C m1
  have hr := (g.room (g.ob.hot f c m nmx)).mono (Nat.le_succ _)
  have rd : ∀ {F1 M1 H1 v1 d1}, RM G F1 M1 H1 → RelD G F1 v1 d1 → mthW d1 c m M1 → ∃ a dx fs, v1 = .ref a ∧ H1 a = some (.ins C dx fs) ∧ fs.lookup m = none := fun {F1 M1 H1 v1 d1} rm1 r1 h => by
    unfold mthW at h
    split at h
    · rename_i p
      split at h
      · rename_i k fs e1
        obtain ⟨rfl, h⟩ := h
        cases r1
        obtain ⟨nf, C', dx, fvs, h1, h2, h3⟩ := rm1.mt p _ e1
        rw [m1] at h1
        cases h1
        exact ⟨p, dx, fvs, rfl, h2, fvs_none h3 h⟩
      · exact h.elim
    · exact h.elim
  cases es' with
  | nil =>
    cases chkA_nil k5
    refine PE.imp (L2.pe_methX0 (E := WE W) A c1 m2 m5 hr m3 (passAt g.tk) (plainO_ok k4) k2) fun σ H Q ⟨F, M, env, q, e, rm, er, cn, cx, h⟩ => ?_
    refine enter rm er cx h fun F1 M1 H1 v1 d1 s1 rm1 er1 cx1 r1 h => ?_
    obtain ⟨a, dx, fs, z1, z2, z3⟩ := rd rm1 r1 h.1
    exact ⟨a, dx, fs, z1, z2, z3, by rw [show ([v1] : List V).length = [d1].length from rfl]; exact g.ob.len f c m [d1] M1 q e nmx h.2, G.P, F1, M1, [d1], q, e, rm1, .cons r1 .nil, cn.mono s1, cx1, h.2⟩
  | cons e0 es' =>
    obtain ⟨s1, s2⟩ := tr_head (env := X.env) (pos := cp) k5
    refine PE.imp (L2.pe_methX (E := WE W) A c1 m2 m5 hr m3 (passAt g.tk) B (plainO_ok k4) ?_ k2 s1 s2) fun σ H Q ⟨F, M, env, q, e, rm, er, cn, cx, h⟩ => ?_
    · unfold methodCallForm
      rw [tr_all k5]
      show (true && (true && decide ((e0 :: es').length + 0 + (if ([] : List Keyword).isEmpty then 0 else 1) < 30))) = true
      rw [Bool.true_and, Bool.true_and]
      refine decide_eq_true ?_
      have hl := of_decide_eq_true k6
      simp only [List.isEmpty_nil, if_true]
      simp only [List.length_cons] at hl ⊢
      omega
    · refine enter rm er cx h fun F1 M1 H1 v1 d1 s1 rm1 er1 cx1 r1 h => ?_
      obtain ⟨a, dx, fs, z1, z2, z3⟩ := rd rm1 r1 h.1
      refine ⟨a, dx, fs, z1, z2, z3, ?_⟩
      refine enterA rm1 er1 cx1 h.2 fun F2 M2 H2 vs ds s2 rm2 er2 cx2 rs h => ?_
      have rs2 : RelDs G F2 (v1 :: vs) (d1 :: ds) := .cons (r1.mono s2) rs
      exact ⟨by rw [rs2.len]; exact g.ob.len f c m _ M2 q e nmx h, G.P, F2, M2, _, q, e, rm2, rs2, cn.mono (s1.trans s2), cx2, h⟩
mutual
theorem snd_E : ∀ (ex : Ex) {G : Gx} {W : WX} {X : Cx} {sc : Scope} {e : Expr}, Good G tb R k W X → X.N = N → X.env.scope = sc → chkE tb N ex sc e = true → Snd R G W X ex e
  | .var i, G, W, X, sc, e, g, hN, hs, h => by
    refine .plain g.hK (plain_of h rfl) ?_
    unfold chkE at h; split at h
    · rename_i x p
      rw [Bool.and_eq_true, Bool.and_eq_true] at h
      obtain ⟨o1, o2⟩ := ok_of h.2
      refine PE.imp (pe_var (i := i) (by rw [hN]; exact of_decide_eq_true h.1.1) (by rw [hs]; exact vis_of h.1.2) o1 o2) fun σ H Q ⟨F, M, env, q, e, rm, er, cn, cx, h⟩ => ?_
      dsimp only [wpE] at h
      cases q1 : slv env i with
      | none => rw [q1] at h; exact h.elim
      | some d =>
        rw [q1] at h
        obtain ⟨v, e1, r⟩ := er.at_ i d q1
        exact ⟨v, e1, cn_here rm cn r h⟩
    · cases h
  | .non, G, W, X, sc, e, g, hN, hs, h => by
    refine .plain g.hK (plain_of h rfl) ?_
    unfold chkE at h; split at h
    · exact PE.imp pe_non fun σ H Q ⟨F, M, env, q, e, rm, er, cn, cx, h⟩ => cn_here rm cn .non h
    · cases h
  | .bl b, G, W, X, sc, e, g, hN, hs, h => by
    refine .plain g.hK (plain_of h rfl) ?_
    unfold chkE at h; split at h
    · rename_i c _ _
      have e1 : b = c := eq_of_beq h
      subst e1
      exact PE.imp pe_bl fun σ H Q ⟨F, M, env, q, e, rm, er, cn, cx, h⟩ => cn_here rm cn (.bl _) h
    · cases h
  | .int i, G, W, X, sc, e, g, hN, hs, h => by
    refine .plain g.hK (plain_of h rfl) ?_
    unfold chkE at h; split at h
    · have e1 := of_decide_eq_true h
      subst e1
      exact PE.imp pe_int fun σ H Q ⟨F, M, env, q, e, rm, er, cn, cx, h⟩ => cn_here rm cn (.int _) h
    · cases h
  | .str x, G, W, X, sc, e, g, hN, hs, h => by
    refine .plain g.hK (plain_of h rfl) ?_
    unfold chkE at h; split at h
    · have e1 := of_decide_eq_true h
      subst e1
      exact PE.imp pe_str fun σ H Q ⟨F, M, env, q, e, rm, er, cn, cx, h⟩ => cn_here rm cn (.str _) h
    · cases h
  | .glob x d, G, W, X, sc, e, g, hN, hs, h => by
    refine .plain g.hK (plain_of h rfl) ?_
    unfold chkE at h; split at h
    · rw [Bool.and_eq_true, Bool.and_eq_true] at h
      have e1 := of_decide_eq_true h.1.1
      subst e1
      obtain ⟨g1, g2⟩ := gl_of hs h.1.2
      obtain ⟨p, hp, e2⟩ := List.any_eq_true.mp h.2
      rw [Bool.and_eq_true] at e2
      obtain ⟨v, u, m1, m2, m3⟩ := g.glb p hp
      rw [of_decide_eq_true e2.1] at m1
      refine PE.imp (pe_glob g1 m1 m2 g2) fun σ H Q ⟨F, M, env, q, e, rm, er, cn, cx, h⟩ => ?_
      have r := m3 F
      rw [eqD_eq e2.2] at r
      exact cn_here rm cn r h
    · cases h
  | .bin op fr a b, G, W, X, sc, e, g, hN, hs, h => by
    refine .plain g.hK (plain_of h rfl) ?_
    unfold chkE at h; split at h
    · rw [Bool.and_eq_true, Bool.and_eq_true] at h
      have e1 := of_decide_eq_true h.1.1
      subst e1
      refine PE.imp (pe_op (opr_bin g.hK (fr := fr)) ((snd_E a g hN hs h.1.2).E) ((snd_E b g hN hs h.2).E)) fun σ H Q ⟨F, M, env, q, e, rm, er, cn, cx, h⟩ => ?_
      refine enter rm er cx h fun F1 M1 H1 v1 d1 s1 rm1 er1 cx1 r1 h => enter rm1 er1 cx1 h fun F2 M2 H2 v2 d2 s2 rm2 er2 cx2 r2 h => ?_
      exact ⟨F2, M2, d1, d2, q, rm2, r1.mono s2, r2, cn.mono (s1.trans s2), h⟩
    · cases h
  | .neg a, G, W, X, sc, e, g, hN, hs, h => by
    refine .plain g.hK (plain_of h rfl) ?_
    unfold chkE at h; split at h
    · refine PE.imp (pe_un (unr_neg (G := G)) ((snd_E a g hN hs h).E)) fun σ H Q ⟨F, M, env, q, e, rm, er, cn, cx, h⟩ => ?_
      exact enter rm er cx h fun F1 M1 H1 v1 d1 s1 rm1 er1 cx1 r1 h => ⟨F1, M1, d1, q, rm1, r1, cn.mono s1, h⟩
    · cases h
  | .not a, G, W, X, sc, e, g, hN, hs, h => by
    unfold chkE at h; split at h
    · have A := snd_E a g hN hs h
      refine ⟨?_, ?_, fun ⟨_, _, _, z⟩ => nomatch z⟩
      · refine PE.imp (pe_notT A.E) fun σ H Q ⟨F, M, env, q, e, rm, er, cn, cx, h⟩ => ?_
        refine enter rm er cx h fun F1 M1 H1 v1 d1 s1 rm1 er1 cx1 r1 h => ?_
        obtain ⟨c, t1, t2⟩ := tru_of (Q := fun b H' => Q (.bl (!b)) H') rm1 r1 (fun F2 M2 H2 b s2 rm2 q2 => cn F2 M2 H2 _ _ (s1.trans s2) rm2 (.bl _) q2) h
        exact ⟨c, by rw [g.hK]; exact t1, t2⟩
      · exact PT.imp (pt_not A.T) fun σ H Q ⟨F, M, env, q, e, rm, er, cn, cx, h⟩ => ⟨F, M, env, fun c M => q (!c) M, e, rm, er, fun F1 M1 H1 c s1 rm1 hq => cn F1 M1 H1 _ s1 rm1 hq, cx, h⟩
    · cases h
  | .and a b, G, W, X, sc, e, g, hN, hs, h => by
    unfold chkE at h; split at h
    · rename_i a' b' r pos
      rw [Bool.and_eq_true] at h
      have A := snd_E a g hN hs h.1
      have hb : PE X (.BoolOp .And (b' :: r) pos) (liftE G W (wpE R b)) := by
        cases r with
        | nil => exact pe_one (snd_E b g hN hs h.2).E
        | cons c' r' => exact (snd_E b g hN hs h.2).E
      have hw : L2.PW X (.BoolOp .And (b' :: r) pos) (liftT G W (wpT R b)) := by
        cases r with
        | nil => exact pw_and1 (snd_E b g hN hs h.2).T
        | cons c' r' => exact (snd_E b g hN hs h.2).B ⟨_, _, _, rfl⟩
      have w : L2.PW X (.BoolOp .And (a' :: b' :: r) pos) (liftT G W (wpT R (.and a b))) := by
        refine PW.imp (pw_and A.T hw) fun σ H Q ⟨F, M, env, q, e, rm, er, cn, cx, h⟩ => ?_
        refine ⟨F, M, env, fun c M2 => match c with
          | true => wpT R b env M2 q e
          | false => q false M2, e, rm, er, fun F1 M1 H1 c s1 rm1 hq => ?_, cx, (mon R R g.mon a).E (fun x M1 h => ?_) (fun _ _ h => h) h⟩
        · cases c with
          | true => rw [if_pos rfl]; exact ⟨F1, M1, env, q, e, rm1, er.mono s1, cn.mono s1, cx.mono s1, hq⟩
          | false => rw [if_neg Bool.false_ne_true]; exact cn F1 M1 H1 _ s1 rm1 hq
        · obtain ⟨c, h1, h2⟩ := tru_det h
          refine (h2 _).1 ?_
          cases c with
          | true => exact h1
          | false => exact (h2 _).2 h1
      refine ⟨?_, w.pt, fun _ => w⟩
      · refine PE.imp (pe_andT A.E hb) fun σ H Q ⟨F, M, env, q, e, rm, er, cn, cx, h⟩ => ?_
        refine enter rm er cx h fun F1 M1 H1 v1 d1 s1 rm1 er1 cx1 r1 h => ?_
        obtain ⟨c, t1, t2⟩ := tru_of (Q := fun c H' => if c = true then liftE G W (wpE R b) σ H' Q else Q v1 H') rm1 r1 (fun F2 M2 H2 c s2 rm2 q2 => by
          cases c with
          | true => rw [if_pos rfl]; exact ⟨F2, M2, env, q, e, rm2, er1.mono s2, cn.mono (s1.trans s2), cx1.mono s2, q2⟩
          | false => rw [if_neg Bool.false_ne_true]; exact cn F2 M2 H2 _ _ (s1.trans s2) rm2 (r1.mono s2) q2) h
        exact ⟨c, by rw [g.hK]; exact t1, t2⟩
    · cases h
  | .or a b, G, W, X, sc, e, g, hN, hs, h => by
    unfold chkE at h; split at h
    · rename_i a' b' r pos
      rw [Bool.and_eq_true] at h
      have A := snd_E a g hN hs h.1
      have hb : PE X (.BoolOp .Or (b' :: r) pos) (liftE G W (wpE R b)) := by
        cases r with
        | nil => exact pe_one (snd_E b g hN hs h.2).E
        | cons c' r' => exact (snd_E b g hN hs h.2).E
      have hw : L2.PW X (.BoolOp .Or (b' :: r) pos) (liftT G W (wpT R b)) := by
        cases r with
        | nil => exact pw_or1 (snd_E b g hN hs h.2).T
        | cons c' r' => exact (snd_E b g hN hs h.2).B ⟨_, _, _, rfl⟩
      have w : L2.PW X (.BoolOp .Or (a' :: b' :: r) pos) (liftT G W (wpT R (.or a b))) := by
        refine PW.imp (pw_or A.T hw) fun σ H Q ⟨F, M, env, q, e, rm, er, cn, cx, h⟩ => ?_
        refine ⟨F, M, env, fun c M2 => match c with
          | true => q true M2
          | false => wpT R b env M2 q e, e, rm, er, fun F1 M1 H1 c s1 rm1 hq => ?_, cx, (mon R R g.mon a).E (fun x M1 h => ?_) (fun _ _ h => h) h⟩
        · cases c with
          | true => rw [if_pos rfl]; exact cn F1 M1 H1 _ s1 rm1 hq
          | false => rw [if_neg Bool.false_ne_true]; exact ⟨F1, M1, env, q, e, rm1, er.mono s1, cn.mono s1, cx.mono s1, hq⟩
        · obtain ⟨c, h1, h2⟩ := tru_det h
          refine (h2 _).1 ?_
          cases c with
          | true => exact (h2 _).2 h1
          | false => exact h1
      refine ⟨?_, w.pt, fun _ => w⟩
      · refine PE.imp (pe_orT A.E hb) fun σ H Q ⟨F, M, env, q, e, rm, er, cn, cx, h⟩ => ?_
        refine enter rm er cx h fun F1 M1 H1 v1 d1 s1 rm1 er1 cx1 r1 h => ?_
        obtain ⟨c, t1, t2⟩ := tru_of (Q := fun c H' => if c = true then Q v1 H' else liftE G W (wpE R b) σ H' Q) rm1 r1 (fun F2 M2 H2 c s2 rm2 q2 => by
          cases c with
          | true => rw [if_pos rfl]; exact cn F2 M2 H2 _ _ (s1.trans s2) rm2 (r1.mono s2) q2
          | false => rw [if_neg Bool.false_ne_true]; exact ⟨F2, M2, env, q, e, rm2, er1.mono s2, cn.mono (s1.trans s2), cx1.mono s2, q2⟩) h
        exact ⟨c, by rw [g.hK]; exact t1, t2⟩
    · cases h
  | .cmp op a b, G, W, X, sc, e, g, hN, hs, h => by
    unfold chkE at h; split at h
    · rw [Bool.and_eq_true, Bool.and_eq_true, Bool.and_eq_true] at h
      have e1 := of_decide_eq_true h.1.1.1
      subst e1
      have A := (snd_E a g hN hs h.1.1.2).E
      have B := (snd_E b g hN hs h.1.2).E
      have hu : X.A.units + 65 < cLine := by have := g.un; omega
      refine ⟨?_, ?_, fun ⟨_, _, _, z⟩ => nomatch z⟩
      · refine PE.imp (pe_cmpR (opr_cmp (G := G) g.hK hu) A B (noset_ok h.2)) fun σ H Q ⟨F, M, env, q, e, rm, er, cn, cx, h⟩ => ?_
        refine enter rm er cx h fun F1 M1 H1 v1 d1 s1 rm1 er1 cx1 r1 h => enter rm1 er1 cx1 h fun F2 M2 H2 v2 d2 s2 rm2 er2 cx2 r2 h => ?_
        exact ⟨F2, M2, d1, d2, q, rm2, r1.mono s2, r2, cn.mono (s1.trans s2), h⟩
      · refine PT.imp (pt_cmpR (opr_cmp (G := G) g.hK hu) A B (noset_ok h.2)) fun σ H Q ⟨F, M, env, q, e, rm, er, cn, cx, h⟩ => ?_
        refine enter rm er cx h fun F1 M1 H1 v1 d1 s1 rm1 er1 cx1 r1 h => enter rm1 er1 cx1 h fun F2 M2 H2 v2 d2 s2 rm2 er2 cx2 r2 h => ?_
        refine ⟨F2, M2, d1, d2, _, rm2, r1.mono s2, r2, ?_, lift2_bl h⟩
        rintro F3 M3 H3 v3 d3 s3 rm3 r3 ⟨⟨b, rfl⟩, h⟩
        cases r3
        exact ⟨b, rfl, cn F3 M3 H3 _ (s1.trans (s2.trans s3)) rm3 h⟩
    · cases h
  | .ch2 o1 o2 a b c, G, W, X, sc, e, g, hN, hs, h => by
    unfold chkE at h; split at h
    · simp only [Bool.and_eq_true] at h
      obtain ⟨⟨⟨⟨⟨k1, k2⟩, k3⟩, k4⟩, k5⟩, k6⟩ := h
      have e1 := of_decide_eq_true k1
      have e2 := of_decide_eq_true k2
      subst e1 e2
      have hu : X.A.units + 65 < cLine := by have := g.un; omega
      have A := (snd_E a g hN hs k3).E
      have B := (snd_E b g hN hs k4).E
      have C := (snd_E c g hN hs k5).E
      refine ⟨?_, ?_, fun ⟨_, _, _, z⟩ => nomatch z⟩
      · refine PE.imp (pe_chain (opr_cmp (G := G) g.hK hu) (opr_cmp (G := G) g.hK hu) A B C (mem_lastMarks k6)) fun σ H Q ⟨F, M, env, q, e, rm, er, cn, cx, h⟩ => ?_
        refine enter rm er cx h fun F1 M1 H1 v1 d1 s1 rm1 er1 cx1 r1 h => enter rm1 er1 cx1 h fun F2 M2 H2 v2 d2 s2 rm2 er2 cx2 r2 h => ?_
        refine ⟨F2, M2, d1, d2, _, rm2, r1.mono s2, r2, ?_, lift2_bl h⟩
        rintro F3 M3 H3 v3 d3 s3 rm3 r3 ⟨⟨b, rfl⟩, h⟩
        cases r3
        refine ⟨b, rfl, ?_⟩
        cases b with
        | true =>
          rw [if_pos rfl]
          refine enter rm3 (er2.mono s3) (cx2.mono s3) h fun F4 M4 H4 v4 d4 s4 rm4 er4 cx4 r4 h => ?_
          exact ⟨F4, M4, d2, d4, q, rm4, r2.mono (s3.trans s4), r4, cn.mono (s1.trans (s2.trans (s3.trans s4))), h⟩
        | false =>
          rw [if_neg Bool.false_ne_true]
          exact cn F3 M3 H3 _ _ (s1.trans (s2.trans s3)) rm3 (.bl _) h
      · refine PT.imp (pt_chain (opr_cmp (G := G) g.hK hu) (opr_cmp (G := G) g.hK hu) A B C (mem_lastMarks k6)) fun σ H Q ⟨F, M, env, q, e, rm, er, cn, cx, h⟩ => ?_
        refine enter rm er cx h fun F1 M1 H1 v1 d1 s1 rm1 er1 cx1 r1 h => enter rm1 er1 cx1 h fun F2 M2 H2 v2 d2 s2 rm2 er2 cx2 r2 h => ?_
        refine ⟨F2, M2, d1, d2, _, rm2, r1.mono s2, r2, ?_, lift2_bl h⟩
        rintro F3 M3 H3 v3 d3 s3 rm3 r3 ⟨⟨b, rfl⟩, h⟩
        cases r3
        refine ⟨b, rfl, ?_⟩
        cases b with
        | true =>
          rw [if_pos rfl]
          refine enter rm3 (er2.mono s3) (cx2.mono s3) h fun F4 M4 H4 v4 d4 s4 rm4 er4 cx4 r4 h => ?_
          refine ⟨F4, M4, d2, d4, _, rm4, r2.mono (s3.trans s4), r4, ?_, lift2_bl h⟩
          rintro F5 M5 H5 v5 d5 s5 rm5 r5 ⟨⟨b, rfl⟩, h⟩
          cases r5
          exact ⟨b, rfl, cn F5 M5 H5 _ (s1.trans (s2.trans (s3.trans (s4.trans s5)))) rm5 h⟩
        | false =>
          rw [if_neg Bool.false_ne_true]
          exact ⟨false, rfl, cn F3 M3 H3 _ (s1.trans (s2.trans s3)) rm3 h⟩
    · cases h
  | .ch3 o1 o2 o3 a b c d, G, W, X, sc, e, g, hN, hs, h => by
    unfold chkE at h; split at h
    · simp only [Bool.and_eq_true] at h
      obtain ⟨⟨⟨⟨⟨⟨⟨k1, k2⟩, k3⟩, k4⟩, k5⟩, k6⟩, k7⟩, k8⟩ := h
      have e1 := of_decide_eq_true k1
      have e2 := of_decide_eq_true k2
      have e3 := of_decide_eq_true k3
      subst e1 e2 e3
      have hu : X.A.units + 65 < cLine := by have := g.un; omega
      have A := (snd_E a g hN hs k4).E
      have B := (snd_E b g hN hs k5).E
      have C := (snd_E c g hN hs k6).E
      have D' := (snd_E d g hN hs k7).E
      refine ⟨?_, ?_, fun ⟨_, _, _, z⟩ => nomatch z⟩
      · refine PE.imp (pe_chain3 (opr_cmp (G := G) g.hK hu) (opr_cmp (G := G) g.hK hu) (opr_cmp (G := G) g.hK hu) A B C D' (mem_lastMarks3 k8)) fun σ H Q ⟨F, M, env, q, e, rm, er, cn, cx, h⟩ => ?_
        refine enter rm er cx h fun F1 M1 H1 v1 d1 s1 rm1 er1 cx1 r1 h => enter rm1 er1 cx1 h fun F2 M2 H2 v2 d2 s2 rm2 er2 cx2 r2 h => ?_
        refine ⟨F2, M2, d1, d2, _, rm2, r1.mono s2, r2, ?_, lift2_bl h⟩
        rintro F3 M3 H3 v3 d3 s3 rm3 r3 ⟨⟨b, rfl⟩, h⟩
        cases r3
        refine ⟨b, rfl, ?_⟩
        cases b with
        | true =>
          rw [if_pos rfl]
          refine enter rm3 (er2.mono s3) (cx2.mono s3) h fun F4 M4 H4 v4 d4 s4 rm4 er4 cx4 r4 h => ?_
          refine ⟨F4, M4, d2, d4, _, rm4, r2.mono (s3.trans s4), r4, ?_, lift2_bl h⟩
          rintro F5 M5 H5 v5 d5 s5 rm5 r5 ⟨⟨b, rfl⟩, h⟩
          cases r5
          refine ⟨b, rfl, ?_⟩
          cases b with
          | true =>
            rw [if_pos rfl]
            refine enter rm5 (er4.mono s5) (cx4.mono s5) h fun F6 M6 H6 v6 d6 s6 rm6 er6 cx6 r6 h => ?_
            exact ⟨F6, M6, d4, d6, q, rm6, r4.mono (s5.trans s6), r6, cn.mono (s1.trans (s2.trans (s3.trans (s4.trans (s5.trans s6))))), h⟩
          | false =>
            rw [if_neg Bool.false_ne_true]
            exact cn F5 M5 H5 _ _ (s1.trans (s2.trans (s3.trans (s4.trans s5)))) rm5 (.bl _) h
        | false =>
          rw [if_neg Bool.false_ne_true]
          exact cn F3 M3 H3 _ _ (s1.trans (s2.trans s3)) rm3 (.bl _) h
      · refine PT.imp (pt_chain3 (opr_cmp (G := G) g.hK hu) (opr_cmp (G := G) g.hK hu) (opr_cmp (G := G) g.hK hu) A B C D' (mem_lastMarks3 k8)) fun σ H Q ⟨F, M, env, q, e, rm, er, cn, cx, h⟩ => ?_
        refine enter rm er cx h fun F1 M1 H1 v1 d1 s1 rm1 er1 cx1 r1 h => enter rm1 er1 cx1 h fun F2 M2 H2 v2 d2 s2 rm2 er2 cx2 r2 h => ?_
        refine ⟨F2, M2, d1, d2, _, rm2, r1.mono s2, r2, ?_, lift2_bl h⟩
        rintro F3 M3 H3 v3 d3 s3 rm3 r3 ⟨⟨b, rfl⟩, h⟩
        cases r3
        refine ⟨b, rfl, ?_⟩
        cases b with
        | true =>
          rw [if_pos rfl]
          refine enter rm3 (er2.mono s3) (cx2.mono s3) h fun F4 M4 H4 v4 d4 s4 rm4 er4 cx4 r4 h => ?_
          refine ⟨F4, M4, d2, d4, _, rm4, r2.mono (s3.trans s4), r4, ?_, lift2_bl h⟩
          rintro F5 M5 H5 v5 d5 s5 rm5 r5 ⟨⟨b, rfl⟩, h⟩
          cases r5
          refine ⟨b, rfl, ?_⟩
          cases b with
          | true =>
            rw [if_pos rfl]
            refine enter rm5 (er4.mono s5) (cx4.mono s5) h fun F6 M6 H6 v6 d6 s6 rm6 er6 cx6 r6 h => ?_
            refine ⟨F6, M6, d4, d6, _, rm6, r4.mono (s5.trans s6), r6, ?_, lift2_bl h⟩
            rintro F7 M7 H7 v7 d7 s7 rm7 r7 ⟨⟨b, rfl⟩, h⟩
            cases r7
            exact ⟨b, rfl, cn F7 M7 H7 _ (s1.trans (s2.trans (s3.trans (s4.trans (s5.trans (s6.trans s7)))))) rm7 h⟩
          | false =>
            rw [if_neg Bool.false_ne_true]
            exact ⟨false, rfl, cn F5 M5 H5 _ (s1.trans (s2.trans (s3.trans (s4.trans s5)))) rm5 h⟩
        | false =>
          rw [if_neg Bool.false_ne_true]
          exact ⟨false, rfl, cn F3 M3 H3 _ (s1.trans (s2.trans s3)) rm3 h⟩
    · cases h
  | .ife t a b, G, W, X, sc, e, g, hN, hs, h => by
    unfold chkE at h; split at h
    · rw [Bool.and_eq_true, Bool.and_eq_true] at h
      have TT := snd_E t g hN hs h.1.1
      have A := snd_E a g hN hs h.1.2
      have B := snd_E b g hN hs h.2
      refine ⟨?_, ?_, fun ⟨_, _, _, z⟩ => nomatch z⟩
      · refine PE.imp (pe_ifExp TT.T A.E B.E) fun σ H Q ⟨F, M, env, q, e, rm, er, cn, cx, h⟩ => ?_
        refine ⟨F, M, env, _, e, rm, er, fun F1 M1 H1 c s1 rm1 hq => ?_, cx, h⟩
        cases c with
        | true => rw [if_pos rfl]; exact ⟨F1, M1, env, q, e, rm1, er.mono s1, cn.mono s1, cx.mono s1, hq⟩
        | false => rw [if_neg Bool.false_ne_true]; exact ⟨F1, M1, env, q, e, rm1, er.mono s1, cn.mono s1, cx.mono s1, hq⟩
      · refine PT.imp (pt_ife TT.T A.T B.T) fun σ H Q ⟨F, M, env, q, e, rm, er, cn, cx, h⟩ => ?_
        refine ⟨F, M, env, _, e, rm, er, fun F1 M1 H1 c s1 rm1 hq => ?_, cx, h⟩
        cases c with
        | true => rw [if_pos rfl]; exact ⟨F1, M1, env, q, e, rm1, er.mono s1, cn.mono s1, cx.mono s1, hq⟩
        | false => rw [if_neg Bool.false_ne_true]; exact ⟨F1, M1, env, q, e, rm1, er.mono s1, cn.mono s1, cx.mono s1, hq⟩
    · cases h
  | .tup es, G, W, X, sc, e, g, hN, hs, h => by
    refine .plain g.hK (plain_of h rfl) ?_
    unfold chkE at h; split at h
    · refine PE.imp (pe_tup (snd_A es g hN hs h)) fun σ H Q ⟨F, M, env, q, e, rm, er, cn, cx, h⟩ => ?_
      refine enterA rm er cx h fun F1 M1 H1 vs ds s1 rm1 er1 cx1 rs h => ⟨by rw [rs.len]; exact h.1, fun p hp => newT_ok rm1 rs (cn.mono s1) h.2 hp⟩
    · cases h
  | .lst fr es, G, W, X, sc, e, g, hN, hs, h => by
    refine .plain g.hK (plain_of h rfl) ?_
    unfold chkE at h; split at h
    · refine PE.imp (pe_lst (snd_A es g hN hs h)) fun σ H Q ⟨F, M, env, q, e, rm, er, cn, cx, h⟩ => ?_
      exact enterA rm er cx h fun F1 M1 H1 vs ds s1 rm1 er1 cx1 rs h => newL_ok rm1 rs (cn.mono s1) h
    · cases h
  | .emp, G, W, X, sc, e, g, hN, hs, h => by
    refine .plain g.hK (plain_of h rfl) ?_
    unfold chkE at h; split at h
    · refine PE.imp pe_dnewK fun σ H Q ⟨F, M, env, q, e, rm, er, cn, cx, h⟩ => ?_
      intro d hd
      exact newE_ok rm cn h hd
    · cases h
  | .dnt, G, W, X, sc, e, g, hN, hs, h => by
    refine .plain g.hK (plain_of h rfl) ?_
    unfold chkE at h; split at h
    · refine PE.imp pe_dnewT fun σ H Q ⟨F, M, env, q, e, rm, er, cn, cx, h⟩ => ?_
      intro d hd
      exact cn F _ _ _ _ (Same.refl F) (rm.new (ob := .dtc []) hd ⟨[], upd_same, .nil⟩) .loc (h d (rm.freeM hd))
    · cases h
  | .dct ks es, G, W, X, sc, e, g, hN, hs, h => by
    refine .plain g.hK (plain_of h rfl) ?_
    unfold chkE at h; split at h
    · rw [Bool.and_eq_true] at h
      obtain ⟨k1, k2⟩ := h
      have k1 := of_decide_eq_true k1
      obtain rfl : ks = [] := List.length_eq_zero_iff.mp k1
      obtain rfl : es = .nil := by
        cases es <;> first | rfl | (cases k2; done)
      refine PE.imp pe_dnewK fun σ H Q ⟨F, M, env, q, e, rm, er, cn, cx, h⟩ => ?_
      intro d hd
      have h1 : q (.loc d) ((M.upd d (.dic [])).upd d (.dic [])) := (h.2 d (rm.freeM hd)).2.2
      have e1 : (M.upd d (.dic [])).upd d (.dic []) = M.upd d (.dic []) := funext fun b => by
        by_cases z : b = d
        · subst z; unfold Mem.upd; rw [if_pos rfl, if_pos rfl]
        · unfold Mem.upd; rw [if_neg z]
      rw [e1] at h1
      exact cn F _ _ _ _ (Same.refl F) (rm.new (ob := .dic []) hd ⟨[], upd_same, .nil⟩) .loc h1
    · rename_i keys values pos
      simp only [Bool.and_eq_true] at h
      obtain ⟨⟨⟨⟨k1, k2⟩, k3⟩, k4⟩, k5⟩ := h
      have k3 := of_decide_eq_true k3
      have k4 := of_decide_eq_true k4
      have k5 := of_decide_eq_true k5
      have hl := chkK_len k1
      refine PE.imp (pe_disp (snd_D es g hN hs k1 k2 k5) (chkK_some k1) (hl.trans k5.symm) (by
        intro z
        rw [z, List.length_nil] at hl
        omega) (by rw [hl]; exact k4)) fun σ H Q ⟨F, M, env, q, e, rm, er, cn, cx, h⟩ => ?_
      intro p hp0
      have mp := rm.freeM hp0
      have rm0 : RM G F (M.upd p (.dic [])) (upd H p (.dK [])) := rm.new hp0 ⟨[], upd_same, .nil⟩
      refine pairs_read es rm0 er cx (h.2 p mp) (by rw [chkA_len k2, k5]) ?_
      intro F2 M2 H2 vs ds s2 rm2 rs ⟨h1, h2, h3⟩
      obtain ⟨nf, vks, g1, g2⟩ := rm2.mt p _ h1
      cases g2
      refine ⟨g1, ks.zip vs, zip_kV ks vs, ?_, ?_⟩
      · rw [List.length_zip]
        omega
      · exact cn F2 (M2.upd p (.dic (mergeD [] (ks.zip ds)))) (upd H2 p (.dK (mergeK [] (ks.zip vs)))) _ _ s2 (rm2.put (ob' := .dic (mergeD [] (ks.zip ds))) h1 ⟨_, upd_same, KVR.merge .nil rs⟩) .loc h3
    · cases h
  | .dget a i, G, W, X, sc, e, g, hN, hs, h => by
    refine .plain g.hK (plain_of h rfl) ?_
    unfold chkE at h; split at h
    · rw [Bool.and_eq_true, Bool.and_eq_true] at h
      have hu : X.A.units + 1 < cLine := by have := g.un; omega
      refine PE.imp (pe_dget hu ((snd_E a g hN hs h.1.1).E) ((snd_E i g hN hs h.1.2).E) (nosl_ok h.2)) fun σ H Q ⟨F, M, env, q, e, rm, er, cn, cx, h⟩ => ?_
      refine enter rm er cx h fun F1 M1 H1 v1 d1 s1 rm1 er1 cx1 r1 h => enter rm1 er1 cx1 h fun F2 M2 H2 v2 d2 s2 rm2 er2 cx2 r2 h => ?_
      obtain ⟨a, v, w, rfl, j1, j2, h⟩ := dget_inv rm2 (r1.mono s2) r2 h
      exact ⟨a, w, rfl, j1, cn F2 M2 H2 _ _ (s1.trans s2) rm2 j2 h⟩
    · cases h
  | .call f es, G, W, X, sc, e, g, hN, hs, h => by
    refine .plain g.hK (plain_of h rfl) ?_
    unfold chkE at h; split at h
    · rename_i x p e1 es' pos
      rw [Bool.and_eq_true, Bool.and_eq_true] at h
      obtain ⟨g1, g2⟩ := gl_of hs h.1.2
      obtain ⟨ad, fd, ps, m1, m2, m3, m4, m5⟩ := g.fns f x (of_decide_eq_true h.1.1)
      obtain ⟨s1, s2⟩ := tr_head (env := X.env) (pos := pos) h.2
      have nmx := of_decide_eq_true h.1.1
      refine PE.imp (pe_callS (E := WE W) m5 ((g.room (g.hn f x (of_decide_eq_true h.1.1))).mono (Nat.le_succ _)) g1 m1 m2 m3 (passAt g.tk) (snd_A es g hN hs h.2) g2 s1 s2) fun σ H Q ⟨F, M, env, q, e, rm, er, cn, cx, h⟩ => ?_
      exact enterA rm er cx h fun F1 M1 H1 vs ds t1 rm1 er1 cx1 rs h => ⟨by rw [rs.len]; exact g.len f x ds M1 q e nmx h, G.P, F1, M1, ds, q, e, rm1, rs, cn.mono t1, cx1, h⟩
    · cases h
  | .cll fs i es, G, W, X, sc, e, g, hN, hs, h => by
    refine .plain g.hK (plain_of h rfl) ?_
    unfold chkE at h; split at h
    · rename_i ns p1 i' p2 e1 es' pos
      simp only [Bool.and_eq_true] at h
      obtain ⟨⟨⟨⟨⟨k1, k2⟩, k0⟩, k3⟩, k4⟩, k5⟩ := h
      have k2 := of_decide_eq_true k2
      have k0 := of_decide_eq_true k0
      obtain ⟨vs, pa, hl, hv⟩ := chkFn_ok g hs fs k1
      obtain ⟨s1, s2⟩ := tr_head (env := X.env) (pos := pos) k5
      have hot : tb.hot = true := by
        cases fs with
        | nil => cases k0
        | cons f fs =>
          obtain ⟨v, -, x, -, -, -, q, -⟩ := hv 0 f rfl
          exact g.hn f x q
      refine PE.imp (pe_callF (E := WE W) (pe_ix L2.ix_list (pe_lst pa) ((snd_E i g hN hs k3).E) (plainIx_ok k4)) ((g.room hot).mono (Nat.le_succ _)) (passAt g.tk) (snd_A es g hN hs k5) rfl s1 s2) fun σ H Q ⟨F, M, env, q, e, rm, er, cn, cx, h⟩ => ?_
      refine ⟨by rw [hl]; exact Nat.le_trans k2 (by decide), fun p hp => ?_⟩
      have sm := same_upd (o := .lst vs) (rm.freeF hp)
      refine enter (rm.frz hp) (er.mono sm) (cx.mono sm) h fun F1 M1 H1 v1 d1 t1 rm1 er1 cx1 r1 h => ?_
      cases d1 with
      | int j =>
        cases r1
        revert h
        dsimp only
        cases q1 : atI fs j with
        | none => exact fun h => h.elim
        | some f =>
          intro h
          obtain ⟨v, a1, x, ad, fd, ps, b1, rfl, b2, b3, b4⟩ := atI_map hl hv q1
          refine ⟨p, vs, j, _, rfl, rfl, .of (rm1.fz _ _ (t1 _ _ upd_same)), a1, ad, fd, ps, _, rfl, b2, b3, b4, ?_⟩
          exact enterA rm1 er1 cx1 h fun F2 M2 H2 ws ds t2 rm2 er2 cx2 rs h => ⟨by rw [rs.len]; exact g.len f x ds M2 q e b1 h, G.P, F2, M2, ds, q, e, rm2, rs, cn.mono (sm.trans (t1.trans t2)), cx2, h⟩
      | _ => exact h.elim
    · cases h
  | .bi b fr es, G, W, X, sc, e, g, hN, hs, h => by
    refine .plain g.hK (plain_of h rfl) ?_
    unfold chkE at h; split at h
    · rename_i x p e1 es' pos
      rw [Bool.and_eq_true, Bool.and_eq_true] at h
      obtain ⟨s1, s2⟩ := tr_head (env := X.env) (pos := pos) h.2
      refine PE.imp (pe_bi (G := G) (fr := fr) g hs (of_decide_eq_true h.1.1) h.1.2 (snd_A es g hN hs h.2) s1 s2) fun σ H Q ⟨F, M, env, q, e, rm, er, cn, cx, h⟩ => ?_
      exact enterA rm er cx h fun F1 M1 H1 vs ds s1 rm1 er1 cx1 rs h => ⟨F1, M1, ds, q, rm1, rs, cn.mono s1, h⟩
    · cases h
  | .isi a t, G, W, X, sc, e, g, hN, hs, h => by
    refine .plain g.hK (plain_of h rfl) ?_
    unfold chkE at h; split at h
    · rename_i x p a' y p2 pos
      simp only [Bool.and_eq_true] at h
      obtain ⟨⟨⟨⟨⟨k1, k2⟩, k3⟩, k4⟩, k5⟩, k6⟩ := h
      have e1 := of_decide_eq_true k1
      have e2 := of_decide_eq_true k5
      subst e1 e2
      obtain ⟨g1, g2, g3⟩ := bn_of g hs k2
      obtain ⟨j1, j2, j3⟩ := bn_of g hs k6
      have pt : PE X (.Name (tyNm t) p2) (tC (.ty (tyN t))) := pe_bltn j1 j3 (ty_boot t) rfl (ty_no t).1 j2
      refine PE.imp (pe_callB call_isi g1 g3 PyProof.Rows.boot_isinstance (pa_cons ((snd_E a g hN hs k3).E) (pa_cons pt pa_nil rfl) (star_ok k4)) (by decide +kernel) g2 (star_ok k4) rfl) fun σ H Q ⟨F, M, env, q, e, rm, er, cn, cx, h⟩ => ?_
      refine enter rm er cx h fun F1 M1 H1 v1 d1 s1 rm1 er1 cx1 r1 h => ?_
      cases e1 : isiB t d1 M1 with
      | none => rw [e1] at h; exact h.elim
      | some b =>
        rw [e1] at h
        obtain ⟨n, t1, t2⟩ := isi_ok g.hK rm1 r1 e1
        exact ⟨v1, .ty (tyN t), .type n, .type (tyN t), b, rfl, .ty _, t1, t2, cn F1 M1 H1 _ _ s1 rm1 (.bl _) h⟩
    · cases h
  | .itr _, G, W, X, sc, e, g, hN, hs, h => by cases h
  | .ist a ts, G, W, X, sc, e, g, hN, hs, h => by
    refine .plain g.hK (plain_of h rfl) ?_
    unfold chkE at h; split at h
    · rename_i x p a' es p3 p4 pos
      simp only [Bool.and_eq_true] at h
      obtain ⟨⟨⟨⟨⟨⟨k1, k2⟩, k3⟩, k4⟩, k5⟩, k6⟩, k7⟩ := h
      have e1 := of_decide_eq_true k1
      have k6 := of_decide_eq_true k6
      have k7 := of_decide_eq_true k7
      subst e1
      obtain ⟨g1, g2, g3⟩ := bn_of g hs k2
      obtain ⟨pa, pu⟩ := chkTy_ok (G := G) g hs ts k5
      refine PE.imp (pe_callB call_isiT g1 g3 PyProof.Rows.boot_isinstance (pa_cons ((snd_E a g hN hs k3).E) (pa_cons (pe_tup pa) pa_nil rfl) (star_ok k4)) (by decide +kernel) g2 (star_ok k4) rfl) fun σ H Q ⟨F, M, env, q, e, rm, er, cn, cx, h⟩ => ?_
      refine enter rm er cx h fun F1 M1 H1 v1 d1 s1 rm1 er1 cx1 r1 h => ?_
      refine ⟨by rw [List.length_map]; exact Nat.le_trans k6 (by decide), fun tp hp => ?_⟩
      cases e1 : istB ts d1 M1 with
      | none => rw [e1] at h; exact h.elim
      | some b =>
        rw [e1] at h
        have hq9 : q (.bl b) M1 := h
        obtain ⟨t, ts, rfl⟩ : ∃ t ts', ts = t :: ts' := by
          cases ts with
          | nil => exact absurd k7 (Nat.lt_irrefl _)
          | cons t ts => exact ⟨t, ts, rfl⟩
        · obtain ⟨n, t1, t2⟩ := ist_ok g.hK rm1 r1 e1
          have rm2 : RM G (upd F1 tp (.tup ((t :: ts).map fun t => V.ty (tyN t)))) M1 (upd H1 tp (.tup ((t :: ts).map fun t => V.ty (tyN t)))) := rm1.frz hp
          have r2 := r1.mono (same_upd (o := .tup ((t :: ts).map fun t => V.ty (tyN t))) (rm1.freeF hp))
          obtain ⟨n2, u1, u2⟩ := ist_ok g.hK rm2 r2 e1
          exact ⟨v1, tp, _, .type n2, _, b, rfl, upd_same, pu, u1, u2, cn _ M1 _ _ _ (s1.trans (same_upd (rm1.freeF hp))) rm2 (.bl _) hq9⟩
    · cases h
  | .dgt a i, G, W, X, sc, e, g, hN, hs, h => by
    refine .plain g.hK (plain_of h rfl) ?_
    unfold chkE at h; split at h
    · rename_i o' m ap k' cp
      simp only [Bool.and_eq_true] at h
      obtain ⟨⟨⟨⟨⟨k1, k2⟩, k3⟩, k4⟩, k5⟩, k6⟩ := h
      have e1 := of_decide_eq_true k1
      subst e1
      have hu : X.A.units + 1 < cLine := by have := g.un; omega
      have hst := star_ok (env := X.env) (es := []) k6
      refine PE.imp (pe_dget1 hu ((snd_E a g hN hs k3).E) ((snd_E i g hN hs k5).E) ⟨plainO_ok k4, by rw [hst]; rfl, k2, by rw [hst]; rfl⟩) fun σ H Q ⟨F, M, env, q, e, rm, er, cn, cx, h⟩ => ?_
      refine enter rm er cx h fun F1 M1 H1 v1 d1 s1 rm1 er1 cx1 r1 h => ?_
      obtain ⟨h0, h⟩ := h
      obtain ⟨kv0, h0⟩ := Option.isSome_iff_exists.mp h0
      obtain ⟨a, vks, rfl, g1, g2⟩ := dic_in rm1 h0
      cases r1
      refine ⟨a, rfl, .inl ⟨_, g1⟩, ?_⟩
      refine enter rm1 er1 cx1 h fun F2 M2 H2 v2 d2 s2 rm2 er2 cx2 r2 h => ?_
      unfold dgtW at h
      split at h
      · rename_i kvs k hd hk
        obtain ⟨a', vk2, e1, j1, j2⟩ := dic_in rm2 hd
        cases e1
        refine ⟨valV vk2 k, ?_, ?_⟩
        · rw [keyV r2 hk]; exact dget_rd j1
        · cases e2 : lookD kvs k with
          | none =>
            rw [e2] at h
            rw [j2.lookN e2]
            exact cn F2 M2 H2 _ _ (s1.trans s2) rm2 .non h
          | some d =>
            rw [e2] at h
            obtain ⟨w, w1, w2⟩ := j2.look e2
            rw [w1]
            exact cn F2 M2 H2 _ _ (s1.trans s2) rm2 w2 h
      · exact h.elim
    · cases h
  | .isx a c, G, W, X, sc, e, g, hN, hs, h => by
    refine .plain g.hK (plain_of h rfl) ?_
    unfold chkE at h; split at h
    · rename_i x p a' y p2 pos
      simp only [Bool.and_eq_true] at h
      obtain ⟨⟨⟨⟨k1, k2⟩, k3⟩, k4⟩, k5⟩ := h
      have e1 := of_decide_eq_true k1
      subst e1
      obtain ⟨g1, g2, g3⟩ := bn_of g hs k2
      have pt : ∃ cv : V, PE X (.Name y p2) (tC cv) ∧ ∀ k C, G.cl k = some C → ∃ u, L2.ClsV cv u ∧ PySem.W.kitOne X.K (.ref C) u = some (subX k c) := by
        unfold xnB at k5
        rw [Bool.or_eq_true] at k5
        rcases k5 with k5 | k5
        · simp only [Bool.and_eq_true] at k5
          obtain ⟨⟨c1, c2⟩, c3⟩ := k5
          have e1 := of_decide_eq_true c1
          have e2 := of_decide_eq_true c2
          subst e1 e2
          obtain ⟨j1, j2, j3⟩ := bn_of g hs c3
          refine ⟨.ty "ValueError", pe_bltn j1 j3 PyProof.Rows.Boot.«ValueError» rfl (by decide) j2, fun k C hk => ⟨_, .ty _, ?_⟩⟩
          rw [g.xt.ve k C hk]
          unfold subX
          rw [decide_eq_true (show (0 : Nat) ≤ 1 by decide), Bool.or_true]
        · rw [Bool.and_eq_true] at k5
          obtain ⟨q, hq, e2⟩ := List.any_eq_true.mp k5.1
          have e2 := of_decide_eq_true e2
          subst e2
          obtain ⟨D, m1, m2⟩ := g.xt.nm _ hq
          obtain ⟨j1, j2⟩ := gl_of hs k5.2
          exact ⟨.ref D, pe_glob j1 m1 rfl j2, fun k C hk => ⟨_, .own D, (g.xt.sub k C c D hk m2).1⟩⟩
      obtain ⟨cv, pt, ck⟩ := pt
      refine PE.imp (pe_callB L2.call_isX g1 g3 PyProof.Rows.boot_isinstance (pa_cons ((snd_E a g hN hs k3).E) (pa_cons pt pa_nil rfl) (star_ok k4)) (by decide +kernel) g2 (star_ok k4) rfl) fun σ H Q ⟨F, M, env, q, e, rm, er, cn, cx, h⟩ => ?_
      refine enter rm er cx h fun F1 M1 H1 v1 d1 s1 rm1 er1 cx1 r1 h => ?_
      unfold isxW at h
      split at h
      · rename_i p
        split at h
        · rename_i k fs e1
          cases r1
          obtain ⟨nf, C, dd, h1, h2, h3⟩ := rm1.mt p _ e1
          obtain ⟨u, u1, u2⟩ := ck k C h1
          refine ⟨p, C, cv, u, subX k c, rfl, ⟨dd, h2, ?_⟩, by rw [g.hK]; exact (g.hK ▸ g.xt.xc k C h1), u1, u2, cn F1 M1 H1 _ _ s1 rm1 (.bl _) h⟩
          rcases h3 with h3 | ⟨d, fvs, h4, h5, h6⟩
          · exact .inl h3.2
          · exact .inr ⟨d, fvs, h4, rm1.fz _ _ h5⟩
        · exact h.elim
      · exact h.elim
    · cases h
  | .ixs a cs, G, W, X, sc, e, g, hN, hs, h => by
    refine .plain g.hK (plain_of h rfl) ?_
    unfold chkE at h; split at h
    · rename_i x p a' es p3 p4 pos
      simp only [Bool.and_eq_true] at h
      obtain ⟨⟨⟨⟨⟨k1, k2⟩, k3⟩, k4⟩, k5⟩, k6⟩ := h
      have e1 := of_decide_eq_true k1
      have k6 := of_decide_eq_true k6
      subst e1
      obtain ⟨g1, g2, g3⟩ := bn_of g hs k2
      obtain ⟨vs, us, pa, pu, pl, pk⟩ := chkC_ok (G := G) g hs cs k5
      refine PE.imp (pe_callB L2.call_isXT g1 g3 PyProof.Rows.boot_isinstance (pa_cons ((snd_E a g hN hs k3).E) (pa_cons (pe_tup pa) pa_nil rfl) (star_ok k4)) (by decide +kernel) g2 (star_ok k4) rfl) fun σ H Q ⟨F, M, env, q, e, rm, er, cn, cx, h⟩ => ?_
      refine enter rm er cx h fun F1 M1 H1 v1 d1 s1 rm1 er1 cx1 r1 h => ?_
      unfold ixsW at h
      split at h
      · rename_i p
        split at h
        · rename_i k fs e1
          cases r1
          obtain ⟨nf, C, dd, h1, h2, h3⟩ := rm1.mt p _ e1
          refine ⟨by rw [pl]; exact Nat.le_trans k6 (by decide), fun tp ht => ?_⟩
          have nF := rm1.freeF ht
          have s2 := same_upd (o := .tup vs) nF
          refine ⟨p, C, tp, vs, us, _, rfl, upd_same, pu, ⟨dd, by rw [upd_ne (ne_of_none h2 ht)]; exact h2, ?_⟩, by rw [g.hK]; exact (g.hK ▸ g.xt.xc k C h1), pk k C h1, cn (upd F1 tp (.tup vs)) M1 _ _ _ (s1.trans s2) (rm1.frz ht) (.bl _) h⟩
          rcases h3 with h3 | ⟨d, fvs, h4, h5, h6⟩
          · exact .inl h3.2
          · exact .inr ⟨d, fvs, h4, by rw [upd_ne (ne_of_none (rm1.fz _ _ h5) ht)]; exact rm1.fz _ _ h5⟩
        · exact h.elim
      · exact h.elim
    · cases h
  | .atr a f, G, W, X, sc, e, g, hN, hs, h => by
    refine .plain g.hK (plain_of h rfl) ?_
    unfold chkE at h; split at h
    · simp only [Bool.and_eq_true] at h
      obtain ⟨⟨⟨k1, k2⟩, k3⟩, k4⟩ := h
      have e1 := of_decide_eq_true k1
      subst e1
      refine PE.imp (L2.pe_atr ((snd_E a g hN hs k2).E) (plainO_ok k3)) fun σ H Q ⟨F, M, env, q, e, rm, er, cn, cx, h⟩ => ?_
      refine enter rm er cx h fun F1 M1 H1 v1 d1 s1 rm1 er1 cx1 r1 h => ?_
      unfold atrW at h
      split at h
      · rename_i p
        split at h
        · rename_i k fs e1
          split at h
          · rename_i d e2
            cases r1
            obtain ⟨nf, C, dd, h1, h2, h3⟩ := rm1.mt p _ e1
            rcases h3 with h3 | ⟨dx, fvs, h4, h5, h6⟩
            · rw [h3.1] at e2
              cases e2
            · obtain ⟨v, v1, v2⟩ := fvs_look h6 e2
              subst h4
              exact ⟨p, C, dx, fvs, v, rfl, h2, rm1.fz _ _ h5, g.xt.xc k C h1, g.xt.na k C f h1 k4, v1, cn F1 M1 H1 _ _ s1 rm1 v2 h⟩
          · exact h.elim
        · exact h.elim
      · exact h.elim
    · cases h
  | .fld a f, G, W, X, sc, e, g, hN, hs, h => by
    refine .plain g.hK (plain_of h rfl) ?_
    unfold chkE at h; split at h
    · simp only [Bool.and_eq_true] at h
      obtain ⟨⟨⟨k1, k2⟩, k3⟩, k4⟩ := h
      have e1 := of_decide_eq_true k1
      subst e1
      obtain ⟨g1, g2, e4⟩ := List.any_eq_true.mp k4
      have e4 := of_decide_eq_true e4
      subst e4
      refine PE.imp (pe_fld ((snd_E a g hN hs k2).E) (plainO_ok k3)) fun σ H Q ⟨F, M, env, q, e, rm, er, cn, cx, h⟩ => ?_
      refine enter rm er cx h fun F1 M1 H1 v1 d1 s1 rm1 er1 cx1 r1 h => ?_
      unfold fldW at h
      split at h
      · rename_i p
        split at h
        · rename_i k fs e1
          split at h
          · rename_i d e2
            cases r1
            obtain ⟨nf, C, dx, fvs, h1, h2, h3⟩ := rm1.mt p _ e1
            obtain ⟨v, v1, v2⟩ := fvs_look h3 e2
            obtain ⟨c1, c2⟩ := g.ob.cls k C h1
            exact ⟨p, C, dx, fvs, v, rfl, h2, c1, c2 _ g2, v1, cn F1 M1 H1 _ _ s1 rm1 v2 h⟩
          · exact h.elim
        · exact h.elim
      · exact h.elim
    · cases h
  | .mth o c m f es, G, W, X, sc, e, g, hN, hs, h => by
    refine .plain g.hK (plain_of h rfl) ?_
    unfold chkE at h; split at h
    · rename_i o' m' ap es' cp
      simp only [Bool.and_eq_true] at h
      obtain ⟨⟨⟨⟨⟨⟨k1, k2⟩, k3⟩, k4⟩, k5⟩, k6⟩, k7⟩ := h
      have e1 := of_decide_eq_true k1
      subst e1
      exact mth_snd g k2 k4 k5 k6 (of_decide_eq_true k7) (snd_E o g hN hs k3).E (snd_A es g hN hs k5)
    · cases h
  | .mk c f es, G, W, X, sc, e, g, hN, hs, h => by
    refine .plain g.hK (plain_of h rfl) ?_
    unfold chkE at h; split at h
    · rename_i x p es' pos
      simp only [Bool.and_eq_true] at h
      obtain ⟨⟨⟨k1, k2⟩, k3⟩, k4⟩ := h
      obtain ⟨j1, j2⟩ := gl_of hs k2
      have nmx := of_decide_eq_true k3
      have hx : (c, x) ∈ tb.oc := by
        obtain ⟨p, hp, e⟩ := List.any_eq_true.mp k1
        rw [← of_decide_eq_true e]
        exact hp
      obtain ⟨C, ad, fd, ps, m1, m2, m3, m4, m5⟩ := g.ob.mts f c "__init__" nmx
      obtain ⟨C', n1, n2, n3, n4⟩ := g.ob.mks c x hx
      rw [m1] at n1
      cases n1
      have mk : Mk X.K C ad := ⟨n3, m2.at_, m2.fn, n4⟩
      have hr := g.room (g.ob.hot f c _ nmx)
      have fin : ∀ {F1 M1 H1 vs ds q Q e} {σ : L2.St}, RM G F1 M1 H1 → RelDs G F1 vs ds → Cn G F1 q Q → CnX G F1 e (fun c d H => W c d σ H) → (∀ p, M1 p = none → R f (.loc p :: ds) (M1.upd p (.obj c [])) (fun v M2 => v = .non ∧ q (.loc p) M2) e) →
          ∀ x dx, H1 x = none → H1 dx = none → dx ≠ x → liftSp G (tb.ar f) (R f) (.ref x :: vs) (upd (upd H1 dx (.own x)) x (.ins C dx [])) (fun v H2 => v = .non ∧ Q (.ref x) H2) (WE W σ) := fun {F1 M1 H1 vs ds q Q e σ} rm1 rs cn cx h x dx hx hdx ne => by
        have rm2 := rm1.junk (o := .own x) hdx
        have hx2 : upd H1 dx (.own x) x = none := by rw [upd_ne (Ne.symm ne)]; exact hx
        have rm3 : RM G F1 (M1.upd x (.obj c [])) (upd (upd H1 dx (.own x)) x (.ins C dx [])) := rm2.new (ob := .obj c []) hx2 ⟨C, dx, [], m1, upd_same, .nil⟩
        have h := h x (rm1.freeM hx)
        have rs2 : RelDs G F1 (.ref x :: vs) (.loc x :: ds) := .cons .loc rs
        refine ⟨by rw [rs2.len]; exact g.ob.len f c _ _ _ _ _ nmx h, G.P, F1, _, _, _, _, rm3, rs2, fun F2 M2 H2 v d s2 rm' r' hq => ?_, cx, h⟩
        obtain ⟨rfl, hq⟩ := hq
        cases r'
        exact ⟨rfl, cn F2 M2 H2 _ _ s2 rm' .loc hq⟩
      cases es' with
      | nil =>
        cases chkA_nil k4
        refine PE.imp (L2.pe_makeX0 (E := WE W) mk m5 hr j1 n2 m3 (passAt g.tk) j2) fun σ H Q ⟨F, M, env, q, e, rm, er, cn, cx, h⟩ => ?_
        exact fin rm .nil cn cx h
      | cons e0 es' =>
        obtain ⟨s1, s2⟩ := tr_head (env := X.env) (pos := pos) k4
        refine PE.imp (L2.pe_makeX (E := WE W) mk m5 hr j1 n2 m3 (passAt g.tk) (snd_A es g hN hs k4) j2 s1 s2) fun σ H Q ⟨F, M, env, q, e, rm, er, cn, cx, h⟩ => ?_
        exact enterA rm er cx h fun F1 M1 H1 vs ds t1 rm1 er1 cx1 rs h => fin rm1 rs (cn.mono t1) cx1 h
    · cases h
  | .bm b fr o es, G, W, X, sc, e, g, hN, hs, h => by
    refine .plain g.hK (plain_of h rfl) ?_
    unfold chkE at h; split at h
    · rename_i o' m ap es' cp
      simp only [Bool.and_eq_true] at h
      obtain ⟨⟨⟨⟨⟨k1, k2⟩, k3⟩, k4⟩, k5⟩, k6⟩ := h
      have e1 := of_decide_eq_true k1
      subst e1
      refine PE.imp (pe_bmm (G := G) (fr := fr) g b (snd_E o g hN hs k3).E k4 (snd_A es g hN hs k5) k5 (of_decide_eq_true k6) k2) fun σ H Q ⟨F, M, env, q, e, rm, er, cn, cx, h⟩ => ?_
      refine enter rm er cx h fun F1 M1 H1 v1 d1 s1 rm1 er1 cx1 r1 h => ⟨rcv_ok g.hK rm1 r1 h.1, ?_⟩
      exact enterA rm1 er1 cx1 h.2 fun F2 M2 H2 vs ds s2 rm2 er2 cx2 rs h => ⟨F2, M2, d1, ds, q, rm2, r1.mono s2, rs, cn.mono (s1.trans s2), h⟩
    · cases h
  | .idx a i, G, W, X, sc, e, g, hN, hs, h => by
    refine .plain g.hK (plain_of h rfl) ?_
    unfold chkE at h; split at h
    · rw [Bool.and_eq_true, Bool.and_eq_true] at h
      refine PE.imp (pe_ix (ixr_idx (G := G) g.hK) ((snd_E a g hN hs h.1.1).E) ((snd_E i g hN hs h.1.2).E) (plainIx_ok h.2)) fun σ H Q ⟨F, M, env, q, e, rm, er, cn, cx, h⟩ => ?_
      refine enter rm er cx h fun F1 M1 H1 v1 d1 s1 rm1 er1 cx1 r1 h => enter rm1 er1 cx1 h fun F2 M2 H2 v2 d2 s2 rm2 er2 cx2 r2 h => ?_
      exact ⟨F2, M2, d1, d2, q, rm2, r1.mono s2, r2, cn.mono (s1.trans s2), h⟩
    · cases h
  | .sli fr a lo hi, G, W, X, sc, e, g, hN, hs, h => by
    refine .plain g.hK (plain_of h rfl) ?_
    unfold chkE at h; split at h
    · rw [Bool.and_eq_true, Bool.and_eq_true] at h
      refine PE.imp (pe_slice (slr_sli (G := G) g.hK (fr := fr)) ((snd_E a g hN hs h.1.1).E) (snd_P lo g hN hs h.1.2) (snd_P hi g hN hs h.2)) fun σ H Q ⟨F, M, env, q, e, rm, er, cn, cx, h⟩ => ?_
      refine enter rm er cx h fun F1 M1 H1 v1 d1 s1 rm1 er1 cx1 r1 h => enterP rm1 er1 cx1 h fun F2 M2 H2 l s2 rm2 er2 cx2 h => enterP rm2 er2 cx2 h fun F3 M3 H3 u s3 rm3 er3 cx3 h => ?_
      exact ⟨F3, M3, d1, q, rm3, r1.mono (s2.trans s3), cn.mono (s1.trans (s2.trans s3)), h⟩
    · cases h
  | .rev fr a, G, W, X, sc, e, g, hN, hs, h => by
    refine .plain g.hK (plain_of h rfl) ?_
    unfold chkE at h; split at h
    · refine PE.imp (pe_revA ((snd_E a g hN hs h).E)) fun σ H Q ⟨F, M, env, q, e, rm, er, cn, cx, h⟩ => ?_
      refine enter rm er cx h fun F1 M1 H1 v1 d1 s1 rm1 er1 cx1 r1 h => ?_
      rcases revW_cases h with ⟨ds, e1, h⟩ | ⟨ds, e1, h⟩
      · obtain ⟨p, vs, rfl, g1, g2⟩ := rd_L rm1 r1 e1
        exact Or.inl ⟨p, vs, rfl, by rw [g.hK]; exact g1, (newL_ok rm1 g2.rev (cn.mono s1) h).2⟩
      · subst e1
        obtain ⟨p, vs, rfl, g1, g2⟩ := rd_T rm1 r1
        exact Or.inr ⟨p, vs, rfl, by rw [g.hK]; exact g1, fun p hp => newT_ok rm1 g2.rev (cn.mono s1) h hp⟩
    · cases h
  | .lrg fr es, G, W, X, sc, e, g, hN, hs, h => by
    refine .plain g.hK (plain_of h rfl) ?_
    unfold chkE at h; split at h
    · rename_i x p y p2 e1 es' pos2 pos
      simp only [Bool.and_eq_true] at h
      obtain ⟨⟨⟨⟨k1, k2⟩, k3⟩, k4⟩, k5⟩ := h
      have q1 := of_decide_eq_true k1
      have q2 := of_decide_eq_true k3
      subst q1 q2
      obtain ⟨g1, g2, g3⟩ := bn_of g hs k2
      obtain ⟨j1, j2, j3⟩ := bn_of g hs k4
      obtain ⟨s1, s2⟩ := tr_head (env := X.env) (pos := pos2) k5
      refine PE.imp (pe_lrg (g.calm (g.hb .list_ (bn_mem k2))) g1 g3 j1 j3 (snd_A es g hN hs k5) s1 s2) fun σ H Q ⟨F, M, env, q, e, rm, er, cn, cx, h⟩ => ?_
      exact enterA rm er cx h fun F1 M1 H1 vs ds t1 rm1 er1 cx1 rs h => lrg_ok rm1 rs (cn.mono t1) h
    · cases h
  | .comp fr own tg iter cond elt, G, W, X, sc, e, g, hN, hs, h => by
    refine .plain g.hK (plain_of h rfl) ?_
    unfold chkE at h; split at h
    · rename_i elt' tg' iter' ifs' scope pos
      simp only [Bool.and_eq_true] at h
      obtain ⟨⟨⟨⟨⟨⟨k1, k2⟩, k3⟩, k4⟩, k5⟩, k6⟩, k7⟩ := h
      have own_eq : (ownOf N own).map (·.2) = own := by
        unfold ownOf
        rw [List.map_map]
        exact (List.map_congr_left fun a _ => rfl).trans (List.map_id own)
      have hsl : ∀ i ∈ slots tg, i ∈ own := fun i hi => by
        obtain ⟨j, hj, e⟩ := List.any_eq_true.mp (List.all_eq_true.mp k4 i hi)
        rw [eq_of_beq e]
        exact hj
      have hblk := blkOk_by k1
      rw [← hN, ← hs] at hblk
      rw [← hN] at own_eq
      have P := pe_lc (g := fun v σ H Q => ∃ P : Hp, liftG (G.hide P) tg v σ H Q) (tt := fun σ H Q => ∃ P : Hp, liftT (G.hide P) (fun _ _ _ _ => False) (wpC R cond) σ H Q) (te := fun σ H Q => ∃ P : Hp, liftE (G.hide P) (fun _ _ _ _ => False) (wpE R elt) σ H Q)
        (pos := pos) (g.calm k7.2) g.nd (snd_W iter g hN hs k2) hblk
        (fun s H C cl fp => PG.ex fun P => snd_G (G := G.hide P) (X := X.blk s H scope (compEnvC scope cl C X.env) fp) (sc := relS scope sc) (top := fun x => scope.names.lookup x == some .cell) g.hK hN g.nd (env_relS hs) (g.calm k7.2) (fun _ z => z) tg k3)
        (fun s H C cl fp => PTs.ex fun P => snd_F cond ((g.hide P).blk) hN (env_relS hs) k5)
        (fun s H C cl fp => PE.ex fun P => (snd_E elt ((g.hide P).blk) hN (env_relS hs) k6).E) (fold_ok k7.1)
      rw [own_eq] at P
      exact PE.imp P fun σ H Q q => comp_read hsl q
    · cases h
  | .lrv fr a, G, W, X, sc, e, g, hN, hs, h => by
    refine .plain g.hK (plain_of h rfl) ?_
    unfold chkE at h; split at h
    · rename_i x p y p2 a' pos2 pos
      simp only [Bool.and_eq_true] at h
      obtain ⟨⟨⟨⟨⟨k1, k2⟩, k3⟩, k4⟩, k5⟩, k6⟩ := h
      have q1 := of_decide_eq_true k1
      have q2 := of_decide_eq_true k3
      subst q1 q2
      obtain ⟨g1, g2, g3⟩ := bn_of g hs k2
      obtain ⟨j1, j2, j3⟩ := bn_of g hs k4
      refine PE.imp (pe_lrv (g.calm (g.hb .list_ (bn_mem k2))) g1 g3 j1 j3 (snd_E a g hN hs k5).E (star_ok k6)) fun σ H Q ⟨F, M, env, q, e, rm, er, cn, cx, h⟩ => ?_
      refine enter rm er cx h fun F1 M1 H1 v1 d1 s1 rm1 er1 cx1 r1 h => ?_
      cases e1 : asL M1 d1 with
      | none => rw [e1] at h; exact h.elim
      | some ds =>
        rw [e1] at h
        obtain ⟨p, vs, rfl, g1, g2⟩ := rd_L rm1 r1 e1
        exact ⟨p, vs, rfl, by rw [g.hK]; exact g1, (newL_ok rm1 g2.rev (cn.mono s1) h).2⟩
    · cases h
  | .mtv o m cs es, G, W, X, sc, e, g, hN, hs, h => by
    refine .plain g.hK (plain_of h rfl) ?_
    unfold chkE at h; split at h
    · rename_i o' m' ap es' cp
      simp only [Bool.and_eq_true] at h
      obtain ⟨⟨⟨⟨⟨⟨k1, k2⟩, k3⟩, k4⟩, k5⟩, k6⟩, k7⟩ := h
      have e1 := of_decide_eq_true k1
      subst e1
      refine ⟨fun pins s σ H Q I ⟨F, M, env, q, e, rm, er, cn, cx, c, f, hm, h⟩ => ?_⟩
      have nmx := of_decide_eq_true (List.all_eq_true.mp k7 (c, f) hm)
      exact (mth_snd g k2 k4 k5 k6 nmx (snd_E o g hN hs k3).E (snd_A es g hN hs k5)).run pins s σ H Q I ⟨F, M, env, q, e, rm, er, cn, cx, h⟩
    · cases h
  | .dg2 a i z, G, W, X, sc, e, g, hN, hs, h => by
    refine .plain g.hK (plain_of h rfl) ?_
    unfold chkE at h; split at h
    · rename_i o' m ap k' z' cp
      simp only [Bool.and_eq_true] at h
      obtain ⟨⟨⟨⟨⟨⟨⟨k1, k2⟩, k3⟩, k4⟩, k5⟩, k6⟩, k7⟩, k8⟩ := h
      have e1 := of_decide_eq_true k1
      subst e1
      have hu : X.A.units + 1 < cLine := by have := g.un; omega
      have h1 := star_ok (env := X.env) (es := [z']) k6
      have h2 := star_ok (env := X.env) (es := []) k8
      refine PE.imp (pe_dget2 hu ((snd_E a g hN hs k3).E) ((snd_E i g hN hs k5).E) ((snd_E z g hN hs k7).E) ⟨plainO_ok k4, by rw [h1, h2]; rfl, k2, by rw [h1, h2]; rfl⟩) fun σ H Q ⟨F, M, env, q, e, rm, er, cn, cx, h⟩ => ?_
      refine enter rm er cx h fun F1 M1 H1 v1 d1 s1 rm1 er1 cx1 r1 h => ?_
      obtain ⟨h0, h⟩ := h
      obtain ⟨kv0, h0⟩ := Option.isSome_iff_exists.mp h0
      obtain ⟨a, vks, rfl, g1, g2⟩ := dic_in rm1 h0
      cases r1
      refine ⟨a, rfl, .inl ⟨_, g1⟩, ?_⟩
      refine enter rm1 er1 cx1 h fun F2 M2 H2 v2 d2 s2 rm2 er2 cx2 r2 h => ?_
      refine enter rm2 er2 cx2 h fun F3 M3 H3 v3 d3 s3 rm3 er3 cx3 r3 h => ?_
      unfold dg2W at h
      split at h
      · rename_i kvs k hd hk
        obtain ⟨a', vk2, e1, j1, j2⟩ := dic_in rm3 hd
        cases e1
        refine ⟨valV vk2 k, ?_, ?_⟩
        · rw [keyV r2 hk]; exact dget_rd j1
        · cases e2 : lookD kvs k with
          | none =>
            rw [e2] at h
            rw [j2.lookN e2]
            exact cn F3 M3 H3 _ _ (s1.trans (s2.trans s3)) rm3 r3 h
          | some d =>
            rw [e2] at h
            obtain ⟨w, w1, w2⟩ := j2.look e2
            rw [w1]
            exact cn F3 M3 H3 _ _ (s1.trans (s2.trans s3)) rm3 w2 h
      · exact h.elim
    · cases h
  | .nev, G, W, X, sc, e, g, hN, hs, h => .plain g.hK (plain_of h rfl) ⟨fun pins s σ H Q I ⟨F, M, env, q, e, rm, er, cn, cx, h⟩ => h.elim⟩
  | .itn _, G, W, X, sc, e, g, hN, hs, h => by cases h
  | .itd _, G, W, X, sc, e, g, hN, hs, h => by cases h
  | .nil, G, W, X, sc, e, g, hN, hs, h => by cases h
  | .cons _ _, G, W, X, sc, e, g, hN, hs, h => by cases h
  | .part _, G, W, X, sc, e, g, hN, hs, h => by cases h
  | .nopart, G, W, X, sc, e, g, hN, hs, h => by cases h
  | .itl _, G, W, X, sc, e, g, hN, hs, h => by cases h
  | .itt _, G, W, X, sc, e, g, hN, hs, h => by cases h
  | .its _, G, W, X, sc, e, g, hN, hs, h => by cases h
  | .it1 _, G, W, X, sc, e, g, hN, hs, h => by cases h
  | .it2 _ _, G, W, X, sc, e, g, hN, hs, h => by cases h
  | .it3 _ _ _, G, W, X, sc, e, g, hN, hs, h => by cases h
  | .ite _, G, W, X, sc, e, g, hN, hs, h => by cases h
  | .itz _ _, G, W, X, sc, e, g, hN, hs, h => by cases h
theorem snd_A : ∀ (ex : Ex) {G : Gx} {W : WX} {X : Cx} {sc : Scope} {es : List Expr}, Good G tb R k W X → X.N = N → X.env.scope = sc → chkA tb N ex sc es = true → PA X es (liftA G W (wpA R ex))
  | .nil, G, W, X, sc, es, g, hN, hs, h => by
    unfold chkA at h; split at h
    · exact PA.imp pa_nil fun σ H Q ⟨F, M, env, q, e, rm, er, cn, cx, h⟩ => cn F M H _ _ (Same.refl F) rm .nil h
    · cases h
  | .cons x xs, G, W, X, sc, es, g, hN, hs, h => by
    unfold chkA at h; split at h
    · rw [Bool.and_eq_true, Bool.and_eq_true] at h
      refine PA.imp (pa_cons (snd_E x g hN hs h.1.1).E (snd_A xs g hN hs h.2) (star_ok h.1.2)) fun σ H Q ⟨F, M, env, q, e, rm, er, cn, cx, h⟩ => ?_
      refine enter rm er cx h fun F1 M1 H1 v1 d1 s1 rm1 er1 cx1 r1 h => enterA rm1 er1 cx1 h fun F2 M2 H2 vs ds s2 rm2 er2 cx2 rs h => ?_
      exact cn F2 M2 H2 _ _ (s1.trans s2) rm2 (.cons (r1.mono s2) rs) h
    · cases h
  | .var _, G, W, X, sc, es, g, hN, hs, h => by cases h
  | .non, G, W, X, sc, es, g, hN, hs, h => by cases h
  | .bl _, G, W, X, sc, es, g, hN, hs, h => by cases h
  | .int _, G, W, X, sc, es, g, hN, hs, h => by cases h
  | .str _, G, W, X, sc, es, g, hN, hs, h => by cases h
  | .glob _ _, G, W, X, sc, es, g, hN, hs, h => by cases h
  | .bin _ _ _ _, G, W, X, sc, es, g, hN, hs, h => by cases h
  | .neg _, G, W, X, sc, es, g, hN, hs, h => by cases h
  | .not _, G, W, X, sc, es, g, hN, hs, h => by cases h
  | .and _ _, G, W, X, sc, es, g, hN, hs, h => by cases h
  | .or _ _, G, W, X, sc, es, g, hN, hs, h => by cases h
  | .cmp _ _ _, G, W, X, sc, es, g, hN, hs, h => by cases h
  | .ch2 _ _ _ _ _, G, W, X, sc, es, g, hN, hs, h => by cases h
  | .ch3 _ _ _ _ _ _ _, G, W, X, sc, es, g, hN, hs, h => by cases h
  | .ife _ _ _, G, W, X, sc, es, g, hN, hs, h => by cases h
  | .tup _, G, W, X, sc, es, g, hN, hs, h => by cases h
  | .lst _ _, G, W, X, sc, es, g, hN, hs, h => by cases h
  | .emp, G, W, X, sc, es, g, hN, hs, h => by cases h
  | .dnt, G, W, X, sc, es, g, hN, hs, h => by cases h
  | .dct _ _, G, W, X, sc, es, g, hN, hs, h => by cases h
  | .dget _ _, G, W, X, sc, es, g, hN, hs, h => by cases h
  | .call _ _, G, W, X, sc, es, g, hN, hs, h => by cases h
  | .cll _ _ _, G, W, X, sc, es, g, hN, hs, h => by cases h
  | .bi _ _ _, G, W, X, sc, es, g, hN, hs, h => by cases h
  | .isi _ _, G, W, X, sc, es, g, hN, hs, h => by cases h
  | .ist _ _, G, W, X, sc, es, g, hN, hs, h => by cases h
  | .dgt _ _, G, W, X, sc, es, g, hN, hs, h => by cases h
  | .itr _, G, W, X, sc, es, g, hN, hs, h => by cases h
  | .isx _ _, G, W, X, sc, es, g, hN, hs, h => by cases h
  | .ixs _ _, G, W, X, sc, es, g, hN, hs, h => by cases h
  | .atr _ _, G, W, X, sc, es, g, hN, hs, h => by cases h
  | .bm _ _ _ _, G, W, X, sc, es, g, hN, hs, h => by cases h
  | .fld _ _, G, W, X, sc, es, g, hN, hs, h => by cases h
  | .mth _ _ _ _ _, G, W, X, sc, es, g, hN, hs, h => by cases h
  | .mk _ _ _, G, W, X, sc, es, g, hN, hs, h => by cases h
  | .idx _ _, G, W, X, sc, es, g, hN, hs, h => by cases h
  | .sli _ _ _ _, G, W, X, sc, es, g, hN, hs, h => by cases h
  | .rev _ _, G, W, X, sc, es, g, hN, hs, h => by cases h
  | .lrg _ _, G, W, X, sc, es, g, hN, hs, h => by cases h
  | .lrv _ _, G, W, X, sc, es, g, hN, hs, h => by cases h
  | .mtv _ _ _ _, G, W, X, sc, es, g, hN, hs, h => by cases h
  | .dg2 _ _ _, G, W, X, sc, es, g, hN, hs, h => by cases h
  | .nev, G, W, X, sc, es, g, hN, hs, h => by cases h
  | .itn _, G, W, X, sc, es, g, hN, hs, h => by cases h
  | .itd _, G, W, X, sc, es, g, hN, hs, h => by cases h
  | .comp _ _ _ _ _ _, G, W, X, sc, es, g, hN, hs, h => by cases h
  | .part _, G, W, X, sc, es, g, hN, hs, h => by cases h
  | .nopart, G, W, X, sc, es, g, hN, hs, h => by cases h
  | .itl _, G, W, X, sc, es, g, hN, hs, h => by cases h
  | .itt _, G, W, X, sc, es, g, hN, hs, h => by cases h
  | .its _, G, W, X, sc, es, g, hN, hs, h => by cases h
  | .it1 _, G, W, X, sc, es, g, hN, hs, h => by cases h
  | .it2 _ _, G, W, X, sc, es, g, hN, hs, h => by cases h
  | .it3 _ _ _, G, W, X, sc, es, g, hN, hs, h => by cases h
  | .ite _, G, W, X, sc, es, g, hN, hs, h => by cases h
  | .itz _ _, G, W, X, sc, es, g, hN, hs, h => by cases h
theorem snd_D : ∀ (ex : Ex) {G : Gx} {W : WX} {X : Cx} {sc : Scope} {ks : List (Sum Int Str)} {keys : List (Option Expr)} {es : List Expr} {pos : Pos}, Good G tb R k W X → X.N = N → X.env.scope = sc → chkK ks keys = true → chkA tb N ex sc es = true → es.length = ks.length → PPs X pos keys es (trsOf G W R ks ex)
  | .nil, G, W, X, sc, ks, keys, es, pos, g, hN, hs, hk, h, hl => by
    unfold chkA at h; split at h
    · have : ks = [] := List.eq_nil_of_length_eq_zero hl.symm
      subst this
      have h2 := chkK_len hk
      have : keys = [] := List.eq_nil_of_length_eq_zero h2
      subst this
      exact pps_nil
    · cases h
  | .cons x xs, G, W, X, sc, ks, keys, es, pos, g, hN, hs, hk, h, hl => by
    unfold chkA at h; split at h
    · rename_i e' es'
      rw [Bool.and_eq_true, Bool.and_eq_true] at h
      match ks, keys, hk, hl with
      | k0 :: ks, e0 :: keys, hk, hl =>
        unfold chkK at hk
        rw [Bool.and_eq_true] at hk
        obtain ⟨e1, rfl⟩ := keyB_some hk.1
        exact pps_cons (key_pe hk.1) (snd_E x g hN hs h.1.1).E (snd_D xs g hN hs hk.2 h.2 (by simpa using hl))
      | [], _, _, hl => cases hl
      | _ :: _, [], hk, _ => cases hk
    · cases h
  | .var _, G, W, X, sc, ks, keys, es, pos, g, hN, hs, hk, h, hl => by cases h
  | .non, G, W, X, sc, ks, keys, es, pos, g, hN, hs, hk, h, hl => by cases h
  | .bl _, G, W, X, sc, ks, keys, es, pos, g, hN, hs, hk, h, hl => by cases h
  | .int _, G, W, X, sc, ks, keys, es, pos, g, hN, hs, hk, h, hl => by cases h
  | .str _, G, W, X, sc, ks, keys, es, pos, g, hN, hs, hk, h, hl => by cases h
  | .glob _ _, G, W, X, sc, ks, keys, es, pos, g, hN, hs, hk, h, hl => by cases h
  | .bin _ _ _ _, G, W, X, sc, ks, keys, es, pos, g, hN, hs, hk, h, hl => by cases h
  | .neg _, G, W, X, sc, ks, keys, es, pos, g, hN, hs, hk, h, hl => by cases h
  | .not _, G, W, X, sc, ks, keys, es, pos, g, hN, hs, hk, h, hl => by cases h
  | .and _ _, G, W, X, sc, ks, keys, es, pos, g, hN, hs, hk, h, hl => by cases h
  | .or _ _, G, W, X, sc, ks, keys, es, pos, g, hN, hs, hk, h, hl => by cases h
  | .cmp _ _ _, G, W, X, sc, ks, keys, es, pos, g, hN, hs, hk, h, hl => by cases h
  | .ch2 _ _ _ _ _, G, W, X, sc, ks, keys, es, pos, g, hN, hs, hk, h, hl => by cases h
  | .ch3 _ _ _ _ _ _ _, G, W, X, sc, ks, keys, es, pos, g, hN, hs, hk, h, hl => by cases h
  | .ife _ _ _, G, W, X, sc, ks, keys, es, pos, g, hN, hs, hk, h, hl => by cases h
  | .tup _, G, W, X, sc, ks, keys, es, pos, g, hN, hs, hk, h, hl => by cases h
  | .lst _ _, G, W, X, sc, ks, keys, es, pos, g, hN, hs, hk, h, hl => by cases h
  | .emp, G, W, X, sc, ks, keys, es, pos, g, hN, hs, hk, h, hl => by cases h
  | .dnt, G, W, X, sc, ks, keys, es, pos, g, hN, hs, hk, h, hl => by cases h
  | .dct _ _, G, W, X, sc, ks, keys, es, pos, g, hN, hs, hk, h, hl => by cases h
  | .dget _ _, G, W, X, sc, ks, keys, es, pos, g, hN, hs, hk, h, hl => by cases h
  | .call _ _, G, W, X, sc, ks, keys, es, pos, g, hN, hs, hk, h, hl => by cases h
  | .cll _ _ _, G, W, X, sc, ks, keys, es, pos, g, hN, hs, hk, h, hl => by cases h
  | .bi _ _ _, G, W, X, sc, ks, keys, es, pos, g, hN, hs, hk, h, hl => by cases h
  | .isi _ _, G, W, X, sc, ks, keys, es, pos, g, hN, hs, hk, h, hl => by cases h
  | .ist _ _, G, W, X, sc, ks, keys, es, pos, g, hN, hs, hk, h, hl => by cases h
  | .dgt _ _, G, W, X, sc, ks, keys, es, pos, g, hN, hs, hk, h, hl => by cases h
  | .itr _, G, W, X, sc, ks, keys, es, pos, g, hN, hs, hk, h, hl => by cases h
  | .isx _ _, G, W, X, sc, ks, keys, es, pos, g, hN, hs, hk, h, hl => by cases h
  | .ixs _ _, G, W, X, sc, ks, keys, es, pos, g, hN, hs, hk, h, hl => by cases h
  | .atr _ _, G, W, X, sc, ks, keys, es, pos, g, hN, hs, hk, h, hl => by cases h
  | .bm _ _ _ _, G, W, X, sc, ks, keys, es, pos, g, hN, hs, hk, h, hl => by cases h
  | .fld _ _, G, W, X, sc, ks, keys, es, pos, g, hN, hs, hk, h, hl => by cases h
  | .mth _ _ _ _ _, G, W, X, sc, ks, keys, es, pos, g, hN, hs, hk, h, hl => by cases h
  | .mk _ _ _, G, W, X, sc, ks, keys, es, pos, g, hN, hs, hk, h, hl => by cases h
  | .idx _ _, G, W, X, sc, ks, keys, es, pos, g, hN, hs, hk, h, hl => by cases h
  | .sli _ _ _ _, G, W, X, sc, ks, keys, es, pos, g, hN, hs, hk, h, hl => by cases h
  | .rev _ _, G, W, X, sc, ks, keys, es, pos, g, hN, hs, hk, h, hl => by cases h
  | .lrg _ _, G, W, X, sc, ks, keys, es, pos, g, hN, hs, hk, h, hl => by cases h
  | .lrv _ _, G, W, X, sc, ks, keys, es, pos, g, hN, hs, hk, h, hl => by cases h
  | .mtv _ _ _ _, G, W, X, sc, ks, keys, es, pos, g, hN, hs, hk, h, hl => by cases h
  | .dg2 _ _ _, G, W, X, sc, ks, keys, es, pos, g, hN, hs, hk, h, hl => by cases h
  | .nev, G, W, X, sc, ks, keys, es, pos, g, hN, hs, hk, h, hl => by cases h
  | .itn _, G, W, X, sc, ks, keys, es, pos, g, hN, hs, hk, h, hl => by cases h
  | .itd _, G, W, X, sc, ks, keys, es, pos, g, hN, hs, hk, h, hl => by cases h
  | .comp _ _ _ _ _ _, G, W, X, sc, ks, keys, es, pos, g, hN, hs, hk, h, hl => by cases h
  | .part _, G, W, X, sc, ks, keys, es, pos, g, hN, hs, hk, h, hl => by cases h
  | .nopart, G, W, X, sc, ks, keys, es, pos, g, hN, hs, hk, h, hl => by cases h
  | .itl _, G, W, X, sc, ks, keys, es, pos, g, hN, hs, hk, h, hl => by cases h
  | .itt _, G, W, X, sc, ks, keys, es, pos, g, hN, hs, hk, h, hl => by cases h
  | .its _, G, W, X, sc, ks, keys, es, pos, g, hN, hs, hk, h, hl => by cases h
  | .it1 _, G, W, X, sc, ks, keys, es, pos, g, hN, hs, hk, h, hl => by cases h
  | .it2 _ _, G, W, X, sc, ks, keys, es, pos, g, hN, hs, hk, h, hl => by cases h
  | .it3 _ _ _, G, W, X, sc, ks, keys, es, pos, g, hN, hs, hk, h, hl => by cases h
  | .ite _, G, W, X, sc, ks, keys, es, pos, g, hN, hs, hk, h, hl => by cases h
  | .itz _ _, G, W, X, sc, ks, keys, es, pos, g, hN, hs, hk, h, hl => by cases h
theorem snd_P : ∀ (ex : Ex) {G : Gx} {W : WX} {X : Cx} {sc : Scope} {e : Option Expr}, Good G tb R k W X → X.N = N → X.env.scope = sc → chkP tb N ex sc e = true → PO X e (liftP G W (wpP R ex))
  | .nopart, G, W, X, sc, e, g, hN, hs, h => by
    unfold chkP at h; split at h
    · exact PO.imp po_none fun σ H Q ⟨F, M, env, q, e, rm, er, cn, cx, h⟩ => cn F M H _ (Same.refl F) rm h
    · cases h
  | .part x, G, W, X, sc, e, g, hN, hs, h => by
    unfold chkP at h; split at h
    · refine PO.imp (po_some (snd_E x g hN hs h).E) fun σ H Q ⟨F, M, env, q, e, rm, er, cn, cx, h⟩ => ?_
      refine enter rm er cx h fun F1 M1 H1 v1 d1 s1 rm1 er1 cx1 r1 h => ?_
      cases r1 <;> try exact (show False from h).elim
      exact ⟨_, rfl, cn F1 M1 H1 _ s1 rm1 h⟩
    · cases h
  | .var _, G, W, X, sc, e, g, hN, hs, h => by cases h
  | .non, G, W, X, sc, e, g, hN, hs, h => by cases h
  | .bl _, G, W, X, sc, e, g, hN, hs, h => by cases h
  | .int _, G, W, X, sc, e, g, hN, hs, h => by cases h
  | .str _, G, W, X, sc, e, g, hN, hs, h => by cases h
  | .glob _ _, G, W, X, sc, e, g, hN, hs, h => by cases h
  | .bin _ _ _ _, G, W, X, sc, e, g, hN, hs, h => by cases h
  | .neg _, G, W, X, sc, e, g, hN, hs, h => by cases h
  | .not _, G, W, X, sc, e, g, hN, hs, h => by cases h
  | .and _ _, G, W, X, sc, e, g, hN, hs, h => by cases h
  | .or _ _, G, W, X, sc, e, g, hN, hs, h => by cases h
  | .cmp _ _ _, G, W, X, sc, e, g, hN, hs, h => by cases h
  | .ch2 _ _ _ _ _, G, W, X, sc, e, g, hN, hs, h => by cases h
  | .ch3 _ _ _ _ _ _ _, G, W, X, sc, e, g, hN, hs, h => by cases h
  | .ife _ _ _, G, W, X, sc, e, g, hN, hs, h => by cases h
  | .tup _, G, W, X, sc, e, g, hN, hs, h => by cases h
  | .lst _ _, G, W, X, sc, e, g, hN, hs, h => by cases h
  | .emp, G, W, X, sc, e, g, hN, hs, h => by cases h
  | .dnt, G, W, X, sc, e, g, hN, hs, h => by cases h
  | .dct _ _, G, W, X, sc, e, g, hN, hs, h => by cases h
  | .dget _ _, G, W, X, sc, e, g, hN, hs, h => by cases h
  | .nil, G, W, X, sc, e, g, hN, hs, h => by cases h
  | .cons _ _, G, W, X, sc, e, g, hN, hs, h => by cases h
  | .call _ _, G, W, X, sc, e, g, hN, hs, h => by cases h
  | .cll _ _ _, G, W, X, sc, e, g, hN, hs, h => by cases h
  | .bi _ _ _, G, W, X, sc, e, g, hN, hs, h => by cases h
  | .isi _ _, G, W, X, sc, e, g, hN, hs, h => by cases h
  | .ist _ _, G, W, X, sc, e, g, hN, hs, h => by cases h
  | .dgt _ _, G, W, X, sc, e, g, hN, hs, h => by cases h
  | .itr _, G, W, X, sc, e, g, hN, hs, h => by cases h
  | .isx _ _, G, W, X, sc, e, g, hN, hs, h => by cases h
  | .ixs _ _, G, W, X, sc, e, g, hN, hs, h => by cases h
  | .atr _ _, G, W, X, sc, e, g, hN, hs, h => by cases h
  | .bm _ _ _ _, G, W, X, sc, e, g, hN, hs, h => by cases h
  | .fld _ _, G, W, X, sc, e, g, hN, hs, h => by cases h
  | .mth _ _ _ _ _, G, W, X, sc, e, g, hN, hs, h => by cases h
  | .mk _ _ _, G, W, X, sc, e, g, hN, hs, h => by cases h
  | .idx _ _, G, W, X, sc, e, g, hN, hs, h => by cases h
  | .sli _ _ _ _, G, W, X, sc, e, g, hN, hs, h => by cases h
  | .rev _ _, G, W, X, sc, e, g, hN, hs, h => by cases h
  | .lrg _ _, G, W, X, sc, e, g, hN, hs, h => by cases h
  | .lrv _ _, G, W, X, sc, e, g, hN, hs, h => by cases h
  | .mtv _ _ _ _, G, W, X, sc, e, g, hN, hs, h => by cases h
  | .dg2 _ _ _, G, W, X, sc, e, g, hN, hs, h => by cases h
  | .nev, G, W, X, sc, e, g, hN, hs, h => by cases h
  | .itn _, G, W, X, sc, e, g, hN, hs, h => by cases h
  | .itd _, G, W, X, sc, e, g, hN, hs, h => by cases h
  | .comp _ _ _ _ _ _, G, W, X, sc, e, g, hN, hs, h => by cases h
  | .itl _, G, W, X, sc, e, g, hN, hs, h => by cases h
  | .itt _, G, W, X, sc, e, g, hN, hs, h => by cases h
  | .its _, G, W, X, sc, e, g, hN, hs, h => by cases h
  | .it1 _, G, W, X, sc, e, g, hN, hs, h => by cases h
  | .it2 _ _, G, W, X, sc, e, g, hN, hs, h => by cases h
  | .it3 _ _ _, G, W, X, sc, e, g, hN, hs, h => by cases h
  | .ite _, G, W, X, sc, e, g, hN, hs, h => by cases h
  | .itz _ _, G, W, X, sc, e, g, hN, hs, h => by cases h
theorem snd_F : ∀ (ex : Ex) {G : Gx} {W : WX} {X : Cx} {sc : Scope} {es : List Expr}, Good G tb R k W X → X.N = N → X.env.scope = sc → chkF tb N ex sc es = true → PTs X es (liftT G W (wpC R ex))
  | .nopart, G, W, X, sc, es, g, hN, hs, h => by
    unfold chkF at h; split at h
    · exact PTs.imp pts_nil fun σ H Q ⟨F, M, env, q, e, rm, er, cn, cx, h⟩ => cn F M H _ (Same.refl F) rm h
    · cases h
  | .part x, G, W, X, sc, es, g, hN, hs, h => by
    unfold chkF at h; split at h
    · exact PTs.imp (pts_one (snd_E x g hN hs h).T) fun σ H Q h => h
    · cases h
  | .var _, G, W, X, sc, es, g, hN, hs, h => by cases h
  | .non, G, W, X, sc, es, g, hN, hs, h => by cases h
  | .bl _, G, W, X, sc, es, g, hN, hs, h => by cases h
  | .int _, G, W, X, sc, es, g, hN, hs, h => by cases h
  | .str _, G, W, X, sc, es, g, hN, hs, h => by cases h
  | .glob _ _, G, W, X, sc, es, g, hN, hs, h => by cases h
  | .bin _ _ _ _, G, W, X, sc, es, g, hN, hs, h => by cases h
  | .neg _, G, W, X, sc, es, g, hN, hs, h => by cases h
  | .not _, G, W, X, sc, es, g, hN, hs, h => by cases h
  | .and _ _, G, W, X, sc, es, g, hN, hs, h => by cases h
  | .or _ _, G, W, X, sc, es, g, hN, hs, h => by cases h
  | .cmp _ _ _, G, W, X, sc, es, g, hN, hs, h => by cases h
  | .ch2 _ _ _ _ _, G, W, X, sc, es, g, hN, hs, h => by cases h
  | .ch3 _ _ _ _ _ _ _, G, W, X, sc, es, g, hN, hs, h => by cases h
  | .ife _ _ _, G, W, X, sc, es, g, hN, hs, h => by cases h
  | .tup _, G, W, X, sc, es, g, hN, hs, h => by cases h
  | .lst _ _, G, W, X, sc, es, g, hN, hs, h => by cases h
  | .emp, G, W, X, sc, es, g, hN, hs, h => by cases h
  | .dnt, G, W, X, sc, es, g, hN, hs, h => by cases h
  | .dct _ _, G, W, X, sc, es, g, hN, hs, h => by cases h
  | .dget _ _, G, W, X, sc, es, g, hN, hs, h => by cases h
  | .nil, G, W, X, sc, es, g, hN, hs, h => by cases h
  | .cons _ _, G, W, X, sc, es, g, hN, hs, h => by cases h
  | .call _ _, G, W, X, sc, es, g, hN, hs, h => by cases h
  | .cll _ _ _, G, W, X, sc, es, g, hN, hs, h => by cases h
  | .bi _ _ _, G, W, X, sc, es, g, hN, hs, h => by cases h
  | .isi _ _, G, W, X, sc, es, g, hN, hs, h => by cases h
  | .ist _ _, G, W, X, sc, es, g, hN, hs, h => by cases h
  | .dgt _ _, G, W, X, sc, es, g, hN, hs, h => by cases h
  | .itr _, G, W, X, sc, es, g, hN, hs, h => by cases h
  | .isx _ _, G, W, X, sc, es, g, hN, hs, h => by cases h
  | .ixs _ _, G, W, X, sc, es, g, hN, hs, h => by cases h
  | .atr _ _, G, W, X, sc, es, g, hN, hs, h => by cases h
  | .bm _ _ _ _, G, W, X, sc, es, g, hN, hs, h => by cases h
  | .fld _ _, G, W, X, sc, es, g, hN, hs, h => by cases h
  | .mth _ _ _ _ _, G, W, X, sc, es, g, hN, hs, h => by cases h
  | .mk _ _ _, G, W, X, sc, es, g, hN, hs, h => by cases h
  | .idx _ _, G, W, X, sc, es, g, hN, hs, h => by cases h
  | .sli _ _ _ _, G, W, X, sc, es, g, hN, hs, h => by cases h
  | .rev _ _, G, W, X, sc, es, g, hN, hs, h => by cases h
  | .lrg _ _, G, W, X, sc, es, g, hN, hs, h => by cases h
  | .lrv _ _, G, W, X, sc, es, g, hN, hs, h => by cases h
  | .mtv _ _ _ _, G, W, X, sc, es, g, hN, hs, h => by cases h
  | .dg2 _ _ _, G, W, X, sc, es, g, hN, hs, h => by cases h
  | .nev, G, W, X, sc, es, g, hN, hs, h => by cases h
  | .itn _, G, W, X, sc, es, g, hN, hs, h => by cases h
  | .itd _, G, W, X, sc, es, g, hN, hs, h => by cases h
  | .comp _ _ _ _ _ _, G, W, X, sc, es, g, hN, hs, h => by cases h
  | .itl _, G, W, X, sc, es, g, hN, hs, h => by cases h
  | .itt _, G, W, X, sc, es, g, hN, hs, h => by cases h
  | .its _, G, W, X, sc, es, g, hN, hs, h => by cases h
  | .it1 _, G, W, X, sc, es, g, hN, hs, h => by cases h
  | .it2 _ _, G, W, X, sc, es, g, hN, hs, h => by cases h
  | .it3 _ _ _, G, W, X, sc, es, g, hN, hs, h => by cases h
  | .ite _, G, W, X, sc, es, g, hN, hs, h => by cases h
  | .itz _ _, G, W, X, sc, es, g, hN, hs, h => by cases h
theorem snd_W : ∀ (ex : Ex) {G : Gx} {W : WX} {X : Cx} {sc : Scope} {tg e : Expr}, Good G tb R k W X → X.N = N → X.env.scope = sc → chkW tb N ex sc tg e = true → PI X tg e (liftW G W (wpW R ex))
  | .itl x, G, W, X, sc, tg, e, g, hN, hs, h => by
    have A := (snd_E x g hN hs h).E
    refine PI.imp (pi_both A) fun σ H Q ⟨F, M, env, q, e, rm, er, cn, cx, h⟩ => ?_
    refine enter rm er cx h fun F1 M1 H1 v1 d1 s1 rm1 er1 cx1 r1 h => ?_
    have lists : (match asL M1 d1 with
      | some ds => q ⟨ds, stillAt d1 ds⟩ M1
      | none => False) → ∃ a, v1 = .ref a ∧ ((∃ xs, SqL X.K H1 a xs) ∧ Q (Itl X.K a) H1 ∨ (∃ xs, SqT X.K H1 a xs) ∧ Q (Itt X.K a) H1) := fun h => by
      cases e1 : asL M1 d1 with
      | none => rw [e1] at h; exact h.elim
      | some ds =>
        rw [e1] at h
        obtain ⟨a, vs, rfl, g1, g2, st, hst⟩ := still_of rm1 r1 e1
        rw [g.hK]
        exact ⟨a, rfl, .inl ⟨⟨vs, g1⟩, cn F1 M1 H1 _ _ s1 rm1 (real_L hst) h⟩⟩
    cases d1
    case tup ds =>
      cases r1
      rename_i a vs h1 h2
      rw [g.hK]
      exact ⟨a, rfl, .inr ⟨⟨vs, same_t rm1.fz h1.sq⟩, cn F1 M1 H1 _ _ s1 rm1 (real_T h1.sq h2) h⟩⟩
    all_goals exact lists h
  | .itt x, G, W, X, sc, tg, e, g, hN, hs, h => by
    have A := (snd_E x g hN hs h).E
    refine PI.imp (pi_tup A) fun σ H Q ⟨F, M, env, q, e, rm, er, cn, cx, h⟩ => ?_
    refine enter rm er cx h fun F1 M1 H1 v1 d1 s1 rm1 er1 cx1 r1 h => ?_
    cases r1 <;> try exact (show False from h).elim
    rename_i a vs ds h1 h2
    rw [g.hK]
    exact ⟨a, rfl, ⟨vs, same_t rm1.fz h1.sq⟩, cn F1 M1 H1 _ _ s1 rm1 (real_T h1.sq h2) h⟩
  | .itd x, G, W, X, sc, tg, e, g, hN, hs, h => by
    have A := (snd_E x g hN hs h).E
    refine PI.imp (pi_keys A) fun σ H Q ⟨F, M, env, q, e, rm, er, cn, cx, h⟩ => ?_
    refine enter rm er cx h fun F1 M1 H1 v1 d1 s1 rm1 er1 cx1 r1 h => ?_
    split at h
    · rename_i kvs hd
      unfold fdcAt at hd
      split at hd
      · split at hd
        · cases hd
          rename_i e1
          cases r1
          obtain ⟨_, o, vks, g0, g1, g2⟩ := rm1.mt _ _ e1
          exact ⟨_, o, rfl, .inl ⟨vks, g1, cn F1 M1 H1 _ _ s1 rm1 (real_keys g0 g2) h⟩⟩
        · cases hd
      · cases hd
    · exact h.elim
  | .its x, G, W, X, sc, tg, e, g, hN, hs, h => by
    have A := (snd_E x g hN hs h).E
    refine PI.imp (pi_str A) fun σ H Q ⟨F, M, env, q, e, rm, er, cn, cx, h⟩ => ?_
    refine enter rm er cx h fun F1 M1 H1 v1 d1 s1 rm1 er1 cx1 r1 h => ?_
    cases r1 <;> try exact (show False from h).elim
    exact ⟨_, rfl, cn F1 M1 H1 _ _ s1 rm1 real_S h⟩
  | .it1 a, G, W, X, sc, tg, e, g, hN, hs, h => by
    unfold chkW at h; split at h
    · rename_i x p a' pos
      simp only [Bool.and_eq_true] at h
      obtain ⟨⟨⟨k1, k2⟩, k3⟩, k4⟩ := h
      have e1 := of_decide_eq_true k1
      subst e1
      obtain ⟨g1, g2, g3⟩ := bn_of g hs k2
      have A := (snd_E a g hN hs k3).E
      refine PI.imp (pi_range1 g1 g3 (pa_cons A pa_nil (star_ok k4)) (star_ok k4)) fun σ H Q ⟨F, M, env, q, e, rm, er, cn, cx, h⟩ => ?_
      refine enter rm er cx h fun F1 M1 H1 v1 d1 s1 rm1 er1 cx1 r1 h => ?_
      cases r1 <;> try exact (show False from h).elim
      exact ⟨_, rfl, h.1.1, h.1.2, cn F1 M1 H1 _ _ s1 rm1 real_rng h.2⟩
    · cases h
  | .it2 a b, G, W, X, sc, tg, e, g, hN, hs, h => by
    unfold chkW at h; split at h
    · rename_i x p a' b' pos
      simp only [Bool.and_eq_true] at h
      obtain ⟨⟨⟨⟨⟨k1, k2⟩, k3⟩, k4⟩, k5⟩, k6⟩ := h
      have e1 := of_decide_eq_true k1
      subst e1
      obtain ⟨g1, g2, g3⟩ := bn_of g hs k2
      have A := (snd_E a g hN hs k3).E
      have B := (snd_E b g hN hs k5).E
      refine PI.imp (pi_range2 g1 g3 (pa_cons A (pa_cons B pa_nil (star_ok k6)) (star_ok k4)) (by rw [star_ok k4, star_ok k6]; rfl) (star_ok k6)) fun σ H Q ⟨F, M, env, q, e, rm, er, cn, cx, h⟩ => ?_
      refine enter rm er cx h fun F1 M1 H1 v1 d1 s1 rm1 er1 cx1 r1 h => enter rm1 er1 cx1 h fun F2 M2 H2 v2 d2 s2 rm2 er2 cx2 r2 h => ?_
      cases r1 <;> cases r2 <;> try exact (show False from h).elim
      exact ⟨_, _, rfl, ⟨h.1.1.1, h.1.1.2, h.1.2.1, h.1.2.2⟩, cn F2 M2 H2 _ _ (s1.trans s2) rm2 real_rng h.2⟩
    · cases h
  | .it3 a b c, G, W, X, sc, tg, e, g, hN, hs, h => by
    unfold chkW at h; split at h
    · rename_i x p a' b' c' pos
      simp only [Bool.and_eq_true] at h
      obtain ⟨⟨⟨⟨⟨⟨⟨k1, k2⟩, k3⟩, k4⟩, k5⟩, k6⟩, k7⟩, k8⟩ := h
      have e1 := of_decide_eq_true k1
      subst e1
      obtain ⟨g1, g2, g3⟩ := bn_of g hs k2
      have A := (snd_E a g hN hs k3).E
      have B := (snd_E b g hN hs k5).E
      have C := (snd_E c g hN hs k7).E
      refine PI.imp (pi_range3 g1 g3 (pa_cons A (pa_cons B (pa_cons C pa_nil (star_ok k8)) (star_ok k6)) (star_ok k4)) (star_ok k4) (by rw [star_ok k6, star_ok k8]; rfl)) fun σ H Q ⟨F, M, env, q, e, rm, er, cn, cx, h⟩ => ?_
      refine enter rm er cx h fun F1 M1 H1 v1 d1 s1 rm1 er1 cx1 r1 h => enter rm1 er1 cx1 h fun F2 M2 H2 v2 d2 s2 rm2 er2 cx2 r2 h => enter rm2 er2 cx2 h fun F3 M3 H3 v3 d3 s3 rm3 er3 cx3 r3 h => ?_
      obtain ⟨i, j, c, n, rfl, rfl, rfl, b1, h⟩ := walkR3_inv h
      cases r1; cases r2; cases r3
      exact ⟨_, _, _, _, rfl, b1, cn F3 M3 H3 _ _ (s1.trans (s2.trans s3)) rm3 real_rngC h⟩
    · cases h
  | .ite x, G, W, X, sc, tg, e, g, hN, hs, h => by
    unfold chkW at h; split at h
    · rename_i xn p e' pos
      simp only [Bool.and_eq_true] at h
      obtain ⟨⟨⟨⟨k0, k1⟩, k2⟩, k3⟩, k4⟩ := h
      obtain ⟨elts, kk, tp, rfl⟩ := tup_of k0
      have e1 := of_decide_eq_true k1
      subst e1
      obtain ⟨g1, g2, g3⟩ := bn_of g hs k2
      have A := (snd_E x g hN hs k3).E
      refine PI.imp (pi_enumA g1 g3 (pa_cons A pa_nil (star_ok k4)) (star_ok k4)) fun σ H Q ⟨F, M, env, q, e, rm, er, cn, cx, h⟩ => ?_
      refine enter rm er cx h fun F1 M1 H1 v1 d1 s1 rm1 er1 cx1 r1 h => ?_
      rw [g.hK]
      rcases enum_inv h with ⟨ds, rfl, h⟩ | ⟨ds, e1, h⟩
      · cases r1 with
        | tup h1 h2 => exact ⟨_, _, rfl, .inr ⟨same_t rm1.fz h1.sq, cn F1 M1 H1 _ _ s1 rm1 (real_enumT h1.sq h2) h⟩⟩
      · obtain ⟨a, vs, rfl, g1, g2, st, hst⟩ := still_of rm1 r1 e1
        exact ⟨a, vs, rfl, .inl ⟨g1, cn F1 M1 H1 _ _ s1 rm1 (real_enum hst) h⟩⟩
    · cases h
  | .itn x, G, W, X, sc, tg, e, g, hN, hs, h => by
    unfold chkW at h; split at h
    · rename_i xn p e' pos
      simp only [Bool.and_eq_true] at h
      obtain ⟨⟨⟨⟨k0, k1⟩, k2⟩, k3⟩, k4⟩ := h
      obtain ⟨nn, tp, rfl⟩ := nm_of k0
      have e1 := of_decide_eq_true k1
      subst e1
      obtain ⟨g1, g2, g3⟩ := bn_of g hs k2
      have A := (snd_E x g hN hs k3).E
      refine PI.imp (pi_enumN g1 g3 (pa_cons A pa_nil (star_ok k4)) (star_ok k4)) fun σ H Q ⟨F, M, env, q, e, rm, er, cn, cx, h⟩ => ?_
      refine enter rm er cx h fun F1 M1 H1 v1 d1 s1 rm1 er1 cx1 r1 h => ?_
      cases e1 : asL M1 d1 with
      | none => rw [e1] at h; exact h.elim
      | some ds =>
        rw [e1] at h
        obtain ⟨a, vs, rfl, g1, g2, st, hst⟩ := still_of rm1 r1 e1
        rw [g.hK]
        exact ⟨a, vs, rfl, g1, cn F1 M1 H1 _ _ s1 rm1 (real_enum hst) h⟩
    · cases h
  | .itr x, G, W, X, sc, tg, e, g, hN, hs, h => by
    unfold chkW at h; split at h
    · rename_i xn p e' pos
      simp only [Bool.and_eq_true] at h
      obtain ⟨⟨⟨k1, k2⟩, k3⟩, k4⟩ := h
      have e1 := of_decide_eq_true k1
      subst e1
      obtain ⟨g1, g2, g3⟩ := bn_of g hs k2
      have A := (snd_E x g hN hs k3).E
      refine PI.imp (pi_reversed g1 g3 (pa_cons A pa_nil (star_ok k4)) (star_ok k4)) fun σ H Q ⟨F, M, env, q, e, rm, er, cn, cx, h⟩ => ?_
      refine enter rm er cx h fun F1 M1 H1 v1 d1 s1 rm1 er1 cx1 r1 h => ?_
      cases e1 : asL M1 d1 with
      | none => rw [e1] at h; exact h.elim
      | some ds =>
        rw [e1] at h
        obtain ⟨a, vs, rfl, g1, g2, st, hst⟩ := still_of rm1 r1 e1
        rw [g.hK]
        exact ⟨a, vs, rfl, g1, cn F1 M1 H1 _ _ s1 rm1 (by rw [g2.len]; exact real_rev hst) h⟩
    · cases h
  | .itz a b, G, W, X, sc, tg, e, g, hN, hs, h => by
    unfold chkW at h; split at h
    · rename_i x p a' b' pos
      simp only [Bool.and_eq_true] at h
      obtain ⟨⟨⟨⟨⟨⟨k0, k1⟩, k2⟩, k3⟩, k4⟩, k5⟩, k6⟩ := h
      obtain ⟨elts, kk, tp, rfl⟩ := tup_of k0
      have e1 := of_decide_eq_true k1
      subst e1
      obtain ⟨g1, g2, g3⟩ := bn_of g hs k2
      have A := (snd_E a g hN hs k3).E
      have B := (snd_E b g hN hs k5).E
      refine PI.imp (RZ.pi_zipA g1 g3 (pa_cons A (pa_cons B pa_nil (star_ok k6)) (star_ok k4)) (star_ok k4) (by rw [star_ok k6]; rfl)) fun σ H Q ⟨F, M, env, q, e, rm, er, cn, cx, h⟩ => ?_
      refine enter rm er cx h fun F1 M1 H1 v1 d1 s1 rm1 er1 cx1 r1 h => enter rm1 er1 cx1 h fun F2 M2 H2 v2 d2 s2 rm2 er2 cx2 r2 h => ?_
      rw [g.hK]
      rcases zip_inv h with ⟨ds, es, rfl, rfl, h⟩ | ⟨ds, es, e1, e2, h⟩
      · have r1' := r1.mono s2
        cases r1' with
        | tup h1 h2 =>
          cases r2 with
          | tup j1 j2 => exact ⟨_, _, _, _, rfl, .inr ⟨same_t rm2.fz h1.sq, same_t rm2.fz j1.sq, cn F2 M2 H2 _ _ (s1.trans s2) rm2 (real_zipT h1.sq h2 j1.sq j2) h⟩⟩
      · obtain ⟨a, vs, rfl, g1, g2, st, hst⟩ := still_of rm2 (r1.mono s2) e1
        obtain ⟨b, ws, rfl, j1, j2, st2, hst2⟩ := still_of rm2 r2 e2
        exact ⟨a, b, vs, ws, rfl, .inl ⟨g1, j1, cn F2 M2 H2 _ _ (s1.trans s2) rm2 (real_zip hst hst2) h⟩⟩
    · cases h
  | .var _, G, W, X, sc, tg, e, g, hN, hs, h => by cases h
  | .non, G, W, X, sc, tg, e, g, hN, hs, h => by cases h
  | .bl _, G, W, X, sc, tg, e, g, hN, hs, h => by cases h
  | .int _, G, W, X, sc, tg, e, g, hN, hs, h => by cases h
  | .str _, G, W, X, sc, tg, e, g, hN, hs, h => by cases h
  | .glob _ _, G, W, X, sc, tg, e, g, hN, hs, h => by cases h
  | .bin _ _ _ _, G, W, X, sc, tg, e, g, hN, hs, h => by cases h
  | .neg _, G, W, X, sc, tg, e, g, hN, hs, h => by cases h
  | .not _, G, W, X, sc, tg, e, g, hN, hs, h => by cases h
  | .and _ _, G, W, X, sc, tg, e, g, hN, hs, h => by cases h
  | .or _ _, G, W, X, sc, tg, e, g, hN, hs, h => by cases h
  | .cmp _ _ _, G, W, X, sc, tg, e, g, hN, hs, h => by cases h
  | .ch2 _ _ _ _ _, G, W, X, sc, tg, e, g, hN, hs, h => by cases h
  | .ch3 _ _ _ _ _ _ _, G, W, X, sc, tg, e, g, hN, hs, h => by cases h
  | .ife _ _ _, G, W, X, sc, tg, e, g, hN, hs, h => by cases h
  | .tup _, G, W, X, sc, tg, e, g, hN, hs, h => by cases h
  | .lst _ _, G, W, X, sc, tg, e, g, hN, hs, h => by cases h
  | .emp, G, W, X, sc, tg, e, g, hN, hs, h => by cases h
  | .dnt, G, W, X, sc, tg, e, g, hN, hs, h => by cases h
  | .dct _ _, G, W, X, sc, tg, e, g, hN, hs, h => by cases h
  | .dget _ _, G, W, X, sc, tg, e, g, hN, hs, h => by cases h
  | .nil, G, W, X, sc, tg, e, g, hN, hs, h => by cases h
  | .cons _ _, G, W, X, sc, tg, e, g, hN, hs, h => by cases h
  | .call _ _, G, W, X, sc, tg, e, g, hN, hs, h => by cases h
  | .cll _ _ _, G, W, X, sc, tg, e, g, hN, hs, h => by cases h
  | .bi _ _ _, G, W, X, sc, tg, e, g, hN, hs, h => by cases h
  | .isi _ _, G, W, X, sc, tg, e, g, hN, hs, h => by cases h
  | .ist _ _, G, W, X, sc, tg, e, g, hN, hs, h => by cases h
  | .dgt _ _, G, W, X, sc, tg, e, g, hN, hs, h => by cases h
  | .isx _ _, G, W, X, sc, tg, e, g, hN, hs, h => by cases h
  | .ixs _ _, G, W, X, sc, tg, e, g, hN, hs, h => by cases h
  | .atr _ _, G, W, X, sc, tg, e, g, hN, hs, h => by cases h
  | .bm _ _ _ _, G, W, X, sc, tg, e, g, hN, hs, h => by cases h
  | .fld _ _, G, W, X, sc, tg, e, g, hN, hs, h => by cases h
  | .mth _ _ _ _ _, G, W, X, sc, tg, e, g, hN, hs, h => by cases h
  | .mk _ _ _, G, W, X, sc, tg, e, g, hN, hs, h => by cases h
  | .idx _ _, G, W, X, sc, tg, e, g, hN, hs, h => by cases h
  | .sli _ _ _ _, G, W, X, sc, tg, e, g, hN, hs, h => by cases h
  | .rev _ _, G, W, X, sc, tg, e, g, hN, hs, h => by cases h
  | .lrg _ _, G, W, X, sc, tg, e, g, hN, hs, h => by cases h
  | .lrv _ _, G, W, X, sc, tg, e, g, hN, hs, h => by cases h
  | .mtv _ _ _ _, G, W, X, sc, tg, e, g, hN, hs, h => by cases h
  | .dg2 _ _ _, G, W, X, sc, tg, e, g, hN, hs, h => by cases h
  | .nev, G, W, X, sc, tg, e, g, hN, hs, h => by cases h
  | .part _, G, W, X, sc, tg, e, g, hN, hs, h => by cases h
  | .nopart, G, W, X, sc, tg, e, g, hN, hs, h => by cases h
  | .comp _ _ _ _ _ _, G, W, X, sc, tg, e, g, hN, hs, h => by cases h
end
end
end Wp

/-! WpM2: the same of statements and defs. -/
namespace Wp
open PySem
structure EndsLe (N N' : Ends) : Prop where
  nx : ∀ e M, N.nx e M → N'.nx e M
  rt : ∀ d M, N.rt d M → N'.rt d M
  bk : ∀ e M, N.bk e M → N'.bk e M
  ct : ∀ e M, N.ct e M → N'.ct e M
  ex : ∀ z e M, N.ex z e M → N'.ex z e M
theorem putW_mono {q q' : Mem → Prop} (hq : ∀ M, q M → q' M) {o i v : D} {M : Mem} : putW o i v M q → putW o i v M q' := by
  unfold putW
  split
  · split
    · split
      · exact hq _
      · exact id
    · exact id
  · exact id
theorem augW_mono {q q' : QK} (hq : ∀ d M, q d M → q' d M) {op : Operator} {x y : D} {M : Mem} : augW op x y M q → augW op x y M q' := by
  unfold augW
  split
  · exact hq _ _
  · exact hq _ _
  · exact id
theorem eachW_mono {body body' : Ends → Env → Mem → Prop} (hb : ∀ N N' e M, EndsLe N N' → body N e M → body' N' e M) {tg : Tg} {still : Mem → Prop} {N N' : Ends} (hN : EndsLe N N') :
    ∀ {items : List D} {env : Env} {M : Mem}, eachW body tg still N items env M → eachW body' tg still N' items env M
  | [], _, _, h => ⟨h.1, hN.nx _ _ h.2⟩
  | d :: ds, env, M, h => ⟨h.1, tgW_mono tg (fun e h => by
      refine hb _ _ _ _ ?_ h
      exact ⟨fun e M h => eachW_mono hb hN h, hN.rt, fun e M h => hN.nx e M h, fun e M h => eachW_mono hb hN h, hN.ex⟩) h.2⟩
theorem loopW_mono {test test' : Env → Mem → BK → Prop} {body body' : Ends → Env → Mem → Prop} (ht : ∀ e M q q', (∀ c M, q c M → q' c M) → test e M q → test' e M q') (hb : ∀ N N' e M, EndsLe N N' → body N e M → body' N' e M) {N N' : Ends} (hN : EndsLe N N') :
    ∀ {n : Nat} {env : Env} {M : Mem}, loopW test body N n env M → loopW test' body' N' n env M
  | 0, _, _, h => h.elim
  | n + 1, env, M, h => ht _ _ _ _ (fun c M1 h => by
      cases c with
      | true =>
        refine hb _ _ _ _ ?_ h
        exact ⟨fun e M h => loopW_mono ht hb hN h, hN.rt, fun e M h => hN.nx e M h, fun e M h => loopW_mono ht hb hN h, hN.ex⟩
      | false => exact hN.nx _ _ h) h
theorem tsW_mono {R R' : Nat → List D → Mem → QK → XQ → Prop} (hR : MonR R R') : ∀ (ts : List Ts) {ds : List D} {env : Env} {M : Mem} {Q Q' : Env → Mem → Prop} {E E' : Exn → Env → Mem → Prop}, (∀ e M, Q e M → Q' e M) → (∀ z e M, E z e M → E' z e M) → tsW R ts ds env M Q E → tsW R' ts ds env M Q' E'
  | [], [], env, M, Q, Q', E, E', hq, he, h => hq _ _ h
  | [], _ :: _, env, M, Q, Q', E, E', hq, he, h => h.elim
  | .nm i :: ts, [], env, M, Q, Q', E, E', hq, he, h => h.elim
  | .sb o i :: ts, [], env, M, Q, Q', E, E', hq, he, h => h.elim
  | .db o i :: ts, [], env, M, Q, Q', E, E', hq, he, h => h.elim
  | .nm i :: ts, d :: ds, env, M, Q, Q', E, E', hq, he, h => tsW_mono hR ts (ds := ds) hq he h
  | .sb o i :: ts, d :: ds, env, M, Q, Q', E, E', hq, he, h => (mon R R' hR o).E (fun a M2 h => (mon R R' hR i).E (fun k M3 h => putW_mono (fun M4 h => tsW_mono hR ts hq he h) h) (fun z M1 h => he _ _ _ h) h) (fun z M1 h => he _ _ _ h) h
  | .db o i :: ts, d :: ds, env, M, Q, Q', E, E', hq, he, h => (mon R R' hR o).E (fun a M2 h => (mon R R' hR i).E (fun k M3 h => dputW_mono (fun M4 h => tsW_mono hR ts hq he h) h) (fun z M1 h => he _ _ _ h) h) (fun z M1 h => he _ _ _ h) h
theorem clW_mono {t t' : Ends → Env → Mem → Prop} (ht : ∀ N N' e M, EndsLe N N' → t N e M → t' N' e M) {i : Option Nat} {N N' : Ends} (hN : EndsLe N N') {z : Exn} {env : Env} {M : Mem} : clW t i N z env M → clW t' i N' z env M := by
  unfold clW
  split
  · intro h p hp
    refine ht _ _ _ _ ?_ (h p hp)
    exact ⟨fun e M h => hN.nx _ _ h, hN.rt, fun e M h => hN.bk _ _ h, fun e M h => hN.ct _ _ h, fun _ _ _ h => h⟩
  · intro h
    refine ht _ _ _ _ ?_ h
    exact ⟨hN.nx, hN.rt, hN.bk, hN.ct, fun _ _ _ h => h⟩
theorem monS {R R' : Nat → List D → Mem → QK → XQ → Prop} (hR : MonR R R') (s : Sx) : ∀ {N N' : Ends} {env : Env} {M : Mem}, EndsLe N N' → wpS R s N env M → wpS R' s N' env M := by
  induction s with
  | nil => exact fun hN h => hN.nx _ _ h
  | seq s t hs ht =>
    intro N N' env M hN h
    refine hs ?_ h
    exact ⟨fun e M h => ht hN h, hN.rt, hN.bk, hN.ct, hN.ex⟩
  | asg tg e => exact fun hN h => (mon R R' hR e).E (fun x M1 h => tgW_mono tg (fun e' h => hN.nx _ _ h) h) (fun z M1 h => hN.ex _ _ _ h) h
  | sub o i e => exact fun hN h => (mon R R' hR e).E (fun x M1 h => (mon R R' hR o).E (fun a M2 h => (mon R R' hR i).E (fun k M3 h => putW_mono (fun M4 h => hN.nx _ _ h) h) (fun z M1 h => hN.ex _ _ _ h) h) (fun z M1 h => hN.ex _ _ _ h) h) (fun z M1 h => hN.ex _ _ _ h) h
  | dput o i e => exact fun hN h => (mon R R' hR e).E (fun x M1 h => (mon R R' hR o).E (fun a M2 h => (mon R R' hR i).E (fun k M3 h => dputW_mono (fun M4 h => hN.nx _ _ h) h) (fun z M1 h => hN.ex _ _ _ h) h) (fun z M1 h => hN.ex _ _ _ h) h) (fun z M1 h => hN.ex _ _ _ h) h
  | sas o lo hi e => exact fun hN h => (mon R R' hR e).E (fun x M1 h => (mon R R' hR o).E (fun a M2 h => (mon R R' hR lo).P (fun l M3 h => (mon R R' hR hi).P (fun k M4 h => sasW_mono (fun M5 h => hN.nx _ _ h) h) (fun z M1 h => hN.ex _ _ _ h) h) (fun z M1 h => hN.ex _ _ _ h) h) (fun z M1 h => hN.ex _ _ _ h) h) (fun z M1 h => hN.ex _ _ _ h) h
  | aug i op e =>
    intro N N' env M hN h
    revert h
    dsimp only [wpS]
    split
    · exact (mon R R' hR e).E (fun y M1 h => augW_mono (fun z M2 h => hN.nx _ _ h) h) (fun z M1 h => hN.ex _ _ _ h)
    · exact id
  | drop e => exact fun hN h => (mon R R' hR e).E (fun x M1 h => hN.nx _ _ h) (fun z M1 h => hN.ex _ _ _ h) h
  | ret e => exact fun hN h => (mon R R' hR e).E (fun x M1 h => hN.rt _ _ h) (fun z M1 h => hN.ex _ _ _ h) h
  | ife c s t hs ht => exact fun hN h => (mon R R' hR c).E (fun x M1 h => truW_mono (fun b M2 h => by
      cases b with
      | true => exact hs hN h
      | false => exact ht hN h) h) (fun z M1 h => hN.ex _ _ _ h) h
  | loop c s hs =>
    rintro N N' env M hN ⟨n, h⟩
    refine ⟨n, loopW_mono ?_ ?_ hN h⟩
    · exact fun e M q q' hq h => (mon R R' hR c).E (fun x M1 h => truW_mono hq h) (fun z M1 h => hN.ex _ _ _ h) h
    · exact fun N N' e M hN h => hs hN h
  | each tg w s hs =>
    intro N N' env M hN h
    refine (mon R R' hR w).W (fun w M1 h => ?_) (fun z M1 h => hN.ex _ _ _ h) h
    refine eachW_mono ?_ hN h
    exact fun N N' e M hN h => hs hN h
  | pass => exact fun hN h => hN.nx _ _ h
  | brk => exact fun hN h => hN.bk _ _ h
  | cnt => exact fun hN h => hN.ct _ _ h
  | never => exact fun hN h => h.elim
  | rse c f a => exact fun hN h => (mon R R' hR a).E (fun x M1 h => hN.ex _ _ _ h) (fun z M1 h => hN.ex _ _ _ h) h
  | rsp c a => exact fun hN h => (mon R R' hR a).E (fun x M1 h => hN.ex _ _ _ h) (fun z M1 h => hN.ex _ _ _ h) h
  | tri c i s t hs ht =>
    intro N N' env M hN h
    dsimp only [wpS] at h ⊢
    refine hs ?_ h
    refine ⟨hN.nx, hN.rt, hN.bk, hN.ct, fun z e M h => ?_⟩
    dsimp only at h ⊢
    revert h
    split
    · intro h p hp
      refine ht ?_ (h p hp)
      exact ⟨fun e M h => hN.nx _ _ h, hN.rt, fun e M h => hN.bk _ _ h, fun e M h => hN.ct _ _ h, fun _ _ _ h => h⟩
    · exact hN.ex _ _ _
  | trn c s t hs ht =>
    intro N N' env M hN h
    dsimp only [wpS] at h ⊢
    refine hs ?_ h
    refine ⟨hN.nx, hN.rt, hN.bk, hN.ct, fun z e M h => ?_⟩
    dsimp only at h ⊢
    revert h
    split
    · intro h
      refine ht ?_ h
      exact ⟨hN.nx, hN.rt, hN.bk, hN.ct, fun _ _ _ h => h⟩
    · exact hN.ex _ _ _
  | sfl o f e => exact fun hN h => (mon R R' hR e).E (fun x M1 h => (mon R R' hR o).E (fun a M2 h => sflW_mono (fun M3 h => hN.nx _ _ h) h) (fun z M1 h => hN.ex _ _ _ h) h) (fun z M1 h => hN.ex _ _ _ h) h
  | fau o f op e => exact fun hN h => (mon R R' hR o).E (fun a M1 h => fldW_mono (fun x M2 h => (mon R R' hR e).E (fun y M3 h => augW_mono (fun z M4 h => ⟨h.1, sflW_mono (fun M5 h => hN.nx _ _ h) h.2⟩) h) (fun z M1 h => hN.ex _ _ _ h) h) h) (fun z M1 h => hN.ex _ _ _ h) h
  | dau o i op e => exact fun hN h => (mon R R' hR o).E (fun a M1 h => (mon R R' hR i).E (fun k M2 h => dgetW_mono (fun x M3 h => (mon R R' hR e).E (fun y M4 h => augW_mono (fun z M5 h => dputW_mono (fun M6 h => hN.nx _ _ h) h) h) (fun z M1 h => hN.ex _ _ _ h) h) h) (fun z M1 h => hN.ex _ _ _ h) h) (fun z M1 h => hN.ex _ _ _ h) h
  | asu ts e => exact fun hN h => (mon R R' hR e).E (fun x M1 h => by
      revert h
      split
      · exact fun h => ⟨h.1, tsW_mono hR ts hN.nx hN.ex h.2⟩
      · exact id) (fun z M1 h => hN.ex _ _ _ h) h
  | rsb c es => exact fun hN h => (mon R R' hR es).A (fun ds M1 h => by
      revert h
      split
      · exact hN.ex _ _ _
      · exact hN.ex _ _ _
      · exact id) (fun z M1 h => hN.ex _ _ _ h) h
  | tr2 c i t d j u s ht hu hs =>
    intro N N' env M hN h
    dsimp only [wpS] at h ⊢
    refine hs ?_ h
    refine ⟨hN.nx, hN.rt, hN.bk, hN.ct, fun z e M h => ?_⟩
    dsimp only at h ⊢
    revert h
    split
    · exact clW_mono (t := wpS R t) (t' := wpS R' t) (fun N N' e M hN h => ht hN h) hN
    · split
      · exact clW_mono (t := wpS R u) (t' := wpS R' u) (fun N N' e M hN h => hu hN h) hN
      · exact hN.ex _ _ _
  | frd i =>
    intro N N' env M hN h
    revert h
    dsimp only [wpS]
    split
    · split
      · exact hN.nx _ _
      · exact id
    · exact id
  | frz i =>
    intro N N' env M hN h
    revert h
    dsimp only [wpS]
    split
    · split
      · exact hN.nx _ _
      · exact id
    · exact id
theorem frz_mono {q q' : QK} (hq : ∀ d M, q d M → q' d M) {d : D} {M : Mem} (h : Frz d M q) : Frz d M q' := by
  revert q'
  induction h with
  | done h => exact fun hq => .done (hq _ _ h)
  | step e _ ih => exact fun hq => .step e (ih hq)
theorem run_mono (T : Nat → Option Fn) : ∀ k k', k ≤ k' → MonR (run T k) (run T k')
  | 0, _, _ => fun f ds M Q Q' E E' hq he h => h.elim
  | k + 1, 0, h => absurd h (by omega)
  | k + 1, k' + 1, hk => fun f ds M Q Q' E E' hq he h => by
    revert h
    dsimp only [run]
    split
    · intro h
      refine ⟨h.1, monS (run_mono T k k' (by omega)) _ ?_ h.2⟩
      exact ⟨fun _ M h => frz_mono hq h, fun d M h => frz_mono hq h, fun _ _ h => h, fun _ _ h => h, fun z _ M h => he z M h⟩
    · exact id
end Wp

/-! WpS10: statements, defs, the whole table. -/
namespace Wp
open PySem PySem.Spec PyProof.Rows L2

/-! ### the check -/
def isComp : Expr → Bool
  | .ListComp _ _ _ _ => true
  | .SetComp _ _ _ _ => true
  | .DictComp _ _ _ _ _ => true
  | _ => false
/-- a comprehension whose list goes to a name at once -/
def swB (sc : Scope) (y : Str) (py : Pos) : Expr → Bool
  | .ListComp _ _ scope pos => decide (sc.names.lookup y = some .local) && (py.line == pos.line) && !(scope.names.any fun (n, k) => n == y && (k == .local || k == .cell))
  | _ => false
def cellB (sc : Scope) (y : Str) : Bool := decide (sc.names.lookup y = some .cell)
def noSwapT : Expr → Expr → Bool
  | .Tuple _ _ _, e => !isTupT e
  | .List _ _, _ => false
  | _, _ => true
section
variable (tb : Tb) (N : List Str) (sc : Scope)
/-! an except suite -/
mutual
def chkV : Sx → Stmt → Bool
  | .sfl o f e, x0 => match x0 with
    | .Assign [.Attribute o' n _] e' _ => decide (f = n) && chkE tb N o sc o' && chkE tb N e sc e' && tb.of.any fun g => decide (g = f)
    | _ => false
  | .asg (.nm j) e, x0 => match x0 with
    | .Assign [.Name y _] e' _ => chkE tb N e sc e' && decide (N[j]? = some y) && locB sc allN y && !isComp e'
    | _ => false
  | .ife c s t, x0 => match x0 with
    | .If c' a b _ => chkE tb N c sc c' && chkU s a && chkU t b
    | _ => false
  | .ret e, x0 => match x0 with
    | .Return (some e') _ => chkE tb N e sc e'
    | _ => false
  | .pass, x0 => match x0 with
    | .Pass _ => true
    | _ => false
  | _, _ => false
def chkU : Sx → List Stmt → Bool
  | .nil, x0 => match x0 with
    | [] => true
    | _ => false
  | .seq s t, x0 => match x0 with
    | st :: r => chkV s st && chkU t r
    | _ => false
  | _, _ => false
end
/-- targets side by side -/
def chkT : List Ts → List Expr → Bool
  | [], [] => true
  | .nm i :: ts, .Name x _ :: es => decide (N[i]? = some x) && locB sc allN x && chkT ts es
  | .sb o i :: ts, .Subscript o' i' _ :: es => chkE tb N o sc o' && chkE tb N i sc i' && noSlice i' && chkT ts es
  | .db o i :: ts, .Subscript o' i' _ :: es => chkE tb N o sc o' && chkE tb N i sc i' && noSlice i' && chkT ts es
  | _, _ => false
/-- an except clause -/
def chkH (c : Nat) (i : Option Nat) (t : Sx) : ExceptHandler → Bool
  | .ExceptHandler (some (.Name x _)) n (b :: suite) _ => (tb.xc.any fun p => decide (p = (c, x))) && glB sc x && (match i, n with
    | some i, some n => decide (N[i]? = some n) && decide (sc.names.lookup n = some .local)
    | none, none => true
    | _, _ => false) && chkU tb.cold N sc t (b :: suite)
  | _ => false
mutual
def chkS : Sx → Stmt → Bool
  | .sfl o f e, x0 => match x0 with
    | .Assign [.Attribute o' n _] e' _ => decide (f = n) && chkE tb N o sc o' && chkE tb N e sc e' && tb.of.any fun g => decide (g = f)
    | _ => false
  | .fau o f op e, x0 => match x0 with
    | .AugAssign (.Attribute o' n _) op' e' _ => decide (op = op') && decide (f = n) && chkE tb N o sc o' && chkE tb N e sc e' && (op == .Add || op == .Sub) && tb.of.any fun g => decide (g = f)
    | _ => false
  | .dau o i op e, x0 => match x0 with
    | .AugAssign (.Subscript o' i' _) op' e' _ => decide (op = op') && chkE tb N o sc o' && chkE tb N i sc i' && noSlice i' && chkE tb N e sc e' && (op == .Add || op == .Sub)
    | _ => false
  | .asu ts e, x0 => match x0 with
    | .Assign [.Tuple tgs _ _] e' _ => chkT tb N sc ts tgs && chkE tb N e sc e' && !isTupT e'
    | _ => false
  | .rsb c es, x0 => match x0 with
    | .Raise (some (.Call (.Name x _) (a' :: es') [] _)) none _ => (tb.xc.any fun p => decide (p = (c, x))) && (tb.xb.any fun n => decide (n = c)) && glB sc x && chkA tb N es sc (a' :: es') && decide (es'.length ≤ 1)
    | _ => false
  | .tr2 c i t d j u s, x0 => match x0 with
    | .Try body [h1, h2] [] [] _ => chkL s body && chkH tb N sc c i t h1 && chkH tb N sc d j u h2
    | _ => false
  | .asg tg e, x0 => match x0 with
    | .Assign [tg'] e' _ => chkE tb N e sc e' && chkG N sc allN tg tg' && noSwapT tg' e' && (match tg' with
      | .Name y py => swB sc y py e' || (!isComp e' || cellB sc y)
      | .Tuple _ _ _ => true
      | _ => false)
    | _ => false
  | .sub o i e, x0 => match x0 with
    | .Assign [.Subscript o' i' _] e' _ => chkE tb N o sc o' && chkE tb N i sc i' && noSlice i' && chkE tb N e sc e'
    | _ => false
  | .dput o i e, x0 => match x0 with
    | .Assign [.Subscript o' i' _] e' _ => chkE tb N o sc o' && chkE tb N i sc i' && noSlice i' && chkE tb N e sc e'
    | _ => false
  | .sas o lo hi e, x0 => match x0 with
    | .Assign [.Subscript o' (.Slice lo' hi' none _) _] e' _ => chkE tb N o sc o' && chkP tb N lo sc lo' && chkP tb N hi sc hi' && chkE tb N e sc e'
    | _ => false
  | .aug i op e, x0 => match x0 with
    | .AugAssign (.Name x _) op' e' _ => decide (op = op') && decide (N[i]? = some x) && locB sc allN x && chkE tb N e sc e' && (op == .Add || op == .Sub)
    | _ => false
  | .drop e, x0 => match x0 with
    | .Expr e' _ => chkE tb N e sc e' && !isComp e'
    | _ => false
  | .ret e, x0 => match x0 with
    | .Return (some e') _ => chkE tb N e sc e'
    | _ => false
  | .ife c s t, x0 => match x0 with
    | .If c' a b _ => chkE tb N c sc c' && chkL s a && chkL t b
    | _ => false
  | .loop c s, x0 => match x0 with
    | .While c' a [] _ => chkE tb N c sc c' && chkL s a
    | _ => false
  | .each tg w s, x0 => match x0 with
    | .For tg' w' a [] _ => chkW tb N w sc tg' w' && chkG N sc allN tg tg' && chkL s a && noSet w'
    | _ => false
  | .pass, x0 => match x0 with
    | .Pass _ => true
    | _ => false
  | .brk, x0 => match x0 with
    | .Break _ => true
    | _ => false
  | .cnt, x0 => match x0 with
    | .Continue _ => true
    | _ => false
  | .never, _ => true
  | .rse c f a, x0 => match x0 with
    | .Raise (some (.Call (.Name x _) [a'] [] _)) none _ => (tb.xc.any fun p => decide (p = (c, x))) && (tb.xr.any fun p => decide (p = (c, f))) && glB sc x && chkE tb N a sc a' && noStar a'
    | _ => false
  | .rsp c a, x0 => match x0 with
    | .Raise (some (.Call (.Name x _) [a'] [] _)) none _ => (tb.xc.any fun p => decide (p = (c, x))) && (tb.xo.any fun n => decide (n = c)) && glB sc x && chkE tb N a sc a' && noStar a'
    | _ => false
  | .tri c i s t, x0 => match x0 with
    | .Try body [.ExceptHandler (some (.Name x _)) (some n) (b :: suite) _] [] [] _ => (tb.xc.any fun p => decide (p = (c, x))) && glB sc x && decide (N[i]? = some n) && decide (sc.names.lookup n = some .local) && chkL s body && chkU tb.cold N sc t (b :: suite)
    | _ => false
  | .trn c s t, x0 => match x0 with
    | .Try body [.ExceptHandler (some (.Name x _)) none (b :: suite) _] [] [] _ => (tb.xc.any fun p => decide (p = (c, x))) && glB sc x && chkL s body && chkU tb.cold N sc t (b :: suite)
    | _ => false
  | _, _ => false
def chkL : Sx → List Stmt → Bool
  | .nil, x0 => match x0 with
    | [] => true
    | _ => false
  | .seq s t, x0 => match s with
    | .frz _ => chkL t x0
    | .frd _ => chkL t x0
    | s => match x0 with
      | st :: r => chkS s st && chkL t r
      | _ => false
  | _, _ => false
end
end

/-! ### readings -/
section
variable (G : Gx) (W : WX)
structure EndsR (F : Hp) (N : Wp.Ends) (D : L2.Ends) : Prop where
  nx : ∀ F' M' H' env' σ', Same F F' → RM G F' M' H' → EnvR G F' env' σ' → N.nx env' M' → D.nx σ' H'
  rt : ∀ F' M' H' v d, Same F F' → RM G F' M' H' → RelD G F' v d → N.rt d M' → D.rt v H'
  bk : ∀ F' M' H' env' σ', Same F F' → RM G F' M' H' → EnvR G F' env' σ' → N.bk env' M' → D.bk σ' H'
  ct : ∀ F' M' H' env' σ', Same F F' → RM G F' M' H' → EnvR G F' env' σ' → N.ct env' M' → D.ct σ' H'
  ex : ∀ F' M' H' env' σ' z c dd, Same F F' → RM G F' M' H' → EnvR G F' env' σ' → RelX G F' H' z c dd → N.ex z env' M' → W c dd σ' H'
def liftS (w : Wp.Ends → Env → Mem → Prop) : TS := fun D σ H => ∃ F M env N, RM G F M H ∧ EnvR G F env σ ∧ EndsR G W F N D ∧ w N env M
end
section
variable {G : Gx} {W : WX} {X : Cx}
theorem EndsR.mono {F F' : Hp} {N : Wp.Ends} {D : L2.Ends} (s : Same F F') (h : EndsR G W F N D) : EndsR G W F' N D :=
  ⟨fun F2 M H e σ s2 => h.nx F2 M H e σ (s.trans s2), fun F2 M H v d s2 => h.rt F2 M H v d (s.trans s2), fun F2 M H e σ s2 => h.bk F2 M H e σ (s.trans s2), fun F2 M H e σ s2 => h.ct F2 M H e σ (s.trans s2), fun F2 M H e σ z c dd s2 => h.ex F2 M H e σ z c dd (s.trans s2)⟩
theorem EndsR.cx {F : Hp} {N : Wp.Ends} {D : L2.Ends} {env : Env} {σ : L2.St} (h : EndsR G W F N D) (er : EnvR G F env σ) : CnX G F (fun z M => N.ex z env M) (fun c d H => W c d σ H) :=
  fun F' M' H' z c dd s rm rx q => h.ex F' M' H' env σ z c dd s rm (er.mono s) rx q
theorem PS.imp {st : Stmt} {t t' : TS} (h : PS X st t) (hi : ∀ D σ H, t' D σ H → t D σ H) : PS X st t' := ⟨fun pins s σ H D I q => h.run pins s σ H D I (hi _ _ _ q)⟩
theorem PSs.imp {st : List Stmt} {t t' : TS} (h : PSs X st t) (hi : ∀ D σ H, t' D σ H → t D σ H) : PSs X st t' := ⟨fun pins s σ H D I q => h.run pins s σ H D I (hi _ _ _ q)⟩
theorem nosw {e : Expr} {tg : Option Expr} {l : Nat} {env : PySem.Env} (h : isComp e = false) : swapsWith e tg l env = pure false := by
  cases e <;> first | rfl | cases h
theorem noswC {e : Expr} {y : Str} {py : Pos} {l : Nat} {env : PySem.Env} (h : env.kindOf y = some .cell) : swapsWith e (some (.Name y py)) l env = pure false := by
  have h2 : (env.kindOf y == some .local) = false := by rw [h]; rfl
  unfold swapsWith
  cases e <;> simp only [h2, Bool.and_false, Bool.false_and] <;> rfl
theorem noswT {e : Expr} {es : List Expr} {k : Nat} {p : Pos} {l : Nat} {env : PySem.Env} : swapsWithSole [.Tuple es k p] e l env = pure false := by
  cases e <;> rfl
theorem noswS {o i e : Expr} {p : Pos} {l : Nat} {env : PySem.Env} : swapsWithSole [.Subscript o i p] e l env = pure false := by
  cases e <;> rfl
theorem noswap {tg e : Expr} {env : PySem.Env} (h : noSwapT tg e = true) : swappedStores [tg] e env = pure none := by
  cases tg <;> cases e <;> first | rfl | cases h
theorem set_ok {o i : Expr} {p : Pos} (h : noSlice i = true) : ∀ v, assign (.Subscript o i p) X.env v = (do
      let ov ← holding [v] (eval o X.env)
      let iv ← holding [v, ov] (eval i X.env)
      standAt p
      holding [v, ov, iv] (setItem ov iv v)
      release [v, ov, iv] []) := by
  intro v
  cases i <;> first | rfl | cases h
end
end Wp

/-! WpE2: several except clauses, each with a name or without one. -/
namespace L2
open PySem PySem.Spec PyProof.Rows
/-- what a clause wishes of an exception of the body -/
def wCl (i : Option Nat) (ts : TS) (D : Ends) (cls : Value) (d : Option Addr) (σ : St) (H : Hp) : Prop :=
  match i with
  | some i => ∀ a, H a = none → ts { nx := fun σ' H' => D.nx (σ'.set i none) H', rt := D.rt, bk := fun σ' H' => D.bk (σ'.set i none) H', ct := fun σ' H' => D.ct (σ'.set i none) H' } (σ.set i (some (.ref a))) (upd H a (ExH cls d a))
  | none => ts D σ H
/-- .. all of them, one after the other -/
def wHds (K : PySem.W.Frag) (Wout : WX) (D : Ends) : List (Value × Option Nat × TS) → WX
  | [] => Wout
  | (c, i, ts) :: r => fun cls d σ H => ∃ b, PySem.W.exmOne K cls c = some b ∧ (b = true → wCl i ts D cls d σ H) ∧ (b = false → wHds K Wout D r cls d σ H)
inductive HdO (X : Cx) : List ExceptHandler → List (Value × Option Nat × TS) → Prop
  | nil : HdO X [] []
  | nmd {x n : Str} {c : Value} {i : Nat} {ts : TS} {b₀ : Stmt} {suite : List Stmt} {np pos' : Pos} {hds : List ExceptHandler} {l : List (Value × Option Nat × TS)} (hc : Names X x c) (hi : X.N[i]? = some n) (hln : X.env.kindOf n = some .local)
      (hsu : ∀ (a : Addr) (pn : List (Addr × Obj)), PSs (X.suite a pn) (b₀ :: suite) ts) (r : HdO X hds l) : HdO X (.ExceptHandler (some (.Name x np)) (some n) (b₀ :: suite) pos' :: hds) ((c, some i, ts) :: l)
  | bare {x : Str} {c : Value} {ts : TS} {b₀ : Stmt} {suite : List Stmt} {np pos' : Pos} {hds : List ExceptHandler} {l : List (Value × Option Nat × TS)} (hc : Names X x c)
      (hsu : ∀ (a : Addr) (pn : List (Addr × Obj)), PSs (X.suite a pn) (b₀ :: suite) ts) (r : HdO X hds l) : HdO X (.ExceptHandler (some (.Name x np)) none (b₀ :: suite) pos' :: hds) ((c, none, ts) :: l)
section
variable {X : Cx} {body : List Stmt} {h₀ : ExceptHandler} {hds : List ExceptHandler} {l : List (Value × Option Nat × TS)} {pos : Pos} {tb : WX → TS} {Wout : WX}
theorem ps_try_hds (hex : X.ex = []) (hs : X.stack = X.env :: X.outer) (hf : X.env.frame = some X.env.locals) (hN : X.N.Nodup) (tk : Takes X Wout)
    (hb : ∀ (W : WX) (pn : List (Addr × Obj)) (xe : Value → Shared → Prop), Takes (X.tr pn xe) W → PassesOwn (model X.prog X.w) X.A X.env xe → PSs (X.tr pn xe) body (tb W))
    (hh : HdO X (h₀ :: hds) l) : PS X (.Try body (h₀ :: hds) [] [] pos) (fun D σ H => tb (wHds X.K Wout D l) D σ H) := by
  refine ⟨fun pins s σ H D I h => ?_⟩
  have ok := I.ok
  have hfr : X.A.frames = some (X.env :: X.outer) := by rw [ok.frames, hs]
  refine wpAny_Try_except ?_
  refine wpAny_mono ((hb (wHds X.K Wout D l) (X.pn ++ pins) (fun e s₁ => wpAny (model X.prog X.w) X.A (noteFrame e X.env) (fun _ s₂ => wpAny (model X.prog X.w) X.A (setFlight e none) (fun _ s₃ =>
    wpAny (model X.prog X.w) X.A (handleBy e X.env (h₀ :: hds)) (SP X pins D) X.xe s₃) X.xe s₂) X.xe s₁) (fun u s' xx => ?_) PassesOwn.looking).run [] s σ H D (I.toTry _) h) (fun f s1 hsp => ?_) (fun e s1 he => he)
  · obtain ⟨a, B, sI, pins', σ', H', cls, d, rfl, J', nb, up, sky, na, os, ag, w⟩ := xx
    have J : Inv X pins σ' H' sI := J'.ofTry ok
    have sky' : Sky B (X.env :: X.outer) a (Zc cls d) X.env.locals s'.heap := by rw [← hs]; exact sky
    show wpAny (model X.prog X.w) X.A (noteFrame (.ref a) X.env) _ _ _
    refine Sky.land Zc.steady hfr hf sky' fun h3 fl3 up3 => ?_
    have J3 : Inv X pins σ' H' { s' with heap := h3 } := J.landed nb fl3.1 (up.trans up3) os ag
    obtain ⟨oe3, vs3, he3, hz3, hd3⟩ := fl3.there
    have nfr : a ∉ frs (X.env :: X.outer) := fun hm => by
      obtain ⟨_, o', e', hnf⟩ := fl3.2.2.1.mem hm
      rw [he3] at e'; cases e'
      exact hnf _ hd3
    have nL : a ≠ X.env.locals := fun z => nfr (List.mem_filterMap.mpr ⟨X.env, List.mem_cons_self, by rw [hf, z]⟩)
    have nI : sI.heap.get? a = none := by
      cases q : sI.heap.get? a with
      | none => rfl
      | some o =>
        have z := nb a o q (by rw [hs]; exact nfr)
        rw [fl3.2.1] at z
        cases z
    have n0 : X.s_0.heap.get? a = none := by
      cases q : X.s_0.heap.get? a with
      | none => rfl
      | some o =>
        obtain ⟨o', z⟩ := J.base.there a o q (by rw [hex]; exact fun z => nomatch z)
        rw [nI] at z
        cases z
    have npn : ∀ p ∈ X.pn ++ pins, p.1 ≠ a := fun p hp z => by
      have q := (J.pin p hp).1
      rw [z, nI] at q
      cases q
    have S3 := J3.suite0 a
    have LT : PySem.W.Looks (model X.prog X.w) h3 (typeOf (.ref a)) cls := fun A Q E s k q => wpAny_typeOf_ref (k _ _ he3) (by rw [hz3.1]; exact q)
    have go : ∀ {hds' : List ExceptHandler} {l' : List (Value × Option Nat × TS)}, HdO X hds' l' → wHds X.K Wout D l' cls d σ' H' →
        wpAny (model X.prog X.w) X.A (handleBy (.ref a) X.env hds') (SP X pins D) X.xe { s' with heap := h3 } := by
      intro hds' l' hk
      induction hk with
      | nil =>
        intro w
        refine wpAny_handleBy_nil ?_
        obtain ⟨k1, k2, k3, oe, vs, T, oT, ts', he, hz, hd, h1, hr⟩ := id fl3
        unfold PySem.passOn
        refine wpAny_bind (wpAny_field he hd h1 ?_)
        rw [if_neg (show ¬ ((Value.ref T == Value.none) = true) from by simp)]
        have fin : wpAny (model X.prog X.w) X.A (setFlight (.ref a) X.env.frame) (fun _ s4 => wpAny (model X.prog X.w) X.A (throw (.ref a) : Sem Flow) (SP X pins D) X.xe s4) X.xe { s' with heap := h3 } := by
          rw [hf]
          refine HandSPX.setFlight_upZ fl3 fun h4 hh4 up4 => wpAny_throw (tk _ _ ?_)
          exact ⟨a, B, sI, pins, σ', H', cls, d, rfl, J, nb, (up.trans up3).trans up4, .inr (.inr (by rw [hs]; exact hh4)), na, os, ag, w⟩
        first
          | exact wpAny_bind (wpAny_pure (wpAny_bind fin))
          | exact wpAny_bind fin
      | @nmd x n c i ts b₀ suite np pos' hds2 l2 hc hi hln hsu r ih =>
        intro w
        obtain ⟨b, hb1, hyes, hno⟩ := w
        refine wpAny_handleBy_cons (codeAny_handlers_test ?_) (by intro q; cases q)
        have LM := PySem.W.exm_one (M := model X.prog X.w) (J3.kIn) LT hb1
        have test : ∀ {Q : Value → Shared → Prop} {E : Value → Shared → Prop}, Q c { s' with heap := h3 } → wpAny (model X.prog X.w) (X.A.mark (some (.ref a))) (eval (.Name x np) X.env) Q E { s' with heap := h3 } := fun {Q E} q => by
          obtain ⟨hg, hdbg, hm | ⟨hm, hv, hnn⟩⟩ := hc
          · exact ld_glob (X := X.suite a (X.pn ++ pins)) S3 hg hm q hdbg
          · exact ld_blt (X := X.suite a (X.pn ++ pins)) S3 hg hm hv q hnn hdbg
        refine test (LM.here ?_)
        have hloc : Loc X.env.scope n := .inl hln
        cases b with
        | true =>
          refine codeAny_handlers_suite_as ?_
          refine HandSPX.lands_againZ fl3 fun h4 fl4 up4 => ?_
          have J4 : Inv X pins σ' H' { s' with heap := h4 } := J.landed nb fl4.1 ((up.trans up3).trans up4) os ag
          obtain ⟨oe4, vs4, he4, hz4, hd4⟩ := fl4.there
          have J5 : Inv X pins σ' (upd H' a (ExH cls d a)) { s' with heap := h4 } := J4.track na n0 he4 hd4 nL npn (exH_ok he4 hz4 hd4)
          have S5 := J5.suite0 a
          refine store_ok (X := X.suite a (X.pn ++ pins)) (v := .ref a) S5 hN hi hloc rfl (fun s5 S5 => ?_) (.inr hln)
          refine wpAny_mono ((hsu a (X.pn ++ pins)).run [] s5 _ _ _ S5 (hyes rfl a na)) (fun f s6 hsp => ?_) (fun _ _ z => False.elim z)
          have end_ : ∀ {σ6 : St} {H6 : Hp} {Q : Shared → Prop}, Inv (X.suite a (X.pn ++ pins)) [] σ6 H6 s6 → (∀ s7, Inv X pins (σ6.set i none) H6 s7 → Q s7) →
              wpAny (model X.prog X.w) X.A (do bindName X.env n .none; unbindBehindTheSuite X.env n pos') (fun _ s7 => Q s7) X.xe s6 := fun {σ6 H6 Q} S6 hq => gone_ok (S6.unsuite0 ok) hN hi hln hq
          cases f with
          | next =>
            obtain ⟨σ6, H6, S6, q6⟩ := hsp
            exact end_ S6 fun s7 J7 => ⟨_, _, J7, q6⟩
          | brk =>
            obtain ⟨σ6, H6, S6, q6⟩ := hsp
            exact end_ S6 fun s7 J7 => ⟨_, _, J7, q6⟩
          | cont =>
            obtain ⟨σ6, H6, S6, q6⟩ := hsp
            exact end_ S6 fun s7 J7 => ⟨_, _, J7, q6⟩
          | ret u =>
            obtain ⟨v6, σ6, H6, S6, r6, q6⟩ := hsp
            exact end_ S6 fun s7 J7 => ⟨_, _, _, J7, r6, q6⟩
        | false =>
          show wpAny _ X.A (handleBy (.ref a) X.env hds2) _ _ _
          exact ih (hno rfl)
      | @bare x c ts b₀ suite np pos' hds2 l2 hc hsu r ih =>
        intro w
        obtain ⟨b, hb1, hyes, hno⟩ := w
        refine wpAny_handleBy_cons (codeAny_handlers_test ?_) (by intro q; cases q)
        have LM := PySem.W.exm_one (M := model X.prog X.w) (J3.kIn) LT hb1
        have test : ∀ {Q : Value → Shared → Prop} {E : Value → Shared → Prop}, Q c { s' with heap := h3 } → wpAny (model X.prog X.w) (X.A.mark (some (.ref a))) (eval (.Name x np) X.env) Q E { s' with heap := h3 } := fun {Q E} q => by
          obtain ⟨hg, hdbg, hm | ⟨hm, hv, hnn⟩⟩ := hc
          · exact ld_glob (X := X.suite a (X.pn ++ pins)) S3 hg hm q hdbg
          · exact ld_blt (X := X.suite a (X.pn ++ pins)) S3 hg hm hv q hnn hdbg
        refine test (LM.here ?_)
        cases b with
        | true =>
          refine codeAny_handlers_suite ?_
          refine HandSPX.lands_againZ fl3 fun h4 fl4 up4 => ?_
          have J4 : Inv X pins σ' H' { s' with heap := h4 } := J.landed nb fl4.1 ((up.trans up3).trans up4) os ag
          have S4 := J4.suite0 a
          refine wpAny_mono ((hsu a (X.pn ++ pins)).run [] _ _ H' _ S4 (hyes rfl)) (fun f s6 hsp => ?_) (fun _ _ z => False.elim z)
          cases f with
          | next =>
            obtain ⟨σ6, H6, S6, q6⟩ := hsp
            exact ⟨_, _, S6.unsuite0 ok, q6⟩
          | brk =>
            obtain ⟨σ6, H6, S6, q6⟩ := hsp
            exact ⟨_, _, S6.unsuite0 ok, q6⟩
          | cont =>
            obtain ⟨σ6, H6, S6, q6⟩ := hsp
            exact ⟨_, _, S6.unsuite0 ok, q6⟩
          | ret u =>
            obtain ⟨v6, σ6, H6, S6, r6, q6⟩ := hsp
            exact ⟨_, _, _, S6.unsuite0 ok, r6, q6⟩
        | false =>
          show wpAny _ X.A (handleBy (.ref a) X.env hds2) _ _ _
          exact ih (hno rfl)
    exact go hh w
  · cases f with
    | next =>
      obtain ⟨σ', H', J', q⟩ := hsp
      exact wpAny_execs_nil ⟨σ', H', J'.ofTry ok, q⟩
    | brk =>
      obtain ⟨σ', H', J', q⟩ := hsp
      exact ⟨σ', H', J'.ofTry ok, q⟩
    | cont =>
      obtain ⟨σ', H', J', q⟩ := hsp
      exact ⟨σ', H', J'.ofTry ok, q⟩
    | ret u =>
      obtain ⟨v, σ', H', J', r, q⟩ := hsp
      exact ⟨v, σ', H', J'.ofTry ok, r, q⟩
end
end L2

/-! WpS11: statements, defs, the whole table: that the tree is enough for the text. -/
namespace Wp
open PySem PySem.Spec PyProof.Rows L2
theorem set_of {G : Gx} : PSet X (fun o i v H Q => ∃ F M a k x q, RM G F M H ∧ RelD G F o a ∧ RelD G F i k ∧ RelD G F v x ∧ putW a k x M q ∧ ∀ M' H', RM G F M' H' → q M' → Q H') := by
  intro pins s σ H o i v ov iv u Q I ro ri rv ⟨F, M, a, k, x, q, rm, r1, r2, r3, h, cn⟩
  unfold putW at h
  split at h
  · split at h
    · split at h
      · rename_i p k _ xs e1 _ j e2
        cases r1
        cases r2
        obtain ⟨vs, g1, g2⟩ := rd_loc rm e1
        refine set_list pins s σ H _ _ v ov iv u Q I ro ri rv ⟨p, vs, k, j, rfl, rfl, g1, by rw [g2.len]; exact e2, ?_⟩
        exact cn _ _ (rm.put (ob' := .lst (xs.set j x)) e1 ⟨_, upd_same, g2.set j r3⟩) h
      · exact h.elim
    · exact h.elim
  · exact h.elim
theorem ip_of {G : Gx} {X : Cx} {op : Operator} (ho : (op == .Add || op == .Sub) = true) : PIp X op (fun x y H Q => ∃ F M a b q, RM G F M H ∧ RelD G F x a ∧ RelD G F y b ∧ Cn G F q Q ∧ augW op a b M q) := by
  intro pins s σ H x y v u Q I r1 r2 ⟨F, M, a, b, q, rm, d1, d2, cn, h⟩
  unfold augW at h
  split at h
  · cases d1; cases d2
    exact ip_add pins s σ H _ _ v u Q I r1 r2 ⟨_, _, rfl, rfl, cn_here rm cn (.int _) h⟩
  · cases d1; cases d2
    exact ip_sub pins s σ H _ _ v u Q I r1 r2 ⟨_, _, rfl, rfl, cn_here rm cn (.int _) h⟩
  · exact h.elim
section
variable {tb : Tb} {R : Nat → List D → Mem → QK → XQ → Prop} {k : Nat} {N : List Str} {G : Gx} {W : WX} {X : Cx} {sc : Scope}
/-- a loop over things -/
theorem for_read {tg : Tg} {ww : Env → Mem → (Wk → Mem → Prop) → XQ → Prop} {ws : Wp.Ends → Env → Mem → Prop} {D : L2.Ends} {σ : L2.St} {H : Hp}
    (h : liftS G W (fun N env M => ww env M (fun w M1 => eachW ws tg w.still N w.items env M1) fun z M1 => N.ex z env M1) D σ H) : tFor (liftW G W ww) (liftG G tg) (liftS G W ws) D σ H := by
  obtain ⟨F, M, env, N, rm, er, en, h⟩ := h
  refine ⟨F, M, env, _, _, rm, er, fun F1 M1 H1 wk J s1 rm1 real hq => ?_, en.cx er, h⟩
  refine ⟨fun i m σ H => m = wk.items.length - i ∧ i ≤ wk.items.length ∧ ∃ F2 M2 env2, Same F1 F2 ∧ RM G F2 M2 H ∧ EnvR G F2 env2 σ ∧ eachW ws tg wk.still N (wk.items.drop i) env2 M2,
    ⟨wk.items.length, rfl, Nat.zero_le _, F1, M1, env, Same.refl _, rm1, er.mono s1, hq⟩, ?_⟩
  rintro i m σ H ⟨rfl, hi, F2, M2, env2, s2, rm2, er2, cw⟩
  by_cases hlt : i < wk.items.length
  · rw [List.drop_eq_getElem_cons hlt] at cw
    obtain ⟨st, cw⟩ := cw
    obtain ⟨rl, _⟩ := real G.P i F2 M2 H s2 rm2 st
    obtain ⟨go, yl⟩ := rl wk.items[i] (List.getElem?_eq_getElem hlt)
    refine .inr ⟨go, fun σ' H' => ∃ F2 M2 env2, Same F1 F2 ∧ RM G F2 M2 H' ∧ EnvR G F2 env2 σ' ∧ eachW ws tg wk.still N (wk.items.drop (i + 1)) env2 M2, fun σ' H' x => ⟨_, by omega, rfl, hlt, x⟩, fun x H3 y => ?_⟩
    obtain ⟨F3, s3, rm3, r3⟩ := yl x H3 y
    refine ⟨F3, M2, env2, _, _, rm3, er2.mono s3, r3, cw, fun env' σ' er' off cw => ?_⟩
    have en3 := en.mono (s1.trans (s2.trans s3))
    have ss := s2.trans s3
    refine ⟨F3, M2, env', _, rm3, er', ?_, cw⟩
    exact ⟨fun F4 M4 H4 e4 σ4 s4 rm4 er4 q => ⟨F4, M4, e4, ss.trans s4, rm4, er4, q⟩, en3.rt, en3.nx, fun F4 M4 H4 e4 σ4 s4 rm4 er4 q => ⟨F4, M4, e4, ss.trans s4, rm4, er4, q⟩, en3.ex⟩
  · have e1 : i = wk.items.length := by omega
    subst e1
    rw [List.drop_length] at cw
    obtain ⟨st, cw⟩ := cw
    exact .inl ⟨(real G.P _ F2 M2 H s2 rm2 st).2 rfl, en.nx F2 M2 H env2 σ (s1.trans s2) rm2 er2 cw⟩
theorem while_read {wt : Env → Mem → BK → XQ → Prop} {ws : Wp.Ends → Env → Mem → Prop} {D : L2.Ends} {σ : L2.St} {H : Hp}
    (h : liftS G W (fun N env M => ∃ n, loopW (fun e M Q => wt e M Q fun z M1 => N.ex z e M1) ws N n env M) D σ H) : tWhile (liftT G W wt) (liftS G W ws) D σ H := by
  obtain ⟨F, M, env, N, rm, er, en, n, h⟩ := h
  refine ⟨fun m σ H => ∃ F2 M2 env2, Same F F2 ∧ RM G F2 M2 H ∧ EnvR G F2 env2 σ ∧ loopW (fun e M Q => wt e M Q fun z M1 => N.ex z e M1) ws N m env2 M2, ⟨n, F, M, env, Same.refl _, rm, er, h⟩, ?_⟩
  rintro m σ H ⟨F2, M2, env2, s2, rm2, er2, cw⟩
  cases m with
  | zero => exact cw.elim
  | succ m =>
    refine ⟨F2, M2, env2, _, _, rm2, er2, fun F3 M3 H3 c s3 rm3 cw => ?_, (en.mono s2).cx er2, cw⟩
    have en3 := en.mono (s2.trans s3)
    cases c with
    | true =>
      show if true = true then _ else _
      rw [if_pos rfl]
      refine ⟨fun σ' H' => ∃ F2 M2 env2, Same F F2 ∧ RM G F2 M2 H' ∧ EnvR G F2 env2 σ' ∧ loopW (fun e M Q => wt e M Q fun z M1 => N.ex z e M1) ws N m env2 M2, fun σ' H' x => ⟨m, Nat.lt_succ_self _, x⟩, ?_⟩
      have ss := s2.trans s3
      refine ⟨F3, M3, env2, _, rm3, er2.mono s3, ?_, cw⟩
      exact ⟨fun F4 M4 H4 e4 σ4 s4 rm4 er4 q => ⟨F4, M4, e4, ss.trans s4, rm4, er4, q⟩, en3.rt, en3.nx, fun F4 M4 H4 e4 σ4 s4 rm4 er4 q => ⟨F4, M4, e4, ss.trans s4, rm4, er4, q⟩, en3.ex⟩
    | false =>
      show if false = true then _ else _
      rw [if_neg Bool.false_ne_true]
      exact en3.nx F3 M3 H3 env2 σ (Same.refl _) rm3 (er2.mono s3) cw
/-- a store to a target -/
theorem tg_read {F H : Hp} {M : Mem} {tg : Tg} {d : D} {v : V} {env : Env} {σ : L2.St} {N : Wp.Ends} {D : L2.Ends} (rm : RM G F M H) (er : EnvR G F env σ) (en : EndsR G W F N D) (r : RelD G F v d) (h : tgW tg d env fun e' => N.nx e' M) : liftG G tg v σ H D.nx :=
  ⟨F, M, env, d, _, rm, er, r, h, fun env' σ' er' _ q => en.nx F M H env' σ' (Same.refl _) rm er' q⟩
/-- a comprehension's list that goes to a name at once -/
theorem set_comp {e : Ex} {tg : Tg} {e' : Expr} {y : Str} {py pos : Pos} (g : Good G tb R k W X) (hN : X.N = N) (hs : X.env.scope = sc) (k1 : chkE tb N e sc e' = true) (hsw : swB sc y py e' = true) (k2 : chkG N sc allN tg (.Name y py) = true) :
    PS X (.Assign [.Name y py] e' pos) (tAsg (liftE G W (wpE R e)) (liftG G tg)) := by
  refine ⟨fun pins s σ H D I q => ?_⟩
  have hk := I.ok.kind
  revert q
  cases tg with
  | no => cases k2
  | co _ _ => cases k2
  | nm i =>
    intro q
    have k2 : (decide (N[i]? = some y) && locB sc allN y) = true := k2
    rw [Bool.and_eq_true] at k2
    unfold swB at hsw
    split at hsw
    · rename_i elt' gens scope p2
      simp only [Bool.and_eq_true] at hsw
      obtain ⟨⟨w1, w2⟩, w3⟩ := hsw
      have w1 : X.env.scope.names.lookup y = some .local := by rw [hs]; exact of_decide_eq_true w1
      cases e <;> first
        | (cases k1; done)
        | skip
      rename_i fr own tg iter cond elt
      unfold chkE at k1
      split at k1
      · rename_i hq
        injection hq with q1 q2 q3 q4
        subst q1 q2 q3 q4
        rename_i tg' iter' ifs' _
        simp only [Bool.and_eq_true] at k1
        obtain ⟨⟨⟨⟨⟨⟨k1, k3⟩, k4⟩, k5⟩, k6⟩, k7⟩, k8⟩ := k1
        have own_eq : (ownOf N own).map (·.2) = own := by
          unfold ownOf
          rw [List.map_map]
          exact (List.map_congr_left fun a _ => rfl).trans (List.map_id own)
        have hsl : ∀ i ∈ slots tg, i ∈ own := fun i hi => by
          obtain ⟨j, hj, e⟩ := List.any_eq_true.mp (List.all_eq_true.mp k5 i hi)
          rw [eq_of_beq e]
          exact hj
        have hblk := blkOk_by k1
        rw [← hN, ← hs] at hblk
        rw [← hN] at own_eq
        have P := ps_setLc (i := i) (spos := pos) (py := py) (g := fun v σ H Q => ∃ P : Hp, liftG (G.hide P) tg v σ H Q) (tt := fun σ H Q => ∃ P : Hp, liftT (G.hide P) (fun _ _ _ _ => False) (wpC R cond) σ H Q) (te := fun σ H Q => ∃ P : Hp, liftE (G.hide P) (fun _ _ _ _ => False) (wpE R elt) σ H Q)
          (pos := p2) (g.calm k8.2) g.nd (by rw [hN]; exact of_decide_eq_true k2.1) w1 (sw_true hk w1 w2 (by simpa using w3)) (snd_W iter g hN hs k3) hblk
          (fun s H C cl fp => PG.ex fun P => snd_G (G := G.hide P) (X := X.blk s H scope (compEnvC scope cl C X.env) fp) (sc := relS scope sc) (top := fun x => scope.names.lookup x == some .cell) g.hK hN g.nd (env_relS hs) (g.calm k8.2) (fun _ z => z) tg k4)
          (fun s H C cl fp => PTs.ex fun P => snd_F cond ((g.hide P).blk) hN (env_relS hs) k6)
          (fun s H C cl fp => PE.ex fun P => (snd_E elt ((g.hide P).blk) hN (env_relS hs) k7).E) (fold_ok k8.1)
        rw [own_eq] at P
        refine P.run pins s σ H D I (comp_read (fr := fr) hsl ?_)
        obtain ⟨F, M, env, q2, e, rm, er, cn, cx, h⟩ := q
        refine ⟨F, M, env, q2, e, rm, er, fun F1 M1 H1 v d s1 rm1 r1 hq => ?_, cx, h⟩
        obtain ⟨F2, M2, env2, d2, Qe, rm2, er2, r2, q3, k⟩ := cn F1 M1 H1 v d s1 rm1 r1 hq
        refine k _ _ (er2.set r2) ⟨List.length_set, fun j hj => ?_⟩ q3
        have : i ≠ j := fun z => hj (by subst z; exact List.mem_singleton.mpr rfl)
        exact List.getElem?_set_ne this
      · cases k1
    · cases hsw
/-- a def's own frame -/
structure FrOk (X : Cx) : Prop where
  ex : X.ex = []
  st : X.stack = X.env :: X.outer
  fr : X.env.frame = some X.env.locals
theorem any_mem {l : List (Nat × Str)} {q : Nat × Str} (h : (l.any fun p => decide (p = q)) = true) : q ∈ l := by
  obtain ⟨p, hp, e⟩ := List.any_eq_true.mp h
  rw [← of_decide_eq_true e]
  exact hp
theorem EnvR.wipe1 {G : Gx} {F : Hp} {env : Env} {σ : L2.St} (i : Nat) (h : EnvR G F env σ) : EnvR G F (env.set i none) (σ.set i none) := EnvR.wipe h [i]
theorem raise_heap {H : Hp} {a dx : Addr} {o1 o2 o3 o4 : HO} (n1 : H dx = none) (na : H a = none) (ne : dx ≠ a) : upd (L2.del (upd (upd (upd H a o1) dx o2) a o3) a) dx o4 = upd H dx o4 := by
  funext b
  by_cases h1 : b = dx
  · rw [h1, upd_same, upd_same]
  · rw [upd_ne h1, upd_ne h1]
    by_cases h2 : b = a
    · rw [h2, L2.del_same, na]
    · rw [L2.del_ne h2, upd_ne h2, upd_ne h1, upd_ne h2]
/-- in an except suite -/
theorem Good.cold {X : Cx} (g : Good G tb R k W X) (a : Addr) (pn : List (Addr × Obj)) : Good G tb.cold R k (fun _ _ _ _ => False) (X.suite a pn) :=
  ⟨g.hK, g.nd, fun z => (by cases z), fun z => (by cases z), g.un, fun f x e => (by cases e), fun b h => (by
    obtain ⟨_, h⟩ := List.mem_filter.mp h
    have q : (biNm b == "isinstance" || biNm b == "ValueError") = false := by cases b <;> decide +kernel
    rw [q] at h
    cases h), takes0, fun f x e => (by cases e), g.glb, fun x h => g.bnn x (List.mem_filter.mp h).1, fun f x ds M q e h => (by cases h), g.mon, g.k2, g.xt, fun c f x h => (by cases h), fun c x h => (by cases h), ⟨fun f c m e => (by cases e), fun f c m e => (by cases e), fun f c m ds M q e h => (by cases h), g.ob.cls, fun c x h => (by cases h), fun c x h => (by cases h)⟩⟩
theorem noswA {e o : Expr} {f : Str} {p : Pos} {l : Nat} {env : PySem.Env} : swapsWith e (some (.Attribute o f p)) l env = pure false := by
  cases e <;> rfl
theorem noswD {e o i : Expr} {p : Pos} {l : Nat} {env : PySem.Env} : swapsWith e (some (.Subscript o i p)) l env = pure false := by
  cases e <;> rfl
def sSas (to : TE) (tl th : TO) (tv : TE) : TS := fun D σ H => tv σ H fun v H1 => to σ H1 fun x H2 => tl σ H2 fun l H3 => th σ H3 fun u H4 => ∃ (a b : Addr) (xs ys : List V) (i j : Int), x = .ref a ∧ v = .ref b ∧ l = some i ∧ u = some j ∧ H4 a = some (.lst xs) ∧ H4 b = some (.lst ys) ∧ a ≠ b ∧ 0 ≤ i ∧ i ≤ j ∧ j ≤ (xs.length : Int) ∧ xs.length + ys.length ≤ sizeLine ∧ D.nx σ (upd H4 a (.lst (xs.take i.toNat ++ ys ++ xs.drop j.toNat)))
theorem ps_sas {X : Cx} {o value : Expr} {lo hi : Option Expr} {to tv : TE} {tl th : TO} {p2 pos' pos : Pos} (ho : PE X o to) (hl : PO X lo tl) (hh : PO X hi th) (hv : PE X value tv) (hs : swapsWith value (some (.Subscript o (.Slice lo hi none p2) pos')) pos.line X.env = pure false) :
    PS X (.Assign [.Subscript o (.Slice lo hi none p2) pos'] value pos) (sSas to tl th tv) := by
  refine ⟨fun pins s σ H D I h => ?_⟩
  refine wpAny_Assign_Subscript (thn (hv.run pins s σ H _ I h) fun r s1 ⟨v, H1, I1, rv, q1⟩ => thn (ho.run pins s1 σ H1 _ I1 q1) fun u s2 ⟨x, H2, I2, rx, q2⟩ => wpAny_Slice (thn (hl.run pins s2 σ H2 _ I2 q2) fun vl s3 ⟨l, H3, I3, pl, q3⟩ => thn (hh.run pins s3 σ H3 _ I3 q3) fun vu s4 ⟨u2, H4, I4, pu, q4⟩ => ?_)) hs
  rw [evalPart_none]
  refine wpAny_pure ?_
  have I5 : Inv X pins σ H4 { s4 with heap := s4.heap.push { cls := .type "slice", data := .fields #[vl, vu, .none] } } := I4.kept (t' := s4.toks) fun b ob q => Heap.get?_push_of_some _ q
  obtain ⟨a, b, xs, ys, i, j, rfl, rfl, rfl, rfl, e1, e2, ne, i0, ij, jl, hz, q5⟩ := q4
  obtain rfl : u = Value.ref a := rx
  obtain rfl : r = Value.ref b := rv
  have pl' : RelV (.int i) vl := by cases pl; exact ⟨_, rfl⟩
  have pu' : RelV (.int j) vu := by cases pu; exact ⟨_, rfl⟩
  exact set_slice I5 e1 e2 ne (Heap.IsSliceOf.new ..) pl' pu' i0 ij jl hz fun s' I6 => ⟨σ, _, I6, q5⟩
theorem sas_inv {o x : D} {l h : Option Int} {M : Mem} {Q : Mem → Prop} (q : sasW o l h x M Q) : ∃ (a b : Addr) (xs ys : List D) (i j : Int), o = .loc a ∧ x = .loc b ∧ l = some i ∧ h = some j ∧ M a = some (.lst xs) ∧ M b = some (.lst ys) ∧ a ≠ b ∧ 0 ≤ i ∧ i ≤ j ∧ j ≤ (xs.length : Int) ∧ xs.length + ys.length ≤ sizeLine ∧ Q (M.upd a (.lst (xs.take i.toNat ++ ys ++ xs.drop j.toNat))) := by
  unfold sasW at q
  split at q
  · split at q
    · rename_i e1 e2
      exact ⟨_, _, _, _, _, _, rfl, rfl, rfl, rfl, e1, e2, q.1, q.2.1.1, q.2.1.2.1, q.2.1.2.2, q.2.2.1, q.2.2.2⟩
    · exact q.elim
  · exact q.elim
theorem of_mem {f : Str} (h : (tb.of.any fun g => decide (g = f)) = true) : f ∈ tb.of := by
  obtain ⟨g, hg, e⟩ := List.any_eq_true.mp h
  rw [← of_decide_eq_true e]
  exact hg
theorem put_fld {G : Gx} {W : WX} {X : Cx} (g : Good G tb R k W X) {F H : Hp} {M : Mem} {v y : V} {x d : D} {f : Str} {q : Mem → Prop} (hf : f ∈ tb.of) (rm : RM G F M H) (r : RelD G F v x) (ry : RelD G F y d) (h : sflW x f d M q) :
    ∃ a C dx fs, v = .ref a ∧ H a = some (.ins C dx fs) ∧ Cls X.K C ∧ NoAttr X.K C f ∧ fs.length < 1000 ∧ (∃ c, clsW x M = some c ∧ G.co c = some C) ∧ ∃ M', RM G F M' (upd H a (.ins C dx (putF f y fs))) ∧ q M' := by
  unfold sflW at h
  split at h
  · rename_i p
    split at h
    · rename_i c fs e1
      obtain ⟨hl, h⟩ := h
      cases r
      obtain ⟨nf, C, dx, fvs, h1, h2, h3⟩ := rm.mt p _ e1
      obtain ⟨c1, c2⟩ := g.ob.cls c C h1
      exact ⟨p, C, dx, fvs, rfl, h2, c1, c2 f hf, by rw [fvs_len h3]; exact hl, ⟨c, by dsimp only [clsW]; rw [e1], h1⟩, _, rm.put (ob' := .obj c (putS f d fs)) e1 ⟨C, dx, _, h1, upd_same, fvs_put ry h3⟩, h⟩
    · exact h.elim
  · exact h.elim
theorem sfl_read {G : Gx} {W W' : WX} {X : Cx} (g : Good G tb R k W' X) {o e : Ex} {f : Str} {D : L2.Ends} {σ : L2.St} {H : Hp} (k4 : (tb.of.any fun g => decide (g = f)) = true) (q : liftS G W (wpS R (.sfl o f e)) D σ H) : sFld X.K (liftE G W (wpE R o)) (liftE G W (wpE R e)) f D σ H := by
  obtain ⟨F, M, env, N, rm, er, en, h⟩ := q
  refine enter rm er (en.cx er) h fun F1 M1 H1 v1 d1 s1 rm1 er1 cx1 r1 h => enter rm1 er1 cx1 h fun F2 M2 H2 v2 d2 s2 rm2 er2 cx2 r2 h => ?_
  obtain ⟨a, C, dx, fs, z1, z2, z3, z4, z5, _, M', rm', h⟩ := put_fld g (of_mem k4) rm2 r2 (r1.mono s2) h
  exact ⟨a, C, dx, fs, z1, z2, z3, z4, z5, en.nx F2 M' _ env σ (s1.trans s2) rm' er2 h⟩
theorem inop_of {G : Gx} {X : Cx} {op : Operator} (ho : (op == .Add || op == .Sub) = true) : InOp X op (fun x y H Q => ∃ F M a b q, RM G F M H ∧ RelD G F x a ∧ RelD G F y b ∧ Cn G F q Q ∧ augW op a b M q) := by
  intro pins s σ H x y u v Q I r1 r2 ⟨F, M, a, b, q, rm, d1, d2, cn, h⟩
  unfold augW at h
  split at h
  · cases d1; cases d2
    exact in_add pins s σ H _ _ u v Q I r1 r2 ⟨_, _, rfl, rfl, cn_here rm cn (.int _) h⟩
  · cases d1; cases d2
    exact in_sub pins s σ H _ _ u v Q I r1 r2 ⟨_, _, rfl, rfl, cn_here rm cn (.int _) h⟩
  · exact h.elim
theorem set_dic {X : Cx} (hu : X.A.units + 1 < cLine) : PSet X (fun o i v H Q => ∃ a H', o = .ref a ∧ DPut H a i v H' ∧ Q H') := by
  intro pins s σ H o i v ov iv u Q I ro ri rv ⟨a, H', e, g, q⟩
  subst e
  obtain rfl : ov = Value.ref a := ro
  exact d_setItem hu I g ri rv fun s6 I6 => ⟨H', I6, q⟩
/-- targets side by side -/
def liftTs (G : Gx) (W : WX) (R : Nat → List D → Mem → QK → XQ → Prop) (ts : List Ts) : TGs := fun vs σ H Q => ∃ (F : Hp) (M : Mem) (env : Env) (ds : List Wp.D) (nx : Env → Mem → Prop) (ex : Exn → Env → Mem → Prop), RM G F M H ∧ EnvR G F env σ ∧ RelDs G F vs ds ∧ tsW R ts ds env M nx ex ∧
  (∀ F' M' H' env' σ', Same F F' → RM G F' M' H' → EnvR G F' env' σ' → nx env' M' → Q σ' H') ∧ (∀ F' M' H' env' σ' z c dd, Same F F' → RM G F' M' H' → EnvR G F' env' σ' → RelX G F' H' z c dd → ex z env' M' → W c dd σ' H')
theorem ts_len : ∀ {ts : List Ts} {tgs : List Expr}, chkT tb N sc ts tgs = true → ∀ env : PySem.Env, (assignEach tgs env).length = tgs.length ∧ (assignEach tgs env).findIdx? (·.1) = none
  | [], [], _, env => ⟨rfl, rfl⟩
  | [], _ :: _, h, env => by cases h
  | .nm i :: ts, [], h, env => by cases h
  | .sb o i :: ts, [], h, env => by cases h
  | .db o i :: ts, [], h, env => by cases h
  | t :: ts, e :: es, h, env => by
    have key : noStar e = true ∧ chkT tb N sc ts es = true := by
      cases t <;> cases e <;> first
        | (cases h; done)
        | (unfold chkT at h
           simp only [Bool.and_eq_true] at h
           exact ⟨rfl, h.2⟩)
    obtain ⟨a, b⟩ := ts_len key.2 env
    rw [asg_ok key.1, List.length_cons, List.findIdx?_cons, a]
    simp [b]
theorem ts_num : ∀ {ts : List Ts} {tgs : List Expr}, chkT tb N sc ts tgs = true → ts.length = tgs.length
  | [], [], _ => rfl
  | [], _ :: _, h => by cases h
  | .nm i :: ts, [], h => by cases h
  | .sb o i :: ts, [], h => by cases h
  | .db o i :: ts, [], h => by cases h
  | t :: ts, e :: es, h => by
    have key : chkT tb N sc ts es = true := by
      cases t <;> cases e <;> first
        | (cases h; done)
        | (unfold chkT at h
           simp only [Bool.and_eq_true] at h
           exact h.2)
    rw [List.length_cons, List.length_cons, ts_num key]
theorem snd_Ts {G : Gx} {W : WX} {X : Cx} (g : Good G tb R k W X) (hN : X.N = N) (hs : X.env.scope = sc) (hf : X.fn = fun _ => true) : ∀ {ts : List Ts} {tgs : List Expr}, chkT tb N sc ts tgs = true → PGs X tgs (liftTs G W R ts)
  | [], [], _ => by
    refine PGs.imp pgs_nil fun vs σ H Q ⟨F, M, env, ds, nx, ex, rm, er, rs, h, hnx, hex⟩ => ?_
    cases rs with
    | nil => exact ⟨rfl, hnx F M H env σ (Same.refl F) rm er h⟩
    | cons _ _ => exact h.elim
  | [], _ :: _, h => by cases h
  | .nm i :: ts, [], h => by cases h
  | .sb o i :: ts, [], h => by cases h
  | .db o i :: ts, [], h => by cases h
  | .nm i :: ts, e :: es, h => by
    unfold chkT at h
    split at h
    · rename_i h0; cases h0
    · rename_i i' ts' x p es' h0 h1
      injection h0 with h01 h02
      injection h01 with h01
      injection h1 with h11 h12
      subst h01 h02 h11 h12
      simp only [Bool.and_eq_true] at h
      obtain ⟨⟨k1, k2⟩, k3⟩ := h
      obtain ⟨l1, l2⟩ := loc_of hs (fun y _ => by rw [hf]) k2
      refine PGs.imp (pgs_cons (pg_name (i := i) g.nd (by rw [hN]; exact of_decide_eq_true k1) l1 l2) (snd_Ts g hN hs hf k3) (by rw [asg_ok rfl]; rfl)) fun vs σ H Q ⟨F, M, env, ds, nx, ex, rm, er, rs, h, hnx, hex⟩ => ?_
      cases rs with
      | nil => exact h.elim
      | cons r rs => exact ⟨_, _, rfl, F, M, _, _, nx, ex, rm, er.set r, rs, h, hnx, hex⟩
    · rename_i h0 _; cases h0
    · rename_i h0 _; cases h0
    · cases h
  | .sb o i :: ts, e :: es, h => by
    unfold chkT at h
    split at h
    · rename_i h0; cases h0
    · rename_i h0 _; cases h0
    · rename_i o1 i1 ts' o' i' p es' h0 h1
      injection h0 with h01 h02
      injection h01 with h01 h03
      injection h1 with h11 h12
      subst h01 h02 h03 h11 h12
      simp only [Bool.and_eq_true] at h
      obtain ⟨⟨⟨k1, k2⟩, k3⟩, k4⟩ := h
      refine PGs.imp (pgs_cons (pg_sub ((snd_E o g hN hs k1).E) ((snd_E i g hN hs k2).E) (set_of (G := G)) (set_ok k3)) (snd_Ts g hN hs hf k4) (by rw [asg_ok rfl]; rfl)) fun vs σ H Q ⟨F, M, env, ds, nx, ex, rm, er, rs, h, hnx, hex⟩ => ?_
      cases rs with
      | nil => exact h.elim
      | cons r rs =>
        refine ⟨_, _, rfl, ?_⟩
        have cx : CnX G F (fun z M => ex z env M) (fun c d H => W c d σ H) := fun F' M' H' z c dd s rm' rx q => hex F' M' H' env σ z c dd s rm' (er.mono s) rx q
        refine enter rm er cx h fun F1 M1 H1 v1 d1 s1 rm1 er1 cx1 r1 h => enter rm1 er1 cx1 h fun F2 M2 H2 v2 d2 s2 rm2 er2 cx2 r2 h => ?_
        have ss := s1.trans s2
        exact ⟨F2, M2, d1, d2, _, _, rm2, r1.mono s2, r2, r.mono ss, h, fun M' H' rm' q => ⟨F2, M', env, _, nx, ex, rm', er2, rs.mono ss, q, fun F3 M3 H3 e3 σ3 s3 => hnx F3 M3 H3 e3 σ3 (ss.trans s3), fun F3 M3 H3 e3 σ3 z c dd s3 => hex F3 M3 H3 e3 σ3 z c dd (ss.trans s3)⟩⟩
    · rename_i h0 _; cases h0
    · cases h
  | .db o i :: ts, e :: es, h => by
    unfold chkT at h
    split at h
    · rename_i h0; cases h0
    · rename_i h0 _; cases h0
    · rename_i h0 _; cases h0
    · rename_i o1 i1 ts' o' i' p es' h0 h1
      injection h0 with h01 h02
      injection h01 with h01 h03
      injection h1 with h11 h12
      subst h01 h02 h03 h11 h12
      simp only [Bool.and_eq_true] at h
      obtain ⟨⟨⟨k1, k2⟩, k3⟩, k4⟩ := h
      have hu : X.A.units + 1 < cLine := by have := g.un; omega
      refine PGs.imp (pgs_cons (pg_sub ((snd_E o g hN hs k1).E) ((snd_E i g hN hs k2).E) (set_dic hu) (set_ok k3)) (snd_Ts g hN hs hf k4) (by rw [asg_ok rfl]; rfl)) fun vs σ H Q ⟨F, M, env, ds, nx, ex, rm, er, rs, h, hnx, hex⟩ => ?_
      cases rs with
      | nil => exact h.elim
      | @cons v0 _ d0 _ r rs =>
        refine ⟨_, _, rfl, ?_⟩
        have cx : CnX G F (fun z M => ex z env M) (fun c d H => W c d σ H) := fun F' M' H' z c dd s rm' rx q => hex F' M' H' env σ z c dd s rm' (er.mono s) rx q
        refine enter rm er cx h fun F1 M1 H1 v1 d1 s1 rm1 er1 cx1 r1 h => enter rm1 er1 cx1 h fun F2 M2 H2 v2 d2 s2 rm2 er2 cx2 r2 h => ?_
        have ss := s1.trans s2
        obtain ⟨a, o', ob', rfl, -, j1, rm', h⟩ := dput_inv rm2 (r1.mono s2) r2 (r.mono ss) h
        refine ⟨a, _, rfl, j1, ?_⟩
        exact ⟨F2, _, env, _, nx, ex, rm', er2, rs.mono ss, h, fun F3 M3 H3 e3 σ3 s3 => hnx F3 M3 H3 e3 σ3 (ss.trans s3), fun F3 M3 H3 e3 σ3 z c dd s3 => hex F3 M3 H3 e3 σ3 z c dd (ss.trans s3)⟩
    · cases h
theorem aug_ok {i : Expr} (h : noSlice i = true) : ∀ ov iv new, augStore i ov iv new = (do holding [new, ov, iv] (setItem ov iv new); release [new, ov, iv] []; pure .next) := by
  intro ov iv new
  cases i <;> first | rfl | cases h
theorem raise_heap2 {H : Hp} {a dx : Addr} {o1 o2 o3 o4 o5 : HO} (na : H a = none) (ne : dx ≠ a) : upd (L2.del (upd (upd (upd (upd H a o1) dx o2) a o3) dx o4) a) dx o5 = upd H dx o5 := by
  funext b
  by_cases h1 : b = dx
  · rw [h1, upd_same, upd_same]
  · rw [upd_ne h1, upd_ne h1]
    by_cases h2 : b = a
    · rw [h2, L2.del_same, na]
    · rw [L2.del_ne h2, upd_ne h1, upd_ne h2, upd_ne h1, upd_ne h2]
/-! an except suite -/
mutual
theorem snd_V {W : WX} {X : Cx} (g : Good G tb.cold R k W X) (hN : X.N = N) (hs : X.env.scope = sc) (hf : X.fn = fun _ => true) : ∀ (t : Sx) {st : Stmt}, chkV tb.cold N sc t st = true → PS X st (liftS G W (wpS R t))
  | .asg (.nm j) e, st, h => by
    unfold chkV at h; split at h
    · rename_i y py e' pos
      simp only [Bool.and_eq_true] at h
      obtain ⟨⟨⟨k1, k2⟩, k3⟩, k4⟩ := h
      obtain ⟨l1, l2⟩ := loc_of hs (fun y _ => by rw [hf]) k3
      have hsf : swapsWith e' (some (.Name y py)) pos.line X.env = pure false := nosw (by simpa using k4)
      refine PS.imp (ps_asg ((snd_E e g hN hs k1).E) (pg_name (i := j) g.nd (by rw [hN]; exact of_decide_eq_true k2) l1 l2) hsf (noswap rfl) rfl) fun D σ H ⟨F, M, env, N, rm, er, en, h⟩ => ?_
      refine enter rm er (en.cx er) h fun F1 M1 H1 v1 d1 s1 rm1 er1 cx1 r1 h => ?_
      exact en.nx F1 M1 H1 (setV env j d1) _ s1 rm1 (er1.set r1) h
    · cases h
  | .ife c s t, st, h => by
    unfold chkV at h; split at h
    · rw [Bool.and_eq_true, Bool.and_eq_true] at h
      refine PS.imp (ps_if (snd_E c g hN hs h.1.1).T (snd_U g hN hs hf s h.1.2) (snd_U g hN hs hf t h.2)) fun D σ H ⟨F, M, env, N, rm, er, en, h⟩ => ?_
      refine ⟨F, M, env, _, _, rm, er, fun F1 M1 H1 b s1 rm1 q => ?_, en.cx er, h⟩
      cases b with
      | true => rw [if_pos rfl]; exact ⟨F1, M1, env, N, rm1, er.mono s1, en.mono s1, q⟩
      | false => rw [if_neg Bool.false_ne_true]; exact ⟨F1, M1, env, N, rm1, er.mono s1, en.mono s1, q⟩
    · cases h
  | .ret e, st, h => by
    unfold chkV at h; split at h
    · have A := (snd_E e g hN hs h).E
      refine PS.imp (ps_ret A) fun D σ H ⟨F, M, env, N, rm, er, en, h⟩ => ?_
      exact enter rm er (en.cx er) h fun F1 M1 H1 v1 d1 s1 rm1 er1 cx1 r1 h => en.rt F1 M1 H1 v1 d1 s1 rm1 r1 h
    · cases h
  | .sfl o f e, st, h => by
    unfold chkV at h; split at h
    · simp only [Bool.and_eq_true] at h
      obtain ⟨⟨⟨k1, k2⟩, k3⟩, k4⟩ := h
      have e1 := of_decide_eq_true k1
      subst e1
      exact PS.imp (ps_fld ((snd_E o g hN hs k2).E) ((snd_E e g hN hs k3).E) noswA) fun D σ H q => sfl_read g k4 q
    · cases h
  | .pass, st, h => by
    unfold chkV at h; split at h
    · exact PS.imp ps_pass fun D σ H ⟨F, M, env, N, rm, er, en, h⟩ => en.nx F M H env σ (Same.refl _) rm er h
    · cases h
  | .asg .no _, st, h => by cases h
  | .asg (.co _ _) _, st, h => by cases h
  | .nil, st, h => by cases h
  | .seq _ _, st, h => by cases h
  | .sub _ _ _, st, h => by cases h
  | .dput _ _ _, st, h => by cases h
  | .sas _ _ _ _, st, h => by cases h
  | .aug _ _ _, st, h => by cases h
  | .drop _, st, h => by cases h
  | .loop _ _, st, h => by cases h
  | .each _ _ _, st, h => by cases h
  | .brk, st, h => by cases h
  | .cnt, st, h => by cases h
  | .never, st, h => by cases h
  | .frz _, st, h => by cases h
  | .frd _, st, h => by cases h
  | .rse _ _ _, st, h => by cases h
  | .rsp _ _, st, h => by cases h
  | .tri _ _ _ _, st, h => by cases h
  | .trn _ _ _, st, h => by cases h
  | .fau _ _ _ _, st, h => by cases h
  | .dau _ _ _ _, st, h => by cases h
  | .asu _ _, st, h => by cases h
  | .rsb _ _, st, h => by cases h
  | .tr2 _ _ _ _ _ _ _, st, h => by cases h
theorem snd_U {W : WX} {X : Cx} (g : Good G tb.cold R k W X) (hN : X.N = N) (hs : X.env.scope = sc) (hf : X.fn = fun _ => true) : ∀ (t : Sx) {sts : List Stmt}, chkU tb.cold N sc t sts = true → PSs X sts (liftS G W (wpS R t))
  | .nil, sts, h => by
    unfold chkU at h; split at h
    · exact PSs.imp pss_nil fun D σ H ⟨F, M, env, N, rm, er, en, h⟩ => en.nx F M H env σ (Same.refl _) rm er h
    · cases h
  | .seq s t, sts, h => by
    unfold chkU at h; split at h
    · rw [Bool.and_eq_true] at h
      refine PSs.imp (pss_cons (snd_V g hN hs hf s h.1) (snd_U g hN hs hf t h.2)) fun D σ H ⟨F, M, env, N, rm, er, en, h⟩ => ?_
      refine ⟨F, M, env, _, rm, er, ?_, h⟩
      exact ⟨fun F1 M1 H1 e1 σ1 s1 rm1 er1 q => ⟨F1, M1, e1, N, rm1, er1, en.mono s1, q⟩, en.rt, en.bk, en.ct, en.ex⟩
    · cases h
  | .asg _ _, sts, h => by cases h
  | .sub _ _ _, sts, h => by cases h
  | .dput _ _ _, sts, h => by cases h
  | .sas _ _ _ _, sts, h => by cases h
  | .aug _ _ _, sts, h => by cases h
  | .drop _, sts, h => by cases h
  | .ret _, sts, h => by cases h
  | .ife _ _ _, sts, h => by cases h
  | .loop _ _, sts, h => by cases h
  | .each _ _ _, sts, h => by cases h
  | .pass, sts, h => by cases h
  | .brk, sts, h => by cases h
  | .cnt, sts, h => by cases h
  | .never, sts, h => by cases h
  | .frz _, sts, h => by cases h
  | .frd _, sts, h => by cases h
  | .rse _ _ _, sts, h => by cases h
  | .rsp _ _, sts, h => by cases h
  | .tri _ _ _ _, sts, h => by cases h
  | .trn _ _ _, sts, h => by cases h
  | .sfl _ _ _, sts, h => by cases h
  | .fau _ _ _ _, sts, h => by cases h
  | .dau _ _ _ _, sts, h => by cases h
  | .asu _ _, sts, h => by cases h
  | .rsb _ _, sts, h => by cases h
  | .tr2 _ _ _ _ _ _ _, sts, h => by cases h
end
theorem hd_ok {G : Gx} {W : WX} {X : Cx} (g : Good G tb R k W X) (hN : X.N = N) (hs : X.env.scope = sc) (hf : X.fn = fun _ => true) {c : Nat} {i : Option Nat} {t : Sx} {h : ExceptHandler} (hk : chkH tb N sc c i t h = true) :
    ∃ C, G.cl c = some C ∧ ∀ {hds : List ExceptHandler} {l : List (Value × Option Nat × TS)}, L2.HdO X hds l → L2.HdO X (h :: hds) ((.ref C, i, liftS G (fun _ _ _ _ => False) (wpS R t)) :: l) := by
  unfold chkH at hk
  split at hk
  · simp only [Bool.and_eq_true] at hk
    obtain ⟨⟨⟨k1, k2⟩, k3⟩, k4⟩ := hk
    obtain ⟨D0, m1, m2⟩ := g.xt.nm _ (any_mem k1)
    obtain ⟨j1, j2⟩ := gl_of hs k2
    refine ⟨D0, m2, fun {hds l} r => ?_⟩
    split at k3
    · rename_i i n
      rw [Bool.and_eq_true] at k3
      have hln : X.env.kindOf n = some .local := by
        show X.env.scope.names.lookup n = _
        rw [hs]
        exact of_decide_eq_true k3.2
      exact .nmd ⟨j1, j2, .inl m1⟩ (by rw [hN]; exact of_decide_eq_true k3.1) hln (fun a pn => snd_U (g.cold a pn) hN hs hf t k4) r
    · exact .bare ⟨j1, j2, .inl m1⟩ (fun a pn => snd_U (g.cold a pn) hN hs hf t k4) r
    · cases k3
  · cases hk
theorem cl_read {G : Gx} {W : WX} {F H : Hp} {M : Mem} {env : Env} {σ : L2.St} {N : Wp.Ends} {D : L2.Ends} {t : Sx} {i : Option Nat} {z : Exn} {cls : Value} {dd : Option Addr} (rm : RM G F M H) (er : EnvR G F env σ) (en : EndsR G W F N D) (rx : RelX G F H z cls dd) (q : clW (wpS R t) i N z env M) :
    L2.wCl i (liftS G (fun _ _ _ _ => False) (wpS R t)) D cls dd σ H := by
  obtain ⟨C, x1, rfl, x2⟩ := rx
  cases i with
  | some i =>
    intro a ha
    have nF := rm.freeF ha
    have hob : RelOb G F (upd H a (L2.ExH (.ref C) dd a)) a (.ins z.c z.fs) := ⟨C, dd, x1, upd_same, x2⟩
    refine ⟨F, M.upd a (.ins z.c z.fs), setV env i (.loc a), _, rm.new ha hob, er.set .loc, ?_, q a (rm.freeM ha)⟩
    exact ⟨fun F2 M2 H2 e2 σ2 s2 rm2 er2 q => en.nx F2 M2 H2 _ _ s2 rm2 (er2.wipe1 i) q, en.rt, fun F2 M2 H2 e2 σ2 s2 rm2 er2 q => en.bk F2 M2 H2 _ _ s2 rm2 (er2.wipe1 i) q, fun F2 M2 H2 e2 σ2 s2 rm2 er2 q => en.ct F2 M2 H2 _ _ s2 rm2 (er2.wipe1 i) q, fun F2 M2 H2 e2 σ2 z c dd s2 rm2 er2 rx q => q.elim⟩
  | none =>
    exact ⟨F, M, env, ⟨N.nx, N.rt, N.bk, N.ct, fun _ _ _ => False⟩, rm, er, ⟨en.nx, en.rt, en.bk, en.ct, fun F2 M2 H2 e2 σ2 z c dd s2 rm2 er2 rx q => q.elim⟩, q⟩
mutual
theorem snd_S (hot : tb.hot = true) : ∀ (s : Sx) {W : WX} {X : Cx}, Good G tb R k W X → X.N = N → X.env.scope = sc → X.fn = (fun _ => true) → PassesOwn (model X.prog X.w) X.A X.env X.xe → FrOk X → ∀ {st : Stmt}, chkS tb N sc s st = true → PS X st (liftS G W (wpS R s))
  | .asg tg e, W, X, g, hN, hs, hf, po, fo, st, h => by
    unfold chkS at h; split at h
    · rename_i tg' e' pos
      simp only [Bool.and_eq_true] at h
      obtain ⟨⟨⟨k1, k2⟩, k3⟩, k4⟩ := h
      have A := (snd_E e g hN hs k1).E
      have B := snd_G (G := G) g.hK hN g.nd hs (g.calm hot) (fun y _ => by rw [hf]) tg k2
      have read : ∀ D σ H, liftS G W (wpS R (.asg tg e)) D σ H → tAsg (liftE G W (wpE R e)) (liftG G tg) D σ H := fun D σ H ⟨F, M, env, N, rm, er, en, h⟩ =>
        enter rm er (en.cx er) h fun F1 M1 H1 v1 d1 s1 rm1 er1 cx1 r1 h => tg_read rm1 er1 (en.mono s1) r1 h
      split at k4
      · rename_i y py
        by_cases hsw : swB sc y py e' = true
        · -- a comprehension's list that goes to the name at once
          exact PS.imp (set_comp g hN hs k1 hsw k2) read
        · have hsf : swapsWith e' (some (.Name y py)) pos.line X.env = pure false := by
            rw [Bool.eq_false_iff.mpr hsw, Bool.false_or, Bool.or_eq_true] at k4
            rcases k4 with k4 | k4
            · exact nosw (by simpa using k4)
            · refine noswC ?_
              show X.env.scope.names.lookup y = _
              rw [hs]
              exact of_decide_eq_true k4
          exact PS.imp (ps_asg A B hsf (noswap k3) rfl) read
      · exact PS.imp (ps_asg A B noswT (noswap k3) rfl) read
      · cases k4
    · cases h
  | .sub o i e, W, X, g, hN, hs, hf, po, fo, st, h => by
    unfold chkS at h; split at h
    · simp only [Bool.and_eq_true] at h
      obtain ⟨⟨⟨k1, k2⟩, k3⟩, k4⟩ := h
      have A := (snd_E o g hN hs k1).E
      have B := (snd_E i g hN hs k2).E
      have C := (snd_E e g hN hs k4).E
      refine PS.imp (ps_asg C (pg_sub A B (set_of (G := G)) (set_ok k3)) noswS (noswap rfl) rfl) fun D σ H ⟨F, M, env, N, rm, er, en, h⟩ => ?_
      refine enter rm er (en.cx er) h fun F1 M1 H1 v1 d1 s1 rm1 er1 cx1 r1 h => enter rm1 er1 cx1 h fun F2 M2 H2 v2 d2 s2 rm2 er2 cx2 r2 h => enter rm2 er2 cx2 h fun F3 M3 H3 v3 d3 s3 rm3 er3 cx3 r3 h => ?_
      exact ⟨F3, M3, d2, d3, d1, _, rm3, r2.mono s3, r3, r1.mono (s2.trans s3), h, fun M' H' rm' q => en.nx F3 M' H' env σ (s1.trans (s2.trans s3)) rm' er3 q⟩
    · cases h
  | .dput o i e, W, X, g, hN, hs, hf, po, fo, st, h => by
    unfold chkS at h; split at h
    · simp only [Bool.and_eq_true] at h
      obtain ⟨⟨⟨k1, k2⟩, k3⟩, k4⟩ := h
      have A := (snd_E o g hN hs k1).E
      have B := (snd_E i g hN hs k2).E
      have C := (snd_E e g hN hs k4).E
      have hu : X.A.units + 1 < cLine := by have := g.un; omega
      refine PS.imp (ps_dput hu A B C noswD) fun D σ H ⟨F, M, env, N, rm, er, en, h⟩ => ?_
      refine enter rm er (en.cx er) h fun F1 M1 H1 v1 d1 s1 rm1 er1 cx1 r1 h => enter rm1 er1 cx1 h fun F2 M2 H2 v2 d2 s2 rm2 er2 cx2 r2 h => enter rm2 er2 cx2 h fun F3 M3 H3 v3 d3 s3 rm3 er3 cx3 r3 h => ?_
      obtain ⟨a, o', ob', rfl, -, j1, rm', h⟩ := dput_inv rm3 (r2.mono s3) r3 (r1.mono (s2.trans s3)) h
      exact ⟨a, _, rfl, j1, en.nx F3 _ _ env σ (s1.trans (s2.trans s3)) rm' er3 h⟩
    · cases h
  | .sas o lo hi e, W, X, g, hN, hs, hf, po, fo, st, h => by
    unfold chkS at h; split at h
    · simp only [Bool.and_eq_true] at h
      obtain ⟨⟨⟨k1, k2⟩, k3⟩, k4⟩ := h
      have A := (snd_E o g hN hs k1).E
      have C := (snd_E e g hN hs k4).E
      refine PS.imp (ps_sas A (snd_P lo g hN hs k2) (snd_P hi g hN hs k3) C noswD) fun D σ H ⟨F, M, env, N, rm, er, en, h⟩ => ?_
      refine enter rm er (en.cx er) h fun F1 M1 H1 v1 d1 s1 rm1 er1 cx1 r1 h => enter rm1 er1 cx1 h fun F2 M2 H2 v2 d2 s2 rm2 er2 cx2 r2 h => enterP rm2 er2 cx2 h fun F3 M3 H3 l s3 rm3 er3 cx3 h => enterP rm3 er3 cx3 h fun F4 M4 H4 u s4 rm4 er4 cx4 h => ?_
      obtain ⟨a, b, xs, ys, i, j, rfl, rfl, rfl, rfl, e1, e2, ne, i0, ij, jl, hz, h⟩ := sas_inv h
      cases r1
      cases r2
      obtain ⟨nf, vs, g1, g1r⟩ := rm4.mt a _ e1
      obtain ⟨nf2, ws, g2, g2r⟩ := rm4.mt b _ e2
      have z1 := g1r.len
      have z2 := g2r.len
      exact ⟨a, b, vs, ws, i, j, rfl, rfl, rfl, rfl, g1, g2, ne, i0, ij, by omega, by omega, en.nx F4 _ _ env σ (s1.trans (s2.trans (s3.trans s4))) (rm4.put (ob' := .lst (xs.take i.toNat ++ ys ++ xs.drop j.toNat)) (o := .lst (vs.take i.toNat ++ ws ++ vs.drop j.toNat)) e1 ⟨_, upd_same, ((g1r.take _).app g2r).app (g1r.drop _)⟩) er4 h⟩
    · cases h
  | .aug i op e, W, X, g, hN, hs, hf, po, fo, st, h => by
    unfold chkS at h; split at h
    · simp only [Bool.and_eq_true] at h
      obtain ⟨⟨⟨⟨k1, k2⟩, k3⟩, k4⟩, k5⟩ := h
      have e1 := of_decide_eq_true k1
      subst e1
      obtain ⟨l1, l2⟩ := loc_of hs (fun y _ => by rw [hf]) k3
      have A := (snd_E e g hN hs k4).E
      refine PS.imp (ps_aug g.nd (by rw [hN]; exact of_decide_eq_true k2) l1 A (ip_of (G := G) k5) l2) fun D σ H ⟨F, M, env, N, rm, er, en, h⟩ => ?_
      dsimp only [wpS] at h
      cases q1 : slv env i with
      | none => rw [q1] at h; exact h.elim
      | some d =>
        rw [q1] at h
        obtain ⟨v, e1, r⟩ := er.at_ i d q1
        refine ⟨v, e1, enter rm er (en.cx er) h fun F1 M1 H1 v1 d1 s1 rm1 er1 cx1 r1 h => ?_⟩
        exact ⟨F1, M1, d, d1, _, rm1, r.mono s1, r1, fun F2 M2 H2 v2 d2 s2 rm2 r2 q => en.nx F2 M2 H2 _ _ (s1.trans s2) rm2 ((er1.mono s2).set r2) q, h⟩
    · cases h
  | .drop e, W, X, g, hN, hs, hf, po, fo, st, h => by
    unfold chkS at h; split at h
    · rw [Bool.and_eq_true] at h
      refine PS.imp (ps_expr (snd_E e g hN hs h.1).E (nosw (by simpa using h.2))) fun D σ H ⟨F, M, env, N, rm, er, en, h⟩ => ?_
      exact enter rm er (en.cx er) h fun F1 M1 H1 v1 d1 s1 rm1 er1 cx1 r1 h => en.nx F1 M1 H1 env σ s1 rm1 er1 h
    · cases h
  | .ret e, W, X, g, hN, hs, hf, po, fo, st, h => by
    unfold chkS at h; split at h
    · refine PS.imp (ps_ret (snd_E e g hN hs h).E) fun D σ H ⟨F, M, env, N, rm, er, en, h⟩ => ?_
      exact enter rm er (en.cx er) h fun F1 M1 H1 v1 d1 s1 rm1 er1 cx1 r1 h => en.rt F1 M1 H1 v1 d1 s1 rm1 r1 h
    · cases h
  | .ife c s t, W, X, g, hN, hs, hf, po, fo, st, h => by
    unfold chkS at h; split at h
    · rw [Bool.and_eq_true, Bool.and_eq_true] at h
      refine PS.imp (ps_if (snd_E c g hN hs h.1.1).T (snd_L hot s g hN hs hf po fo h.1.2) (snd_L hot t g hN hs hf po fo h.2)) fun D σ H ⟨F, M, env, N, rm, er, en, h⟩ => ?_
      refine ⟨F, M, env, _, _, rm, er, fun F1 M1 H1 b s1 rm1 q => ?_, en.cx er, h⟩
      cases b with
      | true => rw [if_pos rfl]; exact ⟨F1, M1, env, N, rm1, er.mono s1, en.mono s1, q⟩
      | false => rw [if_neg Bool.false_ne_true]; exact ⟨F1, M1, env, N, rm1, er.mono s1, en.mono s1, q⟩
    · cases h
  | .loop c s, W, X, g, hN, hs, hf, po, fo, st, h => by
    unfold chkS at h; split at h
    · rw [Bool.and_eq_true] at h
      exact PS.imp (ps_while po (snd_E c g hN hs h.1).T (snd_L hot s g hN hs hf po fo h.2)) fun D σ H q => while_read q
    · cases h
  | .each tg w s, W, X, g, hN, hs, hf, po, fo, st, h => by
    unfold chkS at h; split at h
    · simp only [Bool.and_eq_true] at h
      obtain ⟨⟨⟨k1, k2⟩, k3⟩, k4⟩ := h
      exact PS.imp (ps_for po (g.calm hot) (snd_W w g hN hs k1) (snd_G (G := G) g.hK hN g.nd hs (g.calm hot) (fun y _ => by rw [hf]) tg k2) (snd_L hot s g hN hs hf po fo k3) (fold_ok k4)) fun D σ H q => for_read q
    · cases h
  | .pass, W, X, g, hN, hs, hf, po, fo, st, h => by
    unfold chkS at h; split at h
    · exact PS.imp ps_pass fun D σ H ⟨F, M, env, N, rm, er, en, h⟩ => en.nx F M H env σ (Same.refl _) rm er h
    · cases h
  | .brk, W, X, g, hN, hs, hf, po, fo, st, h => by
    unfold chkS at h; split at h
    · exact PS.imp ps_break fun D σ H ⟨F, M, env, N, rm, er, en, h⟩ => en.bk F M H env σ (Same.refl _) rm er h
    · cases h
  | .cnt, W, X, g, hN, hs, hf, po, fo, st, h => by
    unfold chkS at h; split at h
    · exact PS.imp ps_continue fun D σ H ⟨F, M, env, N, rm, er, en, h⟩ => en.ct F M H env σ (Same.refl _) rm er h
    · cases h
  | .never, W, X, g, hN, hs, hf, po, fo, st, h => PS.imp ps_never fun D σ H ⟨F, M, env, N, rm, er, en, h⟩ => h
  | .rse c f a, W, X, g, hN, hs, hf, po, fo, st, h => by
    unfold chkS at h; split at h
    · rename_i x p1 a' p2 p3
      simp only [Bool.and_eq_true] at h
      obtain ⟨⟨⟨⟨k1, k2⟩, k3⟩, k4⟩, k5⟩ := h
      have hc := any_mem k1
      have hr := any_mem k2
      obtain ⟨C, fI, fd, ps, c1, c2, c3, c4, c5, c6, c7, c8⟩ := (g.mkr c f x hr hc).ex
      obtain ⟨j1, j2⟩ := gl_of hs k3
      have P := L2.pmk_oex (CX := L2.CX0) (k := 1) (ds := []) (dvs := []) (p := p1) (pos := p2) c4 c5 c6 c8 ((g.room hot).mono (Nat.le_succ_of_le g.k2)) c7 .nil L2.pass0 j1 c2 (pa_cons ((snd_E a g hN hs k4).E) pa_nil (star_ok k5)) j2 (star_ok k5) rfl
      refine PS.imp (ps_raise (g.calm hot) g.tk P) fun D σ H ⟨F, M, env, N, rm, er, en, h⟩ => ?_
      refine enter rm er (en.cx er) h fun F1 M1 H1 v1 d1 s1 rm1 er1 cx1 r1 h => ?_
      refine ⟨(by decide : 1 ≤ 1000), fun p hp => ⟨p, v1, rfl, upd_same, fun dx n1 n2 => ⟨rfl, dx, [(f, v1)], upd_same, ?_, ?_, ?_⟩⟩⟩
      · rw [upd_ne n2, upd_same]
      · rw [upd_ne n2] at n1
        exact n1
      · rw [upd_ne n2] at n1
        rw [raise_heap n1 hp n2]
        refine en.ex (upd F1 dx (.xd [(f, v1)])) M1 _ env σ ⟨c, [(f, d1)]⟩ (.ref C) (some dx) (s1.trans (same_upd (rm1.freeF n1))) (rm1.frz n1) (er1.mono (same_upd (rm1.freeF n1))) ⟨C, c1, rfl, .inr ⟨dx, _, rfl, upd_same, .cons ⟨rfl, r1.mono (same_upd (rm1.freeF n1))⟩ .nil⟩⟩ h
    · cases h
  | .rsp c a, W, X, g, hN, hs, hf, po, fo, st, h => by
    unfold chkS at h; split at h
    · rename_i x p1 a' p2 p3
      simp only [Bool.and_eq_true] at h
      obtain ⟨⟨⟨⟨k1, k2⟩, k3⟩, k4⟩, k5⟩ := h
      have hc := any_mem k1
      have hr : c ∈ tb.xo := by
        obtain ⟨p, hp, e⟩ := List.any_eq_true.mp k2
        rw [← of_decide_eq_true e]
        exact hp
      obtain ⟨C, c1, c2, c3, c4, c5, c6⟩ := (g.own c x hr hc).ex
      obtain ⟨j1, j2⟩ := gl_of hs k3
      refine PS.imp (ps_raise (g.calm hot) g.tk (SkE.pmk_own1 PySem.F.excBase_ValueError c4 c2 c3 (raises_own c5 c6) j1 ((snd_E a g hN hs k4).E) (star_ok k5) j2)) fun D σ H ⟨F, M, env, N, rm, er, en, h⟩ => ?_
      refine enter rm er (en.cx er) h fun F1 M1 H1 v1 d1 s1 rm1 er1 cx1 r1 h => ?_
      exact en.ex F1 M1 H1 env σ ⟨c, []⟩ (.ref C) none s1 rm1 er1 ⟨C, c1, rfl, .inl ⟨rfl, rfl⟩⟩ h
    · cases h
  | .tri c i s t, W, X, g, hN, hs, hf, po, fo, st, h => by
    unfold chkS at h; split at h
    · rename_i body x np n b suite pos' pos
      simp only [Bool.and_eq_true] at h
      obtain ⟨⟨⟨⟨⟨k1, k2⟩, k3⟩, k4⟩, k5⟩, k6⟩ := h
      obtain ⟨D0, m1, m2⟩ := g.xt.nm _ (any_mem k1)
      obtain ⟨j1, j2⟩ := gl_of hs k2
      have hln : X.env.kindOf n = some .local := by
        show X.env.scope.names.lookup n = _
        rw [hs]
        exact of_decide_eq_true k4
      refine PS.imp (L2.ps_try_own (i := i) (tb := fun W => liftS G W (wpS R s)) (ts := liftS G (fun _ _ _ _ => False) (wpS R t)) fo.ex fo.st fo.fr g.nd (by rw [hN]; exact of_decide_eq_true k3) hln ⟨j1, j2, .inl m1⟩ g.tk
        (fun W' pn xe tk' po' => snd_L hot s (W := W') (X := X.tr pn xe) ⟨g.hK, g.nd, g.calm, g.room, g.un, g.hn, g.hb, tk', g.fns, g.glb, g.bnn, g.len, g.mon, g.k2, g.xt, g.mkr, g.own, g.ob⟩ hN hs hf po' ⟨fo.ex, fo.st, fo.fr⟩ k5)
        (fun a pn => PSs.imp (snd_U (g.cold a pn) hN hs hf t k6) fun D σ H ⟨F, M, env, N, rm, er, en, h⟩ => ⟨F, M, env, N, rm, er, en, h⟩)) fun D σ H ⟨F, M, env, N, rm, er, en, h⟩ => ?_
      refine ⟨F, M, env, _, rm, er, ?_, h⟩
      refine ⟨en.nx, en.rt, en.bk, en.ct, fun F1 M1 H1 env1 σ1 z cls dd s1 rm1 er1 rx q => ?_⟩
      obtain ⟨C, x1, rfl, x2⟩ := rx
      refine ⟨subX z.c c, (g.xt.sub z.c C c D0 x1 m2).2, fun hb a ha => ?_, fun hb => ?_⟩
      · dsimp only at q
        rw [hb] at q
        have nF := rm1.freeF ha
        have hob : RelOb G F1 (upd H1 a (L2.ExH (.ref C) dd a)) a (.ins z.c z.fs) := ⟨C, dd, x1, upd_same, x2⟩
        refine ⟨F1, M1.upd a (.ins z.c z.fs), setV env1 i (.loc a), _, rm1.new ha hob, er1.set .loc, ?_, q a (rm1.freeM ha)⟩
        have en1 := en.mono s1
        exact ⟨fun F2 M2 H2 e2 σ2 s2 rm2 er2 q => en1.nx F2 M2 H2 _ _ s2 rm2 (er2.wipe1 i) q, en1.rt, fun F2 M2 H2 e2 σ2 s2 rm2 er2 q => en1.bk F2 M2 H2 _ _ s2 rm2 (er2.wipe1 i) q, fun F2 M2 H2 e2 σ2 s2 rm2 er2 q => en1.ct F2 M2 H2 _ _ s2 rm2 (er2.wipe1 i) q, fun F2 M2 H2 e2 σ2 z c dd s2 rm2 er2 rx q => q.elim⟩
      · dsimp only at q
        rw [hb] at q
        exact en.ex F1 M1 H1 env1 σ1 z _ dd s1 rm1 er1 ⟨C, x1, rfl, x2⟩ q
    · cases h
  | .trn c s t, W, X, g, hN, hs, hf, po, fo, st, h => by
    unfold chkS at h; split at h
    · rename_i body x np b suite pos' pos
      simp only [Bool.and_eq_true] at h
      obtain ⟨⟨⟨k1, k2⟩, k5⟩, k6⟩ := h
      obtain ⟨D0, m1, m2⟩ := g.xt.nm _ (any_mem k1)
      obtain ⟨j1, j2⟩ := gl_of hs k2
      refine PS.imp (L2.ps_try_only (tb := fun W => liftS G W (wpS R s)) (ts := fun _ _ _ => liftS G (fun _ _ _ _ => False) (wpS R t)) fo.st fo.fr ⟨j1, j2, .inl m1⟩ g.tk
        (fun W' pn xe tk' po' => snd_L hot s (W := W') (X := X.tr pn xe) ⟨g.hK, g.nd, g.calm, g.room, g.un, g.hn, g.hb, tk', g.fns, g.glb, g.bnn, g.len, g.mon, g.k2, g.xt, g.mkr, g.own, g.ob⟩ hN hs hf po' ⟨fo.ex, fo.st, fo.fr⟩ k5)
        (fun a oe cls d pn _ _ => snd_U (g.cold a ((a, oe) :: pn)) hN hs hf t k6)) fun D σ H ⟨F, M, env, N, rm, er, en, h⟩ => ?_
      refine ⟨F, M, env, _, rm, er, ?_, h⟩
      refine ⟨en.nx, en.rt, en.bk, en.ct, fun F1 M1 H1 env1 σ1 z cls dd s1 rm1 er1 rx q => ?_⟩
      obtain ⟨C, x1, rfl, x2⟩ := rx
      refine ⟨subX z.c c, (g.xt.sub z.c C c D0 x1 m2).2, fun hb a ha => ?_, fun hb => ?_⟩
      · dsimp only at q
        rw [hb] at q
        have en1 := en.mono s1
        exact ⟨F1, M1, env1, ⟨N.nx, N.rt, N.bk, N.ct, fun _ _ _ => False⟩, rm1, er1, ⟨en1.nx, en1.rt, en1.bk, en1.ct, fun F2 M2 H2 e2 σ2 z c dd s2 rm2 er2 rx q => q.elim⟩, q⟩
      · dsimp only at q
        rw [hb] at q
        exact en.ex F1 M1 H1 env1 σ1 z _ dd s1 rm1 er1 ⟨C, x1, rfl, x2⟩ q
    · cases h
  | .sfl o f e, W, X, g, hN, hs, hf, po, fo, st, h => by
    unfold chkS at h; split at h
    · simp only [Bool.and_eq_true] at h
      obtain ⟨⟨⟨k1, k2⟩, k3⟩, k4⟩ := h
      have e1 := of_decide_eq_true k1
      subst e1
      exact PS.imp (ps_fld ((snd_E o g hN hs k2).E) ((snd_E e g hN hs k3).E) noswA) fun D σ H q => sfl_read g k4 q
    · cases h
  | .fau o f op e, W, X, g, hN, hs, hf, po, fo, st, h => by
    unfold chkS at h; split at h
    · simp only [Bool.and_eq_true] at h
      obtain ⟨⟨⟨⟨⟨k1, k2⟩, k3⟩, k4⟩, k5⟩, k6⟩ := h
      have e1 := of_decide_eq_true k1
      have e2 := of_decide_eq_true k2
      subst e1 e2
      refine PS.imp (ps_fldaug ((snd_E o g hN hs k3).E) ((snd_E e g hN hs k4).E) (inop_of (G := G) k5)) fun D σ H ⟨F, M, env, N, rm, er, en, h⟩ => ?_
      refine enter rm er (en.cx er) h fun F1 M1 H1 v1 d1 s1 rm1 er1 cx1 r1 h => ?_
      unfold fldW at h
      split at h
      · rename_i p
        split at h
        · rename_i c fs q1
          split at h
          · rename_i d q2
            cases r1
            obtain ⟨nf, C, dx, fvs, h1, h2, h3⟩ := rm1.mt p _ q1
            obtain ⟨v, w1, w2⟩ := fvs_look h3 q2
            obtain ⟨c1, c2⟩ := g.ob.cls c C h1
            refine ⟨p, C, dx, fvs, v, rfl, h2, c1, c2 f (of_mem k6), w1, ?_⟩
            refine enter rm1 er1 cx1 h fun F2 M2 H2 v2 d2 s2 rm2 er2 cx2 r2 h => ?_
            refine ⟨F2, M2, d, d2, _, rm2, w2.mono s2, r2, fun F3 M3 H3 v3 d3 s3 rm3 r3 h => ?_, h⟩
            obtain ⟨hc, h⟩ := h
            obtain ⟨a, C', dx', fs', z1, z2, z3, z4, z5, ⟨c3, y1, y2⟩, M', rm', h⟩ := put_fld g (of_mem k6) rm3 (.loc (a := p)) r3 h
            cases z1
            have hC : C' = C := by
              have z : clsW (.loc p) M1 = some c := by dsimp only [clsW]; rw [q1]
              rw [y1, z] at hc
              cases hc
              rw [h1] at y2
              cases y2
              rfl
            subst hC
            exact ⟨dx', fs', z2, z5, en.nx F3 M' _ env σ (s1.trans (s2.trans s3)) rm' (er2.mono s3) h⟩
          · exact h.elim
        · exact h.elim
      · exact h.elim
    · cases h
  | .dau o i op e, W, X, g, hN, hs, hf, po, fo, st, h => by
    unfold chkS at h; split at h
    · simp only [Bool.and_eq_true] at h
      obtain ⟨⟨⟨⟨⟨k1, k2⟩, k3⟩, k4⟩, k5⟩, k6⟩ := h
      have e1 := of_decide_eq_true k1
      subst e1
      have hu : X.A.units + 1 < cLine := by have := g.un; omega
      refine PS.imp (ps_daug hu ((snd_E o g hN hs k2).E) ((snd_E i g hN hs k3).E) ((snd_E e g hN hs k5).E) (inop_of (G := G) k6) (aug_ok k4)) fun D σ H ⟨F, M, env, N, rm, er, en, h⟩ => ?_
      refine enter rm er (en.cx er) h fun F1 M1 H1 v1 d1 s1 rm1 er1 cx1 r1 h => enter rm1 er1 cx1 h fun F2 M2 H2 v2 d2 s2 rm2 er2 cx2 r2 h => ?_
      obtain ⟨a, v, w, rfl, j1, w2, h⟩ := dget_inv rm2 (r1.mono s2) r2 h
      refine ⟨a, w, rfl, j1, ?_⟩
      refine enter rm2 er2 cx2 h fun F3 M3 H3 v3 d3 s3 rm3 er3 cx3 r3 h => ?_
      refine ⟨F3, M3, v, d3, _, rm3, w2.mono s3, r3, fun F4 M4 H4 v4 d4 s4 rm4 r4 h => ?_, h⟩
      obtain ⟨a', o', ob', z1, -, j2, rm', h⟩ := dput_inv rm4 (r1.mono (s2.trans (s3.trans s4))) (r2.mono (s3.trans s4)) r4 h
      cases z1
      exact ⟨_, j2, en.nx F4 _ _ env σ (s1.trans (s2.trans (s3.trans s4))) rm' (er3.mono s4) h⟩
    · cases h
  | .asu ts e, W, X, g, hN, hs, hf, po, fo, st, h => by
    unfold chkS at h; split at h
    · rename_i tgs kk tp e' pos
      simp only [Bool.and_eq_true] at h
      obtain ⟨⟨k1, k2⟩, k3⟩ := h
      obtain ⟨l1, l2⟩ := ts_len k1 X.env
      refine PS.imp (ps_asg ((snd_E e g hN hs k2).E) (pg_tup (g.calm hot) (snd_Ts g hN hs hf k1) l1 l2) noswT (noswap (by unfold noSwapT; exact k3)) rfl) fun D σ H ⟨F, M, env, N, rm, er, en, h⟩ => ?_
      refine enter rm er (en.cx er) h fun F1 M1 H1 v1 d1 s1 rm1 er1 cx1 r1 h => ?_
      revert h
      split
      · rename_i ds
        intro h
        obtain ⟨p, vs, rfl, g1, g2⟩ := rd_T rm1 r1
        have hl : vs.length = tgs.length := by rw [g2.len, ← ts_num k1]; exact h.1.symm
        refine ⟨p, vs, rfl, by rw [g.hK]; exact g1, hl, F1, M1, env, ds, N.nx, N.ex, rm1, er1, g2, h.2, fun F2 M2 H2 e2 σ2 s2 => en.nx F2 M2 H2 e2 σ2 (s1.trans s2), fun F2 M2 H2 e2 σ2 z c dd s2 => en.ex F2 M2 H2 e2 σ2 z c dd (s1.trans s2)⟩
      · exact fun h => h.elim
    · cases h
  | .rsb c es, W, X, g, hN, hs, hf, po, fo, st, h => by
    unfold chkS at h; split at h
    · rename_i x p1 a' es' p2 p3
      simp only [Bool.and_eq_true] at h
      obtain ⟨⟨⟨⟨k1, k2⟩, k3⟩, k4⟩, k5⟩ := h
      have hc := any_mem k1
      have hr : c ∈ tb.xb := by
        obtain ⟨p, hp, e⟩ := List.any_eq_true.mp k2
        rw [← of_decide_eq_true e]
        exact hp
      obtain ⟨C, fI, fd, ps, c1, c2, c3, c4, c5, c6, c7, c8, c9⟩ := (g.ob.xbs c x hr hc).ex
      obtain ⟨j1, j2⟩ := gl_of hs k3
      obtain ⟨t1, t2⟩ := tr_head (env := X.env) (pos := p2) k4
      have room : Room (1 + 1) X.A := (g.room hot).mono (Nat.le_succ_of_le g.k2)
      have fin : ∀ {F : Hp} {M : Mem} {env : Env} {N : Wp.Ends} {σ : L2.St} {D : L2.Ends} {F1 : Hp} {M1 : Mem} {H1 : Hp} {v1 y1 : V} {d1 e1 : Wp.D}, EndsR G W F N D → Same F F1 → RM G F1 M1 H1 → EnvR G F1 env σ → RelD G F1 v1 d1 → RelD G F1 y1 e1 → N.ex ⟨c, [("side", e1), ("at", d1)]⟩ env M1 →
          ∀ p, H1 p = none → spB C [.ref p, v1, y1] (upd H1 p (L2.exo p C none)) (fun v H2 => v = .non ∧ ∃ (d : Addr) (fs : List (Str × V)), H2 p = some (L2.exo p C (some d)) ∧ H2 d = some (L2.exd d fs) ∧ H1 d = none ∧ W (.ref C) (some d) σ (upd (L2.del H2 p) d (.xd fs))) (fun _ _ _ => False) := fun {F M env N σ D F1 M1 H1 v1 y1 d1 e1} en s1 rm1 er1 r1 r2 h p hp => by
        refine ⟨p, v1, y1, rfl, upd_same, fun dx n1 n2 => ⟨rfl, dx, [("side", y1), ("at", v1)], ?_, upd_same, ?_, ?_⟩⟩
        · rw [upd_ne (Ne.symm n2), upd_same]
        · rw [upd_ne n2] at n1
          exact n1
        · rw [upd_ne n2] at n1
          rw [raise_heap2 hp n2]
          have s2 := same_upd (o := .xd [(("side" : Str), y1), (("at" : Str), v1)]) (rm1.freeF n1)
          exact en.ex _ M1 _ env σ ⟨c, [("side", e1), ("at", d1)]⟩ (.ref C) (some dx) (s1.trans s2) (rm1.frz n1) (er1.mono s2) ⟨C, c1, rfl, .inr ⟨dx, _, rfl, upd_same, .cons ⟨rfl, r2.mono s2⟩ (.cons ⟨rfl, r1.mono s2⟩ .nil)⟩⟩ h
      obtain ⟨x1, xs, rfl, w1, w2, w3⟩ := chkA_cons k4
      cases es' with
      | nil =>
        cases chkA_nil w3
        have P := L2.pmk_oex (CX := L2.CX0) (k := 1) (ds := [.none]) (dvs := [.non]) (p := p1) (pos := p2) c4 c5 c6 c9 room c8 (.cons rfl .nil) L2.pass0 j1 c2 (snd_A (.cons x1 .nil) g hN hs k4) j2 t1 t2
        refine PS.imp (ps_raise (g.calm hot) g.tk P) fun D σ H ⟨F, M, env, N, rm, er, en, h⟩ => ?_
        have h' : wpA R (.cons x1 .nil) env M (fun ds M1 => ∃ d, ds = [d] ∧ N.ex ⟨c, [("side", .non), ("at", d)]⟩ env M1) (fun z M => N.ex z env M) := (mon R R g.mon x1).E (fun d M1 h => ⟨d, rfl, h⟩) (fun _ _ h => h) h
        refine enterA rm er (en.cx er) h' fun F1 M1 H1 vs ds s1 rm1 er1 cx1 rs ⟨d, ed, h⟩ => ?_
        subst ed
        obtain ⟨v, rfl, r⟩ := relds1 rs
        exact ⟨(by decide : 1 ≤ 1000), fin (M := M) en s1 rm1 er1 r .non h⟩
      | cons b' es' =>
        obtain ⟨x2, xs2, rfl, u1, u2, u3⟩ := chkA_cons w3
        cases es' with
        | cons _ _ => exact absurd (of_decide_eq_true k5) (by simp)
        | nil =>
          cases chkA_nil u3
          have P := L2.pmk_oex (CX := L2.CX0) (k := 1) (ds := []) (dvs := []) (p := p1) (pos := p2) c4 c5 c6 c9 room c7 .nil L2.pass0 j1 c2 (snd_A (.cons x1 (.cons x2 .nil)) g hN hs k4) j2 t1 t2
          refine PS.imp (ps_raise (g.calm hot) g.tk P) fun D σ H ⟨F, M, env, N, rm, er, en, h⟩ => ?_
          have h' : wpA R (.cons x1 (.cons x2 .nil)) env M (fun ds M1 => ∃ d e, ds = [d, e] ∧ N.ex ⟨c, [("side", e), ("at", d)]⟩ env M1) (fun z M => N.ex z env M) :=
            (mon R R g.mon x1).E (fun d M1 h => (mon R R g.mon x2).E (fun e M2 h => ⟨d, e, rfl, h⟩) (fun _ _ h => h) h) (fun _ _ h => h) h
          refine enterA rm er (en.cx er) h' fun F1 M1 H1 vs ds s1 rm1 er1 cx1 rs ⟨d, e, ed, h⟩ => ?_
          subst ed
          obtain ⟨v, w, rfl, r, r2⟩ := relds2 rs
          exact ⟨(by decide : 2 ≤ 1000), fin (M := M) en s1 rm1 er1 r r2 h⟩
    · cases h
  | .tr2 c i t d j u s, W, X, g, hN, hs, hf, po, fo, st, h => by
    unfold chkS at h; split at h
    · rename_i body h1 h2 pos
      simp only [Bool.and_eq_true] at h
      obtain ⟨⟨k1, k2⟩, k3⟩ := h
      obtain ⟨C1, m1, n1⟩ := hd_ok g hN hs hf k2
      obtain ⟨C2, m2, n2⟩ := hd_ok g hN hs hf k3
      refine PS.imp (L2.ps_try_hds (tb := fun W => liftS G W (wpS R s)) fo.ex fo.st fo.fr g.nd g.tk
        (fun W' pn xe tk' po' => snd_L hot s (W := W') (X := X.tr pn xe) ⟨g.hK, g.nd, g.calm, g.room, g.un, g.hn, g.hb, tk', g.fns, g.glb, g.bnn, g.len, g.mon, g.k2, g.xt, g.mkr, g.own, g.ob⟩ hN hs hf po' ⟨fo.ex, fo.st, fo.fr⟩ k1)
        (n1 (n2 .nil))) fun D σ H ⟨F, M, env, N, rm, er, en, h⟩ => ?_
      refine ⟨F, M, env, _, rm, er, ?_, h⟩
      refine ⟨en.nx, en.rt, en.bk, en.ct, fun F1 M1 H1 env1 σ1 z cls dd s1 rm1 er1 rx q => ?_⟩
      have rx0 := rx
      obtain ⟨C, x1, rfl, x2⟩ := rx
      refine ⟨subX z.c c, (g.xt.sub z.c C c C1 x1 m1).2, fun hb => ?_, fun hb => ⟨subX z.c d, (g.xt.sub z.c C d C2 x1 m2).2, fun hb2 => ?_, fun hb2 => ?_⟩⟩
      · dsimp only at q
        rw [hb] at q
        exact cl_read (R := R) rm1 er1 (en.mono s1) rx0 q
      · dsimp only at q
        rw [hb] at q
        dsimp only at q
        rw [hb2] at q
        exact cl_read (R := R) rm1 er1 (en.mono s1) rx0 q
      · dsimp only at q
        rw [hb] at q
        dsimp only at q
        rw [hb2] at q
        exact en.ex F1 M1 H1 env1 σ1 z _ dd s1 rm1 er1 rx0 q
    · cases h
  | .nil, W, X, g, hN, hs, hf, po, fo, st, h => by cases h
  | .seq _ _, W, X, g, hN, hs, hf, po, fo, st, h => by cases h
  | .frz _, W, X, g, hN, hs, hf, po, fo, st, h => by cases h
  | .frd _, W, X, g, hN, hs, hf, po, fo, st, h => by cases h
theorem pss_lock {X : Cx} {sts : List Stmt} {t : TS} (h : PSs X sts t) : PSs X sts fun D σ H => ∃ d u, H d = some u ∧ Mut (some u) ∧ ∀ od, t D σ (upd H d (.frz od u)) := by
  refine ⟨fun pins s σ H D I hw => ?_⟩
  obtain ⟨d, u, hd, mu, hw⟩ := hw
  obtain ⟨od, I1⟩ := I.lock hd mu
  exact h.run pins s σ _ _ I1 (hw od)
theorem snd_L (hot : tb.hot = true) : ∀ (s : Sx) {W : WX} {X : Cx}, Good G tb R k W X → X.N = N → X.env.scope = sc → X.fn = (fun _ => true) → PassesOwn (model X.prog X.w) X.A X.env X.xe → FrOk X → ∀ {sts : List Stmt}, chkL tb N sc s sts = true → PSs X sts (liftS G W (wpS R s))
  | .nil, W, X, g, hN, hs, hf, po, fo, sts, h => by
    unfold chkL at h; split at h
    · exact PSs.imp pss_nil fun D σ H ⟨F, M, env, N, rm, er, en, h⟩ => en.nx F M H env σ (Same.refl _) rm er h
    · cases h
  | .seq s t, W, X, g, hN, hs, hf, po, fo, sts, h => by
    unfold chkL at h
    split at h
    · rename_i i
      refine PSs.imp (snd_L hot t g hN hs hf po fo h) fun D σ H ⟨F, M, env, N, rm, er, en, h⟩ => ?_
      dsimp only [wpS] at h
      split at h
      · rename_i a e1
        split at h
        · rename_i ds e2
          obtain ⟨vs, f1, f2, f3, f4⟩ := rm.freeze e2
          have s1 := same_upd (o := .lst vs) f1
          refine ⟨_, _, _, N, f4, ?_, en.mono s1, h⟩
          obtain ⟨v, v1, v2⟩ := er.at_ i _ e1
          cases v2
          refine ⟨by unfold setV; rw [List.length_set]; exact er.len, fun j d hj => ?_⟩
          unfold setV at hj
          rw [vals_set] at hj
          by_cases hc : i = j ∧ i < env.length
          · rw [if_pos hc] at hj
            cases hj
            rw [← hc.1]
            exact ⟨_, v1, .lst upd_same (f3.mono s1)⟩
          · rw [if_neg hc] at hj
            obtain ⟨w, w1, w2⟩ := er.at_ j d hj
            exact ⟨w, w1, w2.mono s1⟩
        · exact h.elim
      · exact h.elim
    · rename_i i
      refine PSs.imp (pss_lock (snd_L hot t g hN hs hf po fo h)) fun D σ H ⟨F, M, env, N, rm, er, en, h⟩ => ?_
      dsimp only [wpS] at h
      split at h
      · rename_i a e1
        split at h
        · rename_i kvs e2
          obtain ⟨vks, f1, f2, f3⟩ := rm.freezeD e2
          refine ⟨a, _, f2, trivial, fun od => ?_⟩
          have s1 := same_upd (o := .frz od (.dK vks)) f1
          exact ⟨_, _, _, N, f3 od, er.mono s1, en.mono s1, h⟩
        · exact h.elim
      · exact h.elim
    · split at h
      · rw [Bool.and_eq_true] at h
        refine PSs.imp (pss_cons (snd_S hot _ g hN hs hf po fo h.1) (snd_L hot t g hN hs hf po fo h.2)) fun D σ H ⟨F, M, env, N, rm, er, en, h⟩ => ?_
        refine ⟨F, M, env, _, rm, er, ?_, h⟩
        exact ⟨fun F1 M1 H1 e1 σ1 s1 rm1 er1 q => ⟨F1, M1, e1, N, rm1, er1, en.mono s1, q⟩, en.rt, en.bk, en.ct, en.ex⟩
      · cases h
  | .asg _ _, W, X, g, hN, hs, hf, po, fo, sts, h => by cases h
  | .sub _ _ _, W, X, g, hN, hs, hf, po, fo, sts, h => by cases h
  | .dput _ _ _, W, X, g, hN, hs, hf, po, fo, sts, h => by cases h
  | .sas _ _ _ _, W, X, g, hN, hs, hf, po, fo, sts, h => by cases h
  | .aug _ _ _, W, X, g, hN, hs, hf, po, fo, sts, h => by cases h
  | .drop _, W, X, g, hN, hs, hf, po, fo, sts, h => by cases h
  | .ret _, W, X, g, hN, hs, hf, po, fo, sts, h => by cases h
  | .ife _ _ _, W, X, g, hN, hs, hf, po, fo, sts, h => by cases h
  | .loop _ _, W, X, g, hN, hs, hf, po, fo, sts, h => by cases h
  | .each _ _ _, W, X, g, hN, hs, hf, po, fo, sts, h => by cases h
  | .pass, W, X, g, hN, hs, hf, po, fo, sts, h => by cases h
  | .brk, W, X, g, hN, hs, hf, po, fo, sts, h => by cases h
  | .cnt, W, X, g, hN, hs, hf, po, fo, sts, h => by cases h
  | .never, W, X, g, hN, hs, hf, po, fo, sts, h => by cases h
  | .frz _, W, X, g, hN, hs, hf, po, fo, sts, h => by cases h
  | .frd _, W, X, g, hN, hs, hf, po, fo, sts, h => by cases h
  | .rse _ _ _, W, X, g, hN, hs, hf, po, fo, sts, h => by cases h
  | .rsp _ _, W, X, g, hN, hs, hf, po, fo, sts, h => by cases h
  | .tri _ _ _ _, W, X, g, hN, hs, hf, po, fo, sts, h => by cases h
  | .trn _ _ _, W, X, g, hN, hs, hf, po, fo, sts, h => by cases h
  | .sfl _ _ _, W, X, g, hN, hs, hf, po, fo, sts, h => by cases h
  | .fau _ _ _ _, W, X, g, hN, hs, hf, po, fo, sts, h => by cases h
  | .dau _ _ _ _, W, X, g, hN, hs, hf, po, fo, sts, h => by cases h
  | .asu _ _, W, X, g, hN, hs, hf, po, fo, sts, h => by cases h
  | .rsb _ _, W, X, g, hN, hs, hf, po, fo, sts, h => by cases h
  | .tr2 _ _ _ _ _ _ _, W, X, g, hN, hs, hf, po, fo, sts, h => by cases h
end
end
end Wp

/-! WpS12: the defs of a table keep what the trees tell. -/
namespace Wp
open PySem PySem.Spec PyProof.Rows L2
mutual
theorem rep_ok {G : Gx} {F : Hp} {a : Addr} {vs : List V} {ds : List D} (nF : F a = none) (rs : RelDs G F vs ds) : ∀ {d : D} {v : V}, RelD G F v d → RelD G (upd F a (.lst vs)) v (repD a ds d)
  | .non, _, h => by cases h; exact .non
  | .bl b, _, h => by cases h; exact .bl b
  | .int b, _, h => by cases h; exact .int b
  | .str b, _, h => by cases h; exact .str b
  | .tup xs, _, h => by
    cases h with
    | tup h1 h2 => exact .tup (h1.mono (same_upd nF)) (reps_ok nF rs h2)
  | .lst xs, _, h => by
    cases h with
    | lst h1 h2 => exact .lst (same_upd nF _ _ h1) (reps_ok nF rs h2)
  | .scr ns, _, h => by
    cases h with
    | scr h1 => exact .scr ((same_upd nF).seq h1)
  | .emp, _, h => by
    cases h with
    | emp h1 => exact .emp (same_upd nF _ _ h1)
  | .loc b, _, h => by
    cases h
    unfold repD
    by_cases e : b = a
    · rw [if_pos e, e]
      exact .lst upd_same (rs.mono (same_upd nF))
    · rw [if_neg e]
      exact .loc
theorem reps_ok {G : Gx} {F : Hp} {a : Addr} {vs : List V} {ds : List D} (nF : F a = none) (rs : RelDs G F vs ds) : ∀ {xs : List D} {us : List V}, RelDs G F us xs → RelDs G (upd F a (.lst vs)) us (repDs a ds xs)
  | [], _, h => by cases h; exact .nil
  | x :: xs, _, h => by
    cases h with
    | cons h1 h2 => exact .cons (rep_ok nF rs h1) (reps_ok nF rs h2)
end
theorem frz_ok {G : Gx} {q : QK} {Q : VK} {v : V} {H : Hp} {d : D} {M : Mem} (h : Frz d M q) : ∀ {F : Hp}, RM G F M H → RelD G F v d → Cn G F q Q → Q v H := by
  induction h with
  | done h => exact fun rm r cn => cn_here rm cn r h
  | step e _ ih =>
    intro F rm r cn
    obtain ⟨vs, nF, h1, h2, rm2⟩ := rm.freeze e
    have s := same_upd (o := .lst vs) nF
    exact ih rm2 (rep_ok nF h2 r) (cn.mono s)

/-- a def of the text that is in the table -/
structure DefOk (K : PySem.W.Frag) (mg : Str → Option Value) (tb : Tb) (T : Nat → Option Fn) (f : Nat) (x : Str) : Prop where
  ex : ∃ (fn : Fn) (ad : Addr) (fd : FuncData) (N ps : List Str) (params : Arguments) (body : List Stmt) (scope : Scope) (nm ql : Str), T f = some fn ∧ mg x = some (.ref ad) ∧ FunD K nm ql params body scope [] [] ad fd ∧ Binds K fd ps [] ∧ FnScope N ps scope ∧
    ps.length = tb.ar f ∧ fn.np = tb.ar f ∧ N.length = fn.ns ∧ chkL tb N scope fn.body body = true
/-- __init__(self, v): self.f = v -/
def iniB (N : List Str) (sc : Scope) (f : Str) : List Stmt → Bool
  | [.Assign [.Attribute (.Name s _) g _] (.Name v _) _] => decide (g = f) && decide (N[0]? = some s) && decide (N[1]? = some v) && visB sc s && visB sc v && okB s && okB v
  | _ => false
structure IniOk (K : PySem.W.Frag) (mg : Str → Option Value) (cl : Nat → Option Addr) (c : Nat) (x f : Str) : Prop where
  ex : ∃ (C fI : Addr) (fd : FuncData) (N ps : List Str) (params : Arguments) (body : List Stmt) (scope : Scope) (nm ql : Str), cl c = some C ∧ mg x = some (.ref C) ∧ PySem.W.keepIn K (.ref C) = true ∧ L2.OexC K C ∧ PySem.W.findIn K (.ref C) "__init__" = some (some (.ref fI)) ∧
    PySem.W.typeIn K (.ref fI) = some (.type "function") ∧ FunD K nm ql params body scope [] [] fI fd ∧ Binds K fd ps [] ∧ FnScope N ps scope ∧ ps.length = 2 ∧ PySem.W.findIn K (.ref C) f = some none ∧ iniB N scope f body = true
theorem ini_ok {P : Program} {w : World} {K : PySem.W.Frag} {mg : Str → Option Value} {base : Heap} {cl : Nat → Option Addr} {c : Nat} {x f : Str} (h : IniOk K mg cl c x f) : XMk P w K mg base cl c x f := by
  obtain ⟨C, fI, fd, N, ps, params, body, scope, nm, ql, h1, h2, h3, h4, h5, h6, FD, hb, S, hp, hno, hc⟩ := h.ex
  refine ⟨C, fI, fd, ps, h1, h2, h3, h4, h5, h6, hb, FD.ok S (fun vs H Q E ⟨a, v, e, _⟩ => by rw [e, hp]; rfl) fun cdv A outer s H vs Q E hr ⟨a, v, e, ha, k⟩ => ?_⟩
  unfold iniB at hc
  split at hc
  · rename_i sn p1 g p2 vn p3 pos
    simp only [Bool.and_eq_true] at hc
    obtain ⟨⟨⟨⟨⟨⟨c1, c2⟩, c3⟩, c4⟩, c5⟩, c6⟩, c7⟩ := hc
    have e1 := of_decide_eq_true c1
    subst e1 e
    obtain ⟨o1, o2⟩ := ok_of c6
    obtain ⟨o3, o4⟩ := ok_of c7
    refine ⟨_, pss_cons (L2.ps_ost (pe_var (i := 0) (of_decide_eq_true c2) (vis_of c4) o1 o2) (pe_var (i := 1) (of_decide_eq_true c3) (vis_of c5) o3 o4) rfl) pss_nil, ?_⟩
    refine ⟨v, rfl, .ref a, rfl, a, C, rfl, h4, hno, .inl ⟨ha, fun dx n1 n2 => ?_⟩⟩
    exact k dx n1 n2
  · cases hc
/-- __init__(self, v, y): self.at = v; self.side = y -/
def iniBB (N : List Str) (sc : Scope) : List Stmt → Bool
  | [.Assign [.Attribute (.Name s _) g _] (.Name v _) _, .Assign [.Attribute (.Name s2 _) g2 _] (.Name y _) _] => decide (g = "at") && decide (g2 = "side") && decide (N[0]? = some s) && decide (N[0]? = some s2) && decide (N[1]? = some v) && decide (N[2]? = some y) && visB sc s && visB sc v && visB sc s2 && visB sc y && okB s && okB v && okB s2 && okB y
  | _ => false
structure IniB (K : PySem.W.Frag) (mg : Str → Option Value) (cl : Nat → Option Addr) (c : Nat) (x : Str) : Prop where
  ex : ∃ (C fI : Addr) (fd : FuncData) (N ps : List Str) (params : Arguments) (body : List Stmt) (scope : Scope) (nm ql : Str) (dvs : List V), cl c = some C ∧ mg x = some (.ref C) ∧ PySem.W.keepIn K (.ref C) = true ∧ L2.OexC K C ∧ PySem.W.findIn K (.ref C) "__init__" = some (some (.ref fI)) ∧
    PySem.W.typeIn K (.ref fI) = some (.type "function") ∧ FunD K nm ql params body scope dvs [] fI fd ∧ Binds K fd ps [] ∧ Binds K fd ps [.none] ∧ FnScope N ps scope ∧ ps.length = 3 ∧ PySem.W.findIn K (.ref C) "at" = some none ∧ PySem.W.findIn K (.ref C) "side" = some none ∧ iniBB N scope body = true
theorem inib_ok {P : Program} {w : World} {K : PySem.W.Frag} {mg : Str → Option Value} {base : Heap} {cl : Nat → Option Addr} {c : Nat} {x : Str} (h : IniB K mg cl c x) : XMb P w K mg base cl c x := by
  obtain ⟨C, fI, fd, N, ps, params, body, scope, nm, ql, dvs, h1, h2, h3, h4, h5, h6, FD, hb, hb2, S, hp, hn1, hn2, hc⟩ := h.ex
  refine ⟨C, fI, fd, ps, h1, h2, h3, h4, h5, h6, hb, hb2, FD.ok S (fun vs H Q E ⟨a, v, y, e, _⟩ => by rw [e, hp]; rfl) fun cdv A outer s H vs Q E hr ⟨a, v, y, e, ha, k⟩ => ?_⟩
  unfold iniBB at hc
  split at hc
  · rename_i sn p1 g p2 vn p3 pos sn2 p4 g2 p5 yn p6 pos2
    simp only [Bool.and_eq_true] at hc
    obtain ⟨⟨⟨⟨⟨⟨⟨⟨⟨⟨⟨⟨⟨c1, c2⟩, c3⟩, c4⟩, c5⟩, c6⟩, c7⟩, c8⟩, c9⟩, d1⟩, d2⟩, d3⟩, d4⟩, d5⟩ := hc
    have e1 := of_decide_eq_true c1
    have e2 := of_decide_eq_true c2
    subst e1 e2 e
    obtain ⟨o1, o2⟩ := ok_of d2
    obtain ⟨o3, o4⟩ := ok_of d3
    obtain ⟨o5, o6⟩ := ok_of d4
    obtain ⟨o7, o8⟩ := ok_of d5
    refine ⟨_, pss_cons (L2.ps_ost (pe_var (i := 0) (of_decide_eq_true c3) (vis_of c7) o1 o2) (pe_var (i := 1) (of_decide_eq_true c5) (vis_of c8) o3 o4) rfl)
      (pss_cons (L2.ps_ost (pe_var (i := 0) (of_decide_eq_true c4) (vis_of c9) o5 o6) (pe_var (i := 2) (of_decide_eq_true c6) (vis_of d1) o7 o8) rfl) pss_nil), ?_⟩
    refine ⟨v, rfl, .ref a, rfl, a, C, rfl, h4, hn1, .inl ⟨ha, fun dx n1 n2 => ?_⟩⟩
    refine ⟨y, rfl, .ref a, rfl, a, C, rfl, h4, hn2, .inr ⟨dx, [("at", v)], upd_same, by rw [upd_ne n2, upd_same], Nat.le_of_ble_eq_true rfl, ?_⟩⟩
    exact k dx n1 n2
  · cases hc
/-- a method of the text that is in the table -/
structure MethOk (K : PySem.W.Frag) (co : Nat → Option Addr) (tb : Tb) (T : Nat → Option Fn) (f c : Nat) (m : Str) : Prop where
  ex : ∃ (fn : Fn) (C ad : Addr) (fd : FuncData) (N ps : List Str) (params : Arguments) (body : List Stmt) (scope : Scope) (nm ql : Str), T f = some fn ∧ co c = some C ∧ Meth K C m ad ∧ FunD K nm ql params body scope [] [] ad fd ∧ Binds K fd ps [] ∧ FnScope N ps scope ∧
    ps.length = tb.ar f ∧ fn.np = tb.ar f ∧ N.length = fn.ns ∧ chkL tb N scope fn.body body = true
/-- the table and the text -/
structure Prg (K : PySem.W.Frag) (mg : Str → Option Value) (tb : Tb) (T : Nat → Option Fn) (cl co : Nat → Option Addr) : Prop where
  defs : ∀ f x, tb.nm f = some x → DefOk K mg tb T f x
  cons : ∀ p ∈ tb.cs, ∃ v u, mg p.1 = some u ∧ RelV v u ∧ ∀ (G : Gx) (F : Hp), G.K = K → RelD G F v p.2
  blts : ∀ x ∈ tb.bn, mg x = none
  xt : XTab K mg cl tb.xc
  mkr : ∀ c f x, (c, f) ∈ tb.xr → (c, x) ∈ tb.xc → IniOk K mg cl c x f
  own : ∀ c x, c ∈ tb.xo → (c, x) ∈ tb.xc → XOwn K mg cl c x
  hot : tb.hot = true
  mts : ∀ f c m, tb.me f = some (c, m) → MethOk K co tb T f c m
  cls : ∀ c C, co c = some C → Cls K C ∧ ∀ f ∈ tb.of, NoAttr K C f
  mks : ∀ c x, (c, x) ∈ tb.oc → ∃ C, co c = some C ∧ mg x = some (.ref C) ∧ PySem.W.makesIn K C = true ∧ PySem.W.keepIn K (.ref C) = true
  xbs : ∀ c x, c ∈ tb.xb → (c, x) ∈ tb.xc → IniB K mg cl c x
theorem xt_no {K : PySem.W.Frag} {mg : Str → Option Value} : XTab K mg (fun _ => none) [] :=
  ⟨fun p hp => (by cases hp), fun c C h => (by cases h), fun c C h => (by cases h), fun c C d D h => (by cases h), fun c C f h => (by cases h)⟩

theorem start_rel {G : Gx} {F : Hp} {vs : List V} {ds : List D} (rs : RelDs G F vs ds) (N : List Str) (fn : Fn) (hn : N.length = fn.ns) (hp : ds.length = fn.np) : EnvR G F (Wp.start fn ds) (L2.start N vs) := by
  have hl := rs.len
  refine ⟨?_, fun i d e => ?_⟩
  · unfold Wp.start L2.start
    rw [List.length_append, List.length_append, List.length_map, List.length_map, List.length_replicate, List.length_replicate, hl, hn, hp]
  · unfold Wp.start slv at e
    by_cases hi : i < ds.length
    · rw [List.getElem?_append_left (by rw [List.length_map]; exact hi), List.getElem?_map] at e
      cases q : ds[i]? with
      | none => rw [q] at e; cases e
      | some d' =>
        rw [q] at e
        cases e
        obtain ⟨v, h1, h2⟩ := rs.get q
        refine ⟨v, ?_, h2⟩
        unfold L2.start
        rw [List.getElem?_append_left (by rw [List.length_map, hl]; exact hi), List.getElem?_map, h1]
        rfl
    · rw [List.getElem?_append_right (by rw [List.length_map]; omega), List.getElem?_replicate] at e
      split at e <;> cases e

abbrev FnAt (P : Program) (w : World) (K : PySem.W.Frag) (mg : Str → Option Value) (base : Heap) (tb : Tb) (T : Nat → Option Fn) (cl co : Nat → Option Addr) (k : Nat) : Prop :=
  (∀ (f : Nat) (x : Str), tb.nm f = some x → ∃ ad fd ps, mg x = some (.ref ad) ∧ PySem.W.keepIn K (.ref ad) = true ∧ Binds K fd ps [] ∧ ps.length = tb.ar f ∧ FnOk P w K mg base (L2.CX P w) (2 * k + 2) ad fd ps (liftSp ⟨K, cl, co, fun _ => none⟩ (tb.ar f) (run T k f))) ∧
  (∀ (f c : Nat) (m : Str), tb.me f = some (c, m) → ∃ C ad fd ps, co c = some C ∧ Meth K C m ad ∧ Binds K fd ps [] ∧ ps.length = tb.ar f ∧ FnOk P w K mg base (L2.CX P w) (2 * k + 2) ad fd ps (liftSp ⟨K, cl, co, fun _ => none⟩ (tb.ar f) (run T k f)))
/-- one level up -/
theorem run_step {P : Program} {w : World} {K : PySem.W.Frag} {mg : Str → Option Value} {base : Heap} {tb : Tb} {T : Nat → Option Fn} {cl co : Nat → Option Addr} (Pr : Prg K mg tb T cl co) {k f : Nat} {x y : Str}
    (ih : FnAt P w K mg base tb T cl co k)
    {fn : Fn} {ad : Addr} {fd : FuncData} {N ps : List Str} {params : Arguments} {body : List Stmt} {scope : Scope} (hT : T f = some fn) (FD : FunD K x y params body scope [] [] ad fd) (S : FnScope N ps scope)
    (h1 : ps.length = tb.ar f) (h2 : fn.np = tb.ar f) (h3 : N.length = fn.ns) (hc : chkL tb N scope fn.body body = true) :
    FnOk P w K mg base (L2.CX P w) (2 * (k + 1) + 2) ad fd ps (liftSp ⟨K, cl, co, fun _ => none⟩ (tb.ar f) (run T (k + 1) f)) := by
  refine FD.ok (k := 2 * k + 3) S (fun vs H Q E h => by rw [h1]; exact h.1) fun cdv A outer s H vs Q E hr h => ?_
  obtain ⟨hl, Ph, F, M, ds, q, e, rm, rs, cn, cx, h⟩ := h
  dsimp only [run] at h
  rw [hT] at h
  obtain ⟨hlen, h⟩ := h
  have g : Good ((⟨K, cl, co, fun _ => none⟩ : Gx).hide Ph) tb (run T k) (2 * k + 2) (fun cls d _ H => E cls d H) (cxOf (L2.CX P w) P w K mg base N y scope ad cdv A outer s H E) :=
    Good.hide (G := ⟨K, cl, co, fun _ => none⟩) ⟨rfl, S.nd, fun _ => rfl, fun _ => hr, Nat.lt_of_le_of_lt (Nat.add_le_add_right (Nat.le_add_right _ (16 * (2 * k + 3))) 200) hr.un, fun _ _ _ => Pr.hot, fun _ _ => Pr.hot, takes_of rfl rfl rfl rfl, fun f' x' hx' => ih.1 f' x' hx', fun p hp => by
      obtain ⟨v, u, c1, c2, c3⟩ := Pr.cons p hp
      exact ⟨v, u, c1, c2, fun F => c3 _ F rfl⟩, Pr.blts, fun f' x' ds' M' q' e' hx' hr' => by
        obtain ⟨fn', _, _, _, _, _, _, _, _, _, hT', _, _, _, _, _, h2', _, _⟩ := (Pr.defs f' x' hx').ex
        cases k with
        | zero => exact hr'.elim
        | succ k =>
          dsimp only [run] at hr'
          rw [hT'] at hr'
          exact hr'.1.trans h2', run_mono T k k (Nat.le_refl _), by omega, Pr.xt, fun c f x h1 h2 => ini_ok (Pr.mkr c f x h1 h2), Pr.own, ⟨fun f' c' m' hx' => ih.2 f' c' m' hx', fun _ _ _ _ => Pr.hot, fun f' c' m' ds' M' q' e' hx' hr' => by
        obtain ⟨fn', _, _, _, _, _, _, _, _, _, _, hT', _, _, _, _, _, _, h2', _, _⟩ := (Pr.mts f' c' m' hx').ex
        cases k with
        | zero => exact hr'.elim
        | succ k =>
          dsimp only [run] at hr'
          rw [hT'] at hr'
          exact hr'.1.trans h2', Pr.cls, Pr.mks, fun c x h1 h2 => inib_ok (Pr.xbs c x h1 h2)⟩⟩ Ph
  refine ⟨_, snd_L Pr.hot fn.body g rfl rfl rfl (passes_of rfl) ⟨rfl, rfl, rfl⟩ hc, ?_⟩
  refine ⟨F, M, Wp.start fn ds, _, rm, start_rel (rs.hide Ph) N fn h3 hlen, ?_, h⟩
  exact ⟨fun F' M' H' env' σ' s' rm' er' q' => frz_ok q' rm' .non (cn.mono s'), fun F' M' H' v d s' rm' r' q' => frz_ok q' rm' r' (cn.mono s'), fun F' M' H' env' σ' s' rm' er' q' => q'.elim, fun F' M' H' env' σ' s' rm' er' q' => q'.elim, fun F' M' H' env' σ' z c dd s' rm' er' rx q' => cx F' M' H' z c dd s' rm' rx q'⟩
/-- THE TABLE: every def, every method keeps, at every level, what the trees tell -/
theorem run_all {P : Program} {w : World} {K : PySem.W.Frag} {mg : Str → Option Value} {base : Heap} {tb : Tb} {T : Nat → Option Fn} {cl co : Nat → Option Addr} (Pr : Prg K mg tb T cl co) : ∀ (k : Nat), FnAt P w K mg base tb T cl co k
  | 0 => by
    refine ⟨fun f x hx => ?_, fun f c m hx => ?_⟩
    · obtain ⟨fn, ad, fd, N, ps, params, body, scope, nm, ql, hT, hm, FD, hb, S, h1, h2, h3, hc⟩ := (Pr.defs f x hx).ex
      refine ⟨ad, fd, ps, hm, FD.kp, hb, h1, ⟨fun vs H Q E h => by rw [h1]; exact h.1, fun A outer s H args us vs Q E hr he hbt hv h => ?_⟩⟩
      obtain ⟨_, _, _, _, _, _, _, _, _, _, _, h⟩ := h
      exact h.elim
    · obtain ⟨fn, C, ad, fd, N, ps, params, body, scope, nm, ql, hT, hm, hM, FD, hb, S, h1, h2, h3, hc⟩ := (Pr.mts f c m hx).ex
      refine ⟨C, ad, fd, ps, hm, hM, hb, h1, ⟨fun vs H Q E h => by rw [h1]; exact h.1, fun A outer s H args us vs Q E hr he hbt hv h => ?_⟩⟩
      obtain ⟨_, _, _, _, _, _, _, _, _, _, _, h⟩ := h
      exact h.elim
  | k + 1 => by
    refine ⟨fun f x hx => ?_, fun f c m hx => ?_⟩
    · obtain ⟨fn, ad, fd, N, ps, params, body, scope, nm, ql, hT, hm, FD, hb, S, h1, h2, h3, hc⟩ := (Pr.defs f x hx).ex
      exact ⟨ad, fd, ps, hm, FD.kp, hb, h1, run_step Pr (run_all Pr k) hT FD S h1 h2 h3 hc⟩
    · obtain ⟨fn, C, ad, fd, N, ps, params, body, scope, nm, ql, hT, hm, hM, FD, hb, S, h1, h2, h3, hc⟩ := (Pr.mts f c m hx).ex
      exact ⟨C, ad, fd, ps, hm, hM, hb, h1, run_step Pr (run_all Pr k) hT FD S h1 h2 h3 hc⟩
theorem run_ok {P : Program} {w : World} {K : PySem.W.Frag} {mg : Str → Option Value} {base : Heap} {tb : Tb} {T : Nat → Option Fn} {cl co : Nat → Option Addr} (Pr : Prg K mg tb T cl co) (k f : Nat) (x : Str) (hx : tb.nm f = some x) :
    ∃ ad fd ps, mg x = some (.ref ad) ∧ PySem.W.keepIn K (.ref ad) = true ∧ Binds K fd ps [] ∧ ps.length = tb.ar f ∧ FnOk P w K mg base (L2.CX P w) (2 * k + 2) ad fd ps (liftSp ⟨K, cl, co, fun _ => none⟩ (tb.ar f) (run T k f)) := (run_all Pr k).1 f x hx
end Wp

/-! WpEnd: from the table to a law's end. -/
namespace Wp
open PySem PySem.Spec PyProof.Rows L2
/-- a law: F gives the written part, the function object, the promise over every base; the exceptions' reading may know the world -/
theorem walk_ofW {l : PySem.W.OpenLaw} {n k : Nat} {q : Program} {loose : List Str} {XP : (Str → Option Value) → Heap → Prop} {YP : World → Heap → Prop} {d : DefRec} {CXw : World → CXT} {x : Str}
    (hn : l.most = some n) (hn2 : n ≤ sizeLine) (hdf : d.params.defaults = []) (hr : Room k callerA)
    (F : ∀ (w : World) (mg : Str → Option Value) (fa : Addr) (h : Heap), YP w h → h.Ns mainGlobals mg → mg d.name = some (.ref fa) →
      ∃ (K : PySem.W.Frag) (fd : FuncData) (sp : Sp), K.In h ∧ (∀ (s : Shared) (u : Value), BindsTo s fd ⟨[u], []⟩ [(x, u)]) ∧
        (∀ (H : Hp) (a : Addr) (ns : List Int), ns.length ≤ n → (∀ z ∈ ns, Builtin.Int.intBits z ≤ 1048576) → Only H → SqL K H a (ns.map V.int) → sp [.ref a] H (fun v _ => v = .bl true) fun _ _ _ => False) ∧
        ∀ base : Heap, K.In base → base.Ns mainGlobals mg → FnOk l.prog w K mg base (CXw w) k fa fd [x] sp)
    (hCX : ∀ (w : World) (H : Hp) (s : Shared) (e : Value) (s' : Shared), CXw w [] H s (fun _ _ _ => False) e s' → False) :
    PySem.W.WalkO q loose XP YP l.row.toRowW d [] (fun f vs => PySem.call f vs) := by
  refine Att.attach_callB hn hdf fun w s₀ s₁ mg mb fa o pm cd doc a vs ns G Y ho hd hcd hmg hobj hints hlen hbits hg => ?_
  obtain ⟨K, fd, sp, KX, hb, hsp, hF⟩ := F w mg fa _ Y G.T.g hmg
  exact law_call KX G.T.g G.T.b G.T.builtins G.T.nolimit hg hobj hints (Nat.le_trans hlen hn2) hr hF hb (fun H hO hS => hsp H a ns hlen hbits hO hS) fun H e s' => hCX w H s₁ e s'

theorem rm_start (K : PySem.W.Frag) (cl co : Nat → Option Addr) (P H : Hp) (hP : ∀ a, P a = none) : RM (⟨K, cl, co, P⟩ : Gx) H (fun _ => none) H :=
  ⟨fun _ _ e => e, (fun _ _ e => by cases e), (fun a o e => by dsimp only at e; rw [hP a] at e; cases e)⟩

theorem law_end {P : Program} {w : World} {K : PySem.W.Frag} {mg : Str → Option Value} {tb : Tb} {T : Nat → Option Fn} {h : Heap} {f k : Nat} {x : Str} {cl co : Nat → Option Addr} (Pr : Prg K mg tb T cl co) (KX : K.In h)
    {fn : Fn} {ad : Addr} {fd : FuncData} {N : List Str} {params : Arguments} {body : List Stmt} {scope : Scope} (hT : T f = some fn) (FD : FunD K "law" "law" params body scope [] [] ad fd)
    (hb : ∀ (s : Shared) (us : List Value), us.length = 1 → BindsTo s fd ⟨us, []⟩ ([x].zip us)) (S : FnScope N [x] scope)
    (h1 : 1 = tb.ar f) (h2 : fn.np = tb.ar f) (h3 : N.length = fn.ns) (hc : chkL tb N scope fn.body body = true)
    (L : ∀ ns : List Int, ns.length ≤ 63 → (∀ z ∈ ns, Builtin.Int.intBits z ≤ 1048576) → run T (k + 1) f [.scr ns] (fun _ => none) (fun d _ => d = .bl true) (fun _ _ => False)) :
    ∃ (K : PySem.W.Frag) (fd : FuncData) (sp : Sp), K.In h ∧ (∀ (s : Shared) (u : Value), BindsTo s fd ⟨[u], []⟩ [(x, u)]) ∧
        (∀ (H : Hp) (a : Addr) (ns : List Int), ns.length ≤ 63 → (∀ z ∈ ns, Builtin.Int.intBits z ≤ 1048576) → Only H → SqL K H a (ns.map V.int) → sp [.ref a] H (fun v _ => v = .bl true) fun _ _ _ => False) ∧
        ∀ base : Heap, K.In base → base.Ns mainGlobals mg → FnOk P w K mg base (L2.CX P w) (2 * (k + 1) + 2) ad fd [x] sp := by
  refine ⟨K, fd, liftSp ⟨K, cl, co, fun _ => none⟩ (tb.ar f) (run T (k + 1) f), KX, fun s u => hb s [u] rfl, fun H a ns hn hbits hO hS => ?_, fun base hK hN => run_step Pr (run_all Pr k) hT FD S h1 h2 h3 hc⟩
  refine ⟨h1, fun _ => none, H, fun _ => none, [.scr ns], _, _, rm_start _ _ _ _ _ (fun a => rfl), .cons (.scr hS) .nil, ?_, ?_, L ns hn hbits⟩
  · intro F' M' H' v d s rm r q
    subst q
    cases r
    rfl
  · exact fun F' M' H' z c dd s rm rx q => q.elim
end Wp

/-! WpTup: tuples of the module's top: what is looked at once the top has run. -/
namespace Wp
open PySem PySem.Spec PyProof.Rows L2
/-- a tuple of ints and texts that stands at a name -/
def atB : Sum Int Str → Value → Bool
  | .inl i, .int j _ => decide (i = j)
  | .inr x, .str y _ => decide (x = y)
  | _, _ => false
def itsB : List (Sum Int Str) → List Value → Bool
  | [], [] => true
  | k :: ks, v :: vs => atB k v && itsB ks vs
  | _, _ => false
def txB (ks : List (Sum Int Str)) : Bool := ks.any fun k => match k with
  | .inr _ => true
  | .inl _ => false
theorem txB_ok {ks : List (Sum Int Str)} (h : txB ks = true) : ∃ z, V.str z ∈ ks.map kV := by
  obtain ⟨k, hk, e⟩ := List.any_eq_true.mp h
  cases k with
  | inl i => cases e
  | inr z => exact ⟨z, List.mem_map.mpr ⟨_, hk, rfl⟩⟩
def tupB (K : PySem.W.Frag) (u : Str × List (Sum Int Str)) : Bool := match K.lookup (He.ga K u.1) with
  | some ⟨.type c, _, .seq its _, _⟩ => decide (c = "tuple") && decide (its.size ≤ 100) && itsB u.2 its.toList && txB u.2
  | _ => false
def keyVs : Sum Int Str → D
  | .inl i => .int i
  | .inr x => .str x
theorem atB_ok {k : Sum Int Str} {u : Value} (h : atB k u = true) : RelV (kV k) u := by
  unfold atB at h
  split at h
  · have e := of_decide_eq_true h
    subst e
    exact ⟨_, rfl⟩
  · have e := of_decide_eq_true h
    subst e
    exact ⟨_, rfl⟩
  · cases h
theorem itsB_ok : ∀ {ks : List (Sum Int Str)} {us : List Value}, itsB ks us = true → Vals (ks.map kV) us
  | [], [], _ => .nil
  | k :: ks, u :: us, h => by
    unfold itsB at h
    rw [Bool.and_eq_true] at h
    exact .cons (atB_ok h.1) (itsB_ok h.2)
  | [], _ :: _, h => by cases h
  | _ :: _, [], h => by cases h
theorem keys_rel {G : Gx} {F : Hp} : ∀ (ks : List (Sum Int Str)), RelDs G F (ks.map kV) (ks.map keyVs)
  | [] => .nil
  | .inl i :: ks => .cons (.int i) (keys_rel ks)
  | .inr x :: ks => .cons (.str x) (keys_rel ks)
theorem tupB_ok {K : PySem.W.Frag} {u : Str × List (Sum Int Str)} (h : tupB K u = true) {G : Gx} {F : Hp} (hK : G.K = K) : RelD G F (.ref (He.ga K u.1)) (.tup (u.2.map keyVs)) := by
  subst hK
  unfold tupB at h
  split at h
  · rename_i c dd its n sl e
    rw [Bool.and_eq_true, Bool.and_eq_true, Bool.and_eq_true] at h
    obtain ⟨h, ht⟩ := h
    have hc := of_decide_eq_true h.1.1
    subst hc
    refine .tup (.inr ⟨.inr ⟨_, its, n, e, rfl, rfl, Nat.le_trans (of_decide_eq_true h.1.2) (by decide), itsB_ok h.2⟩, txB_ok ht⟩) (keys_rel u.2)
  · cases h
/-! ### the hook -/
abbrev AlU : Type := He.AlD × Bool
def obsU (fa : List He.Fa) (fn : List He.DefD) (us : List (Str × List (Sum Int Str))) (K : PySem.W.Frag) : AlU := (He.obsD fa fn K, us.all fun u => tupB K u)
def SaysU (fa : List He.Fa) (fn : List He.DefD) (us : List (Str × List (Sum Int Str))) (K : PySem.W.Frag) : Prop := obsU fa fn us K = (He.valD fn, true)
def obsUG (n : Nat) (fa : List He.Fa) (fn : List He.DefD) (us : List (Str × List (Sum Int Str))) (g : Addr → Option Obj) : AlU := obsU fa fn us (He.frG g (He.asD g n))
def hookU (n : Nat) (fa : List He.Fa) (fn : List He.DefD) (us : List (Str × List (Sum Int Str))) : PySem.W.Hook where
  α := AlU
  obs := fun s => obsUG n fa fn us s.heap.get?
  val := fun _ => (He.valD fn, true)
  says := fun _ h => ∃ K : PySem.W.Frag, K.In h ∧ SaysU fa fn us K
  of := fun _ _ e => ⟨_, He.frG_in, e⟩
  keeps := fun _ _ _ ⟨K, hK, c⟩ k => ⟨K, PySem.W.Frag.In.keeps hK k, c⟩
theorem obsUG_eq {n : Nat} {fa : List He.Fa} {fn : List He.DefD} {us : List (Str × List (Sum Int Str))} {g : Addr → Option Obj} {s : Shared} (h : ∀ a, g a = s.heap.get? a) : obsUG n fa fn us g = (hookU n fa fn us).obs s := by
  have e : g = s.heap.get? := funext h
  rw [e] <;> rfl
theorem SaysU.d {fa : List He.Fa} {fn : List He.DefD} {us : List (Str × List (Sum Int Str))} {K : PySem.W.Frag} (c : SaysU fa fn us K) : He.SaysD fa fn K := congrArg (fun z : AlU => z.1) c
theorem SaysU.tup {fa : List He.Fa} {fn : List He.DefD} {us : List (Str × List (Sum Int Str))} {K : PySem.W.Frag} (c : SaysU fa fn us K) (i : Nat) {u : Str × List (Sum Int Str)} (h : us[i]? = some u := by rfl) : tupB K u = true := by
  have c1 : (us.all fun u => tupB K u) = true := congrArg (fun z : AlU => z.2) c
  exact List.all_eq_true.mp c1 u (List.mem_of_getElem? h)
end Wp

/-! WpExc: the classes of exceptions: what is looked at once the top has run. -/
namespace Wp
open PySem PySem.Spec PyProof.Rows L2
def clOf (K : PySem.W.Frag) (xc : List (Nat × Str)) (c : Nat) : Option Addr := (xc.lookup c).map (He.ga K)
def x1B (K : PySem.W.Frag) (xc : List (Nat × Str)) (p : Nat × Str) : Bool :=
  decide (xc.lookup p.1 = some p.2) && (He.eqO (PySem.W.nsIn K mainGlobals p.2) (some (some (.ref (He.ga K p.2)))) && (xcB K (He.ga K p.2) && (decide (PySem.W.kitOne K (.ref (He.ga K p.2)) (.type "ValueError") = some true) &&
  (decide (PySem.W.findIn K (.ref (He.ga K p.2)) "at" = some none) && (decide (PySem.W.findIn K (.ref (He.ga K p.2)) "side" = some none) &&
  xc.all fun q => decide (PySem.W.kitOne K (.ref (He.ga K p.2)) (.ref (He.ga K q.2)) = some (subX p.1 q.1)) && decide (PySem.W.exmOne K (.ref (He.ga K p.2)) (.ref (He.ga K q.2)) = some (subX p.1 q.1)))))))
def oexB (K : PySem.W.Frag) (C : Addr) : Bool := match K.lookup C with
  | some ⟨.type "type", _, .cls cd, sl⟩ => (match cd.mro, sl.toList with
    | .ref C' :: bm, [_, _, _, _, some (.builtin n), _] => C' == C && n == "ValueError.__new__" && !cd.hasDel && cd.hasDict && PySem.HandSPX.refsVE bm
    | _, _ => false)
  | _ => false
theorem oexB_ok {K : PySem.W.Frag} {C : Addr} (q : oexB K C = true) : ∃ nm q N bs bm sn sub ab col dd k0 k1 k2 k3 k5, K.lookup C = some (excClassObj nm q C N bs bm true sn sub ab col dd k0 k1 k2 k3 k5 "ValueError.__new__") ∧ PySem.HandSPX.refsVE bm = true := by
  unfold oexB at q
  split at q
  · rename_i dd cd sl ho
    split at q
    · rename_i C' bm k0 k1 k2 k3 n k5 hm hs
      simp only [Bool.and_eq_true, beq_iff_eq, Bool.not_eq_true'] at q
      obtain ⟨⟨⟨⟨rfl, rfl⟩, hdel⟩, hdc⟩, ht⟩ := q
      obtain ⟨nm, bs, mro, ns, qn, hd, sn, sub, ab, col, del⟩ := cd
      dsimp only at hm hdel hdc
      subst hm hdel hdc
      have hsl : sl = #[k0, k1, k2, k3, some (.builtin "ValueError.__new__"), k5] := by
        obtain ⟨l⟩ := sl
        simp only at hs
        rw [hs]
      subst hsl
      exact ⟨nm, qn, ns, bs, bm, sn, sub, ab, col, dd, k0, k1, k2, k3, k5, ho, ht⟩
    · cases q
  · cases q
def mkB (K : PySem.W.Frag) (p : Str × Str) : Bool :=
  PySem.W.keepIn K (.ref (He.ga K p.1)) && (oexB K (He.ga K p.1) && (He.eqO (PySem.W.findIn K (.ref (He.ga K p.1)) "__setattr__") (some (some (.builtin "object.__setattr__"))) &&
  (decide (PySem.W.subIn K (.ref (He.ga K p.1)) (.type "BaseException") = some true) && (decide (PySem.W.typeIn K (.ref (He.ga K p.1)) = some (.type "type")) &&
  (He.eqO (PySem.W.findIn K (.ref (He.ga K p.1)) "__init__") (some (some (.ref (He.ma K (He.ga K p.1) "__init__")))) && decide (PySem.W.typeIn K (.ref (He.ma K (He.ga K p.1) "__init__")) = some (.type "function")))))))
section
variable {K : PySem.W.Frag} {h : Heap} {mg : Str → Option Value} {xc : List (Nat × Str)}
theorem look_mem {c : Nat} {x : Str} : ∀ {l : List (Nat × Str)}, l.lookup c = some x → (c, x) ∈ l
  | [], h => by cases h
  | (a, y) :: l, h => by
    rw [List.lookup_cons] at h
    cases q : (c == a) with
    | true =>
      rw [q] at h
      cases h
      rw [eq_of_beq q]
      exact List.mem_cons_self ..
    | false =>
      rw [q] at h
      exact List.mem_cons_of_mem _ (look_mem h)
theorem clOf_inv {c : Nat} {C : Addr} (e : clOf K xc c = some C) : ∃ x, (c, x) ∈ xc ∧ C = He.ga K x := by
  unfold clOf at e
  cases q : xc.lookup c with
  | none => rw [q] at e; cases e
  | some x =>
    rw [q] at e
    exact ⟨x, look_mem q, (Option.some.inj e).symm⟩
theorem xt_of (X : K.In h) (G : h.Ns mainGlobals mg) (c : (xc.all fun p => x1B K xc p) = true) : XTab K mg (clOf K xc) xc := by
  have all : ∀ p ∈ xc, x1B K xc p = true := fun p hp => List.all_eq_true.mp c p hp
  refine ⟨fun p hp => ?_, fun c C e => ?_, fun c C e => ?_, fun c C d D e e' => ?_, fun c C f e hf => ?_⟩
  · obtain ⟨c1, c2⟩ := He.ba (all p hp)
    obtain ⟨c2, c3⟩ := He.ba c2
    refine ⟨He.ga K p.2, PySem.W.mg_of X G (He.eqO_ok c2), ?_⟩
    unfold clOf
    rw [of_decide_eq_true c1]
    rfl
  · obtain ⟨x, hx, rfl⟩ := clOf_inv e
    obtain ⟨c1, c2⟩ := He.ba (all _ hx)
    obtain ⟨c2, c3⟩ := He.ba c2
    exact xcB_ok (He.ba c3).1
  · obtain ⟨x, hx, rfl⟩ := clOf_inv e
    obtain ⟨c1, c2⟩ := He.ba (all _ hx)
    obtain ⟨c2, c3⟩ := He.ba c2
    obtain ⟨c3, c4⟩ := He.ba c3
    exact of_decide_eq_true (He.ba c4).1
  · obtain ⟨x, hx, rfl⟩ := clOf_inv e
    obtain ⟨y, hy, rfl⟩ := clOf_inv e'
    obtain ⟨c1, c2⟩ := He.ba (all _ hx)
    obtain ⟨c2, c3⟩ := He.ba c2
    obtain ⟨c3, c4⟩ := He.ba c3
    obtain ⟨c4, c5⟩ := He.ba c4
    obtain ⟨c5, c6⟩ := He.ba c5
    obtain ⟨c6, c7⟩ := He.ba c6
    obtain ⟨d1, d2⟩ := He.ba (List.all_eq_true.mp c7 _ hy)
    exact ⟨of_decide_eq_true d1, of_decide_eq_true d2⟩
  · obtain ⟨x, hx, rfl⟩ := clOf_inv e
    obtain ⟨c1, c2⟩ := He.ba (all _ hx)
    obtain ⟨c2, c3⟩ := He.ba c2
    obtain ⟨c3, c4⟩ := He.ba c3
    obtain ⟨c4, c5⟩ := He.ba c4
    obtain ⟨c5, c6⟩ := He.ba c5
    obtain ⟨c6, c7⟩ := He.ba c6
    unfold fldN at hf
    rw [Bool.or_eq_true] at hf
    rcases hf with hf | hf
    · rw [of_decide_eq_true hf]
      exact of_decide_eq_true c5
    · rw [of_decide_eq_true hf]
      exact of_decide_eq_true c6
theorem ini_of (X : K.In h) (G : h.Ns mainGlobals mg) (cx : (xc.all fun p => x1B K xc p) = true) {c : Nat} {x f : Str} (hx : (c, x) ∈ xc) (m : mkB K (x, f) = true) (hf : fldN f = true) {nm ql : Str} {params : Arguments} {body : List Stmt} {scope : Scope} {fd : FuncData} {N ps : List Str}
    (F : FunD K nm ql params body scope [] [] (He.fAd K (x, some "__init__")) fd) (hb : Binds K fd ps []) (S : FnScope N ps scope) (hp : ps.length = 2) (hi : iniB N scope f body = true) : IniOk K mg (clOf K xc) c x f := by
  have T := xt_of X G cx
  obtain ⟨C, m1, m2⟩ := T.nm _ hx
  obtain ⟨y, hy, e⟩ := clOf_inv m2
  have c1 := (He.ba (List.all_eq_true.mp cx _ hx)).1
  have c2 := (He.ba (List.all_eq_true.mp cx _ hy)).1
  have e3 : x = y := by
    have a := of_decide_eq_true c1
    have b := of_decide_eq_true c2
    dsimp only at a b
    rw [a] at b
    exact Option.some.inj b
  subst e3
  subst e
  obtain ⟨k1, k2⟩ := He.ba m
  obtain ⟨k2, k3⟩ := He.ba k2
  obtain ⟨k3, k4⟩ := He.ba k3
  obtain ⟨k4, k5⟩ := He.ba k4
  obtain ⟨k5, k6⟩ := He.ba k5
  obtain ⟨k6, k7⟩ := He.ba k6
  exact ⟨He.ga K x, He.ma K (He.ga K x) "__init__", fd, N, ps, params, body, scope, nm, ql, m2, m1, k1, ⟨oexB_ok k2, He.eqO_ok k3, of_decide_eq_true k4, of_decide_eq_true k5, k1⟩, He.eqO_ok k6, of_decide_eq_true k7, F, hb, S, hp, T.na _ _ _ m2 hf, hi⟩
/-- C's own __init__ with at and side, side None at first -/
theorem inib_of (X : K.In h) (G : h.Ns mainGlobals mg) (cx : (xc.all fun p => x1B K xc p) = true) {c : Nat} {x f : Str} (hx : (c, x) ∈ xc) (m : mkB K (x, f) = true) {nm ql : Str} {params : Arguments} {body : List Stmt} {scope : Scope} {fd : FuncData} {N ps : List Str} {dvs : List V}
    (F : FunD K nm ql params body scope dvs [] (He.fAd K (x, some "__init__")) fd) (hb : ∃ ds, Vals [] ds ∧ Binds K fd ps ds) (hb2 : ∃ ds, Vals [.non] ds ∧ Binds K fd ps ds) (S : FnScope N ps scope) (hp : ps.length = 3) (hi : iniBB N scope body = true) : IniB K mg (clOf K xc) c x := by
  have T := xt_of X G cx
  obtain ⟨C, m1, m2⟩ := T.nm _ hx
  obtain ⟨y, hy, e⟩ := clOf_inv m2
  have c1 := (He.ba (List.all_eq_true.mp cx _ hx)).1
  have c2 := (He.ba (List.all_eq_true.mp cx _ hy)).1
  have e3 : x = y := by
    have a := of_decide_eq_true c1
    have b := of_decide_eq_true c2
    dsimp only at a b
    rw [a] at b
    exact Option.some.inj b
  subst e3
  subst e
  obtain ⟨k1, k2⟩ := He.ba m
  obtain ⟨k2, k3⟩ := He.ba k2
  obtain ⟨k3, k4⟩ := He.ba k3
  obtain ⟨k4, k5⟩ := He.ba k4
  obtain ⟨k5, k6⟩ := He.ba k5
  obtain ⟨k6, k7⟩ := He.ba k6
  obtain ⟨d1, z1, b1⟩ := hb
  obtain ⟨d2, z2, b2⟩ := hb2
  cases z1
  have e4 : d2 = [.none] := by
    cases z2 with
    | cons r t => cases t; cases r; rfl
  subst e4
  exact ⟨He.ga K x, He.ma K (He.ga K x) "__init__", fd, N, ps, params, body, scope, nm, ql, dvs, m2, m1, k1, ⟨oexB_ok k2, He.eqO_ok k3, of_decide_eq_true k4, of_decide_eq_true k5, k1⟩, He.eqO_ok k6, of_decide_eq_true k7, F, b1, b2, S, hp, T.na _ _ _ m2 rfl, T.na _ _ _ m2 rfl, hi⟩
end
/-! ### own classes -/
def ownFa (oc : List (Nat × Str)) (fs : List Str) : List He.Fa := oc.flatMap fun p => [.glo p.2, .cls p.2, .mkr p.2] ++ fs.map fun f => .noat p.2 f
section
variable {K : PySem.W.Frag} {h : Heap} {mg : Str → Option Value} {fa : List He.Fa} {fn : List He.DefD} {oc : List (Nat × Str)} {fs : List Str}
theorem fact_mem (c : He.SaysD fa fn K) {f : He.Fa} (h : f ∈ fa) : f.ok K = true :=
  List.all_eq_true.mp (He.ba (show ((fa.all fun f => f.ok K) && fn.all fun d => d.ok K) = true from congrArg (fun z : He.AlD => z.1) c)).1 f h
theorem own_cls (c : He.SaysD fa fn K) (hfa : ∀ x ∈ ownFa oc fs, x ∈ fa) (k : Nat) (C : Addr) (e : clOf K oc k = some C) : Cls K C ∧ ∀ f ∈ fs, NoAttr K C f := by
  obtain ⟨x, hx, rfl⟩ := clOf_inv e
  refine ⟨He.cls_ok (fact_mem c (hfa _ (List.mem_flatMap.mpr ⟨_, hx, ?_⟩))), fun f hf => He.noat_ok (fact_mem c (hfa _ (List.mem_flatMap.mpr ⟨_, hx, ?_⟩)))⟩
  · exact List.mem_append_left _ (List.mem_cons_of_mem _ (List.mem_cons_self ..))
  · exact List.mem_append_right _ (List.mem_map.mpr ⟨f, hf, rfl⟩)
theorem own_mks (X : K.In h) (G : h.Ns mainGlobals mg) (c : He.SaysD fa fn K) (hfa : ∀ x ∈ ownFa oc fs, x ∈ fa) (hl : ∀ p ∈ oc, oc.lookup p.1 = some p.2) (k : Nat) (x : Str) (hx : (k, x) ∈ oc) :
    ∃ C, clOf K oc k = some C ∧ mg x = some (.ref C) ∧ PySem.W.makesIn K C = true ∧ PySem.W.keepIn K (.ref C) = true := by
  have M := He.mkr_ok (K := K) (x := x) (fact_mem c (hfa _ (List.mem_flatMap.mpr ⟨_, hx, List.mem_append_left _ (List.mem_cons_of_mem _ (List.mem_cons_of_mem _ (List.mem_cons_self ..)))⟩)))
  have g := He.glo_ok (K := K) (x := x) X G (fact_mem c (hfa _ (List.mem_flatMap.mpr ⟨_, hx, List.mem_append_left _ (List.mem_cons_self ..)⟩)))
  refine ⟨He.ga K x, ?_, g, M.makes, M.kp⟩
  unfold clOf
  rw [hl _ hx]
  rfl
end
/-! ### the hook -/
def obsX (fa : List He.Fa) (fn : List He.DefD) (us : List (Str × List (Sum Int Str))) (xc : List (Nat × Str)) (xm : List (Str × Str)) (K : PySem.W.Frag) : AlU := (He.obsD fa fn K, (us.all fun u => tupB K u) && ((xc.all fun p => x1B K xc p) && xm.all fun p => mkB K p))
def SaysX (fa : List He.Fa) (fn : List He.DefD) (us : List (Str × List (Sum Int Str))) (xc : List (Nat × Str)) (xm : List (Str × Str)) (K : PySem.W.Frag) : Prop := obsX fa fn us xc xm K = (He.valD fn, true)
def obsXG (n : Nat) (fa : List He.Fa) (fn : List He.DefD) (us : List (Str × List (Sum Int Str))) (xc : List (Nat × Str)) (xm : List (Str × Str)) (g : Addr → Option Obj) : AlU := obsX fa fn us xc xm (He.frG g (He.asD g n))
def hookX (n : Nat) (fa : List He.Fa) (fn : List He.DefD) (us : List (Str × List (Sum Int Str))) (xc : List (Nat × Str)) (xm : List (Str × Str)) : PySem.W.Hook where
  α := AlU
  obs := fun s => obsXG n fa fn us xc xm s.heap.get?
  val := fun _ => (He.valD fn, true)
  says := fun _ h => ∃ K : PySem.W.Frag, K.In h ∧ SaysX fa fn us xc xm K
  of := fun _ _ e => ⟨_, He.frG_in, e⟩
  keeps := fun _ _ _ ⟨K, hK, c⟩ k => ⟨K, PySem.W.Frag.In.keeps hK k, c⟩
theorem obsXG_eq {n : Nat} {fa : List He.Fa} {fn : List He.DefD} {us : List (Str × List (Sum Int Str))} {xc : List (Nat × Str)} {xm : List (Str × Str)} {g : Addr → Option Obj} {s : Shared} (h : ∀ a, g a = s.heap.get? a) : obsXG n fa fn us xc xm g = (hookX n fa fn us xc xm).obs s := by
  have e : g = s.heap.get? := funext h
  rw [e] <;> rfl
section
variable {fa : List He.Fa} {fn : List He.DefD} {us : List (Str × List (Sum Int Str))} {xc : List (Nat × Str)} {xm : List (Str × Str)} {K : PySem.W.Frag}
theorem SaysX.d (c : SaysX fa fn us xc xm K) : He.SaysD fa fn K := congrArg (fun z : AlU => z.1) c
theorem SaysX.b (c : SaysX fa fn us xc xm K) : ((us.all fun u => tupB K u) && ((xc.all fun p => x1B K xc p) && xm.all fun p => mkB K p)) = true := congrArg (fun z : AlU => z.2) c
theorem SaysX.tup (c : SaysX fa fn us xc xm K) (i : Nat) {u : Str × List (Sum Int Str)} (h : us[i]? = some u := by rfl) : tupB K u = true :=
  List.all_eq_true.mp (He.ba c.b).1 u (List.mem_of_getElem? h)
theorem SaysX.xs (c : SaysX fa fn us xc xm K) : (xc.all fun p => x1B K xc p) = true := (He.ba (He.ba c.b).2).1
theorem SaysX.mk (c : SaysX fa fn us xc xm K) (i : Nat) {u : Str × Str} (h : xm[i]? = some u := by rfl) : mkB K u = true :=
  List.all_eq_true.mp (He.ba (He.ba c.b).2).2 u (List.mem_of_getElem? h)
end
end Wp

namespace Wp
open PySem
abbrev f_nexts_of : Nat := 0
abbrev f_rows_to : Nat := 1
abbrev f_reached : Nat := 2
abbrev f_ending : Nat := 3
abbrev f_law_cell : Nat := 4
abbrev f_law_mixed : Nat := 5
abbrev f_law_states : Nat := 6
abbrev f_law_words : Nat := 7
abbrev f_law_rows : Nat := 8
abbrev f_law_ending : Nat := 9
abbrev f_law_good : Nat := 10
abbrev f_law : Nat := 11
/- state=0 word=1 -/
def b_nexts_of : Fn := ⟨1, 2,
    (.seq (.ife (.cmp .Eq (.idx (.var 0) (.int 0)) (.str "end")) (.seq (.ret (.lst true .nil))
    .nil) .nil)
    (.seq (.ret (.comp true [1] (.nm 1) (.itl (.idx (.var 0) (.int 1))) .nopart (.idx (.var 1) (.int 2))))
    .nil))⟩
/- g=0 found=1 waiting=2 here=3 name=4 shape=5 then=6 -/
def b_rows_to : Fn := ⟨1, 7,
    (.seq (.asg (.nm 1) (.dct [.inl (0)] (.cons (.lst false .nil) .nil)))
    (.seq (.asg (.nm 2) (.lst false (.cons (.int 0) .nil)))
    (.seq (.loop (.var 2) (.seq (.asg (.nm 3) (.bm .pop true (.var 2) (.cons (.int 0) .nil)))
    (.seq (.ife (.cmp .NotEq (.idx (.idx (.var 0) (.var 3)) (.int 0)) (.str "end")) (.seq (.each (.co (.nm 4) (.co (.nm 5) (.co (.nm 6) .no))) (.itl (.idx (.idx (.var 0) (.var 3)) (.int 1))) (.seq (.ife (.cmp .NotIn (.var 6) (.var 1)) (.seq (.dput (.var 1) (.var 6) (.bin .Add false (.dget (.var 1) (.var 3)) (.lst true (.cons (.var 4) .nil))))
    (.seq (.drop (.bm .append true (.var 2) (.cons (.var 6) .nil)))
    .nil)) .nil)
    .nil))
    .nil) .nil)
    .nil)))
    (.seq (.frd 1) (.seq (.ret (.var 1))
    .nil)))))⟩
/- g=0 -/
def b_reached : Fn := ⟨1, 1,
    (.seq (.ret (.bi .sorted_ false (.cons (.call f_rows_to (.cons (.var 0) .nil)) .nil)))
    .nil)⟩
/- g=0 found=1 more=2 k=3 then=4 -/
def b_ending : Fn := ⟨1, 5,
    (.seq (.asg (.nm 1) (.comp false [3] (.nm 3) (.it1 (.bi .len true (.cons (.var 0) .nil))) (.part (.cmp .Eq (.idx (.idx (.var 0) (.var 3)) (.int 0)) (.str "end"))) (.var 3)))
    (.seq (.asg (.nm 2) (.bl true))
    (.seq (.loop (.var 2) (.seq (.asg (.nm 2) (.bl false))
    (.seq (.each (.nm 3) (.it1 (.bi .len true (.cons (.var 0) .nil))) (.seq (.ife (.and (.cmp .NotIn (.var 3) (.var 1)) (.comp true [4] (.nm 4) (.itl (.call f_nexts_of (.cons (.idx (.var 0) (.var 3)) .nil))) (.part (.cmp .In (.var 4) (.var 1))) (.var 4))) (.seq (.drop (.bm .append true (.var 1) (.cons (.var 3) .nil)))
    (.seq (.asg (.nm 2) (.bl true))
    .nil)) .nil)
    .nil))
    .nil)))
    (.seq (.ret (.bi .sorted_ false (.cons (.var 1) .nil)))
    .nil))))⟩
/- script=0 k=1 -/
def b_law_cell : Fn := ⟨2, 2,
    (.seq (.ife (.cmp .Lt (.var 1) (.bi .len true (.cons (.var 0) .nil))) (.seq (.ret (.idx (.var 0) (.var 1)))
    .nil) .nil)
    (.seq (.ret (.bin .Add true (.bin .Add true (.bin .Mult true (.bin .Mult true (.int 23) (.var 1)) (.var 1)) (.bin .Mult true (.int 13) (.var 1))) (.int 5)))
    .nil))⟩
/- cell=0 k=1 number=2 -/
def b_law_mixed : Fn := ⟨2, 3,
    (.seq (.asg (.nm 2) (.bin .Mod true (.bin .Add true (.bin .Add true (.bin .Add true (.bin .Mult true (.var 0) (.int 48271)) (.bin .Mult true (.bin .Mult true (.int 7919) (.var 1)) (.var 1))) (.bin .Mult true (.int 104729) (.var 1))) (.int 11)) (.int 2147483647)))
    (.seq (.asg (.nm 2) (.bin .Mod true (.bin .Mult true (.var 2) (.var 2)) (.int 2147483629)))
    (.seq (.ret (.bin .Add true (.bin .Add true (.bin .Mult true (.var 2) (.var 2)) (.bin .Mult true (.var 2) (.int 1000003))) (.var 0)))
    .nil)))⟩
/- script=0 start=1 many=2 grammar=3 k=4 cell=5 kind=6 words=7 j=8 -/
def b_law_states : Fn := ⟨3, 9,
    (.seq (.asg (.nm 3) (.lst false .nil))
    (.seq (.each (.nm 4) (.it1 (.var 2)) (.seq (.asg (.nm 5) (.call f_law_cell (.cons (.var 0) (.cons (.bin .Add true (.var 1) (.var 4)) .nil))))
    (.seq (.ife (.cmp .Gt (.var 1) (.int 2)) (.seq (.asg (.nm 5) (.call f_law_mixed (.cons (.var 5) (.cons (.var 4) .nil))))
    .nil) .nil)
    (.seq (.asg (.nm 6) (.bin .Mod true (.var 5) (.int 6)))
    (.seq (.asg (.nm 5) (.bin .FloorDiv true (.var 5) (.int 6)))
    (.seq (.ife (.cmp .Eq (.var 6) (.int 0)) (.seq (.drop (.bm .append true (.var 3) (.cons (.tup (.cons (.str "end") .nil)) .nil)))
    (.seq .cnt
    .nil)) .nil)
    (.seq (.asg (.nm 7) (.lst false .nil))
    (.seq (.each (.nm 8) (.it1 (.bin .Add true (.int 1) (.bin .Mod true (.var 5) (.int 3)))) (.seq (.asg (.nm 5) (.bin .FloorDiv true (.var 5) (.int 3)))
    (.seq (.drop (.bm .append true (.var 7) (.cons (.tup (.cons (.bin .Mult true (.idx (.str "abc") (.bin .Mod true (.bin .Add true (.var 8) (.var 6)) (.int 3))) (.bin .Add true (.int 1) (.bin .Mod true (.var 4) (.int 8)))) (.cons (.tup (.cons (.str "nothing") .nil)) (.cons (.bin .Mod true (.var 5) (.var 2)) .nil)))) .nil)))
    (.seq (.asg (.nm 5) (.bin .FloorDiv true (.var 5) (.var 2)))
    .nil))))
    (.seq (.frz 7) (.seq (.drop (.bm .append true (.var 3) (.cons (.tup (.cons (.idx (.lst true (.cons (.str "left") (.cons (.str "right") .nil))) (.bin .Mod true (.var 6) (.int 2))) (.cons (.var 7) .nil))) .nil)))
    .nil))))))))))
    (.seq (.ret (.var 3))
    .nil)))⟩
/- state=0 -/
def b_law_words : Fn := ⟨1, 1,
    (.seq (.ife (.cmp .Eq (.idx (.var 0) (.int 0)) (.str "end")) (.seq (.ret (.lst true .nil))
    .nil) .nil)
    (.seq (.ret (.idx (.var 0) (.int 1)))
    .nil))⟩
/- grammar=0 found=1 last=2 rows=3 here=4 row=5 name=6 shape=7 then=8 -/
def b_law_rows : Fn := ⟨1, 9,
    (.seq (.asg (.nm 1) (.dct [.inl (0)] (.cons (.lst true .nil) .nil)))
    (.seq (.asg (.nm 2) (.lst true (.cons (.tup (.cons (.int 0) (.cons (.lst true .nil) .nil))) .nil)))
    (.seq (.loop (.cmp .NotEq (.var 2) (.lst true .nil)) (.seq (.asg (.nm 3) (.lst false .nil))
    (.seq (.each (.co (.nm 4) (.co (.nm 5) .no)) (.itl (.var 2)) (.seq (.each (.co (.nm 6) (.co (.nm 7) (.co (.nm 8) .no))) (.itl (.call f_law_words (.cons (.idx (.var 0) (.var 4)) .nil))) (.seq (.ife (.cmp .NotIn (.var 8) (.var 1)) (.seq (.dput (.var 1) (.var 8) (.bin .Add true (.var 5) (.lst true (.cons (.var 6) .nil))))
    (.seq (.drop (.bm .append true (.var 3) (.cons (.tup (.cons (.var 8) (.cons (.bin .Add true (.var 5) (.lst true (.cons (.var 6) .nil))) .nil))) .nil)))
    .nil)) .nil)
    .nil))
    .nil))
    (.seq (.asg (.nm 2) (.var 3))
    .nil))))
    (.seq (.frd 1) (.seq (.ret (.var 1))
    .nil)))))⟩
/- grammar=0 found=1 k=2 here=3 state=4 name=5 shape=6 then=7 -/
def b_law_ending : Fn := ⟨1, 8,
    (.seq (.asg (.nm 1) (.comp false [4] (.nm 4) (.itl (.var 0)) .nopart (.cmp .Eq (.idx (.var 4) (.int 0)) (.str "end"))))
    (.seq (.each (.nm 2) (.it1 (.bi .len true (.cons (.var 0) .nil))) (.seq (.each (.nm 3) (.it1 (.bi .len true (.cons (.var 0) .nil))) (.seq (.each (.co (.nm 5) (.co (.nm 6) (.co (.nm 7) .no))) (.itl (.call f_law_words (.cons (.idx (.var 0) (.var 3)) .nil))) (.seq (.sub (.var 1) (.var 3) (.or (.idx (.var 1) (.var 3)) (.idx (.var 1) (.var 7))))
    .nil))
    .nil))
    .nil))
    (.seq (.ret (.comp true [2] (.nm 2) (.it1 (.bi .len true (.cons (.var 0) .nil))) (.part (.idx (.var 1) (.var 2))) (.var 2)))
    .nil)))⟩
/- grammar=0 handed=1 rows=2 due=3 told=4 state=5 -/
def b_law_good : Fn := ⟨1, 6,
    (.seq (.asg (.nm 1) (.bi .list_ true (.cons (.var 0) .nil)))
    (.seq (.asg (.nm 2) (.call f_law_rows (.cons (.var 0) .nil)))
    (.seq (.asg (.nm 3) (.lst true (.cons (.bi .sorted_ true (.cons (.var 2) .nil)) (.cons (.call f_law_ending (.cons (.var 0) .nil)) (.cons (.var 2) .nil)))))
    (.seq (.asg (.nm 4) (.lst true (.cons (.call f_reached (.cons (.var 1) .nil)) (.cons (.call f_ending (.cons (.var 1) .nil)) (.cons (.call f_rows_to (.cons (.var 1) .nil)) .nil)))))
    (.seq (.ife (.or (.cmp .NotEq (.var 4) (.var 3)) (.cmp .NotEq (.var 1) (.var 0))) (.seq (.ret (.bl false))
    .nil) .nil)
    (.seq (.drop (.bm .append true (.idx (.var 4) (.int 0)) (.cons (.int 99) .nil)))
    (.seq (.drop (.bm .append true (.idx (.var 4) (.int 1)) (.cons (.int 99) .nil)))
    (.seq (.each (.nm 5) (.itd (.idx (.var 4) (.int 2))) (.seq (.drop (.bm .append true (.dget (.idx (.var 4) (.int 2)) (.var 5)) (.cons (.str "z") .nil)))
    .nil))
    (.seq (.ret (.cmp .Eq (.lst true (.cons (.call f_reached (.cons (.var 1) .nil)) (.cons (.call f_ending (.cons (.var 1) .nil)) (.cons (.call f_rows_to (.cons (.var 1) .nil)) .nil)))) (.var 3)))
    .nil)))))))))⟩
/- script=0 k=1 many=2 -/
def b_law : Fn := ⟨1, 3,
    (.seq (.ife (.not (.call f_law_good (.cons (.call f_law_states (.cons (.var 0) (.cons (.int 2) (.cons (.bin .Add true (.int 1) (.bin .Mod true (.call f_law_cell (.cons (.var 0) (.cons (.int 0) .nil))) (.int 6))) .nil)))) .nil))) (.seq (.ret (.bl false))
    .nil) .nil)
    (.seq (.each (.nm 1) (.it1 (.int 2)) (.seq (.asg (.nm 2) (.bin .Add true (.int 1) (.bin .Mod true (.bin .FloorDiv true (.call f_law_cell (.cons (.var 0) (.cons (.int 1) .nil))) (.bin .Add true (.int 1) (.bin .Mult true (.int 29) (.var 1)))) (.int 30))))
    (.seq (.ife (.not (.call f_law_good (.cons (.call f_law_states (.cons (.var 0) (.cons (.bin .Add true (.int 3) (.bin .Mult true (.int 29) (.var 1))) (.cons (.var 2) .nil)))) .nil))) (.seq (.ret (.bl false))
    .nil) .nil)
    .nil)))
    (.seq (.ret (.bl true))
    .nil)))⟩
def tab : Nat → Option Fn
  | 0 => some b_nexts_of
  | 1 => some b_rows_to
  | 2 => some b_reached
  | 3 => some b_ending
  | 4 => some b_law_cell
  | 5 => some b_law_mixed
  | 6 => some b_law_states
  | 7 => some b_law_words
  | 8 => some b_law_rows
  | 9 => some b_law_ending
  | 10 => some b_law_good
  | 11 => some b_law
  | _ => none
end Wp

/-! WpL: rules for trees: calls, loops, comprehensions, plain data. -/
namespace Wp
open PySem
theorem mon_run (T : Nat → Option Fn) (k : Nat) : MonR (run T k) (run T k) := run_mono T k k (Nat.le_refl _)
/-- a call: from what is known of it -/
theorem run_use {T : Nat → Option Fn} {n k f : Nat} {ds : List D} {M : Mem} {P Q : QK} {E : XQ} (h : run T n f ds M P fun _ _ => False) (hk : n ≤ k) (hq : ∀ d M', P d M' → Q d M') : run T k f ds M Q E :=
  run_mono T n k hk f ds M P Q _ E hq (fun _ _ z => z.elim) h
/-- a call that gives a thing and leaves the memory -/
theorem run_is {T : Nat → Option Fn} {n k f : Nat} {ds : List D} {M : Mem} {v : D} {Q : QK} {E : XQ} (h : run T n f ds M (fun d M' => d = v ∧ M' = M) fun _ _ => False) (hk : n ≤ k) (hq : Q v M) : run T k f ds M Q E :=
  run_use h hk fun d M' z => by rw [z.1, z.2]; exact hq
/-- a def's body -/
theorem run_in {T : Nat → Option Fn} {k f : Nat} {fn : Fn} {ds : List D} {M : Mem} {Q : QK} {E : XQ} (hT : T f = some fn) (hl : ds.length = fn.np)
    (h : wpS (run T k) fn.body ⟨fun _ M1 => Frz .non M1 Q, fun x M1 => Frz x M1 Q, fun _ _ => False, fun _ _ => False, fun z _ M1 => E z M1⟩ (start fn ds) M) : run T (k + 1) f ds M Q E := by
  unfold run
  rw [hT]
  exact ⟨hl, h⟩

/-! ### loops -/
theorem each_inv {T : Nat → Option Fn} {k : Nat} {s : Sx} {tg : Tg} {still : Mem → Prop} {N : Ends} (I : List D → Env → Mem → Prop)
    (hs : ∀ d ds env M, I (d :: ds) env M → still M ∧ tgW tg d env fun e => wpS (run T k) s { N with nx := I ds, ct := I ds, bk := N.nx } e M)
    (he : ∀ env M, I [] env M → still M ∧ N.nx env M) : ∀ (ds : List D) (env : Env) (M : Mem), I ds env M → eachW (wpS (run T k) s) tg still N ds env M
  | [], env, M, h => he env M h
  | d :: ds, env, M, h => by
    obtain ⟨h1, h2⟩ := hs d ds env M h
    refine ⟨h1, tgW_mono tg (fun e q => monS (mon_run T k) s (N := { N with nx := I ds, ct := I ds, bk := N.nx }) ⟨fun e M q => ?_, fun _ _ q => q, fun _ _ q => q, fun e M q => ?_, fun _ _ _ q => q⟩ q) h2⟩
    · exact each_inv I hs he ds e M q
    · exact each_inv I hs he ds e M q
/-- a while loop: n turns are enough -/
theorem loop_inv {T : Nat → Option Fn} {k : Nat} {s : Sx} {test : Env → Mem → BK → Prop} {N : Ends} (ht : ∀ e M q q', (∀ c M, q c M → q' c M) → test e M q → test e M q') (I : Nat → Env → Mem → Prop)
    (hs : ∀ n env M, I n env M → test env M fun c M1 => match c with
      | true => ∃ m, m < n ∧ wpS (run T k) s { N with nx := I m, ct := I m, bk := N.nx } env M1
      | false => N.nx env M1) : ∀ (n j : Nat) (env : Env) (M : Mem), I j env M → j < n → loopW test (wpS (run T k) s) N n env M
  | 0, j, env, M, h, hj => absurd hj (Nat.not_lt_zero _)
  | n + 1, j, env, M, h, hj => by
    unfold loopW
    refine ht _ _ _ _ (fun c M1 q => ?_) (hs j env M h)
    cases c with
    | false => exact q
    | true =>
      obtain ⟨m, hm, q⟩ := q
      exact monS (mon_run T k) s (N := { N with nx := I m, ct := I m, bk := N.nx }) ⟨fun e M q => loop_inv ht I hs n m e M q (by omega), fun _ _ q => q, fun _ _ q => q, fun e M q => loop_inv ht I hs n m e M q (by omega), fun _ _ _ q => q⟩ q

/-! ### comprehensions -/
abbrev stepC (R : Nat → List D → Mem → QK → XQ → Prop) (tg : Tg) (cond elt : Ex) : D → Env → Mem → (Option D → Mem → Prop) → Prop := fun d e M Q => tgW tg d e fun e' => wpC R cond e' M (fun b M1 => match b with
        | true => wpE R elt e' M1 (fun y M2 => Q (some y) M2) fun _ _ => False
        | false => Q none M1) fun _ _ => False
theorem stepC_mono {T : Nat → Option Fn} {k : Nat} {tg : Tg} {cond elt : Ex} (d : D) (e : Env) (M : Mem) (P P' : Option D → Mem → Prop) (hp : ∀ o M, P o M → P' o M) (h : stepC (run T k) tg cond elt d e M P) : stepC (run T k) tg cond elt d e M P' :=
  tgW_mono tg (fun e' h => (mon _ _ (mon_run T k) cond).C (fun b M1 h => by
    cases b with
    | true => exact (mon _ _ (mon_run T k) elt).E (fun y M2 h => hp _ _ h) (fun _ _ z => z) h
    | false => exact hp _ _ h) (fun _ _ z => z) h) h
theorem comp_inv {T : Nat → Option Fn} {k : Nat} {tg : Tg} {cond elt : Ex} {still : Mem → Prop} {env : Env} {Q : AK} (I : List D → List D → Mem → Prop)
    (hs : ∀ d ds acc M, I (d :: ds) acc M → still M ∧ stepC (run T k) tg cond elt d env M fun o M1 => match o with
      | some y => acc.length < sizeLine ∧ I ds (acc ++ [y]) M1
      | none => I ds acc M1)
    (he : ∀ acc M, I [] acc M → still M ∧ Q acc M) : ∀ (ds acc : List D) (M : Mem), I ds acc M → compW (stepC (run T k) tg cond elt) still env ds acc M Q
  | [], acc, M, h => he acc M h
  | d :: ds, acc, M, h => by
    obtain ⟨h1, h2⟩ := hs d ds acc M h
    refine ⟨h1, stepC_mono d env M _ _ (fun o M1 q => ?_) h2⟩
    cases o with
    | some y => exact ⟨q.1, comp_inv I hs he ds _ M1 q.2⟩
    | none => exact comp_inv I hs he ds _ M1 q
/-- .. that leaves the memory -/
theorem comp_is {step : D → Env → Mem → (Option D → Mem → Prop) → Prop} {still : Mem → Prop} {env : Env} {M : Mem} {Q : AK} (f : D → Option D) (hst : still M) : ∀ (ds acc : List D),
    (∀ d ∈ ds, ∀ P : Option D → Mem → Prop, P (f d) M → step d env M P) → acc.length + ds.length ≤ sizeLine → Q (acc ++ ds.filterMap f) M → compW step still env ds acc M Q
  | [], acc, _, _, q => ⟨hst, by rw [List.filterMap_nil, List.append_nil] at q; exact q⟩
  | d :: ds, acc, hs, hl, q => by
    rw [List.length_cons] at hl
    refine ⟨hst, hs d (List.mem_cons_self ..) _ ?_⟩
    rw [List.filterMap_cons] at q
    cases e : f d with
    | none =>
      rw [e] at q
      exact comp_is f hst ds acc (fun d hd => hs d (List.mem_cons_of_mem _ hd)) (by omega) q
    | some y =>
      rw [e] at q
      exact ⟨by omega, comp_is f hst ds (acc ++ [y]) (fun d hd => hs d (List.mem_cons_of_mem _ hd)) (by rw [List.length_append, List.length_cons, List.length_nil]; omega) (by rw [List.append_assoc]; exact q)⟩

/-! ### memory -/
theorem Mem.upd_same {M : Mem} {a : Addr} {o : Ob} : M.upd a o a = some o := if_pos rfl
theorem Mem.upd_ne {M : Mem} {a b : Addr} {o : Ob} (h : b ≠ a) : M.upd a o b = M b := if_neg h
theorem Mem.del_ne {M : Mem} {a b : Addr} (h : b ≠ a) : M.del a b = M b := if_neg h
theorem Mem.upd_del {M : Mem} {a : Addr} {o : Ob} (h : M a = none) : (M.upd a o).del a = M := funext fun b => by
  by_cases e : b = a
  · subst e; unfold Mem.del; rw [if_pos rfl, h]
  · rw [Mem.del_ne e, Mem.upd_ne e]
theorem Mem.upd_upd {M : Mem} {a : Addr} {o o' : Ob} : (M.upd a o).upd a o' = M.upd a o' := funext fun b => by
  by_cases e : b = a
  · subst e; rw [Mem.upd_same, Mem.upd_same]
  · rw [Mem.upd_ne e, Mem.upd_ne e, Mem.upd_ne e]
theorem Mem.fresh_ne {M : Mem} {a p : Addr} {o : Ob} (h : M a = some o) (hp : M p = none) : a ≠ p := fun e => by rw [e, hp] at h; cases h

/-! ### lists set beside [] -/
theorem eq_nil {l : List D} {M : Mem} {Q : QK} (h : Q (.bl l.isEmpty) M) : eqW false (.lst l) (.lst []) M Q := by
  unfold eqW
  rw [show eqA (.lst l) (.lst []) = none from rfl]
  dsimp only
  unfold eqL
  cases l with
  | nil =>
    refine ⟨by decide, by decide, ?_⟩
    exact h
  | cons a b =>
    exact h
theorem ne_nil {l : List D} {M : Mem} {Q : QK} (h : Q (.bl (!l.isEmpty)) M) : eqW true (.lst l) (.lst []) M Q := by
  unfold eqW
  rw [show eqA (.lst l) (.lst []) = none from rfl]
  dsimp only
  unfold eqL
  cases l with
  | nil =>
    refine ⟨by decide, by decide, ?_⟩
    exact h
  | cons a b =>
    exact h
end Wp
namespace Wp
open PySem
theorem bl_no {b : Bool} (h1 : D.bl b = .bl true → False) (h2 : D.bl b = .bl false → False) : False := by
  cases b
  · exact h2 rfl
  · exact h1 rfl
theorem bl_is {b c : Bool} (h : D.bl b = .bl c) : b = c := by
  cases h; rfl
end Wp
namespace Wp
open PySem
theorem asS_loc {M : Mem} {a : Addr} {ds : List D} (h : M a = some (.lst ds)) : asS M (.loc a) = some ds := by
  show (match M a with
    | some (.lst ds) => some ds
    | _ => none) = _
  rw [h]
theorem asL_loc {M : Mem} {a : Addr} {ds : List D} (h : M a = some (.lst ds)) : asL M (.loc a) = some ds := asS_loc h
theorem asLT_loc {M : Mem} {a : Addr} {ds : List D} (h : M a = some (.lst ds)) : asLT M (.loc a) = some ds := by
  show (match M a with
    | some (.lst ds) => some ds
    | _ => none) = _
  rw [h]
theorem ixN_in {n : Nat} {i : Int} (h0 : 0 ≤ i) (h1 : i < n) : ixN n i = some i.toNat := by
  unfold ixN
  rw [if_pos h0, if_pos h1]
theorem atI_in {α : Type} {xs : List α} {i : Int} (h0 : 0 ≤ i) (h1 : i < xs.length) : ∃ x, xs[i.toNat]? = some x ∧ atI xs i = some x := by
  have h : i.toNat < xs.length := by omega
  refine ⟨xs[i.toNat], List.getElem?_eq_getElem h, ?_⟩
  unfold atI
  rw [ixN_in h0 h1]
  exact List.getElem?_eq_getElem h
theorem put_loc {M : Mem} {a : Addr} {xs ys : List D} {k : Int} {v : D} {Q : Mem → Prop} (h : M a = some (.lst xs)) (h0 : 0 ≤ k) (h1 : k < xs.length) (e : xs.set k.toNat v = ys) (q : Q (M.upd a (.lst ys))) : putW (.loc a) (.int k) v M Q := by
  subst e
  show (match M a with
    | some (.lst xs) => match ixN xs.length k with
      | some j => Q (M.upd a (.lst (xs.set j v)))
      | none => False
    | _ => False)
  rw [h]
  show (match ixN xs.length k with
      | some j => Q (M.upd a (.lst (xs.set j v)))
      | none => False)
  rw [ixN_in h0 h1]
  exact q
end Wp
namespace Wp
open PySem
theorem log2_small {n : Nat} (h : n < 2 ^ 200) : n.log2 < 200 := by
  by_cases e : n = 0
  · rw [e]; decide
  · exact (Nat.log2_lt e).mpr h
theorem mul_ok {i j : Int} (h1 : i.natAbs < 2 ^ 200) (h2 : j.natAbs < 2 ^ 200) : mulOk i j := by
  have a := log2_small h1
  have b := log2_small h2
  unfold mulOk
  omega
end Wp
namespace Wp
open PySem
theorem eq_loc_nil {a : Addr} {l : List D} {M : Mem} {Q : QK} (e : M a = some (.lst l)) (h : Q (.bl l.isEmpty) M) : eqW false (.loc a) (.lst []) M Q := by
  unfold eqW
  rw [show eqA (.loc a) (.lst []) = none from rfl]
  dsimp only
  unfold eqL
  rw [asL_loc e]
  cases l with
  | nil =>
    show eqP _ _ _ _ _
    unfold eqP toPyM toPy1
    dsimp only
    rw [e]
    exact ⟨by decide, by decide, h⟩
  | cons x xs => exact h
theorem ne_loc_nil {a : Addr} {l : List D} {M : Mem} {Q : QK} (e : M a = some (.lst l)) (h : Q (.bl (!l.isEmpty)) M) : eqW true (.loc a) (.lst []) M Q := by
  unfold eqW
  rw [show eqA (.loc a) (.lst []) = none from rfl]
  dsimp only
  unfold eqL
  rw [asL_loc e]
  cases l with
  | nil =>
    show eqP _ _ _ _ _
    unfold eqP toPyM toPy1
    dsimp only
    rw [e]
    exact ⟨by decide, by decide, h⟩
  | cons x xs => exact h
theorem cut_len {α : Type} (xs : List α) (lo hi : Option Int) : (cut xs lo hi).length ≤ xs.length := by
  unfold cut
  rw [List.length_take, List.length_drop]
  omega
theorem cut_map {α β : Type} (f : α → β) (xs : List α) (lo hi : Option Int) : cut (xs.map f) lo hi = (cut xs lo hi).map f := by
  unfold cut
  rw [List.map_take, List.map_drop, List.length_map]
end Wp
namespace Wp
open PySem
/-- a length that is written out -/
theorem lok {n : Nat} (h : Nat.ble n sizeLine = true) : n ≤ sizeLine := Nat.le_of_ble_eq_true h
end Wp
namespace Wp
open PySem
theorem atI_mem {α : Type} {xs : List α} {i : Int} (h0 : 0 ≤ i) (h1 : i < xs.length) : ∃ x, x ∈ xs ∧ atI xs i = some x := by
  obtain ⟨x, e1, e2⟩ := atI_in h0 h1
  exact ⟨x, List.mem_of_getElem? e1, e2⟩
end Wp
namespace Wp
theorem all_nil {α : Type} {P : α → Prop} : ∀ x ∈ ([] : List α), P x := fun x h => by cases h
theorem all_cons {α : Type} {P : α → Prop} {a : α} {l : List α} (h : P a) (t : ∀ x ∈ l, P x) : ∀ x ∈ a :: l, P x := fun x hx => by
  cases hx with
  | head => exact h
  | tail _ hx => exact t x hx
theorem all_app {α : Type} {P : α → Prop} {k l : List α} (h : ∀ x ∈ k, P x) (t : ∀ x ∈ l, P x) : ∀ x ∈ k ++ l, P x := fun x hx => by
  rcases List.mem_append.mp hx with hx | hx
  · exact h x hx
  · exact t x hx
end Wp
namespace Wp
open PySem
def bmL : Bm → Bool
  | .append => true
  | .extend => true
  | .index => true
  | .pop => true
  | .reverse_ => true
  | .clear => true
  | .insert => true
  | _ => false
theorem rcv_loc {b : Bm} {M : Mem} {a : Addr} {ds : List D} (hb : bmL b = true) (h : M a = some (.lst ds)) : rcvW b (.loc a) M := by
  unfold rcvW
  cases b <;> first | (cases hb; done) | (show (asL M (.loc a)).isSome = true; rw [asL_loc h]; rfl)
theorem append_loc {fr : Bool} {M : Mem} {a : Addr} {xs : List D} {y : D} {Q : QK} (h : M a = some (.lst xs)) (hl : xs.length < sizeLine) (q : Q .non (M.upd a (.lst (xs ++ [y])))) : bmW .append fr (.loc a) [y] M Q := by
  show (match M a with
    | some (.lst xs) => xs.length < sizeLine ∧ Q .non (M.upd a (.lst (xs ++ [y])))
    | _ => False)
  rw [h]
  exact ⟨hl, q⟩
theorem newL_fz {ds : List D} {M : Mem} {Q : QK} (hl : ds.length ≤ sizeLine) (q : Q (.lst ds) M) : newL true ds M Q := ⟨hl, q⟩
theorem newL_at {ds : List D} {M : Mem} {Q : QK} (hl : ds.length ≤ sizeLine) (q : ∀ p, M p = none → Q (.loc p) (M.upd p (.lst ds))) : newL false ds M Q := ⟨hl, q⟩
end Wp

/-! PwShapes: shapes and what fits them, plain. -/
namespace Wp
open PySem
inductive Sh where
  | nothing | number (lo hi : Int) | text (m : Int) | list (s : Sh) (m : Int) | pair (a b : Sh) | choice (ss : List Sh)
mutual
def Sh.d : Sh → D
  | .nothing => .tup [.str "nothing"]
  | .number lo hi => .tup [.str "number", .int lo, .int hi]
  | .text m => .tup [.str "text", .int m]
  | .list s m => .tup [.str "list", s.d, .int m]
  | .pair a b => .tup [.str "pair", a.d, b.d]
  | .choice ss => .tup [.str "choice", .tup (Sh.ds ss)]
def Sh.ds : List Sh → List D
  | [] => []
  | s :: ss => s.d :: Sh.ds ss
end
mutual
/-- how deep calls go -/
def Sh.lev : Sh → Nat
  | .nothing => 1
  | .number _ _ => 2
  | .text _ => 2
  | .list s _ => s.lev + 2
  | .pair a b => a.lev + b.lev + 2
  | .choice ss => Sh.levs ss + 2
def Sh.levs : List Sh → Nat
  | [] => 0
  | s :: ss => s.lev + Sh.levs ss
end
theorem Sh.ds_len : ∀ ss, (Sh.ds ss).length = ss.length
  | [] => rfl
  | s :: ss => congrArg Nat.succ (Sh.ds_len ss)
mutual
/-- a tree without places, of fitting sizes -/
def okD : D → Bool
  | .non => true
  | .bl _ => true
  | .int _ => true
  | .str z => decide (z.length ≤ sizeLine)
  | .tup ds => decide (ds.length ≤ sizeLine) && okDs ds
  | .lst ds => decide (ds.length ≤ sizeLine) && okDs ds
  | .scr ns => decide (ns.length ≤ sizeLine)
  | .emp => true
  | .loc _ => false
def okDs : List D → Bool
  | [] => true
  | d :: ds => okD d && okDs ds
end
theorem okDs_of : ∀ {ds : List D}, okDs ds = true → ∀ d ∈ ds, okD d = true
  | [], _, d, hd => by cases hd
  | x :: ds, h, d, hd => by
    unfold okDs at h
    rw [Bool.and_eq_true] at h
    cases hd with
    | head => exact h.1
    | tail _ hd => exact okDs_of h.2 d hd
theorem okDs_iff : ∀ {ds : List D}, (∀ d ∈ ds, okD d = true) → okDs ds = true
  | [], _ => rfl
  | x :: ds, h => by
    unfold okDs
    rw [Bool.and_eq_true]
    exact ⟨h x (List.mem_cons_self ..), okDs_iff fun d hd => h d (List.mem_cons_of_mem _ hd)⟩
def isW : D → Bool
  | .int _ => true
  | _ => false
def okSign (c : Nat) : Bool := decide (32 ≤ c) && decide (c ≤ 126) && decide (c ≠ 37)
def textB (m : Int) : D → Bool
  | .str z => decide ((z.length : Int) ≤ m) && z.cps.toList.all okSign
  | _ => false
/-- the things in a list -/
def itemsB : D → Option (List D)
  | .lst ds => some ds
  | .scr ns => some (ns.map .int)
  | _ => none
mutual
def fitsB : Sh → D → Bool
  | .nothing, t => match t with
    | .non => true
    | _ => false
  | .number lo hi, t => match t with
    | .int i => decide (lo ≤ i) && decide (i ≤ hi)
    | _ => false
  | .text m, t => textB m t
  | .list s m, t => match itemsB t with
    | some ds => decide ((ds.length : Int) ≤ m) && ds.all (fitsB s)
    | none => false
  | .pair a b, t => match t with
    | .tup [x, y] => fitsB a x && fitsB b y
    | _ => false
  | .choice ss, t => match t with
    | .tup [.str z, .int i, x] => decide (z = "of") && (decide (0 ≤ i) && fitsN ss i.toNat x)
    | _ => false
def fitsN : List Sh → Nat → D → Bool
  | [], _, _ => false
  | s :: _, 0, t => fitsB s t
  | _ :: ss, n + 1, t => fitsN ss n t
end
end Wp
namespace Wp
open PySem
mutual
theorem repD_ok {a : Addr} {xs : List D} : ∀ {d : D}, okD d = true → repD a xs d = d
  | .non, _ => rfl
  | .bl _, _ => rfl
  | .int _, _ => rfl
  | .str _, _ => rfl
  | .tup ds, h => by
    unfold okD at h
    rw [Bool.and_eq_true] at h
    exact congrArg D.tup (repDs_ok h.2)
  | .lst ds, h => by
    unfold okD at h
    rw [Bool.and_eq_true] at h
    exact congrArg D.lst (repDs_ok h.2)
  | .scr _, _ => rfl
  | .emp, _ => rfl
  | .loc _, h => by cases h
theorem repDs_ok {a : Addr} {xs : List D} : ∀ {ds : List D}, okDs ds = true → repDs a xs ds = ds
  | [], _ => rfl
  | d :: ds, h => by
    unfold okDs at h
    rw [Bool.and_eq_true] at h
    show repD a xs d :: repDs a xs ds = _
    rw [repD_ok h.1, repDs_ok h.2]
end
theorem repD_loc {a : Addr} {xs : List D} : repD a xs (.loc a) = .lst xs := if_pos rfl
/-- at a return: a list in the memory that the value does not hold is let go -/
theorem frz_drop {a : Addr} {xs : List D} {d : D} {M : Mem} {Q : QK} (h : M a = some (.lst xs)) (hd : okD d = true) (q : Frz d (M.del a) Q) : Frz d M Q :=
  .step h (by rw [repD_ok hd]; exact q)
theorem okD_lst {ds : List D} (h : ds.length ≤ sizeLine) (h2 : ∀ d ∈ ds, okD d = true) : okD (.lst ds) = true := by
  unfold okD
  rw [Bool.and_eq_true]
  exact ⟨decide_eq_true h, okDs_iff h2⟩
theorem okD_tp {ds : List D} (h : ds.length ≤ sizeLine) (h2 : ∀ d ∈ ds, okD d = true) : okD (.tup ds) = true := by
  unfold okD
  rw [Bool.and_eq_true]
  exact ⟨decide_eq_true h, okDs_iff h2⟩
end Wp

/-! PwText: texts, plain. -/
namespace Wp
open PySem
/-- all signs are such as a text may hold -/
def okT (z : Str) : Bool := z.cps.toList.all okSign
theorem app_cps (a b : Str) : (a ++ b).cps.toList = a.cps.toList ++ b.cps.toList := by
  show (a.cps ++ b.cps).toList = _
  rw [Array.toList_append]
theorem app_len (a b : Str) : (a ++ b).length = a.length + b.length := Array.size_append
theorem okT_app (a b : Str) : okT (a ++ b) = (okT a && okT b) := by
  unfold okT
  rw [app_cps, List.all_append]
theorem rep_len (z : Str) (n : Nat) : (repS z n).length = z.length * n := by
  show (List.replicate n z.cps.toList).flatten.toArray.size = _
  rw [List.size_toArray, PyProof.Rows.lm_len_rep_flat, Array.length_toList, Nat.mul_comm]
  rfl
theorem okT_rep (z : Str) (h : okT z = true) (n : Nat) : okT (repS z n) = true := by
  show ((List.replicate n z.cps.toList).flatten).all okSign = true
  rw [List.all_eq_true]
  intro x hx
  obtain ⟨l, hl, hx⟩ := List.mem_flatten.mp hx
  rw [(List.mem_replicate.mp hl).2] at hx
  exact List.all_eq_true.mp h x hx
theorem okT_rep_not (z : Str) (h : okT z = false) {n : Nat} (hn : 0 < n) : okT (repS z n) = false := by
  show ((List.replicate n z.cps.toList).flatten).all okSign = false
  match n, hn with
  | n + 1, _ =>
    rw [List.replicate_succ, List.flatten_cons, List.all_append]
    rw [show z.cps.toList.all okSign = false from h]
    rfl
theorem cut_mem {α : Type} {xs : List α} {lo hi : Option Int} {x : α} (h : x ∈ cut xs lo hi) : x ∈ xs := by
  unfold cut at h
  exact List.mem_of_mem_drop (List.mem_of_mem_take h)
theorem cut_to {α : Type} (xs : List α) {i : Int} (h : 0 ≤ i) : cut xs none (some i) = xs.take i.toNat := by
  unfold cut slN
  simp only [Nat.sub_zero, List.drop_zero]
  rw [if_neg (by omega)]
  by_cases e : i.toNat ≤ xs.length
  · rw [Nat.min_eq_left e]
  · rw [Nat.min_eq_right (by omega), List.take_of_length_le (by omega), List.take_of_length_le (by omega)]
theorem fits_text_good {z : Str} {m : Int} (h1 : (z.length : Int) ≤ m) (h2 : okT z = true) : fitsB (.text m) (.str z) = true := by
  show (decide ((z.length : Int) ≤ m) && okT z) = true
  rw [decide_eq_true h1, h2]; rfl
theorem fits_text_long {z : Str} {m : Int} (h1 : m < (z.length : Int)) : fitsB (.text m) (.str z) = false := by
  show (decide ((z.length : Int) ≤ m) && okT z) = false
  rw [decide_eq_false (by omega)]; rfl
theorem fits_text_odd {z : Str} {m : Int} (h2 : okT z = false) : fitsB (.text m) (.str z) = false := by
  show (decide ((z.length : Int) ≤ m) && okT z) = false
  rw [h2, Bool.and_false]
end Wp

/-! PwSm: plain values of fitting sizes, set beside themselves. -/
namespace Wp
open PySem
mutual
/-- values: of fitting sizes, plain -/
def smV : D → Bool
  | .non => true
  | .bl _ => true
  | .int i => decide (i.natAbs < 10000000000000000000000000000000000000000)
  | .str z => decide (z.length ≤ 1000) && PyData.strOk z
  | .tup ds => decide (ds.length ≤ 1000) && smVs ds
  | .lst ds => decide (ds.length ≤ 1000) && smVs ds
  | _ => false
def smVs : List D → Bool
  | [] => true
  | d :: ds => smV d && smVs ds
end
theorem smVs_of : ∀ {ds : List D}, smVs ds = true → ∀ d ∈ ds, smV d = true
  | [], _, d, hd => by cases hd
  | x :: ds, h, d, hd => by
    unfold smVs at h
    rw [Bool.and_eq_true] at h
    cases hd with
    | head => exact h.1
    | tail _ hd => exact smVs_of h.2 d hd
theorem smVs_iff : ∀ {ds : List D}, (∀ d ∈ ds, smV d = true) → smVs ds = true
  | [], _ => rfl
  | x :: ds, h => by
    unfold smVs
    rw [Bool.and_eq_true]
    exact ⟨h x (List.mem_cons_self ..), smVs_iff fun d hd => h d (List.mem_cons_of_mem _ hd)⟩
theorem smV_tp {ds : List D} (h : ds.length ≤ 1000) (h2 : ∀ d ∈ ds, smV d = true) : smV (.tup ds) = true := by
  unfold smV
  rw [Bool.and_eq_true]
  exact ⟨decide_eq_true h, smVs_iff h2⟩
theorem smV_ls {ds : List D} (h : ds.length ≤ 1000) (h2 : ∀ d ∈ ds, smV d = true) : smV (.lst ds) = true := by
  unfold smV
  rw [Bool.and_eq_true]
  exact ⟨decide_eq_true h, smVs_iff h2⟩
theorem smV_tupH {ds : List D} (h : smV (.tup ds) = true) : ds.length ≤ 1000 ∧ ∀ d ∈ ds, smV d = true := by
  unfold smV at h
  rw [Bool.and_eq_true] at h
  exact ⟨of_decide_eq_true h.1, smVs_of h.2⟩
theorem smV_lstH {ds : List D} (h : smV (.lst ds) = true) : ds.length ≤ 1000 ∧ ∀ d ∈ ds, smV d = true := by
  unfold smV at h
  rw [Bool.and_eq_true] at h
  exact ⟨of_decide_eq_true h.1, smVs_of h.2⟩
mutual
theorem smV_ok : ∀ {d : D}, smV d = true → okD d = true
  | .non, _ => rfl
  | .bl _, _ => rfl
  | .int _, _ => rfl
  | .str z, h => by
    have h : (decide (z.length ≤ 1000) && PyData.strOk z) = true := h
    rw [Bool.and_eq_true] at h
    exact decide_eq_true (Nat.le_trans (of_decide_eq_true h.1) (by decide))
  | .tup ds, h => by
    unfold smV at h
    rw [Bool.and_eq_true] at h
    unfold okD
    rw [decide_eq_true (Nat.le_trans (of_decide_eq_true h.1) (by decide)), smVs_ok h.2]; rfl
  | .lst ds, h => by
    unfold smV at h
    rw [Bool.and_eq_true] at h
    unfold okD
    rw [decide_eq_true (Nat.le_trans (of_decide_eq_true h.1) (by decide)), smVs_ok h.2]; rfl
theorem smVs_ok : ∀ {ds : List D}, smVs ds = true → okDs ds = true
  | [], _ => rfl
  | d :: ds, h => by
    unfold smVs at h
    rw [Bool.and_eq_true] at h
    unfold okDs
    rw [smV_ok h.1, smVs_ok h.2]; rfl
end
mutual
/-- how deep -/
def dep : D → Nat
  | .tup ds => deps ds + 1
  | .lst ds => deps ds + 1
  | _ => 0
def deps : List D → Nat
  | [] => 0
  | d :: ds => max (dep d) (deps ds)
end
theorem deps_le : ∀ {ds : List D} {n : Nat}, (∀ d ∈ ds, dep d ≤ n) → deps ds ≤ n
  | [], n, _ => Nat.zero_le _
  | d :: ds, n, h => by
    unfold deps
    have := h d (List.mem_cons_self ..)
    have := deps_le (ds := ds) fun x hx => h x (List.mem_cons_of_mem _ hx)
    omega
theorem deps_mem : ∀ {ds : List D}, ∀ d ∈ ds, dep d ≤ deps ds
  | x :: ds, d, hd => by
    unfold deps
    rcases List.mem_cons.mp hd with rfl | hd
    · omega
    · have := deps_mem d hd
      omega
mutual
theorem toPy_sm : ∀ {v : D}, smV v = true → ∃ p, toPy v = some p ∧ p.canLay0 = true ∧ p.depth ≤ dep v ∧ PyData.eqv p p = true
  | .non, _ => ⟨.none, rfl, by decide, by decide, by decide⟩
  | .bl b, _ => ⟨.bool b, rfl, by cases b <;> decide, by cases b <;> decide, by cases b <;> decide⟩
  | .int i, _ => ⟨.int i, rfl, rfl, by unfold PyData.depth; exact Nat.zero_le _, by show (i == i) = true; exact beq_self_eq_true i⟩
  | .str z, h => ⟨.str z, rfl, by
      have h : (decide (z.length ≤ 1000) && PyData.strOk z) = true := h
      rw [Bool.and_eq_true] at h
      exact h.2, by unfold PyData.depth; exact Nat.zero_le _, by show (z == z) = true; exact beq_self_eq_true z⟩
  | .tup ds, h => by
    obtain ⟨ps, e, c, d, q⟩ := toPys_sm (smV_tupH h).2
    refine ⟨.tuple ps, by unfold toPy; rw [e]; rfl, by unfold PyData.canLay0; exact c, ?_, by unfold PyData.eqv; exact q⟩
    unfold PyData.depth dep
    omega
  | .lst ds, h => by
    obtain ⟨ps, e, c, d, q⟩ := toPys_sm (smV_lstH h).2
    refine ⟨.list ps, by unfold toPy; rw [e]; rfl, by unfold PyData.canLay0; exact c, ?_, by unfold PyData.eqv; exact q⟩
    unfold PyData.depth dep
    omega
theorem toPys_sm : ∀ {ds : List D}, (∀ d ∈ ds, smV d = true) → ∃ ps, toPys ds = some ps ∧ PyData.canLayAll0 ps = true ∧ PyData.depthAll ps ≤ deps ds ∧ PyData.eqvAll ps ps = true
  | [], _ => ⟨[], rfl, by decide, by decide, by decide⟩
  | d :: ds, h => by
    obtain ⟨p, e, c, dd, q⟩ := toPy_sm (h d (List.mem_cons_self ..))
    obtain ⟨ps, e2, c2, dd2, q2⟩ := toPys_sm (ds := ds) fun x hx => h x (List.mem_cons_of_mem _ hx)
    refine ⟨p :: ps, by unfold toPys; rw [e, e2], by unfold PyData.canLayAll0; rw [c, c2]; rfl, ?_, by unfold PyData.eqvAll; rw [q, q2]; rfl⟩
    unfold PyData.depthAll deps
    omega
end
theorem toPy1_sm {M : Mem} {v : D} (h : smV v = true) : toPy1 M v = toPy v := by
  cases v <;> first
    | rfl
    | (unfold smV at h; cases h)
theorem toPys1_sm {M : Mem} : ∀ {ds : List D}, (∀ d ∈ ds, smV d = true) → toPys1 M ds = toPys ds
  | [], _ => rfl
  | d :: ds, h => by
    unfold toPys1 toPys
    rw [toPy1_sm (h d (List.mem_cons_self ..)), toPys1_sm fun x hx => h x (List.mem_cons_of_mem _ hx)]
theorem toPyM_sm {M : Mem} {v : D} (h : smV v = true) : toPyM M v = toPy v := by
  cases v with
  | tup ds =>
    show (toPys1 M ds).map PyData.tuple = (toPys ds).map PyData.tuple
    rw [toPys1_sm (smV_tupH h).2]
  | _ => exact toPy1_sm (M := M) h
theorem eqP_self {v : D} (h : smV v = true) (hd : dep v ≤ 60) {neg : Bool} {M : Mem} {Q : QK} (q : Q (.bl (!neg)) M) : eqP neg v v M Q := by
  obtain ⟨p, e, c, d, r⟩ := toPy_sm h
  have e2 : toPyM M v = some p := by rw [toPyM_sm h]; exact e
  unfold eqP
  rw [e2]
  refine ⟨?_, ?_, ?_⟩
  · show (p.canLay0 && decide (p.depth ≤ 64)) = true
    rw [c, decide_eq_true (by omega)]; rfl
  · show (p.canLay0 && decide (p.depth ≤ 64)) = true
    rw [c, decide_eq_true (by omega)]; rfl
  · rw [r]
    cases neg <;> exact q
theorem eq_self {v : D} (h : smV v = true) (hd : dep v ≤ 60) {neg : Bool} {M : Mem} {Q : QK} (q : Q (.bl (!neg)) M) : eqW neg v v M Q := by
  cases v
  case non => cases neg <;> exact q
  case bl b =>
    show Q (.bl (if neg then !(decide (b = b)) else decide (b = b))) M
    rw [decide_eq_true rfl]
    cases neg <;> exact q
  case int b =>
    show Q (.bl (if neg then !(decide (b = b)) else decide (b = b))) M
    rw [decide_eq_true rfl]
    cases neg <;> exact q
  case str b =>
    show Q (.bl (if neg then !(decide (b = b)) else decide (b = b))) M
    rw [decide_eq_true rfl]
    cases neg <;> exact q
  case tup ds =>
    show (match eqU (.tup ds) (.tup ds) with
      | true => Q (.bl neg) M
      | false => eqP neg (.tup ds) (.tup ds) M Q)
    rw [show eqU (.tup ds) (.tup ds) = false from by cases ds <;> rfl]
    exact eqP_self h hd q
  case lst ds =>
    show (if ds.length = ds.length then eqP neg (.lst ds) (.lst ds) M Q else Q (.bl neg) M)
    rw [if_pos rfl]
    exact eqP_self h hd q
  all_goals cases h
theorem eqA_self {v : D} (h : smV v = true) : eqA v v = some true ∨ eqA v v = none := by
  cases v
  case non => exact .inl rfl
  case bl b => exact .inl (congrArg some (decide_eq_true rfl))
  case int b => exact .inl (congrArg some (decide_eq_true rfl))
  case str b => exact .inl (congrArg some (decide_eq_true rfl))
  case tup ds => exact .inr rfl
  case lst ds => exact .inr rfl
  all_goals cases h
theorem eqL_self {v : D} (h : smV v = true) (hd : dep v ≤ 60) {neg : Bool} {M : Mem} {Q : QK} (q : Q (.bl (!neg)) M) : eqL neg v v M Q := by
  cases v
  case tup ds =>
    show (match eqU (.tup ds) (.tup ds) with
      | true => Q (.bl neg) M
      | false => eqP neg (.tup ds) (.tup ds) M Q)
    rw [show eqU (.tup ds) (.tup ds) = false from by cases ds <;> rfl]
    exact eqP_self h hd q
  case lst ds =>
    show (if ds.length = ds.length then eqP neg (.lst ds) (.lst ds) M Q else Q (.bl neg) M)
    rw [if_pos rfl]
    exact eqP_self h hd q
  case non => exact eqP_self h hd q
  case bl => exact eqP_self h hd q
  case int => exact eqP_self h hd q
  case str => exact eqP_self h hd q
  all_goals cases h
/-- where a value is set beside itself -/
theorem selfM {v : D} {A : Bool → Prop} {G : Prop} (e : eqA v v = some true ∨ eqA v v = none) (hG : A true → G) (hA : A true) : (match eqA v v with
  | some b => A b
  | none => G) := by
  rcases e with e | e
  · rw [e]; exact hA
  · rw [e]; exact hG hA
end Wp

/-! PwPl: plain data (no truths) set beside one another: alike just where they are the same. -/
namespace Wp
open PySem
mutual
def plV : D → Bool
  | .non => true
  | .int _ => true
  | .str z => PyData.strOk z
  | .tup ds => plVs ds
  | .lst ds => plVs ds
  | _ => false
def plVs : List D → Bool
  | [] => true
  | d :: ds => plV d && plVs ds
end
theorem plVs_of : ∀ {ds : List D}, plVs ds = true → ∀ d ∈ ds, plV d = true
  | [], _, d, hd => by cases hd
  | x :: ds, h, d, hd => by
    unfold plVs at h
    rw [Bool.and_eq_true] at h
    cases hd with
    | head => exact h.1
    | tail _ hd => exact plVs_of h.2 d hd
theorem plVs_iff : ∀ {ds : List D}, (∀ d ∈ ds, plV d = true) → plVs ds = true
  | [], _ => by unfold plVs; rfl
  | x :: ds, h => by
    unfold plVs
    rw [Bool.and_eq_true]
    exact ⟨h x (List.mem_cons_self ..), plVs_iff fun d hd => h d (List.mem_cons_of_mem _ hd)⟩
theorem plV_ls {ds : List D} (h : ∀ d ∈ ds, plV d = true) : plV (.lst ds) = true := by unfold plV; exact plVs_iff h
theorem plV_tp {ds : List D} (h : ∀ d ∈ ds, plV d = true) : plV (.tup ds) = true := by unfold plV; exact plVs_iff h
theorem plV_ints (bs : List Int) : plV (.lst (bs.map D.int)) = true := plV_ls fun d hd => by
  obtain ⟨b, _, rfl⟩ := List.mem_map.mp hd
  unfold plV; rfl
mutual
theorem toPy_pl : ∀ {v : D}, plV v = true → ∃ p, toPy v = some p ∧ p.canLay0 = true ∧ p.depth ≤ dep v
  | .non, _ => ⟨.none, rfl, by decide, by decide⟩
  | .int i, _ => ⟨.int i, rfl, rfl, by unfold PyData.depth; exact Nat.zero_le _⟩
  | .str z, h => ⟨.str z, rfl, by unfold plV at h; exact h, by unfold PyData.depth; exact Nat.zero_le _⟩
  | .tup ds, h => by
    unfold plV at h
    obtain ⟨ps, e, c, d⟩ := toPys_pl (plVs_of h)
    refine ⟨.tuple ps, by unfold toPy; rw [e]; rfl, by unfold PyData.canLay0; exact c, ?_⟩
    unfold PyData.depth dep
    omega
  | .lst ds, h => by
    unfold plV at h
    obtain ⟨ps, e, c, d⟩ := toPys_pl (plVs_of h)
    refine ⟨.list ps, by unfold toPy; rw [e]; rfl, by unfold PyData.canLay0; exact c, ?_⟩
    unfold PyData.depth dep
    omega
  | .bl _, h => by unfold plV at h; cases h
  | .scr _, h => by unfold plV at h; cases h
  | .emp, h => by unfold plV at h; cases h
  | .loc _, h => by unfold plV at h; cases h
theorem toPys_pl : ∀ {ds : List D}, (∀ d ∈ ds, plV d = true) → ∃ ps, toPys ds = some ps ∧ PyData.canLayAll0 ps = true ∧ PyData.depthAll ps ≤ deps ds
  | [], _ => ⟨[], rfl, by decide, by decide⟩
  | d :: ds, h => by
    obtain ⟨p, e, c, dd⟩ := toPy_pl (h d (List.mem_cons_self ..))
    obtain ⟨ps, e2, c2, dd2⟩ := toPys_pl (ds := ds) fun x hx => h x (List.mem_cons_of_mem _ hx)
    refine ⟨p :: ps, by unfold toPys; rw [e, e2], by unfold PyData.canLayAll0; rw [c, c2]; rfl, ?_⟩
    unfold PyData.depthAll deps
    omega
end
theorem toPys_consH {d : D} {ds : List D} {ps : List PyData} (h : toPys (d :: ds) = some ps) : ∃ p qs, toPy d = some p ∧ toPys ds = some qs ∧ ps = p :: qs := by
  unfold toPys at h
  split at h
  · rename_i p qs e1 e2
    cases h
    exact ⟨p, qs, e1, e2, rfl⟩
  · cases h
mutual
theorem eqv_pl : ∀ {v w : D} {p q : PyData}, plV v = true → plV w = true → toPy v = some p → toPy w = some q → (PyData.eqv p q = true ↔ v = w)
  | .non, w, p, q, hv, hw, ev, ew => by
    cases ev
    cases w
    case non => cases ew; exact ⟨fun _ => rfl, fun _ => by unfold PyData.eqv; rfl⟩
    case int => cases ew; exact ⟨fun h => (by unfold PyData.eqv at h; cases h), fun h => (by cases h)⟩
    case str => cases ew; exact ⟨fun h => (by unfold PyData.eqv at h; cases h), fun h => (by cases h)⟩
    case tup ds =>
      obtain ⟨ps, e, _⟩ := toPys_pl (plVs_of (by unfold plV at hw; exact hw) : ∀ d ∈ ds, plV d = true)
      unfold toPy at ew; rw [e] at ew; cases ew
      exact ⟨fun h => (by unfold PyData.eqv at h; cases h), fun h => (by cases h)⟩
    case lst ds =>
      obtain ⟨ps, e, _⟩ := toPys_pl (plVs_of (by unfold plV at hw; exact hw) : ∀ d ∈ ds, plV d = true)
      unfold toPy at ew; rw [e] at ew; cases ew
      exact ⟨fun h => (by unfold PyData.eqv at h; cases h), fun h => (by cases h)⟩
    all_goals (unfold plV at hw; cases hw)
  | .int i, w, p, q, hv, hw, ev, ew => by
    cases ev
    cases w
    case non => cases ew; exact ⟨fun h => (by unfold PyData.eqv at h; cases h), fun h => (by cases h)⟩
    case int j =>
      cases ew
      refine ⟨fun h => ?_, fun h => ?_⟩
      · unfold PyData.eqv at h
        rw [eq_of_beq h]
      · cases h
        unfold PyData.eqv
        exact beq_self_eq_true i
    case str => cases ew; exact ⟨fun h => (by unfold PyData.eqv at h; cases h), fun h => (by cases h)⟩
    case tup ds =>
      obtain ⟨ps, e, _⟩ := toPys_pl (plVs_of (by unfold plV at hw; exact hw) : ∀ d ∈ ds, plV d = true)
      unfold toPy at ew; rw [e] at ew; cases ew
      exact ⟨fun h => (by unfold PyData.eqv at h; cases h), fun h => (by cases h)⟩
    case lst ds =>
      obtain ⟨ps, e, _⟩ := toPys_pl (plVs_of (by unfold plV at hw; exact hw) : ∀ d ∈ ds, plV d = true)
      unfold toPy at ew; rw [e] at ew; cases ew
      exact ⟨fun h => (by unfold PyData.eqv at h; cases h), fun h => (by cases h)⟩
    all_goals (unfold plV at hw; cases hw)
  | .str z, w, p, q, hv, hw, ev, ew => by
    cases ev
    cases w
    case non => cases ew; exact ⟨fun h => (by unfold PyData.eqv at h; cases h), fun h => (by cases h)⟩
    case int => cases ew; exact ⟨fun h => (by unfold PyData.eqv at h; cases h), fun h => (by cases h)⟩
    case str y =>
      cases ew
      refine ⟨fun h => ?_, fun h => ?_⟩
      · unfold PyData.eqv at h
        rw [eq_of_beq h]
      · cases h
        unfold PyData.eqv
        exact beq_self_eq_true z
    case tup ds =>
      obtain ⟨ps, e, _⟩ := toPys_pl (plVs_of (by unfold plV at hw; exact hw) : ∀ d ∈ ds, plV d = true)
      unfold toPy at ew; rw [e] at ew; cases ew
      exact ⟨fun h => (by unfold PyData.eqv at h; cases h), fun h => (by cases h)⟩
    case lst ds =>
      obtain ⟨ps, e, _⟩ := toPys_pl (plVs_of (by unfold plV at hw; exact hw) : ∀ d ∈ ds, plV d = true)
      unfold toPy at ew; rw [e] at ew; cases ew
      exact ⟨fun h => (by unfold PyData.eqv at h; cases h), fun h => (by cases h)⟩
    all_goals (unfold plV at hw; cases hw)
  | .tup xs, w, p, q, hv, hw, ev, ew => by
    unfold plV at hv
    obtain ⟨ps, e, _⟩ := toPys_pl (plVs_of hv)
    unfold toPy at ev; rw [e] at ev; cases ev
    cases w
    case non => cases ew; exact ⟨fun h => (by unfold PyData.eqv at h; cases h), fun h => (by cases h)⟩
    case int => cases ew; exact ⟨fun h => (by unfold PyData.eqv at h; cases h), fun h => (by cases h)⟩
    case str => cases ew; exact ⟨fun h => (by unfold PyData.eqv at h; cases h), fun h => (by cases h)⟩
    case tup ds =>
      unfold plV at hw
      obtain ⟨qs, e2, _⟩ := toPys_pl (plVs_of hw)
      unfold toPy at ew; rw [e2] at ew; cases ew
      have k := eqvs_pl (plVs_of hv) (plVs_of hw) e e2
      unfold PyData.eqv
      rw [k]
      exact ⟨fun h => by rw [h], fun h => by cases h; rfl⟩
    case lst ds =>
      obtain ⟨ps, e, _⟩ := toPys_pl (plVs_of (by unfold plV at hw; exact hw) : ∀ d ∈ ds, plV d = true)
      unfold toPy at ew; rw [e] at ew; cases ew
      exact ⟨fun h => (by unfold PyData.eqv at h; cases h), fun h => (by cases h)⟩
    all_goals (unfold plV at hw; cases hw)
  | .lst xs, w, p, q, hv, hw, ev, ew => by
    unfold plV at hv
    obtain ⟨ps, e, _⟩ := toPys_pl (plVs_of hv)
    unfold toPy at ev; rw [e] at ev; cases ev
    cases w
    case non => cases ew; exact ⟨fun h => (by unfold PyData.eqv at h; cases h), fun h => (by cases h)⟩
    case int => cases ew; exact ⟨fun h => (by unfold PyData.eqv at h; cases h), fun h => (by cases h)⟩
    case str => cases ew; exact ⟨fun h => (by unfold PyData.eqv at h; cases h), fun h => (by cases h)⟩
    case lst ds =>
      unfold plV at hw
      obtain ⟨qs, e2, _⟩ := toPys_pl (plVs_of hw)
      unfold toPy at ew; rw [e2] at ew; cases ew
      have k := eqvs_pl (plVs_of hv) (plVs_of hw) e e2
      unfold PyData.eqv
      rw [k]
      exact ⟨fun h => by rw [h], fun h => by cases h; rfl⟩
    case tup ds =>
      obtain ⟨ps, e, _⟩ := toPys_pl (plVs_of (by unfold plV at hw; exact hw) : ∀ d ∈ ds, plV d = true)
      unfold toPy at ew; rw [e] at ew; cases ew
      exact ⟨fun h => (by unfold PyData.eqv at h; cases h), fun h => (by cases h)⟩
    all_goals (unfold plV at hw; cases hw)
  | .bl _, _, _, _, h, _, _, _ => by unfold plV at h; cases h
  | .scr _, _, _, _, h, _, _, _ => by unfold plV at h; cases h
  | .emp, _, _, _, h, _, _, _ => by unfold plV at h; cases h
  | .loc _, _, _, _, h, _, _, _ => by unfold plV at h; cases h
theorem eqvs_pl : ∀ {vs ws : List D} {ps qs : List PyData}, (∀ d ∈ vs, plV d = true) → (∀ d ∈ ws, plV d = true) → toPys vs = some ps → toPys ws = some qs → (PyData.eqvAll ps qs = true ↔ vs = ws)
  | [], ws, ps, qs, hv, hw, ev, ew => by
    cases ev
    cases ws with
    | nil => cases ew; exact ⟨fun _ => rfl, fun _ => by unfold PyData.eqvAll; rfl⟩
    | cons w ws =>
      obtain ⟨q, qs, _, _, rfl⟩ := toPys_consH ew
      exact ⟨fun h => (by unfold PyData.eqvAll at h; cases h), fun h => (by cases h)⟩
  | v :: vs, ws, ps, qs, hv, hw, ev, ew => by
    obtain ⟨p, ps, e1, e2, rfl⟩ := toPys_consH ev
    cases ws with
    | nil =>
      cases ew
      exact ⟨fun h => (by unfold PyData.eqvAll at h; cases h), fun h => (by cases h)⟩
    | cons w ws =>
      obtain ⟨q, qs, e3, e4, rfl⟩ := toPys_consH ew
      have a := eqv_pl (hv v (List.mem_cons_self ..)) (hw w (List.mem_cons_self ..)) e1 e3
      have b := eqvs_pl (fun d hd => hv d (List.mem_cons_of_mem _ hd)) (fun d hd => hw d (List.mem_cons_of_mem _ hd)) e2 e4
      unfold PyData.eqvAll
      rw [Bool.and_eq_true, a, b]
      exact ⟨fun h => by rw [h.1, h.2], fun h => by cases h; exact ⟨rfl, rfl⟩⟩
end
theorem toPy1_pl {M : Mem} {v : D} (h : plV v = true) : toPy1 M v = toPy v := by
  cases v <;> first
    | rfl
    | (unfold plV at h; cases h)
theorem toPys1_pl {M : Mem} : ∀ {ds : List D}, (∀ d ∈ ds, plV d = true) → toPys1 M ds = toPys ds
  | [], _ => rfl
  | d :: ds, h => by
    unfold toPys1 toPys
    rw [toPy1_pl (h d (List.mem_cons_self ..)), toPys1_pl fun x hx => h x (List.mem_cons_of_mem _ hx)]
theorem toPyM_pl {M : Mem} {v : D} (h : plV v = true) : toPyM M v = toPy v := by
  cases v with
  | tup ds =>
    have h2 : plVs ds = true := by unfold plV at h; exact h
    show (toPys1 M ds).map PyData.tuple = (toPys ds).map PyData.tuple
    rw [toPys1_pl (plVs_of h2)]
  | _ => exact toPy1_pl (M := M) h
theorem shaped_pl {v : D} {p : PyData} (h : plV v = true) (hd : dep v ≤ 60) (e : toPy v = some p) : SeqAt.shaped p = true := by
  obtain ⟨q, e2, c, d⟩ := toPy_pl h
  rw [e] at e2
  cases e2
  show (p.canLay0 && decide (p.depth ≤ 64)) = true
  rw [c, decide_eq_true (by omega)]; rfl
/-- by values -/
theorem eqP_pl {v w : D} {neg : Bool} {M : Mem} {Q : QK} (hv : plV v = true) (hw : plV w = true) (dv : dep v ≤ 60) (dw : dep w ≤ 60) (h1 : v = w → Q (.bl (!neg)) M) (h2 : v ≠ w → Q (.bl neg) M) : eqP neg v w M Q := by
  obtain ⟨p, ep, _⟩ := toPy_pl hv
  obtain ⟨q, eq, _⟩ := toPy_pl hw
  unfold eqP
  rw [toPyM_pl hv, toPyM_pl hw, ep, eq]
  refine ⟨shaped_pl hv dv ep, shaped_pl hw dw eq, ?_⟩
  have k := eqv_pl hv hw ep eq
  by_cases e : v = w
  · rw [k.mpr e]
    cases neg <;> exact h1 e
  · rw [Bool.eq_false_iff.mpr fun z => e (k.mp z)]
    cases neg <;> exact h2 e
theorem eqL_pl {v w : D} {neg : Bool} {M : Mem} {Q : QK} (hv : plV v = true) (hw : plV w = true) (dv : dep v ≤ 60) (dw : dep w ≤ 60) (h1 : v = w → Q (.bl (!neg)) M) (h2 : v ≠ w → Q (.bl neg) M) : eqL neg v w M Q := by
  unfold eqL
  have P := eqP_pl (neg := neg) (M := M) (Q := Q) hv hw dv dw h1 h2
  cases q1 : asL M v with
  | none =>
    dsimp only
    cases q3 : eqU v w with
    | false => exact P
    | true => exact h2 fun z => by subst z; cases v <;> first | (cases q3; done) | (rename_i ds; cases ds <;> cases q3)
  | some xs =>
    cases q2 : asL M w with
    | none =>
      dsimp only
      cases q3 : eqU v w with
      | false => exact P
      | true => exact h2 fun z => by subst z; cases v <;> first | (cases q3; done) | (rename_i ds; cases ds <;> cases q3)
    | some ys =>
      dsimp only
      by_cases hl : xs.length = ys.length
      · rw [if_pos hl]; exact P
      · rw [if_neg hl]
        refine h2 fun z => hl ?_
        subst z
        rw [q1] at q2
        cases q2
        rfl
theorem eqA_pl {v w : D} (hv : plV v = true) (hw : plV w = true) {A : Bool → Prop} {G : Prop} (hA : v = w → A true) (hB : v ≠ w → A false) (hG : G) : (match eqA v w with
    | some b => A b
    | none => G) := by
  have key : eqA v w = none ∨ (v = w ∧ eqA v w = some true) ∨ (v ≠ w ∧ eqA v w = some false) := by
    cases v <;> cases w <;> first
      | exact .inl rfl
      | exact .inr (.inl ⟨rfl, rfl⟩)
      | exact .inr (.inr ⟨fun z => (by cases z), rfl⟩)
      | (unfold plV at hv; cases hv; done)
      | (unfold plV at hw; cases hw; done)
      | skip
    all_goals
      rename_i a b
      by_cases e : a = b
      · subst e
        exact .inr (.inl ⟨rfl, congrArg some (decide_eq_true rfl)⟩)
      · exact .inr (.inr ⟨fun z => e (by cases z; rfl), congrArg some (decide_eq_false e)⟩)
  rcases key with e | ⟨z, e⟩ | ⟨z, e⟩
  · rw [e]; exact hG
  · rw [e]; exact hA z
  · rw [e]; exact hB z
theorem eqW_pl {v w : D} {neg : Bool} {M : Mem} {Q : QK} (hv : plV v = true) (hw : plV w = true) (dv : dep v ≤ 60) (dw : dep w ≤ 60) (h1 : v = w → Q (.bl (!neg)) M) (h2 : v ≠ w → Q (.bl neg) M) : eqW neg v w M Q := by
  unfold eqW
  refine eqA_pl (A := fun b => Q (.bl (if neg then !b else b)) M) hv hw (fun e => ?_) (fun e => ?_) (eqL_pl hv hw dv dw h1 h2)
  · have := h1 e; cases neg <;> exact this
  · have := h2 e; cases neg <;> exact this
/-- .. as whnf leaves it -/
theorem plM {v w : D} {A : Bool → Prop} {G : Prop} (hv : plV v = true) (hw : plV w = true) (hG : (v = w → A true) → (v ≠ w → A false) → G) (h1 : v = w → A true) (h2 : v ≠ w → A false) : (match eqA v w with
    | some b => A b
    | none => G) := eqA_pl hv hw h1 h2 (hG h1 h2)
theorem cmpEq_pl {v w : D} {M : Mem} {Q : QK} (hv : plV v = true) (hw : plV w = true) (dv : dep v ≤ 60) (dw : dep w ≤ 60) (h1 : v = w → Q (.bl true) M) (h2 : v ≠ w → Q (.bl false) M) : cmpW .Eq v w M Q := eqW_pl (neg := false) hv hw dv dw h1 h2
theorem cmpNe_pl {v w : D} {M : Mem} {Q : QK} (hv : plV v = true) (hw : plV w = true) (dv : dep v ≤ 60) (dw : dep w ≤ 60) (h1 : v = w → Q (.bl false) M) (h2 : v ≠ w → Q (.bl true) M) : cmpW .NotEq v w M Q := eqW_pl (neg := true) hv hw dv dw h1 h2
/-! lists of numbers -/
theorem deps_intsL {ds : List D} (h : ∀ d ∈ ds, ∃ i : Int, d = .int i) : deps ds = 0 := by
  have : deps ds ≤ 0 := deps_le fun d hd => by
    obtain ⟨i, rfl⟩ := h d hd
    exact Nat.le_refl _
  omega
theorem pl_intsL {ds : List D} (h : ∀ d ∈ ds, ∃ i : Int, d = .int i) : plV (.lst ds) = true ∧ dep (.lst ds) = 1 := by
  refine ⟨plV_ls fun d hd => ?_, ?_⟩
  · obtain ⟨i, rfl⟩ := h d hd
    unfold plV; rfl
  · show deps ds + 1 = 1
    rw [deps_intsL h]
theorem is_ints (bs : List Int) : ∀ d ∈ bs.map D.int, ∃ i : Int, d = .int i := fun d hd => by
  obtain ⟨i, _, e⟩ := List.mem_map.mp hd
  exact ⟨i, e.symm⟩
theorem is_cut {ds : List D} {lo hi : Option Int} (h : ∀ d ∈ ds, ∃ i : Int, d = .int i) : ∀ d ∈ cut ds lo hi, ∃ i : Int, d = .int i := fun d hd => h d (cut_mem hd)
theorem ints_inj : ∀ {a b : List Int}, a.map D.int = b.map D.int → a = b
  | [], [], _ => rfl
  | [], _ :: _, h => by cases h
  | _ :: _, [], h => by cases h
  | x :: a, y :: b, h => by
    injection h with h1 h2
    injection h1 with h1
    rw [h1, ints_inj h2]
theorem cmpEq_ints {xs ys : List D} {M : Mem} {Q : QK} (hx : ∀ d ∈ xs, ∃ i : Int, d = .int i) (hy : ∀ d ∈ ys, ∃ i : Int, d = .int i) (h1 : xs = ys → Q (.bl true) M) (h2 : xs ≠ ys → Q (.bl false) M) : cmpW .Eq (.lst xs) (.lst ys) M Q :=
  cmpEq_pl (pl_intsL hx).1 (pl_intsL hy).1 (by rw [(pl_intsL hx).2]; decide) (by rw [(pl_intsL hy).2]; decide) (fun e => h1 (by injection e)) (fun e => h2 fun z => e (by rw [z]))
theorem cmpNe_ints {xs ys : List D} {M : Mem} {Q : QK} (hx : ∀ d ∈ xs, ∃ i : Int, d = .int i) (hy : ∀ d ∈ ys, ∃ i : Int, d = .int i) (h1 : xs = ys → Q (.bl false) M) (h2 : xs ≠ ys → Q (.bl true) M) : cmpW .NotEq (.lst xs) (.lst ys) M Q :=
  cmpNe_pl (pl_intsL hx).1 (pl_intsL hy).1 (by rw [(pl_intsL hx).2]; decide) (by rw [(pl_intsL hy).2]; decide) (fun e => h1 (by injection e)) (fun e => h2 fun z => e (by rw [z]))
/-! ### membership -/
theorem any_pl {v : D} {p : PyData} (hv : plV v = true) (e : toPy v = some p) : ∀ {ws : List D} {qs : List PyData}, (∀ w ∈ ws, plV w = true) → toPys ws = some qs → ((qs.any fun z => PyData.eqv z p) = true ↔ v ∈ ws)
  | [], qs, _, ew => by cases ew; exact ⟨fun h => (by cases h), fun h => (by cases h)⟩
  | w :: ws, qs, hw, ew => by
    obtain ⟨q, qs, e3, e4, rfl⟩ := toPys_consH ew
    have a := eqv_pl (hw w (List.mem_cons_self ..)) hv e3 e
    have b := any_pl hv e (ws := ws) (fun d hd => hw d (List.mem_cons_of_mem _ hd)) e4
    rw [List.any_cons, Bool.or_eq_true, a, b, List.mem_cons]
    exact ⟨fun h => h.imp Eq.symm id, fun h => h.imp Eq.symm id⟩
theorem inW_pl {v y : D} {ws : List D} {neg : Bool} {M : Mem} {Q : QK} (hy : asS M y = some ws) (hs : ∀ a b, v = .str a → y = .str b → False) (hv : plV v = true) (dv : dep v ≤ 60) (hw : ∀ w ∈ ws, plV w = true) (dw : deps ws ≤ 59) (h1 : v ∈ ws → Q (.bl (!neg)) M) (h2 : v ∉ ws → Q (.bl neg) M) : inW neg v y M Q := by
  obtain ⟨p, ep, _⟩ := toPy_pl hv
  obtain ⟨qs, eq, c, d⟩ := toPys_pl hw
  have hd : dicAt M y = none := by
    cases y <;> first | rfl | skip
    rename_i a
    unfold dicAt
    have hy : (match M a with | some (.lst ds) => some ds | _ => none) = some ws := hy
    dsimp only
    split
    · rename_i e; rw [e] at hy; cases hy
    · rename_i e; rw [e] at hy; cases hy
    · rfl
  unfold inW
  rw [hd]
  show inS neg v y M Q
  unfold inS
  split
  · exact (hs _ _ rfl rfl).elim
  · cases hv
  · rw [toPyM_pl hv, ep, hy]
    dsimp only
    rw [eq]
    dsimp only
    refine ⟨shaped_pl hv dv ep, ?_, ?_⟩
    · show (PyData.canLay0 (.list qs) && decide (PyData.depth (.list qs) ≤ 64)) = true
      rw [show PyData.canLay0 (.list qs) = PyData.canLayAll0 qs from by unfold PyData.canLay0; rfl, c, show PyData.depth (.list qs) = PyData.depthAll qs + 1 from by unfold PyData.depth; omega, decide_eq_true (by omega)]; rfl
    · have k := any_pl hv ep hw eq
      by_cases e : v ∈ ws
      · rw [k.mpr e]
        cases neg <;> exact h1 e
      · rw [Bool.eq_false_iff.mpr fun z => e (k.mp z)]
        cases neg <;> exact h2 e
end Wp

/-! PwOkb: shapes whose bounds are as they should be. -/
namespace Wp
open PySem
mutual
/-- bounds as they should be -/
def Sh.okb : Sh → Bool
  | .nothing => true
  | .number lo hi => decide (-1000000000000000000 < lo) && (decide (lo ≤ hi) && decide (hi < 1000000000000000000))
  | .text m => decide (0 ≤ m) && decide (m ≤ 250)
  | .list s m => (decide (0 ≤ m) && decide (m ≤ 250)) && s.okb
  | .pair a b => a.okb && b.okb
  | .choice ss => (decide (1 ≤ ss.length) && decide (ss.length ≤ 9)) && Sh.okbs ss
def Sh.okbs : List Sh → Bool
  | [] => true
  | s :: ss => s.okb && Sh.okbs ss
end
end Wp

/-! PwJoin: texts put together of signs. -/
namespace Wp
open PySem
theorem join_cps : ∀ zs : List Str, (Str.join "" zs).cps.toList = (zs.map fun z => z.cps.toList).flatten
  | [] => rfl
  | [x] => by
    show x.cps.toList = x.cps.toList ++ []
    rw [List.append_nil]
  | x :: y :: r => by
    show (x ++ ("" : Str) ++ Str.join "" (y :: r)).cps.toList = _
    rw [app_cps, app_cps, join_cps (y :: r), List.map_cons (l := y :: r), List.flatten_cons]
    show x.cps.toList ++ [] ++ _ = _
    rw [List.append_nil]
theorem tjoin_cps (zs : List Str) : (Txt.join "" zs).cps.toList = (zs.map fun z => z.cps.toList).flatten := by
  rw [show Txt.join "" zs = Str.join "" zs from TL.join_eq "" zs, join_cps]
/-- a text of signs -/
theorem strsOf_str : ∀ zs : List Str, strsOf (zs.map D.str) = some zs
  | [] => rfl
  | z :: zs => by
    rw [List.map_cons]
    unfold strsOf
    rw [strsOf_str zs]
    rfl
def one1 (z : Str) : Prop := z.length = 1 ∧ okT z = true
theorem join_ok : ∀ {zs : List Str}, (∀ z ∈ zs, one1 z) → (zs.map (·.length)).sum = zs.length ∧ ((zs.map fun z => z.cps.toList).flatten).length = zs.length ∧ ((zs.map fun z => z.cps.toList).flatten).all okSign = true
  | [], _ => ⟨rfl, rfl, rfl⟩
  | z :: zs, h => by
    obtain ⟨h1, h2, h3⟩ := join_ok (zs := zs) fun x hx => h x (List.mem_cons_of_mem _ hx)
    obtain ⟨z1, z2⟩ := h z (List.mem_cons_self ..)
    refine ⟨?_, ?_, ?_⟩
    · rw [List.map_cons, List.sum_cons, h1, z1, List.length_cons]; omega
    · rw [List.map_cons, List.flatten_cons, List.length_append, h2, List.length_cons]
      have : z.cps.toList.length = 1 := by rw [Array.length_toList]; exact z1
      omega
    · rw [List.map_cons, List.flatten_cons, List.all_append, h3]
      rw [show z.cps.toList.all okSign = true from z2]; rfl
theorem okT_strOk {z : Str} (h : okT z = true) : PyData.strOk z = true := by
  unfold PyData.strOk
  rw [← Array.all_toList]
  rw [List.all_eq_true]
  intro x hx
  have := List.all_eq_true.mp h x hx
  unfold okSign at this
  rw [Bool.and_eq_true, Bool.and_eq_true] at this
  have := of_decide_eq_true this.1.2
  exact decide_eq_true (by omega)
end Wp

/-! PfValue (v25): how deep a shape is. -/
namespace Wp
open PySem
mutual
/-- how deep a shape is -/
def Sh.dep : Sh → Nat
  | .list s _ => s.dep + 1
  | .pair a b => max a.dep b.dep + 1
  | .choice ss => Sh.deps ss + 1
  | _ => 0
def Sh.deps : List Sh → Nat
  | [] => 0
  | s :: ss => max s.dep (Sh.deps ss)
end
theorem Sh.deps_mem : ∀ {ss : List Sh}, ∀ s ∈ ss, s.dep ≤ Sh.deps ss
  | x :: ss, s, hs => by
    unfold Sh.deps
    rcases List.mem_cons.mp hs with rfl | hs
    · omega
    · have := Sh.deps_mem s hs
      omega
end Wp

/-! PwFit: what fits a shape is plain, no deeper than the shape. -/
namespace Wp
open PySem
theorem fitsN_in : ∀ (ss : List Sh) (n : Nat) (t : D), fitsN ss n t = true → ∃ s, s ∈ ss ∧ fitsB s t = true
  | [], n, t, h => by unfold fitsN at h; cases h
  | s :: ss, 0, t, h => by unfold fitsN at h; exact ⟨s, List.mem_cons_self .., h⟩
  | s :: ss, n + 1, t, h => by
    unfold fitsN at h
    obtain ⟨x, h1, h2⟩ := fitsN_in ss n t h
    exact ⟨x, List.mem_cons_of_mem _ h1, h2⟩
abbrev PlAt (s : Sh) : Prop := ∀ v : D, smV v = true → fitsB s v = true → plV v = true ∧ dep v ≤ s.dep
mutual
theorem fit_pl : ∀ s : Sh, PlAt s
  | .nothing => fun v hs hf => by
    cases v
    case non => exact ⟨by unfold plV; rfl, Nat.zero_le _⟩
    all_goals cases hf
  | .number lo hi => fun v hs hf => by
    cases v
    case int => exact ⟨by unfold plV; rfl, Nat.zero_le _⟩
    all_goals cases hf
  | .text m => fun v hs hf => by
    cases v
    case str z =>
      have h : (decide (z.length ≤ 1000) && PyData.strOk z) = true := hs
      rw [Bool.and_eq_true] at h
      exact ⟨by unfold plV; exact h.2, Nat.zero_le _⟩
    all_goals cases hf
  | .list s m => fun v hs hf => by
    cases v
    case lst ds =>
      obtain ⟨hdl, hds⟩ := smV_lstH hs
      have hf : (decide ((ds.length : Int) ≤ m) && ds.all (fitsB s)) = true := hf
      rw [Bool.and_eq_true] at hf
      have hfi := List.all_eq_true.mp hf.2
      refine ⟨plV_ls fun d hd => (fit_pl s d (hds d hd) (hfi d hd)).1, ?_⟩
      have : deps ds ≤ s.dep := deps_le fun d hd => (fit_pl s d (hds d hd) (hfi d hd)).2
      show deps ds + 1 ≤ s.dep + 1
      omega
    case scr => cases hs
    all_goals cases hf
  | .pair a b => fun v hs hf => by
    cases v
    case tup ds =>
      match ds, hf, hs with
      | [x, y], hf, hs =>
        obtain ⟨hdl, hds⟩ := smV_tupH hs
        have hf : (fitsB a x && fitsB b y) = true := hf
        rw [Bool.and_eq_true] at hf
        have h1 := fit_pl a x (hds x (by simp)) hf.1
        have h2 := fit_pl b y (hds y (by simp)) hf.2
        refine ⟨plV_tp (all_cons h1.1 (all_cons h2.1 all_nil)), ?_⟩
        show max (dep x) (max (dep y) 0) + 1 ≤ max a.dep b.dep + 1
        omega
      | [], hf, hs => cases hf
      | [x], hf, hs => cases hf
      | x :: y :: z :: w, hf, hs => cases hf
    all_goals cases hf
  | .choice ss => fun v hs hf => by
    cases v
    case tup ds =>
      match ds, hf, hs with
      | [.str z, .int n, x], hf, hs =>
        obtain ⟨hdl, hds⟩ := smV_tupH hs
        have hf : (decide (z = "of") && (decide (0 ≤ n) && fitsN ss n.toNat x)) = true := hf
        rw [Bool.and_eq_true, Bool.and_eq_true] at hf
        obtain ⟨s, e, hx⟩ := fitsN_in ss n.toNat x hf.2.2
        have h1 := fit_pls ss s e x (hds x (by simp)) hx
        have hz : (decide (z.length ≤ 1000) && PyData.strOk z) = true := hds (.str z) (by simp)
        rw [Bool.and_eq_true] at hz
        have hm := Sh.deps_mem s e
        refine ⟨plV_tp (all_cons (by unfold plV; exact hz.2) (all_cons (by unfold plV; rfl) (all_cons h1.1 all_nil))), ?_⟩
        show max 0 (max 0 (max (dep x) 0)) + 1 ≤ Sh.deps ss + 1
        omega
      | [], hf, hs => cases hf
      | [x], hf, hs => cases x <;> cases hf
      | [x, y], hf, hs => cases x <;> cases y <;> cases hf
      | [.non, y, w], hf, hs => cases hf
      | [.bl _, y, w], hf, hs => cases hf
      | [.int _, y, w], hf, hs => cases hf
      | [.tup _, y, w], hf, hs => cases hf
      | [.lst _, y, w], hf, hs => cases hf
      | [.scr _, y, w], hf, hs => cases hf
      | [.emp, y, w], hf, hs => cases hf
      | [.loc _, y, w], hf, hs => cases hf
      | [.str _, .non, w], hf, hs => cases hf
      | [.str _, .bl _, w], hf, hs => cases hf
      | [.str _, .str _, w], hf, hs => cases hf
      | [.str _, .tup _, w], hf, hs => cases hf
      | [.str _, .lst _, w], hf, hs => cases hf
      | [.str _, .scr _, w], hf, hs => cases hf
      | [.str _, .emp, w], hf, hs => cases hf
      | [.str _, .loc _, w], hf, hs => cases hf
      | x :: y :: z :: v :: w, hf, hs => cases x <;> cases y <;> cases hf
    all_goals cases hf
theorem fit_pls : ∀ (ss : List Sh), ∀ s ∈ ss, PlAt s
  | [], s, h => by cases h
  | x :: ss, s, h => by
    rcases List.mem_cons.mp h with h | h
    · rw [h]; exact fit_pl x
    · exact fit_pls ss s h
end
end Wp

/-! PwBy0: the bytes of values, plain. -/
namespace Wp
open PySem
/-- so many bytes for numbers up to one -/
def pl (n : Nat) : Nat := if h : n = 0 then 0 else pl (n / 256) + 1
termination_by n
decreasing_by omega
theorem pl_zero : pl 0 = 0 := by unfold pl; rfl
theorem pl_pos {n : Nat} (h : n ≠ 0) : pl n = pl (n / 256) + 1 := by
  rw [pl.eq_def, dif_neg h]
theorem pl_le : ∀ (k n : Nat), n < 256 ^ k → pl n ≤ k
  | 0, n, h => by
    obtain rfl : n = 0 := by omega
    rw [pl_zero]; exact Nat.le_refl _
  | k + 1, n, h => by
    by_cases e : n = 0
    · rw [e, pl_zero]; omega
    · rw [pl_pos e]
      have := pl_le k (n / 256) (by rw [Nat.pow_succ] at h; omega)
      omega
/-- bytes, the least first -/
def les : Nat → Int → List Int
  | 0, _ => []
  | k + 1, n => n % 256 :: les k (n / 256)
theorem les_len : ∀ (k : Nat) (n : Int), (les k n).length = k
  | 0, _ => rfl
  | k + 1, n => congrArg Nat.succ (les_len k _)
theorem les_snoc : ∀ (k : Nat) (n : Int), les (k + 1) n = les k n ++ [n / 256 ^ k % 256]
  | 0, n => by
    show [n % 256] = [n / 256 ^ 0 % 256]
    rw [Int.pow_zero, Int.ediv_one]
  | k + 1, n => by
    show n % 256 :: les (k + 1) (n / 256) = n % 256 :: (les k (n / 256) ++ [n / 256 ^ (k + 1) % 256])
    rw [les_snoc k]
    rw [Int.pow_succ, Int.mul_comm]
    first
      | rw [Int.ediv_ediv_of_nonneg (by decide)]
      | rw [Int.ediv_ediv_eq_ediv_mul _ (by decide)]
mutual
def bytesB : Sh → D → List Int
  | .nothing, _ => []
  | .number lo hi, t => match t with
    | .int i => (les (pl (hi - lo).toNat) (i - lo)).reverse
    | _ => []
  | .text _, t => match t with
    | .str z => (z.length : Int) :: z.cps.toList.map fun (c : Nat) => (c : Int)
    | _ => []
  | .list s _, t => match t with
    | .lst ds => (ds.length : Int) :: (ds.map (bytesB s)).flatten
    | _ => []
  | .pair a b, t => match t with
    | .tup [x, y] => bytesB a x ++ bytesB b y
    | _ => []
  | .choice ss, t => match t with
    | .tup [_, .int i, x] => i :: bytesN ss i.toNat x
    | _ => []
def bytesN : List Sh → Nat → D → List Int
  | [], _, _ => []
  | s :: _, 0, t => bytesB s t
  | _ :: ss, n + 1, t => bytesN ss n t
end
theorem bytesN_get : ∀ (ss : List Sh) (n : Nat) (t : D) (s : Sh), ss[n]? = some s → bytesN ss n t = bytesB s t
  | [], n, t, s, h => by rw [List.getElem?_nil] at h; cases h
  | s :: ss, 0, t, s', h => by rw [List.getElem?_cons_zero] at h; cases h; unfold bytesN; rfl
  | s :: ss, n + 1, t, s', h => by rw [List.getElem?_cons_succ] at h; unfold bytesN; exact bytesN_get ss n t s' h
end Wp

/-! PwRd: values read from bytes, plain. -/
namespace Wp
open PySem
/-- what reading comes to: a value and the place behind it, an end too early, the place of a byte at which nothing goes on -/
inductive Rs where
  | told (t : D) (i : Nat) | short | brk (i : Nat)
def Rs.andThen (r : Rs) (g : D → Nat → Rs) : Rs :=
  match r with
  | .told t j => g t j
  | .short => .short
  | .brk j => .brk j
def inR (lo hi b : Int) : Bool := decide (lo ≤ b) && decide (b ≤ hi)
theorem inR_iff {lo hi b : Int} : inR lo hi b = true ↔ lo ≤ b ∧ b ≤ hi := by
  unfold inR
  rw [Bool.and_eq_true, decide_eq_true_eq, decide_eq_true_eq]
/-- the byte at a place, which must be a good one -/
def byK (bs : List Int) (i : Nat) (gd : Int → Bool) (ok : Int → Rs) : Rs :=
  match bs[i]? with
  | none => .short
  | some b => match gd b with
    | true => ok b
    | false => .brk i
def rdNu (lo span : Int) (bs : List Int) : Nat → Nat → Int → Rs
  | i, 0, f => .told (.int (lo + f)) i
  | i, l + 1, f => byK bs i (fun b => inR 0 255 b && decide ((f * 256 + b) * 256 ^ l ≤ span)) fun b => rdNu lo span bs (i + 1) l (f * 256 + b)
def rdTx (bs : List Int) : Nat → Nat → List Nat → Rs
  | i, 0, acc => .told (.str ⟨acc.toArray⟩) i
  | i, l + 1, acc => byK bs i (fun b => inR 32 126 b && !decide (b = 37)) fun b => rdTx bs (i + 1) l (acc ++ [b.toNat])
def rdIt (f : Nat → Rs) : Nat → Nat → List D → Rs
  | i, 0, acc => .told (.lst acc) i
  | i, l + 1, acc => (f i).andThen fun t j => rdIt f j l (acc ++ [t])
mutual
def rdB : Sh → List Int → Nat → Rs
  | .nothing, _, i => .told .non i
  | .number lo hi, bs, i => rdNu lo (hi - lo) bs i (pl (hi - lo).toNat) 0
  | .text m, bs, i => byK bs i (inR 0 m) fun b => rdTx bs (i + 1) b.toNat []
  | .list s m, bs, i => byK bs i (inR 0 m) fun b => rdIt (fun j => rdB s bs j) (i + 1) b.toNat []
  | .pair a b, bs, i => (rdB a bs i).andThen fun x j => (rdB b bs j).andThen fun y k => .told (.tup [x, y]) k
  | .choice ss, bs, i => byK bs i (inR 0 ((ss.length : Int) - 1)) fun b => (rdBs ss b.toNat bs (i + 1)).andThen fun x j => .told (.tup [.str "of", .int b, x]) j
def rdBs : List Sh → Nat → List Int → Nat → Rs
  | [], _, _, _ => .short
  | s :: _, 0, bs, i => rdB s bs i
  | _ :: ss, n + 1, bs, i => rdBs ss n bs i
end
theorem rdBs_get : ∀ (ss : List Sh) (n : Nat) (bs : List Int) (i : Nat) (s : Sh), ss[n]? = some s → rdBs ss n bs i = rdB s bs i
  | [], n, bs, i, s, h => by rw [List.getElem?_nil] at h; cases h
  | s :: ss, 0, bs, i, s', h => by rw [List.getElem?_cons_zero] at h; cases h; unfold rdBs; rfl
  | s :: ss, n + 1, bs, i, s', h => by
    rw [List.getElem?_cons_succ] at h
    unfold rdBs
    exact rdBs_get ss n bs i s' h
theorem byK_ok {bs : List Int} {i : Nat} {gd : Int → Bool} {b : Int} {ok : Int → Rs} (h : bs[i]? = some b) (hg : gd b = true) : byK bs i gd ok = ok b := by
  unfold byK
  rw [h]
  dsimp only
  rw [hg]
theorem byK_no {bs : List Int} {i : Nat} {gd : Int → Bool} {ok : Int → Rs} (h : bs[i]? = none) : byK bs i gd ok = .short := by
  unfold byK
  rw [h]
theorem byK_bad {bs : List Int} {i : Nat} {gd : Int → Bool} {b : Int} {ok : Int → Rs} (h : bs[i]? = some b) (hg : gd b = false) : byK bs i gd ok = .brk i := by
  unfold byK
  rw [h]
  dsimp only
  rw [hg]
theorem byK_case {bs : List Int} {i : Nat} {gd : Int → Bool} {ok : Int → Rs} {r : Rs} (e : byK bs i gd ok = r) : (bs[i]? = none ∧ r = .short) ∨ ∃ b, bs[i]? = some b ∧ ((gd b = false ∧ r = .brk i) ∨ (gd b = true ∧ ok b = r)) := by
  cases q : bs[i]? with
  | none => rw [byK_no q] at e; exact .inl ⟨rfl, e.symm⟩
  | some b =>
    cases hb : gd b with
    | true => rw [byK_ok q hb] at e; exact .inr ⟨b, rfl, .inr ⟨hb, e⟩⟩
    | false => rw [byK_bad q hb] at e; exact .inr ⟨b, rfl, .inl ⟨hb, e.symm⟩⟩
theorem get_lt {α : Type} {xs : List α} {i : Nat} {x : α} (h : xs[i]? = some x) : i < xs.length := (List.getElem?_eq_some_iff.mp h).1
/-! ### what two lists of bytes have in common -/
/-- how many bytes were looked at -/
def Rs.need : Rs → Nat
  | .told _ j => j
  | .short => 0
  | .brk j => j + 1
/-- a reader: it sees no more than it needs -/
structure Loc (f : List Int → Nat → Rs) : Prop where
  ge : ∀ bs i t j, f bs i = .told t j → i ≤ j
  gb : ∀ bs i j, f bs i = .brk j → i ≤ j
  le : ∀ bs i t j, f bs i = .told t j → j = i ∨ j ≤ bs.length
  lb : ∀ bs i j, f bs i = .brk j → j < bs.length
  at_ : ∀ bs bs' i t j, f bs i = .told t j → (∀ n, i ≤ n → n < j → bs'[n]? = bs[n]?) → f bs' i = .told t j
  ab : ∀ bs bs' i j, f bs i = .brk j → (∀ n, i ≤ n → n ≤ j → bs'[n]? = bs[n]?) → f bs' i = .brk j
  sh : ∀ bs i c, f bs i = .short → f (bs.take c) i = .short
  st : ∀ bs i t j c, f bs i = .told t j → i < j → c < j → f (bs.take c) i = .short
  sb : ∀ bs i j c, f bs i = .brk j → c ≤ j → f (bs.take c) i = .short
theorem get_take {bs : List Int} {c n : Nat} (h : n < c) : (bs.take c)[n]? = bs[n]? := List.getElem?_take_of_lt h
theorem get_take_no {bs : List Int} {c n : Nat} (h : c ≤ n) : (bs.take c)[n]? = none := List.getElem?_eq_none (by rw [List.length_take]; omega)
/-- one byte, then what goes on with it -/
theorem Loc.byte {gd : Int → Bool} {g : Int → List Int → Nat → Rs} (h : ∀ b, gd b = true → Loc (g b)) : Loc fun bs i => byK bs i gd fun b => g b bs (i + 1) := by
  have case_ : ∀ bs i r, (byK bs i gd fun b => g b bs (i + 1)) = r → (bs[i]? = none ∧ r = .short) ∨ ∃ b, bs[i]? = some b ∧ ((gd b = false ∧ r = .brk i) ∨ (Loc (g b) ∧ gd b = true ∧ g b bs (i + 1) = r)) := fun bs i r e => by
    rcases byK_case e with e | ⟨b, q, e | ⟨e1, e2⟩⟩
    · exact .inl e
    · exact .inr ⟨b, q, .inl e⟩
    · exact .inr ⟨b, q, .inr ⟨h b e1, e1, e2⟩⟩
  refine ⟨fun bs i t j e => ?_, fun bs i j e => ?_, fun bs i t j e => ?_, fun bs i j e => ?_, fun bs bs' i t j e hs => ?_, fun bs bs' i j e hs => ?_, fun bs i c e => ?_, fun bs i t j c e h1 h2 => ?_, fun bs i j c e h1 => ?_⟩
  · rcases case_ bs i _ e with ⟨_, e⟩ | ⟨b, q, ⟨_, e⟩ | ⟨hl, hb, e⟩⟩
    · cases e
    · cases e
    · exact Nat.le_of_succ_le (hl.ge _ _ _ _ e)
  · rcases case_ bs i _ e with ⟨_, e⟩ | ⟨b, q, ⟨_, e⟩ | ⟨hl, hb, e⟩⟩
    · cases e
    · cases e; exact Nat.le_refl _
    · exact Nat.le_of_succ_le (hl.gb _ _ _ e)
  · rcases case_ bs i _ e with ⟨_, e⟩ | ⟨b, q, ⟨_, e⟩ | ⟨hl, hb, e⟩⟩
    · cases e
    · cases e
    · rcases hl.le _ _ _ _ e with z | z
      · have := get_lt q; omega
      · exact .inr z
  · rcases case_ bs i _ e with ⟨_, e⟩ | ⟨b, q, ⟨_, e⟩ | ⟨hl, hb, e⟩⟩
    · cases e
    · cases e; exact get_lt q
    · exact hl.lb _ _ _ e
  · rcases case_ bs i _ e with ⟨_, e⟩ | ⟨b, q, ⟨_, e⟩ | ⟨hl, hb, e⟩⟩
    · cases e
    · cases e
    · have := hl.ge _ _ _ _ e
      have q' := (hs i (by omega) (by omega)).trans q
      show (byK bs' i gd fun b => g b bs' (i + 1)) = _
      rw [byK_ok q' hb]
      exact hl.at_ _ _ _ _ _ e fun n h1 h2 => hs n (by omega) h2
  · rcases case_ bs i _ e with ⟨_, e⟩ | ⟨b, q, ⟨hb, e⟩ | ⟨hl, hb, e⟩⟩
    · cases e
    · cases e
      exact byK_bad ((hs i (Nat.le_refl _) (Nat.le_refl _)).trans q) hb
    · have := hl.gb _ _ _ e
      have q' := (hs i (by omega) (by omega)).trans q
      show (byK bs' i gd fun b => g b bs' (i + 1)) = _
      rw [byK_ok q' hb]
      exact hl.ab _ _ _ _ e fun n h1 h2 => hs n (by omega) h2
  · rcases case_ bs i _ e with ⟨q, e⟩ | ⟨b, q, ⟨_, e⟩ | ⟨hl, hb, e⟩⟩
    · refine byK_no ?_
      by_cases hc : i < c
      · rw [get_take hc, q]
      · exact get_take_no (by omega)
    · cases e
    · by_cases hc : i < c
      · show (byK (bs.take c) i gd fun b => g b (bs.take c) (i + 1)) = _
        rw [byK_ok ((get_take hc).trans q) hb]
        exact hl.sh _ _ _ e
      · exact byK_no (get_take_no (by omega))
  · rcases case_ bs i _ e with ⟨q, e⟩ | ⟨b, q, ⟨_, e⟩ | ⟨hl, hb, e⟩⟩
    · cases e
    · cases e
    · by_cases hc : i < c
      · show (byK (bs.take c) i gd fun b => g b (bs.take c) (i + 1)) = _
        rw [byK_ok ((get_take hc).trans q) hb]
        exact hl.st _ _ _ _ _ e (by omega) h2
      · exact byK_no (get_take_no (by omega))
  · rcases case_ bs i _ e with ⟨q, e⟩ | ⟨b, q, ⟨_, e⟩ | ⟨hl, hb, e⟩⟩
    · cases e
    · cases e
      exact byK_no (get_take_no h1)
    · by_cases hc : i < c
      · show (byK (bs.take c) i gd fun b => g b (bs.take c) (i + 1)) = _
        rw [byK_ok ((get_take hc).trans q) hb]
        exact hl.sb _ _ _ _ e h1
      · exact byK_no (get_take_no (by omega))
theorem Loc.told (t : D) : Loc fun _ i => .told t i := by
  refine ⟨fun bs i t j e => ?_, fun bs i j e => ?_, fun bs i t j e => ?_, fun bs i j e => ?_, fun bs bs' i t j e hs => ?_, fun bs bs' i j e hs => ?_, fun bs i c e => ?_, fun bs i t j c e h1 h2 => ?_, fun bs i j c e h1 => ?_⟩
  all_goals cases e
  · exact Nat.le_refl _
  · exact .inl rfl
  · rfl
  · omega
theorem Loc.short : Loc fun _ _ => .short := by
  refine ⟨fun bs i t j e => ?_, fun bs i j e => ?_, fun bs i t j e => ?_, fun bs i j e => ?_, fun bs bs' i t j e hs => ?_, fun bs bs' i j e hs => ?_, fun bs i c e => ?_, fun bs i t j c e h1 h2 => ?_, fun bs i j c e h1 => ?_⟩
  all_goals cases e
  rfl
/-- one reader behind the other -/
theorem Loc.bind {f : List Int → Nat → Rs} {g : D → List Int → Nat → Rs} (hf : Loc f) (hg : ∀ t, Loc (g t)) : Loc fun bs i => (f bs i).andThen fun t j => g t bs j := by
  have case_ : ∀ bs i r, ((f bs i).andThen fun t j => g t bs j) = r → (f bs i = .short ∧ r = .short) ∨ (∃ j, f bs i = .brk j ∧ r = .brk j) ∨ ∃ t j, f bs i = .told t j ∧ g t bs j = r := fun bs i r e => by
    cases q : f bs i with
    | short => rw [q] at e; exact .inl ⟨rfl, e.symm⟩
    | brk j => rw [q] at e; exact .inr (.inl ⟨j, rfl, e.symm⟩)
    | told t j => rw [q] at e; exact .inr (.inr ⟨t, j, rfl, e⟩)
  have cut : ∀ {bs : List Int} {i c : Nat} {t : D} {j : Nat}, f bs i = .told t j → f (bs.take c) i = .short ∧ c < j ∧ i < j ∨ (f (bs.take c) i = .told t j ∧ (j ≤ c ∨ j = i)) := fun {bs i c t j} q => by
    have := hf.ge _ _ _ _ q
    by_cases hc : c < j ∧ i < j
    · exact .inl ⟨hf.st _ _ _ _ _ q hc.2 hc.1, hc⟩
    · exact .inr ⟨hf.at_ bs _ i _ _ q fun n h1 h2 => get_take (by omega), by omega⟩
  have S : ∀ {bs : List Int} {i : Nat}, f bs i = .short → ((f bs i).andThen fun t j => g t bs j) = .short := fun {bs i} e => by rw [e]; rfl
  have B : ∀ {bs : List Int} {i j : Nat}, f bs i = .brk j → ((f bs i).andThen fun t j => g t bs j) = .brk j := fun {bs i j} e => by rw [e]; rfl
  have T : ∀ {bs : List Int} {i : Nat} {t : D} {j : Nat}, f bs i = .told t j → ((f bs i).andThen fun t j => g t bs j) = g t bs j := fun {bs i t j} e => by rw [e]; rfl
  refine ⟨fun bs i t j e => ?_, fun bs i j e => ?_, fun bs i t j e => ?_, fun bs i j e => ?_, fun bs bs' i t j e hs => ?_, fun bs bs' i j e hs => ?_, fun bs i c e => ?_, fun bs i t j c e h1 h2 => ?_, fun bs i j c e h1 => ?_⟩
  all_goals rcases case_ _ _ _ e with ⟨q, e⟩ | ⟨j', q, e⟩ | ⟨t', j', q, e⟩
  all_goals first
    | (cases e; done)
    | skip
  · exact Nat.le_trans (hf.ge _ _ _ _ q) ((hg _).ge _ _ _ _ e)
  · cases e; exact hf.gb _ _ _ q
  · exact Nat.le_trans (hf.ge _ _ _ _ q) ((hg _).gb _ _ _ e)
  · rcases (hg _).le _ _ _ _ e with z | z
    · rw [z]; exact hf.le _ _ _ _ q
    · exact .inr z
  · cases e; exact hf.lb _ _ _ q
  · exact (hg _).lb _ _ _ e
  · have := (hg _).ge _ _ _ _ e
    have := hf.ge _ _ _ _ q
    refine (T (hf.at_ bs bs' i _ _ q fun n h1 h2 => hs n h1 (by omega))).trans ?_
    exact (hg _).at_ _ _ _ _ _ e fun n h1 h2 => hs n (by omega) h2
  · cases e
    exact B (hf.ab bs bs' i _ q hs)
  · have := (hg _).gb _ _ _ e
    have := hf.ge _ _ _ _ q
    refine (T (hf.at_ bs bs' i _ _ q fun n h1 h2 => hs n h1 (by omega))).trans ?_
    exact (hg _).ab _ _ _ _ e fun n h1 h2 => hs n (by omega) h2
  · exact S (hf.sh _ _ _ q)
  · rcases cut (c := c) q with ⟨z, _⟩ | ⟨z, _⟩
    · exact S z
    · exact (T z).trans ((hg _).sh _ _ _ e)
  · rcases cut (c := c) q with ⟨z, _⟩ | ⟨z, hz⟩
    · exact S z
    · have := (hg _).ge _ _ _ _ e
      have := hf.ge _ _ _ _ q
      exact (T z).trans ((hg _).st _ _ _ _ _ e (by omega) h2)
  · cases e
    exact S (hf.sb _ _ _ _ q h1)
  · rcases cut (c := c) q with ⟨z, _⟩ | ⟨z, hz⟩
    · exact S z
    · exact (T z).trans ((hg _).sb _ _ _ _ e h1)
theorem loc_nu (lo span : Int) : ∀ (l : Nat) (f : Int), Loc fun bs i => rdNu lo span bs i l f
  | 0, f => Loc.told _
  | l + 1, f => Loc.byte (g := fun b bs i => rdNu lo span bs i l (f * 256 + b)) fun b _ => loc_nu lo span l _
theorem loc_tx : ∀ (l : Nat) (acc : List Nat), Loc fun bs i => rdTx bs i l acc
  | 0, f => Loc.told _
  | l + 1, acc => Loc.byte (g := fun b bs i => rdTx bs i l (acc ++ [b.toNat])) fun b _ => loc_tx l _
theorem loc_it {f : List Int → Nat → Rs} (h : Loc f) : ∀ (l : Nat) (acc : List D), Loc fun bs i => rdIt (f bs) i l acc
  | 0, acc => Loc.told _
  | l + 1, acc => Loc.bind (g := fun t bs j => rdIt (f bs) j l (acc ++ [t])) h fun t => loc_it h l _
mutual
theorem loc_rd : ∀ s : Sh, Loc (rdB s)
  | .nothing => Loc.told _
  | .number lo hi => loc_nu lo (hi - lo) _ _
  | .text m => Loc.byte (g := fun b bs i => rdTx bs i b.toNat []) fun b _ => loc_tx _ _
  | .list s m => Loc.byte (g := fun b bs i => rdIt (fun j => rdB s bs j) i b.toNat []) fun b _ => loc_it (loc_rd s) _ _
  | .pair a b => Loc.bind (g := fun x bs j => (rdB b bs j).andThen fun y k => .told (.tup [x, y]) k) (loc_rd a) fun x => Loc.bind (g := fun y _ k => .told (.tup [x, y]) k) (loc_rd b) fun y => Loc.told _
  | .choice ss => Loc.byte (g := fun b bs i => (rdBs ss b.toNat bs i).andThen fun x j => .told (.tup [.str "of", .int b, x]) j) fun b _ => Loc.bind (f := fun bs i => rdBs ss b.toNat bs i) (g := fun x _ j => .told (.tup [.str "of", .int b, x]) j) (loc_rds ss _) fun x => Loc.told _
theorem loc_rds : ∀ (ss : List Sh) (n : Nat), Loc fun bs i => rdBs ss n bs i
  | [], n => Loc.short
  | s :: ss, 0 => loc_rd s
  | s :: ss, n + 1 => loc_rds ss n
end
end Wp

/-! PwExt: what is there stays; new lists. -/
namespace Wp
open PySem
/-- what is there stays -/
def Ext (M M' : Mem) : Prop := ∀ a o, M a = some o → M' a = some o
theorem Ext.refl {M : Mem} : Ext M M := fun _ _ h => h
theorem Ext.trans {M M1 M2 : Mem} (h : Ext M M1) (h2 : Ext M1 M2) : Ext M M2 := fun a o e => h2 a o (h a o e)
theorem Ext.off {M M' : Mem} (h : Ext M M') {a : Addr} (e : M' a = none) : M a = none := by
  cases q : M a with
  | none => rfl
  | some o => rw [h a o q] at e; cases e
theorem Ext.new {M M' : Mem} (h : Ext M M') {p : Addr} {o : Ob} (hp : M p = none) : Ext M (M'.upd p o) := fun a o' e => by
  have : a ≠ p := fun q => by rw [q, hp] at e; cases e
  rw [Mem.upd_ne this]
  exact h a o' e
theorem Ext.del {M M' : Mem} (h : Ext M M') {p : Addr} (hp : M p = none) : Ext M (M'.del p) := fun a o' e => by
  have : a ≠ p := fun q => by rw [q, hp] at e; cases e
  rw [Mem.del_ne this]
  exact h a o' e
abbrev intsD (bs : List Int) : List D := bs.map .int
/-- a new list of numbers -/
def NewL (M : Mem) (bs : List Int) (v : D) (M' : Mem) : Prop := ∃ p, v = .loc p ∧ M p = none ∧ M' p = some (.lst (intsD bs)) ∧ Ext M M'
end Wp

/-! PwG: grammars, talks and their wires, plain: what knows of no drawing. -/
namespace Wp
open PySem
theorem atI_nat {α : Type} {xs : List α} {i : Nat} {x : α} (h : xs[i]? = some x) : atI xs (i : Int) = some x := by
  have hl : i < xs.length := (List.getElem?_eq_some_iff.mp h).1
  unfold atI ixN
  rw [if_pos (by omega), if_pos (by omega)]
  show xs[(i : Int).toNat]? = _
  rw [Int.toNat_natCast]
  exact h
theorem str_ext {a b : Str} (h : a.cps.toList = b.cps.toList) : a = b := by
  cases a; cases b
  congr 1
  exact Array.toList_inj.mp h
theorem rng_up {lo : Int} {a b : Nat} (h1 : lo = (a : Int)) {n : Nat} (h2 : n = b - a) : rng lo n = rng (a : Int) (b - a) := by
  rw [h1, h2]
/-- what follows is told by a name -/
theorem absN {R : Nat → List D → Mem → QK → XQ → Prop} {s : Sx} {N : Ends} {env : Env} {M : Mem} (h : ∀ K : Ends, (∀ e M, N.nx e M → K.nx e M) → wpS R s K env M) : wpS R s N env M := h N fun _ _ h => h
theorem logN {i : Int} (h : i.natAbs ≤ 1000000000000000000000) : i.natAbs.log2 < 9000 := Nat.lt_trans (log2_small (Nat.lt_of_lt_of_le (show _ < 1000000000000000000001 by omega) (by decide))) (by decide)
theorem atI_ofN {α : Type} {xs : List α} {i : Nat} {x : α} (h : xs[i]? = some x) : atI xs (i : Int) = some x := by
  have := get_lt h
  unfold atI
  rw [ixN_in (by omega) (by omega)]
  show xs[((i : Nat) : Int).toNat]? = _
  rw [Int.toNat_natCast]; exact h
theorem Sh.levs_atG : ∀ {ss : List Sh}, ∀ s ∈ ss, s.lev ≤ Sh.levs ss
  | [], s, h => by cases h
  | x :: ss, s, h => by
    show s.lev ≤ x.lev + Sh.levs ss
    rcases List.mem_cons.mp h with h | h
    · rw [h]; omega
    · have := Sh.levs_atG s h; omega
theorem Sh.ds_nthG : ∀ (ss : List Sh) (n : Nat) (s : Sh), ss[n]? = some s → (Sh.ds ss)[n]? = some s.d
  | [], n, s, h => by rw [List.getElem?_nil] at h; cases h
  | x :: ss, 0, s, h => by rw [List.getElem?_cons_zero] at h; cases h; rfl
  | x :: ss, n + 1, s, h => by
    rw [List.getElem?_cons_succ] at h
    exact Sh.ds_nthG ss n s h
theorem Sh.okbs_atG : ∀ {ss : List Sh}, Sh.okbs ss = true → ∀ s ∈ ss, s.okb = true
  | [], _, s, hs => by cases hs
  | x :: ss, h, s, hs => by
    unfold Sh.okbs at h
    rw [Bool.and_eq_true] at h
    rcases List.mem_cons.mp hs with hs | hs
    · rw [hs]; exact h.1
    · exact Sh.okbs_atG h.2 s hs
theorem rng_go {j n : Nat} {x : D} {rem : List D} (hr : x :: rem = rng (j : Int) (n - j)) : j < n ∧ x = .int (j : Int) ∧ rem = rng ((j + 1 : Nat) : Int) (n - (j + 1)) := by
  have hjn : j < n := Decidable.byContradiction fun h => by
    rw [show n - j = 0 by omega] at hr
    cases hr
  obtain ⟨w, hw⟩ : ∃ w, n - j = w + 1 := ⟨n - j - 1, by omega⟩
  rw [hw] at hr
  unfold rng at hr ⊢
  rw [List.range_succ_eq_map, List.map_cons, List.map_map] at hr
  injection hr with h1 h2
  refine ⟨hjn, by rw [h1]; show D.int _ = D.int _; congr 1, ?_⟩
  rw [h2, show n - (j + 1) = w by omega]
  refine List.map_congr_left fun i _ => ?_
  show D.int _ = D.int _
  congr 1
  show (j : Int) + ((i + 1 : Nat) : Int) = ((j + 1 : Nat) : Int) + (i : Int)
  omega
theorem rng_end {j n : Nat} (hr : [] = rng (j : Int) (n - j)) : n ≤ j := by
  have := congrArg List.length hr
  unfold rng at this
  rw [List.length_map, List.length_range, List.length_nil] at this
  omega
theorem intsD_at {bs : List Int} {i : Nat} {b : Int} (h : bs[i]? = some b) : atI (intsD bs) (i : Int) = some (.int b) := by
  refine atI_nat ?_
  unfold intsD
  rw [List.getElem?_map, h]; rfl
abbrev PW := Str × Sh × Int
abbrev PG := Option (Bool × List PW)
def sdS : Bool → Str
  | true => "left"
  | false => "right"
def pwD (w : PW) : D := .tup [.str w.1, w.2.1.d, .int w.2.2]
def pgD : PG → D
  | none => .tup [.str "end"]
  | some (b, ws) => .tup [.str (sdS b), .lst (ws.map pwD)]
/-- a word as it should be -/
structure PWOk (many : Int) (w : PW) : Prop where
  sm : smV (.str w.1) = true
  ok : w.2.1.okb = true
  lv : w.2.1.lev ≤ 62
  dp : w.2.1.dep ≤ 10
  t0 : 0 ≤ w.2.2
  t1 : w.2.2 < many
structure PWsOk (many : Int) (ws : List PW) : Prop where
  l9 : ws.length ≤ 9
  ok : ∀ w ∈ ws, PWOk many w
  nd : ∀ (i j : Nat) (x y : PW), ws[i]? = some x → ws[j]? = some y → x.1 = y.1 → i = j
theorem PWsOk.at {many : Int} {ws : List PW} (h : PWsOk many ws) {j : Nat} {w : PW} (e : ws[j]? = some w) : PWOk many w := h.ok w (List.mem_of_getElem? e)
def PGOk (many : Int) : PG → Prop
  | none => True
  | some (_, ws) => 1 ≤ ws.length ∧ PWsOk many ws
abbrev PMs := Bool × Str × D
def pmD (m : PMs) : D := .tup [.str (sdS m.1), .str m.2.1, m.2.2]
/-- a value of a shape -/
structure VF (s : Sh) (v : D) : Prop where
  sm : smV v = true
  fi : fitsB s v = true
/-- a message of a state, the next one, its bytes -/
def PStep (gs : List PG) (s : Int) (m : PMs) (t : Int) (x : List Int) : Prop := ∃ (b : Bool) (ws : List PW) (j : Nat) (w : PW), gs[s.toNat]? = some (some (b, ws)) ∧ ws[j]? = some w ∧ m = (b, w.1, m.2.2) ∧ VF w.2.1 m.2.2 ∧ t = w.2.2 ∧ x = (j : Int) :: bytesB w.2.1 m.2.2
def sel (b c : Bool) (x : List Int) : List Int := if b = c then x else []
theorem sel_len (b c : Bool) (x : List Int) : (sel b c x).length ≤ x.length := by
  unfold sel
  split
  · exact Nat.le_refl _
  · exact Nat.zero_le _
/-- a talk from a state to a state, and its wires -/
def PTk (gs : List PG) : Int → List PMs → Int → (Bool → List Int) → Prop
  | s, [], t, W => t = s ∧ W = fun _ => []
  | s, m :: ms, t, W => ∃ u x W', PStep gs s m u x ∧ PTk gs u ms t W' ∧ W = fun c => sel m.1 c x ++ W' c
theorem PTk.snoc {gs : List PG} {m : PMs} {u : Int} {x : List Int} : ∀ {s t : Int} {ms : List PMs} {W : Bool → List Int}, PTk gs s ms t W → PStep gs t m u x → PTk gs s (ms ++ [m]) u (fun c => W c ++ sel m.1 c x)
  | s, t, [], W, ⟨h1, h3⟩, h2 => by
    subst h1 h3
    exact ⟨u, x, fun _ => [], h2, ⟨rfl, rfl⟩, by funext c; rw [List.nil_append, List.append_nil]⟩
  | s, t, y :: ms, W, ⟨v, z, W', h1, h, h3⟩, h2 => by
    subst h3
    exact ⟨v, z, _, h1, h.snoc h2, by funext c; rw [List.append_assoc]⟩
/-- a grammar drawn -/
structure GsOk (gs : List PG) : Prop where
  l1 : 1 ≤ gs.length
  l30 : gs.length ≤ 30
  ok : ∀ g ∈ gs, PGOk gs.length g
theorem sd_sm (b : Bool) : smV (.str (sdS b)) = true := by cases b <;> decide +kernel
theorem GsOk.at {gs : List PG} (h : GsOk gs) {s : Int} (h0 : 0 ≤ s) (h1 : s < gs.length) : ∃ g, gs[s.toNat]? = some g ∧ PGOk gs.length g ∧ atI (gs.map pgD) s = some (pgD g) := by
  obtain ⟨n, rfl⟩ : ∃ n : Nat, s = (n : Int) := ⟨s.toNat, by omega⟩
  rw [Int.toNat_natCast]
  have hn : n < gs.length := by omega
  exact ⟨gs[n], List.getElem?_eq_getElem hn, h.ok _ (List.getElem_mem hn), atI_ofN (by rw [List.getElem?_map, List.getElem?_eq_getElem hn]; rfl)⟩
/-- a message as it should be -/
def PMOk (m : PMs) : Prop := smV (.str m.2.1) = true ∧ smV m.2.2 = true
theorem pmD_sm {m : PMs} (h : PMOk m) : smV (pmD m) = true := smV_tp (by show 3 ≤ 1000; decide) (all_cons (sd_sm _) (all_cons h.1 (all_cons h.2 all_nil)))
mutual
theorem shd_pl : ∀ s : Sh, plV s.d = true ∧ dep s.d ≤ 2 * s.dep + 1
  | .nothing => ⟨by decide +kernel, by decide⟩
  | .number lo hi => ⟨plV_tp (all_cons (by decide +kernel) (all_cons (by unfold plV; rfl) (all_cons (by unfold plV; rfl) all_nil))), by show max 0 (max 0 (max 0 0)) + 1 ≤ _; omega⟩
  | .text m => ⟨plV_tp (all_cons (by decide +kernel) (all_cons (by unfold plV; rfl) all_nil)), by show max 0 (max 0 0) + 1 ≤ _; omega⟩
  | .list s m => by
    have h := shd_pl s
    refine ⟨plV_tp (all_cons (by decide +kernel) (all_cons h.1 (all_cons (by unfold plV; rfl) all_nil))), ?_⟩
    show max 0 (max (dep s.d) (max 0 0)) + 1 ≤ 2 * (s.dep + 1) + 1
    omega
  | .pair a b => by
    have h := shd_pl a
    have h2 := shd_pl b
    refine ⟨plV_tp (all_cons (by decide +kernel) (all_cons h.1 (all_cons h2.1 all_nil))), ?_⟩
    show max 0 (max (dep a.d) (max (dep b.d) 0)) + 1 ≤ 2 * (max a.dep b.dep + 1) + 1
    omega
  | .choice ss => by
    have h := shds_pl ss
    refine ⟨plV_tp (all_cons (by decide +kernel) (all_cons (plV_tp h.1) all_nil)), ?_⟩
    show max 0 (max (deps (Sh.ds ss) + 1) 0) + 1 ≤ 2 * (Sh.deps ss + 1) + 1
    have := h.2
    omega
theorem shds_pl : ∀ ss : List Sh, (∀ d ∈ Sh.ds ss, plV d = true) ∧ deps (Sh.ds ss) ≤ 2 * Sh.deps ss + 1
  | [] => ⟨all_nil, Nat.zero_le _⟩
  | s :: ss => by
    have h := shd_pl s
    have h2 := shds_pl ss
    refine ⟨all_cons h.1 h2.1, ?_⟩
    show max (dep s.d) (deps (Sh.ds ss)) ≤ 2 * (max s.dep (Sh.deps ss)) + 1
    omega
end
theorem str_pl {z : Str} (h : smV (.str z) = true) : plV (.str z) = true := by
  have h : (decide (z.length ≤ 1000) && PyData.strOk z) = true := h
  rw [Bool.and_eq_true] at h
  unfold plV
  exact h.2
theorem pwD_pl {many : Int} {w : PW} (h : PWOk many w) : plV (pwD w) = true ∧ dep (pwD w) ≤ 22 := by
  have s := shd_pl w.2.1
  have d := h.dp
  refine ⟨plV_tp (all_cons (str_pl h.sm) (all_cons s.1 (all_cons (by unfold plV; rfl) all_nil))), ?_⟩
  show max 0 (max (dep w.2.1.d) (max 0 0)) + 1 ≤ 22
  omega
theorem pgD_pl {many : Int} {g : PG} (h : PGOk many g) : plV (pgD g) = true ∧ dep (pgD g) ≤ 24 := by
  cases g with
  | none => exact ⟨by decide +kernel, by decide⟩
  | some bw =>
    obtain ⟨b, ws⟩ := bw
    obtain ⟨h1, h9, hw, _⟩ := h
    have key : ∀ x ∈ ws.map pwD, plV x = true ∧ dep x ≤ 22 := fun x hx => by
      obtain ⟨w, hw2, rfl⟩ := List.mem_map.mp hx
      exact pwD_pl (hw w hw2)
    refine ⟨plV_tp (all_cons (str_pl (sd_sm b)) (all_cons (plV_ls fun x hx => (key x hx).1) all_nil)), ?_⟩
    show max 0 (max (deps (ws.map pwD) + 1) 0) + 1 ≤ 24
    have : deps (ws.map pwD) ≤ 22 := deps_le fun x hx => (key x hx).2
    omega
end Wp

/-! PwSq: statements and tests put together by hand (where `whnf` would run too far). -/
namespace Wp
open PySem
/-- the statements of a body, and the one at a place -/
def dropQ : Nat → Sx → Sx
  | 0, s => s
  | n + 1, .seq _ t => dropQ n t
  | _, s => s
def headQ : Sx → Sx
  | .seq s _ => s
  | s => s
def testQ : Sx → Ex
  | .ife c _ _ => c
  | .loop c _ => c
  | .ret e => e
  | .asg _ e => e
  | .drop e => e
  | _ => .non
def thenQ : Sx → Sx
  | .ife _ s _ => s
  | .loop _ s => s
  | .each _ _ s => s
  | s => s
def elseQ : Sx → Sx
  | .ife _ _ s => s
  | s => s
section
variable {R : Nat → List D → Mem → QK → XQ → Prop} {a b c d : Ex} {s t u : Sx} {N : Ends} {env : Env} {M : Mem} {Q : QK} {E : XQ}
def condQ (bv : Bool) (a b : Sx) : Sx := if bv then a else b
/-- an if whose test is known -/
theorem sq_if (bv : Bool) (h : ∀ (Q : QK) (E : XQ), Q (.bl bv) M → wpE R c env M Q E) (h2 : wpS R (condQ bv s t) { N with nx := wpS R u N } env M) : wpS R (.seq (.ife c s t) u) N env M := by
  refine h _ _ ?_
  cases bv <;> exact h2
theorem sq_if0 (h : ∀ (Q : QK) (E : XQ), Q (.bl false) M → wpE R c env M Q E) (h2 : wpS R u N env M) : wpS R (.seq (.ife c s .nil) u) N env M := h _ _ h2
theorem sq_if1 (h : ∀ (Q : QK) (E : XQ), Q (.bl true) M → wpE R c env M Q E) (h2 : wpS R s { N with nx := wpS R u N } env M) : wpS R (.seq (.ife c s t) u) N env M := h _ _ h2
/-- .. one that may change the memory -/
theorem sq_ifM (bv : Bool) (P : Mem → Prop) (h : ∀ (Q : QK) (E : XQ), (∀ M', P M' → Q (.bl bv) M') → wpE R c env M Q E) (h2 : ∀ M', P M' → wpS R (condQ bv s t) { N with nx := wpS R u N } env M') : wpS R (.seq (.ife c s t) u) N env M := by
  refine h _ _ fun M' hM => ?_
  have h2 := h2 M' hM
  cases bv <;> exact h2
theorem sq_if0M (P : Mem → Prop) (h : ∀ (Q : QK) (E : XQ), (∀ M', P M' → Q (.bl false) M') → wpE R c env M Q E) (h2 : ∀ M', P M' → wpS R u N env M') : wpS R (.seq (.ife c s .nil) u) N env M := h _ _ fun M' hM => h2 M' hM
theorem sq_asg {tg : Tg} (h : wpE R c env M (fun x M1 => tgW tg x env fun e' => wpS R u N e' M1) fun z M1 => N.ex z env M1) : wpS R (.seq (.asg tg c) u) N env M := h
theorem sq_ret (h : wpE R c env M (fun x M1 => N.rt x M1) fun z M1 => N.ex z env M1) : wpS R (.seq (.ret c) u) N env M := h
theorem sq_drop (h : wpE R c env M (fun x M1 => wpS R u N env M1) fun z M1 => N.ex z env M1) : wpS R (.seq (.drop c) u) N env M := h
theorem x_or_t (h : ∀ (Q : QK) (E : XQ), Q (.bl true) M → wpE R c env M Q E) (q : Q (.bl true) M) : wpE R (.or c d) env M Q E := h _ _ q
theorem x_or_f (h : ∀ (Q : QK) (E : XQ), Q (.bl false) M → wpE R c env M Q E) (q : wpE R d env M Q E) : wpE R (.or c d) env M Q E := h _ _ q
theorem x_or_fM (P : Mem → Prop) (h : ∀ (Q : QK) (E : XQ), (∀ M', P M' → Q (.bl false) M') → wpE R c env M Q E) (q : ∀ M', P M' → wpE R d env M' Q E) : wpE R (.or c d) env M Q E := h _ _ fun M' hP => q M' hP
theorem x_and_t (h : ∀ (Q : QK) (E : XQ), Q (.bl true) M → wpE R c env M Q E) (q : wpE R d env M Q E) : wpE R (.and c d) env M Q E := h _ _ q
theorem x_and_f (h : ∀ (Q : QK) (E : XQ), Q (.bl false) M → wpE R c env M Q E) (q : Q (.bl false) M) : wpE R (.and c d) env M Q E := h _ _ q
theorem x_not {bv : Bool} (h : ∀ (Q : QK) (E : XQ), Q (.bl bv) M → wpE R c env M Q E) (q : Q (.bl (!bv)) M) : wpE R (.not c) env M Q E := h _ _ q
theorem x_cmp {op : CmpOp} {x y : D} {bv : Bool} (ha : ∀ (Q : QK) (E : XQ), Q x M → wpE R a env M Q E) (hb : ∀ (Q : QK) (E : XQ), Q y M → wpE R b env M Q E) (hc : ∀ Q : QK, Q (.bl bv) M → cmpW op x y M Q) (q : Q (.bl bv) M) : wpE R (.cmp op a b) env M Q E := ha _ _ (hb _ _ (hc _ q))
theorem x_cmpM {op : CmpOp} {y : D} {bv : Bool} (P : D → Mem → Prop) (ha : ∀ (Q : QK) (E : XQ), (∀ x M', P x M' → Q x M') → wpE R a env M Q E) (hb : ∀ (M' : Mem) (Q : QK) (E : XQ), Q y M' → wpE R b env M' Q E) (hc : ∀ x M' (Q : QK), P x M' → Q (.bl bv) M' → cmpW op x y M' Q) (q : ∀ x M', P x M' → Q (.bl bv) M') : wpE R (.cmp op a b) env M Q E := ha _ _ fun x M' hP => hb _ _ _ (hc _ _ _ hP (q _ _ hP))
theorem c_part {Q : BK} (h : wpE R c env M (fun x M1 => truW x M1 Q) E) : wpC R (.part c) env M Q E := h
end
end Wp

/-! PwDeep: data with places of lists at any depth, read as trees; set beside one another. -/
namespace Wp
open PySem
mutual
/-- a thing in the memory reads as a tree -/
def Lk (M : Mem) : D → D → Prop
  | x, .lst vs => ∃ xs, (x = .lst xs ∨ ∃ a, x = .loc a ∧ M a = some (.lst xs)) ∧ Lks M xs vs
  | x, .tup vs => ∃ xs, x = .tup xs ∧ Lks M xs vs
  | x, .non => x = .non
  | x, .bl b => x = .bl b
  | x, .int i => x = .int i
  | x, .str z => x = .str z
  | x, .scr ns => x = .scr ns
  | x, .emp => x = .emp
  | _, .loc _ => False
def Lks (M : Mem) : List D → List D → Prop
  | xs, [] => xs = []
  | xs, v :: vs => ∃ x r, xs = x :: r ∧ Lk M x v ∧ Lks M r vs
end
theorem lks_cons {M : Mem} {x v : D} {xs vs : List D} (h : Lk M x v) (t : Lks M xs vs) : Lks M (x :: xs) (v :: vs) := by
  unfold Lks
  exact ⟨x, xs, rfl, h, t⟩
theorem lks_nil {M : Mem} : Lks M [] [] := by unfold Lks; rfl
theorem lks_len {M : Mem} : ∀ {xs vs : List D}, Lks M xs vs → xs.length = vs.length
  | xs, [], h => by unfold Lks at h; rw [h]
  | xs, v :: vs, h => by
    unfold Lks at h
    obtain ⟨x, r, rfl, _, t⟩ := h
    rw [List.length_cons, List.length_cons, lks_len t]
theorem lks_app {M : Mem} : ∀ {xs vs ys ws : List D}, Lks M xs vs → Lks M ys ws → Lks M (xs ++ ys) (vs ++ ws)
  | xs, [], ys, ws, h, t => by unfold Lks at h; rw [h]; exact t
  | xs, v :: vs, ys, ws, h, t => by
    unfold Lks at h
    obtain ⟨x, r, rfl, h1, h2⟩ := h
    exact lks_cons h1 (lks_app h2 t)
theorem lks_get {M : Mem} : ∀ {xs vs : List D} {i : Nat} {v : D}, Lks M xs vs → vs[i]? = some v → ∃ x, xs[i]? = some x ∧ Lk M x v
  | xs, [], i, v, h, e => by rw [List.getElem?_nil] at e; cases e
  | xs, w :: vs, 0, v, h, e => by
    unfold Lks at h
    obtain ⟨x, r, rfl, h1, h2⟩ := h
    rw [List.getElem?_cons_zero] at e
    cases e
    exact ⟨x, rfl, h1⟩
  | xs, w :: vs, i + 1, v, h, e => by
    unfold Lks at h
    obtain ⟨x, r, rfl, h1, h2⟩ := h
    rw [List.getElem?_cons_succ] at e
    obtain ⟨y, e2, h3⟩ := lks_get h2 e
    exact ⟨y, by rw [List.getElem?_cons_succ]; exact e2, h3⟩
theorem lk_tup {M : Mem} {xs vs : List D} (h : Lks M xs vs) : Lk M (.tup xs) (.tup vs) := by unfold Lk; exact ⟨xs, rfl, h⟩
theorem lk_lst {M : Mem} {xs vs : List D} (h : Lks M xs vs) : Lk M (.lst xs) (.lst vs) := by unfold Lk; exact ⟨xs, .inl rfl, h⟩
theorem lk_loc {M : Mem} {a : Addr} {xs vs : List D} (e : M a = some (.lst xs)) (h : Lks M xs vs) : Lk M (.loc a) (.lst vs) := by unfold Lk; exact ⟨xs, .inr ⟨a, rfl, e⟩, h⟩
mutual
/-- a tree reads as itself -/
theorem lk_self {M : Mem} : ∀ {v : D}, plV v = true → Lk M v v
  | .non, _ => by unfold Lk; rfl
  | .int _, _ => by unfold Lk; rfl
  | .str _, _ => by unfold Lk; rfl
  | .tup ds, h => by unfold plV at h; exact lk_tup (lks_self (plVs_of h))
  | .lst ds, h => by unfold plV at h; exact lk_lst (lks_self (plVs_of h))
  | .bl _, h => by unfold plV at h; cases h
  | .scr _, h => by unfold plV at h; cases h
  | .emp, h => by unfold plV at h; cases h
  | .loc _, h => by unfold plV at h; cases h
theorem lks_self {M : Mem} : ∀ {vs : List D}, (∀ v ∈ vs, plV v = true) → Lks M vs vs
  | [], _ => lks_nil
  | v :: vs, h => lks_cons (lk_self (h v (List.mem_cons_self ..))) (lks_self fun w hw => h w (List.mem_cons_of_mem _ hw))
end
theorem optAll_same {f : D → Option PyData} {M : Mem} (ih : ∀ {x v : D}, Lk M x v → plV v = true → dep v ≤ k → f x = toPy v) : ∀ {xs vs : List D}, Lks M xs vs → (∀ v ∈ vs, plV v = true) → deps vs ≤ k → optAll f xs = toPys vs
  | xs, [], h, _, _ => by unfold Lks at h; rw [h]; rfl
  | xs, v :: vs, h, hp, hd => by
    unfold Lks at h
    obtain ⟨x, r, rfl, h1, h2⟩ := h
    unfold deps at hd
    unfold optAll toPys
    rw [ih h1 (hp v (List.mem_cons_self ..)) (by omega), optAll_same ih h2 (fun w hw => hp w (List.mem_cons_of_mem _ hw)) (by omega)]
    cases toPy v <;> cases toPys vs <;> rfl
theorem toPyF_lk {M : Mem} : ∀ (n : Nat) {x v : D}, Lk M x v → plV v = true → dep v < n → toPyF M n x = toPy v
  | 0, _, _, _, _, h => absurd h (Nat.not_lt_zero _)
  | n + 1, x, v, h, hp, hd => by
    cases v with
    | non => unfold Lk at h; rw [h]; rfl
    | int i => unfold Lk at h; rw [h]; rfl
    | str z => unfold Lk at h; rw [h]; rfl
    | tup vs =>
      unfold Lk at h
      obtain ⟨xs, rfl, h⟩ := h
      unfold plV at hp
      unfold dep at hd
      show (optAll (toPyF M n) xs).map PyData.tuple = (toPys vs).map PyData.tuple
      rw [optAll_same (k := n - 1) (fun h1 h2 h3 => toPyF_lk n h1 h2 (by omega)) h (plVs_of hp) (by omega)]
    | lst vs =>
      unfold Lk at h
      obtain ⟨xs, hx, h⟩ := h
      unfold plV at hp
      unfold dep at hd
      have e := optAll_same (k := n - 1) (fun h1 h2 h3 => toPyF_lk n h1 h2 (by omega)) h (plVs_of hp) (by omega)
      rcases hx with rfl | ⟨a, rfl, ha⟩
      · show (optAll (toPyF M n) xs).map PyData.list = (toPys vs).map PyData.list
        rw [e]
      · show (match M a with
          | some (.lst ds) => (optAll (toPyF M n) ds).map PyData.list
          | _ => none) = (toPys vs).map PyData.list
        rw [ha]
        show (optAll (toPyF M n) xs).map PyData.list = (toPys vs).map PyData.list
        rw [e]
    | bl _ => unfold plV at hp; cases hp
    | scr _ => unfold plV at hp; cases hp
    | emp => unfold plV at hp; cases hp
    | loc _ => unfold plV at hp; cases hp
/-- what reads shallowly reads deeply as the same -/
theorem optAll_to {f g : D → Option PyData} (ih : ∀ {x : D} {p q : PyData}, f x = some p → g x = some q → p = q) : ∀ {xs : List D} {ps qs : List PyData}, optAll f xs = some ps → optAll g xs = some qs → ps = qs
  | [], ps, qs, h1, h2 => by cases h1; cases h2; rfl
  | x :: xs, ps, qs, h1, h2 => by
    unfold optAll at h1 h2
    cases e1 : f x with
    | none => rw [e1] at h1; cases h1
    | some p =>
      cases e2 : optAll f xs with
      | none => rw [e1, e2] at h1; cases h1
      | some ps' =>
        cases e3 : g x with
        | none => rw [e3] at h2; cases h2
        | some q =>
          cases e4 : optAll g xs with
          | none => rw [e3, e4] at h2; cases h2
          | some qs' =>
            rw [e1, e2] at h1; rw [e3, e4] at h2
            cases h1; cases h2
            rw [ih e1 e3, optAll_to ih e2 e4]
theorem toPys_opt : ∀ xs : List D, toPys xs = optAll toPy xs
  | [] => rfl
  | x :: xs => by
    unfold toPys optAll
    rw [toPys_opt xs]
    cases toPy x <;> cases optAll toPy xs <;> rfl
theorem toPys1_opt (M : Mem) : ∀ xs : List D, toPys1 M xs = optAll (toPy1 M) xs
  | [] => rfl
  | x :: xs => by
    unfold toPys1 optAll
    rw [toPys1_opt M xs]
    cases toPy1 M x <;> cases optAll (toPy1 M) xs <;> rfl
theorem map_same {α β : Type} {f : α → β} {o o' : Option α} {p q : β} (h : ∀ a b, o = some a → o' = some b → a = b) (h1 : o.map f = some p) (h2 : o'.map f = some q) : p = q := by
  cases o with
  | none => cases h1
  | some a =>
    cases o' with
    | none => cases h2
    | some b => cases h1; cases h2; rw [h a b rfl rfl]
theorem toPy_F {M : Mem} : ∀ (n : Nat) {x : D} {p q : PyData}, toPy x = some p → toPyF M n x = some q → p = q
  | 0, _, _, _, _, h => by cases h
  | n + 1, x, p, q, h1, h2 => by
    cases x with
    | tup ds =>
      have h1 : (toPys ds).map PyData.tuple = some p := by unfold toPy at h1; exact h1
      have h2 : (optAll (toPyF M n) ds).map PyData.tuple = some q := h2
      rw [toPys_opt] at h1
      exact map_same (fun a b e1 e2 => optAll_to (fun k1 k2 => toPy_F n k1 k2) e1 e2) h1 h2
    | lst ds =>
      have h1 : (toPys ds).map PyData.list = some p := by unfold toPy at h1; exact h1
      have h2 : (optAll (toPyF M n) ds).map PyData.list = some q := h2
      rw [toPys_opt] at h1
      exact map_same (fun a b e1 e2 => optAll_to (fun k1 k2 => toPy_F n k1 k2) e1 e2) h1 h2
    | loc a => unfold toPy at h1; cases h1
    | _ =>
      have h2 : toPy _ = some q := h2
      rw [h1] at h2; injection h2
theorem toPy1_F {M : Mem} {n : Nat} {x : D} {p q : PyData} (h1 : toPy1 M x = some p) (h2 : toPyF M n x = some q) : p = q := by
  cases x with
  | loc a =>
    cases n with
    | zero => cases h2
    | succ n =>
      have h1 : (match M a with
        | some (.lst ds) => (toPys ds).map PyData.list
        | _ => none) = some p := h1
      have h2 : (match M a with
        | some (.lst ds) => (optAll (toPyF M n) ds).map PyData.list
        | _ => none) = some q := h2
      cases e : M a with
      | none => rw [e] at h1; cases h1
      | some ob =>
        rw [e] at h1 h2
        cases ob with
        | lst ds =>
          have h1 : (toPys ds).map PyData.list = some p := h1
          have h2 : (optAll (toPyF M n) ds).map PyData.list = some q := h2
          rw [toPys_opt] at h1
          exact map_same (fun a b e1 e2 => optAll_to (fun k1 k2 => toPy_F n k1 k2) e1 e2) h1 h2
        | _ => cases h1
  | _ => exact toPy_F n h1 h2
theorem toPyM_F {M : Mem} {n : Nat} {x : D} {p q : PyData} (h1 : toPyM M x = some p) (h2 : toPyF M n x = some q) : p = q := by
  cases x with
  | tup ds =>
    cases n with
    | zero => cases h2
    | succ n =>
      have h1 : (toPys1 M ds).map PyData.tuple = some p := h1
      have h2 : (optAll (toPyF M n) ds).map PyData.tuple = some q := h2
      rw [toPys1_opt] at h1
      exact map_same (fun a b e1 e2 => optAll_to (fun k1 k2 => toPy1_F k1 k2) e1 e2) h1 h2
  | _ => exact toPy1_F (M := M) (by exact h1) h2
/-- == of things that read as trees -/
theorem eqP_lk {v w x y : D} {neg : Bool} {M : Mem} {Q : QK} (hx : Lk M x v) (hy : Lk M y w) (hv : plV v = true) (hw : plV w = true) (dv : dep v ≤ 28) (dw : dep w ≤ 28) (h1 : v = w → Q (.bl (!neg)) M) (h2 : v ≠ w → Q (.bl neg) M) : eqP neg x y M Q := by
  obtain ⟨p, e1, _, _⟩ := toPy_pl hv
  obtain ⟨q, e2, _, _⟩ := toPy_pl hw
  have f1 : toPyF M 30 x = some p := (toPyF_lk 30 hx hv (by omega)).trans e1
  have f2 : toPyF M 30 y = some q := (toPyF_lk 30 hy hw (by omega)).trans e2
  have main : SeqAt.shaped p = true ∧ SeqAt.shaped q = true ∧ Q (.bl (if neg then !PyData.eqv p q else PyData.eqv p q)) M := by
    refine ⟨shaped_pl hv (by omega) e1, shaped_pl hw (by omega) e2, ?_⟩
    have k := eqv_pl hv hw e1 e2
    by_cases e : v = w
    · rw [k.mpr e]
      cases neg <;> exact h1 e
    · rw [Bool.eq_false_iff.mpr fun z => e (k.mp z)]
      cases neg <;> exact h2 e
  have deep : eqF neg x y M Q := by
    unfold eqF
    rw [f1, f2]
    exact main
  unfold eqP
  cases g1 : toPyM M x with
  | none => exact deep
  | some p' =>
    cases g2 : toPyM M y with
    | none => exact deep
    | some q' =>
      obtain rfl := toPyM_F g1 f1
      obtain rfl := toPyM_F g2 f2
      exact main
theorem lk_asL {M : Mem} {x : D} {vs : List D} (h : Lk M x (.lst vs)) : ∃ xs, asL M x = some xs ∧ Lks M xs vs ∧ (x = .lst xs ∨ ∃ a, x = .loc a ∧ M a = some (.lst xs)) := by
  unfold Lk at h
  obtain ⟨xs, hx, h⟩ := h
  refine ⟨xs, ?_, h, hx⟩
  rcases hx with rfl | ⟨a, rfl, ha⟩
  · rfl
  · exact asL_loc ha
/-- .. of two lists -/
theorem eqW_lk {vs ws : List D} {x y : D} {neg : Bool} {M : Mem} {Q : QK} (hx : Lk M x (.lst vs)) (hy : Lk M y (.lst ws)) (hv : ∀ v ∈ vs, plV v = true) (hw : ∀ v ∈ ws, plV v = true) (dv : deps vs ≤ 27) (dw : deps ws ≤ 27) (h1 : vs = ws → Q (.bl (!neg)) M) (h2 : vs ≠ ws → Q (.bl neg) M) : eqW neg x y M Q := by
  obtain ⟨xs, e1, l1, c1⟩ := lk_asL hx
  obtain ⟨ys, e2, l2, c2⟩ := lk_asL hy
  unfold eqW
  have en : eqA x y = none := by
    rcases c1 with rfl | ⟨a, rfl, _⟩ <;> rcases c2 with rfl | ⟨b, rfl, _⟩ <;> rfl
  rw [en]
  dsimp only
  unfold eqL
  rw [e1, e2]
  dsimp only
  by_cases hl : xs.length = ys.length
  · rw [if_pos hl]
    refine eqP_lk hx hy (plV_ls hv) (plV_ls hw) (by unfold dep; omega) (by unfold dep; omega) (fun e => h1 (by injection e)) (fun e => h2 fun z => e (by rw [z]))
  · rw [if_neg hl]
    refine h2 fun z => hl ?_
    rw [lks_len l1, lks_len l2, z]
/-- .. of two tuples -/
theorem eqW_lkT {vs ws xs ys : List D} {neg : Bool} {M : Mem} {Q : QK} (hx : Lks M xs vs) (hy : Lks M ys ws) (hv : ∀ v ∈ vs, plV v = true) (hw : ∀ v ∈ ws, plV v = true) (dv : deps vs ≤ 27) (dw : deps ws ≤ 27) (h1 : vs = ws → Q (.bl (!neg)) M) (h2 : vs ≠ ws → Q (.bl neg) M) : eqW neg (.tup xs) (.tup ys) M Q := by
  have P : eqP neg (.tup xs) (.tup ys) M Q := eqP_lk (lk_tup hx) (lk_tup hy) (plV_tp hv) (plV_tp hw) (by unfold dep; omega) (by unfold dep; omega) (fun e => h1 (by injection e)) (fun e => h2 fun z => e (by rw [z]))
  show (match eqU (.tup xs) (.tup ys) with
    | true => Q (.bl neg) M
    | false => eqP neg (.tup xs) (.tup ys) M Q)
  cases q : eqU (.tup xs) (.tup ys) with
  | false => exact P
  | true =>
    refine h2 fun z => ?_
    subst z
    have := (lks_len hx).trans (lks_len hy).symm
    cases xs <;> cases ys <;> first | (cases q; done) | (cases this; done)
/-- as whnf leaves it -/
theorem lkM {vs ws : List D} {x y : D} {neg : Bool} {M : Mem} {Q : QK} (hx : Lk M x (.lst vs)) (hy : Lk M y (.lst ws)) (hv : ∀ v ∈ vs, plV v = true) (hw : ∀ v ∈ ws, plV v = true) (dv : deps vs ≤ 27) (dw : deps ws ≤ 27) (h1 : vs = ws → Q (.bl (!neg)) M) (h2 : vs ≠ ws → Q (.bl neg) M) : (match asL M x, asL M y with
    | some xs, some ys => if xs.length = ys.length then eqP neg x y M Q else Q (.bl neg) M
    | _, _ => match eqU x y with
      | true => Q (.bl neg) M
      | false => eqP neg x y M Q) := by
  have h := eqW_lk hx hy hv hw dv dw h1 h2
  obtain ⟨xs, e1, l1, c1⟩ := lk_asL hx
  obtain ⟨ys, e2, l2, c2⟩ := lk_asL hy
  unfold eqW at h
  have en : eqA x y = none := by
    rcases c1 with rfl | ⟨a, rfl, _⟩ <;> rcases c2 with rfl | ⟨b, rfl, _⟩ <;> rfl
  rw [en] at h
  exact h
theorem cmpNe_lk {vs ws : List D} {x y : D} {M : Mem} {Q : QK} (hx : Lk M x (.lst vs)) (hy : Lk M y (.lst ws)) (hv : ∀ v ∈ vs, plV v = true) (hw : ∀ v ∈ ws, plV v = true) (dv : deps vs ≤ 27) (dw : deps ws ≤ 27) (h1 : vs = ws → Q (.bl false) M) (h2 : vs ≠ ws → Q (.bl true) M) : cmpW .NotEq x y M Q :=
  eqW_lk (neg := true) hx hy hv hw dv dw h1 h2
theorem cmpEq_lk {vs ws : List D} {x y : D} {M : Mem} {Q : QK} (hx : Lk M x (.lst vs)) (hy : Lk M y (.lst ws)) (hv : ∀ v ∈ vs, plV v = true) (hw : ∀ v ∈ ws, plV v = true) (dv : deps vs ≤ 27) (dw : deps ws ≤ 27) (h1 : vs = ws → Q (.bl true) M) (h2 : vs ≠ ws → Q (.bl false) M) : cmpW .Eq x y M Q :=
  eqW_lk (neg := false) hx hy hv hw dv dw h1 h2
theorem cmpNe_lkT {vs ws xs ys : List D} {M : Mem} {Q : QK} (hx : Lks M xs vs) (hy : Lks M ys ws) (hv : ∀ v ∈ vs, plV v = true) (hw : ∀ v ∈ ws, plV v = true) (dv : deps vs ≤ 27) (dw : deps ws ≤ 27) (h1 : vs = ws → Q (.bl false) M) (h2 : vs ≠ ws → Q (.bl true) M) : cmpW .NotEq (.tup xs) (.tup ys) M Q :=
  eqW_lkT (neg := true) hx hy hv hw dv dw h1 h2
theorem cmpEq_lkT {vs ws xs ys : List D} {M : Mem} {Q : QK} (hx : Lks M xs vs) (hy : Lks M ys ws) (hv : ∀ v ∈ vs, plV v = true) (hw : ∀ v ∈ ws, plV v = true) (dv : deps vs ≤ 27) (dw : deps ws ≤ 27) (h1 : vs = ws → Q (.bl true) M) (h2 : vs ≠ ws → Q (.bl false) M) : cmpW .Eq (.tup xs) (.tup ys) M Q :=
  eqW_lkT (neg := false) hx hy hv hw dv dw h1 h2
/-- two things that read as the same tree -/
theorem lk_same {M : Mem} {x y v : D} (hx : Lk M x v) (hy : Lk M y v) (hv : plV v = true) (dv : dep v ≤ 28) : ∃ p, toPyF M 30 x = some p ∧ toPyF M 30 y = some p ∧ SeqAt.shaped p = true ∧ PyData.eqv p p = true ∧ (∀ d, toPyM M x = some d → d = p) ∧ ∀ d, toPyM M y = some d → d = p := by
  obtain ⟨p, e1, _, _⟩ := toPy_pl hv
  have f1 : toPyF M 30 x = some p := (toPyF_lk 30 hx hv (by omega)).trans e1
  have f2 : toPyF M 30 y = some p := (toPyF_lk 30 hy hv (by omega)).trans e1
  exact ⟨p, f1, f2, shaped_pl hv (by omega) e1, (eqv_pl hv hv e1 e1).mpr rfl, fun d h => toPyM_F h f1, fun d h => toPyM_F h f2⟩
end Wp

/-! K41a: cells, states. -/
namespace Wp
open PySem
def celB (ns : List Int) (k : Nat) : Int := match ns[k]? with
  | some z => z
  | none => 23 * (k : Int) * k + 13 * k + 5
def BitsOk (c : Int) : Prop := c.natAbs.log2 ≤ 2000000
def NsOk (ns : List Int) : Prop := ns.length ≤ 63 ∧ ∀ z ∈ ns, Builtin.Int.intBits z ≤ 1048576
theorem bits_small {c : Int} (h : c.natAbs < 2 ^ 200) : BitsOk c := by
  have := log2_small h
  unfold BitsOk
  omega
theorem sqN {k : Nat} (h : k ≤ 100000) : (k : Int) * k ≤ 10000000000 := by
  have := Nat.mul_le_mul h h
  have : k * k ≤ 10000000000 := this
  omega
theorem celB_bits {ns : List Int} (hb : NsOk ns) {k : Nat} (hk : k ≤ 100000) : BitsOk (celB ns k) := by
  unfold celB
  split
  · rename_i z e
    have h := hb.2 z (List.mem_of_getElem? e)
    show z.natAbs.log2 ≤ 2000000
    unfold Builtin.Int.intBits at h
    split at h
    · rename_i hz
      rw [show z.natAbs = 0 by simpa using hz]
      decide
    · omega
  · refine bits_small ?_
    have h := sqN hk
    have h0 : 0 ≤ (k : Int) * k := Int.mul_nonneg (by omega) (by omega)
    rw [Int.mul_assoc]
    generalize (k : Int) * k = x at h h0
    omega
theorem mul_bits {i j : Int} (h : BitsOk i) (h2 : j.natAbs < 2 ^ 200) : mulOk i j := by
  have := log2_small h2
  unfold BitsOk at h
  unfold mulOk
  omega
theorem mulb {a b A B : Int} (a0 : 0 ≤ a) (a1 : a ≤ A) (b0 : 0 ≤ b) (b1 : b ≤ B) : 0 ≤ a * b ∧ a * b ≤ A * B :=
  ⟨Int.mul_nonneg a0 b0, Int.mul_le_mul a1 b1 b0 (Int.le_trans a0 a1)⟩
theorem cell_atB {ns : List Int} {k : Nat} (h : k < ns.length) : atI (ns.map D.int) (k : Int) = some (.int (celB ns k)) := by
  refine atI_ofN ?_
  rw [List.getElem?_map]
  unfold celB
  rw [List.getElem?_eq_getElem h]
  rfl
theorem r_cellB {ns : List Int} {k : Nat} {ki : Int} (hki : ki = (k : Int)) (hk : k ≤ 100000) {M : Mem} (l : Nat) (hl : 1 ≤ l) : run tab l f_law_cell [.scr ns, .int ki] M (fun v M' => v = .int (celB ns k) ∧ M' = M) fun _ _ => False := by
  subst hki
  obtain ⟨l, rfl⟩ : ∃ j, l = j + 1 := ⟨l - 1, by omega⟩
  refine run_in rfl rfl ?_
  conv => whnf
  rw [show (ns.map D.int).length = ns.length from List.length_map ..]
  by_cases h : k < ns.length
  · rw [decide_eq_true (show (k : Int) < (ns.length : Int) by omega)]
    conv => whnf
    rw [cell_atB h]
    exact .done ⟨rfl, rfl⟩
  · rw [decide_eq_false (show ¬ (k : Int) < (ns.length : Int) by omega)]
    conv => whnf
    refine ⟨mul_ok (by decide) (by omega), ?_⟩
    conv => whnf
    refine ⟨mul_ok (by omega) (by omega), ?_⟩
    conv => whnf
    refine ⟨mul_ok (by decide) (by omega), ?_⟩
    refine .done ⟨?_, rfl⟩
    unfold celB
    rw [List.getElem?_eq_none (by omega)]
set_option maxHeartbeats 0 in
theorem r_mixedB {c k : Int} (hc : BitsOk c) (k0 : 0 ≤ k) (k1 : k ≤ 100) {M : Mem} (l : Nat) (hl : 1 ≤ l) : run tab l f_law_mixed [.int c, .int k] M (fun v M' => ∃ z, v = .int z ∧ M' = M) fun _ _ => False := by
  obtain ⟨l, rfl⟩ : ∃ j, l = j + 1 := ⟨l - 1, by omega⟩
  refine run_in rfl rfl ?_
  conv => whnf
  refine ⟨mul_bits hc (by decide), ?_⟩
  conv => whnf
  refine ⟨mul_ok (by decide) (by omega), ?_⟩
  conv => whnf
  refine ⟨mul_ok (by omega) (by omega), ?_⟩
  conv => whnf
  refine ⟨mul_ok (by decide) (by omega), ?_⟩
  conv => whnf
  refine ⟨by decide, ?_⟩
  generalize c * 48271 + 7919 * k * k + 104729 * k + 11 = x
  have r0 := Int.emod_nonneg x (show (2147483647 : Int) ≠ 0 by decide)
  have r1 := Int.emod_lt_of_pos x (show (0 : Int) < 2147483647 by decide)
  generalize x % 2147483647 = y at r0 r1
  conv => whnf
  refine ⟨mul_ok (by omega) (by omega), ?_⟩
  conv => whnf
  refine ⟨by decide, ?_⟩
  generalize y * y = w
  have s0 := Int.emod_nonneg w (show (2147483629 : Int) ≠ 0 by decide)
  have s1 := Int.emod_lt_of_pos w (show (0 : Int) < 2147483629 by decide)
  generalize w % 2147483629 = n at s0 s1
  conv => whnf
  refine ⟨mul_ok (by omega) (by omega), ?_⟩
  conv => whnf
  refine ⟨mul_ok (by omega) (by decide), ?_⟩
  exact .done ⟨_, rfl, rfl⟩
theorem rep_one (c n : Nat) : (repS (Str.mk #[c]) n).cps.toList = List.replicate n c := by
  show (List.replicate n [c]).flatten.toArray.toList = _
  induction n with
  | zero => rfl
  | succ n ih => rw [List.replicate_succ, List.flatten_cons, List.replicate_succ]; exact congrArg (c :: ·) ih
theorem abc_len {n c : Nat} : (Str.mk (List.replicate n c).toArray).length = n := by
  show (List.replicate n c).toArray.size = n
  rw [List.size_toArray, List.length_replicate]
theorem abc_sm {n j : Nat} (hn : n ≤ 8) (hj : j < 3) : smV (.str ⟨(List.replicate n (97 + j)).toArray⟩) = true := by
  have hT : okT (Str.mk (List.replicate n (97 + j)).toArray) = true := by
    unfold okT
    rw [List.all_eq_true]
    intro x hx
    have hx : x ∈ List.replicate n (97 + j) := hx
    rw [(List.mem_replicate.mp hx).2]
    unfold okSign
    rw [decide_eq_true (by omega), decide_eq_true (by omega), decide_eq_true (by omega)]; rfl
  show (decide ((Str.mk (List.replicate n (97 + j)).toArray).length ≤ 1000) && PyData.strOk (Str.mk (List.replicate n (97 + j)).toArray)) = true
  rw [abc_len, decide_eq_true (by omega), okT_strOk hT]; rfl
theorem abc_at : ∀ j : Nat, j < 3 → atI (Str.ofString "abc").cps.toList (j : Int) = some (97 + j) := by decide +kernel
theorem rep_name (c n : Nat) : repS (Str.mk #[c]) n = ⟨(List.replicate n c).toArray⟩ := str_ext (rep_one c n)
theorem absNC {R : Nat → List D → Mem → QK → XQ → Prop} {s : Sx} {N : Ends} {env : Env} {M : Mem} (h : ∀ K : Ends, (∀ e M, N.nx e M → K.nx e M) → (∀ e M, N.nx e M → K.ct e M) → wpS R s K env M) (hc : N.ct = N.nx) : wpS R s N env M := h N (fun _ _ h => h) (fun _ _ h => by rw [hc]; exact h)
/-- what is drawn -/
def W41 (many : Int) : PG → Prop
  | none => True
  | some (_, ws) => 1 ≤ ws.length ∧ ws.length ≤ 3 ∧ ∀ w ∈ ws, smV (.str w.1) = true ∧ w.2.1 = .nothing ∧ 0 ≤ w.2.2 ∧ w.2.2 < many
structure G41 (gs : List PG) : Prop where
  l1 : 1 ≤ gs.length
  l30 : gs.length ≤ 30
  ok : ∀ g ∈ gs, W41 gs.length g
def sL41 : Sx := dropQ 2 (thenQ (headQ (dropQ 1 b_law_states.body)))
set_option maxHeartbeats 0 in
theorem r_states {ns : List Int} (hb : NsOk ns) {start many : Nat} (hs : start ≤ 1000) (m1 : 1 ≤ many) (m30 : many ≤ 30) {M : Mem} (l : Nat) (hl : 3 ≤ l) : run tab l f_law_states [.scr ns, .int (start : Nat), .int (many : Nat)] M (fun v M' => ∃ gs : List PG, v = .lst (gs.map pgD) ∧ G41 gs ∧ Ext M M') fun _ _ => False := by
  obtain ⟨l, rfl⟩ : ∃ j, l = j + 1 := ⟨l - 1, by omega⟩
  have h2000 : 2000 ≤ sizeLine := by decide
  refine run_in rfl rfl ?_
  conv => whnf
  refine ⟨lok rfl, fun p hp => ?_⟩
  have hp2 : (M.upd p (.lst [])) p = some (.lst []) := Mem.upd_same
  have he2 : Ext M (M.upd p (.lst [])) := Ext.new .refl hp
  generalize M.upd p (.lst []) = M2 at hp2 he2
  conv => whnf
  refine ⟨by unfold inB; omega, ?_⟩
  refine each_inv (fun rem env M' => ∃ (h : Nat) (gs : List PG) (e4 e5 e6 e7 e8 : Option D), env = [some (.scr ns), some (.int (start : Nat)), some (.int (many : Nat)), some (.loc p), e4, e5, e6, e7, e8] ∧ h ≤ many ∧ rem = rng (h : Int) (many - h) ∧ gs.length = h ∧ (∀ g ∈ gs, W41 many g) ∧ M' p = some (.lst (gs.map pgD)) ∧ Ext M M') ?_ ?_ _ _ _ ⟨0, [], _, _, _, _, _, rfl, Nat.zero_le _, rfl, rfl, all_nil, hp2, he2⟩
  · rintro y rem env M3 ⟨h, gs, e4, e5, e6, e7, e8, rfl, hh, hrem, hgl, hg, hp3, he3⟩
    obtain ⟨hlt, rfl, rfl⟩ := rng_go hrem
    refine ⟨trivial, ?_⟩
    show wpS _ _ _ _ _
    refine absNC (fun K hK hC => ?_) rfl
    have fin : ∀ (g : PG) (e4 e5 e6 e7 e8 : Option D) (M' : Mem), W41 many g → M' p = some (.lst (gs.map pgD)) → Ext M M' → (K.nx [some (.scr ns), some (.int (start : Nat)), some (.int (many : Nat)), some (.loc p), e4, e5, e6, e7, e8] (M'.upd p (.lst (gs.map pgD ++ [pgD g])))) ∧ (K.ct [some (.scr ns), some (.int (start : Nat)), some (.int (many : Nat)), some (.loc p), e4, e5, e6, e7, e8] (M'.upd p (.lst (gs.map pgD ++ [pgD g])))) := fun g e4 e5 e6 e7 e8 M' hok hp' he' => (fun w => ⟨hK _ _ w, hC _ _ w⟩) ⟨h + 1, gs ++ [g], _, _, _, _, _, rfl, hlt, rfl, by rw [List.length_append, hgl]; rfl, all_app hg (all_cons hok all_nil), by rw [Mem.upd_same, List.map_append]; rfl, he'.new hp⟩
    conv => whnf
    refine run_is (r_cellB (k := start + h) (by omega) (by omega) l (by omega)) (Nat.le_refl _) ?_
    have hbc := celB_bits hb (k := start + h) (by omega)
    generalize celB ns (start + h) = c at hbc
    have tail : ∀ z : Int, wpS (run tab l) sL41 K [some (.scr ns), some (.int (start : Nat)), some (.int (many : Nat)), some (.loc p), some (.int (h : Nat)), some (.int z), e6, e7, e8] M3 := fun z => by
      conv => whnf
      refine ⟨by decide, ?_⟩
      have k0 := Int.emod_nonneg z (show (6 : Int) ≠ 0 by decide)
      have k1 := Int.emod_lt_of_pos z (show (0 : Int) < 6 by decide)
      generalize z % 6 = kd at k0 k1
      conv => whnf
      refine ⟨by decide, by decide, ?_⟩
      generalize z / 6 = c
      conv => whnf
      by_cases hk0 : kd = 0
      · rw [decide_eq_true hk0]
        conv => whnf
        refine ⟨rcv_loc (by decide) hp3, ?_⟩
        conv => whnf
        refine ⟨lok rfl, ?_⟩
        conv => whnf
        rw [hp3]
        refine ⟨by rw [List.length_map]; omega, ?_⟩
        exact (fin none _ _ _ _ _ _ trivial hp3 he3).2
      · rw [decide_eq_false hk0]
        conv => whnf
        refine ⟨lok rfl, fun q hq => ?_⟩
        have hq2 : (M3.upd q (.lst [])) q = some (.lst []) := Mem.upd_same
        have nqp : p ≠ q := Mem.fresh_ne hp3 hq
        have hp4 : (M3.upd q (.lst [])) p = some (.lst (gs.map pgD)) := by rw [Mem.upd_ne nqp]; exact hp3
        have hq0 := he3.off hq
        have he4 : Ext M (M3.upd q (.lst [])) := he3.new hq0
        generalize M3.upd q (.lst []) = M4 at hp4 hq2 he4
        conv => whnf
        refine ⟨by decide, ?_⟩
        have w0 := Int.emod_nonneg c (show (3 : Int) ≠ 0 by decide)
        have w1 := Int.emod_lt_of_pos c (show (0 : Int) < 3 by decide)
        generalize c % 3 = ci at w0 w1
        obtain ⟨cn, rfl⟩ : ∃ n : Nat, ci = (n : Int) := ⟨ci.toNat, by omega⟩
        conv => whnf
        refine ⟨by unfold inB; omega, ?_⟩
        rw [show (1 + (cn : Int)).toNat = 1 + cn by omega]
        refine each_inv (fun rem env M' => ∃ (i : Nat) (ws : List PW) (c : Int) (e8 : Option D), env = [some (.scr ns), some (.int (start : Nat)), some (.int (many : Nat)), some (.loc p), some (.int (h : Nat)), some (.int c), some (.int kd), some (.loc q), e8] ∧ i ≤ 1 + cn ∧ rem = rng (i : Int) (1 + cn - i) ∧ ws.length = i ∧ (∀ w ∈ ws, smV (.str w.1) = true ∧ w.2.1 = .nothing ∧ 0 ≤ w.2.2 ∧ w.2.2 < many) ∧ M' p = some (.lst (gs.map pgD)) ∧ M' q = some (.lst (ws.map pwD)) ∧ Ext M M') ?_ ?_ _ _ _ ⟨0, [], c, _, rfl, Nat.zero_le _, rfl, rfl, all_nil, hp4, hq2, he4⟩
        · rintro y rem env M5 ⟨i, ws, c, e8, rfl, hi, hrem, hwl, hw, hp5, hq5, he5⟩
          obtain ⟨hil, rfl, rfl⟩ := rng_go hrem
          refine ⟨trivial, ?_⟩
          conv => whnf
          refine ⟨by decide, by decide, ?_⟩
          generalize c / 3 = c
          conv => whnf
          refine ⟨rcv_loc (by decide) hq5, ?_⟩
          conv => whnf
          refine ⟨by decide, ?_⟩
          have j0 := Int.emod_nonneg ((i : Int) + kd) (show (3 : Int) ≠ 0 by decide)
          have j1 := Int.emod_lt_of_pos ((i : Int) + kd) (show (0 : Int) < 3 by decide)
          generalize ((i : Int) + kd) % 3 = ji at j0 j1
          obtain ⟨j, rfl⟩ : ∃ n : Nat, ji = (n : Int) := ⟨ji.toNat, by omega⟩
          conv => whnf
          refine ⟨by decide +kernel, ?_⟩
          rw [abc_at j (by omega)]
          conv => whnf
          refine ⟨by decide, ?_⟩
          obtain ⟨nm, hnm⟩ : ∃ n : Nat, 1 + (h : Int) % 8 = (n : Int) := ⟨(1 + (h : Int) % 8).toNat, by omega⟩
          conv => whnf
          rw [hnm]
          refine ⟨by omega, by omega, by show 1 * _ ≤ _; omega, ?_⟩
          conv => whnf
          rw [Int.toNat_natCast, rep_name]
          refine ⟨lok rfl, ?_⟩
          conv => whnf
          refine ⟨by omega, ?_⟩
          have t0 := Int.emod_nonneg c (show (many : Int) ≠ 0 by omega)
          have t1 := Int.emod_lt_of_pos c (show (0 : Int) < (many : Int) by omega)
          conv => whnf
          refine ⟨lok rfl, ?_⟩
          conv => whnf
          rw [hq5]
          refine ⟨by rw [List.length_map]; omega, ?_⟩
          conv => whnf
          refine ⟨by omega, logN (by omega), ?_⟩
          refine ⟨i + 1, ws ++ [(⟨(List.replicate nm (97 + j)).toArray⟩, .nothing, c % many)], _, _, rfl, by omega, rfl, by rw [List.length_append, hwl]; rfl, all_app hw (all_cons ⟨abc_sm (by omega) (by omega), rfl, t0, t1⟩ all_nil), by rw [Mem.upd_ne nqp]; exact hp5, by rw [Mem.upd_same, List.map_append]; rfl, he5.new hq0⟩
        · rintro env M5 ⟨i, ws, c, e8, rfl, hi, hrem, hwl, hw, hp5, hq5, he5⟩
          have ej : i = 1 + cn := by
            have := congrArg List.length hrem
            unfold rng at this
            rw [List.length_map, List.length_range, List.length_nil] at this
            omega
          subst ej
          refine ⟨trivial, ?_⟩
          conv => whnf
          rw [hq5]
          have hp6 : (M5.del q) p = some (.lst (gs.map pgD)) := by rw [Mem.del_ne nqp]; exact hp5
          have he6 := he5.del hq0
          conv => whnf
          generalize M5.del q = M6 at hp6 he6
          refine ⟨rcv_loc (by decide) hp6, ?_⟩
          conv => whnf
          refine ⟨lok rfl, ?_⟩
          conv => whnf
          refine ⟨by decide, ?_⟩
          have s0 := Int.emod_nonneg kd (show (2 : Int) ≠ 0 by decide)
          have s1 := Int.emod_lt_of_pos kd (show (0 : Int) < 2 by decide)
          obtain ⟨bs, hbs⟩ : ∃ b : Bool, atI [D.str (Str.ofString "left"), D.str (Str.ofString "right")] (kd % 2) = some (.str (sdS b)) := by
            rcases (show kd % 2 = 0 ∨ kd % 2 = 1 by omega) with e | e
            · rw [e]; exact ⟨true, rfl⟩
            · rw [e]; exact ⟨false, rfl⟩
          conv => whnf
          rw [hbs]
          conv => whnf
          refine ⟨lok rfl, ?_⟩
          conv => whnf
          rw [hp6]
          refine ⟨by rw [List.length_map]; omega, ?_⟩
          exact (fin (some (bs, ws)) _ _ _ _ _ _ ⟨by omega, by omega, hw⟩ hp6 he6).1
    conv => whnf
    by_cases h2 : 2 < (start : Int)
    · rw [decide_eq_true h2]
      conv => whnf
      refine run_use (r_mixedB hbc (by omega) (by omega) l (by omega)) (Nat.le_refl _) fun v M' hv => ?_
      obtain ⟨z, rfl, rfl⟩ := hv
      exact tail z
    · rw [decide_eq_false h2]
      exact tail c
  · rintro env M3 ⟨h, gs, e4, e5, e6, e7, e8, rfl, hh, hrem, hgl, hg, hp3, he3⟩
    have ej : h = many := by
      have := congrArg List.length hrem
      unfold rng at this
      rw [List.length_map, List.length_range, List.length_nil] at this
      omega
    subst ej
    refine ⟨trivial, ?_⟩
    conv => whnf
    refine .step hp3 ?_
    rw [repD_loc]
    exact .done ⟨gs, rfl, ⟨by omega, by omega, by rw [hgl]; exact hg⟩, he3.del hp⟩
end Wp

/-! PwKv: dicts by int keys; rows by states come to (plain). -/
namespace Wp
open PySem
theorem nd_len : ∀ (n : Nat) (l : List Int), l.Nodup → (∀ x ∈ l, 0 ≤ x ∧ x < n) → l.length ≤ n
  | 0, l, _, h => by
    cases l with
    | nil => exact Nat.le_refl _
    | cons x l => have := h x (List.mem_cons_self ..); omega
  | n + 1, l, nd, h => by
    have ih := nd_len n (l.erase (n : Int)) (nd.erase _) fun x hx => by
      rw [List.Nodup.mem_erase_iff nd] at hx
      have := h x hx.2
      have := hx.1
      omega
    by_cases hm : (n : Int) ∈ l
    · rw [List.length_erase_of_mem hm] at ih
      omega
    · rw [List.erase_of_not_mem hm] at ih
      omega
theorem sorted_eq : ∀ {a b : List Int}, a.Perm b → a.Pairwise (· ≤ ·) → b.Pairwise (· ≤ ·) → a = b
  | [], b, p, _, _ => by rw [List.nil_perm.mp p]
  | x :: a, [], p, _, _ => by cases List.perm_nil.mp p
  | x :: a, y :: b, p, ha, hb => by
    have e : x = y := by
      have h1 : x ∈ y :: b := p.mem_iff.mp (List.mem_cons_self ..)
      have h2 : y ∈ x :: a := p.mem_iff.mpr (List.mem_cons_self ..)
      rcases List.mem_cons.mp h1 with h1 | h1
      · exact h1
      · rcases List.mem_cons.mp h2 with h2 | h2
        · exact h2.symm
        · have := (List.pairwise_cons.mp ha).1 y h2
          have := (List.pairwise_cons.mp hb).1 x h1
          omega
    subst e
    rw [sorted_eq (p.cons_inv) (List.pairwise_cons.mp ha).2 (List.pairwise_cons.mp hb).2]
theorem nd_perm {a b : List Int} (ha : a.Nodup) (hb : b.Nodup) (h : ∀ x, x ∈ a ↔ x ∈ b) : a.Perm b := (List.perm_ext_iff_of_nodup ha hb).mpr h
/-- a dict with ints as keys -/
def dI (l : List (Int × D)) : List (Sum Int Str × D) := l.map fun p => (.inl p.1, p.2)
theorem dI_app {a b : List (Int × D)} : dI (a ++ b) = dI a ++ dI b := List.map_append
theorem lookI_none {l : List (Int × D)} {k : Int} (h : k ∉ l.map (·.1)) : lookD (dI l) (.inl k) = none := by
  unfold lookD dI
  rw [Option.map_eq_none_iff, List.find?_eq_none]
  intro x hx
  obtain ⟨p, hp, rfl⟩ := List.mem_map.mp hx
  intro e
  have e := of_decide_eq_true e
  injection e with e
  exact h (List.mem_map.mpr ⟨p, hp, e⟩)
theorem lookI_some : ∀ {l : List (Int × D)} {i : Nat} {k : Int} {d : D}, l[i]? = some (k, d) → (l.map (·.1)).Nodup → lookD (dI l) (.inl k) = some d
  | [], _, _, _, e, _ => by cases e
  | x :: l, 0, k, d, e, nd => by
    cases e
    unfold lookD dI
    rw [List.map_cons, List.find?_cons_of_pos (by simp)]
    rfl
  | x :: l, i + 1, k, d, e, nd => by
    have ne : x.1 ≠ k := fun z => (List.nodup_cons.mp nd).1 (by show x.1 ∈ _; rw [z]; exact List.mem_map.mpr ⟨_, List.mem_of_getElem? (show l[i]? = some (k, d) from e), rfl⟩)
    have ih := lookI_some (l := l) (i := i) e (List.nodup_cons.mp nd).2
    unfold lookD dI at ih ⊢
    rw [List.map_cons, List.find?_cons_of_neg (by simp [ne])]
    exact ih
theorem putI_new {l : List (Int × D)} {k : Int} {d : D} (h : k ∉ l.map (·.1)) : putD (dI l) (.inl k) d = dI (l ++ [(k, d)]) := by
  unfold putD
  rw [if_neg]
  · rw [dI_app]; rfl
  · intro e
    obtain ⟨x, hx, e⟩ := List.any_eq_true.mp e
    obtain ⟨p, hp, rfl⟩ := List.mem_map.mp hx
    have e := of_decide_eq_true e
    injection e with e
    exact h (List.mem_map.mpr ⟨p, hp, e⟩)
theorem keysI_dI : ∀ l : List (Int × D), keysI (dI l) = some (l.map (·.1))
  | [] => rfl
  | x :: l => by
    show (keysI (dI l)).map (x.1 :: ·) = _
    rw [keysI_dI l]; rfl
/-! ### rows -/
abbrev KV := List (Int × List Str)
def wsOf : PG → List PW
  | none => []
  | some (_, ws) => ws
def wsAt (gs : List PG) (s : Int) : List PW := wsOf ((gs[s.toNat]?).getD none)
def grow1 (row : List Str) (kvs : KV) (w : PW) : KV := if w.2.2 ∈ kvs.map (·.1) then kvs else kvs ++ [(w.2.2, row ++ [w.1])]
def grow (row : List Str) (kvs : KV) (ws : List PW) : KV := ws.foldl (grow1 row) kvs
def kvN (gs : List PG) : Nat → KV
  | 0 => [(0, [])]
  | p + 1 => match (kvN gs p)[p]? with
    | some (s, row) => grow row (kvN gs p) (wsAt gs s)
    | none => kvN gs p
theorem grow1_pre {row : List Str} {kvs : KV} {w : PW} : ∃ r, grow1 row kvs w = kvs ++ r := by
  unfold grow1
  split
  · exact ⟨[], (List.append_nil _).symm⟩
  · exact ⟨_, rfl⟩
theorem grow_pre {row : List Str} : ∀ {ws : List PW} {kvs : KV}, ∃ r, grow row kvs ws = kvs ++ r
  | [], kvs => ⟨[], (List.append_nil _).symm⟩
  | w :: ws, kvs => by
    obtain ⟨r1, e1⟩ := grow1_pre (row := row) (kvs := kvs) (w := w)
    obtain ⟨r2, e2⟩ := grow_pre (row := row) (ws := ws) (kvs := grow1 row kvs w)
    exact ⟨r1 ++ r2, by show grow row (grow1 row kvs w) ws = _; rw [e2, e1, List.append_assoc]⟩
structure KvOk (n : Nat) (kvs : KV) : Prop where
  nd : (kvs.map (·.1)).Nodup
  rg : ∀ x ∈ kvs.map (·.1), 0 ≤ x ∧ x < (n : Int)
theorem KvOk.len {n : Nat} {kvs : KV} (h : KvOk n kvs) : kvs.length ≤ n := by
  have := nd_len n _ h.nd h.rg
  rwa [List.length_map] at this
theorem KvOk.grow1 {n : Nat} {kvs : KV} {row : List Str} {w : PW} (h : KvOk n kvs) (t0 : 0 ≤ w.2.2) (t1 : w.2.2 < (n : Int)) : KvOk n (grow1 row kvs w) := by
  unfold Wp.grow1
  split
  · exact h
  · rename_i hn
    refine ⟨?_, fun x hx => ?_⟩
    · rw [List.map_append, List.nodup_append]
      refine ⟨h.nd, List.nodup_cons.mpr ⟨by simp, List.nodup_nil⟩, fun a ha b hb => ?_⟩
      have hb : b = w.2.2 := by simpa using hb
      rw [hb]
      exact fun z => hn (by rw [← z]; exact ha)
    · rw [List.map_append] at hx
      rcases List.mem_append.mp hx with hx | hx
      · exact h.rg x hx
      · have hx : x = w.2.2 := by simpa using hx
        rw [hx]; exact ⟨t0, t1⟩
theorem KvOk.grow {n : Nat} {row : List Str} : ∀ {ws : List PW} {kvs : KV}, KvOk n kvs → (∀ w ∈ ws, 0 ≤ w.2.2 ∧ w.2.2 < (n : Int)) → KvOk n (grow row kvs ws)
  | [], kvs, h, _ => h
  | w :: ws, kvs, h, hw => (h.grow1 (hw w (List.mem_cons_self ..)).1 (hw w (List.mem_cons_self ..)).2).grow fun x hx => hw x (List.mem_cons_of_mem _ hx)
theorem kvN_ok {gs : List PG} (h1 : 1 ≤ gs.length) (hw : ∀ g ∈ gs, ∀ w ∈ wsOf g, 0 ≤ w.2.2 ∧ w.2.2 < (gs.length : Int)) : ∀ p, KvOk gs.length (kvN gs p)
  | 0 => ⟨by show [(0 : Int)].Nodup; simp, fun x hx => by have hx : x = 0 := by simpa [kvN] using hx
                                                          omega⟩
  | p + 1 => by
    have ih := kvN_ok h1 hw p
    show KvOk _ (match (kvN gs p)[p]? with | some (s, row) => grow row (kvN gs p) (wsAt gs s) | none => kvN gs p)
    split
    · refine ih.grow fun w hm => ?_
      rename_i s row e
      unfold wsAt at hm
      cases q : gs[s.toNat]? with
      | none => rw [q] at hm; cases hm
      | some g => rw [q] at hm; exact hw g (List.mem_of_getElem? q) w hm
    · exact ih
theorem grow_row {row : List Str} {L : Nat} (hr : row.length < L) : ∀ {ws : List PW} {kvs : KV}, (∀ x ∈ kvs, x.2.length ≤ L) → ∀ x ∈ grow row kvs ws, x.2.length ≤ L
  | [], kvs, h => h
  | w :: ws, kvs, h => by
    refine grow_row hr (ws := ws) (kvs := grow1 row kvs w) fun x hx => ?_
    unfold grow1 at hx
    split at hx
    · exact h x hx
    · rcases List.mem_append.mp hx with hx | hx
      · exact h x hx
      · have hx : x = (w.2.2, row ++ [w.1]) := by simpa using hx
        rw [hx, List.length_append, List.length_singleton]
        exact hr
theorem kvN_row {gs : List PG} : ∀ p, ∀ x ∈ kvN gs p, x.2.length ≤ p
  | 0, x, hx => by
    have hx : x = (0, []) := by simpa [kvN] using hx
    rw [hx]; exact Nat.le_refl _
  | p + 1, x, hx => by
    have ih := kvN_row (gs := gs) p
    have hx : x ∈ (match (kvN gs p)[p]? with | some (s, row) => grow row (kvN gs p) (wsAt gs s) | none => kvN gs p) := hx
    split at hx
    · rename_i s row e
      have := ih _ (List.mem_of_getElem? e)
      exact grow_row (L := p + 1) (by have : row.length ≤ p := this; omega) (fun y hy => by have := ih y hy; omega) x hx
    · have := ih x hx
      omega
theorem kvN_pre {gs : List PG} (p : Nat) : ∃ r, kvN gs (p + 1) = kvN gs p ++ r := by
  show ∃ r, (match (kvN gs p)[p]? with | some (s, row) => grow row (kvN gs p) (wsAt gs s) | none => kvN gs p) = _
  split
  · exact grow_pre
  · exact ⟨[], (List.append_nil _).symm⟩
theorem kvN_end {gs : List PG} {p : Nat} (h : (kvN gs p).length ≤ p) : ∀ j, kvN gs (p + j) = kvN gs p
  | 0 => rfl
  | j + 1 => by
    have ih := kvN_end h j
    show (match (kvN gs (p + j))[p + j]? with | some (s, row) => grow row (kvN gs (p + j)) (wsAt gs s) | none => kvN gs (p + j)) = _
    rw [ih, List.getElem?_eq_none (by omega)]
theorem kvN_same {gs : List PG} {p q : Nat} (h : (kvN gs p).length ≤ p) (h2 : (kvN gs q).length ≤ q) : kvN gs p = kvN gs q := by
  by_cases e : p ≤ q
  · have := kvN_end h (q - p)
    rw [show p + (q - p) = q by omega] at this
    exact this.symm
  · have := kvN_end h2 (p - q)
    rw [show q + (p - q) = p by omega] at this
    exact this
end Wp

/-! PwCl: cells that are one's own, listed. -/
namespace Wp
open PySem
structure PL (L : List (Addr × Ob)) (M : Mem) : Prop where
  nd : (L.map (·.1)).Nodup
  at_ : ∀ x ∈ L, M x.1 = some x.2
theorem PL.nil {M : Mem} : PL [] M := ⟨List.nodup_nil, all_nil⟩
theorem PL.get {L : List (Addr × Ob)} {M : Mem} (h : PL L M) (i : Nat) {a : Addr} {o : Ob} (e : L[i]? = some (a, o)) : M a = some o := h.at_ _ (List.mem_of_getElem? e)
theorem PL.fresh {L : List (Addr × Ob)} {M : Mem} (h : PL L M) {q : Addr} (hq : M q = none) : ∀ x ∈ L, x.1 ≠ q := fun x hx => Mem.fresh_ne (h.at_ x hx) hq
theorem PL.new {L : List (Addr × Ob)} {M : Mem} (h : PL L M) {q : Addr} {o : Ob} (hq : M q = none) : PL (L ++ [(q, o)]) (M.upd q o) := by
  have hf := h.fresh hq
  refine ⟨?_, fun x hx => ?_⟩
  · rw [List.map_append, List.nodup_append]
    refine ⟨h.nd, List.nodup_cons.mpr ⟨by simp, List.nodup_nil⟩, fun a ha b hb => ?_⟩
    obtain ⟨x, hx, rfl⟩ := List.mem_map.mp ha
    rw [List.mem_singleton.mp hb]
    exact hf x hx
  · rcases List.mem_append.mp hx with hx | hx
    · rw [Mem.upd_ne (hf x hx)]; exact h.at_ x hx
    · rw [List.mem_singleton.mp hx]; exact Mem.upd_same
/-- a memory in which all still stands -/
theorem PL.up {L : List (Addr × Ob)} {M M' : Mem} (h : PL L M) (e : ∀ x ∈ L, M x.1 = some x.2 → M' x.1 = some x.2) : PL L M' := ⟨h.nd, fun x hx => e x hx (h.at_ x hx)⟩
theorem PL.set {L : List (Addr × Ob)} {M : Mem} (h : PL L M) (i : Nat) {a : Addr} {o o' : Ob} (e : L[i]? = some (a, o)) : PL (L.set i (a, o')) (M.upd a o') := by
  have hm : (L.set i (a, o')).map (·.1) = L.map (·.1) := by
    rw [List.map_set]
    have h2 : (L.map (·.1))[i]? = some a := by rw [List.getElem?_map, e]; rfl
    refine List.ext_getElem? fun j => ?_
    rw [List.getElem?_set]
    split
    · rename_i q
      subst q
      rw [if_pos (List.getElem?_eq_some_iff.mp h2).1]
      exact h2.symm
    · rfl
  refine ⟨by rw [hm]; exact h.nd, fun x hx => ?_⟩
  obtain ⟨j, hj⟩ := List.getElem?_of_mem hx
  rw [List.getElem?_set] at hj
  split at hj
  · split at hj
    · cases hj; exact Mem.upd_same
    · cases hj
  · rename_i n
    have ne : x.1 ≠ a := fun z => by
      have h1 : (L.map (·.1))[j]? = some x.1 := by rw [List.getElem?_map, hj]; rfl
      have h2 : (L.map (·.1))[i]? = some a := by rw [List.getElem?_map, e]; rfl
      rw [z] at h1
      have hi : i < (L.map (·.1)).length := (List.getElem?_eq_some_iff.mp h2).1
      exact n ((List.getElem?_inj hi h.nd).mp (h2.trans h1.symm))
    rw [Mem.upd_ne ne]
    exact h.at_ x (List.mem_of_getElem? hj)
/-- one cell changed, all else stands -/
theorem PL.set1 {L : List (Addr × Ob)} {M M' : Mem} (h : PL L M) (i : Nat) {a : Addr} {o o' : Ob} (e : L[i]? = some (a, o)) (f : ∀ b ob, b ≠ a → M b = some ob → M' b = some ob) (g : M' a = some o') : PL (L.set i (a, o')) M' := by
  refine (h.set i e (o' := o')).up fun x hx q => ?_
  by_cases z : x.1 = a
  · rw [z, Mem.upd_same] at q
    rw [z, g, q]
  · rw [Mem.upd_ne z] at q
    exact f _ _ z q
/-- three -/
theorem PL.set3 {L : List (Addr × Ob)} {M M' : Mem} (h : PL L M) (i j k : Nat) (nij : i ≠ j) (nik : i ≠ k) (njk : j ≠ k) {a b c : Addr} {oa ob oc oa' ob' oc' : Ob} (ea : L[i]? = some (a, oa)) (eb : L[j]? = some (b, ob)) (ec : L[k]? = some (c, oc)) (f : ∀ x o, x ≠ a → x ≠ b → x ≠ c → M x = some o → M' x = some o) (ga : M' a = some oa') (gb : M' b = some ob') (gc : M' c = some oc') : PL (((L.set i (a, oa')).set j (b, ob')).set k (c, oc')) M' := by
  have h1 := h.set i ea (o' := oa')
  have h2 := h1.set j (a := b) (o := ob) (o' := ob') (by rw [List.getElem?_set_ne nij]; exact eb)
  have h3 := h2.set k (a := c) (o := oc) (o' := oc') (by rw [List.getElem?_set_ne njk, List.getElem?_set_ne nik]; exact ec)
  refine h3.up fun x hx q => ?_
  by_cases z3 : x.1 = c
  · rw [z3, Mem.upd_same] at q
    rw [z3, gc, q]
  · rw [Mem.upd_ne z3] at q
    by_cases z2 : x.1 = b
    · rw [z2, Mem.upd_same] at q
      rw [z2, gb, q]
    · rw [Mem.upd_ne z2] at q
      by_cases z1 : x.1 = a
      · rw [z1, Mem.upd_same] at q
        rw [z1, ga, q]
      · rw [Mem.upd_ne z1] at q
        exact f _ _ z1 z2 z3 q
theorem PL.ext {L : List (Addr × Ob)} {M M' : Mem} (h : PL L M) (e : ∀ a ob, M a = some ob → M' a = some ob) : PL L M' := h.up fun x _ q => e _ _ q
/-- a place given up, another one in its stead -/
theorem PL.swap {L : List (Addr × Ob)} {M : Mem} (h : PL L M) (i : Nat) {a q : Addr} {o o' : Ob} (e : L[i]? = some (a, o)) (hq : ∀ x ∈ L, x.1 ≠ q) (g : M q = some o') : PL (L.set i (q, o')) M := by
  refine ⟨?_, fun x hx => ?_⟩
  · rw [List.map_set, List.Nodup, List.pairwise_iff_getElem]
    intro x y hx hy hxy
    rw [List.length_set] at hx hy
    have key : ∀ z (hz : z < (L.map (·.1)).length), (L.map (·.1))[z] ≠ q := fun z hz => by
      rw [List.getElem_map]
      exact hq _ (List.getElem_mem _)
    rw [List.getElem_set, List.getElem_set]
    split
    · split
      · omega
      · exact Ne.symm (key y hy)
    · split
      · exact key x hx
      · exact List.pairwise_iff_getElem.mp h.nd x y hx hy hxy
  · obtain ⟨j, hj⟩ := List.getElem?_of_mem hx
    rw [List.getElem?_set] at hj
    split at hj
    · split at hj
      · cases hj; exact g
      · cases hj
    · exact h.at_ x (List.mem_of_getElem? hj)
theorem PL.ne {L : List (Addr × Ob)} {M : Mem} (h : PL L M) {i j : Nat} (n : i ≠ j) {x y : Addr × Ob} (e : L[i]? = some x) (f : L[j]? = some y) : x.1 ≠ y.1 := fun z => by
  have h1 : (L.map (·.1))[j]? = some y.1 := by rw [List.getElem?_map, f]; rfl
  have h2 : (L.map (·.1))[i]? = some x.1 := by rw [List.getElem?_map, e]; rfl
  rw [← z] at h1
  have hi : i < (L.map (·.1)).length := (List.getElem?_eq_some_iff.mp h2).1
  exact n ((List.getElem?_inj hi h.nd).mp (h2.trans h1.symm))
theorem PL.newc {L : List (Addr × Ob)} {M : Mem} (h : PL L M) {q : Addr} {o : Ob} (hq : M q = none) : PL ((q, o) :: L) (M.upd q o) := by
  have hf := h.fresh hq
  refine ⟨List.nodup_cons.mpr ⟨fun hm => ?_, h.nd⟩, fun x hx => ?_⟩
  · obtain ⟨x, hx, e⟩ := List.mem_map.mp hm
    exact hf x hx e
  · rcases List.mem_cons.mp hx with rfl | hx
    · exact Mem.upd_same
    · rw [Mem.upd_ne (hf x hx)]; exact h.at_ x hx
theorem PL.left {A B : List (Addr × Ob)} {M : Mem} (h : PL (A ++ B) M) : PL A M := by
  have nd := h.nd
  rw [List.map_append, List.nodup_append] at nd
  exact ⟨nd.1, fun x hx => h.at_ x (List.mem_append_left _ hx)⟩
theorem PL.apart {A B : List (Addr × Ob)} {M : Mem} (h : PL (A ++ B) M) {x y : Addr × Ob} (hx : x ∈ A) (hy : y ∈ B) : x.1 ≠ y.1 := by
  have nd := h.nd
  rw [List.map_append, List.nodup_append] at nd
  exact nd.2.2 _ (List.mem_map_of_mem hx) _ (List.mem_map_of_mem hy)
theorem PL.pick {L : List (Addr × Ob)} {M : Mem} (h : PL L M) : ∀ (is : List Nat), is.Nodup → PL (is.filterMap fun i => L[i]?) M
  | [], _ => .nil
  | i :: is, nd => by
    have ih := h.pick is (List.nodup_cons.mp nd).2
    cases e : L[i]? with
    | none => rw [List.filterMap_cons, e]; exact ih
    | some x =>
      rw [List.filterMap_cons, e]
      refine ⟨List.nodup_cons.mpr ⟨fun hm => ?_, ih.nd⟩, fun y hy => ?_⟩
      · obtain ⟨y, hy, e2⟩ := List.mem_map.mp hm
        obtain ⟨j, hj, e3⟩ := List.mem_filterMap.mp hy
        by_cases q : i = j
        · exact (List.nodup_cons.mp nd).1 (q ▸ hj)
        · exact h.ne q e e3 e2.symm
      · rcases List.mem_cons.mp hy with rfl | hy
        · exact h.at_ _ (List.mem_of_getElem? e)
        · exact ih.at_ y hy
end Wp

/-! K41b: rows. -/
namespace Wp
open PySem
theorem G41.w {gs : List PG} (h : G41 gs) : ∀ g ∈ gs, ∀ w ∈ wsOf g, 0 ≤ w.2.2 ∧ w.2.2 < (gs.length : Int) := fun g hg w hw => by
  have := h.ok g hg
  cases g with
  | none => cases hw
  | some bw => exact (this.2.2 w hw).2.2
theorem G41.at {gs : List PG} (h : G41 gs) {s : Int} (s0 : 0 ≤ s) (s1 : s < gs.length) : ∃ g, gs[s.toNat]? = some g ∧ atI (gs.map pgD) s = some (pgD g) ∧ W41 gs.length g ∧ wsAt gs s = wsOf g := by
  have hk : s.toNat < gs.length := by omega
  obtain ⟨g, e⟩ : ∃ g, gs[s.toNat]? = some g := ⟨_, List.getElem?_eq_getElem hk⟩
  refine ⟨g, e, ?_, h.ok _ (List.mem_of_getElem? e), ?_⟩
  · obtain ⟨m, rfl⟩ : ∃ m : Nat, s = (m : Int) := ⟨s.toNat, by omega⟩
    refine atI_ofN ?_
    rw [Int.toNat_natCast] at e
    rw [List.getElem?_map, e]; rfl
  · unfold wsAt; rw [e]; rfl
/-- rows kept: place, state, names -/
abbrev RT := List (Addr × Int × List Str)
def dicR (T : RT) : List (Int × D) := T.map fun p => (p.2.1, .loc p.1)
def cellsR (T : RT) : List (Addr × Ob) := T.map fun p => (p.1, .lst (p.2.2.map .str))
def kvR (T : RT) : KV := T.map (·.2)
theorem dicR_keys {T : RT} : (dicR T).map (·.1) = (kvR T).map (·.1) := by
  unfold dicR kvR
  rw [List.map_map, List.map_map]; rfl
theorem rt_at {T : RT} {i : Nat} {s : Int} {row : List Str} (h : (kvR T)[i]? = some (s, row)) : ∃ a, T[i]? = some (a, s, row) ∧ (dicR T)[i]? = some (s, .loc a) ∧ (cellsR T)[i]? = some (a, .lst (row.map .str)) := by
  unfold kvR at h
  rw [List.getElem?_map] at h
  cases e : T[i]? with
  | none => rw [e] at h; cases h
  | some p =>
    rw [e] at h
    obtain ⟨a, q⟩ := p
    cases h
    exact ⟨a, rfl, by unfold dicR; rw [List.getElem?_map, e]; rfl, by unfold cellsR; rw [List.getElem?_map, e]; rfl⟩
theorem PL.drop1 {x y : Addr × Ob} {L : List (Addr × Ob)} {M : Mem} (h : PL (x :: y :: L) M) : PL (x :: L) M :=
  ⟨List.Nodup.sublist (by rw [List.map_cons, List.map_cons, List.map_cons]; exact List.Sublist.cons₂ _ (List.sublist_cons_self ..)) h.nd, fun z hz => h.at_ z (by
    rcases List.mem_cons.mp hz with rfl | hz
    · exact List.mem_cons_self ..
    · exact List.mem_cons_of_mem _ (List.mem_cons_of_mem _ hz))⟩
theorem kvR_app {A B : RT} : kvR (A ++ B) = kvR A ++ kvR B := List.map_append
theorem dicR_app {A B : RT} : dicR (A ++ B) = dicR A ++ dicR B := List.map_append
theorem cellsR_app {A B : RT} : cellsR (A ++ B) = cellsR A ++ cellsR B := List.map_append
theorem dicAt_loc41 {M : Mem} {a : Addr} {kvs : List (Sum Int Str × D)} (h : M a = some (.dic kvs)) : dicAt M (.loc a) = some kvs := by
  show (match M a with | some (.dic kvs) => some kvs | some (.fdc kvs) => some kvs | _ => none) = _
  rw [h]
def rwB : Sx := thenQ (headQ (dropQ 2 b_rows_to.body))
theorem ne_end {b : Bool} : decide (sdS b = Str.ofString "end") = false := by cases b <;> decide +kernel
set_option maxHeartbeats 0 in
theorem r_rows_to {gs : List PG} (hg : G41 gs) {M : Mem} (k : Nat) (hk : 1 ≤ k) : run tab k f_rows_to [.lst (gs.map pgD)] M (fun v M' => ∃ d T p, v = .loc d ∧ kvR T = kvN gs p ∧ (kvN gs p).length ≤ p ∧ PL ((d, .fdc (dI (dicR T))) :: cellsR T) M' ∧ (∀ x ∈ T, M x.1 = none) ∧ M d = none ∧ Ext M M') fun _ _ => False := by
  obtain ⟨k, rfl⟩ : ∃ j, k = j + 1 := ⟨k - 1, by omega⟩
  have h2000 : 2000 ≤ sizeLine := by decide
  have hok := kvN_ok hg.l1 hg.w
  have l30 := hg.l30
  refine run_in rfl rfl ?_
  conv => whnf
  refine ⟨by decide, fun d hd => ?_⟩
  conv => whnf
  refine ⟨lok rfl, fun a ha => ?_⟩
  have nda : d ≠ a := Mem.fresh_ne Mem.upd_same ha
  refine ⟨by rw [Mem.upd_ne nda]; exact Mem.upd_same, rfl, ?_⟩
  have ha0 : M a = none := by rw [← ha, Mem.upd_ne (Ne.symm nda)]
  have hP : PL [(d, .dic (dI [((0 : Int), .loc a)])), (a, .lst [])] (((M.upd d (.dic [])).upd a (.lst [])).upd d (.dic (mergeD [] ([.inl 0].zip [.loc a])))) :=
    (((PL.nil (M := M)).newc hd (o := .dic [])).new ha (o := .lst [])).set 0 rfl (o' := .dic (dI [((0 : Int), .loc a)]))
  have he : Ext M (((M.upd d (.dic [])).upd a (.lst [])).upd d (.dic (mergeD [] ([.inl 0].zip [.loc a])))) := ((Ext.new .refl hd).new ha0).new hd
  generalize ((M.upd d (.dic [])).upd a (.lst [])).upd d (.dic (mergeD [] ([.inl 0].zip [.loc a]))) = M1 at hP he
  conv => whnf
  refine ⟨lok rfl, fun q hq => ?_⟩
  have hP1 := hP.new hq (o := .lst [.int 0])
  have hq0 := he.off hq
  have he1 := he.new (o := .lst [.int 0]) hq0
  generalize M1.upd q (.lst [.int 0]) = M2 at hP1 he1
  have hP2 : PL ((d, .dic (dI (dicR [(a, 0, [])]))) :: (q, .lst (((kvR [(a, 0, [])]).drop 0).map fun x => D.int x.1)) :: cellsR [(a, 0, [])]) M2 := hP1.pick [0, 2, 1] (by decide)
  refine ⟨gs.length + 1, ?_⟩
  refine loop_inv ?_ (fun j env M' => ∃ (p : Nat) (T : RT) (e3 e4 e5 e6 : Option D), env = [some (.lst (gs.map pgD)), some (.loc d), some (.loc q), e3, e4, e5, e6] ∧ j = gs.length - p ∧ kvR T = kvN gs p ∧ PL ((d, .dic (dI (dicR T))) :: (q, .lst (((kvR T).drop p).map fun x => D.int x.1)) :: cellsR T) M' ∧ (∀ x ∈ T, M x.1 = none) ∧ Ext M M') ?_ _ gs.length _ _ ⟨0, [(a, 0, [])], _, _, _, _, rfl, rfl, rfl, hP2, all_cons ha0 all_nil, he1⟩ (by omega)
  · intro e M q q' hq h
    exact (mon (run tab k) (run tab k) (mon_run tab k) (.var 2)).E (fun x M1 h => truW_mono (fun b M h => hq b M h) h) (fun _ _ h => h) h
  rintro j env M3 ⟨p, T, e3, e4, e5, e6, rfl, rfl, hT, hP, h0, he⟩
  have hkv := hok p
  rw [← hT] at hkv
  have hlen := hkv.len
  have hm1 := hP.get 0 rfl
  have hm2 := hP.get 1 rfl
  conv => whnf
  cases hx : (kvR T)[p]? with
  | none =>
    have hl := List.getElem?_eq_none_iff.mp hx
    rw [List.drop_eq_nil_of_le hl] at hm2
    rw [asS_loc hm2]
    conv => whnf
    rw [hm1]
    conv => whnf
    exact .done ⟨d, T, p, rfl, hT, by rw [← hT]; exact hl, (hP.set 0 rfl (o' := .fdc (dI (dicR T)))).drop1, h0, hd, he.new hd⟩
  | some sr =>
    obtain ⟨s, row⟩ := sr
    obtain ⟨hl, e9⟩ := List.getElem?_eq_some_iff.mp hx
    rw [List.drop_eq_getElem_cons hl, e9, List.map_cons] at hm2
    rw [asS_loc hm2]
    conv => whnf
    have hs := hkv.rg s (List.mem_map.mpr ⟨_, List.mem_of_getElem? hx, rfl⟩)
    obtain ⟨g, f1, f2, f3, f4⟩ := hg.at hs.1 hs.2
    refine ⟨gs.length - (p + 1), by omega, ?_⟩
    conv => whnf
    refine ⟨rcv_loc (by decide) hm2, ?_⟩
    conv => whnf
    rw [hm2]
    refine ⟨by decide, by decide, ?_⟩
    have hP4 := hP.set 1 rfl (o' := .lst (((kvR T).drop (p + 1)).map fun x => D.int x.1))
    have he4 := he.new (o := .lst (((kvR T).drop (p + 1)).map fun x => D.int x.1)) hq0
    have hP4 : PL ((d, .dic (dI (dicR T))) :: (q, .lst (((kvR T).drop (p + 1)).map fun x => D.int x.1)) :: cellsR T) (M3.upd q (.lst (((kvR T).drop (p + 1)).map fun x => D.int x.1))) := hP4
    show wpS _ _ _ _ (M3.upd q (.lst (((kvR T).drop (p + 1)).map fun x => D.int x.1)))
    generalize M3.upd q (.lst (((kvR T).drop (p + 1)).map fun x => D.int x.1)) = M4 at hP4 he4
    conv => whnf
    rw [f2]
    have nxt : ∀ T' : RT, kvR T' = grow row (kvR T) (wsOf g) → kvR T' = kvN gs (p + 1) := fun T' e => by
      show _ = (match (kvN gs p)[p]? with | some (s, row) => grow row (kvN gs p) (wsAt gs s) | none => kvN gs p)
      rw [← hT, hx, e]
      dsimp only
      rw [f4]
    cases g with
    | none =>
      conv => whnf
      exact ⟨p + 1, T, _, _, _, _, rfl, rfl, nxt T rfl, hP4, h0, he4⟩
    | some bw =>
      obtain ⟨b, ws⟩ := bw
      conv => whnf
      rw [show (if true = true then !decide (sdS b = Str.ofString "end") else decide (sdS b = Str.ofString "end")) = true by rw [ne_end]; rfl]
      conv => whnf
      rw [f2]
      conv => whnf
      obtain ⟨w1, w3, hw⟩ := f3
      obtain ⟨T0, hT0⟩ : ∃ T0, T0 = T := ⟨_, rfl⟩
      refine each_inv (fun rem env M' => ∃ (gone rest : List PW) (R : RT) (e4 e5 e6 : Option D), ws = gone ++ rest ∧ rem = rest.map pwD ∧ env = [some (.lst (gs.map pgD)), some (.loc d), some (.loc q), some (.int s), e4, e5, e6] ∧ kvR (T ++ R) = grow row (kvR T) gone ∧ PL ((d, .dic (dI (dicR (T ++ R)))) :: (q, .lst (((kvR (T ++ R)).drop (p + 1)).map fun x => D.int x.1)) :: cellsR (T ++ R)) M' ∧ (∀ x ∈ T ++ R, M x.1 = none) ∧ Ext M M') ?_ ?_ _ _ _ ⟨[], ws, [], _, _, _, rfl, rfl, rfl, by rw [List.append_nil]; rfl, by rw [List.append_nil]; exact hP4, by rw [List.append_nil]; exact h0, he4⟩
      · rintro y rem env M5 ⟨gone, rest, R, e4, e5, e6, g1, g2, rfl, hR, hP, h0, he⟩
        cases rest with
        | nil => cases g2
        | cons w rest =>
          rw [List.map_cons] at g2
          injection g2 with g2 g2'
          subst g2 g2'
          obtain ⟨wa, wb, wc, wd⟩ := hw w (by rw [g1]; exact List.mem_append_right _ (List.mem_cons_self ..))
          have hokR : KvOk gs.length (kvR (T ++ R)) := by
            rw [hR]
            exact hkv.grow fun x hx => by
              have := hw x (by rw [g1]; exact List.mem_append_left _ hx)
              exact this.2.2
          have hlenR := hokR.len
          have hm1 := hP.get 0 rfl
          have hm2 := hP.get 1 rfl
          have snoc : ∀ R', kvR (T ++ R') = grow1 row (kvR (T ++ R)) w → kvR (T ++ R') = grow row (kvR T) (gone ++ [w]) := fun R' e => by
            unfold grow
            rw [List.foldl_append]
            rw [e, hR]
            rfl
          refine ⟨trivial, ?_⟩
          conv => whnf
          rw [dicAt_loc41 hm1]
          conv => whnf
          by_cases ht : w.2.2 ∈ (kvR (T ++ R)).map (·.1)
          · obtain ⟨i, hi⟩ := List.getElem?_of_mem ht
            rw [List.getElem?_map] at hi
            obtain ⟨x, hx1, hx2⟩ := Option.map_eq_some_iff.mp hi
            obtain ⟨s1, r1⟩ := x
            have hx2 : s1 = w.2.2 := hx2
            subst hx2
            obtain ⟨a1, q1, q2, q3⟩ := rt_at hx1
            rw [lookI_some q2 (by rw [dicR_keys]; exact hokR.nd)]
            conv => whnf
            refine ⟨gone ++ [w], rest, R, _, _, _, by rw [List.append_assoc]; exact g1, rfl, rfl, snoc R ?_, hP, h0, he⟩
            unfold grow1
            rw [if_pos ht]
          · rw [lookI_none (by rw [dicR_keys]; exact ht)]
            have hxp : (kvR (T ++ R))[p]? = some (s, row) := by rw [kvR_app, List.getElem?_append_left hl]; exact hx
            obtain ⟨a2, q1, q2, q3⟩ := rt_at hxp
            have hma := hP.get (p + 2) (show ((d, Ob.dic (dI (dicR (T ++ R)))) :: (q, Ob.lst (((kvR (T ++ R)).drop (p + 1)).map fun x => D.int x.1)) :: cellsR (T ++ R))[p + 2]? = _ from q3)
            conv => whnf
            rw [hm1]
            conv => whnf
            rw [lookI_some q2 (by rw [dicR_keys]; exact hokR.nd)]
            conv => whnf
            refine ⟨lok rfl, ?_⟩
            conv => whnf
            rw [asLT_loc hma]
            conv => whnf
            have hrow : row.length ≤ p := kvN_row p _ (by rw [← hT]; exact List.mem_of_getElem? hx)
            refine ⟨by rw [List.length_append, List.length_map, List.length_singleton]; omega, fun b hb => ?_⟩
            have eb : row.map D.str ++ [D.str w.1] = (row ++ [w.1]).map D.str := by rw [List.map_append]; rfl
            rw [eb]
            have hPb := hP.new hb (o := .lst ((row ++ [w.1]).map D.str))
            have hb0 := he.off hb
            have heb := he.new (o := .lst ((row ++ [w.1]).map D.str)) hb0
            generalize M5.upd b (.lst ((row ++ [w.1]).map D.str)) = M6 at hPb heb
            have hm6 := hPb.get 0 rfl
            conv => whnf
            rw [hm6]
            refine ⟨by unfold dI dicR; rw [List.length_map, List.length_map]; have : (kvR (T ++ R)).length = (T ++ R).length := List.length_map ..; omega, ?_⟩
            rw [putI_new (by rw [dicR_keys]; exact ht)]
            obtain ⟨R', hR'⟩ : ∃ R', R' = R ++ [(b, w.2.2, row ++ [w.1])] := ⟨_, rfl⟩
            have eT : T ++ R' = (T ++ R) ++ [(b, w.2.2, row ++ [w.1])] := by rw [hR', List.append_assoc]
            have edc : dicR (T ++ R) ++ [(w.2.2, D.loc b)] = dicR (T ++ R') := by rw [eT]; exact (dicR_app (A := T ++ R) (B := [(b, w.2.2, row ++ [w.1])])).symm
            rw [edc]
            have hPc := hPb.set 0 rfl (o' := .dic (dI (dicR (T ++ R'))))
            have hec := heb.new (o := .dic (dI (dicR (T ++ R')))) hd
            show wpS _ _ _ _ (M6.upd d (.dic (dI (dicR (T ++ R')))))
            generalize M6.upd d (.dic (dI (dicR (T ++ R')))) = M7 at hPc hec
            have hPc : PL ((d, .dic (dI (dicR (T ++ R')))) :: (q, .lst (((kvR (T ++ R)).drop (p + 1)).map fun x => D.int x.1)) :: cellsR (T ++ R')) M7 := by
              rw [eT] at hPc ⊢
              rw [cellsR_app (A := T ++ R)]
              exact hPc
            have hm7 := hPc.get 1 rfl
            conv => whnf
            refine ⟨rcv_loc (by decide) hm7, ?_⟩
            conv => whnf
            rw [hm7]
            refine ⟨by rw [List.length_map, List.length_drop]; omega, ?_⟩
            have ekv : kvR (T ++ R') = kvR (T ++ R) ++ [(w.2.2, row ++ [w.1])] := by rw [eT]; exact kvR_app (A := T ++ R) (B := [(b, w.2.2, row ++ [w.1])])
            have edr : ((kvR (T ++ R)).drop (p + 1)).map (fun x => D.int x.1) ++ [D.int w.2.2] = ((kvR (T ++ R')).drop (p + 1)).map fun x => D.int x.1 := by
              have hlR : p + 1 ≤ (kvR (T ++ R)).length := by rw [kvR_app, List.length_append]; omega
              rw [ekv, List.drop_append_of_le_length hlR, List.map_append]
              rfl
            rw [edr]
            refine ⟨gone ++ [w], rest, R', _, _, _, by rw [List.append_assoc]; exact g1, rfl, rfl, snoc R' ?_, hPc.set 1 rfl, fun x hx => ?_, hec.new hq0⟩
            · unfold grow1
              rw [if_neg ht, ekv]
            · rw [eT] at hx
              rcases List.mem_append.mp hx with hx | hx
              · exact h0 x hx
              · have hx : x = (b, w.2.2, row ++ [w.1]) := by simpa using hx
                rw [hx]; exact hb0
      · rintro env M5 ⟨gone, rest, R, e4, e5, e6, g1, g2, rfl, hR, hP, h0, he⟩
        cases rest with
        | cons w rest => cases g2
        | nil =>
          rw [List.append_nil] at g1
          subst g1
          refine ⟨trivial, ?_⟩
          conv => whnf
          exact ⟨p + 1, T ++ R, _, _, _, _, rfl, rfl, nxt _ hR, hP, h0, he⟩
end Wp

/-! PwGb: data of grammars, plain. -/
namespace Wp
open PySem
theorem isEnd_no {many : Int} {b : Bool} {ws : List PW} (h : PGOk many (some (b, ws))) : ∃ p q, (∀ M, toPyM M (pgD (some (b, ws))) = some p) ∧ (∀ M, toPyM M (.tup [.str "end"]) = some q) ∧ SeqAt.shaped p = true ∧ SeqAt.shaped q = true ∧ PyData.eqv p q = false := by
  have gpl := pgD_pl h
  have gdl := gpl.2
  have epl : plV (.tup [.str "end"]) = true := by decide +kernel
  obtain ⟨p, ep, _⟩ := toPy_pl gpl.1
  obtain ⟨q, eq, _⟩ := toPy_pl epl
  refine ⟨p, q, fun M => by rw [toPyM_pl gpl.1]; exact ep, fun M => by rw [toPyM_pl epl]; exact eq, shaped_pl gpl.1 (by omega) ep, shaped_pl epl (by decide) eq, ?_⟩
  cases hq : PyData.eqv p q with
  | false => rfl
  | true =>
    have e := (eqv_pl gpl.1 epl ep eq).mp hq
    exact absurd (congrArg (fun d => match d with | D.tup ds => ds.length | _ => 0) e) (show ¬ (2 : Nat) = 1 by decide)
theorem toPys_strs : ∀ zs : List Str, toPys (zs.map D.str) = some (zs.map PyData.str)
  | [] => rfl
  | z :: zs => by
    rw [List.map_cons, List.map_cons]
    unfold toPys
    rw [toPys_strs zs]
    rfl
theorem shaped_strs {zs : List Str} (hl : zs.length ≤ 1000) (h : ∀ z ∈ zs, smV (.str z) = true) : SeqAt.shaped (.list (zs.map PyData.str)) = true := by
  obtain ⟨p, e, c, d, r⟩ := toPy_sm (v := .lst (zs.map D.str)) (smV_ls (by rw [List.length_map]; exact hl) fun x hx => by
    obtain ⟨z, hz, rfl⟩ := List.mem_map.mp hx
    exact h z hz)
  have e2 : (toPys (zs.map D.str)).map PyData.list = some p := e
  rw [toPys_strs] at e2
  cases e2
  have d2 : dep (.lst (zs.map D.str)) ≤ 1 := by
    show deps (zs.map D.str) + 1 ≤ 1
    have := deps_le (ds := zs.map D.str) (n := 0) fun x hx => by
      obtain ⟨z, hz, rfl⟩ := List.mem_map.mp hx
      exact Nat.le_refl 0
    omega
  show (PyData.canLay0 _ && decide (_ ≤ 64)) = true
  rw [c, decide_eq_true (by omega)]
  rfl
theorem shaped_str {z : Str} (h : smV (.str z) = true) : SeqAt.shaped (.str z) = true := by
  obtain ⟨p, e, c, d, r⟩ := toPy_sm h
  cases e
  show (PyData.canLay0 _ && decide (_ ≤ 64)) = true
  rw [c, decide_eq_true (by have : dep (.str z) = 0 := rfl; omega)]
  rfl
theorem first_of (a : Str) : ∀ (pre post : List Str) (n : Nat), a ∉ pre → firstOf (.str a) ((pre ++ a :: post).map PyData.str) n = some (n + pre.length)
  | [], post, n, _ => by
    show (if PyData.eqv (.str a) (.str a) = true then some n else _) = _
    rw [if_pos (by show (a == a) = true; exact beq_self_eq_true a)]
    rfl
  | z :: pre, post, n, h => by
    show (if PyData.eqv (.str z) (.str a) = true then some n else firstOf (.str a) ((pre ++ a :: post).map PyData.str) (n + 1)) = _
    have hz : ¬ PyData.eqv (.str z) (.str a) = true := fun e => by
      have e : (z == a) = true := e
      exact h (by rw [eq_of_beq e]; exact List.mem_cons_self ..)
    rw [if_neg hz, first_of a pre post (n + 1) fun hm => h (List.mem_cons_of_mem _ hm), List.length_cons]
    congr 1
    omega
def fstF : D → Option D
  | .tup (x :: _) => some x
  | _ => none
theorem fst_all : ∀ ws : List PW, (ws.map pwD).filterMap fstF = (ws.map fun w => w.1).map D.str
  | [] => rfl
  | w :: ws => by
    rw [List.map_cons, List.map_cons, List.map_cons, ← fst_all ws]
    rfl
theorem first_at {many : Int} {ws : List PW} (hok : PWsOk many ws) {j : Nat} {w : PW} (hw : ws[j]? = some w) : firstOf (.str w.1) ((ws.map fun w => w.1).map PyData.str) 0 = some j := by
  have hj := get_lt hw
  have hsplit : ws = ws.take j ++ w :: ws.drop (j + 1) := by
    have e := List.getElem_cons_drop (as := ws) (i := j) (h := hj)
    have e2 : ws[j] = w := by
      rw [List.getElem?_eq_getElem hj] at hw
      injection hw
    rw [e2] at e
    rw [e, List.take_append_drop]
  have hno : w.1 ∉ (ws.take j).map (fun w => w.1) := fun h => by
    obtain ⟨x, hx, e⟩ := List.mem_map.mp h
    obtain ⟨i, hi⟩ := List.getElem?_of_mem hx
    have hij : i < j := by have := get_lt hi; rw [List.length_take] at this; omega
    rw [List.getElem?_take_of_lt hij] at hi
    have := hok.nd _ _ _ _ hi hw e
    omega
  have hf := first_of w.1 ((ws.take j).map fun w => w.1) ((ws.drop (j + 1)).map fun w => w.1) 0 hno
  rw [← List.map_cons (f := fun w : PW => w.1), ← List.map_append, ← hsplit] at hf
  rw [hf, List.length_map, List.length_take, Nat.zero_add, Nat.min_eq_left (by omega)]
theorem ints_len (w : List Int) : (intsD w).length = w.length := List.length_map ..
theorem ints_app (a b : List Int) : intsD a ++ intsD b = intsD (a ++ b) := by
  unfold intsD
  rw [List.map_append]
theorem int_one (xs : List Int) (b : Int) : intsD xs ++ [D.int b] = intsD (xs ++ [b]) := by
  unfold intsD
  rw [List.map_append]; rfl
theorem ints_okDs : ∀ w : List Int, okDs (intsD w) = true
  | [] => rfl
  | x :: w => by
    show (okD (.int x) && okDs (intsD w)) = true
    rw [ints_okDs w]; rfl
theorem ints_okD {w : List Int} (h : w.length ≤ sizeLine) : okD (.lst (intsD w)) = true := by
  show (decide ((intsD w).length ≤ sizeLine) && okDs (intsD w)) = true
  rw [ints_okDs, ints_len, decide_eq_true h]; rfl
end Wp

/-! PwRd2: what is read of good bytes, and what bytes a value read has; plain. -/
namespace Wp
open PySem
theorem drop_cons {bs : List Int} {i : Nat} {b : Int} {r : List Int} (h : bs.drop i = b :: r) : bs[i]? = some b ∧ bs.drop (i + 1) = r := by
  have e : (bs.drop i)[0]? = some b := by rw [h]; rfl
  rw [List.getElem?_drop] at e
  refine ⟨e, ?_⟩
  have e2 : (bs.drop i).drop 1 = r := by rw [h]; rfl
  rw [List.drop_drop] at e2
  exact e2
theorem drop_at {bs : List Int} {i : Nat} {b : Int} (h : bs[i]? = some b) : bs.drop i = b :: bs.drop (i + 1) := by
  obtain ⟨h1, h2⟩ := List.getElem?_eq_some_iff.mp h
  rw [List.drop_eq_getElem_cons h1, h2]
theorem drop_app {bs xs r : List Int} {i : Nat} (h : bs.drop i = xs ++ r) : bs.drop (i + xs.length) = r := by
  rw [← List.drop_drop, h, List.drop_left]
theorem pl_lt (n : Nat) : n < 256 ^ pl n := by
  induction n using Nat.strongRecOn with
  | ind n ih =>
    by_cases h : n = 0
    · subst h; rw [pl_zero]; decide
    · rw [pl_pos h, Nat.pow_succ]
      have := ih (n / 256) (by omega)
      omega
theorem pl_ltI {s : Int} (h : 0 ≤ s) : s < 256 ^ pl s.toNat := by
  have := pl_lt s.toNat
  have h2 : ((s.toNat : Nat) : Int) < ((256 ^ pl s.toNat : Nat) : Int) := Int.ofNat_lt.mpr this
  rw [Int.natCast_pow, Int.toNat_of_nonneg h] at h2
  exact h2
theorem div_step (n : Int) (j : Nat) : n / 256 ^ (j + 1) * 256 + n / 256 ^ j % 256 = n / 256 ^ j := by
  have : n / 256 ^ (j + 1) = n / 256 ^ j / 256 := by
    rw [Int.pow_succ]
    first
      | rw [Int.ediv_ediv_of_nonneg (Int.le_of_lt (Int.pow_pos (by decide)))]
      | rw [Int.ediv_ediv_eq_ediv_mul _ (Int.le_of_lt (Int.pow_pos (by decide)))]
  rw [this]
  omega
theorem les_rev (l : Nat) (x : Int) : (les (l + 1) x).reverse = (x / 256 ^ l % 256) :: (les l x).reverse := by
  rw [les_snoc, List.reverse_append]; rfl
theorem nu_good (lo span : Int) (bs post : List Int) (x : Int) (h0 : 0 ≤ x) (h1 : x ≤ span) : ∀ (l i : Nat) (f : Int), f = x / 256 ^ l → bs.drop i = (les l x).reverse ++ post → rdNu lo span bs i l f = .told (.int (lo + x)) (i + l)
  | 0, i, f, hf, hb => by
    rw [Int.pow_zero, Int.ediv_one] at hf
    rw [hf]; rfl
  | l + 1, i, f, hf, hb => by
    rw [les_rev] at hb
    obtain ⟨e1, e2⟩ := drop_cons (r := (les l x).reverse ++ post) hb
    have st := div_step x l
    rw [← hf] at st
    have g2 : x / 256 ^ l * 256 ^ l ≤ x := Int.ediv_mul_le _ (Int.ne_of_gt (Int.pow_pos (by decide)))
    have m0 : 0 ≤ x / 256 ^ l % 256 := Int.emod_nonneg _ (by decide)
    have m1 : x / 256 ^ l % 256 < 256 := Int.emod_lt_of_pos _ (by decide)
    unfold rdNu
    rw [byK_ok e1 (by rw [Bool.and_eq_true, inR_iff, decide_eq_true_eq, st]; exact ⟨⟨m0, by omega⟩, by omega⟩), st, nu_good lo span bs post x h0 h1 l (i + 1) _ rfl e2]
    congr 1
    omega
theorem okSign_in {c : Nat} (h : okSign c = true) : inR 32 126 (c : Int) = true ∧ decide ((c : Int) = 37) = false := by
  unfold okSign at h
  rw [Bool.and_eq_true, Bool.and_eq_true] at h
  have a := of_decide_eq_true h.1.1
  have b := of_decide_eq_true h.1.2
  have d := of_decide_eq_true h.2
  exact ⟨inR_iff.mpr ⟨by omega, by omega⟩, decide_eq_false (by omega)⟩
theorem tx_good (bs post : List Int) : ∀ (cs : List Nat) (i : Nat) (acc : List Nat), cs.all okSign = true → bs.drop i = (cs.map fun (c : Nat) => (c : Int)) ++ post → rdTx bs i cs.length acc = .told (.str ⟨(acc ++ cs).toArray⟩) (i + cs.length)
  | [], i, acc, _, _ => by rw [List.append_nil]; rfl
  | c :: cs, i, acc, h, hb => by
    rw [List.all_cons, Bool.and_eq_true] at h
    obtain ⟨e1, e2⟩ := drop_cons (r := (cs.map fun (c : Nat) => (c : Int)) ++ post) hb
    obtain ⟨k1, k2⟩ := okSign_in h.1
    show rdTx bs i (cs.length + 1) acc = _
    unfold rdTx
    rw [byK_ok e1 (by rw [k1, k2]; rfl), tx_good bs post cs (i + 1) _ h.2 e2, Int.toNat_natCast, List.append_assoc, List.length_cons]
    show Rs.told _ _ = .told _ _
    congr 1
    omega
abbrev GoodAt (s : Sh) : Prop := ∀ (t : D) (bs post : List Int) (i : Nat), s.okb = true → smV t = true → fitsB s t = true → bs.drop i = bytesB s t ++ post → rdB s bs i = .told t (i + (bytesB s t).length)
theorem it_good {s : Sh} (ih : GoodAt s) (ok : s.okb = true) (bs post : List Int) : ∀ (ds : List D) (i : Nat) (acc : List D), (∀ d ∈ ds, smV d = true ∧ fitsB s d = true) → bs.drop i = (ds.map (bytesB s)).flatten ++ post → rdIt (fun j => rdB s bs j) i ds.length acc = .told (.lst (acc ++ ds)) (i + ((ds.map (bytesB s)).flatten).length)
  | [], i, acc, _, _ => by rw [List.append_nil]; rfl
  | d :: ds, i, acc, h, hb => by
    rw [List.map_cons, List.flatten_cons, List.append_assoc] at hb
    obtain ⟨h1, h2⟩ := h d (List.mem_cons_self ..)
    have e := ih d bs _ i ok h1 h2 hb
    show rdIt _ i (ds.length + 1) acc = _
    unfold rdIt
    rw [e]
    show rdIt _ (i + (bytesB s d).length) ds.length (acc ++ [d]) = _
    rw [it_good ih ok bs post ds _ _ (fun d hd => h d (List.mem_cons_of_mem _ hd)) (drop_app hb), List.append_assoc, List.map_cons, List.flatten_cons, List.length_append]
    show Rs.told _ _ = .told _ _
    congr 1
    omega
theorem Sh.okbs_at : ∀ {ss : List Sh}, Sh.okbs ss = true → ∀ s ∈ ss, s.okb = true
  | [], _, s, hs => by cases hs
  | x :: ss, h, s, hs => by
    unfold Sh.okbs at h
    rw [Bool.and_eq_true] at h
    rcases List.mem_cons.mp hs with hs | hs
    · rw [hs]; exact h.1
    · exact Sh.okbs_at h.2 s hs
theorem fitsN_at : ∀ (ss : List Sh) (n : Nat) (t : D), fitsN ss n t = true → ∃ s, ss[n]? = some s ∧ fitsB s t = true
  | [], n, t, h => by unfold fitsN at h; cases h
  | s :: ss, 0, t, h => by unfold fitsN at h; exact ⟨s, rfl, h⟩
  | s :: ss, n + 1, t, h => by
    unfold fitsN at h
    rw [List.getElem?_cons_succ]
    exact fitsN_at ss n t h
mutual
theorem rd_good : ∀ s : Sh, GoodAt s
  | .nothing => fun t bs post i ok hs hf hb => by
    cases t
    case non => rfl
    all_goals cases hf
  | .number lo hi => fun t bs post i ok hs hf hb => by
    have ok : (decide (-1000000000000000000 < lo) && (decide (lo ≤ hi) && decide (hi < 1000000000000000000))) = true := ok
    rw [Bool.and_eq_true, Bool.and_eq_true] at ok
    have b2 := of_decide_eq_true ok.2.1
    cases t
    case int n =>
      have hf : (decide (lo ≤ n) && decide (n ≤ hi)) = true := hf
      rw [Bool.and_eq_true] at hf
      have c1 := of_decide_eq_true hf.1
      have c2 := of_decide_eq_true hf.2
      have hlt := pl_ltI (s := hi - lo) (by omega)
      have hl : (bytesB (.number lo hi) (.int n)).length = pl (hi - lo).toNat := by
        show ((les (pl (hi - lo).toNat) (n - lo)).reverse).length = _
        rw [List.length_reverse, les_len]
      rw [hl]
      show rdNu lo (hi - lo) bs i (pl (hi - lo).toNat) 0 = _
      rw [nu_good lo (hi - lo) bs post (n - lo) (by omega) (by omega) _ i 0 (by rw [Int.ediv_eq_zero_of_lt (by omega) (by omega)]) hb, show lo + (n - lo) = n by omega]
    all_goals cases hf
  | .text m => fun t bs post i ok hs hf hb => by
    cases t
    case str z =>
      have hf : (decide ((z.length : Int) ≤ m) && z.cps.toList.all okSign) = true := hf
      rw [Bool.and_eq_true] at hf
      have c1 := of_decide_eq_true hf.1
      obtain ⟨e1, e2⟩ := drop_cons (r := (z.cps.toList.map fun (c : Nat) => (c : Int)) ++ post) hb
      have hl : z.cps.toList.length = z.length := Array.length_toList ..
      show byK bs i (inR 0 m) _ = .told _ (i + ((z.length : Int) :: z.cps.toList.map fun (c : Nat) => (c : Int)).length)
      rw [byK_ok e1 (inR_iff.mpr ⟨by omega, c1⟩), Int.toNat_natCast, ← hl, tx_good bs post _ _ _ hf.2 e2, List.length_cons, List.length_map]
      show Rs.told _ _ = .told _ _
      congr 1
      omega
    all_goals cases hf
  | .list s m => fun t bs post i ok hs hf hb => by
    unfold Sh.okb at ok
    rw [Bool.and_eq_true] at ok
    cases t
    case lst ds =>
      obtain ⟨hdl, hds⟩ := smV_lstH hs
      have hf : (decide ((ds.length : Int) ≤ m) && ds.all (fitsB s)) = true := hf
      rw [Bool.and_eq_true] at hf
      have c1 := of_decide_eq_true hf.1
      have hfi := List.all_eq_true.mp hf.2
      obtain ⟨e1, e2⟩ := drop_cons (r := (ds.map (bytesB s)).flatten ++ post) hb
      show byK bs i (inR 0 m) _ = .told _ (i + ((ds.length : Int) :: (ds.map (bytesB s)).flatten).length)
      rw [byK_ok e1 (inR_iff.mpr ⟨by omega, c1⟩), Int.toNat_natCast, it_good (rd_good s) ok.2 bs post ds _ _ (fun d hd => ⟨hds d hd, hfi d hd⟩) e2, List.length_cons]
      show Rs.told _ _ = .told _ _
      congr 1
      omega
    case scr => cases hs
    all_goals cases hf
  | .pair a b => fun t bs post i ok hs hf hb => by
    unfold Sh.okb at ok
    rw [Bool.and_eq_true] at ok
    cases t
    case tup ds =>
      match ds, hf, hs, hb with
      | [x, y], hf, hs, hb =>
        obtain ⟨hdl, hds⟩ := smV_tupH hs
        have hf : (fitsB a x && fitsB b y) = true := hf
        rw [Bool.and_eq_true] at hf
        have hb : bs.drop i = bytesB a x ++ bytesB b y ++ post := hb
        rw [List.append_assoc] at hb
        have e1 := rd_good a x bs _ i ok.1 (hds x (by simp)) hf.1 hb
        have e2 := rd_good b y bs _ _ ok.2 (hds y (by simp)) hf.2 (drop_app hb)
        show ((rdB a bs i).andThen fun x j => (rdB b bs j).andThen fun y k => .told (.tup [x, y]) k) = .told _ (i + (bytesB a x ++ bytesB b y).length)
        rw [e1]
        dsimp only [Rs.andThen]
        rw [e2]
        dsimp only [Rs.andThen]
        rw [List.length_append, Nat.add_assoc]
      | [], hf, hs, hb => cases hf
      | [x], hf, hs, hb => cases hf
      | x :: y :: z :: w, hf, hs, hb => cases hf
    all_goals cases hf
  | .choice ss => fun t bs post i ok hs hf hb => by
    unfold Sh.okb at ok
    rw [Bool.and_eq_true] at ok
    cases t
    case tup ds =>
      match ds, hf, hs, hb with
      | [.str z, .int n, x], hf, hs, hb =>
        obtain ⟨hdl, hds⟩ := smV_tupH hs
        have hf : (decide (z = "of") && (decide (0 ≤ n) && fitsN ss n.toNat x)) = true := hf
        rw [Bool.and_eq_true, Bool.and_eq_true] at hf
        have z1 := of_decide_eq_true hf.1
        have z2 := of_decide_eq_true hf.2.1
        subst z1
        obtain ⟨s, e, hx⟩ := fitsN_at ss n.toNat x hf.2.2
        have hi := (List.getElem?_eq_some_iff.mp e).1
        have hbe : bytesB (.choice ss) (.tup [.str "of", .int n, x]) = n :: bytesB s x := by
          show n :: bytesN ss n.toNat x = _
          rw [bytesN_get ss _ x s e]
        rw [hbe] at hb ⊢
        obtain ⟨e1, e2⟩ := drop_cons (r := bytesB s x ++ post) hb
        have hsm := List.mem_of_getElem? e
        have e3 := rd_goods ss s hsm x bs post (i + 1) (Sh.okbs_at ok.2 s hsm) (hds x (by simp)) hx e2
        show byK bs i (inR 0 ((ss.length : Int) - 1)) _ = _
        rw [byK_ok e1 (inR_iff.mpr ⟨z2, by omega⟩), rdBs_get ss _ bs _ s e, e3]
        show Rs.told _ _ = .told _ _
        congr 1
        rw [List.length_cons]
        omega
      | [], hf, hs, hb => cases hf
      | [x], hf, hs, hb => cases x <;> cases hf
      | [x, y], hf, hs, hb => cases x <;> cases y <;> cases hf
      | [.non, y, w], hf, hs, hb => cases hf
      | [.bl _, y, w], hf, hs, hb => cases hf
      | [.int _, y, w], hf, hs, hb => cases hf
      | [.tup _, y, w], hf, hs, hb => cases hf
      | [.lst _, y, w], hf, hs, hb => cases hf
      | [.scr _, y, w], hf, hs, hb => cases hf
      | [.emp, y, w], hf, hs, hb => cases hf
      | [.loc _, y, w], hf, hs, hb => cases hf
      | [.str _, .non, w], hf, hs, hb => cases hf
      | [.str _, .bl _, w], hf, hs, hb => cases hf
      | [.str _, .str _, w], hf, hs, hb => cases hf
      | [.str _, .tup _, w], hf, hs, hb => cases hf
      | [.str _, .lst _, w], hf, hs, hb => cases hf
      | [.str _, .scr _, w], hf, hs, hb => cases hf
      | [.str _, .emp, w], hf, hs, hb => cases hf
      | [.str _, .loc _, w], hf, hs, hb => cases hf
      | x :: y :: z :: v :: w, hf, hs, hb => cases x <;> cases y <;> cases hf
    all_goals cases hf
theorem rd_goods : ∀ (ss : List Sh), ∀ s ∈ ss, GoodAt s
  | [], s, h => by cases h
  | x :: ss, s, h => by
    rcases List.mem_cons.mp h with h | h
    · rw [h]; exact rd_good x
    · exact rd_goods ss s h
end
end Wp

/-! PwRd3: what is read fits, and has the bytes passed over; bytes that end too early go on with a nought or a blank; plain. -/
namespace Wp
open PySem
/-- a value read of a shape: it fits, its bytes stand there -/
structure Rdd (s : Sh) (bs : List Int) (i : Nat) (t : D) (j : Nat) : Prop where
  fi : fitsB s t = true
  sm : smV t = true
  len : j = i + (bytesB s t).length
  b : bs.drop i = bytesB s t ++ bs.drop j
theorem andThen_told {r : Rs} {g : D → Nat → Rs} {t : D} {j : Nat} (h : r.andThen g = .told t j) : ∃ x k, r = .told x k ∧ g x k = .told t j := by
  cases r with
  | told x k => exact ⟨x, k, rfl, h⟩
  | short => cases h
  | brk k => cases h
theorem andThen_short {r : Rs} {g : D → Nat → Rs} (h : r.andThen g = .short) : r = .short ∨ ∃ x k, r = .told x k ∧ g x k = .short := by
  cases r with
  | told x k => exact .inr ⟨x, k, rfl, h⟩
  | short => exact .inl rfl
  | brk k => cases h
theorem byK_told {bs : List Int} {i : Nat} {gd : Int → Bool} {ok : Int → Rs} {t : D} {j : Nat} (h : byK bs i gd ok = .told t j) : ∃ b, bs[i]? = some b ∧ gd b = true ∧ ok b = .told t j := by
  rcases byK_case h with ⟨_, e⟩ | ⟨b, q, ⟨_, e⟩ | ⟨g, e⟩⟩
  · cases e
  · cases e
  · exact ⟨b, q, g, e⟩
theorem nu_told {lo span : Int} {bs : List Int} : ∀ {l i : Nat} {f : Int} {t : D} {j : Nat}, 0 ≤ f → rdNu lo span bs i l f = .told t j → ∃ x : Int, t = .int (lo + x) ∧ j = i + l ∧ f * 256 ^ l ≤ x ∧ x < (f + 1) * 256 ^ l ∧ (l = 0 ∨ x ≤ span) ∧ bs.drop i = (les l x).reverse ++ bs.drop j
  | 0, i, f, t, j, hf, h => by
    cases h
    exact ⟨f, rfl, rfl, by omega, by omega, .inl rfl, rfl⟩
  | l + 1, i, f, t, j, hf, h => by
    obtain ⟨b, q, g, h⟩ := byK_told h
    rw [Bool.and_eq_true, inR_iff, decide_eq_true_eq] at g
    obtain ⟨⟨g0, g1⟩, g2⟩ := g
    obtain ⟨x, e1, e2, e3, e4, e5, e6⟩ := nu_told (by omega) h
    have p0 : (0 : Int) < 256 ^ l := Int.pow_pos (by decide)
    have hx : x / 256 ^ l = f * 256 + b := by
      refine Int.le_antisymm ?_ ?_
      · exact Int.lt_add_one_iff.mp (Int.ediv_lt_of_lt_mul p0 e4)
      · exact (Int.le_ediv_iff_mul_le p0).mpr e3
    refine ⟨x, e1, by omega, ?_, ?_, ?_, ?_⟩
    · refine Int.le_trans ?_ e3
      rw [Int.pow_succ, Int.mul_comm (256 ^ l) 256, ← Int.mul_assoc]
      exact Int.mul_le_mul_of_nonneg_right (by omega) (Int.le_of_lt p0)
    · refine Int.lt_of_lt_of_le e4 ?_
      rw [Int.pow_succ, Int.mul_comm (256 ^ l) 256, ← Int.mul_assoc]
      exact Int.mul_le_mul_of_nonneg_right (by omega) (Int.le_of_lt p0)
    · right
      rcases e5 with e5 | e5
      · subst e5
        rw [Int.pow_zero, Int.mul_one] at e3 e4 g2
        omega
      · exact e5
    · rw [drop_at q, e6, les_rev, hx, show (f * 256 + b) % 256 = b by omega]
      rfl
theorem tx_told {bs : List Int} : ∀ {l i : Nat} {acc : List Nat} {t : D} {j : Nat}, rdTx bs i l acc = .told t j → ∃ cs : List Nat, cs.length = l ∧ cs.all okSign = true ∧ t = .str ⟨(acc ++ cs).toArray⟩ ∧ j = i + l ∧ bs.drop i = (cs.map fun (c : Nat) => (c : Int)) ++ bs.drop j
  | 0, i, acc, t, j, h => by
    cases h
    exact ⟨[], rfl, rfl, by rw [List.append_nil], rfl, rfl⟩
  | l + 1, i, acc, t, j, h => by
    obtain ⟨b, q, g, h⟩ := byK_told h
    rw [Bool.and_eq_true, inR_iff] at g
    obtain ⟨⟨g0, g1⟩, g2⟩ := g
    have g2 : ¬ b = 37 := by
      intro z
      rw [decide_eq_true z] at g2
      cases g2
    obtain ⟨cs, e1, e2, e3, e4, e5⟩ := tx_told h
    have hb : ((b.toNat : Nat) : Int) = b := by omega
    refine ⟨b.toNat :: cs, by rw [List.length_cons, e1], ?_, by rw [e3, List.append_assoc]; rfl, by omega, ?_⟩
    · rw [List.all_cons, e2, Bool.and_true]
      unfold okSign
      rw [Bool.and_eq_true, Bool.and_eq_true]
      exact ⟨⟨decide_eq_true (by omega), decide_eq_true (by omega)⟩, decide_eq_true (by omega)⟩
    · rw [drop_at q, e5, List.map_cons, hb]
      rfl
theorem it_told {s : Sh} {bs : List Int} (ih : ∀ i t j, rdB s bs i = .told t j → Rdd s bs i t j) : ∀ {l i : Nat} {acc : List D} {t : D} {j : Nat}, rdIt (fun j => rdB s bs j) i l acc = .told t j → ∃ ds : List D, ds.length = l ∧ t = .lst (acc ++ ds) ∧ (∀ d ∈ ds, smV d = true ∧ fitsB s d = true) ∧ j = i + ((ds.map (bytesB s)).flatten).length ∧ bs.drop i = (ds.map (bytesB s)).flatten ++ bs.drop j
  | 0, i, acc, t, j, h => by
    cases h
    exact ⟨[], rfl, by rw [List.append_nil], fun d hd => (by cases hd), rfl, rfl⟩
  | l + 1, i, acc, t, j, h => by
    obtain ⟨x, k, e, h⟩ := andThen_told h
    have r := ih _ _ _ e
    obtain ⟨ds, e1, e2, e3, e4, e5⟩ := it_told ih h
    refine ⟨x :: ds, by rw [List.length_cons, e1], by rw [e2, List.append_assoc]; rfl, all_cons ⟨r.sm, r.fi⟩ e3, ?_, ?_⟩
    · rw [List.map_cons, List.flatten_cons, List.length_append, e4, r.len]; omega
    · rw [r.b, e5, List.map_cons, List.flatten_cons, List.append_assoc]
theorem strOk_codes {cs : List Nat} (h : cs.all okSign = true) : PyData.strOk ⟨cs.toArray⟩ = true := by
  unfold PyData.strOk
  rw [← Array.all_toList]
  rw [List.all_eq_true]
  intro x hx
  have := List.all_eq_true.mp h x (by simpa using hx)
  unfold okSign at this
  rw [Bool.and_eq_true, Bool.and_eq_true] at this
  have := of_decide_eq_true this.1.2
  exact decide_eq_true (by omega)
theorem fitsN_of : ∀ (ss : List Sh) (n : Nat) (t : D) (s : Sh), ss[n]? = some s → fitsN ss n t = fitsB s t
  | [], n, t, s, h => by rw [List.getElem?_nil] at h; cases h
  | x :: ss, 0, t, s, h => by rw [List.getElem?_cons_zero] at h; cases h; unfold fitsN; rfl
  | x :: ss, n + 1, t, s, h => by
    rw [List.getElem?_cons_succ] at h
    unfold fitsN
    exact fitsN_of ss n t s h
abbrev ToldAt (s : Sh) : Prop := ∀ (bs : List Int) (i : Nat) (t : D) (j : Nat), s.okb = true → rdB s bs i = .told t j → Rdd s bs i t j
mutual
theorem rd_told : ∀ s : Sh, ToldAt s
  | .nothing => fun bs i t j ok h => by
    cases h
    exact ⟨rfl, rfl, rfl, rfl⟩
  | .number lo hi => fun bs i t j ok h => by
    have ok : (decide (-1000000000000000000 < lo) && (decide (lo ≤ hi) && decide (hi < 1000000000000000000))) = true := ok
    rw [Bool.and_eq_true, Bool.and_eq_true] at ok
    have b2 := of_decide_eq_true ok.2.1
    obtain ⟨x, rfl, e2, e3, e4, e5, e6⟩ := nu_told (Int.le_refl 0) h
    rw [Int.zero_mul] at e3
    have hx : x ≤ hi - lo := by
      rcases e5 with e5 | e5
      · rw [e5, Int.pow_zero] at e4; omega
      · exact e5
    have hbe : bytesB (.number lo hi) (.int (lo + x)) = (les (pl (hi - lo).toNat) x).reverse := by
      show (les (pl (hi - lo).toNat) (lo + x - lo)).reverse = _
      rw [show lo + x - lo = x by omega]
    have b1 := of_decide_eq_true ok.1
    have b3 := of_decide_eq_true ok.2.2
    refine ⟨?_, by unfold smV; exact decide_eq_true (by omega), ?_, ?_⟩
    · show (decide (lo ≤ lo + x) && decide (lo + x ≤ hi)) = true
      rw [decide_eq_true (by omega), decide_eq_true (by omega)]; rfl
    · rw [hbe, List.length_reverse, les_len]; exact e2
    · rw [hbe]; exact e6
  | .text m => fun bs i t j ok h => by
    have ok : (decide (0 ≤ m) && decide (m ≤ 250)) = true := ok
    rw [Bool.and_eq_true] at ok
    have b2 := of_decide_eq_true ok.2
    obtain ⟨b, q, g, h⟩ := byK_told h
    rw [inR_iff] at g
    obtain ⟨cs, e1, e2, rfl, e4, e5⟩ := tx_told h
    rw [List.nil_append] at *
    have hl : (Str.mk cs.toArray).length = cs.length := List.size_toArray ..
    have hbe : bytesB (.text m) (.str ⟨cs.toArray⟩) = b :: cs.map fun (c : Nat) => (c : Int) := by
      show ((Str.mk cs.toArray).length : Int) :: (cs.map fun (c : Nat) => (c : Int)) = _
      rw [hl, e1, show ((b.toNat : Nat) : Int) = b by omega]
    refine ⟨?_, ?_, ?_, ?_⟩
    · show (decide (((Str.mk cs.toArray).length : Int) ≤ m) && cs.all okSign) = true
      rw [hl, e2, decide_eq_true (by omega)]; rfl
    · show (decide ((Str.mk cs.toArray).length ≤ 1000) && PyData.strOk ⟨cs.toArray⟩) = true
      rw [hl, strOk_codes e2, decide_eq_true (by omega)]; rfl
    · rw [hbe, List.length_cons, List.length_map]; omega
    · rw [hbe, drop_at q, e5]; rfl
  | .list s m => fun bs i t j ok h => by
    have ok : ((decide (0 ≤ m) && decide (m ≤ 250)) && s.okb) = true := ok
    rw [Bool.and_eq_true, Bool.and_eq_true] at ok
    have b2 := of_decide_eq_true ok.1.2
    obtain ⟨b, q, g, h⟩ := byK_told h
    rw [inR_iff] at g
    obtain ⟨ds, e1, rfl, e3, e4, e5⟩ := it_told (fun i t j e => rd_told s bs i t j ok.2 e) h
    rw [List.nil_append] at *
    have hbe : bytesB (.list s m) (.lst ds) = b :: (ds.map (bytesB s)).flatten := by
      show (ds.length : Int) :: (ds.map (bytesB s)).flatten = _
      rw [e1, show ((b.toNat : Nat) : Int) = b by omega]
    refine ⟨?_, ?_, ?_, ?_⟩
    · show (decide ((ds.length : Int) ≤ m) && ds.all (fitsB s)) = true
      rw [decide_eq_true (by omega), List.all_eq_true.mpr fun d hd => (e3 d hd).2]; rfl
    · exact smV_ls (by omega) fun d hd => (e3 d hd).1
    · rw [hbe, List.length_cons]; omega
    · rw [hbe, drop_at q, e5]; rfl
  | .pair a b => fun bs i t j ok h => by
    have ok : (a.okb && b.okb) = true := ok
    rw [Bool.and_eq_true] at ok
    obtain ⟨x, k, e1, h⟩ := andThen_told h
    obtain ⟨y, l, e2, h⟩ := andThen_told h
    cases h
    have r1 := rd_told a bs i x k ok.1 e1
    have r2 := rd_told b bs k y j ok.2 e2
    have hbe : bytesB (.pair a b) (.tup [x, y]) = bytesB a x ++ bytesB b y := rfl
    refine ⟨?_, ?_, ?_, ?_⟩
    · show (fitsB a x && fitsB b y) = true
      rw [r1.fi, r2.fi]; rfl
    · exact smV_tp (by show 2 ≤ 1000; decide) (all_cons r1.sm (all_cons r2.sm all_nil))
    · rw [hbe, List.length_append, r2.len, r1.len]; omega
    · rw [hbe, List.append_assoc, r1.b, r2.b]
  | .choice ss => fun bs i t j ok h => by
    have ok : ((decide (1 ≤ ss.length) && decide (ss.length ≤ 9)) && Sh.okbs ss) = true := ok
    rw [Bool.and_eq_true, Bool.and_eq_true] at ok
    have b2 := of_decide_eq_true ok.1.2
    obtain ⟨b, q, g, h⟩ := byK_told h
    rw [inR_iff] at g
    obtain ⟨x, k, e1, h⟩ := andThen_told h
    cases h
    obtain ⟨s, hs⟩ : ∃ s, ss[b.toNat]? = some s := ⟨ss[b.toNat]'(by omega), List.getElem?_eq_getElem _⟩
    have hm := List.mem_of_getElem? hs
    rw [rdBs_get ss _ bs _ s hs] at e1
    have r := rd_tolds ss s hm bs (i + 1) x j (Sh.okbs_at ok.2 s hm) e1
    have hbe : bytesB (.choice ss) (.tup [.str "of", .int b, x]) = b :: bytesB s x := by
      show b :: bytesN ss b.toNat x = _
      rw [bytesN_get ss _ x s hs]
    refine ⟨?_, ?_, ?_, ?_⟩
    · show (decide (("of" : Str) = "of") && (decide (0 ≤ b) && fitsN ss b.toNat x)) = true
      rw [fitsN_of ss _ x s hs, r.fi, decide_eq_true rfl, decide_eq_true g.1]; rfl
    · exact smV_tp (by show 3 ≤ 1000; decide) (all_cons (by decide +kernel) (all_cons (by unfold smV; exact decide_eq_true (by omega)) (all_cons r.sm all_nil)))
    · rw [hbe, List.length_cons, r.len]; omega
    · rw [hbe, drop_at q, r.b]; rfl
theorem rd_tolds : ∀ (ss : List Sh), ∀ s ∈ ss, ToldAt s
  | [], s, h => by cases h
  | x :: ss, s, h => by
    rcases List.mem_cons.mp h with h | h
    · rw [h]; exact rd_told x
    · exact rd_tolds ss s h
end
/-! ### a nought or a blank -/
def NoB (r : Rs) : Prop := ∀ j, r ≠ .brk j
/-- where bytes end too early a nought or a blank goes on -/
def Goes (f : List Int → Nat → Rs) : Prop := ∀ bs i, i ≤ bs.length → f bs i = .short → NoB (f (bs ++ [0]) i) ∨ NoB (f (bs ++ [32]) i)
theorem app_at {bs : List Int} {b x : Int} {i : Nat} (h : bs[i]? = some b) : (bs ++ [x])[i]? = some b := by
  rw [List.getElem?_append_left (get_lt h)]; exact h
theorem Goes.byte {gd : Int → Bool} {g : Int → List Int → Nat → Rs} (h0 : gd 0 = true ∨ gd 32 = true) (hl : ∀ b, gd b = true → Loc (g b)) (hg : ∀ b, gd b = true → Goes (g b)) : Goes fun bs i => byK bs i gd fun b => g b bs (i + 1) := by
  intro bs i hi h
  rcases byK_case h with ⟨q, _⟩ | ⟨b, q, ⟨_, e⟩ | ⟨hb, e⟩⟩
  · have hi2 : i = bs.length := by
      have := List.getElem?_eq_none_iff.mp q
      omega
    subst hi2
    have fin : ∀ x, gd x = true → NoB (byK (bs ++ [x]) bs.length gd fun b => g b (bs ++ [x]) (bs.length + 1)) := fun x hx j e => by
      have e1 : (bs ++ [x])[bs.length]? = some x := by rw [List.getElem?_append_right (Nat.le_refl _), Nat.sub_self]; rfl
      rw [byK_ok e1 hx] at e
      have a := (hl x hx).gb _ _ _ e
      have b := (hl x hx).lb _ _ _ e
      rw [List.length_append, List.length_singleton] at b
      omega
    exact h0.imp (fin 0) (fin 32)
  · cases e
  · have := get_lt q
    have z := hg b hb bs (i + 1) (by omega) e
    refine z.imp (fun z j e => ?_) (fun z j e => ?_)
    · have e : byK (bs ++ [0]) i gd (fun b => g b (bs ++ [0]) (i + 1)) = .brk j := e
      rw [byK_ok (app_at q) hb] at e
      exact z j e
    · have e : byK (bs ++ [32]) i gd (fun b => g b (bs ++ [32]) (i + 1)) = .brk j := e
      rw [byK_ok (app_at q) hb] at e
      exact z j e
theorem Goes.told (t : D) : Goes fun _ i => .told t i := fun bs i _ h => by cases h
theorem take_snoc {bs : List Int} {x : Int} : (bs ++ [x]).take bs.length = bs := by
  rw [List.take_append_of_le_length (Nat.le_refl _), List.take_length]
theorem Goes.bind {f : List Int → Nat → Rs} {g : D → List Int → Nat → Rs} (lf : Loc f) (hf : Goes f) (lg : ∀ t, Loc (g t)) (hg : ∀ t, Goes (g t)) : Goes fun bs i => (f bs i).andThen fun t j => g t bs j := by
  intro bs i hi h
  rcases andThen_short h with q | ⟨t, k, q, e⟩
  · have key : ∀ x, NoB (f (bs ++ [x]) i) → NoB ((f (bs ++ [x]) i).andThen fun t j => g t (bs ++ [x]) j) := fun x z j e => by
      cases q2 : f (bs ++ [x]) i with
      | short => rw [q2] at e; cases e
      | brk j2 => exact z _ q2
      | told t j2 =>
        rw [q2] at e
        have e : g t (bs ++ [x]) j2 = .brk j := e
        have a := (lg t).gb _ _ _ e
        have b := (lg t).lb _ _ _ e
        rw [List.length_append, List.length_singleton] at b
        have c : j2 ≤ bs.length := by omega
        have d := lf.at_ _ bs _ _ _ q2 fun n _ hn => by rw [List.getElem?_append_left (by omega)]
        rw [q] at d
        cases d
    exact (hf bs i hi q).imp (key 0) (key 32)
  · have hk : k ≤ bs.length := by
      rcases lf.le _ _ _ _ q with z | z
      · rw [z]; exact hi
      · exact z
    have hik := lf.ge _ _ _ _ q
    have key : ∀ x, NoB (g t (bs ++ [x]) k) → NoB ((f (bs ++ [x]) i).andThen fun t j => g t (bs ++ [x]) j) := fun x z j e => by
      have d := lf.at_ _ (bs ++ [x]) _ _ _ q fun n _ hn => by rw [List.getElem?_append_left (by omega)]
      rw [d] at e
      exact z j e
    exact (hg t bs k hk e).imp (key 0) (key 32)
theorem goes_nu {lo span : Int} (hs : 0 ≤ span) : ∀ (l : Nat) (f : Int), 0 ≤ f → f * 256 ^ l ≤ span → Goes fun bs i => rdNu lo span bs i l f
  | 0, f, _, _ => Goes.told _
  | l + 1, f, h0, h => by
    refine Goes.byte (g := fun b bs i => rdNu lo span bs i l (f * 256 + b)) (.inl ?_) (fun b _ => loc_nu lo span l _) fun b hb => ?_
    · rw [Bool.and_eq_true, inR_iff, decide_eq_true_eq]
      refine ⟨by decide, ?_⟩
      rw [Int.pow_succ, Int.mul_comm (256 ^ l) 256, ← Int.mul_assoc] at h
      rw [Int.add_zero]
      exact h
    · rw [Bool.and_eq_true, inR_iff, decide_eq_true_eq] at hb
      exact goes_nu hs l _ (by omega) hb.2
theorem goes_tx : ∀ (l : Nat) (acc : List Nat), Goes fun bs i => rdTx bs i l acc
  | 0, acc => Goes.told _
  | l + 1, acc => Goes.byte (g := fun b bs i => rdTx bs i l (acc ++ [b.toNat])) (.inr (by decide)) (fun b _ => loc_tx l _) fun b _ => goes_tx l _
theorem goes_it {f : List Int → Nat → Rs} (lf : Loc f) (h : Goes f) : ∀ (l : Nat) (acc : List D), Goes fun bs i => rdIt (f bs) i l acc
  | 0, acc => Goes.told _
  | l + 1, acc => Goes.bind (g := fun t bs j => rdIt (f bs) j l (acc ++ [t])) lf h (fun t => loc_it lf l _) fun t => goes_it lf h l _
mutual
theorem goes_rd : ∀ s : Sh, s.okb = true → Goes (rdB s)
  | .nothing, ok => Goes.told _
  | .number lo hi, ok => by
    have ok : (decide (-1000000000000000000 < lo) && (decide (lo ≤ hi) && decide (hi < 1000000000000000000))) = true := ok
    rw [Bool.and_eq_true, Bool.and_eq_true] at ok
    have b2 := of_decide_eq_true ok.2.1
    exact goes_nu (by omega) _ 0 (Int.le_refl 0) (by rw [Int.zero_mul]; omega)
  | .text m, ok => by
    have ok : (decide (0 ≤ m) && decide (m ≤ 250)) = true := ok
    rw [Bool.and_eq_true] at ok
    have b1 := of_decide_eq_true ok.1
    exact Goes.byte (g := fun b bs i => rdTx bs i b.toNat []) (.inl (inR_iff.mpr ⟨Int.le_refl 0, b1⟩)) (fun b _ => loc_tx _ _) fun b _ => goes_tx _ _
  | .list s m, ok => by
    have ok : ((decide (0 ≤ m) && decide (m ≤ 250)) && s.okb) = true := ok
    rw [Bool.and_eq_true, Bool.and_eq_true] at ok
    have b1 := of_decide_eq_true ok.1.1
    exact Goes.byte (g := fun b bs i => rdIt (fun j => rdB s bs j) i b.toNat []) (.inl (inR_iff.mpr ⟨Int.le_refl 0, b1⟩)) (fun b _ => loc_it (loc_rd s) _ _) fun b _ => goes_it (loc_rd s) (goes_rd s ok.2) _ _
  | .pair a b, ok => by
    have ok : (a.okb && b.okb) = true := ok
    rw [Bool.and_eq_true] at ok
    exact Goes.bind (g := fun x bs j => (rdB b bs j).andThen fun y k => .told (.tup [x, y]) k) (loc_rd a) (goes_rd a ok.1) (fun x => Loc.bind (g := fun y _ k => .told (.tup [x, y]) k) (loc_rd b) fun y => Loc.told _) fun x => Goes.bind (g := fun y _ k => .told (.tup [x, y]) k) (loc_rd b) (goes_rd b ok.2) (fun y => Loc.told _) fun y => Goes.told _
  | .choice ss, ok => by
    have ok : ((decide (1 ≤ ss.length) && decide (ss.length ≤ 9)) && Sh.okbs ss) = true := ok
    rw [Bool.and_eq_true, Bool.and_eq_true] at ok
    have b1 := of_decide_eq_true ok.1.1
    refine Goes.byte (g := fun b bs i => (rdBs ss b.toNat bs i).andThen fun x j => .told (.tup [.str "of", .int b, x]) j) (.inl (inR_iff.mpr ⟨Int.le_refl 0, by omega⟩)) (fun b _ => Loc.bind (f := fun bs i => rdBs ss b.toNat bs i) (g := fun x _ j => .told (.tup [.str "of", .int b, x]) j) (loc_rds ss _) fun x => Loc.told _) fun b hb => ?_
    rw [inR_iff] at hb
    exact Goes.bind (f := fun bs i => rdBs ss b.toNat bs i) (g := fun x _ j => .told (.tup [.str "of", .int b, x]) j) (loc_rds ss _) (goes_rds ss _ ok.2 (by omega)) (fun x => Loc.told _) fun x => Goes.told _
theorem goes_rds : ∀ (ss : List Sh) (n : Nat), Sh.okbs ss = true → n < ss.length → Goes fun bs i => rdBs ss n bs i
  | [], n, _, h => absurd h (Nat.not_lt_zero _)
  | s :: ss, 0, ok, _ => by
    unfold Sh.okbs at ok
    rw [Bool.and_eq_true] at ok
    exact goes_rd s ok.1
  | s :: ss, n + 1, ok, h => by
    unfold Sh.okbs at ok
    rw [Bool.and_eq_true] at ok
    exact goes_rds ss n ok.2 (by simpa using h)
end
end Wp

/-! PwGc: what fits a choice; plain. -/
namespace Wp
open PySem
theorem gc_get : ∀ (ss : List Sh) (n : Nat) (t : D), fitsN ss n t = match ss[n]? with
    | some s => fitsB s t
    | none => false
  | [], n, t => by rw [List.getElem?_nil]; unfold fitsN; rfl
  | s :: ss, 0, t => by rw [List.getElem?_cons_zero]; unfold fitsN; rfl
  | s :: ss, n + 1, t => by rw [List.getElem?_cons_succ]; unfold fitsN; exact gc_get ss n t
theorem gc_no {ss : List Sh} {ds : List D} (h : ∀ z i x, ds ≠ [.str z, .int i, x]) : fitsB (.choice ss) (.tup ds) = false := by
  unfold fitsB
  split
  · rename_i z i x e
    cases e
    exact absurd rfl (h z i x)
  · rfl
theorem fits_choice_in {ss : List Sh} {t : D} (h : fitsB (.choice ss) t = true) : ∃ (i : Int) (x : D) (s : Sh), t = .tup [.str "of", .int i, x] ∧ 0 ≤ i ∧ ss[i.toNat]? = some s ∧ fitsB s x = true := by
  cases t
  case tup ds =>
    by_cases q : ∃ z i x, ds = [.str z, .int i, x]
    · obtain ⟨z, i, x, rfl⟩ := q
      have h : (decide (z = "of") && (decide (0 ≤ i) && fitsN ss i.toNat x)) = true := h
      rw [Bool.and_eq_true, Bool.and_eq_true, gc_get] at h
      have hz := of_decide_eq_true h.1
      subst hz
      cases e : ss[i.toNat]? with
      | none => rw [e] at h; cases h.2.2
      | some s =>
        rw [e] at h
        exact ⟨i, x, s, rfl, of_decide_eq_true h.2.1, e, h.2.2⟩
    · rw [gc_no (fun z i x e => q ⟨z, i, x, e⟩)] at h
      cases h
  all_goals cases h
end Wp

/-! PwGt: what wires write, and talks read from them, plain. -/
namespace Wp
open PySem
def By (bs : List Int) : Prop := ∀ b ∈ bs, 0 ≤ b ∧ b ≤ 255
theorem By.at {bs : List Int} (h : By bs) {i : Nat} {b : Int} (q : bs[i]? = some b) : 0 ≤ b ∧ b ≤ 255 := h b (List.mem_of_getElem? q)
inductive MR where
  | msg (m : PMs) (t : Int) (j : Nat) (w : PW) | none | brk (j : Nat)
def ofRs (b : Bool) (w : PW) : Rs → MR
  | .told v j => .msg (b, w.1, v) w.2.2 j w
  | .short => .none
  | .brk j => .brk j
/-- the message at a place: its byte, then its value -/
def msgB (b : Bool) (ws : List PW) (bs : List Int) (i : Nat) : MR :=
  match bs[i]? with
  | none => .none
  | some x => match ws[x.toNat]? with
    | none => .brk i
    | some w => ofRs b w (rdB w.2.1 bs (i + 1))
abbrev brokS (b : Bool) (j : Nat) : Exn := ⟨4, [("side", .str (sdS b)), ("at", .int (j : Nat))]⟩
/-- a talk read so far: its wires are those read -/
structure TB (gs : List PG) (Ws : Bool → List Int) (ms : List PMs) (t : Int) (pl : Bool → Nat) : Prop where
  tk : PTk gs 0 ms t fun c => (Ws c).take (pl c)
  le : ∀ c, pl c ≤ (Ws c).length
  ok : ∀ m ∈ ms, PMOk m
/-- nothing more is told -/
def Stop (gs : List PG) (Ws : Bool → List Int) (t : Int) (pl : Bool → Nat) : Prop :=
  gs[t.toNat]? = some none ∨ ∃ b ws, gs[t.toNat]? = some (some (b, ws)) ∧ (pl b = (Ws b).length ∨ (pl b < (Ws b).length ∧ msgB b ws (Ws b) (pl b) = .none))
def setB (pl : Bool → Nat) (b : Bool) (j : Nat) : Bool → Nat := fun c => if b = c then j else pl c
theorem take_more {bs xs : List Int} {i j : Nat} (h : bs.drop i = xs ++ bs.drop j) (hj : j = i + xs.length) : bs.take j = bs.take i ++ xs := by
  have e : bs.take j = bs.take i ++ (bs.drop i).take (j - i) := by
    rw [hj, List.take_add, Nat.add_sub_cancel_left]
  rw [e, h, hj, Nat.add_sub_cancel_left, List.take_left]
/-- one message more -/
theorem TB.next {gs : List PG} (hg : GsOk gs) {Ws : Bool → List Int} (hb : ∀ c, By (Ws c)) {ms : List PMs} {t : Int} {pl : Bool → Nat} (h : TB gs Ws ms t pl) {b : Bool} {ws : List PW} (hs : gs[t.toNat]? = some (some (b, ws))) (hl : pl b < (Ws b).length) {m : PMs} {u : Int} {j : Nat} {w : PW} (hm : msgB b ws (Ws b) (pl b) = .msg m u j w) :
    TB gs Ws (ms ++ [m]) u (setB pl b j) ∧ pl b < j ∧ j ≤ (Ws b).length ∧ 0 ≤ u ∧ u < gs.length := by
  have hok := hg.ok _ (List.mem_of_getElem? hs)
  obtain ⟨h1, hW9⟩ := hok
  have h9 := hW9.l9
  have q : (Ws b)[pl b]? = some (Ws b)[pl b] := List.getElem?_eq_getElem hl
  obtain ⟨x0, x1⟩ := (hb b).at q
  unfold msgB at hm
  rw [q] at hm
  generalize (Ws b)[pl b] = x at q x0 x1 hm
  have hm : (match ws[x.toNat]? with | none => MR.brk (pl b) | some w => ofRs b w (rdB w.2.1 (Ws b) (pl b + 1))) = .msg m u j w := hm
  cases e : ws[x.toNat]? with
  | none => rw [e] at hm; cases hm
  | some w' =>
    rw [e] at hm
    have hm : ofRs b w' (rdB w'.2.1 (Ws b) (pl b + 1)) = .msg m u j w := hm
    have wok := hW9.at e
    cases hr : rdB w'.2.1 (Ws b) (pl b + 1) with
    | short => rw [hr] at hm; cases hm
    | brk j2 => rw [hr] at hm; cases hm
    | told v j2 =>
      rw [hr] at hm
      cases hm
      have R := rd_told _ _ _ _ _ wok.ok hr
      have hlen := R.len
      have hle : j ≤ (Ws b).length := by
        have := congrArg List.length R.b
        rw [List.length_drop, List.length_append, List.length_drop] at this
        omega
      have hdrop : (Ws b).drop (pl b) = (x :: bytesB w.2.1 v) ++ (Ws b).drop j := by
        rw [drop_at q, R.b]; rfl
      have htake := take_more hdrop (by rw [List.length_cons]; omega)
      have step : PStep gs t (b, w.1, v) w.2.2 (x :: bytesB w.2.1 v) := ⟨b, ws, x.toNat, w, hs, e, rfl, ⟨R.sm, R.fi⟩, rfl, by rw [show ((x.toNat : Nat) : Int) = x by omega]⟩
      refine ⟨⟨?_, fun c => ?_, all_app h.ok (all_cons ⟨wok.sm, R.sm⟩ all_nil)⟩, by omega, hle, wok.t0, wok.t1⟩
      · have := h.tk.snoc step
        have ef : (fun c => (Ws c).take (setB pl b j c)) = fun c => (Ws c).take (pl c) ++ sel b c (x :: bytesB w.2.1 v) := by
          funext c
          unfold setB sel
          by_cases hc : b = c
          · subst hc
            rw [if_pos rfl, if_pos rfl, htake]
          · rw [if_neg hc, if_neg hc, List.append_nil]
        rw [ef]
        exact this
      · unfold setB
        split
        · rename_i hc; rw [← hc]; exact hle
        · exact h.le c
end Wp
namespace Wp
open PySem
/-- one message is read -/
def RStep (gs : List PG) (Ws : Bool → List Int) (t : Int) (pl : Bool → Nat) (m : PMs) (u : Int) (pq : Bool → Nat) : Prop := ∃ (b : Bool) (ws : List PW) (j : Nat) (w : PW), gs[t.toNat]? = some (some (b, ws)) ∧ pl b < (Ws b).length ∧ msgB b ws (Ws b) (pl b) = .msg m u j w ∧ pq = setB pl b j
theorem RStep.det {gs : List PG} {Ws : Bool → List Int} {t : Int} {pl : Bool → Nat} {m m2 : PMs} {u u2 : Int} {pq pq2 : Bool → Nat} (h : RStep gs Ws t pl m u pq) (h2 : RStep gs Ws t pl m2 u2 pq2) : m = m2 ∧ u = u2 ∧ pq = pq2 := by
  obtain ⟨b, ws, j, w, e1, _, e3, rfl⟩ := h
  obtain ⟨b2, ws2, j2, w2, f1, _, f3, rfl⟩ := h2
  rw [e1] at f1
  cases f1
  rw [e3] at f3
  cases f3
  exact ⟨rfl, rfl, rfl⟩
theorem RStep.go {gs : List PG} {Ws : Bool → List Int} {t : Int} {pl : Bool → Nat} {m : PMs} {u : Int} {pq : Bool → Nat} (h : RStep gs Ws t pl m u pq) (hs : Stop gs Ws t pl) : False := by
  obtain ⟨b, ws, j, w, e1, e2, e3, -⟩ := h
  rcases hs with hs | ⟨b2, ws2, f1, f2 | ⟨_, f2⟩⟩
  · rw [e1] at hs; cases hs
  · rw [e1] at f1
    cases f1
    omega
  · rw [e1] at f1
    cases f1
    rw [e3] at f2
    cases f2
/-- messages are read, one behind the other -/
def RPath (gs : List PG) (Ws : Bool → List Int) : Int → (Bool → Nat) → List PMs → Int → (Bool → Nat) → Prop
  | t, pl, [], u, pq => u = t ∧ pq = pl
  | t, pl, m :: ms, u, pq => ∃ v pv, RStep gs Ws t pl m v pv ∧ RPath gs Ws v pv ms u pq
theorem RPath.begins {gs : List PG} {Ws : Bool → List Int} : ∀ {ms ms2 : List PMs} {t : Int} {pl : Bool → Nat} {u u2 : Int} {pq pq2 : Bool → Nat}, RPath gs Ws t pl ms u pq → RPath gs Ws t pl ms2 u2 pq2 → Stop gs Ws u pq → ∃ rest, ms = ms2 ++ rest ∧ RPath gs Ws u2 pq2 rest u pq
  | ms, [], t, pl, u, u2, pq, pq2, h, ⟨h2, h3⟩, hs => by
    subst h2 h3
    exact ⟨ms, rfl, h⟩
  | [], m2 :: ms2, t, pl, u, u2, pq, pq2, ⟨h1, h2⟩, ⟨v, pv, s2, _⟩, hs => by
    subst h1 h2
    exact (s2.go hs).elim
  | m :: ms, m2 :: ms2, t, pl, u, u2, pq, pq2, ⟨v, pv, s1, h⟩, ⟨v2, pv2, s2, h2⟩, hs => by
    obtain ⟨rfl, rfl, rfl⟩ := s1.det s2
    obtain ⟨rest, e, h3⟩ := RPath.begins h h2 hs
    exact ⟨rest, by rw [e]; rfl, h3⟩
/-- a talk's bytes, where they stand, are read as it -/
theorem path_of {gs : List PG} (hg : GsOk gs) {Ws : Bool → List Int} : ∀ {ms : List PMs} {t u : Int} {W : Bool → List Int} {pl pq : Bool → Nat}, PTk gs t ms u W → (∀ c, (Ws c).drop (pl c) = W c ++ (Ws c).drop (pq c)) → (∀ c, pq c = pl c + (W c).length) → RPath gs Ws t pl ms u pq
  | [], t, u, W, pl, pq, ⟨h1, h2⟩, hd, hl => by
    subst h1 h2
    exact ⟨rfl, by funext c; exact hl c⟩
  | m :: ms, t, u, W, pl, pq, ⟨v, x, W', hs, h, h2⟩, hd, hl => by
    subst h2
    obtain ⟨b, ws, j, w, e1, e2, e3, e4, rfl, rfl⟩ := hs
    have hb : m.1 = b := by rw [e3]
    have hok := hg.ok _ (List.mem_of_getElem? e1)
    have wok := hok.2.at e2
    have hd1 := hd b
    have hd2 : (Ws b).drop (pl b) = (((j : Int) :: bytesB w.2.1 m.2.2) ++ W' b) ++ (Ws b).drop (pq b) := by
      rw [hd1]
      show (sel m.1 b _ ++ W' b) ++ _ = _
      rw [hb]
      unfold sel
      rw [if_pos rfl]
    have hd3 : (Ws b).drop (pl b) = (j : Int) :: (bytesB w.2.1 m.2.2 ++ (W' b ++ (Ws b).drop (pq b))) := by
      rw [hd2, List.append_assoc]; rfl
    obtain ⟨q1, q2⟩ := drop_cons hd3
    have hrd := rd_good w.2.1 m.2.2 (Ws b) _ (pl b + 1) wok.ok e4.sm e4.fi q2
    have hmsg : msgB b ws (Ws b) (pl b) = .msg m w.2.2 (pl b + 1 + (bytesB w.2.1 m.2.2).length) w := by
      unfold msgB
      rw [q1]
      show (match ws[((j : Nat) : Int).toNat]? with | none => MR.brk (pl b) | some w => ofRs b w (rdB w.2.1 (Ws b) (pl b + 1))) = _
      rw [Int.toNat_natCast, e2]
      show ofRs b w (rdB w.2.1 (Ws b) (pl b + 1)) = _
      rw [hrd]
      show MR.msg (b, w.1, m.2.2) w.2.2 _ w = _
      rw [← e3]
    refine ⟨w.2.2, setB pl b (pl b + 1 + (bytesB w.2.1 m.2.2).length), ⟨b, ws, _, w, e1, get_lt q1, hmsg, rfl⟩, path_of hg h (fun c => ?_) fun c => ?_⟩
    · unfold setB
      by_cases hc : b = c
      · subst hc
        rw [if_pos rfl]
        exact drop_app q2
      · rw [if_neg hc, hd c]
        show (sel m.1 c _ ++ W' c) ++ _ = _
        rw [hb]
        unfold sel
        rw [if_neg hc]; rfl
    · have e := hl c
      have e' : pq c = pl c + (sel m.1 c ((j : Int) :: bytesB w.2.1 m.2.2) ++ W' c).length := e
      rw [e', hb]
      unfold setB sel
      by_cases hc : b = c
      · subst hc
        rw [if_pos rfl, if_pos rfl, List.length_append, List.length_cons]
        omega
      · rw [if_neg hc, if_neg hc]; rfl
theorem TB.path {gs : List PG} (hg : GsOk gs) {Ws : Bool → List Int} {ms : List PMs} {t : Int} {pl : Bool → Nat} (h : TB gs Ws ms t pl) : RPath gs Ws 0 (fun _ => 0) ms t pl :=
  path_of hg h.tk (fun c => by rw [List.drop_zero, List.take_append_drop]) fun c => by
    have := h.le c
    rw [List.length_take]
    omega
end Wp
namespace Wp
open PySem
theorem msg_up {b : Bool} {ws : List PW} {bs e : List Int} {i : Nat} (hi : i < bs.length) {m : PMs} {u : Int} {j : Nat} {w : PW} (h : msgB b ws bs i = .msg m u j w) : msgB b ws (bs ++ e) i = .msg m u j w := by
  have q : bs[i]? = some bs[i] := List.getElem?_eq_getElem hi
  have q2 : (bs ++ e)[i]? = some bs[i] := by rw [List.getElem?_append_left hi]; exact q
  unfold msgB at h ⊢
  rw [q] at h
  rw [q2]
  generalize bs[i] = x at h
  have h : (match ws[x.toNat]? with | none => MR.brk i | some w => ofRs b w (rdB w.2.1 bs (i + 1))) = .msg m u j w := h
  show (match ws[x.toNat]? with | none => MR.brk i | some w => ofRs b w (rdB w.2.1 (bs ++ e) (i + 1))) = _
  cases hw : ws[x.toNat]? with
  | none => rw [hw] at h; cases h
  | some w' =>
    rw [hw] at h
    have h : ofRs b w' (rdB w'.2.1 bs (i + 1)) = .msg m u j w := h
    show ofRs b w' (rdB w'.2.1 (bs ++ e) (i + 1)) = _
    cases hr : rdB w'.2.1 bs (i + 1) with
    | short => rw [hr] at h; cases h
    | brk j2 => rw [hr] at h; cases h
    | told v j2 =>
      have hle := (loc_rd w'.2.1).le _ _ _ _ hr
      rw [(loc_rd w'.2.1).at_ bs (bs ++ e) _ _ _ hr fun n h1 h2 => by rw [List.getElem?_append_left (by omega)], ← hr]
      exact h
theorem brk_up {b : Bool} {ws : List PW} {bs e : List Int} {i : Nat} (hi : i < bs.length) {j : Nat} (h : msgB b ws bs i = .brk j) : msgB b ws (bs ++ e) i = .brk j := by
  have q : bs[i]? = some bs[i] := List.getElem?_eq_getElem hi
  have q2 : (bs ++ e)[i]? = some bs[i] := by rw [List.getElem?_append_left hi]; exact q
  unfold msgB at h ⊢
  rw [q] at h
  rw [q2]
  generalize bs[i] = x at h
  have h : (match ws[x.toNat]? with | none => MR.brk i | some w => ofRs b w (rdB w.2.1 bs (i + 1))) = .brk j := h
  show (match ws[x.toNat]? with | none => MR.brk i | some w => ofRs b w (rdB w.2.1 (bs ++ e) (i + 1))) = _
  cases hw : ws[x.toNat]? with
  | none => rw [hw] at h; exact h
  | some w' =>
    rw [hw] at h
    have h : ofRs b w' (rdB w'.2.1 bs (i + 1)) = .brk j := h
    show ofRs b w' (rdB w'.2.1 (bs ++ e) (i + 1)) = _
    cases hr : rdB w'.2.1 bs (i + 1) with
    | short => rw [hr] at h; cases h
    | told v j2 => rw [hr] at h; cases h
    | brk j2 =>
      have hlt := (loc_rd w'.2.1).lb _ _ _ hr
      rw [(loc_rd w'.2.1).ab bs (bs ++ e) _ _ hr fun n h1 h2 => by rw [List.getElem?_append_left (by omega)], ← hr]
      exact h
theorem RStep.up {gs : List PG} {Ws e : Bool → List Int} {t : Int} {pl : Bool → Nat} {m : PMs} {u : Int} {pq : Bool → Nat} (h : RStep gs Ws t pl m u pq) : RStep gs (fun c => Ws c ++ e c) t pl m u pq := by
  obtain ⟨b, ws, j, w, e1, e2, e3, e4⟩ := h
  exact ⟨b, ws, j, w, e1, by show pl b < (Ws b ++ e b).length; rw [List.length_append]; omega, msg_up e2 e3, e4⟩
theorem RPath.up {gs : List PG} {Ws e : Bool → List Int} : ∀ {ms : List PMs} {t u : Int} {pl pq : Bool → Nat}, RPath gs Ws t pl ms u pq → RPath gs (fun c => Ws c ++ e c) t pl ms u pq
  | [], t, u, pl, pq, h => h
  | m :: ms, t, u, pl, pq, ⟨v, pv, h1, h2⟩ => ⟨v, pv, h1.up, RPath.up h2⟩
/-- the end of a talk's wires -/
theorem stop_all {gs : List PG} (hg : GsOk gs) {W : Bool → List Int} {t : Int} (h0 : 0 ≤ t) (h1 : t < gs.length) : Stop gs W t fun c => (W c).length := by
  obtain ⟨g, e, _, _⟩ := hg.at h0 h1
  cases g with
  | none => exact .inl e
  | some bw => exact .inr ⟨bw.1, bw.2, e, .inl rfl⟩
theorem path_all {gs : List PG} (hg : GsOk gs) {ms : List PMs} {t : Int} {W : Bool → List Int} (h : PTk gs 0 ms t W) : RPath gs W 0 (fun _ => 0) ms t fun c => (W c).length :=
  path_of hg h (fun c => by rw [List.drop_zero, List.drop_length, List.append_nil]) fun c => by omega
/-- where beginnings of a talk's wires are read, a beginning of it is told, and nothing is broken -/
theorem begin_of {gs : List PG} (hg : GsOk gs) {ms : List PMs} {t : Int} {Ws e : Bool → List Int} (h : PTk gs 0 ms t fun c => Ws c ++ e c) (h0 : 0 ≤ t) (h1 : t < gs.length) {ms' : List PMs} {t' : Int} {pl : Bool → Nat} (hT : TB gs Ws ms' t' pl) : (∃ rest, ms = ms' ++ rest) ∧ ∀ b ws j, gs[t'.toNat]? = some (some (b, ws)) → pl b < (Ws b).length → msgB b ws (Ws b) (pl b) = .brk j → False := by
  obtain ⟨rest, e1, e2⟩ := (path_all hg h).begins (hT.path hg).up (stop_all hg h0 h1)
  refine ⟨⟨rest, e1⟩, fun b ws j hs hl hm => ?_⟩
  cases rest with
  | nil =>
    obtain ⟨-, e3⟩ := e2
    have : (Ws b ++ e b).length = pl b := congrFun e3 b
    rw [List.length_append] at this
    omega
  | cons m rest =>
    obtain ⟨v, pv, ⟨b2, ws2, j2, w2, f1, f2, f3, _⟩, _⟩ := e2
    rw [hs] at f1
    cases f1
    have f3 : msgB b ws (Ws b ++ e b) (pl b) = .msg m v j2 w2 := f3
    rw [brk_up hl hm] at f3
    cases f3
end Wp
namespace Wp
open PySem
mutual
/-- nothing, whole numbers, texts, tuples and lists -/
def nbV : D → Bool
  | .non => true
  | .int _ => true
  | .str _ => true
  | .tup ds => nbVs ds
  | .lst ds => nbVs ds
  | _ => false
def nbVs : List D → Bool
  | [] => true
  | d :: ds => nbV d && nbVs ds
end
theorem nbVs_of : ∀ {ds : List D}, nbVs ds = true → ∀ d ∈ ds, nbV d = true
  | [], _, d, h => by cases h
  | x :: ds, h, d, hd => by
    unfold nbVs at h
    rw [Bool.and_eq_true] at h
    rcases List.mem_cons.mp hd with hd | hd
    · rw [hd]; exact h.1
    · exact nbVs_of h.2 d hd
theorem nbVs_to : ∀ {ds : List D}, (∀ d ∈ ds, nbV d = true) → nbVs ds = true
  | [], _ => by unfold nbVs; rfl
  | x :: ds, h => by
    unfold nbVs
    rw [h x (List.mem_cons_self ..), nbVs_to fun d hd => h d (List.mem_cons_of_mem _ hd)]; rfl
theorem nb_ls {ds : List D} (h : ∀ d ∈ ds, nbV d = true) : nbV (.lst ds) = true := by unfold nbV; exact nbVs_to h
theorem nb_tp {ds : List D} (h : ∀ d ∈ ds, nbV d = true) : nbV (.tup ds) = true := by unfold nbV; exact nbVs_to h
theorem By.app {a b : List Int} (ha : By a) (hb : By b) : By (a ++ b) := fun x hx => by
  rcases List.mem_append.mp hx with h | h
  · exact ha x h
  · exact hb x h
theorem By.cons {a : Int} {b : List Int} (h0 : 0 ≤ a) (h1 : a ≤ 255) (hb : By b) : By (a :: b) := fun x hx => by
  rcases List.mem_cons.mp hx with h | h
  · rw [h]; exact ⟨h0, h1⟩
  · exact hb x h
theorem By.nil : By [] := fun x hx => by cases hx
theorem By.flat {α : Type} {f : α → List Int} : ∀ {xs : List α}, (∀ x ∈ xs, By (f x)) → By (xs.map f).flatten
  | [], _ => By.nil
  | x :: xs, h => by
    rw [List.map_cons, List.flatten_cons]
    exact (h x (List.mem_cons_self ..)).app (By.flat fun y hy => h y (List.mem_cons_of_mem _ hy))
theorem By.take {a : List Int} (h : By a) (n : Nat) : By (a.take n) := fun x hx => h x (List.mem_of_mem_take hx)
theorem By.drop {a : List Int} (h : By a) (n : Nat) : By (a.drop n) := fun x hx => h x (List.mem_of_mem_drop hx)
theorem by_les : ∀ (w : Nat) (x : Int), By (les w x)
  | 0, x => By.nil
  | w + 1, x => by
    unfold les
    exact By.cons (Int.emod_nonneg _ (by decide)) (by have := Int.emod_lt_of_pos x (show (0 : Int) < 256 by decide); omega) (by_les w _)
abbrev NbAt (s : Sh) : Prop := ∀ v : D, s.okb = true → smV v = true → fitsB s v = true → nbV v = true ∧ By (bytesB s v)
mutual
theorem fit_nb : ∀ s : Sh, NbAt s
  | .nothing => fun v ok hs hf => by
    cases v
    case non => exact ⟨by unfold nbV; rfl, By.nil⟩
    all_goals cases hf
  | .number lo hi => fun v ok hs hf => by
    cases v
    case int n =>
      refine ⟨by unfold nbV; rfl, ?_⟩
      show By (les _ _).reverse
      exact fun x hx => by_les _ _ x (List.mem_reverse.mp hx)
    all_goals cases hf
  | .text m => fun v ok hs hf => by
    have ok : (decide (0 ≤ m) && decide (m ≤ 250)) = true := ok
    rw [Bool.and_eq_true] at ok
    have b2 := of_decide_eq_true ok.2
    cases v
    case str z =>
      have hf : (decide ((z.length : Int) ≤ m) && z.cps.toList.all okSign) = true := hf
      rw [Bool.and_eq_true] at hf
      have c1 := of_decide_eq_true hf.1
      refine ⟨by unfold nbV; rfl, ?_⟩
      show By ((z.length : Int) :: z.cps.toList.map fun (c : Nat) => (c : Int))
      refine By.cons (by omega) (by omega) fun x hx => ?_
      obtain ⟨c, hc, rfl⟩ := List.mem_map.mp hx
      have := List.all_eq_true.mp hf.2 c hc
      have := (inR_iff.mp (okSign_in this).1)
      omega
    all_goals cases hf
  | .list s m => fun v ok hs hf => by
    have ok : ((decide (0 ≤ m) && decide (m ≤ 250)) && s.okb) = true := ok
    rw [Bool.and_eq_true, Bool.and_eq_true] at ok
    have b2 := of_decide_eq_true ok.1.2
    cases v
    case lst ds =>
      obtain ⟨hdl, hds⟩ := smV_lstH hs
      have hf : (decide ((ds.length : Int) ≤ m) && ds.all (fitsB s)) = true := hf
      rw [Bool.and_eq_true] at hf
      have c1 := of_decide_eq_true hf.1
      have hfi := List.all_eq_true.mp hf.2
      refine ⟨nb_ls fun d hd => (fit_nb s d ok.2 (hds d hd) (hfi d hd)).1, ?_⟩
      show By ((ds.length : Int) :: (ds.map (bytesB s)).flatten)
      exact By.cons (by omega) (by omega) (By.flat fun d hd => (fit_nb s d ok.2 (hds d hd) (hfi d hd)).2)
    case scr => cases hs
    all_goals cases hf
  | .pair a b => fun v ok hs hf => by
    have ok : (a.okb && b.okb) = true := ok
    rw [Bool.and_eq_true] at ok
    cases v
    case tup ds =>
      match ds, hf, hs with
      | [x, y], hf, hs =>
        obtain ⟨hdl, hds⟩ := smV_tupH hs
        have hf : (fitsB a x && fitsB b y) = true := hf
        rw [Bool.and_eq_true] at hf
        have h1 := fit_nb a x ok.1 (hds x (by simp)) hf.1
        have h2 := fit_nb b y ok.2 (hds y (by simp)) hf.2
        exact ⟨nb_tp (all_cons h1.1 (all_cons h2.1 all_nil)), h1.2.app h2.2⟩
      | [], hf, hs => cases hf
      | [x], hf, hs => cases hf
      | x :: y :: z :: w, hf, hs => cases hf
    all_goals cases hf
  | .choice ss => fun v ok hs hf => by
    have ok : ((decide (1 ≤ ss.length) && decide (ss.length ≤ 9)) && Sh.okbs ss) = true := ok
    rw [Bool.and_eq_true, Bool.and_eq_true] at ok
    have b2 := of_decide_eq_true ok.1.2
    obtain ⟨i, x, s, rfl, i0, e, hx⟩ := fits_choice_in hf
    have hm := List.mem_of_getElem? e
    have hlt := (List.getElem?_eq_some_iff.mp e).1
    obtain ⟨hdl, hds⟩ := smV_tupH hs
    have h1 := fit_nbs ss s hm x (Sh.okbs_at ok.2 s hm) (hds x (by simp)) hx
    refine ⟨nb_tp (all_cons (by unfold nbV; rfl) (all_cons (by unfold nbV; rfl) (all_cons h1.1 all_nil))), ?_⟩
    show By (i :: bytesN ss i.toNat x)
    rw [bytesN_get ss _ x s e]
    exact By.cons i0 (by omega) h1.2
theorem fit_nbs : ∀ (ss : List Sh), ∀ s ∈ ss, NbAt s
  | [], s, h => by cases h
  | x :: ss, s, h => by
    rcases List.mem_cons.mp h with h | h
    · rw [h]; exact fit_nb x
    · exact fit_nbs ss s h
end
end Wp
namespace Wp
open PySem
/-- the wires of a talk are bytes -/
theorem tk_by {gs : List PG} (hg : GsOk gs) : ∀ {ms : List PMs} {s t : Int} {W : Bool → List Int}, PTk gs s ms t W → ∀ c, By (W c)
  | [], s, t, W, ⟨_, h⟩, c => by rw [h]; exact By.nil
  | m :: ms, s, t, W, ⟨u, x, W', h1, h2, h3⟩, c => by
    rw [h3]
    refine By.app ?_ (tk_by hg h2 c)
    obtain ⟨b, ws, j, w, e1, e2, e3, e4, rfl, rfl⟩ := h1
    have hok := (hg.ok _ (List.mem_of_getElem? e1)).2
    have h9 := hok.l9
    have wok := hok.at e2
    unfold sel
    split
    · exact By.cons (by omega) (by have := get_lt e2; omega) (fit_nb _ _ wok.ok e4.sm e4.fi).2
    · exact By.nil
end Wp

/-! PwGu: a talk is the one of its wires; parts of talks; plain. -/
namespace Wp
open PySem
/-- what is read of wires where nothing more can be read -/
theorem path_is {gs : List PG} (hg : GsOk gs) {Ws : Bool → List Int} {ms : List PMs} {t : Int} {pq : Bool → Nat} (h : RPath gs Ws 0 (fun _ => 0) ms t pq) (hs : Stop gs Ws t pq) {ms' : List PMs} {t' : Int} {pl : Bool → Nat} (hT : TB gs Ws ms' t' pl) (hS : Stop gs Ws t' pl) : ms' = ms ∧ t' = t ∧ pl = pq := by
  obtain ⟨rest, e1, e2⟩ := h.begins (hT.path hg) hs
  cases rest with
  | nil =>
    rw [List.append_nil] at e1
    exact ⟨e1.symm, e2.1.symm, e2.2.symm⟩
  | cons m rest =>
    obtain ⟨v, pv, s, _⟩ := e2
    exact (s.go hS).elim
/-- .. and nothing is broken -/
theorem path_whole {gs : List PG} (hg : GsOk gs) {Ws : Bool → List Int} {ms : List PMs} {t : Int} {pq : Bool → Nat} (h : RPath gs Ws 0 (fun _ => 0) ms t pq) (hs : Stop gs Ws t pq) {ms' : List PMs} {t' : Int} {pl : Bool → Nat} (hT : TB gs Ws ms' t' pl) {b : Bool} {ws : List PW} {j : Nat} (h1 : gs[t'.toNat]? = some (some (b, ws))) (h2 : pl b < (Ws b).length) (h3 : msgB b ws (Ws b) (pl b) = .brk j) : False := by
  obtain ⟨rest, e1, e2⟩ := h.begins (hT.path hg) hs
  cases rest with
  | nil =>
    obtain ⟨e3, e4⟩ := e2
    subst e3 e4
    rcases hs with hs | ⟨b2, ws2, f1, f2 | ⟨_, f2⟩⟩
    · rw [h1] at hs; cases hs
    · rw [h1] at f1; cases f1; omega
    · rw [h1] at f1; cases f1; rw [h3] at f2; cases f2
  | cons m rest =>
    obtain ⟨v, pv, ⟨b2, ws2, j2, w2, f1, f2, f3, _⟩, _⟩ := e2
    rw [h1] at f1
    cases f1
    rw [h3] at f3
    cases f3
theorem PTk.split {gs : List PG} : ∀ {a b : List PMs} {s t : Int} {W : Bool → List Int}, PTk gs s (a ++ b) t W → ∃ u Wa Wb, PTk gs s a u Wa ∧ PTk gs u b t Wb ∧ W = fun c => Wa c ++ Wb c
  | [], b, s, t, W, h => ⟨s, fun _ => [], W, ⟨rfl, rfl⟩, h, by funext c; rw [List.nil_append]⟩
  | m :: a, b, s, t, W, ⟨v, x, W', h1, h2, h3⟩ => by
    obtain ⟨u, Wa, Wb, e1, e2, e3⟩ := PTk.split (a := a) h2
    exact ⟨u, fun c => sel m.1 c x ++ Wa c, Wb, ⟨v, x, Wa, h1, e1, rfl⟩, e2, by rw [h3, e3]; funext c; rw [List.append_assoc]⟩
/-- the wire of a side without messages -/
theorem PTk.none_of {gs : List PG} {b : Bool} : ∀ {ms : List PMs} {s t : Int} {W : Bool → List Int}, PTk gs s ms t W → (∀ m ∈ ms, m.1 ≠ b) → W b = []
  | [], s, t, W, ⟨_, h⟩, _ => by rw [h]
  | m :: ms, s, t, W, ⟨v, x, W', h1, h2, h3⟩, hm => by
    rw [h3]
    show sel m.1 b x ++ W' b = []
    rw [h2.none_of fun y hy => hm y (List.mem_cons_of_mem _ hy)]
    unfold sel
    rw [if_neg (hm m (List.mem_cons_self ..))]; rfl
theorem PTk.bnd {gs : List PG} (hg : GsOk gs) : ∀ {ms : List PMs} {s t : Int} {W : Bool → List Int}, PTk gs s ms t W → 0 ≤ s → s < gs.length → 0 ≤ t ∧ t < gs.length
  | [], s, t, W, ⟨h, _⟩, h0, h1 => by rw [h]; exact ⟨h0, h1⟩
  | m :: ms, s, t, W, ⟨v, x, W', ⟨b, ws, j, w, e1, e2, e3, e4, e5, e6⟩, h2, h3⟩, h0, h1 => by
    have wok := (hg.ok _ (List.mem_of_getElem? e1)).2.at e2
    have a := wok.t0
    have b := wok.t1
    exact h2.bnd hg (by omega) (by omega)
theorem PStep.det {gs : List PG} (hg : GsOk gs) {s u u' : Int} {m : PMs} {x x' : List Int} (h : PStep gs s m u x) (h' : PStep gs s m u' x') : u = u' := by
  obtain ⟨b, ws, j, w, e1, e2, e3, e4, e5, e6⟩ := h
  obtain ⟨b', ws', j', w', f1, f2, f3, f4, f5, f6⟩ := h'
  rw [e1] at f1
  cases f1
  have hn : w.1 = w'.1 := by
    have a := congrArg (fun m : PMs => m.2.1) e3
    have b := congrArg (fun m : PMs => m.2.1) f3
    exact a.symm.trans b
  have := (hg.ok _ (List.mem_of_getElem? e1)).2.nd _ _ _ _ e2 f2 hn
  subst this
  rw [e2] at f2
  cases f2
  rw [e5, f5]
theorem PTk.det {gs : List PG} (hg : GsOk gs) : ∀ {ms : List PMs} {s t t' : Int} {W W' : Bool → List Int}, PTk gs s ms t W → PTk gs s ms t' W' → t = t'
  | [], s, t, t', W, W', ⟨h, _⟩, ⟨h', _⟩ => h.trans h'.symm
  | m :: ms, s, t, t', W, W', ⟨u, x, V, h1, h2, _⟩, ⟨u', x', V', h1', h2', _⟩ => by
    have := h1.det hg h1'
    subst this
    exact PTk.det hg h2 h2'
theorem PMOk_pl {m : PMs} (h : PMOk m) {s : Sh} (hf : VF s m.2.2) : plV (pmD m) = true ∧ dep (pmD m) ≤ s.dep + 1 := by
  have f := fit_pl s m.2.2 hf.sm hf.fi
  have e : plV (.str (sdS m.1)) = true := str_pl (sd_sm _)
  refine ⟨plV_tp (all_cons e (all_cons (str_pl h.1) (all_cons f.1 all_nil))), ?_⟩
  show max 0 (max 0 (max (dep m.2.2) 0)) + 1 ≤ _
  have := f.2
  omega
/-- a talk's messages are plain data -/
theorem tk_pl {gs : List PG} (hg : GsOk gs) : ∀ {ms : List PMs} {s t : Int} {W : Bool → List Int}, PTk gs s ms t W → ∀ m ∈ ms, plV (pmD m) = true ∧ dep (pmD m) ≤ 11
  | [], s, t, W, _, m, hm => by cases hm
  | m :: ms, s, t, W, ⟨v, x, W', ⟨b, ws, j, w, e1, e2, e3, e4, e5, e6⟩, h2, h3⟩, y, hy => by
    rcases List.mem_cons.mp hy with rfl | hy
    · have wok := (hg.ok _ (List.mem_of_getElem? e1)).2.at e2
      have a := wok.dp
      have p := PMOk_pl (m := y) ⟨by rw [e3]; exact wok.sm, e4.sm⟩ e4
      exact ⟨p.1, by omega⟩
    · exact tk_pl hg h2 y hy
theorem talk_pl {gs : List PG} (hg : GsOk gs) {ms : List PMs} {s t : Int} {W : Bool → List Int} (h : PTk gs s ms t W) : plV (.lst (ms.map pmD)) = true ∧ dep (.lst (ms.map pmD)) ≤ 12 := by
  have key : ∀ x ∈ ms.map pmD, plV x = true ∧ dep x ≤ 11 := fun x hx => by
    obtain ⟨m, hm, rfl⟩ := List.mem_map.mp hx
    exact tk_pl hg h m hm
  refine ⟨plV_ls fun x hx => (key x hx).1, ?_⟩
  show deps (ms.map pmD) + 1 ≤ 12
  have := deps_le (ds := ms.map pmD) (n := 11) fun x hx => (key x hx).2
  omega
theorem gram_pl {gs : List PG} (hg : GsOk gs) : plV (.lst (gs.map pgD)) = true ∧ dep (.lst (gs.map pgD)) ≤ 25 := by
  have key : ∀ x ∈ gs.map pgD, plV x = true ∧ dep x ≤ 24 := fun x hx => by
    obtain ⟨g, hg2, rfl⟩ := List.mem_map.mp hx
    exact pgD_pl (hg.ok g hg2)
  refine ⟨plV_ls fun x hx => (key x hx).1, ?_⟩
  show deps (gs.map pgD) + 1 ≤ 25
  have := deps_le (ds := gs.map pgD) (n := 24) fun x hx => (key x hx).2
  omega
theorem pl_ls2 {a b : D} {n : Nat} (ha : plV a = true ∧ dep a ≤ n) (hb : plV b = true ∧ dep b ≤ n) : plV (.lst [a, b]) = true ∧ dep (.lst [a, b]) ≤ n + 1 := by
  refine ⟨plV_ls (all_cons ha.1 (all_cons hb.1 all_nil)), ?_⟩
  show max (dep a) (max (dep b) 0) + 1 ≤ n + 1
  have := ha.2
  have := hb.2
  omega
theorem pl_intsD (w : List Int) : plV (.lst (intsD w)) = true ∧ dep (.lst (intsD w)) = 1 := pl_intsL (is_ints w)
theorem pl_two {a b : D} {n : Nat} (ha : plV a = true ∧ dep a ≤ n) (hb : plV b = true ∧ dep b ≤ n) : plV (.tup [a, b]) = true ∧ dep (.tup [a, b]) ≤ n + 1 := by
  refine ⟨plV_tp (all_cons ha.1 (all_cons hb.1 all_nil)), ?_⟩
  show max (dep a) (max (dep b) 0) + 1 ≤ n + 1
  have := ha.2
  have := hb.2
  omega
theorem pl_three {a b c : D} {n : Nat} (ha : plV a = true ∧ dep a ≤ n) (hb : plV b = true ∧ dep b ≤ n) (hc : plV c = true ∧ dep c ≤ n) : plV (.tup [a, b, c]) = true ∧ dep (.tup [a, b, c]) ≤ n + 1 := by
  refine ⟨plV_tp (all_cons ha.1 (all_cons hb.1 (all_cons hc.1 all_nil))), ?_⟩
  show max (dep a) (max (dep b) (max (dep c) 0)) + 1 ≤ n + 1
  have := ha.2
  have := hb.2
  have := hc.2
  omega
theorem pl_int (i : Int) (n : Nat) : plV (.int i) = true ∧ dep (.int i) ≤ n := ⟨by unfold plV; rfl, Nat.zero_le _⟩
theorem pl_wires (a b : List Int) : plV (.tup [.lst (intsD a), .lst (intsD b)]) = true ∧ dep (.tup [.lst (intsD a), .lst (intsD b)]) ≤ 2 :=
  pl_two ⟨(pl_intsD a).1, Nat.le_of_eq (pl_intsD a).2⟩ ⟨(pl_intsD b).1, Nat.le_of_eq (pl_intsD b).2⟩
/-- slices from the beginning, up to a place -/
theorem cut_upto {α : Type} (xs : List α) (i : Int) : ∃ n, cut xs none (some i) = xs.take n := ⟨slN xs.length xs.length (some i), rfl⟩
theorem cut_nat {α : Type} {xs : List α} {n : Nat} : cut xs none (some (n : Int)) = xs.take n := by
  show (xs.drop 0).take (slN xs.length xs.length (some (n : Int)) - slN xs.length 0 none) = _
  show xs.take ((if (n : Int) < 0 then ((n : Int) + xs.length).toNat else min ((n : Nat) : Int).toNat xs.length) - 0) = _
  rw [if_neg (by omega), Int.toNat_natCast, Nat.sub_zero]
  by_cases h : n ≤ xs.length
  · rw [Nat.min_eq_left h]
  · rw [Nat.min_eq_right (by omega), List.take_length, List.take_of_length_le (by omega)]
def hiN (n : Nat) (i : Int) : Nat := slN n n (some i)
theorem cut_hiN (w : List Int) (i : Int) : cut (intsD w) none (some i) = intsD (w.take (hiN w.length i)) := by
  show ((intsD w).drop 0).take (slN (intsD w).length (intsD w).length (some i) - 0) = _
  unfold intsD hiN
  rw [List.map_take, List.length_map]; rfl
theorem atI_last {xs : List Int} {t : Int} (h : xs.getLast? = some t) : atI (xs.map D.int) (-1) = some (.int t) := by
  have hl : 0 < xs.length := by
    cases xs with
    | nil => cases h
    | cons x xs => exact Nat.succ_pos _
  unfold atI ixN
  rw [if_neg (by decide), if_pos (by rw [List.length_map]; omega)]
  show (xs.map D.int)[((-1 : Int) + ((xs.map D.int).length : Nat)).toNat]? = _
  rw [List.length_map, show ((-1 : Int) + (xs.length : Nat)).toNat = xs.length - 1 by omega, List.getElem?_map, ← List.getLast?_eq_getElem?, h]; rfl
theorem cmpEq_nil {l : List D} {M : Mem} {Q : QK} (h : Q (.bl l.isEmpty) M) : cmpW .Eq (.lst l) (.lst []) M Q := eq_nil h
theorem cmpNe_nil {l : List D} {M : Mem} {Q : QK} (h : Q (.bl (!l.isEmpty)) M) : cmpW .NotEq (.lst l) (.lst []) M Q := ne_nil h
theorem cmpEq_locnil {a : Addr} {l : List D} {M : Mem} {Q : QK} (e : M a = some (.lst l)) (h : Q (.bl l.isEmpty) M) : cmpW .Eq (.loc a) (.lst []) M Q := eq_loc_nil e h
theorem cmpNe_locnil {a : Addr} {l : List D} {M : Mem} {Q : QK} (e : M a = some (.lst l)) (h : Q (.bl (!l.isEmpty)) M) : cmpW .NotEq (.loc a) (.lst []) M Q := ne_loc_nil e h
def two {α : Type} (a b : α) : Bool → α := fun c => match c with | true => a | false => b
theorem two_all {α : Type} {P : α → Prop} {a b : α} (ha : P a) (hb : P b) (c : Bool) : P (two a b c) := by
  cases c
  · exact hb
  · exact ha
theorem dget_at {M : Mem} {a : Addr} {kvs : List (Sum Int Str × D)} {y v : D} {k : Sum Int Str} {Q : QK} (hm : M a = some (.dic kvs)) (hk : keyD y = some k) (hl : lookD kvs k = some v) (q : Q v M) : dgetW (.loc a) y M Q := by
  unfold dgetW
  dsimp only
  rw [hm, hk]
  dsimp only
  rw [hl]
  exact q
theorem dput_at {M : Mem} {a : Addr} {kvs : List (Sum Int Str × D)} {y v : D} {k : Sum Int Str} {Q : Mem → Prop} (hm : M a = some (.dic kvs)) (hk : keyD y = some k) (hl : kvs.length < sizeLine) (q : Q (M.upd a (.dic (putD kvs k v)))) : dputW (.loc a) y v M Q := by
  unfold dputW
  dsimp only
  rw [hm, hk]
  exact ⟨hl, q⟩
theorem in_at {M : Mem} {a : Addr} {kvs : List (Sum Int Str × D)} {x : D} {k : Sum Int Str} {neg b : Bool} {Q : QK} (hm : M a = some (.dic kvs)) (hk : keyD x = some k) (hl : (lookD kvs k).isSome = b) (q : Q (.bl (if neg then !b else b)) M) : inW neg x (.loc a) M Q := by
  have e : dicAt M (.loc a) = some kvs := by
    show (match M a with | some (.dic kvs) => some kvs | some (.fdc kvs) => some kvs | _ => none) = _
    rw [hm]
  unfold inW
  rw [e, hk]
  show Q (.bl (if neg then !(lookD kvs k).isSome else (lookD kvs k).isSome)) M
  rw [hl]
  exact q
theorem cmpIn_at {M : Mem} {a : Addr} {kvs : List (Sum Int Str × D)} {x : D} {k : Sum Int Str} {b : Bool} {Q : QK} (hm : M a = some (.dic kvs)) (hk : keyD x = some k) (hl : (lookD kvs k).isSome = b) (q : Q (.bl b) M) : cmpW .In x (.loc a) M Q := in_at (neg := false) hm hk hl q
theorem cmpNotIn_at {M : Mem} {a : Addr} {kvs : List (Sum Int Str × D)} {x : D} {k : Sum Int Str} {b : Bool} {Q : QK} (hm : M a = some (.dic kvs)) (hk : keyD x = some k) (hl : (lookD kvs k).isSome = b) (q : Q (.bl (!b)) M) : cmpW .NotIn x (.loc a) M Q := in_at (neg := true) hm hk hl q
theorem toPyM_loc2 {M : Mem} {q1 q2 : Addr} {a b : List Int} (h1 : M q1 = some (.lst (intsD a))) (h2 : M q2 = some (.lst (intsD b))) : toPyM M (.tup [.loc q1, .loc q2]) = toPy (.tup [.lst (intsD a), .lst (intsD b)]) := by
  show (toPys1 M [.loc q1, .loc q2]).map PyData.tuple = (toPys [.lst (intsD a), .lst (intsD b)]).map PyData.tuple
  have e : ∀ {q : Addr} {w : List Int}, M q = some (.lst (intsD w)) → toPy1 M (.loc q) = toPy (.lst (intsD w)) := fun {q w} h => by
    show (match M q with
      | some (.lst ds) => (toPys ds).map PyData.list
      | _ => none) = _
    rw [h]
    rfl
  have e2 : toPys1 M [.loc q1, .loc q2] = toPys [.lst (intsD a), .lst (intsD b)] := by
    unfold toPys1 toPys1 toPys1 toPys toPys toPys
    rw [e h1, e h2]
  rw [e2]
theorem isi_lst {M : Mem} {a : Addr} {ds : List D} {t : Ty} (h : M a = some (.lst ds)) : isiB t (.loc a) M = some (decide (t = Ty.list_)) := by
  show (match M a with
    | some (.lst _) => some (decide (t = Ty.list_))
    | some (.dic _) => some (decide (t = Ty.dict_))
    | _ => none) = _
  rw [h]
theorem fm_none : ∀ ds : List D, ds.filterMap (fun _ => (none : Option D)) = []
  | [] => rfl
  | _ :: ds => fm_none ds
theorem cmpNe_self {v : D} {M : Mem} {Q : QK} (h : smV v = true) (hd : dep v ≤ 60) (q : Q (.bl false) M) : cmpW .NotEq v v M Q := eq_self (neg := true) h hd q
theorem cmpEq_self {v : D} {M : Mem} {Q : QK} (h : smV v = true) (hd : dep v ≤ 60) (q : Q (.bl true) M) : cmpW .Eq v v M Q := eq_self (neg := false) h hd q
theorem loc2_data {M : Mem} {q1 q2 : Addr} {a b : List Int} (h1 : M q1 = some (.lst (intsD a))) (h2 : M q2 = some (.lst (intsD b))) : ∃ p, toPyM M (.tup [.loc q1, .loc q2]) = some p ∧ toPyM M (.tup [.lst (intsD a), .lst (intsD b)]) = some p ∧ SeqAt.shaped p = true ∧ PyData.eqv p p = true := by
  have wpl := pl_wires a b
  obtain ⟨p, ep, _⟩ := toPy_pl wpl.1
  exact ⟨p, by rw [toPyM_loc2 h1 h2, ep], by rw [toPyM_pl wpl.1, ep], shaped_pl wpl.1 (Nat.le_trans wpl.2 (by decide)) ep, (eqv_pl wpl.1 wpl.1 ep ep).mpr rfl⟩
/-- a pair of lists in the memory set beside one of the same -/
theorem cmpNe_loc2 {M : Mem} {q1 q2 : Addr} {a b : List Int} {Q : QK} (h1 : M q1 = some (.lst (intsD a))) (h2 : M q2 = some (.lst (intsD b))) (q : Q (.bl false) M) : cmpW .NotEq (.tup [.loc q1, .loc q2]) (.tup [.lst (intsD a), .lst (intsD b)]) M Q := by
  have wpl := pl_wires a b
  obtain ⟨p, ep, _⟩ := toPy_pl wpl.1
  have sp := shaped_pl wpl.1 (Nat.le_trans wpl.2 (by decide)) ep
  have ev := (eqv_pl wpl.1 wpl.1 ep ep).mpr rfl
  show eqW true (.tup [.loc q1, .loc q2]) (.tup [.lst (intsD a), .lst (intsD b)]) M Q
  unfold eqW
  rw [show eqA (.tup [.loc q1, .loc q2]) (.tup [.lst (intsD a), .lst (intsD b)]) = none from rfl]
  dsimp only
  show eqL true (.tup [.loc q1, .loc q2]) (.tup [.lst (intsD a), .lst (intsD b)]) M Q
  unfold eqL
  rw [show asL M (.tup [.loc q1, .loc q2]) = none from rfl]
  dsimp only
  rw [show eqU (.tup [.loc q1, .loc q2]) (.tup [.lst (intsD a), .lst (intsD b)]) = false from rfl]
  dsimp only
  unfold eqP
  rw [toPyM_loc2 h1 h2, toPyM_pl wpl.1, ep]
  dsimp only
  rw [ev]
  exact ⟨sp, sp, q⟩
theorem ints_take (w : List Int) (n : Nat) : (intsD w).take n = intsD (w.take n) := by
  unfold intsD
  rw [List.map_take]
theorem cut_fromG {α : Type} (xs : List α) {i : Int} (h : 0 ≤ i) : cut xs (some i) none = xs.drop i.toNat := by
  unfold cut slN
  dsimp only
  rw [if_neg (by omega)]
  by_cases e : i.toNat ≤ xs.length
  · rw [Nat.min_eq_left e]
    exact List.take_of_length_le (by rw [List.length_drop]; omega)
  · rw [Nat.min_eq_right (by omega), List.drop_length, List.drop_of_length_le (by omega), List.take_nil]
theorem ints_fromN (w : List Int) (n : Nat) : cut (intsD w) (some (n : Int)) none = intsD (w.drop n) := by
  rw [cut_fromG _ (by omega), Int.toNat_natCast]
  unfold intsD
  rw [List.map_drop]
theorem ints_toN (w : List Int) (n : Nat) : cut (intsD w) none (some (n : Int)) = intsD (w.take n) := by rw [cut_nat, ints_take]
end Wp

/-! K41c: the law's rows. -/
namespace Wp
open PySem
def rwD (row : List Str) : D := .lst (row.map .str)
def dicV (kvs : KV) : List (Int × D) := kvs.map fun x => (x.1, rwD x.2)
def entD (x : Int × List Str) : D := .tup [.int x.1, rwD x.2]
theorem dicV_keys {kvs : KV} : (dicV kvs).map (·.1) = kvs.map (·.1) := by
  unfold dicV
  rw [List.map_map]; rfl
theorem dicV_app {a b : KV} : dicV (a ++ b) = dicV a ++ dicV b := List.map_append
theorem lookV_some {kvs : KV} {k : Int} (nd : (kvs.map (·.1)).Nodup) (h : k ∈ kvs.map (·.1)) : ∃ d, lookD (dI (dicV kvs)) (.inl k) = some d := by
  obtain ⟨i, hi⟩ := List.getElem?_of_mem h
  rw [List.getElem?_map] at hi
  obtain ⟨x, hx1, hx2⟩ := Option.map_eq_some_iff.mp hi
  refine ⟨rwD x.2, lookI_some (i := i) ?_ (by rw [dicV_keys]; exact nd)⟩
  unfold dicV
  rw [List.getElem?_map, hx1, ← hx2]; rfl
theorem r_words {g : PG} {M : Mem} (k : Nat) (hk : 1 ≤ k) : run tab k f_law_words [pgD g] M (fun v M' => v = .lst ((wsOf g).map pwD) ∧ M' = M) fun _ _ => False := by
  obtain ⟨k, rfl⟩ : ∃ j, k = j + 1 := ⟨k - 1, by omega⟩
  refine run_in rfl rfl ?_
  cases g with
  | none =>
    conv => whnf
    refine ⟨lok rfl, ?_⟩
    exact .done ⟨rfl, rfl⟩
  | some bw =>
    obtain ⟨b, ws⟩ := bw
    conv => whnf
    rw [show (if false = true then !decide (sdS b = Str.ofString "end") else decide (sdS b = Str.ofString "end")) = false by rw [ne_end]; rfl]
    exact .done ⟨rfl, rfl⟩
theorem seq_each_var {R : Nat → List D → Mem → QK → XQ → Prop} {tg : Tg} {i : Nat} {s t : Sx} {N : Ends} {env : Env} {M : Mem} {X : D} (e : slv env i = some X) (h : walkL X M fun w M1 => eachW (wpS R s) tg w.still { N with nx := wpS R t N } w.items env M1) : wpS R (.seq (.each tg (.itl (.var i)) s) t) N env M := by
  dsimp only [wpS, wpW, wpE]
  rw [e]
  exact h
set_option maxHeartbeats 0 in
theorem r_law_rows {gs : List PG} (hg : G41 gs) {M : Mem} (k : Nat) (hk : 2 ≤ k) : run tab k f_law_rows [.lst (gs.map pgD)] M (fun v M' => ∃ d p, v = .loc d ∧ (kvN gs p).length ≤ p ∧ M' d = some (.fdc (dI (dicV (kvN gs p)))) ∧ M d = none ∧ Ext M M') fun _ _ => False := by
  obtain ⟨k, rfl⟩ : ∃ j, k = j + 1 := ⟨k - 1, by omega⟩
  have h2000 : 2000 ≤ sizeLine := by decide
  have hok := kvN_ok hg.l1 hg.w
  have l30 := hg.l30
  refine run_in rfl rfl ?_
  conv => whnf
  refine ⟨by decide, fun d hd => ?_⟩
  conv => whnf
  refine ⟨lok rfl, ?_⟩
  conv => whnf
  refine ⟨Mem.upd_same, rfl, ?_⟩
  have hm : ((M.upd d (.dic [])).upd d (.dic (mergeD [] ([.inl 0].zip [.lst []])))) d = some (.dic (dI (dicV (kvN gs 0)))) := Mem.upd_same
  have he : Ext M ((M.upd d (.dic [])).upd d (.dic (mergeD [] ([.inl 0].zip [.lst []])))) := (Ext.new .refl hd).new hd
  show wpS _ _ _ _ ((M.upd d (.dic [])).upd d (.dic (mergeD [] ([.inl 0].zip [.lst []]))))
  generalize (M.upd d (.dic [])).upd d (.dic (mergeD [] ([.inl 0].zip [.lst []]))) = M1 at hm he
  conv => whnf
  refine ⟨lok rfl, ?_⟩
  conv => whnf
  refine ⟨lok rfl, ?_⟩
  conv => whnf
  refine ⟨lok rfl, ?_⟩
  conv => whnf
  refine ⟨gs.length + 1, loop_inv ?_ (fun j env M' => ∃ (p : Nat) (X : D) (e3 e4 e5 e6 e7 e8 : Option D), env = [some (.lst (gs.map pgD)), some (.loc d), some X, e3, e4, e5, e6, e7, e8] ∧ j = gs.length - p ∧ (X = .lst (((kvN gs p).drop p).map entD) ∨ ∃ r, X = .loc r ∧ r ≠ d ∧ M' r = some (.lst (((kvN gs p).drop p).map entD)) ∧ M r = none) ∧ M' d = some (.dic (dI (dicV (kvN gs p)))) ∧ Ext M M') ?_ _ gs.length _ _ ⟨0, _, _, _, _, _, _, _, rfl, rfl, .inl rfl, hm, he⟩ (by omega)⟩
  · intro e M q q' hq h
    exact (mon (run tab k) (run tab k) (mon_run tab k) _).E (fun x M1 h => truW_mono (fun b M h => hq b M h) h) (fun _ _ h => h) h
  rintro j env M3 ⟨p, X, e3, e4, e5, e6, e7, e8, rfl, rfl, hX, hm, he⟩
  have hkv := hok p
  have hlen := hkv.len
  have tst : ∀ Q : QK, Q (.bl (!(((kvN gs p).drop p).map entD).isEmpty)) M3 → cmpW .NotEq X (.lst []) M3 Q := fun Q q => by
    rcases hX with rfl | ⟨r, rfl, -, hr, -⟩
    · exact cmpNe_nil q
    · exact cmpNe_locnil hr q
  have wlk : ∀ (M4 : Mem), (∀ r, X = .loc r → M4 r = M3 r) → ∀ Q : Wk → Mem → Prop, (∀ st : Mem → Prop, (∀ M', (∀ r, X = .loc r → M' r = M3 r) → st M') → Q ⟨((kvN gs p).drop p).map entD, st⟩ M4) → walkL X M4 Q := fun M4 h4 Q q => by
    rcases hX with rfl | ⟨r, rfl, -, hr, -⟩
    · exact q _ fun _ _ => trivial
    · show (match asL M4 (.loc r) with | some ds => Q ⟨ds, stillAt (.loc r) ds⟩ M4 | none => False)
      rw [asL_loc (by rw [h4 r rfl]; exact hr)]
      exact q _ fun M' h => by
        show M' r = _
        rw [h r rfl]; exact hr
  conv => whnf
  refine ⟨lok rfl, ?_⟩
  refine tst _ ?_
  by_cases hl : p < (kvN gs p).length
  · rw [show (((kvN gs p).drop p).map entD).isEmpty = false by
      rw [List.drop_eq_getElem_cons hl]; rfl]
    conv => whnf
    refine ⟨gs.length - (kvN gs p).length, by omega, ?_⟩
    conv => whnf
    refine ⟨lok rfl, fun r hr => ?_⟩
    have nrd : d ≠ r := Mem.fresh_ne hm hr
    have hr0 := he.off hr
    have hX4 : ∀ a, X = .loc a → a ≠ r ∧ a ≠ d := fun a e => by
      rcases hX with rfl | ⟨r', rfl, h1, h2, -⟩
      · cases e
      · cases e
        exact ⟨Mem.fresh_ne h2 hr, h1⟩
    have hm4 : (M3.upd r (.lst [])) d = some (.dic (dI (dicV (kvN gs p)))) := by rw [Mem.upd_ne nrd]; exact hm
    have hr4 : (M3.upd r (.lst [])) r = some (.lst []) := Mem.upd_same
    have he4 := he.new (o := .lst []) hr0
    have hx4 : ∀ a, X = .loc a → (M3.upd r (.lst [])) a = M3 a := fun a e => Mem.upd_ne (hX4 a e).1
    generalize M3.upd r (.lst []) = M4 at hm4 hr4 he4 hx4
    dsimp only [tgW]
    refine seq_each_var (X := X) rfl (wlk M4 hx4 _ fun st hst => ?_)
    have pre : ∀ i, ∃ R, kvN gs (p + i) = kvN gs p ++ R := fun i => by
      induction i with
      | zero => exact ⟨[], (List.append_nil _).symm⟩
      | succ i ih =>
        obtain ⟨R, e⟩ := ih
        obtain ⟨R2, e2⟩ := kvN_pre (gs := gs) (p + i)
        exact ⟨R ++ R2, by rw [show p + (i + 1) = p + i + 1 from rfl, e2, e, List.append_assoc]⟩
    refine each_inv (fun rem env M' => ∃ (i : Nat) (e4 e5 e6 e7 e8 : Option D), env = [some (.lst (gs.map pgD)), some (.loc d), some X, some (.loc r), e4, e5, e6, e7, e8] ∧ p + i ≤ (kvN gs p).length ∧ rem = ((kvN gs p).drop (p + i)).map entD ∧ (∀ a, X = .loc a → M' a = M3 a) ∧ M' d = some (.dic (dI (dicV (kvN gs (p + i))))) ∧ M' r = some (.lst (((kvN gs (p + i)).drop (kvN gs p).length).map entD)) ∧ Ext M M') ?_ ?_ _ _ _ ⟨0, _, _, _, _, _, rfl, by omega, rfl, hx4, hm4, by rw [show p + 0 = p from rfl, List.drop_length]; exact hr4, he4⟩
    · rintro y rem env M5 ⟨i, e4, e5, e6, e7, e8, rfl, hi, hrem, hx5, hm5, hr5, he5⟩
      by_cases ei : p + i = (kvN gs p).length
      · rw [ei, List.drop_length] at hrem
        cases hrem
      have hpi : p + i < (kvN gs p).length := by omega
      rw [List.drop_eq_getElem_cons hpi, List.map_cons] at hrem
      injection hrem with r1 r2
      obtain ⟨R, hR⟩ := pre i
      obtain ⟨sr, hsr⟩ : ∃ sr, (kvN gs p)[p + i]? = some sr := ⟨_, List.getElem?_eq_getElem hpi⟩
      have hsr' := (List.getElem?_eq_some_iff.mp hsr).2
      rw [hsr'] at r1
      subst r1 r2
      obtain ⟨s, row⟩ := sr
      have hnx : (kvN gs (p + i))[p + i]? = some (s, row) := by rw [hR, List.getElem?_append_left hpi]; exact hsr
      have hkv := hok (p + i)
      have hlen := hkv.len
      have hrow : row.length ≤ p + i := kvN_row (p + i) _ (List.mem_of_getElem? hnx)
      have hs := hkv.rg s (List.mem_map.mpr ⟨_, List.mem_of_getElem? hnx, rfl⟩)
      obtain ⟨g, f1, f2, f3, f4⟩ := hg.at hs.1 hs.2
      have nxt : kvN gs (p + (i + 1)) = grow row (kvN gs (p + i)) (wsOf g) := by
        show (match (kvN gs (p + i))[p + i]? with | some (s, row) => grow row (kvN gs (p + i)) (wsAt gs s) | none => kvN gs (p + i)) = _
        rw [hnx, ← f4]
      have hws : ∀ w ∈ wsOf g, smV (.str w.1) = true ∧ w.2.1 = .nothing ∧ 0 ≤ w.2.2 ∧ w.2.2 < (gs.length : Int) := by
        cases g with
        | none => exact fun w hw => by cases hw
        | some bw => exact f3.2.2
      refine ⟨hst _ hx5, ?_⟩
      conv => whnf
      rw [f2]
      conv => whnf
      refine run_is (r_words k (by omega)) (Nat.le_refl _) ?_
      conv => whnf
      refine each_inv (fun rem env M' => ∃ (gone rest : List PW) (kvs : KV) (e6 e7 e8 : Option D), wsOf g = gone ++ rest ∧ rem = rest.map pwD ∧ env = [some (.lst (gs.map pgD)), some (.loc d), some X, some (.loc r), some (.int s), some (rwD row), e6, e7, e8] ∧ kvs = grow row (kvN gs (p + i)) gone ∧ (∀ a, X = .loc a → M' a = M3 a) ∧ M' d = some (.dic (dI (dicV kvs))) ∧ M' r = some (.lst ((kvs.drop (kvN gs p).length).map entD)) ∧ Ext M M') ?_ ?_ _ _ _ ⟨[], wsOf g, _, _, _, _, rfl, rfl, rfl, rfl, hx5, hm5, hr5, he5⟩
      · rintro y rem env M6 ⟨gone, rest, kvs, e6, e7, e8, g1, g2, rfl, hk1, hx6, hm6, hr6, he6⟩
        cases rest with
        | nil => cases g2
        | cons w rest =>
          rw [List.map_cons] at g2
          injection g2 with g2 g2'
          subst g2 g2'
          obtain ⟨wa, wb, wc, wd⟩ := hws w (by rw [g1]; exact List.mem_append_right _ (List.mem_cons_self ..))
          have hokR : KvOk gs.length kvs := by
            rw [hk1]
            exact hkv.grow fun x hx => (hws x (by rw [g1]; exact List.mem_append_left _ hx)).2.2
          have hlR := hokR.len
          have hqR : (kvN gs p).length ≤ kvs.length := by
            obtain ⟨R3, e3⟩ := grow_pre (row := row) (ws := gone) (kvs := kvN gs (p + i))
            rw [hk1, e3, hR, List.length_append, List.length_append]
            omega
          have snoc : ∀ kvs', kvs' = grow1 row kvs w → kvs' = grow row (kvN gs (p + i)) (gone ++ [w]) := fun kvs' e => by
            unfold grow
            rw [List.foldl_append, e, hk1]
            rfl
          refine ⟨trivial, ?_⟩
          conv => whnf
          rw [dicAt_loc41 hm6]
          conv => whnf
          by_cases ht : w.2.2 ∈ kvs.map (·.1)
          · obtain ⟨v9, hv9⟩ := lookV_some hokR.nd ht
            rw [hv9]
            conv => whnf
            refine ⟨gone ++ [w], rest, kvs, _, _, _, by rw [List.append_assoc]; exact g1, rfl, rfl, snoc kvs ?_, hx6, hm6, hr6, he6⟩
            unfold grow1
            rw [if_pos ht]
          · rw [lookI_none (by rw [dicV_keys]; exact ht)]
            conv => whnf
            refine ⟨lok rfl, ?_⟩
            conv => whnf
            have eb : row.map D.str ++ [D.str w.1] = (row ++ [w.1]).map D.str := by rw [List.map_append]; rfl
            rw [eb]
            refine ⟨by rw [List.length_map, List.length_append, List.length_singleton]; omega, ?_⟩
            conv => whnf
            rw [hm6]
            refine ⟨by unfold dI dicV; rw [List.length_map, List.length_map]; omega, ?_⟩
            rw [putI_new (by rw [dicV_keys]; exact ht)]
            obtain ⟨kvs', hk'⟩ : ∃ kvs', kvs' = kvs ++ [(w.2.2, row ++ [w.1])] := ⟨_, rfl⟩
            rw [show dicV kvs ++ [(w.2.2, D.lst ((row ++ [w.1]).map D.str))] = dicV kvs' by rw [hk', dicV_app]; rfl]
            have hr7 : (M6.upd d (.dic (dI (dicV kvs')))) r = some (.lst ((kvs.drop (kvN gs p).length).map entD)) := by rw [Mem.upd_ne (Ne.symm nrd)]; exact hr6
            have hm7 : (M6.upd d (.dic (dI (dicV kvs')))) d = some (.dic (dI (dicV kvs'))) := Mem.upd_same
            have he7 := he6.new (o := .dic (dI (dicV kvs'))) hd
            have hx7 : ∀ a, X = .loc a → (M6.upd d (.dic (dI (dicV kvs')))) a = M3 a := fun a e => by rw [Mem.upd_ne (hX4 a e).2]; exact hx6 a e
            show wpS _ _ _ _ (M6.upd d (.dic (dI (dicV kvs'))))
            generalize M6.upd d (.dic (dI (dicV kvs'))) = M7 at hr7 hm7 he7 hx7
            conv => whnf
            refine ⟨rcv_loc (by decide) hr7, ?_⟩
            conv => whnf
            refine ⟨lok rfl, ?_⟩
            conv => whnf
            rw [eb]
            refine ⟨by rw [List.length_map, List.length_append, List.length_singleton]; omega, ?_⟩
            refine ⟨lok rfl, ?_⟩
            conv => whnf
            rw [hr7]
            refine ⟨by rw [List.length_map, List.length_drop]; omega, ?_⟩
            refine ⟨gone ++ [w], rest, kvs', _, _, _, by rw [List.append_assoc]; exact g1, rfl, rfl, snoc kvs' ?_, fun a e => by rw [Mem.upd_ne (hX4 a e).1]; exact hx7 a e, by rw [Mem.upd_ne nrd]; exact hm7, ?_, he7.new hr0⟩
            · unfold grow1
              rw [if_neg ht, hk']
            · rw [Mem.upd_same, hk', List.drop_append_of_le_length hqR, List.map_append (f := entD)]
              rfl
      · rintro env M6 ⟨gone, rest, kvs, e6, e7, e8, g1, g2, rfl, hk1, hx6, hm6, hr6, he6⟩
        cases rest with
        | cons w rest => cases g2
        | nil =>
          rw [List.append_nil] at g1
          subst g1
          refine ⟨trivial, ?_⟩
          rw [hk1, ← nxt] at hm6 hr6
          conv => whnf
          exact ⟨i + 1, _, _, _, _, _, rfl, hpi, rfl, hx6, hm6, hr6, he6⟩
    · rintro env M5 ⟨i, e4, e5, e6, e7, e8, rfl, hi, hrem, hx5, hm5, hr5, he5⟩
      have ei : p + i = (kvN gs p).length := by
        have := congrArg List.length hrem
        rw [List.length_map, List.length_drop, List.length_nil] at this
        omega
      refine ⟨hst _ hx5, ?_⟩
      conv => whnf
      rw [ei] at hm5 hr5
      exact ⟨(kvN gs p).length, .loc r, _, _, _, _, _, _, rfl, rfl, .inr ⟨r, rfl, Ne.symm nrd, hr5, hr0⟩, hm5, he5⟩
  · rw [List.drop_eq_nil_of_le (by omega)]
    conv => whnf
    rw [hm]
    conv => whnf
    exact .done ⟨d, p, rfl, by omega, Mem.upd_same, hd, he.new hd⟩
end Wp

/-! K41d: the ending ones. -/
namespace Wp
open PySem
inductive Rch (gs : List PG) : Int → Prop
  | e {x : Int} : 0 ≤ x → gs[x.toNat]? = some none → Rch gs x
  | st {x : Int} {w : PW} : 0 ≤ x → w ∈ wsAt gs x → Rch gs w.2.2 → Rch gs x
theorem wsAt_lt {gs : List PG} {x : Int} {w : PW} (h : w ∈ wsAt gs x) : x < gs.length := by
  unfold wsAt at h
  cases q : gs[x.toNat]? with
  | none => rw [q] at h; cases h
  | some g => have := get_lt q; omega
theorem Rch.lt {gs : List PG} {x : Int} (h : Rch gs x) : 0 ≤ x ∧ x < gs.length := by
  cases h with
  | e h0 h1 => have := get_lt h1; exact ⟨h0, by omega⟩
  | st h0 h1 _ => exact ⟨h0, wsAt_lt h1⟩
/-- the ending ones, all of them -/
structure EndS (gs : List PG) (l : List Int) : Prop where
  nd : l.Nodup
  so : ∀ x ∈ l, 0 ≤ x ∧ x < (gs.length : Int) ∧ Rch gs x
  en : ∀ s : Nat, gs[s]? = some none → (s : Int) ∈ l
  cl : ∀ s : Nat, s < gs.length → (s : Int) ∈ l ∨ ∀ w ∈ wsAt gs s, w.2.2 ∉ l
theorem EndS.all {gs : List PG} {l : List Int} (h : EndS gs l) {x : Int} (r : Rch gs x) : x ∈ l := by
  induction r with
  | @e x h0 h1 =>
    have := h.en x.toNat h1
    rw [show ((x.toNat : Nat) : Int) = x by omega] at this
    exact this
  | @st x w h0 hw r ih =>
    have hl := wsAt_lt hw
    have := h.cl x.toNat (by omega)
    rw [show ((x.toNat : Nat) : Int) = x by omega] at this
    rcases this with h2 | h2
    · exact h2
    · exact absurd ih (h2 w hw)
theorem EndS.perm {gs : List PG} {a b : List Int} (ha : EndS gs a) (hb : EndS gs b) : a.Perm b :=
  nd_perm ha.nd hb.nd fun x => ⟨fun h => by have := ha.so x h; exact hb.all this.2.2, fun h => by have := hb.so x h; exact ha.all this.2.2⟩
theorem nexts_map : ∀ ws : List PW, (ws.map pwD).filterMap (fun d => match d with | .tup [_, _, t] => some t | _ => none) = ws.map fun w => D.int w.2.2
  | [] => rfl
  | w :: ws => by
    rw [List.map_cons, List.filterMap_cons, nexts_map ws]; rfl
theorem r_nexts {g : PG} {M : Mem} (hl : (wsOf g).length ≤ 3) (k : Nat) (hk : 1 ≤ k) : run tab k f_nexts_of [pgD g] M (fun v M' => v = .lst ((wsOf g).map fun w => .int w.2.2) ∧ M' = M) fun _ _ => False := by
  obtain ⟨k, rfl⟩ : ∃ j, k = j + 1 := ⟨k - 1, by omega⟩
  have h2000 : 2000 ≤ sizeLine := by decide
  refine run_in rfl rfl ?_
  cases g with
  | none =>
    conv => whnf
    refine ⟨lok rfl, ?_⟩
    exact .done ⟨rfl, rfl⟩
  | some bw =>
    obtain ⟨b, ws⟩ := bw
    have hl : ws.length ≤ 3 := hl
    conv => whnf
    rw [show (if false = true then !decide (sdS b = Str.ofString "end") else decide (sdS b = Str.ofString "end")) = false by rw [ne_end]; rfl]
    conv => whnf
    refine comp_is (fun d => match d with | .tup [_, _, t] => some t | _ => none) trivial _ _ (fun d hd P q => ?_) (by rw [List.length_map, List.length_nil]; omega) ?_
    · obtain ⟨w, hw, rfl⟩ := List.mem_map.mp hd
      exact q
    · rw [List.nil_append, nexts_map]
      refine newL_fz (by rw [List.length_map]; omega) ?_
      exact .done ⟨rfl, rfl⟩
theorem intsOf_map : ∀ ns : List Int, intsOf (ns.map D.int) = some ns
  | [] => rfl
  | n :: ns => by
    show (intsOf (ns.map D.int)).map (n :: ·) = _
    rw [intsOf_map ns]; rfl
theorem sq_ifX {R : Nat → List D → Mem → QK → XQ → Prop} {c : Ex} {s t u : Sx} {N : Ends} {env : Env} {M : Mem} (h : wpE R c env M (fun x M1 => truW x M1 fun b M2 => match b with
    | true => wpS R s { N with nx := wpS R u N } env M2
    | false => wpS R t { N with nx := wpS R u N } env M2) fun z M1 => N.ex z env M1) : wpS R (.seq (.ife c s t) u) N env M := h
theorem xv41 {R : Nat → List D → Mem → QK → XQ → Prop} {i : Nat} {d : D} {env : Env} {M : Mem} {Q : QK} {E : XQ} (e : slv env i = some d) (q : Q d M) : wpE R (.var i) env M Q E := by
  dsimp only [wpE]
  rw [e]
  exact q
theorem in_int {M : Mem} {f : Addr} {l : List Int} {x : Int} {neg : Bool} {Q : QK} (hm : M f = some (.lst (l.map .int))) (h1 : x ∈ l → Q (.bl (!neg)) M) (h2 : x ∉ l → Q (.bl neg) M) : inW neg (.int x) (.loc f) M Q := by
  refine inW_pl (ws := l.map .int) (by show asL M (.loc f) = _; exact asL_loc hm) (fun a b e => by cases e) (by unfold plV; rfl) (Nat.zero_le _) (fun w hw => by obtain ⟨i, _, rfl⟩ := List.mem_map.mp hw; unfold plV; rfl) ?_ (fun h => h1 ?_) (fun h => h2 fun h3 => h (List.mem_map.mpr ⟨x, h3, rfl⟩))
  · refine Nat.le_trans (deps_le (n := 0) fun d hd => ?_) (by decide)
    obtain ⟨i, _, rfl⟩ := List.mem_map.mp hd
    exact Nat.le_refl _
  · obtain ⟨i, hi, e⟩ := List.mem_map.mp h
    injection e with e
    rw [← e]; exact hi
def hitF (l : List Int) : D → Option D := fun d => match d with
  | .int t => if t ∈ l then some (.int t) else none
  | _ => none
theorem hit_nil {l : List Int} : ∀ {ws : List PW}, ((ws.map fun w => D.int w.2.2).filterMap (hitF l)).length ≤ ws.length ∧ (((ws.map fun w => D.int w.2.2).filterMap (hitF l)) = [] ↔ ∀ w ∈ ws, w.2.2 ∉ l)
  | [] => ⟨Nat.le_refl _, ⟨(fun _ w hw => by cases hw), fun _ => rfl⟩⟩
  | w :: ws => by
    obtain ⟨h1, h2⟩ := hit_nil (l := l) (ws := ws)
    rw [List.map_cons, List.filterMap_cons]
    by_cases h : w.2.2 ∈ l
    · rw [show hitF l (.int w.2.2) = some (.int w.2.2) from if_pos h]
      refine ⟨Nat.succ_le_succ h1, ⟨(fun e => by cases e), fun e => absurd h (e w (List.mem_cons_self ..))⟩⟩
    · rw [show hitF l (.int w.2.2) = none from if_neg h]
      refine ⟨Nat.le_succ_of_le h1, h2.trans ⟨fun e x hx => ?_, fun e x hx => e x (List.mem_cons_of_mem _ hx)⟩⟩
      rcases List.mem_cons.mp hx with rfl | hx
      · exact h
      · exact e x hx
set_option maxHeartbeats 0 in
theorem r_ending {gs : List PG} (hg : G41 gs) {M : Mem} (k : Nat) (hk : 2 ≤ k) : run tab k f_ending [.lst (gs.map pgD)] M (fun v M' => ∃ a l, v = .loc a ∧ M' a = some (.lst (l.map .int)) ∧ EndS gs l ∧ l.Pairwise (· ≤ ·) ∧ M a = none ∧ Ext M M') fun _ _ => False := by
  obtain ⟨k, rfl⟩ : ∃ j, k = j + 1 := ⟨k - 1, by omega⟩
  have h2000 : 2000 ≤ sizeLine := by decide
  have l1 := hg.l1
  have l30 := hg.l30
  have hGl : (gs.map pgD).length = gs.length := List.length_map ..
  refine run_in rfl rfl ?_
  conv => whnf
  rw [hGl]
  refine ⟨by unfold inB; omega, ?_⟩
  refine comp_inv (fun rem acc M' => ∃ (j : Nat) (l : List Int), j ≤ gs.length ∧ rem = rng (j : Int) (gs.length - j) ∧ acc = l.map .int ∧ l.length ≤ j ∧ l.Nodup ∧ (∀ x ∈ l, 0 ≤ x ∧ x < (j : Int) ∧ Rch gs x) ∧ (∀ s : Nat, s < j → gs[s]? = some none → (s : Int) ∈ l) ∧ M' = M) ?_ ?_ _ _ _ ⟨0, [], Nat.zero_le _, rfl, rfl, Nat.le_refl _, List.nodup_nil, all_nil, fun s h => absurd h (Nat.not_lt_zero _), rfl⟩
  · rintro d rem acc M1 ⟨j, l, hj, hrem, rfl, hl, nd, so, en, rfl⟩
    obtain ⟨hjw, rfl, rfl⟩ := rng_go hrem
    obtain ⟨g, f1, f2, f3, f4⟩ := hg.at (s := (j : Int)) (by omega) (by omega)
    rw [Int.toNat_natCast] at f1
    refine ⟨trivial, ?_⟩
    conv => whnf
    rw [f2]
    cases g with
    | none =>
      conv => whnf
      refine ⟨by rw [List.length_map]; omega, j + 1, l ++ [(j : Int)], hjw, rfl, by rw [List.map_append]; rfl, by rw [List.length_append, List.length_singleton]; omega, ?_, ?_, ?_, rfl⟩
      · rw [List.nodup_append]
        refine ⟨nd, List.nodup_cons.mpr ⟨by simp, List.nodup_nil⟩, fun a ha b hb => ?_⟩
        have hb : b = (j : Int) := by simpa using hb
        have := so a ha
        omega
      · refine all_app (fun x hx => ?_) (all_cons ⟨by omega, by omega, .e (by omega) (by rw [Int.toNat_natCast]; exact f1)⟩ all_nil)
        have := so x hx
        exact ⟨this.1, by omega, this.2.2⟩
      · intro s hs e
        by_cases q : s = j
        · rw [q]; exact List.mem_append_right _ (List.mem_cons_self ..)
        · exact List.mem_append_left _ (en s (by omega) e)
    | some bw =>
      obtain ⟨b, ws⟩ := bw
      conv => whnf
      rw [show (if false = true then !decide (sdS b = Str.ofString "end") else decide (sdS b = Str.ofString "end")) = false by rw [ne_end]; rfl]
      conv => whnf
      refine ⟨j + 1, l, hjw, rfl, rfl, by omega, nd, fun x hx => ?_, fun s hs e => ?_, rfl⟩
      · have := so x hx
        exact ⟨this.1, by omega, this.2.2⟩
      · by_cases q : s = j
        · rw [q, f1] at e; cases e
        · exact en s (by omega) e
  rintro acc M1 ⟨j, l, hj, hrem, rfl, hl, nd, so, en, rfl⟩
  have ej : j = gs.length := by
    have := congrArg List.length hrem
    unfold rng at this
    rw [List.length_map, List.length_range, List.length_nil] at this
    omega
  subst ej
  refine ⟨trivial, ?_⟩
  refine ⟨by rw [List.length_map]; omega, fun f hf => ?_⟩
  have hm : (M1.upd f (.lst (l.map .int))) f = some (.lst (l.map .int)) := Mem.upd_same
  have he : Ext M1 (M1.upd f (.lst (l.map .int))) := Ext.new .refl hf
  generalize M1.upd f (.lst (l.map .int)) = M2 at hm he
  conv => whnf
  refine ⟨gs.length + 2, loop_inv ?_ (fun j env M' => ∃ (l : List Int) (b : Bool) (e3 e4 : Option D), env = [some (.lst (gs.map pgD)), some (.loc f), some (.bl b), e3, e4] ∧ M' f = some (.lst (l.map .int)) ∧ l.Nodup ∧ (∀ x ∈ l, 0 ≤ x ∧ x < (gs.length : Int) ∧ Rch gs x) ∧ (∀ s : Nat, gs[s]? = some none → (s : Int) ∈ l) ∧ (b = true → gs.length + 1 ≤ j + l.length) ∧ (b = false → ∀ s : Nat, s < gs.length → (s : Int) ∈ l ∨ ∀ w ∈ wsAt gs s, w.2.2 ∉ l) ∧ Ext M1 M') ?_ _ (gs.length + 1) _ _ ⟨l, true, _, _, rfl, hm, nd, so, fun s e => en s (get_lt e) e, (fun _ => by omega), (fun e => by cases e), he⟩ (by omega)⟩
  · intro e M q q' hq h
    exact (mon (run tab k) (run tab k) (mon_run tab k) _).E (fun x M1 h => truW_mono (fun b M h => hq b M h) h) (fun _ _ h => h) h
  clear hm he nd so en l hl hrem
  rintro j env M3 ⟨l, b, e3, e4, rfl, hm, nd, so, en, hb1, hb2, he⟩
  have hlen : l.length ≤ gs.length := nd_len _ l nd fun x hx => ⟨(so x hx).1, (so x hx).2.1⟩
  cases b with
  | false =>
    conv => whnf
    rw [asL_loc hm]
    have gl := intsOf_map l
    conv => whnf
    rw [gl]
    conv => whnf
    intro ns' hp hs
    refine ⟨by rw [List.length_map, hp.length_eq]; omega, fun a ha => ?_⟩
    have hn0 := he.off ha
    refine .done ⟨a, ns', rfl, Mem.upd_same, ⟨hp.nodup_iff.mpr nd, fun x hx => so x (hp.mem_iff.mp hx), fun s e => hp.mem_iff.mpr (en s e), fun s hs => ?_⟩, hs, hn0, he.new hn0⟩
    rcases hb2 rfl s hs with h | h
    · exact .inl (hp.mem_iff.mpr h)
    · exact .inr fun w hw e => h w hw (hp.mem_iff.mp e)
  | true =>
    have := hb1 rfl
    conv => whnf
    refine ⟨j - 1, by omega, ?_⟩
    conv => whnf
    rw [hGl]
    refine ⟨by unfold inB; omega, ?_⟩
    refine each_inv (fun rem env M' => ∃ (i : Nat) (l' : List Int) (b : Bool) (e3 e4 : Option D), env = [some (.lst (gs.map pgD)), some (.loc f), some (.bl b), e3, e4] ∧ i ≤ gs.length ∧ rem = rng (i : Int) (gs.length - i) ∧ M' f = some (.lst (l'.map .int)) ∧ l'.Nodup ∧ (∀ x ∈ l', 0 ≤ x ∧ x < (gs.length : Int) ∧ Rch gs x) ∧ (∀ s : Nat, gs[s]? = some none → (s : Int) ∈ l') ∧ (b = true → l.length + 1 ≤ l'.length) ∧ (b = false → l' = l ∧ ∀ s : Nat, s < i → (s : Int) ∈ l ∨ ∀ w ∈ wsAt gs s, w.2.2 ∉ l) ∧ Ext M1 M') ?_ ?_ _ _ _ ⟨0, l, false, _, _, rfl, Nat.zero_le _, rfl, hm, nd, so, en, (fun e => by cases e), (fun _ => ⟨rfl, fun s h => absurd h (Nat.not_lt_zero _)⟩), he⟩
    · rintro y rem env M5 ⟨i, l', b, e3, e4, rfl, hi, hrem, hm, nd, so, en, hb1, hb2, he⟩
      obtain ⟨hil, rfl, rfl⟩ := rng_go hrem
      obtain ⟨g, f1, f2, f3, f4⟩ := hg.at (s := (i : Int)) (by omega) (by omega)
      have hlen' : l'.length ≤ gs.length := nd_len _ l' nd fun x hx => ⟨(so x hx).1, (so x hx).2.1⟩
      have w3 : (wsOf g).length ≤ 3 := by
        cases g with
        | none => exact Nat.zero_le _
        | some bw => exact f3.2.1
      refine ⟨trivial, ?_⟩
      show wpS _ _ _ _ _
      refine absN fun K hK => ?_
      refine sq_ifX ?_
      by_cases hin : (i : Int) ∈ l'
      · refine x_and_f (fun Q E q => x_cmp (fun Q E q => xv41 rfl q) (fun Q E q => xv41 rfl q) (fun Q q => in_int (neg := true) hm (fun _ => q) fun h => absurd hin h) q) ?_
        conv => whnf
        refine hK _ _ ⟨i + 1, l', b, _, _, rfl, hil, rfl, hm, nd, so, en, hb1, fun e => ?_, he⟩
        obtain ⟨h1, h2⟩ := hb2 e
        refine ⟨h1, fun s hs => ?_⟩
        by_cases q : s = i
        · exact .inl (by rw [q, ← h1]; exact hin)
        · exact h2 s (by omega)
      · refine x_and_t (fun Q E q => x_cmp (fun Q E q => xv41 rfl q) (fun Q E q => xv41 rfl q) (fun Q q => in_int (neg := true) hm (fun h => absurd h hin) fun _ => q) q) ?_
        conv => whnf
        rw [f2]
        conv => whnf
        refine run_is (r_nexts w3 k (by omega)) (Nat.le_refl _) ?_
        conv => whnf
        refine comp_is (hitF l') trivial _ _ (fun d hd P q => ?_) (by rw [List.length_map, List.length_nil]; omega) ?_
        · obtain ⟨w, hw, rfl⟩ := List.mem_map.mp hd
          show wpC (run tab k) _ _ M5 _ _
          refine c_part (x_cmp (bv := decide (w.2.2 ∈ l')) (fun Q E q => xv41 rfl q) (fun Q E q => xv41 rfl q) (fun Q q => in_int (neg := false) hm (fun h => by rw [decide_eq_true h] at q; exact q) fun h => by rw [decide_eq_false h] at q; exact q) ?_)
          have q : P (if w.2.2 ∈ l' then some (.int w.2.2) else none) M5 := q
          by_cases h : w.2.2 ∈ l'
          · rw [if_pos h] at q
            rw [decide_eq_true h]
            exact q
          · rw [if_neg h] at q
            rw [decide_eq_false h]
            exact q
        · rw [List.nil_append]
          have hh := hit_nil (l := l') (ws := wsOf g)
          show newL true (((wsOf g).map fun w => D.int w.2.2).filterMap (hitF l')) M5 _
          generalize ((wsOf g).map fun w => D.int w.2.2).filterMap (hitF l') = fl at hh
          refine ⟨by omega, ?_⟩
          cases fl with
          | nil =>
            conv => whnf
            refine hK _ _ ⟨i + 1, l', b, _, _, rfl, hil, rfl, hm, nd, so, en, hb1, fun e => ?_, he⟩
            obtain ⟨h1, h2⟩ := hb2 e
            refine ⟨h1, fun s hs => ?_⟩
            by_cases q : s = i
            · subst q
              rw [f4, ← h1]
              exact .inr (hh.2.mp rfl)
            · exact h2 s (by omega)
          | cons x fl =>
            have hex : ∃ w ∈ wsOf g, w.2.2 ∈ l' := by
              refine Classical.byContradiction fun h => ?_
              have := hh.2.mpr fun w hw hl => h ⟨w, hw, hl⟩
              cases this
            obtain ⟨w, hw, hwl⟩ := hex
            conv => whnf
            refine ⟨rcv_loc (by decide) hm, ?_⟩
            conv => whnf
            rw [hm]
            refine ⟨by rw [List.length_map]; omega, ?_⟩
            conv => whnf
            refine hK _ _ ⟨i + 1, l' ++ [(i : Int)], true, _, _, rfl, hil, rfl, by rw [Mem.upd_same, List.map_append]; rfl, ?_, ?_, fun s e => List.mem_append_left _ (en s e), fun _ => ?_, (fun e => by cases e), he.new hf⟩
            · rw [List.nodup_append]
              refine ⟨nd, List.nodup_cons.mpr ⟨by simp, List.nodup_nil⟩, fun a ha c hc => ?_⟩
              have hc : c = (i : Int) := by simpa using hc
              exact fun e => hin (by rw [← hc, ← e]; exact ha)
            · exact all_app so (all_cons ⟨by omega, by omega, .st (by omega) (by rw [f4]; exact hw) (so _ hwl).2.2⟩ all_nil)
            · rw [List.length_append, List.length_singleton]
              cases b with
              | true => have := hb1 rfl; omega
              | false => rw [(hb2 rfl).1]; omega
    · rintro env M5 ⟨i, l', b, e3, e4, rfl, hi, hrem, hm, nd, so, en, hb1, hb2, he⟩
      have ei : i = gs.length := by
        have := congrArg List.length hrem
        unfold rng at this
        rw [List.length_map, List.length_range, List.length_nil] at this
        omega
      subst ei
      refine ⟨trivial, ?_⟩
      conv => whnf
      refine ⟨l', b, _, _, rfl, hm, nd, so, en, fun e => ?_, fun e s hs => ?_, he⟩
      · have := hb1 e
        omega
      · obtain ⟨h1, h2⟩ := hb2 e
        rw [h1]
        exact h2 s hs
end Wp

/-! K41e: the law's ending ones. -/
namespace Wp
open PySem
def cntT : List Bool → Nat
  | [] => 0
  | b :: bl => (if b then 1 else 0) + cntT bl
def leB (a b : List Bool) : Prop := a.length = b.length ∧ ∀ s : Nat, a[s]? = some true → b[s]? = some true
theorem leB.refl {a : List Bool} : leB a a := ⟨rfl, fun _ h => h⟩
theorem leB.trans {a b c : List Bool} (h : leB a b) (h2 : leB b c) : leB a c := ⟨h.1.trans h2.1, fun s e => h2.2 s (h.2 s e)⟩
theorem leB.eq_or : ∀ {a b : List Bool}, leB a b → a = b ∨ cntT a + 1 ≤ cntT b
  | [], [], _ => .inl rfl
  | [], _ :: _, h => by cases h.1
  | _ :: _, [], h => by cases h.1
  | x :: a, y :: b, h => by
    have ih := leB.eq_or (a := a) (b := b) ⟨Nat.succ.inj h.1, fun s e => h.2 (s + 1) e⟩
    have le : cntT a ≤ cntT b := by
      rcases ih with e | e
      · rw [e]; exact Nat.le_refl _
      · omega
    cases x with
    | true =>
      have e : some y = some true := h.2 0 rfl
      cases e
      rcases ih with e | e
      · exact .inl (by rw [e])
      · exact .inr (by show 1 + cntT a + 1 ≤ 1 + cntT b; omega)
    | false =>
      cases y with
      | false =>
        rcases ih with e | e
        · exact .inl (by rw [e])
        · exact .inr (by show 0 + cntT a + 1 ≤ 0 + cntT b; omega)
      | true => exact .inr (by show 0 + cntT a + 1 ≤ 1 + cntT b; omega)
theorem leB.anti {a b : List Bool} (h : leB a b) (h2 : leB b a) : a = b := by
  rcases h.eq_or with e | e
  · exact e
  · rcases h2.eq_or with e2 | e2
    · exact e2.symm
    · omega
theorem cntT_all : ∀ {a : List Bool}, a.length ≤ cntT a → ∀ s : Nat, s < a.length → a[s]? = some true
  | [], _, s, h => absurd h (Nat.not_lt_zero _)
  | x :: a, h, s, hs => by
    have le : ∀ b : List Bool, cntT b ≤ b.length := fun b => by
      induction b with
      | nil => exact Nat.le_refl _
      | cons y b ih =>
        show (if y then 1 else 0) + cntT b ≤ b.length + 1
        split <;> omega
    have := le a
    have h : a.length + 1 ≤ (if x then 1 else 0) + cntT a := h
    cases x with
    | false => have h : a.length + 1 ≤ 0 + cntT a := h; omega
    | true =>
      have h : a.length + 1 ≤ 1 + cntT a := h
      cases s with
      | zero => rfl
      | succ s => exact cntT_all (a := a) (by omega) s (by rw [List.length_cons] at hs; omega)
structure TrB (gs : List PG) (bl : List Bool) : Prop where
  ln : bl.length = gs.length
  so : ∀ s : Nat, bl[s]? = some true → Rch gs s
  en : ∀ s : Nat, gs[s]? = some none → bl[s]? = some true
def ClB (gs : List PG) (bl : List Bool) : Prop := ∀ s : Nat, s < gs.length → bl[s]? = some true ∨ ∀ w ∈ wsAt gs s, bl[w.2.2.toNat]? = some false
theorem ClB.all {gs : List PG} {bl : List Bool} (hB : TrB gs bl) (hc : ClB gs bl) {x : Int} (r : Rch gs x) : bl[x.toNat]? = some true := by
  induction r with
  | @e x h0 h1 => exact hB.en x.toNat h1
  | @st x w h0 hw r ih =>
    have hl := wsAt_lt hw
    rcases hc x.toNat (by omega) with h | h
    · exact h
    · have := h w (by rw [show ((x.toNat : Nat) : Int) = x by omega]; exact hw)
      rw [ih] at this
      cases this
theorem ClB.le {gs : List PG} {bl cur : List Bool} (hB : TrB gs bl) (hc : ClB gs bl) (h2 : TrB gs cur) : leB cur bl :=
  ⟨by rw [hB.ln, h2.ln], fun s e => by
    have := hc.all hB (h2.so s e)
    rw [Int.toNat_natCast] at this
    exact this⟩
/-- one set -/
theorem TrB.set {gs : List PG} {bl : List Bool} {s : Nat} {x : Bool} (h : TrB gs bl) (hx : x = true → Rch gs s) (hx2 : bl[s]? = some true → x = true) : TrB gs (bl.set s x) ∧ leB bl (bl.set s x) := by
  have le : leB bl (bl.set s x) := by
    refine ⟨by rw [List.length_set], fun t e => ?_⟩
    rw [List.getElem?_set]
    split
    · rename_i q
      subst q
      rw [if_pos (get_lt e), hx2 e]
    · exact e
  refine ⟨⟨by rw [List.length_set]; exact h.ln, fun t e => ?_, fun t e => le.2 t (h.en t e)⟩, le⟩
  rw [List.getElem?_set] at e
  split at e
  · rename_i q
    subst q
    split at e
    · injection e with e
      exact hx e
    · cases e
  · exact h.so t e
theorem bl_at {bl : List Bool} {t : Int} (t0 : 0 ≤ t) (t1 : t < bl.length) : ∃ b, bl[t.toNat]? = some b ∧ atI (bl.map D.bl) t = some (.bl b) := by
  have hk : t.toNat < bl.length := by omega
  obtain ⟨b, e⟩ : ∃ b, bl[t.toNat]? = some b := ⟨_, List.getElem?_eq_getElem hk⟩
  refine ⟨b, e, ?_⟩
  obtain ⟨m, rfl⟩ : ∃ m : Nat, t = (m : Int) := ⟨t.toNat, by omega⟩
  refine atI_ofN ?_
  rw [Int.toNat_natCast] at e
  rw [List.getElem?_map, e]; rfl
set_option maxHeartbeats 0 in
theorem r_law_ending {gs : List PG} (hg : G41 gs) {M : Mem} (k : Nat) (hk : 2 ≤ k) : run tab k f_law_ending [.lst (gs.map pgD)] M (fun v M' => ∃ l, v = .lst (l.map .int) ∧ EndS gs l ∧ l.Pairwise (· ≤ ·) ∧ Ext M M') fun _ _ => False := by
  obtain ⟨k, rfl⟩ : ∃ j, k = j + 1 := ⟨k - 1, by omega⟩
  have h2000 : 2000 ≤ sizeLine := by decide
  have l1 := hg.l1
  have l30 := hg.l30
  have hGl : (gs.map pgD).length = gs.length := List.length_map ..
  refine run_in rfl rfl ?_
  conv => whnf
  refine comp_inv (fun rem acc M' => ∃ (j : Nat) (bl : List Bool), j ≤ gs.length ∧ rem = (gs.drop j).map pgD ∧ acc = bl.map .bl ∧ bl.length = j ∧ (∀ s : Nat, bl[s]? = some true → gs[s]? = some none) ∧ (∀ s : Nat, s < j → gs[s]? = some none → bl[s]? = some true) ∧ M' = M) ?_ ?_ _ _ _ ⟨0, [], Nat.zero_le _, rfl, rfl, rfl, (fun s e => by cases e), (fun s h => absurd h (Nat.not_lt_zero _)), rfl⟩
  · rintro d rem acc M1 ⟨j, bl, hj, hrem, rfl, hl, so, en, rfl⟩
    by_cases ej : j = gs.length
    · rw [ej, List.drop_length] at hrem
      cases hrem
    have hjw : j < gs.length := by omega
    obtain ⟨g, hgj⟩ : ∃ g, gs[j]? = some g := ⟨_, List.getElem?_eq_getElem hjw⟩
    have hgj' := (List.getElem?_eq_some_iff.mp hgj).2
    rw [List.drop_eq_getElem_cons hjw, List.map_cons, hgj'] at hrem
    injection hrem with r1 r2
    subst r1 r2
    have add : ∀ b : Bool, (b = true ↔ g = none) → (∀ s : Nat, (bl ++ [b])[s]? = some true → gs[s]? = some none) ∧ (∀ s : Nat, s < j + 1 → gs[s]? = some none → (bl ++ [b])[s]? = some true) := fun b hb => by
      refine ⟨fun s e => ?_, fun s hs e => ?_⟩
      · by_cases q : s < bl.length
        · rw [List.getElem?_append_left q] at e
          exact so s e
        · have hs := get_lt e
          rw [List.length_append, List.length_singleton] at hs
          have : s = j := by omega
          subst this
          rw [List.getElem?_append_right (by omega), show s - bl.length = 0 by omega] at e
          injection e with e
          rw [hgj, hb.mp e]
      · by_cases q : s < j
        · rw [List.getElem?_append_left (by omega)]
          exact en s q e
        · have : s = j := by omega
          subst this
          rw [hgj] at e
          injection e with e
          rw [List.getElem?_append_right (by omega), show s - bl.length = 0 by omega, hb.mpr e]; rfl
    refine ⟨trivial, ?_⟩
    cases g with
    | none =>
      conv => whnf
      obtain ⟨a1, a2⟩ := add true ⟨fun _ => rfl, fun _ => rfl⟩
      exact ⟨by rw [List.length_map]; omega, j + 1, bl ++ [true], hjw, rfl, by rw [List.map_append]; rfl, by rw [List.length_append, hl]; rfl, a1, a2, rfl⟩
    | some bw =>
      obtain ⟨b, ws⟩ := bw
      conv => whnf
      rw [show (if false = true then !decide (sdS b = Str.ofString "end") else decide (sdS b = Str.ofString "end")) = false by rw [ne_end]; rfl]
      obtain ⟨a1, a2⟩ := add false ⟨(fun e => by cases e), (fun e => by cases e)⟩
      exact ⟨by rw [List.length_map]; omega, j + 1, bl ++ [false], hjw, rfl, by rw [List.map_append]; rfl, by rw [List.length_append, hl]; rfl, a1, a2, rfl⟩
  rintro acc M1 ⟨j, bl, hj, hrem, rfl, hl, so, en, rfl⟩
  have ej : j = gs.length := by
    have := congrArg List.length hrem
    rw [List.length_map, List.length_drop, List.length_nil] at this
    omega
  subst ej
  have hB : TrB gs bl := ⟨hl, fun s e => .e (by omega) (by rw [Int.toNat_natCast]; exact so s e), fun s e => en s (get_lt e) e⟩
  refine ⟨trivial, ?_⟩
  refine ⟨by rw [List.length_map]; omega, fun f hf => ?_⟩
  have hm : (M1.upd f (.lst (bl.map .bl))) f = some (.lst (bl.map .bl)) := Mem.upd_same
  have he : Ext M1 (M1.upd f (.lst (bl.map .bl))) := Ext.new .refl hf
  generalize M1.upd f (.lst (bl.map .bl)) = M2 at hm he
  conv => whnf
  rw [hGl]
  refine ⟨by unfold inB; omega, ?_⟩
  refine each_inv (fun rem env M' => ∃ (p : Nat) (bl : List Bool) (e2 e3 e4 e5 e6 e7 : Option D), env = [some (.lst (gs.map pgD)), some (.loc f), e2, e3, e4, e5, e6, e7] ∧ p ≤ gs.length ∧ rem = rng (p : Int) (gs.length - p) ∧ M' f = some (.lst (bl.map .bl)) ∧ TrB gs bl ∧ (p ≤ cntT bl ∨ ClB gs bl) ∧ Ext M1 M') ?_ ?_ _ _ _ ⟨0, bl, _, _, _, _, _, _, rfl, Nat.zero_le _, rfl, hm, hB, .inl (Nat.zero_le _), he⟩
  · clear hm he hB so en hl hrem bl
    rintro y rem env M3 ⟨p, bl, e2, e3, e4, e5, e6, e7, rfl, hp, hrem, hm, hB, hc, he⟩
    obtain ⟨hpl, rfl, rfl⟩ := rng_go hrem
    refine ⟨trivial, ?_⟩
    conv => whnf
    rw [hGl]
    refine ⟨by unfold inB; omega, ?_⟩
    refine each_inv (fun rem env M' => ∃ (i : Nat) (cur : List Bool) (e3 e5 e6 e7 : Option D), env = [some (.lst (gs.map pgD)), some (.loc f), some (.int (p : Nat)), e3, e4, e5, e6, e7] ∧ i ≤ gs.length ∧ rem = rng (i : Int) (gs.length - i) ∧ M' f = some (.lst (cur.map .bl)) ∧ TrB gs cur ∧ leB bl cur ∧ (cur = bl → ∀ s : Nat, s < i → bl[s]? = some true ∨ ∀ w ∈ wsAt gs s, bl[w.2.2.toNat]? = some false) ∧ Ext M1 M') ?_ ?_ _ _ _ ⟨0, bl, _, _, _, _, rfl, Nat.zero_le _, rfl, hm, hB, .refl, (fun _ s h => absurd h (Nat.not_lt_zero _)), he⟩
    · rintro y rem env M4 ⟨i, cur, e3, e5, e6, e7, rfl, hi, hrem, hm, hB4, hle, hcl, he⟩
      obtain ⟨hil, rfl, rfl⟩ := rng_go hrem
      obtain ⟨g, f1, f2, f3, f4⟩ := hg.at (s := (i : Int)) (by omega) (by omega)
      refine ⟨trivial, ?_⟩
      conv => whnf
      rw [f2]
      conv => whnf
      refine run_is (r_words k (by omega)) (Nat.le_refl _) ?_
      conv => whnf
      refine each_inv (fun rem env M' => ∃ (gone rest : List PW) (cur' : List Bool) (e5 e6 e7 : Option D), wsOf g = gone ++ rest ∧ rem = rest.map pwD ∧ env = [some (.lst (gs.map pgD)), some (.loc f), some (.int (p : Nat)), some (.int (i : Nat)), e4, e5, e6, e7] ∧ M' f = some (.lst (cur'.map .bl)) ∧ TrB gs cur' ∧ leB cur cur' ∧ (cur' = bl → bl[i]? = some true ∨ ∀ w ∈ gone, bl[w.2.2.toNat]? = some false) ∧ Ext M1 M') ?_ ?_ _ _ _ ⟨[], wsOf g, cur, _, _, _, rfl, rfl, rfl, hm, hB4, .refl, (fun _ => .inr fun w hw => by cases hw), he⟩
      · rintro y rem env M5 ⟨gone, rest, cur', e5, e6, e7, g1, g2, rfl, hm5, hB5, hle5, hcl5, he5⟩
        cases rest with
        | nil => cases g2
        | cons w rest =>
          rw [List.map_cons] at g2
          injection g2 with g2 g2'
          subst g2 g2'
          have hwm : w ∈ wsOf g := by rw [g1]; exact List.mem_append_right _ (List.mem_cons_self ..)
          have hw2 : 0 ≤ w.2.2 ∧ w.2.2 < (gs.length : Int) := hg.w g (List.mem_of_getElem? f1) w hwm
          obtain ⟨x, x1, x2⟩ := bl_at (bl := cur') (t := (i : Int)) (by omega) (by rw [hB5.ln]; omega)
          obtain ⟨t, t1, t2⟩ := bl_at (bl := cur') (t := w.2.2) hw2.1 (by rw [hB5.ln]; exact hw2.2)
          rw [Int.toNat_natCast] at x1
          have fin : ∀ z : Bool, z = (x || t) → ∀ e5 e6 e7, ∃ (gone' rest' : List PW) (c' : List Bool) (f5 f6 f7 : Option D), wsOf g = gone' ++ rest' ∧ rest.map pwD = rest'.map pwD ∧ ([some (.lst (gs.map pgD)), some (.loc f), some (.int (p : Nat)), some (.int (i : Nat)), e4, e5, e6, e7] : Env) = [some (.lst (gs.map pgD)), some (.loc f), some (.int (p : Nat)), some (.int (i : Nat)), e4, f5, f6, f7] ∧ (M5.upd f (.lst ((cur'.set i z).map .bl))) f = some (.lst (c'.map .bl)) ∧ TrB gs c' ∧ leB cur c' ∧ (c' = bl → bl[i]? = some true ∨ ∀ w ∈ gone', bl[w.2.2.toNat]? = some false) ∧ Ext M1 (M5.upd f (.lst ((cur'.set i z).map .bl))) := fun z hz e5 e6 e7 => by
            obtain ⟨s1, s2⟩ := hB5.set (s := i) (x := z) (fun e => by
              rw [hz, Bool.or_eq_true] at e
              rcases e with e | e
              · exact hB5.so i (by rw [x1, e])
              · refine .st (by omega) (by rw [f4]; exact hwm) ?_
                have := hB5.so w.2.2.toNat (by rw [t1, e])
                rw [show ((w.2.2.toNat : Nat) : Int) = w.2.2 by omega] at this
                exact this) (fun e => by
              rw [x1] at e
              injection e with e
              rw [hz, e]; rfl)
            refine ⟨gone ++ [w], rest, cur'.set i z, _, _, _, by rw [List.append_assoc]; exact g1, rfl, rfl, Mem.upd_same, s1, hle5.trans s2, fun e => ?_, he5.new hf⟩
            have ec : cur' = bl := leB.anti (by rw [e] at s2; exact s2) (hle.trans hle5)
            rcases hcl5 ec with h | h
            · exact .inl h
            · by_cases hbi : bl[i]? = some true
              · exact .inl hbi
              · refine .inr fun y hy => ?_
                rcases List.mem_append.mp hy with hy | hy
                · exact h y hy
                · have hy : y = w := by simpa using hy
                  subst hy
                  have hxf : x = false := by
                    cases x with
                    | false => rfl
                    | true => exact absurd (by rw [← ec]; exact x1) hbi
                  have hzf : z = false := by
                    cases z with
                    | false => rfl
                    | true =>
                      refine absurd ?_ hbi
                      rw [← e, List.getElem?_set_self (get_lt x1)]
                  rw [hzf, hxf] at hz
                  have htf : t = false := hz.symm
                  rw [← ec, t1, htf]
          refine ⟨trivial, ?_⟩
          conv => whnf
          rw [asS_loc hm5]
          conv => whnf
          rw [x2]
          have put : ∀ z : Bool, ixN (cur'.map D.bl).length (i : Int) = some i ∧ (cur'.map D.bl).set i (.bl z) = (cur'.set i z).map D.bl := fun z => by
            refine ⟨?_, by rw [List.map_set]⟩
            rw [List.length_map, ixN_in (by omega) (by rw [hB5.ln]; omega), Int.toNat_natCast]
          cases x with
          | true =>
            conv => whnf
            rw [hm5]
            conv => whnf
            rw [(put true).1]
            conv => whnf
            rw [(put true).2]
            exact fin true rfl _ _ _
          | false =>
            conv => whnf
            rw [asS_loc hm5]
            conv => whnf
            rw [t2]
            conv => whnf
            rw [hm5]
            conv => whnf
            rw [(put t).1]
            conv => whnf
            rw [(put t).2]
            exact fin t rfl _ _ _
      · rintro env M5 ⟨gone, rest, cur', e5, e6, e7, g1, g2, rfl, hm5, hB5, hle5, hcl5, he5⟩
        cases rest with
        | cons w rest => cases g2
        | nil =>
          rw [List.append_nil] at g1
          subst g1
          refine ⟨trivial, ?_⟩
          conv => whnf
          refine ⟨i + 1, cur', _, _, _, _, rfl, hil, rfl, hm5, hB5, hle.trans hle5, fun e s hs => ?_, he5⟩
          by_cases q : s = i
          · subst q
            rw [f4]
            exact hcl5 e
          · exact hcl (leB.anti (by rw [e] at hle5; exact hle5) hle) s (by omega)
    · rintro env M4 ⟨i, cur, e3, e5, e6, e7, rfl, hi, hrem, hm, hB4, hle, hcl, he⟩
      have ei : i = gs.length := by
        have := congrArg List.length hrem
        unfold rng at this
        rw [List.length_map, List.length_range, List.length_nil] at this
        omega
      subst ei
      refine ⟨trivial, ?_⟩
      conv => whnf
      refine ⟨p + 1, cur, _, _, _, _, _, _, rfl, hpl, rfl, hm, hB4, ?_, he⟩
      rcases hle.eq_or with e | e
      · subst e
        exact .inr (hcl rfl)
      · rcases hc with h | h
        · exact .inl (by omega)
        · have := (h.le hB hB4).anti hle
          rw [this]
          exact .inr h
  · clear hm he hB so en hl hrem bl
    rintro env M3 ⟨p, bl, e2, e3, e4, e5, e6, e7, rfl, hp, hrem, hm, hB, hc, he⟩
    have ep : p = gs.length := by
      have := congrArg List.length hrem
      unfold rng at this
      rw [List.length_map, List.length_range, List.length_nil] at this
      omega
    subst ep
    refine ⟨trivial, ?_⟩
    conv => whnf
    rw [hGl]
    have hcl : ClB gs bl := by
      rcases hc with h | h
      · exact fun s hs => .inl (cntT_all (by rw [hB.ln]; exact h) s (by rw [hB.ln]; exact hs))
      · exact h
    refine ⟨by unfold inB; omega, ?_⟩
    refine comp_inv (fun rem acc M' => ∃ (j : Nat) (l : List Int), j ≤ gs.length ∧ rem = rng (j : Int) (gs.length - j) ∧ acc = l.map .int ∧ l.length ≤ j ∧ l.Nodup ∧ l.Pairwise (· ≤ ·) ∧ (∀ x ∈ l, 0 ≤ x ∧ x < (j : Int)) ∧ (∀ s : Nat, s < j → ((s : Int) ∈ l ↔ bl[s]? = some true)) ∧ M' = M3) ?_ ?_ _ _ _ ⟨0, [], Nat.zero_le _, rfl, rfl, Nat.le_refl _, List.nodup_nil, .nil, all_nil, (fun s h => absurd h (Nat.not_lt_zero _)), rfl⟩
    · rintro d rem acc M4 ⟨j, l, hj, hrem, rfl, hl, nd, pw, rg, iff, rfl⟩
      obtain ⟨hjw, rfl, rfl⟩ := rng_go hrem
      obtain ⟨x, x1, x2⟩ := bl_at (bl := bl) (t := (j : Int)) (by omega) (by rw [hB.ln]; omega)
      rw [Int.toNat_natCast] at x1
      refine ⟨trivial, ?_⟩
      conv => whnf
      rw [asS_loc hm]
      conv => whnf
      rw [x2]
      cases x with
      | true =>
        conv => whnf
        refine ⟨by rw [List.length_map]; omega, j + 1, l ++ [(j : Int)], hjw, rfl, by rw [List.map_append]; rfl, by rw [List.length_append, List.length_singleton]; omega, ?_, ?_, ?_, ?_, rfl⟩
        · rw [List.nodup_append]
          refine ⟨nd, List.nodup_cons.mpr ⟨by simp, List.nodup_nil⟩, fun a ha b hb => ?_⟩
          have hb : b = (j : Int) := by simpa using hb
          have := rg a ha
          omega
        · rw [List.pairwise_append]
          refine ⟨pw, List.pairwise_singleton .., fun a ha b hb => ?_⟩
          have hb : b = (j : Int) := by simpa using hb
          have := rg a ha
          omega
        · exact all_app (fun x hx => by have := rg x hx; omega) (all_cons ⟨by omega, by omega⟩ all_nil)
        · intro s hs
          by_cases q : s = j
          · subst q
            exact ⟨fun _ => x1, fun _ => List.mem_append_right _ (List.mem_cons_self ..)⟩
          · refine Iff.trans ⟨fun h => ?_, fun h => List.mem_append_left _ h⟩ (iff s (by omega))
            rcases List.mem_append.mp h with h | h
            · exact h
            · have h : (s : Int) = j := by simpa using h
              omega
      | false =>
        conv => whnf
        refine ⟨j + 1, l, hjw, rfl, rfl, by omega, nd, pw, fun x hx => by have := rg x hx; omega, fun s hs => ?_, rfl⟩
        by_cases q : s = j
        · subst q
          refine ⟨fun h => ?_, fun h => ?_⟩
          · have := rg _ h; omega
          · rw [x1] at h; cases h
        · exact iff s (by omega)
    · rintro acc M4 ⟨j, l, hj, hrem, rfl, hl, nd, pw, rg, iff, rfl⟩
      have ej : j = gs.length := by
        have := congrArg List.length hrem
        unfold rng at this
        rw [List.length_map, List.length_range, List.length_nil] at this
        omega
      subst ej
      refine ⟨trivial, ?_⟩
      refine newL_fz (by rw [List.length_map]; omega) ?_
      have mem : ∀ x : Int, 0 ≤ x → x < gs.length → (x ∈ l ↔ bl[x.toNat]? = some true) := fun x x0 x1 => by
        have := iff x.toNat (by omega)
        rw [show ((x.toNat : Nat) : Int) = x by omega] at this
        exact this
      refine .done ⟨l, rfl, ⟨nd, fun x hx => ?_, fun s e => ?_, fun s hs => ?_⟩, pw, he⟩
      · have h := rg x hx
        have := hB.so x.toNat ((mem x h.1 h.2).mp hx)
        rw [show ((x.toNat : Nat) : Int) = x by omega] at this
        exact ⟨h.1, h.2, this⟩
      · exact (iff s (get_lt e)).mpr (hB.en s e)
      · rcases hcl s hs with h | h
        · exact .inl ((iff s hs).mpr h)
        · refine .inr fun w hw hl => ?_
          have h2 := rg _ hl
          have := (mem _ h2.1 h2.2).mp hl
          rw [h w hw] at this
          cases this
end Wp

/-! K41f: the law. -/
namespace Wp
open PySem
theorem dpE_lists {M : Mem} {x y : D} {ds : List D} {n : Nat} (hx : asLT M x = some ds) (hy : asLT M y = some ds) (h : ∀ d ∈ ds, eqOk 30 d = true) : dpE M (n + 2) x y :=
  .inr (.inl ⟨ds, ds, hx, hy, rfl, fun i a b ha hb => by
    rw [ha] at hb
    injection hb with hb
    rw [← hb]
    exact .inl ⟨rfl, h a (List.mem_of_getElem? ha)⟩⟩)
theorem asLT_lc {M : Mem} {a : Addr} {ds : List D} (h : M a = some (.lst ds)) : asLT M (.loc a) = some ds := by
  show (match M a with | some (.lst ds) => some ds | _ => none) = _
  rw [h]
theorem dicAt_f {M : Mem} {a : Addr} {kvs : List (Sum Int Str × D)} (h : M a = some (.fdc kvs)) : dicAt M (.loc a) = some kvs := by
  show (match M a with | some (.dic kvs) => some kvs | some (.fdc kvs) => some kvs | _ => none) = _
  rw [h]
theorem cmp_deep {M : Mem} {xs ys : List D} {neg : Bool} {Q : QK} (hl : xs.length = ys.length) (h1 : toPys xs = none) (h2 : toPyF M 30 (.lst xs) = none) (h : dpT M (.lst xs) (.lst ys)) (q : Q (.bl (!neg)) M) : eqW neg (.lst xs) (.lst ys) M Q := by
  show eqL neg (.lst xs) (.lst ys) M Q
  show (if xs.length = ys.length then eqP neg (.lst xs) (.lst ys) M Q else Q (.bl neg) M)
  rw [if_pos hl]
  have e : toPyM M (.lst xs) = none := by
    show (toPys xs).map PyData.list = none
    rw [h1]; rfl
  unfold eqP
  rw [e]
  show eqF neg (.lst xs) (.lst ys) M Q
  unfold eqF
  rw [h2]
  exact .inr ⟨h, q⟩
theorem rows_deep {gs : List PG} {M : Mem} {T : RT} {p q : Nat} {d d2 : Addr} (hT : kvR T = kvN gs p) (hp : (kvN gs p).length ≤ p) (hq : (kvN gs q).length ≤ q) (nd : ((kvN gs p).map (·.1)).Nodup) (hP : PL ((d, .fdc (dI (dicR T))) :: cellsR T) M) (h2 : M d2 = some (.fdc (dI (dicV (kvN gs q))))) {n : Nat} : dpE M (n + 3) (.loc d) (.loc d2) := by
  have e := kvN_same hp hq
  refine .inr (.inr ⟨_, _, dicAt_f (hP.get 0 rfl), dicAt_f h2, ?_, fun x hx => ?_⟩)
  · unfold dI dicR dicV
    rw [List.length_map, List.length_map, List.length_map, List.length_map, ← e, ← hT]
    exact (List.length_map ..).symm
  · obtain ⟨y, hy, rfl⟩ := List.mem_map.mp hx
    obtain ⟨z, hz, rfl⟩ := List.mem_map.mp hy
    obtain ⟨i, hi⟩ := List.getElem?_of_mem hz
    obtain ⟨a, s, row⟩ := z
    have hk : (kvN gs q)[i]? = some (s, row) := by
      rw [← e, ← hT]
      unfold kvR
      rw [List.getElem?_map, hi]; rfl
    have hv : (dicV (kvN gs q))[i]? = some (s, rwD row) := by
      unfold dicV
      rw [List.getElem?_map, hk]; rfl
    refine ⟨rwD row, lookI_some hv (by rw [dicV_keys, ← e]; exact nd), ?_⟩
    have hm := hP.at_ (a, .lst (row.map .str)) (List.mem_cons_of_mem _ (List.mem_map.mpr ⟨_, hz, rfl⟩))
    exact dpE_lists (ds := row.map .str) (asLT_lc hm) rfl fun d hd => by
      obtain ⟨z, _, rfl⟩ := List.mem_map.mp hd
      rfl
theorem ints_deep {M : Mem} {a : Addr} {l l2 : List Int} (h : M a = some (.lst (l.map .int))) (e : l = l2) {n : Nat} : dpE M (n + 2) (.loc a) (.lst (l2.map .int)) := by
  subst e
  exact dpE_lists (asLT_lc h) rfl fun d hd => by
    obtain ⟨z, _, rfl⟩ := List.mem_map.mp hd
    rfl
theorem good_deep {M : Mem} {a1 a2 d d2 : Addr} {ks es : List Int} (h1 : dpE M 20 (.loc a1) (.lst (ks.map .int))) (h2 : dpE M 20 (.loc a2) (.lst (es.map .int))) (h3 : dpE M 20 (.loc d) (.loc d2)) {kvs : List (Sum Int Str × D)} (hd : M d = some (.fdc kvs)) {neg : Bool} {Q : QK} (q : Q (.bl (!neg)) M) : eqW neg (.lst [.loc a1, .loc a2, .loc d]) (.lst [.lst (ks.map .int), .lst (es.map .int), .loc d2]) M Q := by
  refine cmp_deep rfl rfl ?_ ⟨_, _, rfl, rfl, rfl, fun i a b ha hb => ?_⟩ q
  · have e : toPyF M 29 (.loc d) = none := by
      show (match M d with | some (.lst ds) => (optAll (toPyF M 28) ds).map PyData.list | _ => none) = none
      rw [hd]
    show (optAll (toPyF M 29) [.loc a1, .loc a2, .loc d]).map PyData.list = none
    unfold optAll
    cases toPyF M 29 (.loc a1) with
    | none => rfl
    | some p1 =>
      unfold optAll
      cases toPyF M 29 (.loc a2) with
      | none => rfl
      | some p2 =>
        unfold optAll
        rw [e]; rfl
  · match i, ha, hb with
    | 0, ha, hb => cases ha; cases hb; exact h1
    | 1, ha, hb => cases ha; cases hb; exact h2
    | 2, ha, hb => cases ha; cases hb; exact h3
    | i + 3, ha, hb => cases ha
theorem asL_f {M : Mem} {a : Addr} {kvs : List (Sum Int Str × D)} (h : M a = some (.fdc kvs)) : asL M (.loc a) = none := by
  show (match M a with | some (.lst ds) => some ds | _ => none) = _
  rw [h]
theorem fdcAt_f {M : Mem} {a : Addr} {kvs : List (Sum Int Str × D)} (h : M a = some (.fdc kvs)) : fdcAt M (.loc a) = some kvs := by
  show (match M a with | some (.fdc kvs) => some kvs | _ => none) = _
  rw [h]
theorem x_cmpM9 {R : Nat → List D → Mem → QK → XQ → Prop} {op : CmpOp} {a b : Ex} {env : Env} {M : Mem} {Q : QK} {E : XQ} (h : wpE R a env M (fun x M1 => wpE R b env M1 (fun y M2 => cmpW op x y M2 Q) E) E) : wpE R (.cmp op a b) env M Q E := h
theorem r_reached {gs : List PG} (hg : G41 gs) {M : Mem} (k : Nat) (hk : 2 ≤ k) : run tab k f_reached [.lst (gs.map pgD)] M (fun v M' => ∃ (a : Addr) (l : List Int) (p : Nat), v = .loc a ∧ M' a = some (.lst (l.map .int)) ∧ l.Perm ((kvN gs p).map (·.1)) ∧ (kvN gs p).length ≤ p ∧ l.Pairwise (· ≤ ·) ∧ M a = none ∧ Ext M M') fun _ _ => False := by
  obtain ⟨k, rfl⟩ : ∃ j, k = j + 1 := ⟨k - 1, by omega⟩
  have h2000 : 2000 ≤ sizeLine := by decide
  have l30 := hg.l30
  refine run_in rfl rfl ?_
  conv => whnf
  refine run_use (r_rows_to hg k (by omega)) (Nat.le_refl _) fun v M1 h => ?_
  obtain ⟨d, T, p, rfl, hT, hp, hP, h0, hd, he⟩ := h
  have hlen := (kvN_ok hg.l1 hg.w p).len
  have hk := keysI_dI (dicR T)
  rw [dicR_keys, hT] at hk
  conv => whnf
  have hm := hP.get 0 rfl
  rw [asL_f hm]
  conv => whnf
  rw [dicAt_f hm]
  conv => whnf
  rw [hk]
  refine ⟨by rw [List.length_map]; omega, fun ns' hp2 hs => ⟨by rw [List.length_map, hp2.length_eq, List.length_map]; omega, fun a ha => ?_⟩⟩
  have ha0 := he.off ha
  exact .done ⟨a, ns', p, rfl, Mem.upd_same, hp2, hp, hs, ha0, he.new ha0⟩
theorem g41_sm {gs : List PG} (hg : G41 gs) : smV (.lst (gs.map pgD)) = true ∧ dep (.lst (gs.map pgD)) ≤ 60 := by
  have key : ∀ d ∈ gs.map pgD, smV d = true ∧ dep d ≤ 4 := fun d hd => by
    obtain ⟨g, hm, rfl⟩ := List.mem_map.mp hd
    have h := hg.ok g hm
    cases g with
    | none => exact ⟨by decide +kernel, by decide +kernel⟩
    | some bw =>
      obtain ⟨b, ws⟩ := bw
      have l30 := hg.l30
      obtain ⟨w1, w3, hw⟩ := h
      have kw : ∀ d ∈ ws.map pwD, smV d = true ∧ dep d ≤ 2 := fun d hd => by
        obtain ⟨w, hm, rfl⟩ := List.mem_map.mp hd
        obtain ⟨nm, sh, t⟩ := w
        obtain ⟨a1, a2, a3, a4⟩ := hw _ hm
        have a2 : sh = .nothing := a2
        subst a2
        have a3 : 0 ≤ t := a3
        have a4 : t < gs.length := a4
        refine ⟨smV_tp (by show 3 ≤ 1000; decide) (all_cons a1 (all_cons (by show smV (.tup [.str "nothing"]) = true; decide +kernel) (all_cons (decide_eq_true (by omega)) all_nil))), ?_⟩
        show max 0 (max (max 0 0 + 1) (max 0 0)) + 1 ≤ 2
        decide
      refine ⟨smV_tp (by show 2 ≤ 1000; decide) (all_cons (sd_sm _) (all_cons (smV_ls (by rw [List.length_map]; omega) fun d hd => (kw d hd).1) all_nil)), ?_⟩
      have := deps_le (n := 2) fun d hd => (kw d hd).2
      show max 0 (max (deps (ws.map pwD) + 1) 0) + 1 ≤ 4
      omega
  have l30 := hg.l30
  refine ⟨smV_ls (by rw [List.length_map]; omega) fun d hd => (key d hd).1, ?_⟩
  exact Nat.le_trans (Nat.succ_le_succ (deps_le fun d hd => (key d hd).2)) (by decide)
set_option maxHeartbeats 0 in
theorem r_good {gs : List PG} (hg : G41 gs) {M : Mem} (k : Nat) (hk : 4 ≤ k) : run tab k f_law_good [.lst (gs.map pgD)] M (fun v M' => v = .bl true ∧ Ext M M') fun _ _ => False := by
  obtain ⟨k, rfl⟩ : ∃ j, k = j + 1 := ⟨k - 1, by omega⟩
  have h2000 : 2000 ≤ sizeLine := by decide
  have l30 := hg.l30
  have hok := kvN_ok hg.l1 hg.w
  refine run_in rfl rfl ?_
  conv => whnf
  refine ⟨by rw [List.length_map]; omega, ?_⟩
  conv => whnf
  refine run_use (r_law_rows hg k (by omega)) (Nat.le_refl _) fun v M1 h => ?_
  obtain ⟨d2, q, rfl, hq, hd2, hd20, he1⟩ := h
  have hlq := (hok q).len
  have hkq := keysI_dI (dicV (kvN gs q))
  rw [dicV_keys] at hkq
  conv => whnf
  rw [asL_f hd2]
  conv => whnf
  rw [dicAt_f hd2]
  conv => whnf
  rw [hkq]
  refine ⟨by rw [List.length_map]; omega, fun ks hkp hks => ⟨by rw [List.length_map, hkp.length_eq, List.length_map]; omega, ?_⟩⟩
  conv => whnf
  refine run_use (r_law_ending hg k (by omega)) (Nat.le_refl _) fun v M2 h => ?_
  obtain ⟨es, rfl, hes, hesp, he2⟩ := h
  have hd22 := he2 _ _ hd2
  conv => whnf
  refine ⟨lok rfl, ?_⟩
  have told : ∀ (M3 : Mem) {Q : QK}, Ext M2 M3 → (∀ a1 a2 d T p M6, Ext M3 M6 → kvR T = kvN gs p → (kvN gs p).length ≤ p → PL ((d, .fdc (dI (dicR T))) :: cellsR T) M6 → M6 a1 = some (.lst (ks.map .int)) → M6 a2 = some (.lst (es.map .int)) → M3 a1 = none → M3 a2 = none → a1 ≠ a2 → (∀ x ∈ T, M3 x.1 = none ∧ x.1 ≠ a1 ∧ x.1 ≠ a2) → d ≠ a1 → d ≠ a2 → Q (.lst [.loc a1, .loc a2, .loc d]) M6) → ∀ {env : Env} {E : XQ}, slv env 1 = some (.lst (gs.map pgD)) → wpE (run tab k) (.lst true (.cons (.call f_reached (.cons (.var 1) .nil)) (.cons (.call f_ending (.cons (.var 1) .nil)) (.cons (.call f_rows_to (.cons (.var 1) .nil)) .nil)))) env M3 Q E := by
    intro M3 Q he3 q9 env E e1
    conv => whnf
    rw [e1]
    conv => whnf
    refine run_use (r_reached hg k (by omega)) (Nat.le_refl _) fun v M4 h => ?_
    obtain ⟨a1, l1, p1, rfl, b1, b2, b3, b4, b5, he4⟩ := h
    conv => whnf
    rw [e1]
    conv => whnf
    refine run_use (r_ending hg k (by omega)) (Nat.le_refl _) fun v M5 h => ?_
    obtain ⟨a2, l2, rfl, c1, c2, c3, c4, he5⟩ := h
    conv => whnf
    rw [e1]
    conv => whnf
    refine run_use (r_rows_to hg k (by omega)) (Nat.le_refl _) fun v M6 h => ?_
    obtain ⟨d, T, p, rfl, hT, hp, hP, h0, hd, he6⟩ := h
    conv => whnf
    refine ⟨lok rfl, ?_⟩
    have x1 := he5 _ _ b1
    have n12 : a1 ≠ a2 := fun e => by rw [e, c4] at b1; cases b1
    refine q9 a1 a2 d T p M6 ((he4.trans he5).trans he6) hT hp hP ?_ ?_ b5 (he4.off c4) n12 (fun x hx => ⟨(he4.trans he5).off (h0 x hx), fun e => ?_, fun e => ?_⟩) (fun e => ?_) (fun e => ?_)
    · have : l1 = ks := sorted_eq (b2.trans (by rw [kvN_same b3 hq]; exact hkp.symm)) b4 hks
      rw [← this]
      exact he6 _ _ x1
    · have : l2 = es := sorted_eq (c2.perm hes) c3 hesp
      rw [← this]
      exact he6 _ _ c1
    · rw [← e, h0 x hx] at x1; cases x1
    · rw [← e, h0 x hx] at c1; cases c1
    · rw [← e, hd] at x1; cases x1
    · rw [← e, hd] at c1; cases c1
  dsimp only [tgW]
  refine sq_asg (told M2 .refl (fun a1 a2 d T p M6 he6 hT hp hP b1 b2 n1 n2 n12 nT nd1 nd2 => ?_) rfl)
  dsimp only [tgW]
  have smg := g41_sm hg
  have hd6 := hP.get 0 rfl
  have hd26 := he6 _ _ hd22
  refine sq_if0 (fun Q E q9 => x_or_f (fun Q E q9 => x_cmp (fun Q E q9 => xv41 rfl q9) (fun Q E q9 => xv41 rfl q9) (fun Q q9 => good_deep (neg := true) (ints_deep b1 rfl) (ints_deep b2 rfl) (rows_deep hT hp hq (hok p).nd hP hd26) hd6 q9) q9) (x_cmp (fun Q E q9 => xv41 rfl q9) (fun Q E q9 => xv41 rfl q9) (fun Q q9 => cmpNe_self smg.1 smg.2 q9) q9)) ?_
  conv => whnf
  refine ⟨rcv_loc (by decide) b1, ?_⟩
  conv => whnf
  rw [b1]
  refine ⟨by rw [List.length_map, hkp.length_eq, List.length_map]; omega, ?_⟩
  have b2' : (M6.upd a1 (.lst (ks.map D.int ++ [.int 99]))) a2 = some (.lst (es.map .int)) := by rw [Mem.upd_ne (Ne.symm n12)]; exact b2
  have hP7 : PL ((d, .fdc (dI (dicR T))) :: cellsR T) (M6.upd a1 (.lst (ks.map D.int ++ [.int 99]))) := hP.up fun x hx e => by
    rw [Mem.upd_ne]
    · exact e
    · rcases List.mem_cons.mp hx with rfl | hx
      · exact nd1
      · obtain ⟨y, hy, rfl⟩ := List.mem_map.mp hx
        exact (nT y hy).2.1
  have he7 := he6.new (o := .lst (ks.map D.int ++ [.int 99])) n1
  show wpS _ _ _ _ (M6.upd a1 (.lst (ks.map D.int ++ [.int 99])))
  generalize M6.upd a1 (.lst (ks.map D.int ++ [.int 99])) = M7 at b2' hP7 he7
  conv => whnf
  refine ⟨rcv_loc (by decide) b2', ?_⟩
  conv => whnf
  rw [b2']
  have hel := nd_len _ es hes.nd fun x hx => ⟨(hes.so x hx).1, (hes.so x hx).2.1⟩
  refine ⟨by rw [List.length_map]; omega, ?_⟩
  have hP8 : PL ((d, .fdc (dI (dicR T))) :: cellsR T) (M7.upd a2 (.lst (es.map D.int ++ [.int 99]))) := hP7.up fun x hx e => by
    rw [Mem.upd_ne]
    · exact e
    · rcases List.mem_cons.mp hx with rfl | hx
      · exact nd2
      · obtain ⟨y, hy, rfl⟩ := List.mem_map.mp hx
        exact (nT y hy).2.2
  have he8 := he7.new (o := .lst (es.map D.int ++ [.int 99])) n2
  show wpS _ _ _ _ (M7.upd a2 (.lst (es.map D.int ++ [.int 99])))
  generalize M7.upd a2 (.lst (es.map D.int ++ [.int 99])) = M8 at hP8 he8
  have hd8 := hP8.get 0 rfl
  conv => whnf
  rw [fdcAt_f hd8]
  conv => whnf
  have e30 : kvN gs p = kvN gs 30 := kvN_same hp (by have := (hok 30).len; omega)
  have hrw : ∀ x ∈ T, x.2.2.length ≤ 30 := fun x hx => kvN_row 30 x.2 (by rw [← e30, ← hT]; exact List.mem_map_of_mem hx)
  have hTl : T.length ≤ gs.length := by
    have h1 := (hok p).len
    rw [← hT] at h1
    have : (kvR T).length = T.length := List.length_map ..
    omega
  refine each_inv (fun rem env M' => ∃ (i : Nat) (T' : RT) (e5 : Option D), env = [some (.lst (gs.map pgD)), some (.lst (gs.map pgD)), some (.loc d2), some (.lst [.lst (ks.map .int), .lst (es.map .int), .loc d2]), some (.lst [.loc a1, .loc a2, .loc d]), e5] ∧ i ≤ T.length ∧ rem = (T.drop i).map (fun x => D.int x.2.1) ∧ T'.map (fun x => (x.1, x.2.1)) = T.map (fun x => (x.1, x.2.1)) ∧ (∀ x ∈ T', x.2.2.length ≤ 30 + i) ∧ PL ((d, .fdc (dI (dicR T))) :: cellsR T') M' ∧ Ext M2 M') ?_ ?_ _ _ _ ⟨0, T, _, rfl, Nat.zero_le _, ?_, rfl, hrw, hP8, he8⟩
  · rintro y rem env M9 ⟨i, T', e5, rfl, hi, hrem, hT', hr', hP9, he9⟩
    by_cases ei : i = T.length
    · rw [ei, List.drop_length] at hrem
      cases hrem
    have hil : i < T.length := by omega
    obtain ⟨t, ht⟩ : ∃ t, T[i]? = some t := ⟨_, List.getElem?_eq_getElem hil⟩
    have ht' := (List.getElem?_eq_some_iff.mp ht).2
    rw [List.drop_eq_getElem_cons hil, List.map_cons, ht'] at hrem
    injection hrem with r1 r2
    subst r1 r2
    have e1 : (T'.map fun x => (x.1, x.2.1))[i]? = some (t.1, t.2.1) := by rw [hT', List.getElem?_map, ht]; rfl
    rw [List.getElem?_map] at e1
    obtain ⟨t2, ht2, e2⟩ := Option.map_eq_some_iff.mp e1
    have ea : t2.1 = t.1 := congrArg (fun x : Addr × Int => x.1) e2
    have hmem2 := List.mem_of_getElem? ht2
    have hcell : ((d, Ob.fdc (dI (dicR T))) :: cellsR T')[i + 1]? = some (t.1, .lst (t2.2.2.map .str)) := by
      rw [List.getElem?_cons_succ]
      unfold cellsR
      rw [List.getElem?_map, ht2, ← ea]; rfl
    have hma := hP9.get (i + 1) hcell
    have hd9 := hP9.get 0 rfl
    have hlk : lookD (dI (dicR T)) (.inl t.2.1) = some (.loc t.1) := lookI_some (i := i) (by unfold dicR; rw [List.getElem?_map, ht]; rfl) (by rw [dicR_keys, hT]; exact (hok p).nd)
    have hrl := hr' t2 hmem2
    refine ⟨trivial, ?_⟩
    conv => whnf
    rw [hd9]
    conv => whnf
    rw [hlk]
    refine ⟨rcv_loc (by decide) hma, ?_⟩
    conv => whnf
    rw [hma]
    refine ⟨by rw [List.length_map]; omega, ?_⟩
    have hs := hP9.set (i + 1) hcell (o' := .lst (t2.2.2.map D.str ++ [.str "z"]))
    have es2 : ((d, Ob.fdc (dI (dicR T))) :: cellsR T').set (i + 1) (t.1, .lst (t2.2.2.map D.str ++ [.str "z"])) = (d, Ob.fdc (dI (dicR T))) :: cellsR (T'.set i (t2.1, t2.2.1, t2.2.2 ++ [("z" : Str)])) := by
      show _ :: (cellsR T').set i _ = _ :: cellsR (T'.set i _)
      unfold cellsR
      rw [List.map_set, ea]
      show _ :: (T'.map _).set i (t.1, Ob.lst (t2.2.2.map D.str ++ [.str "z"])) = _ :: (T'.map _).set i (t.1, Ob.lst ((t2.2.2 ++ [("z" : Str)]).map D.str))
      rw [List.map_append]; rfl
    rw [es2] at hs
    have tT : t ∈ T := List.mem_of_getElem? ht
    refine ⟨i + 1, T'.set i (t2.1, t2.2.1, t2.2.2 ++ [("z" : Str)]), _, rfl, hil, rfl, ?_, fun x hx => ?_, hs, he9.new (nT t tT).1⟩
    · rw [← hT', List.map_set]
      refine List.ext_getElem? fun j => ?_
      rw [List.getElem?_set]
      split
      · rename_i z
        subst z
        rw [if_pos (by rw [List.length_map]; exact get_lt ht2), List.getElem?_map, ht2]; rfl
      · rfl
    · rcases List.mem_or_eq_of_mem_set hx with hx | rfl
      · have := hr' x hx; omega
      · show (t2.2.2 ++ [("z" : Str)]).length ≤ _
        rw [List.length_append, List.length_singleton]; omega
  · rintro env M9 ⟨i, T', e5, rfl, hi, hrem, hT', hr', hP9, he9⟩
    refine ⟨trivial, ?_⟩
    dsimp only
    have hd29 := he9 _ _ hd22
    refine sq_ret (x_cmpM9 (told M9 he9 (fun b1' b2' d' T2 p2 M10 he10 hT2 hp2 hP2 c1 c2 m1 m2 m12 mT md1 md2 => ?_) rfl))
    refine xv41 rfl ?_
    have hd10 := hP2.get 0 rfl
    refine (show cmpW .Eq (.lst [.loc b1', .loc b2', .loc d']) (.lst [.lst (ks.map .int), .lst (es.map .int), .loc d2]) M10 _ from good_deep (neg := false) (ints_deep c1 rfl) (ints_deep c2 rfl) (rows_deep hT2 hp2 hq (hok p2).nd hP2 (he10 _ _ hd29)) hd10 ?_)
    exact .done ⟨rfl, ((he1.trans he2).trans he9).trans he10⟩
  · unfold dI dicR
    rw [List.map_map, List.map_map]
    rfl
end Wp

/-! K41g: the law. -/
namespace Wp
open PySem
set_option maxHeartbeats 0 in
theorem r_law41 (ns : List Int) (hn : ns.length ≤ 63) (hb0 : ∀ z ∈ ns, Builtin.Int.intBits z ≤ 1048576) (k : Nat) (hk : 10 ≤ k) : run tab (k + 1) f_law [.scr ns] (fun _ => none) (fun d _ => d = .bl true) fun _ _ => False := by
  have hb : NsOk ns := ⟨hn, hb0⟩
  refine run_in rfl rfl ?_
  conv => whnf
  refine run_is (r_cellB (k := 0) rfl (by decide) k (by omega)) (Nat.le_refl _) ?_
  generalize celB ns 0 = c0
  conv => whnf
  refine ⟨by decide, ?_⟩
  have a0 := Int.emod_nonneg c0 (show (6 : Int) ≠ 0 by decide)
  have a1 := Int.emod_lt_of_pos c0 (show (0 : Int) < 6 by decide)
  obtain ⟨m, hm⟩ : ∃ n : Nat, 1 + c0 % 6 = (n : Int) := ⟨(1 + c0 % 6).toNat, by omega⟩
  conv => whnf
  rw [hm]
  refine run_use (r_states hb (start := 2) (by decide) (by omega) (by omega) k (by omega)) (Nat.le_refl _) fun v M1 h => ?_
  obtain ⟨gs, rfl, hg, he1⟩ := h
  conv => whnf
  refine run_use (r_good hg k (by omega)) (Nat.le_refl _) fun v M2 h => ?_
  obtain ⟨rfl, he2⟩ := h
  conv => whnf
  refine ⟨by unfold inB; omega, ?_⟩
  refine each_inv (fun rem env M' => ∃ (i : Nat) (e1 e2 : Option D), env = [some (.scr ns), e1, e2] ∧ i ≤ 2 ∧ rem = rng (i : Int) (2 - i)) ?_ ?_ _ _ _ ⟨0, _, _, rfl, by omega, rfl⟩
  · rintro y rem env M3 ⟨i, e1, e2, rfl, hi, hrem⟩
    obtain ⟨hil, rfl, rfl⟩ := rng_go hrem
    refine ⟨trivial, ?_⟩
    conv => whnf
    refine run_is (r_cellB (k := 1) rfl (by decide) k (by omega)) (Nat.le_refl _) ?_
    generalize celB ns 1 = c1
    conv => whnf
    refine ⟨mul_ok (by decide) (by omega), ?_⟩
    conv => whnf
    refine ⟨by omega, logN (by omega), ?_⟩
    generalize c1 / (1 + 29 * (i : Int)) = c2
    conv => whnf
    refine ⟨by decide, ?_⟩
    have b0 := Int.emod_nonneg c2 (show (30 : Int) ≠ 0 by decide)
    have b1 := Int.emod_lt_of_pos c2 (show (0 : Int) < 30 by decide)
    obtain ⟨m2, hm2⟩ : ∃ n : Nat, 1 + c2 % 30 = (n : Int) := ⟨(1 + c2 % 30).toNat, by omega⟩
    conv => whnf
    rw [hm2]
    refine ⟨mul_ok (by decide) (by omega), ?_⟩
    conv => whnf
    rw [show (3 : Int) + 29 * (i : Int) = ((3 + 29 * i : Nat) : Int) by omega]
    refine run_use (r_states hb (start := 3 + 29 * i) (by omega) (by omega) (by omega) k (by omega)) (Nat.le_refl _) fun v M4 h => ?_
    obtain ⟨gs2, rfl, hg2, he4⟩ := h
    conv => whnf
    refine run_use (r_good hg2 k (by omega)) (Nat.le_refl _) fun v M5 h => ?_
    obtain ⟨rfl, he5⟩ := h
    conv => whnf
    exact ⟨i + 1, _, _, rfl, hil, rfl⟩
  · rintro env M3 ⟨i, e1, e2, rfl, hi, hrem⟩
    refine ⟨trivial, ?_⟩
    conv => whnf
    exact .done rfl
end Wp

namespace Wp
open PySem
def lawK : Nat := 100
theorem law_holds (ns : List Int) (hn : ns.length ≤ 63) (hb : ∀ z ∈ ns, Builtin.Int.intBits z ≤ 1048576) : run tab (lawK + 1) f_law [.scr ns] (fun _ => none) (fun d _ => d = .bl true) fun _ _ => False := r_law41 ns hn hb _ (by decide)
end Wp

namespace Wp
open PySem PySem.Spec PyProof.Rows L2
def topS (i : Nat) : Stmt := PySem.Challenge.pw_wireparley_k41_states_reached_and_ending.main.body.getD i (.Pass ⟨0, 0, 0, 0⟩)
def tb : Tb where
  nm := fun f => match f with
    | 0 => some "nexts_of"
    | 1 => some "rows_to"
    | 2 => some "reached"
    | 3 => some "ending"
    | 4 => some "_law_cell"
    | 5 => some "_law_mixed"
    | 6 => some "_law_states"
    | 7 => some "_law_words"
    | 8 => some "_law_rows"
    | 9 => some "_law_ending"
    | 10 => some "_law_good"
    | 11 => some "law"
    | _ => none
  ar := fun f => match f with
    | 0 => 1
    | 1 => 1
    | 2 => 1
    | 3 => 1
    | 4 => 2
    | 5 => 2
    | 6 => 3
    | 7 => 1
    | 8 => 1
    | 9 => 1
    | 10 => 1
    | 11 => 1
    | _ => 0
  cs := []
  bn := ["sorted", "range", "len", "list"]
def d_nexts_of : He.DefD := ⟨("nexts_of", none), "nexts_of", "nexts_of", defArgs (topS 1), defBody (topS 1), defScope (topS 1), [], []⟩
def n_nexts_of : List Str := ["state", "word"]
theorem c_nexts_of : chkL tb n_nexts_of (defScope (topS 1)) b_nexts_of.body (defBody (topS 1)) = true := by decide +kernel
theorem s_nexts_of : FnScope n_nexts_of ["state"] (defScope (topS 1)) := ⟨by rfl, by rfl, by rfl, by decide +kernel, by rfl, by decide +kernel, by decide +kernel⟩
def d_rows_to : He.DefD := ⟨("rows_to", none), "rows_to", "rows_to", defArgs (topS 2), defBody (topS 2), defScope (topS 2), [], []⟩
def n_rows_to : List Str := ["g", "found", "waiting", "here", "name", "shape", "then"]
theorem c_rows_to : chkL tb n_rows_to (defScope (topS 2)) b_rows_to.body (defBody (topS 2)) = true := by decide +kernel
theorem s_rows_to : FnScope n_rows_to ["g"] (defScope (topS 2)) := ⟨by rfl, by rfl, by rfl, by decide +kernel, by rfl, by decide +kernel, by decide +kernel⟩
def d_reached : He.DefD := ⟨("reached", none), "reached", "reached", defArgs (topS 3), defBody (topS 3), defScope (topS 3), [], []⟩
def n_reached : List Str := ["g"]
theorem c_reached : chkL tb n_reached (defScope (topS 3)) b_reached.body (defBody (topS 3)) = true := by decide +kernel
theorem s_reached : FnScope n_reached ["g"] (defScope (topS 3)) := ⟨by rfl, by rfl, by rfl, by decide +kernel, by rfl, by decide +kernel, by decide +kernel⟩
def d_ending : He.DefD := ⟨("ending", none), "ending", "ending", defArgs (topS 4), defBody (topS 4), defScope (topS 4), [], []⟩
def n_ending : List Str := ["g", "found", "more", "k", "then"]
theorem c_ending : chkL tb n_ending (defScope (topS 4)) b_ending.body (defBody (topS 4)) = true := by decide +kernel
theorem s_ending : FnScope n_ending ["g"] (defScope (topS 4)) := ⟨by rfl, by rfl, by rfl, by decide +kernel, by rfl, by decide +kernel, by decide +kernel⟩
def d_law_cell : He.DefD := ⟨("_law_cell", none), "_law_cell", "_law_cell", defArgs (topS 6), defBody (topS 6), defScope (topS 6), [], []⟩
def n_law_cell : List Str := ["script", "k"]
theorem c_law_cell : chkL tb n_law_cell (defScope (topS 6)) b_law_cell.body (defBody (topS 6)) = true := by decide +kernel
theorem s_law_cell : FnScope n_law_cell ["script", "k"] (defScope (topS 6)) := ⟨by rfl, by rfl, by rfl, by decide +kernel, by rfl, by decide +kernel, by decide +kernel⟩
def d_law_mixed : He.DefD := ⟨("_law_mixed", none), "_law_mixed", "_law_mixed", defArgs (topS 7), defBody (topS 7), defScope (topS 7), [], []⟩
def n_law_mixed : List Str := ["cell", "k", "number"]
theorem c_law_mixed : chkL tb n_law_mixed (defScope (topS 7)) b_law_mixed.body (defBody (topS 7)) = true := by decide +kernel
theorem s_law_mixed : FnScope n_law_mixed ["cell", "k"] (defScope (topS 7)) := ⟨by rfl, by rfl, by rfl, by decide +kernel, by rfl, by decide +kernel, by decide +kernel⟩
def d_law_states : He.DefD := ⟨("_law_states", none), "_law_states", "_law_states", defArgs (topS 8), defBody (topS 8), defScope (topS 8), [], []⟩
def n_law_states : List Str := ["script", "start", "many", "grammar", "k", "cell", "kind", "words", "j"]
theorem c_law_states : chkL tb n_law_states (defScope (topS 8)) b_law_states.body (defBody (topS 8)) = true := by decide +kernel
theorem s_law_states : FnScope n_law_states ["script", "start", "many"] (defScope (topS 8)) := ⟨by rfl, by rfl, by rfl, by decide +kernel, by rfl, by decide +kernel, by decide +kernel⟩
def d_law_words : He.DefD := ⟨("_law_words", none), "_law_words", "_law_words", defArgs (topS 9), defBody (topS 9), defScope (topS 9), [], []⟩
def n_law_words : List Str := ["state"]
theorem c_law_words : chkL tb n_law_words (defScope (topS 9)) b_law_words.body (defBody (topS 9)) = true := by decide +kernel
theorem s_law_words : FnScope n_law_words ["state"] (defScope (topS 9)) := ⟨by rfl, by rfl, by rfl, by decide +kernel, by rfl, by decide +kernel, by decide +kernel⟩
def d_law_rows : He.DefD := ⟨("_law_rows", none), "_law_rows", "_law_rows", defArgs (topS 10), defBody (topS 10), defScope (topS 10), [], []⟩
def n_law_rows : List Str := ["grammar", "found", "last", "rows", "here", "row", "name", "shape", "then"]
theorem c_law_rows : chkL tb n_law_rows (defScope (topS 10)) b_law_rows.body (defBody (topS 10)) = true := by decide +kernel
theorem s_law_rows : FnScope n_law_rows ["grammar"] (defScope (topS 10)) := ⟨by rfl, by rfl, by rfl, by decide +kernel, by rfl, by decide +kernel, by decide +kernel⟩
def d_law_ending : He.DefD := ⟨("_law_ending", none), "_law_ending", "_law_ending", defArgs (topS 11), defBody (topS 11), defScope (topS 11), [], []⟩
def n_law_ending : List Str := ["grammar", "found", "k", "here", "state", "name", "shape", "then"]
theorem c_law_ending : chkL tb n_law_ending (defScope (topS 11)) b_law_ending.body (defBody (topS 11)) = true := by decide +kernel
theorem s_law_ending : FnScope n_law_ending ["grammar"] (defScope (topS 11)) := ⟨by rfl, by rfl, by rfl, by decide +kernel, by rfl, by decide +kernel, by decide +kernel⟩
def d_law_good : He.DefD := ⟨("_law_good", none), "_law_good", "_law_good", defArgs (topS 12), defBody (topS 12), defScope (topS 12), [], []⟩
def n_law_good : List Str := ["grammar", "handed", "rows", "due", "told", "state"]
theorem c_law_good : chkL tb n_law_good (defScope (topS 12)) b_law_good.body (defBody (topS 12)) = true := by decide +kernel
theorem s_law_good : FnScope n_law_good ["grammar"] (defScope (topS 12)) := ⟨by rfl, by rfl, by rfl, by decide +kernel, by rfl, by decide +kernel, by decide +kernel⟩
def d_law : He.DefD := ⟨("law", none), "law", "law", defArgs (topS 13), defBody (topS 13), defScope (topS 13), [], []⟩
def n_law : List Str := ["script", "k", "many"]
theorem c_law : chkL tb n_law (defScope (topS 13)) b_law.body (defBody (topS 13)) = true := by decide +kernel
theorem s_law : FnScope n_law ["script"] (defScope (topS 13)) := ⟨by rfl, by rfl, by rfl, by decide +kernel, by rfl, by decide +kernel, by decide +kernel⟩
def fa : List He.Fa := [.glo "nexts_of", .glo "rows_to", .glo "reached", .glo "ending", .glo "_law_cell", .glo "_law_mixed", .glo "_law_states", .glo "_law_words", .glo "_law_rows", .glo "_law_ending", .glo "_law_good", .glo "law", .free "sorted", .free "range", .free "len", .free "list"]
def fns : List He.DefD := [d_nexts_of, d_rows_to, d_reached, d_ending, d_law_cell, d_law_mixed, d_law_states, d_law_words, d_law_rows, d_law_ending, d_law_good, d_law]
set_option maxHeartbeats 0 in
theorem prg {K : PySem.W.Frag} {h : Heap} {mg : Str → Option Value} (X : K.In h) (G : h.Ns mainGlobals mg) (c : He.SaysD fa fns K) : Prg K mg tb tab (fun _ => none) (fun _ => none) := by
  refine ⟨fun f x hx => ?_, fun p hp => ?_, fun x hx => ?_, xt_no, fun c0 f x h1 h2 => ?_, fun c0 x h1 h2 => ?_, rfl, fun f c1 m hx => ?_, ?_, ?_, fun c0 x h1 h2 => ?_⟩
  · match f, hx with
    | 0, hx =>
      cases hx
      obtain ⟨fd, F⟩ := c.def_ 0 (d := d_nexts_of) rfl
      exact ⟨b_nexts_of, _, fd, n_nexts_of, _, _, _, _, _, _, rfl, He.glo_ok X G (c.fact 0 (f := .glo "nexts_of") rfl), F, FunD.bindsN (ps := ["state"]) F (fun _ _ _ _ _ _ us hl => match us, hl with | [_], _ => rfl), s_nexts_of, rfl, rfl, rfl, c_nexts_of⟩
    | 1, hx =>
      cases hx
      obtain ⟨fd, F⟩ := c.def_ 1 (d := d_rows_to) rfl
      exact ⟨b_rows_to, _, fd, n_rows_to, _, _, _, _, _, _, rfl, He.glo_ok X G (c.fact 1 (f := .glo "rows_to") rfl), F, FunD.bindsN (ps := ["g"]) F (fun _ _ _ _ _ _ us hl => match us, hl with | [_], _ => rfl), s_rows_to, rfl, rfl, rfl, c_rows_to⟩
    | 2, hx =>
      cases hx
      obtain ⟨fd, F⟩ := c.def_ 2 (d := d_reached) rfl
      exact ⟨b_reached, _, fd, n_reached, _, _, _, _, _, _, rfl, He.glo_ok X G (c.fact 2 (f := .glo "reached") rfl), F, FunD.bindsN (ps := ["g"]) F (fun _ _ _ _ _ _ us hl => match us, hl with | [_], _ => rfl), s_reached, rfl, rfl, rfl, c_reached⟩
    | 3, hx =>
      cases hx
      obtain ⟨fd, F⟩ := c.def_ 3 (d := d_ending) rfl
      exact ⟨b_ending, _, fd, n_ending, _, _, _, _, _, _, rfl, He.glo_ok X G (c.fact 3 (f := .glo "ending") rfl), F, FunD.bindsN (ps := ["g"]) F (fun _ _ _ _ _ _ us hl => match us, hl with | [_], _ => rfl), s_ending, rfl, rfl, rfl, c_ending⟩
    | 4, hx =>
      cases hx
      obtain ⟨fd, F⟩ := c.def_ 4 (d := d_law_cell) rfl
      exact ⟨b_law_cell, _, fd, n_law_cell, _, _, _, _, _, _, rfl, He.glo_ok X G (c.fact 4 (f := .glo "_law_cell") rfl), F, FunD.bindsN (ps := ["script", "k"]) F (fun _ _ _ _ _ _ us hl => match us, hl with | [_, _], _ => rfl), s_law_cell, rfl, rfl, rfl, c_law_cell⟩
    | 5, hx =>
      cases hx
      obtain ⟨fd, F⟩ := c.def_ 5 (d := d_law_mixed) rfl
      exact ⟨b_law_mixed, _, fd, n_law_mixed, _, _, _, _, _, _, rfl, He.glo_ok X G (c.fact 5 (f := .glo "_law_mixed") rfl), F, FunD.bindsN (ps := ["cell", "k"]) F (fun _ _ _ _ _ _ us hl => match us, hl with | [_, _], _ => rfl), s_law_mixed, rfl, rfl, rfl, c_law_mixed⟩
    | 6, hx =>
      cases hx
      obtain ⟨fd, F⟩ := c.def_ 6 (d := d_law_states) rfl
      exact ⟨b_law_states, _, fd, n_law_states, _, _, _, _, _, _, rfl, He.glo_ok X G (c.fact 6 (f := .glo "_law_states") rfl), F, FunD.bindsN (ps := ["script", "start", "many"]) F (fun _ _ _ _ _ _ us hl => match us, hl with | [_, _, _], _ => rfl), s_law_states, rfl, rfl, rfl, c_law_states⟩
    | 7, hx =>
      cases hx
      obtain ⟨fd, F⟩ := c.def_ 7 (d := d_law_words) rfl
      exact ⟨b_law_words, _, fd, n_law_words, _, _, _, _, _, _, rfl, He.glo_ok X G (c.fact 7 (f := .glo "_law_words") rfl), F, FunD.bindsN (ps := ["state"]) F (fun _ _ _ _ _ _ us hl => match us, hl with | [_], _ => rfl), s_law_words, rfl, rfl, rfl, c_law_words⟩
    | 8, hx =>
      cases hx
      obtain ⟨fd, F⟩ := c.def_ 8 (d := d_law_rows) rfl
      exact ⟨b_law_rows, _, fd, n_law_rows, _, _, _, _, _, _, rfl, He.glo_ok X G (c.fact 8 (f := .glo "_law_rows") rfl), F, FunD.bindsN (ps := ["grammar"]) F (fun _ _ _ _ _ _ us hl => match us, hl with | [_], _ => rfl), s_law_rows, rfl, rfl, rfl, c_law_rows⟩
    | 9, hx =>
      cases hx
      obtain ⟨fd, F⟩ := c.def_ 9 (d := d_law_ending) rfl
      exact ⟨b_law_ending, _, fd, n_law_ending, _, _, _, _, _, _, rfl, He.glo_ok X G (c.fact 9 (f := .glo "_law_ending") rfl), F, FunD.bindsN (ps := ["grammar"]) F (fun _ _ _ _ _ _ us hl => match us, hl with | [_], _ => rfl), s_law_ending, rfl, rfl, rfl, c_law_ending⟩
    | 10, hx =>
      cases hx
      obtain ⟨fd, F⟩ := c.def_ 10 (d := d_law_good) rfl
      exact ⟨b_law_good, _, fd, n_law_good, _, _, _, _, _, _, rfl, He.glo_ok X G (c.fact 10 (f := .glo "_law_good") rfl), F, FunD.bindsN (ps := ["grammar"]) F (fun _ _ _ _ _ _ us hl => match us, hl with | [_], _ => rfl), s_law_good, rfl, rfl, rfl, c_law_good⟩
    | 11, hx =>
      cases hx
      obtain ⟨fd, F⟩ := c.def_ 11 (d := d_law) rfl
      exact ⟨b_law, _, fd, n_law, _, _, _, _, _, _, rfl, He.glo_ok X G (c.fact 11 (f := .glo "law") rfl), F, FunD.bindsN (ps := ["script"]) F (fun _ _ _ _ _ _ us hl => match us, hl with | [_], _ => rfl), s_law, rfl, rfl, rfl, c_law⟩
    | n + 12, hx => cases hx
  · simp only [tb, List.mem_cons, List.not_mem_nil, or_false] at hp
  · simp only [tb, List.mem_cons, List.not_mem_nil, or_false] at hx
    rcases hx with rfl | rfl | rfl | rfl
    · exact He.free_ok X G (c.fact 12 (f := .free "sorted") rfl)
    · exact He.free_ok X G (c.fact 13 (f := .free "range") rfl)
    · exact He.free_ok X G (c.fact 14 (f := .free "len") rfl)
    · exact He.free_ok X G (c.fact 15 (f := .free "list") rfl)
  · cases h1
  · cases h1
  · cases hx
  · exact fun c C h => (by cases h)
  · exact fun c x h => (by cases h)
  · cases h1
def nm0 : List PySem.Str := ["nexts_of", "rows_to", "reached", "ending", "_law_cell", "_law_mixed", "_law_states", "_law_words", "_law_rows", "_law_ending", "_law_good"]
def loose : List PySem.Str := nm0
abbrev Rr : PySem.W.OpenRow := PySem.W.OpenLaw.row PySem.Challenge.rw_wireparley_k41_states_reached_and_ending
abbrev hk : PySem.W.Hook := He.hookD 4 fa fns
def ob (s : PySem.W.SharedT) : He.AlD := He.obsDG 4 fa fns (HandSHeadRun.getT s)
theorem ob_eq (s : PySem.W.SharedT) : ob s = hk.obs s.abs := He.obsDG_eq (HandSHeadRun.getT_eq s)
theorem hrun (w : World) : HandSHeadRun.RunEq Rr (PySem.W.view Rr.prog [13]) hk ob 6000 loose w := by
  intro os
  kernel_rfl
end Wp
open PySem PySem.W PySem.Calls PyProof.Rows
set_option maxRecDepth 100000 in
set_option maxHeartbeats 0 in
theorem PySem.Challenge.cw_wireparley_k41_states_reached_and_ending_holds : PySem.Challenge.rw_wireparley_k41_states_reached_and_ending.Holds := by
  w_on; o_law
  refine HandSHeadRun.head_any (r := OpenLaw.row PySem.Challenge.rw_wireparley_k41_states_reached_and_ending) (q := view (OpenLaw.row PySem.Challenge.rw_wireparley_k41_states_reached_and_ending).prog [13]) (H := Wp.hk) (ob := Wp.ob) (M := 6000) (loose := Wp.loose) (d := HandSHeadRun.topDef (OpenLaw.row PySem.Challenge.rw_wireparley_k41_states_reached_and_ending).prog 13) (kwd := []) Wp.ob_eq
    (by kernel_rfl) (fun s => by kernel_rfl) Wp.hrun (by kernel_rfl) (by kernel_rfl) (by kernel_rfl) (by rfl) (by first | assumption | decide +kernel) (by decide +kernel) ⟨rfl, rfl, rfl, rfl, rfl, by decide +kernel⟩ ?hw ?hc
  case hw => w_witness2
  case hc =>
    refine Wp.walk_ofW (l := PySem.Challenge.rw_wireparley_k41_states_reached_and_ending) (n := 63) (k := 2 * (Wp.lawK + 1) + 2) (x := "script") (CXw := L2.CX (PySem.Challenge.rw_wireparley_k41_states_reached_and_ending).prog) rfl (by decide) (by kernel_rfl) ⟨rfl, by decide, by decide⟩ ?F ?X
    case X =>
      intro w H s e s' h
      obtain ⟨_, _, _, _, _, _, _, _, _, _, _, _, z⟩ := h
      exact z
    case F =>
      intro w mg fa h Y G hmg0
      obtain ⟨K, KX, c⟩ := Y
      have hmg : mg ("law" : PySem.Str) = some (.ref fa) := by
        have e : (HandSHeadRun.topDef (OpenLaw.row PySem.Challenge.rw_wireparley_k41_states_reached_and_ending).prog 13).name = ("law" : PySem.Str) := by kernel_rfl
        rw [← e]
        exact hmg0
      obtain ⟨fd, F⟩ := c.def_ 11 (d := Wp.d_law) rfl
      have e := hmg.symm.trans (He.glo_ok KX G (c.fact 11 (f := .glo "law") rfl))
      cases e
      exact Wp.law_end (f := Wp.f_law) (N := Wp.n_law) (Wp.prg KX G c) KX rfl F (L2.FunD.bindsA (ps := ["script"]) F fun _ _ _ _ _ _ us hl => match us, hl with | [_], _ => rfl) Wp.s_law rfl rfl rfl Wp.c_law (fun ns h hb => Wp.law_holds ns h hb)
