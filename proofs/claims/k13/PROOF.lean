import PyProof.Rows.All
import HandS.ForMost
import HandS.ForExc
import HandS.Conv
import HandS.Iter
import HandS.ExcInit
import HandS.ExcField
import HandS.IsInst
import KE.KExcIs
import HandS.Wide
import HandS.Deep
import HandS.Style
import HandS.TupAny
import HandS.TupMul
import HandS.Flow
import HandS.Codes
import PyProof.P3In
import KE.LtSeq
import KE.LtData
import HandS.TupLe
import HandS.SortInts
import PyProof.StrOps2
import HandS.DictEq
import PyProof.EqAt
import PyProof.EqKinds
import PyProof.NeKinds
import HandS.Text
import HandS.DictComp
import PyProof.ListStr
import HandS.List
import HandS.More
import HandS.Dict
import HandS.Flt
import HandS.HeadHook1
import HandS.Zip
import KE.GoesEnum
import HandS.TryOnly
import HandS.Defaults
import HandS.RaiseMore
import Wide.All
import OpenK.AllK
import Wide.FinOn
import KE.KStateDown
import Lean
import HandS.Head0
import HandS.Head1
import HandS.Head2
import HandS.HeadEnd
import HandS.EndBits
import HandS.HeadHook2
import PySem.Challenge.RW_wireparley_k13_what_is_a_grammar
set_option Elab.async false
set_option linter.all false
set_option maxRecDepth 100000
/-! WpD: data as trees, a small language of expressions and statements, and what must hold ahead of it (weakest preconditions). No model of Python here. -/
namespace Wp
open PySem

/-- data: lists that never change are trees; what changes stands in the memory at a place -/
inductive D where
  | non | bl (b : Bool) | int (i : Int) | str (x : Str)
  | tup (ds : List D) | lst (ds : List D)
  | scr (ns : List Int)
  | emp
  | loc (a : Addr)

/-- what stands in the memory -/
inductive Ob where
  | lst (ds : List D)
  | dic (kvs : List (Sum Int Str × D))
  | ins (c : Nat) (fs : List (Str × D))
  -- an object of the program's own class: its class, its fields
  | obj (c : Nat) (fs : List (Str × D))

abbrev Mem := Addr → Option Ob
def Mem.upd (M : Mem) (a : Addr) (o : Ob) : Mem := fun b => if b = a then some o else M b
def Mem.del (M : Mem) (a : Addr) : Mem := fun b => if b = a then none else M b

/-- an exception: its class, its fields -/
structure Exn where
  c : Nat
  fs : List (Str × D)

abbrev Env := List (Option D)
abbrev QK := D → Mem → Prop
abbrev BK := Bool → Mem → Prop
abbrev AK := List D → Mem → Prop
abbrev XQ := Exn → Mem → Prop

/-- the things in a list -/
def asL (M : Mem) : D → Option (List D)
  | .lst ds => some ds
  | .scr ns => some (ns.map .int)
  | .loc a => match M a with
    | some (.lst ds) => some ds
    | _ => none
  | _ => none
/-- a list that may be put together with another one -/
def asLT (M : Mem) : D → Option (List D)
  | .lst ds => some ds
  | .loc a => match M a with
    | some (.lst ds) => some ds
    | _ => none
  | _ => none
/-- the things in a list or a tuple -/
def asS (M : Mem) : D → Option (List D)
  | .tup ds => some ds
  | d => asL M d

/-- a new list: one that stays, or one in the memory -/
def newL (fr : Bool) (ds : List D) (M : Mem) (Q : QK) : Prop :=
  ds.length ≤ sizeLine ∧ match fr with
  | true => Q (.lst ds) M
  | false => ∀ p, M p = none → Q (.loc p) (M.upd p (.lst ds))

/-! ### equality, by value -/
mutual
/-- a tree without places as plain data -/
def toPy : D → Option PyData
  | .non => some .none
  | .bl b => some (.bool b)
  | .int i => some (.int i)
  | .str x => some (.str x)
  | .tup ds => (toPys ds).map .tuple
  | .lst ds => (toPys ds).map .list
  | .scr ns => some (.list (ns.map .int))
  | .emp => none
  | .loc _ => none
def toPys : List D → Option (List PyData)
  | [] => some []
  | d :: ds => match toPy d, toPys ds with
    | some p, some ps => some (p :: ps)
    | _, _ => none
end
/-- the same of a list in the memory, whose things are trees -/
def toPy1 (M : Mem) : D → Option PyData
  | .loc a => match M a with
    | some (.lst ds) => (toPys ds).map .list
    | _ => none
  | d => toPy d
def toPys1 (M : Mem) : List D → Option (List PyData)
  | [] => some []
  | d :: ds => match toPy1 M d, toPys1 M ds with
    | some p, some ps => some (p :: ps)
    | _, _ => none
/-- .. or a tuple of such -/
def toPyM (M : Mem) : D → Option PyData
  | .tup ds => (toPys1 M ds).map .tuple
  | d => toPy1 M d
def keyD : D → Option (Sum Int Str)
  | .int i => some (.inl i)
  | .str s => some (.inr s)
  | _ => none
def lookD (kvs : List (Sum Int Str × D)) (k : Sum Int Str) : Option D := (kvs.find? fun kv => decide (kv.1 = k)).map (·.2)
/-- the dict at a place -/
def dicAt (M : Mem) : D → Option (List (Sum Int Str × D))
  | .loc a => match M a with
    | some (.dic kvs) => some kvs
    | _ => none
  | _ => none
/-- two dicts, entry by entry -/
def dicEq (ls : List (Sum Int Str × D)) : List (Sum Int Str × D) → Option Bool
  | [] => some true
  | (k, v) :: r => match lookD ls k with
    | none => some false
    | some w => match toPy v, toPy w, dicEq ls r with
      | some p, some q, some b => if SeqAt.shaped p && SeqAt.shaped q then some (PyData.eqv p q && b) else none
      | _, _, _ => none

def optAll {α β : Type} (f : α → Option β) : List α → Option (List β)
  | [] => some []
  | d :: ds => match f d, optAll f ds with
    | some p, some ps => some (p :: ps)
    | _, _ => none
/-- a tree with places of lists at any depth (so deep at most) -/
def toPyF (M : Mem) : Nat → D → Option PyData
  | 0, _ => none
  | n + 1, d => match d with
    | .tup ds => (optAll (toPyF M n) ds).map .tuple
    | .lst ds => (optAll (toPyF M n) ds).map .list
    | .loc a => match M a with
      | some (.lst ds) => (optAll (toPyF M n) ds).map .list
      | _ => none
    | d => toPy d
mutual
/-- data that is alike to itself: flat things, tuples, lists, {}; so deep at most -/
def eqOk : Nat → D → Bool
  | 0, _ => false
  | n + 1, .tup ds => eqOks n ds
  | n + 1, .lst ds => eqOks n ds
  | _ + 1, .non => true
  | _ + 1, .bl _ => true
  | _ + 1, .int _ => true
  | _ + 1, .str _ => true
  | _ + 1, .emp => true
  | _ + 1, _ => false
def eqOks : Nat → List D → Bool
  | _, [] => true
  | n, d :: ds => eqOk n d && eqOks n ds
end
/-- what is no dict's place, nor the script -/
def flK : D → Bool
  | .non => true
  | .bl _ => true
  | .int _ => true
  | .str _ => true
  | .tup _ => true
  | .lst _ => true
  | .emp => true
  | _ => false
def allStr : List D → Bool
  | [] => true
  | .str _ :: r => allStr r
  | _ :: _ => false
/-- two lists of the same -/
def eqX (neg : Bool) (x y : D) (M : Mem) (Q : QK) : Prop :=
  match x, y with
  | .lst ds, .lst es => ds = es ∧ eqOks 60 ds = true ∧ Q (.bl (!neg)) M
  | .tup (d :: _ :: _), .tup [.str _] => flK d = true ∧ Q (.bl neg) M
  | .tup ds, .tup es => ds = es ∧ eqOks 60 ds = true ∧ Q (.bl (!neg)) M
  | .emp, .emp => Q (.bl (!neg)) M
  | .loc a, .loc b => match dicAt M (.loc a), dicAt M (.loc b) with
    | some ks, some ls => match dicEq ls ks with
      | some r => Q (.bl (if neg then !(ks.length == ls.length && r) else ks.length == ls.length && r)) M
      | none => False
    | _, _ => False
  | _, _ => False
/-- == of data with places at any depth -/
def eqF (neg : Bool) (x y : D) (M : Mem) (Q : QK) : Prop :=
  match toPyF M 30 x, toPyF M 30 y with
  | some d, some e => SeqAt.shaped d = true ∧ SeqAt.shaped e = true ∧ Q (.bl (if neg then !PyData.eqv d e else PyData.eqv d e)) M
  | _, _ => eqX neg x y M Q
/-- == and != of data -/
def eqP (neg : Bool) (x y : D) (M : Mem) (Q : QK) : Prop :=
  match toPyM M x, toPyM M y with
  | some d, some e => SeqAt.shaped d = true ∧ SeqAt.shaped e = true ∧ Q (.bl (if neg then !PyData.eqv d e else PyData.eqv d e)) M
  | _, _ => eqF neg x y M Q
/-- of two tuples one is empty, and one alone -/
def eqU : D → D → Bool
  | .tup [], .tup (_ :: _) => true
  | .tup (_ :: _), .tup [] => true
  | _, _ => false
/-- .. lists of unlike lengths may hold anything -/
def eqL (neg : Bool) (x y : D) (M : Mem) (Q : QK) : Prop :=
  match asL M x, asL M y with
  | some xs, some ys => if xs.length = ys.length then eqP neg x y M Q else Q (.bl neg) M
  | _, _ => match eqU x y with
    | true => Q (.bl neg) M
    | false => eqP neg x y M Q
/-- .. of plain things -/
def eqA : D → D → Option Bool
  | .str a, .str b => some (decide (a = b))
  | .int a, .int b => some (decide (a = b))
  | .bl a, .bl b => some (decide (a = b))
  | .non, .non => some true
  | .non, .int _ => some false
  | .non, .bl _ => some false
  | .non, .str _ => some false
  | .int _, .non => some false
  | .bl _, .non => some false
  | .str _, .non => some false
  | .int _, .str _ => some false
  | .bl _, .str _ => some false
  | .str _, .int _ => some false
  | .str _, .bl _ => some false
  | _, _ => none
def eqW (neg : Bool) (x y : D) (M : Mem) (Q : QK) : Prop :=
  match eqA x y with
  | some b => Q (.bl (if neg then !b else b)) M
  | none => eqL neg x y M Q
def inS (neg : Bool) (x y : D) (M : Mem) (Q : QK) : Prop :=
  match x, y with
  | .str a, .str b => Q (.bl (if neg then !(!(Builtin.Str.occurrences b a 0 b.length 1).isEmpty) else !(Builtin.Str.occurrences b a 0 b.length 1).isEmpty)) M
  | .emp, .tup ys => allStr ys = true ∧ Q (.bl neg) M
  | x, y => match toPyM M x, asS M y with
    | some d, some ys => match toPys ys with
      | some ds => SeqAt.shaped d = true ∧ SeqAt.shaped (.list ds) = true ∧ Q (.bl (if neg then !(ds.any fun z => PyData.eqv z d) else ds.any fun z => PyData.eqv z d)) M
      | none => False
    | _, _ => False
def inW (neg : Bool) (x y : D) (M : Mem) (Q : QK) : Prop :=
  match dicAt M y with
  | some kvs => match keyD x with
    | some k => Q (.bl (if neg then !(lookD kvs k).isSome else (lookD kvs k).isSome)) M
    | none => False
  | none => inS neg x y M Q

/-! ### operators -/
def b2i (b : Bool) : Int := if b then 1 else 0
/-- factors together below so many bits -/
def mulOk (i j : Int) : Prop := i.natAbs.log2 + j.natAbs.log2 < 100000000
def addW (fr : Bool) (x y : D) (M : Mem) (Q : QK) : Prop :=
  match x, y with
  | .int i, .int j => Q (.int (i + j)) M
  | .str a, .str b => a.length + b.length ≤ sizeLine ∧ Q (.str (a ++ b)) M
  | .tup a, .tup b => a.length + b.length ≤ sizeLine ∧ Q (.tup (a ++ b)) M
  | x, y => match asLT M x, asLT M y with
    | some a, some b => newL fr (a ++ b) M Q
    | _, _ => False
/-- a text, n times -/
def repS (z : Str) (n : Nat) : Str := ⟨(List.replicate n z.cps.toList).flatten.toArray⟩
def mulW (fr : Bool) (x y : D) (M : Mem) (Q : QK) : Prop :=
  match x, y with
  | .int i, .int j => mulOk i j ∧ Q (.int (i * j)) M
  | .str z, .int k => -(2 ^ 63) ≤ k ∧ k < 2 ^ 63 ∧ z.length * k.toNat ≤ sizeLine ∧ Q (.str (repS z k.toNat)) M
  | .tup a, .int k => -(2 ^ 63) ≤ k ∧ k ≤ 1000 ∧ a.length ≤ 1000 ∧ Q (.tup (List.replicate k.toNat a).flatten) M
  | x, .int k => match asLT M x with
    | some a => -(2 ^ 63) ≤ k ∧ k < 2 ^ 63 ∧ a.length * k.toNat ≤ sizeLine ∧ newL fr (List.replicate k.toNat a).flatten M Q
    | none => False
  | _, _ => False
def binW (op : Operator) (fr : Bool) (x y : D) (M : Mem) (Q : QK) : Prop :=
  match op with
  | .Add => addW fr x y M Q
  | .Mult => mulW fr x y M Q
  | .Sub => match x, y with
    | .int i, .int j => Q (.int (i - j)) M
    | _, _ => False
  | .Mod => match x, y with
    | .int i, .int j => 0 < j ∧ Q (.int (i % j)) M
    | _, _ => False
  | .FloorDiv => match x, y with
    | .int i, .int j => 0 < j ∧ j.natAbs.log2 < 9000 ∧ Q (.int (i / j)) M
    | _, _ => False
  | .Pow => match x, y with
    | .int i, .int j => (0 ≤ j ∧ j ≤ 1000000 ∧ i.natAbs < 2 ^ 64) ∧ Q (.int (i ^ j.toNat)) M
    | _, _ => False
  | _ => False
def negW (x : D) (M : Mem) (Q : QK) : Prop :=
  match x with
  | .int i => Q (.int (-i)) M
  | _ => False
def intsOf : List D → Option (List Int)
  | [] => some []
  | .int i :: ds => (intsOf ds).map (i :: ·)
  | _ :: _ => none
/-- lists of ints, one ahead of the other -/
def gtL : List Int → List Int → Bool
  | [], _ => false
  | _ :: _, [] => true
  | x :: xs, y :: ys => if x = y then gtL xs ys else decide (y < x)
def cmpW (op : CmpOp) (x y : D) (M : Mem) (Q : QK) : Prop :=
  match op with
  | .Eq => eqW false x y M Q
  | .NotEq => eqW true x y M Q
  | .Lt => match x, y with
    | .int i, .int j => Q (.bl (decide (i < j))) M
    | .str a, .str b => Q (.bl (decide (a.cps.toList < b.cps.toList))) M
    | _, _ => False
  | .LtE => match x, y with
    | .int i, .int j => Q (.bl (decide (i ≤ j))) M
    | .str a, .str b => Q (.bl (!decide (b.cps.toList < a.cps.toList))) M
    | _, _ => False
  | .Gt => match x, y with
    | .int i, .int j => Q (.bl (decide (j < i))) M
    | .str a, .str b => Q (.bl (decide (b.cps.toList < a.cps.toList))) M
    | x, y => match asL M x, asL M y with
      | some xs, some ys => match intsOf xs, intsOf ys with
        | some ns, some ms => Q (.bl (gtL ns ms)) M
        | _, _ => False
      | _, _ => False
  | .GtE => match x, y with
    | .int i, .int j => Q (.bl (decide (j ≤ i))) M
    | .str a, .str b => Q (.bl (!decide (a.cps.toList < b.cps.toList))) M
    | _, _ => False
  | .Is => match x, y with
    | .bl a, .bl b => Q (.bl (decide (a = b))) M
    | .non, .non => Q (.bl true) M
    | .loc _, .non => Q (.bl false) M
    | .int _, .non => Q (.bl false) M
    | .bl _, .non => Q (.bl false) M
    | .str _, .non => Q (.bl false) M
    | .tup _, .non => Q (.bl false) M
    | .lst _, .non => Q (.bl false) M
    | .scr _, .non => Q (.bl false) M
    | .emp, .non => Q (.bl false) M
    | _, _ => False
  | .IsNot => match x, y with
    | .bl a, .bl b => Q (.bl (!decide (a = b))) M
    | .non, .non => Q (.bl false) M
    | .loc _, .non => Q (.bl true) M
    | .int _, .non => Q (.bl true) M
    | .bl _, .non => Q (.bl true) M
    | .str _, .non => Q (.bl true) M
    | .tup _, .non => Q (.bl true) M
    | .lst _, .non => Q (.bl true) M
    | .scr _, .non => Q (.bl true) M
    | .emp, .non => Q (.bl true) M
    | _, _ => False
  | .In => inW false x y M Q
  | .NotIn => inW true x y M Q
/-- a value's truth -/
def truW (x : D) (M : Mem) (Q : BK) : Prop :=
  match x with
  | .non => Q false M
  | .bl b => Q b M
  | .int i => Q (i != 0) M
  | .str x => x.length ≤ sizeLine ∧ Q ((x.length : Int) != 0) M
  | .emp => Q false M
  | x => match asS M x with
    | some ds => Q (!ds.isEmpty) M
    | none => False

/-! ### subscripts -/
def ixN (n : Nat) (i : Int) : Option Nat := if 0 ≤ i then (if i < n then some i.toNat else none) else if -(n : Int) ≤ i then some (i + n).toNat else none
def atI {α : Type} (xs : List α) (i : Int) : Option α := (ixN xs.length i).bind fun j => xs[j]?
def idxW (x i : D) (M : Mem) (Q : QK) : Prop :=
  match x, i with
  | .str z, .int k => z.length ≤ sizeLine ∧ match atI z.cps.toList k with
    | some c => Q (.str ⟨#[c]⟩) M
    | none => False
  | x, .int k => match asS M x with
    | some ds => match atI ds k with
      | some d => Q d M
      | none => False
    | none => False
  | _, _ => False
/-- the place where a slice's end lies -/
def slN (n d : Nat) : Option Int → Nat
  | none => d
  | some i => if i < 0 then (i + n).toNat else min i.toNat n
def cut {α : Type} (xs : List α) (lo hi : Option Int) : List α :=
  (xs.drop (slN xs.length 0 lo)).take (slN xs.length xs.length hi - slN xs.length 0 lo)
def sliW (fr : Bool) (x : D) (lo hi : Option Int) (M : Mem) (Q : QK) : Prop :=
  match x with
  | .str z => z.length ≤ sizeLine ∧ Q (.str ⟨(cut z.cps.toList lo hi).toArray⟩) M
  | .tup ds => Q (.tup (cut ds lo hi)) M
  | x => match asL M x with
    | some ds => newL fr (cut ds lo hi) M Q
    | none => False

/-- x[::-1] -/
def revW (fr : Bool) (x : D) (M : Mem) (Q : QK) : Prop :=
  match x with
  | .tup ds => Q (.tup ds.reverse) M
  | x => match asL M x with
    | some ds => newL fr ds.reverse M Q
    | none => False

/-! ### built-ins -/
inductive Bi where
  | len | int_ | list_ | tuple_ | str_ | ord_ | abs_ | min_ | max_ | sum_ | all_ | any_ | sorted_ | dict_
  deriving DecidableEq
/-- the kinds that isinstance asks for -/
inductive Ty where
  | int_ | bool_ | str_ | tuple_ | list_ | dict_
  deriving DecidableEq
def isiB (t : Ty) (x : D) (M : Mem) : Option Bool :=
  match x with
  | .non => some false
  | .bl _ => some (t = .int_ || t = .bool_)
  | .int _ => some (t = .int_)
  | .str _ => some (t = .str_)
  | .tup _ => some (t = .tuple_)
  | .lst _ => some (t = .list_)
  | .scr _ => some (t = .list_)
  | .emp => some (t = .dict_)
  | .loc a => match M a with
    | some (.lst _) => some (t = .list_)
    | some (.dic _) => some (t = .dict_)
    | _ => none
/-- .. of one of these -/
def istB : List Ty → D → Mem → Option Bool
  | [], _, _ => some false
  | t :: ts, x, M => match isiB t x M, istB ts x M with
    | some a, some b => some (a || b)
    | _, _ => none
def bools : List D → Option (List Bool)
  | [] => some []
  | .bl i :: ds => (bools ds).map (i :: ·)
  | _ :: _ => none
def lenW (x : D) (M : Mem) (Q : QK) : Prop :=
  match x with
  | .str z => z.length ≤ sizeLine ∧ Q (.int z.length) M
  | x => match asS M x with
    | some ds => Q (.int ds.length) M
    | none => False
def signs (z : Str) : List D := z.cps.toList.map fun c => .str ⟨#[c]⟩
def max2 (i j : Int) : Int := if i < j then j else i
def min2 (i j : Int) : Int := if j < i then j else i
/-- pairs of a key and a thing -/
def prsD : List D → Option (List (Sum Int Str × D))
  | [] => some []
  | .tup [k, v] :: r => match keyD k, prsD r with
    | some k, some kvs => some ((k, v) :: kvs)
    | _, _ => none
  | _ => none
def putD (kvs : List (Sum Int Str × D)) (k : Sum Int Str) (v : D) : List (Sum Int Str × D) :=
  if (kvs.any fun kv => decide (kv.1 = k)) = true then kvs.map (fun kv => if kv.1 = k then (kv.1, v) else kv) else kvs ++ [(k, v)]
def mergeD (kvs more : List (Sum Int Str × D)) : List (Sum Int Str × D) := more.foldl (fun acc kv => putD acc kv.1 kv.2) kvs
def biW (b : Bi) (fr : Bool) (ds : List D) (M : Mem) (Q : QK) : Prop :=
  match b, ds with
  | .len, [x] => lenW x M Q
  | .int_, [.int i] => Q (.int i) M
  | .int_, [.bl k] => Q (.int (if k then 1 else 0)) M
  | .int_, [.str a] => a.length ≤ 640 ∧ match PySem.intText? a with
    | some n => Q (.int n) M
    | none => False
  | .list_, [.str z] => z.length ≤ sizeLine ∧ newL fr (signs z) M Q
  | .list_, [x] => match asS M x with
    | some ds => newL fr ds M Q
    | none => False
  | .tuple_, [.tup ds] => Q (.tup ds) M
  | .tuple_, [x] => match asL M x with
    | some ds => Q (.tup ds) M
    | none => False
  | .str_, [.int i] => i.natAbs.log2 < 1920 ∧ Q (.str (toString i)) M
  | .ord_, [.str x] => x.length = 1 ∧ Q (.int (x.cps.getD 0 0 : Nat)) M
  | .abs_, [.int i] => Q (.int (if i < 0 then -i else i)) M
  | .min_, [.int i, .int j] => Q (.int (if j < i then j else i)) M
  | .max_, [.int i, .int j] => Q (.int (if j > i then j else i)) M
  | .min_, [.int i, .int j, .int k] => Q (.int (min2 (min2 i j) k)) M
  | .max_, [.int i, .int j, .int k] => Q (.int (max2 (max2 i j) k)) M
  | .min_, [x] => match asL M x with
    | some ds => match intsOf ds with
      | some ns => 0 < ns.length ∧ ∀ m, m ∈ ns → (∀ y, y ∈ ns → m ≤ y) → Q (.int m) M
      | none => False
    | none => False
  | .max_, [x] => match asL M x with
    | some ds => match intsOf ds with
      | some ns => 0 < ns.length ∧ ∀ m, m ∈ ns → (∀ y, y ∈ ns → y ≤ m) → Q (.int m) M
      | none => False
    | none => False
  | .sum_, [x] => match asL M x with
    | some ds => match intsOf ds with
      | some ns => Q (.int ns.sum) M
      | none => False
    | none => False
  | .sorted_, [x] => match asL M x with
    | some ds => match intsOf ds with
      | some ns => ∀ ns' : List Int, ns'.Perm ns → ns'.Pairwise (· ≤ ·) → newL fr (ns'.map D.int) M Q
      | none => False
    | none => False
  | .all_, [x] => match asL M x with
    | some ds => match bools ds with
      | some bs => Q (.bl (bs.all id)) M
      | none => False
    | none => False
  | .dict_, [x] => match asL M x with
    | some ds => match prsD ds with
      | some kvs => ∀ p, M p = none → Q (.loc p) (M.upd p (.dic (mergeD [] kvs)))
      | none => False
    | none => False
  | _, _ => False

/-! ### methods of built-in kinds -/
inductive Bm where
  | append | extend | index | join | pop | reverse_ | clear | insert | find | upper | split | partition
  deriving DecidableEq
def strsOf : List D → Option (List Str)
  | [] => some []
  | .str i :: ds => (strsOf ds).map (i :: ·)
  | _ :: _ => none
/-- what a method's receiver must be -/
def rcvW (b : Bm) (x : D) (M : Mem) : Prop :=
  match b with
  | .append => (asL M x).isSome = true
  | .extend => (asL M x).isSome = true
  | .index => (asL M x).isSome = true
  | .pop => (asL M x).isSome = true
  | .reverse_ => (asL M x).isSome = true
  | .clear => (asL M x).isSome = true
  | .insert => (asL M x).isSome = true
  | _ => match x with
    | .str _ => True
    | _ => False
def eqAll (d : PyData) : List PyData → Bool
  | [] => false
  | z :: zs => PyData.eqv z d || eqAll d zs
/-- the place of the first equal thing -/
def firstOf (d : PyData) : List PyData → Nat → Option Nat
  | [], _ => none
  | z :: zs, n => if PyData.eqv z d = true then some n else firstOf d zs (n + 1)
def bmW (b : Bm) (fr : Bool) (x : D) (ds : List D) (M : Mem) (Q : QK) : Prop :=
  match b, x, ds with
  | .append, .loc a, [y] => match M a with
    | some (.lst xs) => xs.length < sizeLine ∧ Q .non (M.upd a (.lst (xs ++ [y])))
    | _ => False
  | .extend, .loc a, [y] => match M a, asLT M y with
    | some (.lst xs), some ys => xs.length + ys.length ≤ sizeLine ∧ Q .non (M.upd a (.lst (xs ++ ys)))
    | _, _ => False
  | .reverse_, .loc a, [] => match M a with
    | some (.lst xs) => Q .non (M.upd a (.lst xs.reverse))
    | _ => False
  | .clear, .loc a, [] => match M a with
    | some (.lst xs) => Q .non (M.upd a (.lst []))
    | _ => False
  | .insert, .loc a, [.int i, y] => match M a with
    | some (.lst xs) => xs.length < sizeLine ∧ 0 ≤ i ∧ i < 2 ^ 63 ∧ Q .non (M.upd a (.lst (xs.take i.toNat ++ [y] ++ xs.drop i.toNat)))
    | _ => False
  | .pop, .loc a, [.int i] => match M a with
    | some (.lst xs) => 0 ≤ i ∧ i < 2 ^ 63 ∧ match xs[i.toNat]? with
      | some y => Q y (M.upd a (.lst (xs.eraseIdx i.toNat)))
      | none => False
    | _ => False
  | .pop, .loc a, [] => match M a with
    | some (.lst xs) => match xs[xs.length - 1]? with
      | some y => Q y (M.upd a (.lst xs.dropLast))
      | none => False
    | _ => False
  | .join, .str a, [y] => match asS M y with
    | some ys => match strsOf ys with
      | some zs => (zs.map (·.length)).sum + zs.length * a.length ≤ 16777216 ∧ Q (.str (Txt.join a zs)) M
      | none => False
    | none => False
  | .index, x, [y] => match asL M x, toPyM M y with
    | some xs, some d => match toPys xs with
      | some ps => SeqAt.shaped (.list ps) = true ∧ SeqAt.shaped d = true ∧ match firstOf d ps 0 with
        | some j => Q (.int (j : Nat)) M
        | none => False
      | none => False
    | _, _ => False
  | .find, .str a, [.str b] => Q (.int (Txt.find a b)) M
  | .upper, .str a, [] => a.length ≤ 5592405 ∧ Q (.str (Txt.upper a)) M
  | .split, .str a, [.str b] => (b.length == 0) = false ∧ a.length + 2 ≤ sizeLine ∧ newL fr ((Txt.split a b).map D.str) M Q
  | .partition, .str a, [.str b] => (b.length == 0) = false ∧ a.length ≤ sizeLine ∧ Q (.tup [.str (Txt.partition a b).1, .str (Txt.partition a b).2.1, .str (Txt.partition a b).2.2]) M
  | _, _, _ => False

/-! ### dicts with ints and texts as keys -/
def dgetW (x k : D) (M : Mem) (Q : QK) : Prop :=
  match x with
  | .loc a => match M a, keyD k with
    | some (.dic kvs), some k => match lookD kvs k with
      | some v => Q v M
      | none => False
    | _, _ => False
  | _ => False
def dgtW (x k : D) (M : Mem) (Q : QK) : Prop :=
  match dicAt M x, keyD k with
  | some kvs, some k => Q ((lookD kvs k).getD .non) M
  | _, _ => False
def dputW (o k v : D) (M : Mem) (Q : Mem → Prop) : Prop :=
  match o with
  | .loc a => match M a, keyD k with
    | some (.dic kvs), some k => kvs.length < sizeLine ∧ Q (M.upd a (.dic (putD kvs k v)))
    | _, _ => False
  | _ => False

/-! ### exceptions -/
/-- class c is class d's or stands under it (0: ValueError; 1: the program's own base) -/
def subX (c d : Nat) : Bool := decide (c = d) || decide (d ≤ 1)
def isxW (x : D) (c : Nat) (M : Mem) (Q : QK) : Prop :=
  match x with
  | .loc a => match M a with
    | some (.ins k _) => Q (.bl (subX k c)) M
    | _ => False
  | _ => False
def ixsW (x : D) (cs : List Nat) (M : Mem) (Q : QK) : Prop :=
  match x with
  | .loc a => match M a with
    | some (.ins k _) => Q (.bl (cs.any fun c => subX k c)) M
    | _ => False
  | _ => False
def atrW (x : D) (f : Str) (M : Mem) (Q : QK) : Prop :=
  match x with
  | .loc a => match M a with
    | some (.ins _ fs) => match fs.lookup f with
      | some d => Q d M
      | none => False
    | _ => False
  | _ => False

/-! ### objects -/
def putS (f : Str) (d : D) : List (Str × D) → List (Str × D)
  | [] => [(f, d)]
  | (g, x) :: r => if g = f then (g, d) :: r else (g, x) :: putS f d r
def fldW (x : D) (f : Str) (M : Mem) (Q : QK) : Prop :=
  match x with
  | .loc a => match M a with
    | some (.obj _ fs) => match fs.lookup f with
      | some d => Q d M
      | none => False
    | _ => False
  | _ => False
def sflW (x : D) (f : Str) (v : D) (M : Mem) (Q : Mem → Prop) : Prop :=
  match x with
  | .loc a => match M a with
    | some (.obj c fs) => fs.length < 1000 ∧ Q (M.upd a (.obj c (putS f v fs)))
    | _ => False
  | _ => False
def clsW (x : D) (M : Mem) : Option Nat :=
  match x with
  | .loc a => match M a with
    | some (.obj c _) => some c
    | _ => none
  | _ => none
/-- what the receiver of a method must be -/
def mthW (x : D) (c : Nat) (m : Str) (M : Mem) : Prop :=
  match x with
  | .loc a => match M a with
    | some (.obj k fs) => k = c ∧ fs.lookup m = none
    | _ => False
  | _ => False

/-! ### the language -/
/-- a target: a name, or a tuple of targets (co t (co .. no)) -/
inductive Tg where
  | nm (i : Nat) | no | co (t ts : Tg)
inductive Ex where
  | var (i : Nat)
  | non | bl (b : Bool) | int (i : Int) | str (x : Str)
  | glob (x : Str) (d : D)
  | bin (op : Operator) (fr : Bool) (a b : Ex)
  | neg (a : Ex) | not (a : Ex) | and (a b : Ex) | or (a b : Ex)
  | cmp (op : CmpOp) (a b : Ex)
  | ch2 (o1 o2 : CmpOp) (a b c : Ex)
  | ch3 (o1 o2 o3 : CmpOp) (a b c d : Ex)
  | ife (t a b : Ex)
  | tup (es : Ex) | lst (fr : Bool) (es : Ex) | emp
  -- a dict with written keys; d[k]
  | dct (ks : List (Sum Int Str)) (es : Ex) | dget (a i : Ex)
  | nil | cons (e es : Ex)
  | call (f : Nat) (es : Ex)
  -- [f, g, ..][i](es)
  | cll (fs : List Nat) (i es : Ex)
  | bi (b : Bi) (fr : Bool) (es : Ex)
  | isi (a : Ex) (t : Ty)
  -- isinstance, kinds in a tuple; d.get(k); what is walked: reversed(list)
  | ist (a : Ex) (ts : List Ty) | dgt (d k : Ex) | itr (e : Ex)
  -- isinstance of a caught exception; its field
  | isx (a : Ex) (c : Nat) | atr (a : Ex) (f : Str)
  -- an object's field; o.m(es), m of class c the def f; C(es), c its number, f its __init__
  | fld (a : Ex) (f : Str) | mth (o : Ex) (c : Nat) (m : Str) (f : Nat) (es : Ex) | mk (c f : Nat) (es : Ex)
  -- isinstance of a caught exception, classes in a tuple
  | ixs (a : Ex) (cs : List Nat)
  | bm (b : Bm) (fr : Bool) (o : Ex) (es : Ex)
  | idx (a i : Ex)
  | sli (fr : Bool) (a lo hi : Ex)
  | rev (fr : Bool) (a : Ex)
  -- list(range(..))
  | lrg (fr : Bool) (es : Ex)
  | part (a : Ex) | nopart
  | comp (fr : Bool) (own : List Nat) (tg : Tg) (iter cond elt : Ex)
  -- what is walked
  | itl (e : Ex) | itt (e : Ex) | its (e : Ex) | it1 (a : Ex) | it2 (a b : Ex) | it3 (a b c : Ex) | ite (e : Ex) | itz (a b : Ex)

/-- a walk: the things, and what must stand still -/
structure Wk where
  items : List D
  still : Mem → Prop

def slv (env : Env) (i : Nat) : Option D := (env[i]?).join
def setV (env : Env) (i : Nat) (d : D) : Env := env.set i (some d)
/-! a store to a target -/
mutual
def tgW : Tg → D → Env → (Env → Prop) → Prop
  | .nm i, d, env, Q => Q (setV env i d)
  | .no, d, env, Q => match d with
    | .tup [] => Q env
    | .lst [] => Q env
    | _ => False
  | .co t ts, d, env, Q => match d with
    | .tup (d :: ds) => tgW t d env fun e => tgsW ts ds e Q
    | .lst (d :: ds) => tgW t d env fun e => tgsW ts ds e Q
    | _ => False
def tgsW : Tg → List D → Env → (Env → Prop) → Prop
  | .no, [], env, Q => Q env
  | .co t ts, d :: ds, env, Q => tgW t d env fun e => tgsW ts ds e Q
  | _, _, _, _ => False
end
def stillAt (d : D) (ds : List D) : Mem → Prop :=
  match d with
  | .loc a => fun M' => M' a = some (.lst ds)
  | _ => fun _ => True
/-- a list (or a tuple) walked -/
def walkL (d : D) (M : Mem) (Q : Wk → Mem → Prop) : Prop :=
  match d with
  | .tup ds => Q ⟨ds, fun _ => True⟩ M
  | d => match asL M d with
    | some ds => Q ⟨ds, stillAt d ds⟩ M
    | none => False
def walkT (d : D) (M : Mem) (Q : Wk → Mem → Prop) : Prop :=
  match d with
  | .tup ds => Q ⟨ds, fun _ => True⟩ M
  | _ => False
def walkS (d : D) (M : Mem) (Q : Wk → Mem → Prop) : Prop :=
  match d with
  | .str z => Q ⟨signs z, fun _ => True⟩ M
  | _ => False
def rng (lo : Int) (n : Nat) : List D := (List.range n).map fun i => .int (lo + (i : Nat))
def rngC (lo c : Int) (n : Nat) : List D := (List.range n).map fun i => .int (lo + (i : Nat) * c)
def inB (i : Int) : Prop := -(2 ^ 62) ≤ i ∧ i < 2 ^ 62
def walkR (ds : List D) (M : Mem) (Q : Wk → Mem → Prop) : Prop :=
  match ds with
  | [.int j] => inB j ∧ Q ⟨rng 0 j.toNat, fun _ => True⟩ M
  | [.int i, .int j] => (inB i ∧ inB j) ∧ Q ⟨rng i (j - i).toNat, fun _ => True⟩ M
  | [.int i, .int j, .int c] => match decide (0 < c) with
    | true => (inB i ∧ inB j ∧ c < 1000000) ∧ Q ⟨rngC i c (Builtin.Range.rangeSize i j c).toNat, fun _ => True⟩ M
    | false => (inB i ∧ inB j ∧ c = -1) ∧ Q ⟨rngC i (-1) (i - j).toNat, fun _ => True⟩ M
  | _ => False
def enumD : Nat → List D → List D
  | _, [] => []
  | n, d :: ds => .tup [.int (n : Nat), d] :: enumD (n + 1) ds
/-- a list (or a tuple) numbered -/
def enumW (x : D) (M : Mem) (Q : Wk → Mem → Prop) : Prop :=
  match x with
  | .tup ds => Q ⟨enumD 0 ds, fun _ => True⟩ M
  | x => match asL M x with
    | some ds => Q ⟨enumD 0 ds, stillAt x ds⟩ M
    | none => False
def zipD : List D → List D → List D
  | d :: ds, e :: es => .tup [d, e] :: zipD ds es
  | _, _ => []
/-- two lists, or two tuples, side by side -/
def zipW (x y : D) (M : Mem) (Q : Wk → Mem → Prop) : Prop :=
  match x, y with
  | .tup ds, .tup es => Q ⟨zipD ds es, fun _ => True⟩ M
  | x, y => match asL M x, asL M y with
    | some ds, some es => Q ⟨zipD ds es, fun M => stillAt x ds M ∧ stillAt y es M⟩ M
    | _, _ => False
/-- a comprehension: thing by thing -/
def compW (step : D → Env → Mem → (Option D → Mem → Prop) → Prop) (still : Mem → Prop) (env : Env) : List D → List D → Mem → AK → Prop
  | [], acc, M, Q => still M ∧ Q acc M
  | d :: ds, acc, M, Q => still M ∧ step d env M fun o M1 => match o with
    | some y => acc.length < sizeLine ∧ compW step still env ds (acc ++ [y]) M1 Q
    | none => compW step still env ds acc M1 Q
def wipeE (env : Env) (own : List Nat) : Env := own.foldr (fun i e => e.set i none) env

section
variable (R : Nat → List D → Mem → QK → XQ → Prop)
mutual
def wpE : Ex → Env → Mem → QK → XQ → Prop
  | .var i, env, M, Q, _ => match slv env i with
    | some d => Q d M
    | none => False
  | .non, _, M, Q, _ => Q .non M
  | .bl b, _, M, Q, _ => Q (.bl b) M
  | .int i, _, M, Q, _ => Q (.int i) M
  | .str x, _, M, Q, _ => Q (.str x) M
  | .glob _ d, _, M, Q, _ => Q d M
  | .bin op fr a b, env, M, Q, E => wpE a env M (fun x M1 => wpE b env M1 (fun y M2 => binW op fr x y M2 Q) E) E
  | .neg a, env, M, Q, E => wpE a env M (fun x M1 => negW x M1 Q) E
  | .not a, env, M, Q, E => wpE a env M (fun x M1 => truW x M1 fun b M2 => Q (.bl (!b)) M2) E
  | .and a b, env, M, Q, E => wpE a env M (fun x M1 => truW x M1 fun c M2 => match c with
      | true => wpE b env M2 Q E
      | false => Q x M2) E
  | .or a b, env, M, Q, E => wpE a env M (fun x M1 => truW x M1 fun c M2 => match c with
      | true => Q x M2
      | false => wpE b env M2 Q E) E
  | .cmp op a b, env, M, Q, E => wpE a env M (fun x M1 => wpE b env M1 (fun y M2 => cmpW op x y M2 Q) E) E
  | .ch2 o1 o2 a b c, env, M, Q, E => wpE a env M (fun x M1 => wpE b env M1 (fun y M2 => cmpW o1 x y M2 fun r M3 => match r with
      | .bl true => wpE c env M3 (fun z M4 => cmpW o2 y z M4 Q) E
      | .bl false => Q (.bl false) M3
      | _ => False) E) E
  | .ch3 o1 o2 o3 a b c d, env, M, Q, E => wpE a env M (fun x M1 => wpE b env M1 (fun y M2 => cmpW o1 x y M2 fun r M3 => match r with
      | .bl true => wpE c env M3 (fun z M4 => cmpW o2 y z M4 fun r2 M5 => match r2 with
        | .bl true => wpE d env M5 (fun u M6 => cmpW o3 z u M6 Q) E
        | .bl false => Q (.bl false) M5
        | _ => False) E
      | .bl false => Q (.bl false) M3
      | _ => False) E) E
  | .ife t a b, env, M, Q, E => wpE t env M (fun x M1 => truW x M1 fun c M2 => match c with
      | true => wpE a env M2 Q E
      | false => wpE b env M2 Q E) E
  | .tup es, env, M, Q, E => wpA es env M (fun ds M1 => ds.length ≤ sizeLine ∧ Q (.tup ds) M1) E
  | .lst fr es, env, M, Q, E => wpA es env M (fun ds M1 => newL fr ds M1 Q) E
  | .emp, _, M, Q, _ => Q .emp M
  | .dct ks es, env, M, Q, E => ks.length ≤ 15 ∧ ∀ p, M p = none → wpA es env (M.upd p (.dic [])) (fun ds M1 => M1 p = some (.dic []) ∧ ks.length = ds.length ∧ Q (.loc p) (M1.upd p (.dic (mergeD [] (ks.zip ds))))) E
  | .dget a i, env, M, Q, E => wpE a env M (fun x M1 => wpE i env M1 (fun y M2 => dgetW x y M2 Q) E) E
  | .call f es, env, M, Q, E => wpA es env M (fun ds M1 => R f ds M1 Q E) E
  | .cll fs i es, env, M, Q, E => wpE i env M (fun y M1 => match y with
      | .int k => match atI fs k with
        | some f => wpA es env M1 (fun ds M2 => R f ds M2 Q E) E
        | none => False
      | _ => False) E
  | .bi b fr es, env, M, Q, E => wpA es env M (fun ds M1 => biW b fr ds M1 Q) E
  | .isi a t, env, M, Q, E => wpE a env M (fun x M1 => match isiB t x M1 with
      | some b => Q (.bl b) M1
      | none => False) E
  | .ist a ts, env, M, Q, E => wpE a env M (fun x M1 => match istB ts x M1 with
      | some b => Q (.bl b) M1
      | none => False) E
  | .dgt a i, env, M, Q, E => wpE a env M (fun x M1 => (dicAt M1 x).isSome = true ∧ wpE i env M1 (fun y M2 => dgtW x y M2 Q) E) E
  | .isx a c, env, M, Q, E => wpE a env M (fun x M1 => isxW x c M1 Q) E
  | .ixs a cs, env, M, Q, E => wpE a env M (fun x M1 => ixsW x cs M1 Q) E
  | .atr a f, env, M, Q, E => wpE a env M (fun x M1 => atrW x f M1 Q) E
  | .fld a f, env, M, Q, E => wpE a env M (fun x M1 => fldW x f M1 Q) E
  | .mth o c m f es, env, M, Q, E => wpE o env M (fun x M1 => mthW x c m M1 ∧ wpA es env M1 (fun ds M2 => R f (x :: ds) M2 Q E) E) E
  | .mk c f es, env, M, Q, E => wpA es env M (fun ds M1 => ∀ p, M1 p = none → R f (.loc p :: ds) (M1.upd p (.obj c [])) (fun v M2 => v = .non ∧ Q (.loc p) M2) E) E
  | .bm b fr o es, env, M, Q, E => wpE o env M (fun x M1 => rcvW b x M1 ∧ wpA es env M1 (fun ds M2 => bmW b fr x ds M2 Q) E) E
  | .idx a i, env, M, Q, E => wpE a env M (fun x M1 => wpE i env M1 (fun y M2 => idxW x y M2 Q) E) E
  | .sli fr a lo hi, env, M, Q, E => wpE a env M (fun x M1 => wpP lo env M1 (fun l M2 => wpP hi env M2 (fun h M3 => sliW fr x l h M3 Q) E) E) E
  | .lrg fr es, env, M, Q, E => wpA es env M (fun ds M1 => walkR ds M1 fun w M2 => newL fr w.items M2 Q) E
  | .rev fr a, env, M, Q, E => wpE a env M (fun x M1 => revW fr x M1 Q) E
  | .comp fr own tg iter cond elt, env, M, Q, E => wpW iter env M (fun w M1 =>
      compW (fun d e M Q => tgW tg d e fun e' => wpC cond e' M (fun b M1 => match b with
        | true => wpE elt e' M1 (fun y M2 => Q (some y) M2) fun _ _ => False
        | false => Q none M1) fun _ _ => False) w.still (wipeE env own) w.items [] M1 fun ds M2 => newL fr ds M2 Q) E
  | _, _, _, _, _ => False
/-- arguments -/
def wpA : Ex → Env → Mem → AK → XQ → Prop
  | .nil, _, M, Q, _ => Q [] M
  | .cons e es, env, M, Q, E => wpE e env M (fun x M1 => wpA es env M1 (fun ds M2 => Q (x :: ds) M2) E) E
  | _, _, _, _, _ => False
/-- an end of a slice -/
def wpP : Ex → Env → Mem → (Option Int → Mem → Prop) → XQ → Prop
  | .nopart, _, M, Q, _ => Q none M
  | .part e, env, M, Q, E => wpE e env M (fun x M1 => match x with
      | .int i => Q (some i) M1
      | _ => False) E
  | _, _, _, _, _ => False
/-- a comprehension's test -/
def wpC : Ex → Env → Mem → BK → XQ → Prop
  | .nopart, _, M, Q, _ => Q true M
  | .part e, env, M, Q, E => wpE e env M (fun x M1 => truW x M1 Q) E
  | _, _, _, _, _ => False
/-- what is walked -/
def wpW : Ex → Env → Mem → (Wk → Mem → Prop) → XQ → Prop
  | .itl e, env, M, Q, E => wpE e env M (fun x M1 => walkL x M1 Q) E
  | .itt e, env, M, Q, E => wpE e env M (fun x M1 => walkT x M1 Q) E
  | .its e, env, M, Q, E => wpE e env M (fun x M1 => walkS x M1 Q) E
  | .it1 a, env, M, Q, E => wpE a env M (fun x M1 => walkR [x] M1 Q) E
  | .it2 a b, env, M, Q, E => wpE a env M (fun x M1 => wpE b env M1 (fun y M2 => walkR [x, y] M2 Q) E) E
  | .it3 a b c, env, M, Q, E => wpE a env M (fun x M1 => wpE b env M1 (fun y M2 => wpE c env M2 (fun z M3 => walkR [x, y, z] M3 Q) E) E) E
  | .ite e, env, M, Q, E => wpE e env M (fun x M1 => enumW x M1 Q) E
  | .itr e, env, M, Q, E => wpE e env M (fun x M1 => match asL M1 x with
      | some ds => Q ⟨ds.reverse, stillAt x ds⟩ M1
      | none => False) E
  | .itz a b, env, M, Q, E => wpE a env M (fun x M1 => wpE b env M1 (fun y M2 => zipW x y M2 Q) E) E
  | _, _, _, _, _ => False
end
/-- a test -/
def wpT (e : Ex) (env : Env) (M : Mem) (Q : BK) (E : XQ) : Prop := wpE R e env M (fun x M1 => truW x M1 Q) E
end

/-! ### statements -/
/-- targets side by side: a name, a list's place, a dict's key -/
inductive Ts where
  | nm (i : Nat) | sb (o i : Ex) | db (o i : Ex)
inductive Sx where
  | nil | seq (s t : Sx)
  | asg (tg : Tg) (e : Ex)
  | sub (o i e : Ex)
  | dput (o i e : Ex)
  | aug (i : Nat) (op : Operator) (e : Ex)
  | drop (e : Ex)
  | ret (e : Ex)
  | ife (c : Ex) (s t : Sx)
  | loop (c : Ex) (s : Sx)
  | each (tg : Tg) (w : Ex) (s : Sx)
  | pass | brk | cnt
  | never
  -- raise C(a), f the field that C's own __init__ writes
  | rse (c : Nat) (f : Str) (a : Ex)
  -- raise C(a), no own __init__
  | rsp (c : Nat) (a : Ex)
  -- try: s, except C as the slot i: t
  | tri (c i : Nat) (s t : Sx)
  -- .. without a name
  | trn (c : Nat) (s t : Sx)
  -- o.f = e; o.f op= e; d[k] op= e; t, u, .. = e
  | sfl (o : Ex) (f : Str) (e : Ex)
  | fau (o : Ex) (f : Str) (op : Operator) (e : Ex)
  | dau (o i : Ex) (op : Operator) (e : Ex)
  | asu (ts : List Ts) (e : Ex)
  -- raise C(at), raise C(at, side), C's own __init__ with both, side None at first
  | rsb (c : Nat) (es : Ex)
  -- try: s, except C (as i): t, except D (as j): u
  | tr2 (c : Nat) (i : Option Nat) (t : Sx) (d : Nat) (j : Option Nat) (u : Sx) (s : Sx)
  -- ghost: the list in a place is kept as it is from here on
  | frz (i : Nat)

structure Ends where
  nx : Env → Mem → Prop
  rt : QK
  bk : Env → Mem → Prop
  ct : Env → Mem → Prop
  ex : Exn → Env → Mem → Prop

def putW (o i v : D) (M : Mem) (Q : Mem → Prop) : Prop :=
  match o, i with
  | .loc a, .int k => match M a with
    | some (.lst xs) => match ixN xs.length k with
      | some j => Q (M.upd a (.lst (xs.set j v)))
      | none => False
    | _ => False
  | _, _ => False
def augW (op : Operator) (x y : D) (M : Mem) (Q : QK) : Prop :=
  match op, x, y with
  | .Add, .int i, .int j => Q (.int (i + j)) M
  | .Sub, .int i, .int j => Q (.int (i - j)) M
  | _, _, _ => False
/-- a loop over things -/
def eachW (body : Ends → Env → Mem → Prop) (tg : Tg) (still : Mem → Prop) (N : Ends) : List D → Env → Mem → Prop
  | [], env, M => still M ∧ N.nx env M
  | d :: ds, env, M => still M ∧ tgW tg d env fun e => body { N with nx := eachW body tg still N ds, ct := eachW body tg still N ds, bk := N.nx } e M
/-- a while loop that ends within n turns -/
def loopW (test : Env → Mem → (Bool → Mem → Prop) → Prop) (body : Ends → Env → Mem → Prop) (D : Ends) : Nat → Env → Mem → Prop
  | 0, _, _ => False
  | n + 1, env, M => test env M fun c M1 => match c with
    | true => body { D with nx := loopW test body D n, ct := loopW test body D n, bk := D.nx } env M1
    | false => D.nx env M1

section
variable (R : Nat → List D → Mem → QK → XQ → Prop)
def tsW : List Ts → List D → Env → Mem → (Env → Mem → Prop) → (Exn → Env → Mem → Prop) → Prop
  | [], [], env, M, Q, _ => Q env M
  | .nm i :: ts, d :: ds, env, M, Q, E => tsW ts ds (setV env i d) M Q E
  | .sb o i :: ts, d :: ds, env, M, Q, E => wpE R o env M (fun a M1 => wpE R i env M1 (fun k M2 => putW a k d M2 fun M3 => tsW ts ds env M3 Q E) fun z M => E z env M) fun z M => E z env M
  | .db o i :: ts, d :: ds, env, M, Q, E => wpE R o env M (fun a M1 => wpE R i env M1 (fun k M2 => dputW a k d M2 fun M3 => tsW ts ds env M3 Q E) fun z M => E z env M) fun z M => E z env M
  | _, _, _, _, _, _ => False
/-- a clause's suite: the exception, if it is named, stands at a new place -/
def clW (t : Ends → Env → Mem → Prop) (i : Option Nat) (N : Ends) (z : Exn) (env : Env) (M : Mem) : Prop :=
  match i with
  | some i => ∀ p, M p = none → t ⟨fun e M => N.nx (e.set i none) M, N.rt, fun e M => N.bk (e.set i none) M, fun e M => N.ct (e.set i none) M, fun _ _ _ => False⟩ (setV env i (.loc p)) (M.upd p (.ins z.c z.fs))
  | none => t ⟨N.nx, N.rt, N.bk, N.ct, fun _ _ _ => False⟩ env M
def wpS : Sx → Ends → Env → Mem → Prop
  | .nil, D, env, M => D.nx env M
  | .seq s t, D, env, M => wpS s { D with nx := wpS t D } env M
  | .asg tg e, D, env, M => wpE R e env M (fun x M1 => tgW tg x env fun e' => D.nx e' M1) fun z M1 => D.ex z env M1
  | .sub o i e, D, env, M => wpE R e env M (fun x M1 => wpE R o env M1 (fun a M2 => wpE R i env M2 (fun k M3 => putW a k x M3 fun M4 => D.nx env M4) fun z M => D.ex z env M) fun z M => D.ex z env M) fun z M => D.ex z env M
  | .dput o i e, D, env, M => wpE R e env M (fun x M1 => wpE R o env M1 (fun a M2 => wpE R i env M2 (fun k M3 => dputW a k x M3 fun M4 => D.nx env M4) fun z M => D.ex z env M) fun z M => D.ex z env M) fun z M => D.ex z env M
  | .aug i op e, D, env, M => match slv env i with
    | some x => wpE R e env M (fun y M1 => augW op x y M1 fun z M2 => D.nx (setV env i z) M2) fun z M1 => D.ex z env M1
    | none => False
  | .drop e, D, env, M => wpE R e env M (fun _ M1 => D.nx env M1) fun z M1 => D.ex z env M1
  | .ret e, D, env, M => wpE R e env M (fun x M1 => D.rt x M1) fun z M1 => D.ex z env M1
  | .ife c s t, D, env, M => wpT R c env M (fun b M1 => match b with
      | true => wpS s D env M1
      | false => wpS t D env M1) fun z M1 => D.ex z env M1
  | .loop c s, D, env, M => ∃ n, loopW (fun e M Q => wpT R c e M Q fun z M1 => D.ex z e M1) (wpS s) D n env M
  | .each tg w s, D, env, M => wpW R w env M (fun w M1 => eachW (wpS s) tg w.still D w.items env M1) fun z M1 => D.ex z env M1
  | .pass, D, env, M => D.nx env M
  | .brk, D, env, M => D.bk env M
  | .cnt, D, env, M => D.ct env M
  | .never, _, _, _ => False
  | .rse c f a, D, env, M => wpE R a env M (fun x M1 => D.ex ⟨c, [(f, x)]⟩ env M1) fun z M1 => D.ex z env M1
  | .rsp c a, D, env, M => wpE R a env M (fun _ M1 => D.ex ⟨c, []⟩ env M1) fun z M1 => D.ex z env M1
  | .tri c i s t, D, env, M => wpS s ⟨D.nx, D.rt, D.bk, D.ct, fun z env' M' => match subX z.c c with
      | true => ∀ p, M' p = none → wpS t ⟨fun e M => D.nx (e.set i none) M, D.rt, fun e M => D.bk (e.set i none) M, fun e M => D.ct (e.set i none) M, fun _ _ _ => False⟩ (setV env' i (.loc p)) (M'.upd p (.ins z.c z.fs))
      | false => D.ex z env' M'⟩ env M
  | .trn c s t, D, env, M => wpS s ⟨D.nx, D.rt, D.bk, D.ct, fun z env' M' => match subX z.c c with
      | true => wpS t ⟨D.nx, D.rt, D.bk, D.ct, fun _ _ _ => False⟩ env' M'
      | false => D.ex z env' M'⟩ env M
  | .sfl o f e, D, env, M => wpE R e env M (fun x M1 => wpE R o env M1 (fun a M2 => sflW a f x M2 fun M3 => D.nx env M3) fun z M => D.ex z env M) fun z M => D.ex z env M
  | .fau o f op e, D, env, M => wpE R o env M (fun a M1 => fldW a f M1 fun x M2 => wpE R e env M2 (fun y M3 => augW op x y M3 fun z M4 => clsW a M4 = clsW a M1 ∧ sflW a f z M4 fun M5 => D.nx env M5) fun z M => D.ex z env M) fun z M => D.ex z env M
  | .dau o i op e, D, env, M => wpE R o env M (fun a M1 => wpE R i env M1 (fun k M2 => dgetW a k M2 fun x M3 => wpE R e env M3 (fun y M4 => augW op x y M4 fun z M5 => dputW a k z M5 fun M6 => D.nx env M6) fun z M => D.ex z env M) fun z M => D.ex z env M) fun z M => D.ex z env M
  | .asu ts e, D, env, M => wpE R e env M (fun x M1 => match x with
      | .tup ds => ts.length = ds.length ∧ tsW R ts ds env M1 D.nx D.ex
      | _ => False) fun z M => D.ex z env M
  | .rsb c es, D, env, M => wpA R es env M (fun ds M1 => match ds with
      | [a] => D.ex ⟨c, [("side", .non), ("at", a)]⟩ env M1
      | [a, b] => D.ex ⟨c, [("side", b), ("at", a)]⟩ env M1
      | _ => False) fun z M => D.ex z env M
  | .tr2 c i t d j u s, D, env, M => wpS s ⟨D.nx, D.rt, D.bk, D.ct, fun z env' M' => match subX z.c c with
      | true => clW (wpS t) i D z env' M'
      | false => match subX z.c d with
        | true => clW (wpS u) j D z env' M'
        | false => D.ex z env' M'⟩ env M
  | .frz i, D, env, M => match slv env i with
    | some (.loc a) => match M a with
      | some (.lst ds) => D.nx (setV env i (.lst ds)) (M.del a)
      | _ => False
    | _ => False
end

/-! ### defs -/
structure Fn where
  np : Nat
  ns : Nat
  body : Sx
mutual
/-- a place replaced by a tree -/
def repD (a : Addr) (ds : List D) : D → D
  | .tup xs => .tup (repDs a ds xs)
  | .lst xs => .lst (repDs a ds xs)
  | .loc b => if b = a then .lst ds else .loc b
  | d => d
def repDs (a : Addr) (ds : List D) : List D → List D
  | [] => []
  | x :: xs => repD a ds x :: repDs a ds xs
end
/-- lists in the memory become trees -/
inductive Frz : D → Mem → QK → Prop
  | done {d M} {Q : QK} : Q d M → Frz d M Q
  | step {d M a ds} {Q : QK} : M a = some (.lst ds) → Frz (repD a ds d) (M.del a) Q → Frz d M Q

def start (fn : Fn) (ds : List D) : Env := ds.map some ++ List.replicate (fn.ns - fn.np) none
/-- a def at a level: k calls, one in another, may be under way -/
def run (T : Nat → Option Fn) : Nat → Nat → List D → Mem → QK → XQ → Prop
  | 0, _, _, _, _, _ => False
  | k + 1, f, ds, M, Q, E => match T f with
    | some fn => ds.length = fn.np ∧ wpS (run T k) fn.body ⟨fun _ M1 => Frz .non M1 Q, fun x M1 => Frz x M1 Q, fun _ _ => False, fun _ _ => False, fun z _ M1 => E z M1⟩ (start fn ds) M
    | none => False
end Wp

/-! WpLrg: list(range(..)). -/
namespace Wp
open PySem PySem.Spec PyProof.Rows L2
def rgcV (lo c : Int) (n : Nat) : List V := (List.range n).map fun i => V.int (lo + (i : Nat) * c)
theorem rgcV_len (lo c : Int) (n : Nat) : (rgcV lo c n).length = n := by unfold rgcV; rw [List.length_map, List.length_range]
theorem vals_rgc {lo c : Int} {n : Nat} {acc : Array Value} (h : ItemsOf (fun i v => ∃ t, v = .int (lo + i * c) t) acc n) : Vals (rgcV lo c n) acc.toList := by
  have e : acc.toList.length = n := by rw [Array.length_toList]; exact h.1
  unfold rgcV
  rw [← e]
  refine vals_of_get acc.toList _ fun j u hj => ?_
  obtain ⟨t, rfl⟩ := h.2 j u (by rw [← hj, Array.getElem?_toList])
  exact ⟨t, rfl⟩
def Rgs (vs : List V) (i j c : Int) : Prop := (vs = [.int j] ∧ i = 0 ∧ c = 1) ∨ (vs = [.int i, .int j] ∧ c = 1) ∨ vs = [.int i, .int j, .int c]
def tRgs (ta : TA) (Q : Int → Int → Int → Hp → Prop)   : L2.St → Hp → Prop := fun σ H => ta σ H fun vs H1 => ∃ i j c, Rgs vs i j c ∧ c ≠ 0 ∧ c.natAbs < 1073741824 ∧ Q i j c H1
section
variable {X : Cx}
theorem rg_eval {e1 : Expr} {es : List Expr} {ta : TA} {p pos : Pos} (hg : Gl X "range") (hm : X.mg "range" = none) (ha : PA X (e1 :: es) ta)
    (hs : starEach (e1 :: es) X.env = (false, eval e1 X.env) :: starEach es X.env) (hpl : (backTo pos (starEach es X.env)).any (·.1) = false)
    (pins : List (Addr × Obj)) (s : Shared) (σ : L2.St) (H : Hp) (Q : Int → Int → Int → Hp → Prop) (I : Inv X pins σ H s) (h : tRgs ta Q σ H) :
    wpAny (model X.prog X.w) X.A (eval (.Call (.Name "range" p) (e1 :: es) [] pos) X.env) (fun x s' => ∃ r a b c t u v H', x = .ref r ∧ IsRange s'.heap r a b c t u v ∧ Inv X pins σ H' s' ∧ Q a b c H') X.xe s := by
  refine Call_ (ld_blt I hg hm boot_range (PyProof.Rows.callWith_type1 (thn (ha.run pos pins s σ H _ I h) fun us s1 ⟨vs, H1, I1, r1, q1⟩ => ?_) hs hpl))
  obtain ⟨i, j, c, hv, c0, c1, q⟩ := q1
  rcases hv with ⟨rfl, rfl, rfl⟩ | ⟨rfl, rfl⟩ | rfl
  · cases r1 with
    | cons r rr =>
      cases rr
      obtain ⟨t, rfl⟩ := r
      exact call_range_1 ⟨_, 0, j, 1, _, _, _, H1, rfl, IsRange.new _ _ _ _ _ _ _, I1.kept fun b u e => Heap.get?_push_of_some _ e, q⟩
  · cases r1 with
    | cons r rr =>
      cases rr with
      | cons r' rr =>
        cases rr
        obtain ⟨t, rfl⟩ := r
        obtain ⟨t', rfl⟩ := r'
        exact call_range_2 ⟨_, i, j, 1, _, _, _, H1, rfl, IsRange.new _ _ _ _ _ _ _, I1.kept fun b u e => Heap.get?_push_of_some _ e, q⟩
  · cases r1 with
    | cons r rr =>
      cases rr with
      | cons r' rr =>
        cases rr with
        | cons r'' rr =>
          cases rr
          obtain ⟨t, rfl⟩ := r
          obtain ⟨t', rfl⟩ := r'
          obtain ⟨t'', rfl⟩ := r''
          exact call_range_3 c0 ⟨_, i, j, c, _, _, _, H1, rfl, IsRange.new _ _ _ _ _ _ _, I1.kept fun b u e => Heap.get?_push_of_some _ e, q⟩ (.inl (PyProof.noPylong_small c1))
def tLrg (ta : TA) : TE := fun σ H Q => tRgs ta (fun i j c H1 => ∃ n, RgC i j c n ∧ n ≤ 2 ^ 24 ∧ ∀ q, H1 q = none → Q (.ref q) (upd H1 q (.lst (rgcV i c n)))) σ H
theorem pe_lrg {e1 : Expr} {es : List Expr} {ta : TA} {p p2 pos pos2 : Pos} (hc : X.calm = true) (hgl : Gl X "list") (hml : X.mg "list" = none) (hg : Gl X "range") (hm : X.mg "range" = none) (ha : PA X (e1 :: es) ta)
    (hs : starEach (e1 :: es) X.env = (false, eval e1 X.env) :: starEach es X.env) (hpl : (backTo pos2 (starEach es X.env)).any (·.1) = false)
    (na : starEach [.Call (.Name "range" p2) (e1 :: es) [] pos2] X.env = (false, eval (.Call (.Name "range" p2) (e1 :: es) [] pos2) X.env) :: starEach [] X.env := by rfl) :
    PE X (.Call (.Name "list" p) [.Call (.Name "range" p2) (e1 :: es) [] pos2] [] pos) (tLrg ta) := by
  refine ⟨fun pins s σ H Q I h => ?_⟩
  refine Call_ (ld_blt I hgl hml boot_list (PyProof.Rows.callWith_type1 (args_cons (thn (rg_eval hg hm ha hs hpl pins s σ H _ I h) fun x s1 ⟨r, a, b, c, t, u, v, H1, ex, hr, I1, n, ok, b5, q⟩ => args_nil ?_) na) na))
  subst ex
  refine call_list_range (n := n) (I1.ok.hd hc) hr ok.2.2.1 ok.2.2.2 b5 fun h' tk acc c' hk e' hi => ?_
  refine ⟨.ref s1.heap.objs.size, upd H1 s1.heap.objs.size (.lst (rgcV a c n)), I1.laid hk (Nat.le_refl _) (show ObjOk X.prog X.w _ _ _ (.lst (rgcV a c n)) from ⟨?_, acc.toList, c', vals_rgc hi, ?_⟩), rfl, q _ (I1.hok.fresh (Nat.le_refl _))⟩
  · rw [rgcV_len, sizeLine_eq]; omega
  · rw [Array.toArray_toList]; exact e'
end
end Wp

/-! WpE1: a caught exception that stands in the heap: try .. except X as n, isinstance of it, its fields. -/
namespace L2
open PySem PySem.Spec PyProof.Rows
/-- a caught exception: its class, its dict -/
def ExH (cls : Value) (d : Option Addr) (a : Addr) : HO := .ext fun h => ∃ (oe : Obj) (vs : Array Value), h.get? a = some oe ∧ Zc cls d oe ∧ oe.data = .fields vs
theorem exH_ok {P : Program} {w : World} {H : Hp} {h : Heap} {a : Addr} {cls : Value} {d : Option Addr} {oe : Obj} {vs : Array Value} (e : h.get? a = some oe) (z : Zc cls d oe) (dd : oe.data = .fields vs) : ObjOk P w H h a (ExH cls d a) :=
  ⟨⟨oe, vs, e, z, dd⟩, ⟨oe, e⟩, fun _ _ ⟨o, v, q, r⟩ k => ⟨o, v, k o q, r⟩⟩
theorem exH_at {P : Program} {w : World} {H : Hp} {h : Heap} {a : Addr} {cls : Value} {d : Option Addr} (hok : HOk P w H h) (e : H a = some (ExH cls d a)) : ∃ (oe : Obj) (vs : Array Value), h.get? a = some oe ∧ Zc cls d oe ∧ oe.data = .fields vs := by
  have x : ObjOk P w H h a (.ext fun h => ∃ (oe : Obj) (vs : Array Value), h.get? a = some oe ∧ Zc cls d oe ∧ oe.data = .fields vs) := hok a _ e
  exact x.1
section
variable {X : Cx} {pins : List (Addr × Obj)} {σ : St} {H : Hp} {s : Shared}
/-- an object that came since the entry is told of from here on -/
theorem Inv.track {a : Addr} {o : HO} {oe : Obj} {vs : Array Value} (I : Inv X pins σ H s) (hn : H a = none) (n0 : X.s_0.heap.get? a = none) (he : s.heap.get? a = some oe) (hd : oe.data = .fields vs) (nL : a ≠ X.env.locals) (np : ∀ p ∈ X.pn ++ pins, p.1 ≠ a) (new : ObjOk X.prog X.w (upd H a o) s.heap a o) : Inv X pins σ (upd H a o) s := by
  have ne0 : ∀ b u, X.s_0.heap.get? b = some u → b ≠ a := fun b u e z => by
    rw [z, n0] at e
    cases e
  have nc : ∀ x c, X.env.cells.lookup x = some c → c ≠ a := fun x c e z => by
    obtain ⟨v, u, h1, h2⟩ := I.cell x c e
    rw [z, he] at h1
    cases h1
    rw [hd] at h2
    cases h2
  refine ⟨I.ok, I.os, I.bare, ⟨I.base.keep, I.base.slot, fun b u e n hx => ?_, I.base.there, fun b xs e => ?_, fun b u w e => ?_, fun b ps e => ?_⟩, I.loc, I.cell, ?_, fun x c e => ?_, fun p hp => ?_, fun b u e => ?_, I.len⟩
  · rw [upd_ne (ne0 b u e)]
    exact I.base.free b u e n hx
  · have q := I.base.tups b xs e
    rw [upd_ne (ne_of_none q hn)]
    exact q
  · have q := I.base.frzs b u w e
    rw [upd_ne (ne_of_none q hn)]
    exact q
  · obtain ⟨m, q⟩ := I.base.tbls b ps e
    exact ⟨m, by rw [upd_ne (ne_of_none q hn)]; exact q⟩
  · rw [upd_ne (Ne.symm nL)]
    exact I.free
  · rw [upd_ne (nc x c e)]
    exact I.freeC x c e
  · obtain ⟨e, n, ne, nf, d⟩ := I.pin p hp
    exact ⟨e, by rw [upd_ne (np p hp)]; exact n, ne, nf, d⟩
  · by_cases hb : b = a
    · subst hb
      rw [upd_same] at e
      cases e
      exact new
    · rw [upd_ne hb] at e
      exact (I.hok b u e).stay (fun c v _ q => q) (fun c q => by rw [upd_ne (ne_of_none q hn)]; exact q) fun c xs q => by rw [upd_ne (ne_of_none q hn)]; exact q
theorem Inv.suite0 (I : Inv X pins σ H s) (a : Addr) : Inv (X.suite a (X.pn ++ pins)) [] σ H s :=
  ⟨I.ok.suite _ _, I.os, I.bare, I.base, I.loc, I.cell, I.free, I.freeC, fun p hp => I.pin p (by rw [List.append_nil] at hp; exact hp), I.hok, I.len⟩
theorem Inv.unsuite0 {a : Addr} {pn' : List (Addr × Obj)} (I : Inv (X.suite a (X.pn ++ pins)) pn' σ H s) (ok : X.Ok) : Inv X pins σ H s :=
  ⟨ok, I.os, I.bare, I.base, I.loc, I.cell, I.free, I.freeC, fun p hp => I.pin p (List.mem_append_left _ hp), I.hok, I.len⟩
end
/-- what the clause 'except x as n' wishes of an exception of the body: it stands in the heap from here on -/
def wOwn (K : PySem.W.Frag) (c : Value) (i : Nat) (ts : TS) (Wout : WX) (D : Ends) : WX := fun cls d σ H =>
  ∃ b, PySem.W.exmOne K cls c = some b ∧ (b = true → ∀ a, H a = none → ts { nx := fun σ' H' => D.nx (σ'.set i none) H', rt := D.rt, bk := fun σ' H' => D.bk (σ'.set i none) H', ct := fun σ' H' => D.ct (σ'.set i none) H' } (σ.set i (some (.ref a))) (upd H a (ExH cls d a))) ∧
    (b = false → Wout cls d σ H)
section
variable {X : Cx} {x n : Str} {c : Value} {i : Nat} {body suite : List Stmt} {b₀ : Stmt} {np pos pos' : Pos} {tb : WX → TS} {ts : TS} {Wout : WX}
theorem ps_try_own (hex : X.ex = []) (hs : X.stack = X.env :: X.outer) (hf : X.env.frame = some X.env.locals) (hN : X.N.Nodup) (hi : X.N[i]? = some n) (hln : X.env.kindOf n = some .local) (hc : Names X x c) (tk : Takes X Wout)
    (hb : ∀ (W : WX) (pn : List (Addr × Obj)) (xe : Value → Shared → Prop), Takes (X.tr pn xe) W → PassesOwn (model X.prog X.w) X.A X.env xe → PSs (X.tr pn xe) body (tb W))
    (hsu : ∀ (a : Addr) (pn : List (Addr × Obj)), PSs (X.suite a pn) (b₀ :: suite) ts) :
    PS X (.Try body [.ExceptHandler (some (.Name x np)) (some n) (b₀ :: suite) pos'] [] [] pos) (fun D σ H => tb (wOwn X.K c i ts Wout D) D σ H) := by
  refine ⟨fun pins s σ H D I h => ?_⟩
  have ok := I.ok
  have hfr : X.A.frames = some (X.env :: X.outer) := by rw [ok.frames, hs]
  have hloc : Loc X.env.scope n := .inl hln
  refine wpAny_Try_except ?_
  refine wpAny_mono ((hb (wOwn X.K c i ts Wout D) (X.pn ++ pins) (fun e s₁ => wpAny (model X.prog X.w) X.A (noteFrame e X.env) (fun _ s₂ => wpAny (model X.prog X.w) X.A (setFlight e none) (fun _ s₃ =>
    wpAny (model X.prog X.w) X.A (handleBy e X.env [.ExceptHandler (some (.Name x np)) (some n) (b₀ :: suite) pos']) (SP X pins D) X.xe s₃) X.xe s₂) X.xe s₁) (fun u s' xx => ?_) PassesOwn.looking).run [] s σ H D (I.toTry _) h) (fun f s1 hsp => ?_) (fun e s1 he => he)
  · obtain ⟨a, B, sI, pins', σ', H', cls, d, rfl, J', nb, up, sky, na, os, ag, b, hb1, hyes, hno⟩ := xx
    have J : Inv X pins σ' H' sI := J'.ofTry ok
    have sky' : Sky B (X.env :: X.outer) a (Zc cls d) X.env.locals s'.heap := by rw [← hs]; exact sky
    show wpAny (model X.prog X.w) X.A (noteFrame (.ref a) X.env) _ _ _
    refine Sky.land Zc.steady hfr hf sky' fun h3 fl3 up3 => ?_
    have J3 : Inv X pins σ' H' { s' with heap := h3 } := J.landed nb fl3.1 (up.trans up3) os ag
    obtain ⟨oe3, vs3, he3, hz3, hd3⟩ := fl3.there
    have nfr : a ∉ frs (X.env :: X.outer) := fun hm => by
      obtain ⟨_, o', e', hnf⟩ := fl3.2.2.1.mem hm
      rw [he3] at e'; cases e'
      exact hnf _ hd3
    have nL : a ≠ X.env.locals := fun z => nfr (List.mem_filterMap.mpr ⟨X.env, List.mem_cons_self, by rw [hf, z]⟩)
    have nI : sI.heap.get? a = none := by
      cases q : sI.heap.get? a with
      | none => rfl
      | some o =>
        have z := nb a o q (by rw [hs]; exact nfr)
        rw [fl3.2.1] at z
        cases z
    have n0 : X.s_0.heap.get? a = none := by
      cases q : X.s_0.heap.get? a with
      | none => rfl
      | some o =>
        obtain ⟨o', z⟩ := J.base.there a o q (by rw [hex]; exact fun z => nomatch z)
        rw [nI] at z
        cases z
    have npn : ∀ p ∈ X.pn ++ pins, p.1 ≠ a := fun p hp z => by
      have q := (J.pin p hp).1
      rw [z, nI] at q
      cases q
    have S3 := J3.suite0 a
    refine wpAny_handleBy_cons (codeAny_handlers_test ?_) (by intro q; cases q)
    have LT : PySem.W.Looks (model X.prog X.w) h3 (typeOf (.ref a)) cls := fun A Q E s k q => wpAny_typeOf_ref (k _ _ he3) (by rw [hz3.1]; exact q)
    have LM := PySem.W.exm_one (M := model X.prog X.w) (J3.kIn) LT hb1
    have test : ∀ {Q : Value → Shared → Prop} {E : Value → Shared → Prop}, Q c { s' with heap := h3 } → wpAny (model X.prog X.w) (X.A.mark (some (.ref a))) (eval (.Name x np) X.env) Q E { s' with heap := h3 } := fun {Q E} q => by
      obtain ⟨hg, hdbg, hm | ⟨hm, hv, hnn⟩⟩ := hc
      · exact ld_glob (X := X.suite a (X.pn ++ pins)) S3 hg hm q hdbg
      · exact ld_blt (X := X.suite a (X.pn ++ pins)) S3 hg hm hv q hnn hdbg
    refine test (LM.here ?_)
    cases b with
    | true =>
      refine codeAny_handlers_suite_as ?_
      refine HandSPX.lands_againZ fl3 fun h4 fl4 up4 => ?_
      have J4 : Inv X pins σ' H' { s' with heap := h4 } := J.landed nb fl4.1 ((up.trans up3).trans up4) os ag
      obtain ⟨oe4, vs4, he4, hz4, hd4⟩ := fl4.there
      have J5 : Inv X pins σ' (upd H' a (ExH cls d a)) { s' with heap := h4 } := J4.track na n0 he4 hd4 nL npn (exH_ok he4 hz4 hd4)
      have S5 := J5.suite0 a
      refine store_ok (X := X.suite a (X.pn ++ pins)) (v := .ref a) S5 hN hi hloc rfl (fun s5 S5 => ?_) (.inr hln)
      refine wpAny_mono ((hsu a (X.pn ++ pins)).run [] s5 _ _ _ S5 (hyes rfl a na)) (fun f s6 hsp => ?_) (fun _ _ z => False.elim z)
      have end_ : ∀ {σ6 : St} {H6 : Hp} {Q : Shared → Prop}, Inv (X.suite a (X.pn ++ pins)) [] σ6 H6 s6 → (∀ s7, Inv X pins (σ6.set i none) H6 s7 → Q s7) →
          wpAny (model X.prog X.w) X.A (do bindName X.env n .none; unbindBehindTheSuite X.env n pos') (fun _ s7 => Q s7) X.xe s6 := fun {σ6 H6 Q} S6 hq => gone_ok (S6.unsuite0 ok) hN hi hln hq
      cases f with
      | next =>
        obtain ⟨σ6, H6, S6, q6⟩ := hsp
        exact end_ S6 fun s7 J7 => ⟨_, _, J7, q6⟩
      | brk =>
        obtain ⟨σ6, H6, S6, q6⟩ := hsp
        exact end_ S6 fun s7 J7 => ⟨_, _, J7, q6⟩
      | cont =>
        obtain ⟨σ6, H6, S6, q6⟩ := hsp
        exact end_ S6 fun s7 J7 => ⟨_, _, J7, q6⟩
      | ret u =>
        obtain ⟨v6, σ6, H6, S6, r6, q6⟩ := hsp
        exact end_ S6 fun s7 J7 => ⟨_, _, _, J7, r6, q6⟩
    | false =>
      show wpAny _ X.A (handleBy (.ref a) X.env []) _ _ _
      refine wpAny_handleBy_nil ?_
      obtain ⟨k1, k2, k3, oe, vs, T, oT, ts', he, hz, hd, h1, hr⟩ := id fl3
      unfold PySem.passOn
      refine wpAny_bind (wpAny_field he hd h1 ?_)
      rw [if_neg (show ¬ ((Value.ref T == Value.none) = true) from by simp)]
      have fin : wpAny (model X.prog X.w) X.A (setFlight (.ref a) X.env.frame) (fun _ s4 => wpAny (model X.prog X.w) X.A (throw (.ref a) : Sem Flow) (SP X pins D) X.xe s4) X.xe { s' with heap := h3 } := by
        rw [hf]
        refine HandSPX.setFlight_upZ fl3 fun h4 hh4 up4 => wpAny_throw (tk _ _ ?_)
        exact ⟨a, B, sI, pins, σ', H', cls, d, rfl, J, nb, (up.trans up3).trans up4, .inr (.inr (by rw [hs]; exact hh4)), na, os, ag, hno rfl⟩
      first
        | exact wpAny_bind (wpAny_pure (wpAny_bind fin))
        | exact wpAny_bind fin
  · cases f with
    | next =>
      obtain ⟨σ', H', J', q⟩ := hsp
      exact wpAny_execs_nil ⟨σ', H', J'.ofTry ok, q⟩
    | brk =>
      obtain ⟨σ', H', J', q⟩ := hsp
      exact ⟨σ', H', J'.ofTry ok, q⟩
    | cont =>
      obtain ⟨σ', H', J', q⟩ := hsp
      exact ⟨σ', H', J'.ofTry ok, q⟩
    | ret u =>
      obtain ⟨v, σ', H', J', r, q⟩ := hsp
      exact ⟨v, σ', H', J'.ofTry ok, r, q⟩
end
/-! ### isinstance, a field -/
/-- what the class C must say for its caught instances to be asked and read -/
structure XcC (K : PySem.W.Frag) (C : Addr) : Prop where
  cl : (PySem.W.clsIn K C).isSome = true
  ga : PySem.W.findIn K (.ref C) "__getattribute__" = some (some (.builtin "BaseException.__getattribute__"))
  gt : PySem.W.findIn K (.ref C) "__getattr__" = some none
  sb : PySem.W.subIn K (.ref C) (.type "BaseException") = some true
  ca : PySem.W.findIn K (.ref C) "__class__" = some (some (.builtin "object.__class__"))
  cg : PySem.W.specialIn K (.builtin "object.__class__") "__get__" = some (some (.builtin "getset_descriptor.__get__"))
  ct : PySem.W.takesIn K (.builtin "object.__class__") = some true
  mo : PySem.W.mroIn K C (.type "object") = some true
  hd : PySem.W.hasDictIn K C = true
def xcB (K : PySem.W.Frag) (C : Addr) : Bool :=
  (PySem.W.clsIn K C).isSome && (decide (PySem.W.findIn K (.ref C) "__getattribute__" = some (some (.builtin "BaseException.__getattribute__"))) && (decide (PySem.W.findIn K (.ref C) "__getattr__" = some none) &&
  (decide (PySem.W.subIn K (.ref C) (.type "BaseException") = some true) && (decide (PySem.W.findIn K (.ref C) "__class__" = some (some (.builtin "object.__class__"))) && (decide (PySem.W.specialIn K (.builtin "object.__class__") "__get__" = some (some (.builtin "getset_descriptor.__get__"))) &&
  (decide (PySem.W.takesIn K (.builtin "object.__class__") = some true) && (decide (PySem.W.mroIn K C (.type "object") = some true) && PySem.W.hasDictIn K C)))))))
theorem xcB_ok {K : PySem.W.Frag} {C : Addr} (h : xcB K C = true) : XcC K C := by
  obtain ⟨h1, h⟩ := Bool.and_eq_true_iff.mp h
  obtain ⟨h2, h⟩ := Bool.and_eq_true_iff.mp h
  obtain ⟨h3, h⟩ := Bool.and_eq_true_iff.mp h
  obtain ⟨h4, h⟩ := Bool.and_eq_true_iff.mp h
  obtain ⟨h5, h⟩ := Bool.and_eq_true_iff.mp h
  obtain ⟨h6, h⟩ := Bool.and_eq_true_iff.mp h
  obtain ⟨h7, h⟩ := Bool.and_eq_true_iff.mp h
  obtain ⟨h8, h9⟩ := Bool.and_eq_true_iff.mp h
  exact ⟨h1, of_decide_eq_true h2, of_decide_eq_true h3, of_decide_eq_true h4, of_decide_eq_true h5, of_decide_eq_true h6, of_decide_eq_true h7, of_decide_eq_true h8, h9⟩
/-- the exception at a, of class C; its dict, if it has one, is told of -/
def XAt (H : Hp) (a C : Addr) : Prop := ∃ d, H a = some (ExH (.ref C) d a) ∧ (d = none ∨ ∃ dd fs, d = some dd ∧ H dd = some (.xd fs))
theorem xat_inst {X : Cx} {pins : List (Addr × Obj)} {σ : St} {H : Hp} {s : Shared} {a C : Addr} (I : Inv X pins σ H s) (h : XAt H a C) : ∃ ox od, PySem.W.InstAt s.heap a ox C od := by
  obtain ⟨d, ea, hd⟩ := h
  obtain ⟨oe, vs, he, hz, hv⟩ := exH_at I.hok ea
  rcases hd with rfl | ⟨dd, fs, rfl, ed⟩
  · exact ⟨oe, none, he, hz.1, by unfold PySem.W.notCls; rw [hv] <;> rfl, by rw [hz.2]; trivial⟩
  · have hx : ObjOk X.prog X.w H s.heap dd (.xd fs) := I.hok dd _ ed
    obtain ⟨mA, hns, hr⟩ := hx
    obtain ⟨od, ho, hl⟩ := lookIn_ns hns
    exact ⟨oe, some od, he, hz.1, by unfold PySem.W.notCls; rw [hv] <;> rfl, by rw [hz.2]; exact ho⟩
def rIsX (K : PySem.W.Frag) : List V → Hp → VK → Prop := fun xs H Q => ∃ (a C : Addr) (c : V) (u : Value) (b : Bool), xs = [.ref a, c] ∧ XAt H a C ∧ XcC K C ∧ ClsV c u ∧ PySem.W.kitOne K (.ref C) u = some b ∧ Q (.bl b) H
theorem call_isX {X : Cx} : CallR X (.builtin "isinstance") (rIsX X.K) := by
  intro pins s σ H xs us Q I r h
  obtain ⟨a, C, c, u, b, rfl, hx, T, k, e, q⟩ := h
  cases r with
  | cons rx rr =>
    cases rr with
    | cons rt rr =>
      cases rr
      cases rx
      have e2 := k.eq rt
      subst e2
      obtain ⟨ox, od, J⟩ := xat_inst I hx
      exact PySem.W.kia_one (PySem.W.kitx_exc T.cl T.ga T.gt T.sb T.ca T.cg T.ct T.mo) I.kIn J e (fun z => nomatch z) fun tk => ⟨.bl b, H, I.tok tk, rfl, q⟩
def rIsXT (K : PySem.W.Frag) : List V → Hp → VK → Prop := fun xs H Q => ∃ (a C tp : Addr) (cs : List V) (us : List Value) (b : Bool), xs = [.ref a, .ref tp] ∧ H tp = some (.tup cs) ∧ Paired ClsV cs us ∧ XAt H a C ∧ XcC K C ∧ PySem.W.kitAny K (.ref C) us = some b ∧ Q (.bl b) H
theorem call_isXT {X : Cx} : CallR X (.builtin "isinstance") (rIsXT X.K) := by
  intro pins s σ H xs ws Q I r h
  obtain ⟨a, C, tp, cs, us, b, rfl, hT, k, hx, T, e, q⟩ := h
  obtain ⟨u1, u2, rfl, r1, r2⟩ := vals2 r
  cases (show u2 = Value.ref tp from r2)
  cases (show u1 = Value.ref a from r1)
  obtain ⟨ox, od, J⟩ := xat_inst I hx
  obtain ⟨_, its, rv, o, h1, h2, n, h3⟩ := (show ObjOk X.prog X.w H s.heap tp (.tup cs) from I.hok tp _ hT)
  have e3 := ClsV.all k rv
  subst e3
  obtain ⟨oc, od', dt, sl⟩ := o
  simp only at h2 h3
  subst h2 h3
  exact PySem.W.kia_tup (PySem.W.kitx_exc T.cl T.ga T.gt T.sb T.ca T.cg T.ct T.mo) I.kIn J h1 e (fun z => nomatch z) fun tk => ⟨.bl b, H, I.tok tk, rfl, q⟩
/-- e.f, e a caught exception -/
def tAtr (K : PySem.W.Frag) (f : Str) (te : TE) : TE := fun σ H Q => te σ H fun x H1 => ∃ (a C dd : Addr) (fs : List (Str × V)) (v : V), x = .ref a ∧ H1 a = some (ExH (.ref C) (some dd) a) ∧ H1 dd = some (.xd fs) ∧ XcC K C ∧ PySem.W.findIn K (.ref C) f = some none ∧ fs.lookup f = some v ∧ Q v H1
theorem pe_atr {X : Cx} {e : Expr} {te : TE} {pos : Pos} {n : Str} (he : PE X e te) (hb : attributeBase e n X.env (eval e X.env) = eval e X.env := by rfl) : PE X (.Attribute e n pos) (tAtr X.K n te) := by
  refine ⟨fun pins s σ H Q I h => ?_⟩
  refine attr_of hb (thn (he.run pins s σ H _ I h) fun u s1 hh => ?_)
  obtain ⟨x, H1, I1, rx, a, C, dd, fs, v, ex, ea, ed, T, hno, l, q⟩ := hh
  subst ex
  obtain rfl : u = Value.ref a := rx
  obtain ⟨oe, vs, he, hz, hv⟩ := exH_at I1.hok ea
  have hx : ObjOk X.prog X.w H1 s1.heap dd (.xd fs) := I1.hok dd _ ed
  obtain ⟨mA, hns, hr⟩ := hx
  obtain ⟨od, ho, hl⟩ := lookIn_ns hns
  obtain ⟨u, hu, ru⟩ := RelO.some_of (v := v) (o := mA n) (by rw [← l]; exact hr n)
  have J : PySem.W.InstAt s1.heap a oe C (some od) := ⟨he, hz.1, by unfold PySem.W.notCls; rw [hv] <;> rfl, by rw [hz.2]; exact ho⟩
  exact HandSPX.exc_get I1.kIn J T.ga T.gt T.sb (PySem.W.findObj_own T.hd hno rfl (by rw [hl, hu])) (handed_of ru) ⟨v, H1, I1.tok _, ru, q⟩
end L2

/-! WpS1: how trees and memory stand in the layer's abstract heap; the operators' rules. -/
namespace Wp
open PySem PySem.Spec PyProof.Rows L2

/-- the written part, where the classes stand, and what is there but not told of -/
structure Gx where
  K : PySem.W.Frag
  cl : Nat → Option Addr
  co : Nat → Option Addr
  P : Hp

mutual
inductive RelD (G : Gx) (F : Hp) : V → D → Prop
  | non : RelD G F .non .non
  | bl (b : Bool) : RelD G F (.bl b) (.bl b)
  | int (i : Int) : RelD G F (.int i) (.int i)
  | str (x : Str) : RelD G F (.str x) (.str x)
  | tup {a : Addr} {vs : List V} {ds : List D} : SqT G.K F a vs → RelDs G F vs ds → RelD G F (.ref a) (.tup ds)
  | lst {a : Addr} {vs : List V} {ds : List D} : F a = some (.lst vs) → RelDs G F vs ds → RelD G F (.ref a) (.lst ds)
  | scr {a : Addr} {ns : List Int} : SqL G.K F a (ns.map V.int) → RelD G F (.ref a) (.scr ns)
  | emp {a : Addr} : F a = some (.dK []) → RelD G F (.ref a) .emp
  | loc {a : Addr} : RelD G F (.ref a) (.loc a)
inductive RelDs (G : Gx) (F : Hp) : List V → List D → Prop
  | nil : RelDs G F [] []
  | cons {v : V} {vs : List V} {d : D} {ds : List D} : RelD G F v d → RelDs G F vs ds → RelDs G F (v :: vs) (d :: ds)
end

theorem same_t {K : PySem.W.Frag} {H H' : Hp} {a : Addr} {xs : List V} (e : Same H H') (h : SqT K H a xs) : SqT K H' a xs := by
  rcases h with (h | ⟨o, h⟩) | h
  · exact .inl (.inl (e _ _ h))
  · exact .inl (.inr ⟨o, e _ _ h⟩)
  · exact .inr h
section
variable {G : Gx} {F F' H : Hp}
mutual
theorem RelD.mono (s : Same F F') : ∀ {v : V} {d : D}, RelD G F v d → RelD G F' v d
  | _, _, .non => .non
  | _, _, .bl b => .bl b
  | _, _, .int i => .int i
  | _, _, .str x => .str x
  | _, _, .tup h r => .tup (same_t s h) (RelDs.mono s r)
  | _, _, .lst h r => .lst (s _ _ h) (RelDs.mono s r)
  | _, _, .scr h => .scr (s.seq h)
  | _, _, .emp h => .emp (s _ _ h)
  | _, _, .loc => .loc
theorem RelDs.mono (s : Same F F') : ∀ {vs : List V} {ds : List D}, RelDs G F vs ds → RelDs G F' vs ds
  | _, _, .nil => .nil
  | _, _, .cons r t => .cons (RelD.mono s r) (RelDs.mono s t)
end
theorem RelDs.len : ∀ {vs : List V} {ds : List D}, RelDs G F vs ds → vs.length = ds.length
  | _, _, .nil => rfl
  | _, _, .cons _ t => congrArg Nat.succ (RelDs.len t)
theorem RelDs.app : ∀ {vs ws : List V} {ds es : List D}, RelDs G F vs ds → RelDs G F ws es → RelDs G F (vs ++ ws) (ds ++ es)
  | _, _, _, _, .nil, s => s
  | _, _, _, _, .cons r t, s => .cons r (RelDs.app t s)
theorem RelDs.take : ∀ {vs : List V} {ds : List D} (n : Nat), RelDs G F vs ds → RelDs G F (vs.take n) (ds.take n)
  | _, _, 0, _ => .nil
  | _, _, _ + 1, .nil => .nil
  | _, _, n + 1, .cons r t => .cons r (RelDs.take n t)
theorem RelDs.drop : ∀ {vs : List V} {ds : List D} (n : Nat), RelDs G F vs ds → RelDs G F (vs.drop n) (ds.drop n)
  | _, _, 0, r => r
  | _, _, _ + 1, .nil => .nil
  | _, _, n + 1, .cons r t => RelDs.drop n t
theorem RelDs.get : ∀ {vs : List V} {ds : List D} {i : Nat} {d : D}, RelDs G F vs ds → ds[i]? = some d → ∃ v, vs[i]? = some v ∧ RelD G F v d
  | _, _, _, _, .nil, e => by simp at e
  | _, _, 0, _, .cons r _, e => by simp at e; subst e; exact ⟨_, rfl, r⟩
  | _, _, i + 1, d, .cons _ t, e => by
    obtain ⟨u, h1, h2⟩ := RelDs.get (i := i) (d := d) t (by simpa using e)
    exact ⟨u, by simpa using h1, h2⟩
theorem RelDs.getV : ∀ {vs : List V} {ds : List D} {i : Nat} {v : V}, RelDs G F vs ds → vs[i]? = some v → ∃ d, ds[i]? = some d ∧ RelD G F v d
  | _, _, _, _, .nil, e => by simp at e
  | _, _, 0, _, .cons r _, e => by simp at e; subst e; exact ⟨_, rfl, r⟩
  | _, _, i + 1, d, .cons _ t, e => by
    obtain ⟨u, h1, h2⟩ := RelDs.getV (i := i) (v := d) t (by simpa using e)
    exact ⟨u, by simpa using h1, h2⟩
theorem RelDs.set : ∀ {vs : List V} {ds : List D} {v : V} {d : D} (i : Nat), RelDs G F vs ds → RelD G F v d → RelDs G F (vs.set i v) (ds.set i d)
  | _, _, _, _, _, .nil, _ => .nil
  | _, _, _, _, 0, .cons _ t, q => .cons q t
  | _, _, _, _, i + 1, .cons r t, q => .cons r (RelDs.set i t q)
theorem RelDs.rev {vs : List V} {ds : List D} (h : RelDs G F vs ds) : RelDs G F vs.reverse ds.reverse := by
  have go : ∀ {vs : List V} {ds : List D} {ws : List V} {es : List D}, RelDs G F vs ds → RelDs G F ws es → RelDs G F (vs.reverseAux ws) (ds.reverseAux es) := by
    intro vs
    induction vs with
    | nil => intro ds ws es h q; cases h; exact q
    | cons v vs ih =>
      intro ds ws es h q
      cases h with
      | cons r t =>
        have z := ih t (.cons r q)
        exact z
  exact go h .nil
theorem RelDs.rep {vs : List V} {ds : List D} (h : RelDs G F vs ds) : ∀ n : Nat, RelDs G F (List.replicate n vs).flatten (List.replicate n ds).flatten
  | 0 => .nil
  | n + 1 => by
    rw [List.replicate_succ, List.replicate_succ, List.flatten_cons, List.flatten_cons]
    exact h.app (RelDs.rep h n)
theorem RelDs.ints : ∀ (ns : List Int), RelDs G F (ns.map V.int) (ns.map D.int)
  | [] => .nil
  | n :: ns => .cons (.int n) (RelDs.ints ns)
theorem RelDs.strs : ∀ (cs : List Nat), RelDs G F (cs.map fun c => V.str ⟨#[c]⟩) (cs.map fun c => D.str ⟨#[c]⟩)
  | [] => .nil
  | n :: ns => .cons (.str _) (RelDs.strs ns)

/-- what is not told of plays no part -/
abbrev Gx.hide (G : Gx) (P : Hp) : Gx := { G with P := P }
mutual
theorem RelD.hide (P : Hp) : ∀ {v : V} {d : D}, RelD G F v d → RelD (G.hide P) F v d
  | _, _, .non => .non
  | _, _, .bl b => .bl b
  | _, _, .int i => .int i
  | _, _, .str x => .str x
  | _, _, .tup h r => .tup h (RelDs.hide P r)
  | _, _, .lst h r => .lst h (RelDs.hide P r)
  | _, _, .scr h => .scr h
  | _, _, .emp h => .emp h
  | _, _, .loc => .loc
theorem RelDs.hide (P : Hp) : ∀ {vs : List V} {ds : List D}, RelDs G F vs ds → RelDs (G.hide P) F vs ds
  | _, _, .nil => .nil
  | _, _, .cons r t => .cons (RelD.hide P r) (RelDs.hide P t)
end
theorem RelD.unhide {P : Hp} {v : V} {d : D} (h : RelD (G.hide P) F v d) : RelD G F v d := h.hide (G := G.hide P) G.P
theorem RelDs.unhide {P : Hp} {vs : List V} {ds : List D} (h : RelDs (G.hide P) F vs ds) : RelDs G F vs ds := h.hide (G := G.hide P) G.P
/-- a dict's pairs -/
inductive KVR (G : Gx) (F : Hp) : List (Key × V) → List (Sum Int Str × D) → Prop
  | nil : KVR G F [] []
  | cons {k : Sum Int Str} {v : V} {d : D} {r : List (Key × V)} {s : List (Sum Int Str × D)} : RelD G F v d → KVR G F r s → KVR G F ((k, v) :: r) ((k, d) :: s)
theorem KVR.mono (s : Same F F') {r : List (Key × V)} {t : List (Sum Int Str × D)} (h : KVR G F r t) : KVR G F' r t := by
  induction h with
  | nil => exact .nil
  | cons h _ ih => exact .cons (h.mono s) ih
theorem KVR.look {k : Sum Int Str} {d : D} {r : List (Key × V)} {t : List (Sum Int Str × D)} (h : KVR G F r t) (e : lookD t k = some d) : ∃ v, valV r k = some v ∧ RelD G F v d := by
  induction h with
  | nil => cases e
  | @cons k' v d' r s h _ ih =>
    by_cases q : k' = k
    · refine ⟨v, valV_pos q, ?_⟩
      have e2 : lookD ((k', d') :: s) k = some d' := by
        show (((k', d') :: s).find? fun kv => decide (kv.1 = k)).map (·.2) = some d'
        rw [List.find?_cons_of_pos (by exact decide_eq_true q)]; rfl
      rw [e2] at e
      cases e
      exact h
    · have e2 : lookD ((k', d') :: s) k = lookD s k := by
        show (((k', d') :: s).find? fun kv => decide (kv.1 = k)).map (·.2) = _
        rw [List.find?_cons_of_neg (by intro z; exact q (of_decide_eq_true z))]; rfl
      rw [e2] at e
      rw [valV_neg q]
      exact ih e
theorem KVR.anyK {k : Sum Int Str} {r : List (Key × V)} {t : List (Sum Int Str × D)} (h : KVR G F r t) : (r.any fun kv => decide (kv.1 = k)) = (t.any fun kv => decide (kv.1 = k)) := by
  induction h with
  | nil => rfl
  | cons _ _ ih => rw [List.any_cons, List.any_cons, ih]
theorem KVR.putM {k : Sum Int Str} {v : V} {d : D} {r : List (Key × V)} {t : List (Sum Int Str × D)} (h : KVR G F r t) (hd : RelD G F v d) : KVR G F (r.map fun kv => if kv.1 = k then (kv.1, v) else kv) (t.map fun kv => if kv.1 = k then (kv.1, d) else kv) := by
  induction h with
  | nil => exact .nil
  | @cons k' _ _ _ _ h _ ih =>
    rw [List.map_cons, List.map_cons]
    by_cases q : k' = k
    · rw [if_pos q, if_pos q]; exact .cons hd ih
    · rw [if_neg q, if_neg q]; exact .cons h ih
theorem KVR.snoc {k : Sum Int Str} {v : V} {d : D} {r : List (Key × V)} {t : List (Sum Int Str × D)} (h : KVR G F r t) (hd : RelD G F v d) : KVR G F (r ++ [(k, v)]) (t ++ [(k, d)]) := by
  induction h with
  | nil => exact .cons hd .nil
  | cons h _ ih => exact .cons h ih
theorem KVR.put {k : Sum Int Str} {v : V} {d : D} {r : List (Key × V)} {t : List (Sum Int Str × D)} (h : KVR G F r t) (hd : RelD G F v d) : KVR G F (putK r k v) (putD t k d) := by
  unfold putK putD
  rw [h.anyK (k := k)]
  by_cases q : (t.any fun kv => decide (kv.1 = k)) = true
  · rw [if_pos q, if_pos q]; exact h.putM hd
  · rw [if_neg q, if_neg q]; exact h.snoc hd
theorem KVR.merge : ∀ {ks : List (Sum Int Str)} {vs : List V} {ds : List D} {r : List (Key × V)} {t : List (Sum Int Str × D)}, KVR G F r t → RelDs G F vs ds → KVR G F (mergeK r (ks.zip vs)) (mergeD t (ks.zip ds))
  | [], vs, ds, r, t, h, _ => by cases vs <;> cases ds <;> exact h
  | k :: ks, _, _, r, t, h, .nil => h
  | k :: ks, _, _, r, t, h, .cons h1 h2 => KVR.merge (ks := ks) (h.put (k := k) h1) h2
theorem KVR.len {r : List (Key × V)} {t : List (Sum Int Str × D)} (h : KVR G F r t) : r.length = t.length := by
  induction h with
  | nil => rfl
  | cons _ _ ih => rw [List.length_cons, List.length_cons, ih]
theorem KVR.hide {G : Gx} {F : Hp} (P : Hp) {r : List (Key × V)} {t : List (Sum Int Str × D)} (h : KVR G F r t) : KVR (G.hide P) F r t := by
  induction h with
  | nil => exact .nil
  | cons h _ ih => exact .cons (h.hide P) ih
theorem KVR.unhide {G : Gx} {F : Hp} {P : Hp} {r : List (Key × V)} {t : List (Sum Int Str × D)} (h : KVR (G.hide P) F r t) : KVR G F r t := h.hide (G := G.hide P) G.P
/-- what stands at a place -/
def RelOb (G : Gx) (F H : Hp) (a : Addr) : Ob → Prop
  | .lst ds => ∃ vs, H a = some (.lst vs) ∧ RelDs G F vs ds
  | .dic kvs => ∃ vks, H a = some (.dK vks) ∧ KVR G F vks kvs
  | .ins c fs => ∃ C dd, G.cl c = some C ∧ H a = some (L2.ExH (.ref C) dd a) ∧ (fs = [] ∧ dd = none ∨ ∃ d fvs, dd = some d ∧ F d = some (.xd fvs) ∧ Paired (fun (p : Str × V) (q : Str × D) => p.1 = q.1 ∧ RelD G F p.2 q.2) fvs fs)
  | .obj c fs => ∃ C dx fvs, G.co c = some C ∧ H a = some (.ins C dx fvs) ∧ Paired (fun (p : Str × V) (q : Str × D) => p.1 = q.1 ∧ RelD G F p.2 q.2) fvs fs
theorem fvs_mono {G : Gx} {F F' : Hp} (s : Same F F') {fvs : List (Str × V)} {fs : List (Str × D)} (h : Paired (fun (p : Str × V) (q : Str × D) => p.1 = q.1 ∧ RelD G F p.2 q.2) fvs fs) : Paired (fun (p : Str × V) (q : Str × D) => p.1 = q.1 ∧ RelD G F' p.2 q.2) fvs fs :=
  Paired.mapP h fun p q z => ⟨z.1, z.2.mono s⟩
theorem RelOb.at {F F' H H' : Hp} {a : Addr} {ob : Ob} (s : Same F F') (e : H' a = H a) (h : RelOb G F H a ob) : RelOb G F' H' a ob := by
  cases ob with
  | lst ds => obtain ⟨vs, h1, h2⟩ := h; exact ⟨vs, e.trans h1, h2.mono s⟩
  | dic kvs => obtain ⟨vs, h1, h2⟩ := h; exact ⟨vs, e.trans h1, h2.mono s⟩
  | ins c fs =>
    obtain ⟨C, dd, h1, h2, h3⟩ := h
    refine ⟨C, dd, h1, e.trans h2, ?_⟩
    rcases h3 with h3 | ⟨d, fvs, h4, h5, h6⟩
    · exact .inl h3
    · exact .inr ⟨d, fvs, h4, s _ _ h5, fvs_mono s h6⟩
  | obj c fs =>
    obtain ⟨C, dx, fvs, h1, h2, h3⟩ := h
    exact ⟨C, dx, fvs, h1, e.trans h2, fvs_mono s h3⟩
theorem RelOb.there {F H : Hp} {a : Addr} {ob : Ob} (h : RelOb G F H a ob) : ∃ o, H a = some o := by
  cases ob with
  | lst ds => obtain ⟨vs, h1, _⟩ := h; exact ⟨_, h1⟩
  | dic kvs => obtain ⟨vs, h1, _⟩ := h; exact ⟨_, h1⟩
  | ins c fs => obtain ⟨C, dd, h1, h2, h3⟩ := h; exact ⟨_, h2⟩
  | obj c fs => obtain ⟨C, dx, fvs, h1, h2, h3⟩ := h; exact ⟨_, h2⟩
/-- F: what never changes; M: what may -/
structure RM (G : Gx) (F : Hp) (M : Mem) (H : Hp) : Prop where
  fz : Same F H
  mt : ∀ a ob, M a = some ob → F a = none ∧ RelOb G F H a ob
  hd : ∀ a o, G.P a = some o → H a = some o ∧ F a = none ∧ M a = none
theorem RM.freeF {M : Mem} {p : Addr} (r : RM G F M H) (hp : H p = none) : F p = none := r.fz.free hp
theorem RM.freeM {M : Mem} {p : Addr} (r : RM G F M H) (hp : H p = none) : M p = none := by
  cases q : M p with
  | none => rfl
  | some ob =>
    obtain ⟨o, h⟩ := (r.mt p ob q).2.there
    rw [hp] at h; cases h
theorem same_upd {F : Hp} {p : Addr} {o : HO} (hp : F p = none) : Same F (upd F p o) := fun b u e => by rw [upd_ne (ne_of_none e hp)]; exact e
/-- a new thing that stays -/
theorem RM.neP {M : Mem} {p a : Addr} {o : HO} (r : RM G F M H) (hp : H p = none) (e : G.P a = some o) : a ≠ p := ne_of_none (r.hd a o e).1 hp
theorem RM.frz {M : Mem} {p : Addr} {o : HO} (r : RM G F M H) (hp : H p = none) : RM G (upd F p o) M (upd H p o) := by
  refine ⟨fun b u e => ?_, fun a ob e => ?_, fun a u e => by rw [upd_ne (r.neP hp e), upd_ne (r.neP hp e)]; exact r.hd a u e⟩
  · by_cases hb : b = p
    · subst hb; rw [upd_same] at e ⊢; exact e
    · rw [upd_ne hb] at e ⊢; exact r.fz b u e
  · obtain ⟨h1, h2⟩ := r.mt a ob e
    have ne : a ≠ p := fun z => by rw [z, r.freeM hp] at e; cases e
    exact ⟨by rw [upd_ne ne]; exact h1, h2.at (same_upd (r.freeF hp)) (upd_ne ne)⟩
/-- a new thing that is not told of -/
theorem RM.junk {M : Mem} {p : Addr} {o : HO} (r : RM G F M H) (hp : H p = none) : RM G F M (upd H p o) := by
  refine ⟨fun b u e => ?_, fun a ob e => ?_, fun a u e => by rw [upd_ne (r.neP hp e)]; exact r.hd a u e⟩
  · rw [upd_ne (ne_of_none e (r.freeF hp))]
    exact r.fz b u e
  · obtain ⟨h1, h2⟩ := r.mt a ob e
    have ne : a ≠ p := fun z => by rw [z, r.freeM hp] at e; cases e
    exact ⟨h1, h2.at (Same.refl F) (upd_ne ne)⟩
/-- a new thing that may change -/
theorem RM.new {M : Mem} {p : Addr} {o : HO} {ob : Ob} (r : RM G F M H) (hp : H p = none) (h : RelOb G F (upd H p o) p ob) : RM G F (M.upd p ob) (upd H p o) := by
  refine ⟨fun b u e => by rw [upd_ne (ne_of_none e (r.freeF hp))]; exact r.fz b u e, fun a ob' e => ?_, fun a u e => by
    rw [upd_ne (r.neP hp e)]
    unfold Mem.upd
    rw [if_neg (r.neP hp e)]
    exact r.hd a u e⟩
  unfold Mem.upd at e
  by_cases ha : a = p
  · subst ha; rw [if_pos rfl] at e; cases e; exact ⟨r.freeF hp, h⟩
  · rw [if_neg ha] at e
    obtain ⟨h1, h2⟩ := r.mt a ob' e
    exact ⟨h1, h2.at (Same.refl F) (upd_ne ha)⟩
/-- a thing changed -/
theorem RM.put {M : Mem} {p : Addr} {o : HO} {ob ob' : Ob} (r : RM G F M H) (hp : M p = some ob) (h : RelOb G F (upd H p o) p ob') : RM G F (M.upd p ob') (upd H p o) := by
  have nf := (r.mt p ob hp).1
  have nP : ∀ a u, G.P a = some u → a ≠ p := fun a u e z => by
    have q := (r.hd a u e).2.2
    rw [z, hp] at q; cases q
  refine ⟨fun b u e => by rw [upd_ne (ne_of_none e nf)]; exact r.fz b u e, fun a ob' e => ?_, fun a u e => by
    rw [upd_ne (nP a u e)]
    unfold Mem.upd
    rw [if_neg (nP a u e)]
    exact r.hd a u e⟩
  unfold Mem.upd at e
  by_cases ha : a = p
  · subst ha; rw [if_pos rfl] at e; cases e; exact ⟨nf, h⟩
  · rw [if_neg ha] at e
    obtain ⟨h1, h2⟩ := r.mt a ob' e
    exact ⟨h1, h2.at (Same.refl F) (upd_ne ha)⟩
/-- a thing that stays from here on -/
theorem RM.freeze {M : Mem} {p : Addr} {ds : List D} (r : RM G F M H) (hp : M p = some (.lst ds)) : ∃ vs, F p = none ∧ H p = some (.lst vs) ∧ RelDs G F vs ds ∧ RM G (upd F p (.lst vs)) (M.del p) H := by
  obtain ⟨nf, vs, h1, h2⟩ := r.mt p _ hp
  have nP : ∀ a u, G.P a = some u → a ≠ p := fun a u e z => by
    have q := (r.hd a u e).2.2
    rw [z, hp] at q; cases q
  refine ⟨vs, nf, h1, h2, fun b u e => ?_, fun a ob e => ?_, fun a u e => by
    rw [upd_ne (nP a u e)]
    unfold Mem.del
    rw [if_neg (nP a u e)]
    exact r.hd a u e⟩
  · by_cases hb : b = p
    · subst hb; rw [upd_same] at e; cases e; exact h1
    · rw [upd_ne hb] at e; exact r.fz b u e
  · unfold Mem.del at e
    by_cases ha : a = p
    · subst ha; rw [if_pos rfl] at e; cases e
    · rw [if_neg ha] at e
      obtain ⟨h3, h4⟩ := r.mt a ob e
      exact ⟨by rw [upd_ne ha]; exact h3, h4.at (same_upd nf) rfl⟩

/-! ### reading -/
theorem rd_T {M : Mem} {v : V} {ds : List D} (r : RM G F M H) (h : RelD G F v (.tup ds)) : ∃ p vs, v = .ref p ∧ SqT G.K H p vs ∧ RelDs G F vs ds := by
  cases h with
  | tup h1 h2 => exact ⟨_, _, rfl, same_t r.fz h1, h2⟩
theorem rd_L {M : Mem} {v : V} {d : D} {ds : List D} (r : RM G F M H) (h : RelD G F v d) (e : asL M d = some ds) : ∃ p vs, v = .ref p ∧ SqL G.K H p vs ∧ RelDs G F vs ds := by
  cases h with
  | lst h1 h2 =>
    cases e
    exact ⟨_, _, rfl, .of (r.fz _ _ h1), h2⟩
  | scr h1 =>
    cases e
    exact ⟨_, _, rfl, r.fz.seq h1, RelDs.ints _⟩
  | @loc a =>
    dsimp only [asL] at e
    cases q : M a with
    | none => rw [q] at e; cases e
    | some ob =>
      rw [q] at e
      cases ob with
      | lst ds' =>
        cases e
        obtain ⟨_, vs, h1, h2⟩ := r.mt a _ q
        exact ⟨_, _, rfl, .of h1, h2⟩
      | dic _ => cases e
      | ins _ _ => cases e
      | obj _ _ => cases e
  | _ => cases e
theorem rd_LT {M : Mem} {v : V} {d : D} {ds : List D} (r : RM G F M H) (h : RelD G F v d) (e : asLT M d = some ds) : ∃ p vs, v = .ref p ∧ H p = some (.lst vs) ∧ RelDs G F vs ds := by
  cases h with
  | lst h1 h2 =>
    cases e
    exact ⟨_, _, rfl, r.fz _ _ h1, h2⟩
  | @loc a =>
    dsimp only [asLT] at e
    cases q : M a with
    | none => rw [q] at e; cases e
    | some ob =>
      rw [q] at e
      cases ob with
      | lst ds' =>
        cases e
        obtain ⟨_, vs, h1, h2⟩ := r.mt a _ q
        exact ⟨_, _, rfl, h1, h2⟩
      | dic _ => cases e
      | ins _ _ => cases e
      | obj _ _ => cases e
  | _ => cases e
theorem rd_S {M : Mem} {v : V} {d : D} {ds : List D} (r : RM G F M H) (h : RelD G F v d) (e : asS M d = some ds) : ∃ p vs, v = .ref p ∧ (SqL G.K H p vs ∨ SqT G.K H p vs) ∧ RelDs G F vs ds := by
  by_cases ht : ∃ es, d = .tup es
  · obtain ⟨es, rfl⟩ := ht
    cases e
    obtain ⟨p, vs, h1, h2, h3⟩ := rd_T r h
    exact ⟨p, vs, h1, .inr h2, h3⟩
  · have e' : asL M d = some ds := by
      cases d with
      | tup es => exact absurd ⟨es, rfl⟩ ht
      | _ => exact e
    obtain ⟨p, vs, h1, h2, h3⟩ := rd_L r h e'
    exact ⟨p, vs, h1, .inl h2, h3⟩
end

/-! ### what follows -/
section
variable (G : Gx)
/-- what follows with a value -/
def Cn (F : Hp) (q : QK) (Q : VK) : Prop := ∀ F' M' H' v d, Same F F' → RM G F' M' H' → RelD G F' v d → q d M' → Q v H'
def CnB (F : Hp) (q : BK) (Q : Bool → Hp → Prop) : Prop := ∀ F' M' H' b, Same F F' → RM G F' M' H' → q b M' → Q b H'
def CnA (F : Hp) (q : AK) (Q : List V → Hp → Prop) : Prop := ∀ F' M' H' vs ds, Same F F' → RM G F' M' H' → RelDs G F' vs ds → q ds M' → Q vs H'
/-- an exception's object -/
def RelX (F _H : Hp) (z : Exn) (c : Value) (dd : Option Addr) : Prop :=
  ∃ C, G.cl z.c = some C ∧ c = .ref C ∧ (z.fs = [] ∧ dd = none ∨ ∃ d fvs, dd = some d ∧ F d = some (.xd fvs) ∧ Paired (fun (p : Str × V) (q : Str × D) => p.1 = q.1 ∧ RelD G F p.2 q.2) fvs z.fs)
def CnX (F : Hp) (e : XQ) (W : Value → Option Addr → Hp → Prop) : Prop := ∀ F' M' H' z c dd, Same F F' → RM G F' M' H' → RelX G F' H' z c dd → e z M' → W c dd H'
/-- the slots -/
structure EnvR (F : Hp) (env : Env) (σ : L2.St) : Prop where
  len : env.length = σ.length
  at_ : ∀ i d, slv env i = some d → ∃ v, σ[i]? = some (some v) ∧ RelD G F v d
end
section
variable {G : Gx} {F F' H : Hp} {M : Mem}
theorem Cn.mono {q : QK} {Q : VK} (s : Same F F') (c : Cn G F q Q) : Cn G F' q Q := fun F2 M2 H2 v d s2 => c F2 M2 H2 v d (s.trans s2)
theorem CnB.mono {q : BK} {Q : Bool → Hp → Prop} (s : Same F F') (c : CnB G F q Q) : CnB G F' q Q := fun F2 M2 H2 b s2 => c F2 M2 H2 b (s.trans s2)
theorem CnA.mono {q : AK} {Q : List V → Hp → Prop} (s : Same F F') (c : CnA G F q Q) : CnA G F' q Q := fun F2 M2 H2 b d s2 => c F2 M2 H2 b d (s.trans s2)
theorem CnX.mono {e : XQ} {W : Value → Option Addr → Hp → Prop} (s : Same F F') (c : CnX G F e W) : CnX G F' e W := fun F2 M2 H2 z c' dd s2 => c F2 M2 H2 z c' dd (s.trans s2)
theorem EnvR.mono {env : Env} {σ : L2.St} (s : Same F F') (h : EnvR G F env σ) : EnvR G F' env σ := ⟨h.len, fun i d e => let ⟨v, h1, h2⟩ := h.at_ i d e; ⟨v, h1, h2.mono s⟩⟩
theorem vals_set {env : Env} {i j : Nat} {o : Option D} : slv (env.set i o) j = if i = j ∧ i < env.length then o else slv env j := by
  unfold slv
  by_cases h : i = j
  · subst h
    by_cases hl : i < env.length
    · rw [List.getElem?_set_self hl, if_pos ⟨rfl, hl⟩]; rfl
    · rw [if_neg (fun z => hl z.2), List.getElem?_eq_none (by simpa using hl), List.getElem?_eq_none (by simpa using hl)]
  · rw [List.getElem?_set_ne h, if_neg (fun z => h z.1)]
theorem EnvR.set {env : Env} {σ : L2.St} {i : Nat} {v : V} {d : D} (h : EnvR G F env σ) (r : RelD G F v d) : EnvR G F (setV env i d) (σ.set i (some v)) := by
  refine ⟨by unfold setV; rw [List.length_set, List.length_set]; exact h.len, fun j e hj => ?_⟩
  unfold setV at hj
  rw [vals_set] at hj
  by_cases hc : i = j ∧ i < env.length
  · rw [if_pos hc] at hj
    cases hj
    obtain ⟨rfl, hl⟩ := hc
    exact ⟨v, by rw [List.getElem?_set_self (by rw [← h.len]; exact hl)], r⟩
  · rw [if_neg hc] at hj
    obtain ⟨w, h1, h2⟩ := h.at_ j e hj
    refine ⟨w, ?_, h2⟩
    by_cases hij : i = j
    · subst hij
      have hl : ¬ i < env.length := fun z => hc ⟨rfl, z⟩
      rw [h.len] at hl
      rw [List.getElem?_eq_none (by omega)] at h1
      cases h1
    · rw [List.getElem?_set_ne hij]; exact h1
theorem EnvR.wipe {env : Env} {σ : L2.St} (h : EnvR G F env σ) : ∀ (own : List Nat), EnvR G F (wipeE env own) (L2.wipe σ own)
  | [] => h
  | i :: own => by
    have ih := EnvR.wipe h own
    refine ⟨?_, fun j e hj => ?_⟩
    · show ((wipeE env own).set i none).length = ((L2.wipe σ own).set i none).length
      rw [List.length_set, List.length_set]; exact ih.len
    · have hj : slv ((wipeE env own).set i none) j = some e := hj
      show ∃ v, ((L2.wipe σ own).set i none)[j]? = some (some v) ∧ RelD G F v e
      rw [vals_set] at hj
      by_cases hc : i = j ∧ i < (wipeE env own).length
      · rw [if_pos hc] at hj; cases hj
      · rw [if_neg hc] at hj
        obtain ⟨w, h1, h2⟩ := ih.at_ j e hj
        refine ⟨w, ?_, h2⟩
        by_cases hij : i = j
        · subst hij
          have hl : ¬ i < (wipeE env own).length := fun z => hc ⟨rfl, z⟩
          rw [ih.len] at hl
          rw [List.getElem?_eq_none (by omega)] at h1
          cases h1
        · rw [List.getElem?_set_ne hij]; exact h1

/-! ### new lists -/
theorem newL_ok {fr : Bool} {vs : List V} {ds : List D} {q : QK} {Q : VK} (r : RM G F M H) (rs : RelDs G F vs ds) (cn : Cn G F q Q) (h : newL fr ds M q) :
    vs.length ≤ sizeLine ∧ ∀ p, H p = none → Q (.ref p) (upd H p (.lst vs)) := by
  obtain ⟨hz, h⟩ := h
  refine ⟨by rw [rs.len]; exact hz, fun p hp => ?_⟩
  cases fr with
  | true =>
    have s := same_upd (o := .lst vs) (r.freeF hp)
    exact cn _ M _ _ _ s (r.frz hp) (.lst upd_same (rs.mono s)) h
  | false =>
    exact cn F _ _ _ _ (Same.refl F) (r.new (ob := .lst ds) hp ⟨vs, upd_same, rs⟩) .loc (h p (r.freeM hp))
theorem newT_ok {vs : List V} {ds : List D} {q : QK} {Q : VK} (r : RM G F M H) (rs : RelDs G F vs ds) (cn : Cn G F q Q) (h : q (.tup ds) M) {p : Addr} (hp : H p = none) : Q (.ref p) (upd H p (.tup vs)) := by
  have s := same_upd (o := .tup vs) (r.freeF hp)
  exact cn _ M _ _ _ s (r.frz hp) (.tup (.of upd_same) (rs.mono s)) h
theorem newE_ok {q : QK} {Q : VK} (r : RM G F M H) (cn : Cn G F q Q) (h : q .emp M) {p : Addr} (hp : H p = none) : Q (.ref p) (upd H p (.dK [])) := by
  have s := same_upd (o := .dK []) (r.freeF hp)
  exact cn _ M _ _ _ s (r.frz hp) (.emp upd_same) h

/-! ### data -/
theorem dpAll_ints {K : PySem.W.Frag} : ∀ (ns : List Int), DpAll K H (ns.map V.int) (ns.map PyData.int)
  | [] => .nil
  | n :: ns => .cons (.int n) (dpAll_ints ns)
mutual
theorem dp_of (r : RM G F M H) : ∀ {d : D} {v : V} {p : PyData}, RelD G F v d → toPy d = some p → Dp G.K H v p
  | .non, _, _, h, e => by cases h; cases e; exact .non
  | .bl b, _, _, h, e => by cases h; cases e; exact .bl b
  | .int i, _, _, h, e => by cases h; cases e; exact .int i
  | .str x, _, _, h, e => by cases h; cases e; exact .str x
  | .tup ds, _, p, h, e => by
    unfold toPy at e
    cases q : toPys ds with
    | none => rw [q] at e; cases e
    | some ps =>
      rw [q] at e; cases e
      cases h with
      | tup h1 h2 => exact .tup (same_t r.fz h1) (dp_all r h2 q)
  | .lst ds, _, p, h, e => by
    unfold toPy at e
    cases q : toPys ds with
    | none => rw [q] at e; cases e
    | some ps =>
      rw [q] at e; cases e
      cases h with
      | lst h1 h2 => exact .lst (.of (r.fz _ _ h1)) (dp_all r h2 q)
  | .scr ns, _, p, h, e => by
    cases e
    cases h with
    | scr h1 => exact .lst (r.fz.seq h1) (dpAll_ints ns)
  | .emp, _, _, _, e => by cases e
  | .loc _, _, _, _, e => by cases e
theorem dp_all (r : RM G F M H) : ∀ {ds : List D} {vs : List V} {ps : List PyData}, RelDs G F vs ds → toPys ds = some ps → DpAll G.K H vs ps
  | [], _, _, h, e => by cases h; cases e; exact .nil
  | d :: ds, _, ps, h, e => by
    unfold toPys at e
    cases q1 : toPy d with
    | none => rw [q1] at e; cases e
    | some p =>
      cases q2 : toPys ds with
      | none => rw [q1, q2] at e; cases e
      | some ps' =>
        rw [q1, q2] at e; cases e
        cases h with
        | cons h1 h2 => exact .cons (dp_of r h1 q1) (dp_all r h2 q2)
end
theorem dp_1 (r : RM G F M H) {d : D} {v : V} {p : PyData} (h : RelD G F v d) (e : toPy1 M d = some p) : Dp G.K H v p := by
  cases d with
  | loc a =>
    dsimp only [toPy1] at e
    cases q : M a with
    | none => rw [q] at e; cases e
    | some ob =>
      rw [q] at e
      cases ob with
      | lst ds =>
        have e : (toPys ds).map PyData.list = some p := e
        cases q2 : toPys ds with
        | none => rw [q2] at e; cases e
        | some ps =>
          rw [q2] at e; cases e
          cases h
          obtain ⟨_, vs, h1, h2⟩ := r.mt a _ q
          exact .lst (.of h1) (dp_all r h2 q2)
      | dic _ => cases e
      | ins _ _ => cases e
      | obj _ _ => cases e
  | _ => exact dp_of r h e

theorem dps_1 (r : RM G F M H) : ∀ {ds : List D} {vs : List V} {ps : List PyData}, RelDs G F vs ds → toPys1 M ds = some ps → DpAll G.K H vs ps
  | [], vs, ps, h, e => by
    cases e; cases h; exact .nil
  | d :: ds, vs, ps, h, e => by
    unfold toPys1 at e
    cases q1 : toPy1 M d with
    | none => rw [q1] at e; cases e
    | some p =>
      cases q2 : toPys1 M ds with
      | none => rw [q1, q2] at e; cases e
      | some ps' =>
        rw [q1, q2] at e; cases e
        cases h with
        | cons h1 h2 => exact .cons (dp_1 r h1 q1) (dps_1 r h2 q2)
theorem dp_M (r : RM G F M H) {d : D} {v : V} {p : PyData} (h : RelD G F v d) (e : toPyM M d = some p) : Dp G.K H v p := by
  cases d with
  | tup ds =>
    have e : (toPys1 M ds).map PyData.tuple = some p := e
    cases q2 : toPys1 M ds with
    | none => rw [q2] at e; cases e
    | some ps =>
      rw [q2] at e; cases e
      cases h with
      | tup h1 h2 => exact .tup (same_t r.fz h1) (dps_1 r h2 q2)
  | _ => exact dp_1 r h e

theorem dps_F {f : D → Option PyData} (ih : ∀ {d : D} {v : V} {p : PyData}, RelD G F v d → f d = some p → Dp G.K H v p) : ∀ {ds : List D} {vs : List V} {ps : List PyData}, RelDs G F vs ds → optAll f ds = some ps → DpAll G.K H vs ps
  | [], vs, ps, h, e => by
    cases e; cases h; exact .nil
  | d :: ds, vs, ps, h, e => by
    unfold optAll at e
    cases q1 : f d with
    | none => rw [q1] at e; cases e
    | some p =>
      cases q2 : optAll f ds with
      | none => rw [q1, q2] at e; cases e
      | some ps' =>
        rw [q1, q2] at e; cases e
        cases h with
        | cons h1 h2 => exact .cons (ih h1 q1) (dps_F ih h2 q2)
theorem dp_F (r : RM G F M H) : ∀ (n : Nat) {d : D} {v : V} {p : PyData}, RelD G F v d → toPyF M n d = some p → Dp G.K H v p
  | 0, _, _, _, _, e => by cases e
  | n + 1, d, v, p, h, e => by
    have ih : ∀ {d : D} {v : V} {p : PyData}, RelD G F v d → toPyF M n d = some p → Dp G.K H v p := fun h e => dp_F r n h e
    cases d with
    | tup ds =>
      have e : (optAll (toPyF M n) ds).map PyData.tuple = some p := e
      cases q2 : optAll (toPyF M n) ds with
      | none => rw [q2] at e; cases e
      | some ps =>
        rw [q2] at e; cases e
        cases h with
        | tup h1 h2 => exact .tup (same_t r.fz h1) (dps_F ih h2 q2)
    | lst ds =>
      have e : (optAll (toPyF M n) ds).map PyData.list = some p := e
      cases q2 : optAll (toPyF M n) ds with
      | none => rw [q2] at e; cases e
      | some ps =>
        rw [q2] at e; cases e
        cases h with
        | lst h1 h2 => exact .lst (.of (r.fz _ _ h1)) (dps_F ih h2 q2)
    | loc a =>
      dsimp only [toPyF] at e
      cases q : M a with
      | none => rw [q] at e; cases e
      | some ob =>
        rw [q] at e
        cases ob with
        | lst ds =>
          have e : (optAll (toPyF M n) ds).map PyData.list = some p := e
          cases q2 : optAll (toPyF M n) ds with
          | none => rw [q2] at e; cases e
          | some ps =>
            rw [q2] at e; cases e
            cases h
            obtain ⟨_, vs, h1, h2⟩ := r.mt a _ q
            exact .lst (.of h1) (dps_F ih h2 q2)
        | dic _ => cases e
        | ins _ _ => cases e
        | obj _ _ => cases e
    | _ => exact dp_of r h e

/-! ### operators by values -/
/-- a two-place operation -/
def lift2 (G : Gx) (w : D → D → Mem → QK → Prop) : R2 := fun x y H Q => ∃ F M dx dy q, RM G F M H ∧ RelD G F x dx ∧ RelD G F y dy ∧ Cn G F q Q ∧ w dx dy M q
theorem OpR.or2 {X : Cx} {f : Value → Value → Sem Value} {r : R2} (h : ∀ x y H Q, r x y H Q → ∃ r', OpR X f r' ∧ r' x y H Q) : OpR X f r := by
  intro pins s σ H x y v u Q I rx ry q
  obtain ⟨r', h1, h2⟩ := h x y H Q q
  exact h1 pins s σ H x y v u Q I rx ry h2
variable {X : Cx}
theorem opr_add (hK : X.K = G.K) {fr : Bool} : OpR X (binaryOp .Add) (lift2 G (addW fr)) := by
  refine OpR.or2 fun x y H Q ⟨F, M, dx, dy, q, rm, r1, r2, cn, h⟩ => ?_
  have lists : (match asLT M dx, asLT M dy with
    | some a, some b => newL fr (a ++ b) M q
    | _, _ => False) → ∃ r', OpR X (binaryOp .Add) r' ∧ r' x y H Q := fun h => by
    cases e1 : asLT M dx with
    | none => rw [e1] at h; exact h.elim
    | some a =>
      cases e2 : asLT M dy with
      | none => rw [e1, e2] at h; exact h.elim
      | some b =>
        rw [e1, e2] at h
        obtain ⟨p1, vs1, rfl, g1, g2⟩ := rd_LT rm r1 e1
        obtain ⟨p2, vs2, rfl, g3, g4⟩ := rd_LT rm r2 e2
        obtain ⟨hz, k⟩ := newL_ok rm (g2.app g4) cn h
        exact ⟨_, op_cat, p1, p2, vs1, vs2, rfl, rfl, g1, g3, by rw [List.length_append] at hz; exact hz, k⟩
  have cnh : ∀ {v d}, RelD G F v d → q d M → Q v H := fun r h => cn F M H _ _ (Same.refl F) rm r h
  cases dx with
  | int i =>
    cases dy with
    | int j => cases r1; cases r2; exact ⟨_, op_add, i, j, rfl, rfl, cnh (.int _) h⟩
    | _ => exact lists h
  | str a =>
    cases dy with
    | str b => cases r1; cases r2; exact ⟨_, op_add_str, a, b, rfl, rfl, h.1, cnh (.str _) h.2⟩
    | _ => exact lists h
  | tup a =>
    cases dy with
    | tup b =>
      obtain ⟨p1, vs1, rfl, g1, g2⟩ := rd_T rm r1
      obtain ⟨p2, vs2, rfl, g3, g4⟩ := rd_T rm r2
      refine ⟨_, op_catA, p1, p2, vs1, vs2, rfl, rfl, by rw [hK]; exact g1, by rw [hK]; exact g3, by rw [g2.len, g4.len]; exact h.1, fun e => ?_, fun _ e => ?_, fun _ _ p hp => newT_ok rm (g2.app g4) cn h.2 hp⟩
      · subst e; cases g2; exact cnh r2 h.2
      · subst e; cases g4
        have := h.2
        rw [List.append_nil] at this
        exact cnh r1 this
    | _ => exact lists h
  | _ => exact lists h
theorem mul_okI {i j : Int} (h : mulOk i j) : IntMulOk i j := by
  have b : ∀ x : Int, Builtin.Int.intBits x ≤ x.natAbs.log2 + 1 := fun x => by
    unfold Builtin.Int.intBits
    split <;> omega
  have h1 := b i
  have h2 := b j
  have h3 : i.natAbs.log2 + j.natAbs.log2 < 100000000 := h
  have e : bitsLine = 134217728 := by decide
  unfold IntMulOk
  intro z
  rw [Bool.and_eq_true] at z
  have z2 := z.2
  unfold Builtin.Int.intTooBig at z2
  have z3 := of_decide_eq_true z2
  rw [e] at z3
  omega
theorem op_mulG {X : Cx} : OpR X (binaryOp .Mult) (rI mulOk fun i j => .int (i * j)) := opI fun _ _ _ _ _ _ _ hc q => mul_int q (mul_okI hc)
end
end Wp

/-! WpGt: a > b of two lists of ints. -/
namespace Wp
open PySem PySem.SeqAt
open _root_.Ob (RcOp)
open PySem.AutoSeq1 (wpAny_loadPart')
open PySem.MeetsSeq PySem.MeetsSeq2 PySem.MeetsSeq3
theorem gt_loopAt (l b : Addr) (items items2 : Array Value) (n n2 : Nat) (dd dd2 : Option Addr) (sl sl2 : Array (Option Value)) (e r : Nat → Bool) (k : Nat) :
    ∀ i : Nat, min items.size items2.size - i = k → Meets (Builtin.«list.__eq__.loop» ⟨[.ref l, .ref b, rawInt i, rawInt 4], []⟩)
      (fun A R s => s.heap.get? l = some { cls := .type "list", dict := dd, data := .seq items n, slots := sl } ∧ s.heap.get? b = some { cls := .type "list", dict := dd2, data := .seq items2 n2, slots := sl2 } ∧
        (∀ j (h1 : j < items.size) (h2 : j < items2.size), EqAt A.in1 s items[j] items2[j] (e j)) ∧ (∀ j (h1 : j < items.size) (h2 : j < items2.size), e j = false → RcOp .Gt A.in1 s items[j] items2[j] (r j)) ∧
        R (.ok (.ret (.bool (firstLt e r (decide (items.size > items2.size)) ((List.range (min items.size items2.size)).drop i))))) s) := by
  induction k with
  | zero =>
    intro i hk prog w A R s h
    obtain ⟨hp, g, d, tk, os⟩ := s; obtain ⟨hl, hb, he, hr, h⟩ := h
    have hd : (List.range (min items.size items2.size)).drop i = [] := by simp; omega
    rw [hd] at h
    wp_walk using wpAny_loadPart' hl, wpAny_loadPart' hb
    by_cases h1 : items.size ≤ i
    · have hi1 : items[((i : Nat) : Int).toNat]? = none := by simp; omega
      rw [hi1]
      wp_walk using wpAny_loadPart' hl, wpAny_loadPart' hb
      exact h
    · have hlt : i < items.size := by omega
      have hi1 : items[((i : Nat) : Int).toNat]? = some items[i] := by simp [hlt]
      have hi2 : items2[((i : Nat) : Int).toNat]? = none := by simp; omega
      rw [hi1, hi2]
      wp_walk using wpAny_loadPart' hl, wpAny_loadPart' hb
      exact h
  | succ k ih =>
    intro i hk prog w A R s h
    obtain ⟨hp, g, d, tk, os⟩ := s; obtain ⟨hl, hb, he, hr, h⟩ := h
    wp_walk using wpAny_loadPart' hl, wpAny_loadPart' hb
    have hm : i < min items.size items2.size := by omega
    have hlt : i < items.size := Nat.lt_of_lt_of_le hm (Nat.min_le_left _ _)
    have hlt2 : i < items2.size := Nat.lt_of_lt_of_le hm (Nat.min_le_right _ _)
    have hi1 : items[((i : Nat) : Int).toNat]? = some items[i] := by simp [hlt]
    have hi2 : items2[((i : Nat) : Int).toNat]? = some items2[i] := by simp [hlt2]
    have hd : (List.range (min items.size items2.size)).drop i = i :: (List.range (min items.size items2.size)).drop (i + 1) := by simp [List.drop_eq_getElem_cons, hm]
    have hc : ((i : Int) + 1) = ((i + 1 : Nat) : Int) := by push_cast; rfl
    rw [hd] at h
    rw [hi1, hi2]
    refine wpAny_bind (he i hlt hlt2 prog w _ _ ?_)
    cases hb' : e i with
    | true =>
      rw [firstLt_yes hb'] at h
      wp_walk
      rw [hc]
      exact ⟨plainId_quiet plain_eq_loop _, codeAny_builtin entry_eq_loop (by
        rw [Around.under_plainId plain_eq_loop _]
        exact ih (i + 1) (by omega) prog w A R _ ⟨hl, hb, he, hr, h⟩)⟩
    | false =>
      rw [firstLt_no hb'] at h
      wp_walk using wpAny_loadPart' hl, wpAny_loadPart' hb
      rw [hi1, hi2]
      have hri := hr i hlt hlt2 hb' prog w
      wp_walk using hri
      exact h
theorem list_gtAt (l b : Addr) (items items2 : Array Value) (n n2 : Nat) (dd dd2 : Option Addr) (sl sl2 : Array (Option Value)) (e r : Nat → Bool) :
    Meets (Builtin.«list.__gt__» ⟨[.ref l, .ref b], []⟩)
      (fun A R s => s.heap.get? l = some { cls := .type "list", dict := dd, data := .seq items n, slots := sl } ∧ s.heap.get? b = some { cls := .type "list", dict := dd2, data := .seq items2 n2, slots := sl2 } ∧
        (∀ j (h1 : j < items.size) (h2 : j < items2.size), EqAt A.in1 s items[j] items2[j] (e j)) ∧ (∀ j (h1 : j < items.size) (h2 : j < items2.size), e j = false → RcOp .Gt A.in1 s items[j] items2[j] (r j)) ∧
        R (.ok (.ret (.bool (firstLt e r (decide (items.size > items2.size)) (List.range (min items.size items2.size)))))) s) := by
  intro prog w A R s h
  obtain ⟨hp, g, d, tk, os⟩ := s; obtain ⟨hl, hb, he, hr, h⟩ := h
  have f3 := AutoSeq1.sub_list_list
  wp_walk using wpAny_loadPart' hl, wpAny_loadPart' hb
  exact ⟨plainId_quiet plain_eq_loop _, codeAny_builtin entry_eq_loop (by
    rw [Around.under_plainId plain_eq_loop _]
    exact gt_loopAt l b items items2 n n2 dd dd2 sl sl2 e r _ 0 rfl prog w A R _ ⟨hl, hb, he, hr, by simpa using h⟩)⟩
theorem lists_gt {A : Around} {s : Shared} {l b : Addr} {items items2 : Array Value} {e r : Nat → Bool} (hl : s.heap.IsList l items) (hb : s.heap.IsList b items2) (hu : A.units < cLine)
    (he : ∀ j (h1 : j < items.size) (h2 : j < items2.size), EqAt A.in1 s items[j] items2[j] (e j)) (hr : ∀ j (h1 : j < items.size) (h2 : j < items2.size), e j = false → RcOp .Gt A.in1 s items[j] items2[j] (r j)) :
    RcOp .Gt A s (.ref l) (.ref b) (firstLt e r (decide (items.size > items2.size)) (List.range (min items.size items2.size))) := fun prog w E Q h => by
  obtain ⟨⟨cls, dd, data, sl⟩, ho, hc, n, hd⟩ := id hl
  obtain ⟨⟨cls2, dd2, data2, sl2⟩, ho2, hc2, n2, hd2⟩ := id hb
  simp only at hc hd hc2 hd2
  subst hc hd hc2 hd2
  exact richCompare_meets_room (op := .Gt) ⟨_, ho, rfl⟩ ⟨_, ho2, rfl⟩ F.slot_list_gt F.entry_list_gt (F.args_list_gt_2 _ _) (list_gtAt l b items items2 n n2 dd dd2 sl sl2 e r)
    ⟨ho, ho2, he, hr, ⟨(fun x => nomatch x), h⟩⟩ hu
open PySem.Spec PyProof.Rows L2
theorem first_gt : ∀ (ns ms : List Int), firstLt (fun j => decide (ns.getD j 0 = ms.getD j 0)) (fun j => decide (ms.getD j 0 < ns.getD j 0)) (decide (ns.length > ms.length)) (List.range (min ns.length ms.length)) = gtL ns ms
  | [], ms => by
    rw [List.length_nil, Nat.zero_min]
    show decide (0 > ms.length) = false
    exact decide_eq_false (by omega)
  | x :: xs, [] => by
    rw [List.length_nil, Nat.min_zero]
    show decide ((x :: xs).length > 0) = true
    exact decide_eq_true (by rw [List.length_cons]; omega)
  | x :: xs, y :: ys => by
    rw [List.length_cons, List.length_cons, Nat.succ_min_succ, List.range_succ_eq_map]
    have ih := first_gt xs ys
    show (if decide (x = y) = true then firstLt _ _ _ ((List.range (min xs.length ys.length)).map Nat.succ) else decide (y < x)) = gtL (x :: xs) (y :: ys)
    unfold gtL
    by_cases h : x = y
    · rw [if_pos h, if_pos (decide_eq_true h), PySem.W.firstLt_map, ← ih]
      have e : decide (xs.length + 1 > ys.length + 1) = decide (xs.length > ys.length) := by
        by_cases q : xs.length > ys.length
        · rw [decide_eq_true q, decide_eq_true (by omega)]
        · rw [decide_eq_false q, decide_eq_false (by omega)]
      rw [e]
      rfl
    · rw [if_neg h, if_neg (by rw [decide_eq_false h]; exact Bool.false_ne_true)]
def rGtL (K : PySem.W.Frag) : R2 := fun x y H Q => ∃ (a b : Addr) (ns ms : List Int), x = .ref a ∧ y = .ref b ∧ SqL K H a (ns.map V.int) ∧ SqL K H b (ms.map V.int) ∧ Q (.bl (gtL ns ms)) H
theorem op_gtL {X : Cx} (hu : X.A.units < cLine) : OpR X (compareOp .Gt) (rGtL X.K) := by
  intro pins s σ H x y v u Q I rx ry h
  obtain ⟨a, b, ns, ms, rfl, rfl, ha, hb, q⟩ := h
  cases rx
  cases ry
  obtain ⟨its, r1, p1, _⟩ := I.list ha
  obtain ⟨its2, r2, p2, _⟩ := I.list hb
  have i1 : IntsAre its ns := Vals.ints r1
  have i2 : IntsAre its2 ms := Vals.ints r2
  have e1 : its.toArray.size = ns.length := by rw [List.size_toArray]; exact i1.length
  have e2 : its2.toArray.size = ms.length := by rw [List.size_toArray]; exact i2.length
  have at1 : ∀ j (h1 : j < its.toArray.size), ∃ t, its.toArray[j] = .int (ns.getD j 0) t := fun j h1 => PyProof.Rows.IntsAre.int_at i1 _ _ (by simp at h1; simp [h1])
  have at2 : ∀ j (h1 : j < its2.toArray.size), ∃ t, its2.toArray[j] = .int (ms.getD j 0) t := fun j h1 => PyProof.Rows.IntsAre.int_at i2 _ _ (by simp at h1; simp [h1])
  have R := lists_gt (A := X.A) (s := s) (e := fun j => decide (ns.getD j 0 = ms.getD j 0)) (r := fun j => decide (ms.getD j 0 < ns.getD j 0)) p1.isList p2.isList hu (fun j h1 h2 => by
    obtain ⟨t, et⟩ := at1 j h1
    obtain ⟨t', et'⟩ := at2 j h2
    rw [et, et']
    have z : (ns.getD j 0 == ms.getD j 0) = decide (ns.getD j 0 = ms.getD j 0) := by
      by_cases q : ns.getD j 0 = ms.getD j 0
      · rw [decide_eq_true q]; exact beq_iff_eq.mpr q
      · rw [decide_eq_false q]; exact beq_eq_false_iff_ne.mpr q
    rw [← z]
    exact SeqAt.EqAt.int_int _ _ _ _) (fun j h1 h2 _ => by
    obtain ⟨t, et⟩ := at1 j h1
    obtain ⟨t', et'⟩ := at2 j h2
    rw [et, et']
    exact _root_.Ob.RcOp.gt_int _ _ _ _)
  rw [e1, e2, first_gt] at R
  have z : wpAny (model X.prog X.w) X.A (compareOp .Gt (.ref a) (.ref b)) (EP X pins σ Q) X.xe s := R X.prog X.w X.xe (EP X pins σ Q) ⟨.bl _, H, I, rfl, q⟩
  exact z
end Wp

/-! WpX1: text * int, tuple * int where it is none or one time. -/
namespace Wp
open PySem PySem.Spec PyProof.Rows L2
theorem fold_nats (x : Array Nat) : ∀ (k : Nat) (acc : Array Nat), ((List.replicate k x).foldl (· ++ ·) acc).toList = acc.toList ++ (List.replicate k x.toList).flatten
  | 0, acc => by simp
  | k + 1, acc => by
    rw [List.replicate_succ, List.foldl_cons, fold_nats x k, List.replicate_succ, List.flatten_cons, Array.toList_append, List.append_assoc]
theorem repS_eq (z : Str) (n : Nat) : (⟨(List.replicate n z.cps).foldl (· ++ ·) #[]⟩ : Str) = repS z n := by
  have h := fold_nats z.cps n #[]
  unfold repS
  rw [show (List.replicate n z.cps).foldl (· ++ ·) #[] = (List.replicate n z.cps.toList).flatten.toArray from Array.toList_inj.mp (by rw [h]; rfl)]
theorem repS_len (z : Str) (n : Nat) : (repS z n).length = z.length * n := by
  show (List.replicate n z.cps.toList).flatten.toArray.size = _
  rw [List.size_toArray, PyProof.Rows.lm_len_rep_flat, Array.length_toList, Nat.mul_comm]
  rfl
theorem repS_one (z : Str) : repS z 1 = z := by
  unfold repS
  simp
theorem repS_nil {z : Str} (n : Nat) (h : z.length = 0) : repS z n = z := by
  have e : z.cps = #[] := Array.eq_empty_of_size_eq_zero h
  unfold repS
  cases z with
  | mk c =>
    cases e
    simp
section
variable {X : Cx}
theorem op_repS : OpR X (binaryOp .Mult) (fun x y H Q => ∃ z k, x = .str z ∧ y = .int k ∧ -(2 ^ 63) ≤ k ∧ k < 2 ^ 63 ∧ z.length * k.toNat ≤ sizeLine ∧ Q (.str (repS z k.toNat)) H) := by
  intro pins s σ H x y v u Q I rx ry h
  obtain ⟨z, k, rfl, rfl, h1, h2, hz, q⟩ := h
  obtain ⟨t, rfl⟩ := rx
  obtain ⟨t', rfl⟩ := ry
  have hS : sizeLine ≤ 1000000000 := by decide
  refine P.mul_str ?_ ?_ ?_ ?_
  · rw [decide_eq_false (by omega), decide_eq_false (by omega)]; rfl
  · intro h3 h4
    have e : ((z.length : Nat) : Int) * k ≤ 1000000000 := by
      have : ((z.length * k.toNat : Nat) : Int) = z.length * k := by rw [Int.natCast_mul, Int.toNat_of_nonneg (by omega)]
      rw [← this]
      omega
    rw [Int.not_lt]
    refine (Int.le_ediv_iff_mul_le (by omega)).mpr ?_
    omega
  · intro h3 h4
    exact decide_eq_false (by omega)
  · split
    · rename_i h3
      have e : repS z k.toNat = Str.empty := by
        have : k.toNat = 0 := by omega
        rw [this]
        rfl
      exact ⟨by decide, .str (repS z k.toNat), H, I.tok _, ⟨_, by rw [e]⟩, q⟩
    · split
      · rename_i h3 h4
        have e : repS z k.toNat = z := by
          rw [Bool.or_eq_true, beq_iff_eq, beq_iff_eq] at h4
          rcases h4 with h4 | h4
          · rw [h4]; exact repS_one z
          · exact repS_nil _ h4
        refine ⟨.str (repS z k.toNat), H, I, ⟨t, by rw [e]⟩, q⟩
      · rw [repS_eq]
        exact ⟨by rw [repS_len]; exact hz, .str (repS z k.toNat), H, I.tok _, ⟨_, rfl⟩, q⟩
/-! ### tuple * 1, tuple * 0 -/
theorem tuple_same (l : Addr) (items : Array Value) (n : Nat) (dd : Option Addr) (sl : Array (Option Value)) (x : Int) (u : Tok) (c0 : (decide (x < -(2 ^ 63)) || decide (x ≥ 2 ^ 63)) = false) (c1 : (items.isEmpty || x == 1) = true) :
    Meets (Builtin.«tuple.__mul__» ⟨[.ref l, .int x u], []⟩) (fun _ R s => s.heap.get? l = some { cls := .type "tuple", dict := dd, data := .seq items n, slots := sl } ∧
      R (.ok (.ret (.ref l))) s) :=
  .of_wp fun prog w A R s h => by
    obtain ⟨hp, g, d, tk, os⟩ := s
    obtain ⟨hl, h⟩ := h
    have f1 := AutoSeq1.idx_int
    wp_walk using wpAny_loadPart' hl
    repeat (first
      | (refine wpAny_ite_false (decide_eq_false (by rw [c0]; exact Bool.false_ne_true)) ?_; wp_walk using wpAny_loadPart' hl)
      | (refine wpAny_ite_true (decide_eq_true (by rw [c1])) ?_; wp_walk using wpAny_loadPart' hl))
    exact ⟨_, rfl, h⟩
theorem tuple_none (l : Addr) (items : Array Value) (n : Nat) (dd : Option Addr) (sl : Array (Option Value)) (x : Int) (u : Tok) (c0 : (decide (x < -(2 ^ 63)) || decide (x ≥ 2 ^ 63)) = false) (c1 : (items.isEmpty || x == 1) = false) (c2 : (decide (x ≤ 0) || items.isEmpty) = true) :
    Meets (Builtin.«tuple.__mul__» ⟨[.ref l, .int x u], []⟩) (fun _ R s => s.heap.get? l = some { cls := .type "tuple", dict := dd, data := .seq items n, slots := sl } ∧
      R (.ok (.ret (Value.ref s.heap.objs.size))) { s with heap := s.heap.push { cls := Value.type "tuple", data := Data.seq #[] }, toks := s.toks }) :=
  .of_wp fun prog w A R s h => by
    obtain ⟨hp, g, d, tk, os⟩ := s
    obtain ⟨hl, h⟩ := h
    have f1 := AutoSeq1.idx_int
    wp_walk using wpAny_loadPart' hl
    repeat (first
      | (refine wpAny_ite_false (decide_eq_false (by rw [c0]; exact Bool.false_ne_true)) ?_; wp_walk using wpAny_loadPart' hl)
      | (refine wpAny_ite_false (decide_eq_false (by rw [c1]; exact Bool.false_ne_true)) ?_; wp_walk using wpAny_loadPart' hl)
      | (refine wpAny_ite_true (decide_eq_true (by rw [c2])) ?_; wp_walk using wpAny_loadPart' hl))
    exact ⟨_, rfl, h⟩
def rRepT0 (K : PySem.W.Frag) : R2 := fun x y H Q => ∃ l k xs, x = .ref l ∧ y = .int k ∧ SqT K H l xs ∧ -(2 ^ 63) ≤ k ∧ k < 2 ^ 63 ∧ ((xs = [] ∨ k = 1) → Q (.ref l) H) ∧ (xs ≠ [] → k ≤ 0 → ∀ p, H p = none → Q (.ref p) (upd H p (.tup []))) ∧ (xs = [] ∨ k ≤ 1)
theorem op_repT0 : OpR X (binaryOp .Mult) (rRepT0 X.K) := by
  intro pins s σ H x y v u Q I rx ry h
  obtain ⟨l, k, xs, rfl, rfl, hT, h1, h2, q1, q2, h3⟩ := h
  cases rx
  obtain ⟨t, rfl⟩ := ry
  obtain ⟨its, r, ⟨⟨cls, dd, data, sl⟩, ho, hc, n, hd⟩, hs⟩ := I.tuple hT
  simp only at hc hd
  subst hc hd
  have c0 : (decide (k < -(2 ^ 63)) || decide (k ≥ 2 ^ 63)) = false := by
    rw [decide_eq_false (by omega), decide_eq_false (by omega)] <;> rfl
  by_cases e : xs = [] ∨ k = 1
  · have c1 : (its.toArray.isEmpty || k == 1) = true := by
      rcases e with e | e
      · subst e; cases r; rfl
      · rw [e, Bool.or_eq_true]; exact .inr rfl
    refine wpAny_binaryOp_repeat_ref (T := "tuple") (U := "int") (by decide) ⟨_, ho, rfl⟩ (fun s' => typeIs_int s' k t) noFill_tuple_mul F.fills_int_mul F.slot_int_rmul repeat_tuple F.slot_int_index.lookup
      (call_meets F.slot_int_rmul (typeIs_int s k t) F.entry_int_rmul (F.args_int_rmul_2 _ _) (int_rmul_tuple k t l its.toArray n dd sl)
        ⟨ho, rfl, ⟨_, ho, rfl⟩, call_meets F.slot_tuple_mul ⟨_, ho, rfl⟩ F.entry_tuple_mul (F.args_tuple_mul_2 _ _) (tuple_same l its.toArray n dd sl k t c0 c1) ⟨ho, ?_⟩⟩)
    exact ⟨.ref l, H, I, rfl, q1 e⟩
  · have hn : xs ≠ [] := fun z => e (.inl z)
    have hk : k ≤ 0 := by
      rcases h3 with h3 | h3
      · exact absurd h3 hn
      · have : k ≠ 1 := fun z => e (.inr z)
        omega
    have hi : its.toArray.isEmpty = false := by
      cases r with
      | nil => exact absurd rfl hn
      | cons a b => rfl
    have c1 : (its.toArray.isEmpty || k == 1) = false := by
      rw [hi, Bool.false_or]
      exact beq_eq_false_iff_ne.mpr (by omega)
    have c2 : (decide (k ≤ 0) || its.toArray.isEmpty) = true := by
      rw [decide_eq_true hk]; rfl
    refine wpAny_binaryOp_repeat_ref (T := "tuple") (U := "int") (by decide) ⟨_, ho, rfl⟩ (fun s' => typeIs_int s' k t) noFill_tuple_mul F.fills_int_mul F.slot_int_rmul repeat_tuple F.slot_int_index.lookup
      (call_meets F.slot_int_rmul (typeIs_int s k t) F.entry_int_rmul (F.args_int_rmul_2 _ _) (int_rmul_tuple k t l its.toArray n dd sl)
        ⟨ho, rfl, ⟨_, ho, rfl⟩, call_meets F.slot_tuple_mul ⟨_, ho, rfl⟩ F.entry_tuple_mul (F.args_tuple_mul_2 _ _) (tuple_none l its.toArray n dd sl k t c0 c1 c2) ⟨ho, ?_⟩⟩)
    refine ⟨.ref s.heap.objs.size, _, I.laid (t' := s.toks) (o := .tup []) (fun b ob q => Heap.get?_push_of_some _ q) (Nat.le_refl _) ?_, rfl, q2 hn hk _ (I.hok.fresh (Nat.le_refl _))⟩
    exact ⟨by decide, [], .nil, IsTup.new _ _⟩
end
end Wp

/-! WpDc: a dict and a text are never alike. -/
namespace Wp
open PySem PySem.SeqAt PySem.MeetsSeq PySem.AutoSeq1
section
variable {A : Around} {s : Shared} {a : Addr} {o : Obj}
theorem dict_eq_declines {prog : Program} {w : World} {E Q : Value → Shared → Prop} {b : Str} {u : Tok} (ta : s.TypeIs (.ref a) "dict") (h : Q .notImplemented s) :
    wpAny (model prog w) A (call (.builtin "dict.__eq__") [.ref a, .str b u]) Q E s := by
  refine wpAny_call_entry PySem.F.slot_dict_eq ta PySem.F.entry_dict_eq ?_ (PySem.F.args_dict_eq_2 _ _)
  show wpAny _ _ (Builtin.Dict.dictSlotArgs "__eq__" ⟨[.ref a, .str b u], []⟩ >>= _) _ _ s
  refine wpAny_bind ?_
  unfold Builtin.Dict.dictSlotArgs
  refine wpAny_bind (wpAny_notOrdered_dict ta ?_)
  show wpAny _ _ (pure (Value.ref a, Value.str b u)) _ _ s
  refine wpAny_pure ?_
  refine wpAny_bind (wpAny_isInstance (T := "str") (typeIs_str s b u) PySem.F.sub_str_dict ?_)
  simp only [Bool.not_false, if_true]
  refine wpAny_bind (wpAny_rule ?_)
  exact wpAny_pure ⟨_, rfl, h⟩
theorem str_eq_declines_any (b : Str) (u : Tok) (l : Addr) (c : Value) (es : Array DictEntry) (n : Nat) (dd : Option Addr) (sl : Array (Option Value)) :
    Meets (Builtin.«str.__eq__» ⟨[.str b u, .ref l], []⟩) (fun _ R s => s.heap.get? l = some { cls := c, dict := dd, data := .dict es n, slots := sl } ∧ R (.ok (.ret .notImplemented)) s) :=
  .of_wp fun prog w A R s h => by obtain ⟨hp, g, d, tk, os⟩ := s; obtain ⟨hl, h⟩ := h; wp_walk using wpAny_loadPart' hl, wpAny_load hl; exact ⟨_, rfl, h⟩
theorem rc_dict_str (b : Str) (u : Tok) (ho : ∃ o es n, s.heap.get? a = some o ∧ o.data = .dict es n) (ta : s.TypeIs (.ref a) "dict") (hu : A.units < cLine) : RcAt A s (.ref a) (.str b u) false := fun prog w E Q h => by
  obtain ⟨⟨cls, dd, data, sl⟩, es, n, ho, hd⟩ := ho
  simp only at hd
  subst hd
  exact
  rc_eq_decline_or (k := false) ta (typeIs_str s b u) (by decide) F.sub_str_dict F.slot_dict_eq F.slot_str_eq_refl
    (fun _ hq => dict_eq_declines ta hq)
    (fun _ hq => call_meets F.slot_str_eq_refl (typeIs_str s b u) F.entry_str_eq (F.args_str_eq_2 _ _) (str_eq_declines_any b u a cls es n dd sl) ⟨ho, hq⟩)
    (fun _ hq => wpAny_of_eq (rfl : isSame (.ref a) (.str b u) = pure false) hq) (.inr hu) h
theorem rc_str_dict (b : Str) (u : Tok) (ho : ∃ o es n, s.heap.get? a = some o ∧ o.data = .dict es n) (ta : s.TypeIs (.ref a) "dict") (hu : A.units < cLine) : RcAt A s (.str b u) (.ref a) false := fun prog w E Q h => by
  obtain ⟨⟨cls, dd, data, sl⟩, es, n, ho, hd⟩ := ho
  simp only at hd
  subst hd
  exact
  rc_eq_decline_or (k := false) (typeIs_str s b u) ta (by decide) F.sub_dict_str F.slot_str_eq F.slot_dict_eq_refl
    (fun _ hq => call_meets F.slot_str_eq (typeIs_str s b u) F.entry_str_eq (F.args_str_eq_2 _ _) (str_eq_declines_any b u a cls es n dd sl) ⟨ho, hq⟩)
    (fun _ hq => dict_eq_declines ta hq)
    (fun _ hq => wpAny_of_eq (rfl : isSame (.str b u) (.ref a) = pure false) hq) (.inr hu) h
theorem eqAt_dict_str (b : Str) (u : Tok) (ho : ∃ o es n, s.heap.get? a = some o ∧ o.data = .dict es n) (ta : s.TypeIs (.ref a) "dict") (hu : A.units < cLine) : EqAt A s (.ref a) (.str b u) false := fun prog w E Q h => by
  unfold eqBool
  refine wpAny_holding ?_
  refine wpAny_ite_split (fun hab => absurd (eq_of_beq hab) nofun) (fun _ => ?_)
  exact wpAny_bind (rc_dict_str b u ho ta hu prog w E _ (wpAny_truthy_bool h))
theorem eqAt_str_dict (b : Str) (u : Tok) (ho : ∃ o es n, s.heap.get? a = some o ∧ o.data = .dict es n) (ta : s.TypeIs (.ref a) "dict") (hu : A.units < cLine) : EqAt A s (.str b u) (.ref a) false := fun prog w E Q h => by
  unfold eqBool
  refine wpAny_holding ?_
  refine wpAny_ite_split (fun hab => absurd (eq_of_beq hab) nofun) (fun _ => ?_)
  exact wpAny_bind (rc_str_dict b u ho ta hu prog w E _ (wpAny_truthy_bool h))
end
end Wp

/-! WpS2: the other operators, subscripts, built-ins, by values. -/
namespace Wp
open PySem PySem.Spec PyProof.Rows L2
section
variable {G : Gx} {F F' H : Hp} {M : Mem} {X : Cx}
theorem opr_mul (hK : X.K = G.K) {fr : Bool} : OpR X (binaryOp .Mult) (lift2 G (mulW fr)) := by
  refine OpR.or2 fun x y H Q ⟨F, M, dx, dy, q, rm, r1, r2, cn, h⟩ => ?_
  cases dy with
  | int k =>
    cases r2
    have lists : (match asLT M dx with
      | some a => -(2 ^ 63) ≤ k ∧ k < 2 ^ 63 ∧ a.length * k.toNat ≤ sizeLine ∧ newL fr (List.replicate k.toNat a).flatten M q
      | none => False) → ∃ r', OpR X (binaryOp .Mult) r' ∧ r' x (.int k) H Q := fun h => by
      cases e1 : asLT M dx with
      | none => rw [e1] at h; exact h.elim
      | some a =>
        rw [e1] at h
        obtain ⟨h1, h2, h3, h4⟩ := h
        obtain ⟨p1, vs1, rfl, g1, g2⟩ := rd_LT rm r1 e1
        obtain ⟨hz, kk⟩ := newL_ok rm (g2.rep k.toNat) cn h4
        exact ⟨_, op_rep, p1, k, vs1, rfl, rfl, g1, h1, h2, by rw [g2.len]; exact h3, kk⟩
    cases dx with
    | int i => cases r1; exact ⟨_, op_mulG, i, k, rfl, rfl, h.1, cn F M H _ _ (Same.refl F) rm (.int _) h.2⟩
    | tup a =>
      obtain ⟨h1, h2, h4, h5⟩ := h
      obtain ⟨p1, vs1, rfl, g1, g2⟩ := rd_T rm r1
      by_cases hk : vs1 ≠ [] ∧ 2 ≤ k
      · exact ⟨_, op_repT, p1, k, vs1, rfl, rfl, by rw [hK]; exact g1, hk.1, hk.2, h2, by rw [g2.len]; exact h4, fun p hp => newT_ok rm (g2.rep k.toNat) cn h5 hp⟩
      · refine ⟨_, op_repT0, p1, k, vs1, rfl, rfl, by rw [hK]; exact g1, h1, by omega, fun e => ?_, fun e1 e2 p hp => ?_, ?_⟩
        · have e2 : (List.replicate k.toNat a).flatten = a := by
            rcases e with e | e
            · subst e; cases g2
              simp
            · subst e
              show (List.replicate 1 a).flatten = a
              simp
          rw [e2] at h5
          exact cn F M H _ _ (Same.refl F) rm r1 h5
        · have e : k.toNat = 0 := by omega
          rw [e] at h5
          exact newT_ok rm .nil cn h5 hp
        · by_cases e : vs1 = []
          · exact .inl e
          · refine .inr ?_
            have h9 : ¬ 2 ≤ k := fun z => hk ⟨e, z⟩
            omega
    | str z =>
      cases r1
      obtain ⟨h1, h2, h3, h4⟩ := h
      exact ⟨_, op_repS, z, k, rfl, rfl, h1, h2, h3, cn F M H _ _ (Same.refl F) rm (.str _) h4⟩
    | _ => exact lists h
  | _ => cases dx <;> exact (show False from h).elim
theorem opr_bin (hK : X.K = G.K) {op : Operator} {fr : Bool} : OpR X (binaryOp op) (lift2 G (binW op fr)) := by
  cases op with
  | Add => exact opr_add hK
  | Mult => exact opr_mul hK
  | Sub =>
    refine OpR.or2 fun x y H Q ⟨F, M, dx, dy, q, rm, r1, r2, cn, h⟩ => ?_
    cases dx <;> cases dy <;> try exact (show False from h).elim
    cases r1; cases r2
    exact ⟨_, op_sub, _, _, rfl, rfl, cn F M H _ _ (Same.refl F) rm (.int _) h⟩
  | Mod =>
    refine OpR.or2 fun x y H Q ⟨F, M, dx, dy, q, rm, r1, r2, cn, h⟩ => ?_
    cases dx <;> cases dy <;> try exact (show False from h).elim
    cases r1; cases r2
    exact ⟨_, op_mod, _, _, rfl, rfl, h.1, cn F M H _ _ (Same.refl F) rm (.int _) h.2⟩
  | FloorDiv =>
    refine OpR.or2 fun x y H Q ⟨F, M, dx, dy, q, rm, r1, r2, cn, h⟩ => ?_
    cases dx <;> cases dy <;> try exact (show False from h).elim
    cases r1; cases r2
    exact ⟨_, op_fdivW, _, _, rfl, rfl, ⟨h.1, h.2.1⟩, cn F M H _ _ (Same.refl F) rm (.int _) h.2.2⟩
  | Pow =>
    refine OpR.or2 fun x y H Q ⟨F, M, dx, dy, q, rm, r1, r2, cn, h⟩ => ?_
    cases dx <;> cases dy <;> try exact (show False from h).elim
    cases r1; cases r2
    exact ⟨_, op_pow, _, _, rfl, rfl, h.1, cn F M H _ _ (Same.refl F) rm (.int _) h.2⟩
  | _ =>
    intro pins s σ H x y v u Q I rx ry ⟨F, M, dx, dy, q, rm, r1, r2, cn, h⟩
    exact (show False from h).elim
/-- a one-place operation -/
def lift1 (G : Gx) (w : D → Mem → QK → Prop) : V → Hp → VK → Prop := fun x H Q => ∃ F M dx q, RM G F M H ∧ RelD G F x dx ∧ Cn G F q Q ∧ w dx M q
theorem unr_neg : UnR X (unaryOp .USub) (lift1 G negW) := by
  intro pins s σ H x v Q I rx ⟨F, M, dx, q, rm, r1, cn, h⟩
  cases dx <;> try exact (show False from h).elim
  cases r1
  exact un_neg pins s σ H _ v Q I rx ⟨_, rfl, cn F M H _ _ (Same.refl F) rm (.int _) h⟩

/-! ### comparisons -/
/-- an empty dict, whatever the world -/
theorem emp_any {P P' : Program} {w w' : World} {h : Heap} {a : Addr} (x : h.DictOf (mixKind P w) a []) : h.DictOf (mixKind P' w') a [] := by
  obtain ⟨o, es, ep, h1, h2, h3, h4, h5, h6⟩ := x
  refine ⟨o, es, ep, h1, h2, h3, ?_, ?_, h6⟩
  · have e : es.toList = [] := by
      have := h5.length
      exact List.length_eq_zero_iff.mp this
    have e2 : es = #[] := by
      obtain ⟨l⟩ := es
      simp only at e
      rw [e]
    subst e2
    intro i hi
    simp at hi
  · have e : es.toList = [] := by
      have := h5.length
      exact List.length_eq_zero_iff.mp this
    rw [e]
    exact .nil
theorem eqOks_get : ∀ {n : Nat} {ds : List D}, eqOks n ds = true → ∀ d ∈ ds, eqOk n d = true
  | _, [], _, d, hd => by cases hd
  | n, x :: ds, h, d, hd => by
    unfold eqOks at h
    rw [Bool.and_eq_true] at h
    cases hd with
    | head => exact h.1
    | tail _ hd => exact eqOks_get h.2 d hd
section
variable {pins : List (Addr × Obj)} {σ : L2.St} {s : Shared}
/-- what two lists of the same hold is alike, one by one -/
theorem eqAt_items {n : Nat} {A : Around} (ih : ∀ (d : D) (x y : V) (v u : Value), eqOk n d = true → RelD G F x d → RelD G F y d → RelV x v → RelV y u → SeqAt.EqAt A s v u true) : ∀ {ds : List D} {xs ys : List V} {us ws : List Value}, eqOks n ds = true → RelDs G F xs ds → RelDs G F ys ds → Vals xs us → Vals ys ws →
    us.length = ws.length ∧ ∀ j (h1 : j < us.length) (h2 : j < ws.length), SeqAt.EqAt A s us[j] ws[j] true
  | [], _, _, _, _, _, .nil, .nil, .nil, .nil => ⟨rfl, fun j h1 _ => absurd h1 (Nat.not_lt_zero j)⟩
  | d :: ds, _, _, _, _, h, .cons a1 b1, .cons a2 b2, .cons c1 e1, .cons c2 e2 => by
    unfold eqOks at h
    rw [Bool.and_eq_true] at h
    obtain ⟨k1, k2⟩ := eqAt_items ih h.2 b1 b2 e1 e2
    refine ⟨congrArg Nat.succ k1, fun j h1 h2 => ?_⟩
    cases j with
    | zero => exact ih _ _ _ _ _ h.1 a1 a2 c1 c2
    | succ j => exact k2 j (Nat.lt_of_succ_lt_succ h1) (Nat.lt_of_succ_lt_succ h2)
theorem eqAt_same (hK : X.K = G.K) {H : Hp} (I : Inv X pins σ H s) (fz : Same F H) : ∀ (n : Nat) (A : Around), A.units + n < cLine → ∀ (d : D) (x y : V) (v u : Value), eqOk n d = true → RelD G F x d → RelD G F y d → RelV x v → RelV y u → SeqAt.EqAt A s v u true
  | 0, _, _, d, _, _, _, _, h, _, _, _, _ => by cases d <;> cases h
  | n + 1, A, hu, d, x, y, v, u, h, r1, r2, rx, ry => by
    have ih := eqAt_same hK I fz n A.in1 (by show A.units + 1 + n < cLine; omega)
    have tru : ∀ k : Nat, ((List.range k).all fun _ => true) = true := fun k => List.all_eq_true.mpr fun _ _ => rfl
    have hA : A.units < cLine := by omega
    cases r1 with
    | non => cases r2; cases (show v = Value.none from rx); cases (show u = Value.none from ry); exact .same _
    | bl b => cases r2; cases (show v = Value.bool b from rx); cases (show u = Value.bool b from ry); exact .same _
    | int i =>
      cases r2
      obtain ⟨t, rfl⟩ := (show ∃ t, v = Value.int i t from rx)
      obtain ⟨t', rfl⟩ := (show ∃ t, u = Value.int i t from ry)
      have := SeqAt.EqAt.int_int (A := A) (s := s) i t i t'
      rw [beq_self_eq_true] at this
      exact this
    | str z =>
      cases r2
      obtain ⟨t, rfl⟩ := (show ∃ t, v = Value.str z t from rx)
      obtain ⟨t', rfl⟩ := (show ∃ t, u = Value.str z t from ry)
      have := SeqAt.EqAt.str_str (A := A) (s := s) z t z t'
      rw [beq_self_eq_true] at this
      exact this
    | @tup a vs ds t1 q1 =>
      cases r2 with
      | @tup b ws _ t2 q2 =>
        cases (show v = Value.ref a from rx)
        cases (show u = Value.ref b from ry)
        by_cases e : a = b
        · subst e; exact .same _
        · have t1 := same_t fz t1
          have t2 := same_t fz t2
          rw [← hK] at t1 t2
          obtain ⟨us, c1, p1, _⟩ := I.tuple t1
          obtain ⟨ws', c2, p2, _⟩ := I.tuple t2
          obtain ⟨hl, he⟩ := eqAt_items ih (ds := ds) h q1 q2 c1 c2
          have z := SeqAt.EqAt.of_refs e (SeqAt.RcAt.tuples (A := A) (e := fun _ => true) p1 p2 hA (fun j h1 h2 => by simpa using he j (by simpa using h1) (by simpa using h2)))
          rw [tru, Bool.true_and, show (us.toArray.size == ws'.toArray.size) = true from by rw [List.size_toArray, List.size_toArray, hl]; exact beq_self_eq_true _] at z
          exact z
    | @lst a vs ds t1 q1 =>
      cases r2 with
      | @lst b ws _ t2 q2 =>
        cases (show v = Value.ref a from rx)
        cases (show u = Value.ref b from ry)
        by_cases e : a = b
        · subst e; exact .same _
        · obtain ⟨us, c1, p1, _⟩ := I.list (.of (fz _ _ t1))
          obtain ⟨ws', c2, p2, _⟩ := I.list (.of (fz _ _ t2))
          obtain ⟨hl, he⟩ := eqAt_items ih (ds := ds) h q1 q2 c1 c2
          have z := SeqAt.EqAt.of_refs e (SeqAt.RcAt.lists (e := fun _ => true) p1.isList p2.isList (by rw [List.size_toArray, List.size_toArray, hl]) hA (fun j h1 h2 => by simpa using he j (by simpa using h1) (by simpa using h2)))
          rw [tru] at z
          exact z
    | scr _ => cases h
    | @emp a t1 =>
      cases r2 with
      | @emp b t2 =>
        cases (show v = Value.ref a from rx)
        cases (show u = Value.ref b from ry)
        by_cases e : a = b
        · subst e; exact .same _
        · obtain ⟨_, ya, va, ra, da⟩ := (show ObjOk X.prog X.w H s.heap a (.dK []) from I.hok a _ (fz _ _ t1))
          obtain ⟨_, yb, vb, rb, db⟩ := (show ObjOk X.prog X.w H s.heap b (.dK []) from I.hok b _ (fz _ _ t2))
          cases ra
          cases rb
          refine SeqAt.EqAt.of_refs e fun prog w E Q hq => ?_
          exact PySem.W.rcP_dicts (knd := mixKind prog w) (r := true) ya yb (emp_any da) (emp_any db) (by omega) (fun _ => .nil) E Q hq
    | loc => cases h
end
theorem dic_in {M : Mem} {y : D} {kvs : List (Sum Int Str × D)} (h : dicAt M y = some kvs) : ∃ a, y = .loc a ∧ M a = some (.dic kvs) := by
  unfold dicAt at h
  split at h
  · split at h
    · cases h
      exact ⟨_, rfl, by assumption⟩
    · cases h
  · cases h
theorem KVR.lookN {G : Gx} {F : Hp} {k : Sum Int Str} {r : List (Key × V)} {t : List (Sum Int Str × D)} (h : KVR G F r t) : lookD t k = none → valV r k = none := by
  intro e
  unfold lookD at e
  unfold valV
  rw [Option.map_eq_none_iff] at e ⊢
  rw [List.find?_eq_none] at e ⊢
  have any := h.anyK (k := k)
  intro x hx hk
  have : (r.any fun kv => decide (kv.1 = k)) = true := List.any_eq_true.mpr ⟨x, hx, hk⟩
  rw [any, List.any_eq_true] at this
  obtain ⟨y, hy, hy2⟩ := this
  exact e y hy hy2
theorem hits_D {G : Gx} {X : Cx} {F H : Hp} {M : Mem} {pins : List (Addr × Obj)} {σ : L2.St} {s : Shared} (hK : X.K = G.K) (hu : X.A.units + 65 < cLine) (rm : RM G F M H) (I : Inv X pins σ H s) {ls : List (Sum Int Str × D)} {vl : List (Key × V)} {vb : List (Key × Value)} (hl : KVR G F vl ls) (rb : KV vl vb) :
    ∀ {ks : List (Sum Int Str × D)} {vk : List (Key × V)} {va : List (Key × Value)} {b : Bool}, KVR G F vk ks → KV vk va → dicEq ls ks = some b → PySem.W.KeqHits X.A.in1 s vb va b
  | [], vk, va, b, h1, h2, e => by
    cases e
    cases h1
    cases h2
    exact .nil
  | (k, d) :: ks, vk, va, b, h1, h2, e => by
    cases h1 with
    | @cons k1 d1 _ ps _ r1 g2 =>
      unfold KV at h2
      cases h2 with
      | @cons _ q _ qs j1 j2 =>
        obtain ⟨k2, v2⟩ := q
        obtain ⟨e2, r2⟩ := j1
        have e2 : k = k2 := e2
        subst e2
        unfold dicEq at e
        have rv : RelO (valV vl k) (valueAt vb k) := rb.val k
        cases hlk : lookD ls k with
        | none =>
          rw [hlk] at e
          cases e
          rw [hl.lookN hlk] at rv
          refine .miss ?_
          cases hv : valueAt vb k with
          | none => rfl
          | some y => rw [hv] at rv; exact (show False from rv).elim
        | some w =>
          rw [hlk] at e
          obtain ⟨w1, w2, w3⟩ := hl.look hlk
          rw [w2] at rv
          obtain ⟨y, hy, ry⟩ := rv.some_of
          dsimp only at e
          split at e
          · rename_i p q b' t1 t2 t3
            split at e
            · rename_i hs
              rw [Bool.and_eq_true] at hs
              cases e
              have z1 := dp_of rm r1 t1
              have z2 := dp_of rm w3 t2
              rw [← hK] at z1 z2
              obtain ⟨as, a1⟩ := Dp.reads I p d1 v2 z1 r2
              obtain ⟨bs, b1⟩ := Dp.reads I q w1 y z2 ry
              exact .hit hy (PySem.W.keq_at a1 b1 hs.1 hs.2 (by show X.A.units + 1 + 64 < cLine; omega)) (hits_D hK hu rm I hl rb g2 j2 t3)
            · cases e
          · cases e
/-- anything flat and a text, the one against the other -/
theorem flK_eq (hK : X.K = G.K) {pins σ s} (I : Inv X pins σ H s) (rm : RM G F M H) (hu : X.A.units + 2 < cLine) {d : D} {y : V} {v : Value} (h : flK d = true) (r : RelD G F y d) (k : RelV y v) (z : Str) (t : Tok) : ∃ e, SeqAt.EqAt X.A.in1 s v (Value.str z t) e := by
  have hA : X.A.in1.units < cLine := by show X.A.units + 1 < cLine; omega
  cases r with
  | non => cases (show v = Value.none from k); exact ⟨_, SeqAt.EqAt.none_str z t⟩
  | bl b => cases (show v = Value.bool b from k); exact ⟨_, SeqAt.EqAt.bool_str b z t⟩
  | int i => obtain ⟨t', rfl⟩ := (show ∃ t', v = Value.int i t' from k); exact ⟨_, SeqAt.EqAt.int_str i t' z t⟩
  | str x => obtain ⟨t', rfl⟩ := (show ∃ t', v = Value.str x t' from k); exact ⟨_, SeqAt.EqAt.str_str x t' z t⟩
  | @tup a vs ds t1 q1 =>
    cases (show v = Value.ref a from k)
    have t1 := same_t rm.fz t1
    rw [← hK] at t1
    obtain ⟨us, c1, p1, _⟩ := I.tuple t1
    exact ⟨_, SeqAt.EqAt.tuple_str z t p1 hA⟩
  | @lst a vs ds t1 q1 =>
    cases (show v = Value.ref a from k)
    obtain ⟨us, c1, p1, _⟩ := I.list (.of (rm.fz _ _ t1))
    exact ⟨_, SeqAt.EqAt.list_str z t p1.isList hA⟩
  | scr _ => cases h
  | @emp a t1 =>
    cases (show v = Value.ref a from k)
    obtain ⟨_, ya, va, ra, da⟩ := (show ObjOk X.prog X.w H s.heap a (.dK []) from I.hok a _ (rm.fz _ _ t1))
    obtain ⟨o, es, ep, ho, _, hd, _⟩ := id da
    exact ⟨_, eqAt_dict_str z t ⟨o, es, ep, ho, hd⟩ da.typeIs hA⟩
  | loc => cases h
theorem opr_eqX (hK : X.K = G.K) (hu : X.A.units + 65 < cLine) {neg : Bool} : OpR X (compareOp (if neg then .NotEq else .Eq)) (lift2 G (eqX neg)) := by
  intro pins s σ H x y v u Q I rx ry ⟨F, M, dx, dy, q, rm, r1, r2, cn, h⟩
  unfold eqX at h
  split at h
  · rename_i ds es
    obtain ⟨e1, e2, h3⟩ := h
    subst e1
    cases r1 with
    | @lst a vs _ t1 q1 =>
      cases r2 with
      | @lst b ws _ t2 q2 =>
        cases (show v = Value.ref a from rx)
        cases (show u = Value.ref b from ry)
        obtain ⟨us, c1, p1, _⟩ := I.list (.of (rm.fz _ _ t1))
        obtain ⟨ws', c2, p2, _⟩ := I.list (.of (rm.fz _ _ t2))
        obtain ⟨hl, he⟩ := eqAt_items (eqAt_same hK I rm.fz 60 X.A.in1 (by show X.A.units + 1 + 60 < cLine; omega)) (ds := ds) e2 q1 q2 c1 c2
        have fin : Q (.bl (!neg)) H := cn F M H _ _ (Same.refl F) rm (.bl _) h3
        have tru : ((List.range us.toArray.size).all fun _ => true) = true := List.all_eq_true.mpr fun _ _ => rfl
        have hsz : us.toArray.size = ws'.toArray.size := by rw [List.size_toArray, List.size_toArray, hl]
        cases neg with
        | false =>
          refine SeqAt.RcAt.lists (e := fun _ => true) p1.isList p2.isList hsz (by omega) (fun j h1 h2 => by simpa using he j (by simpa using h1) (by simpa using h2)) X.prog X.w _ _ ?_
          rw [tru]
          exact ⟨.bl true, H, I, rfl, fin⟩
        | true =>
          refine SeqAt.RcNeAt.lists (e := fun _ => true) p1.isList p2.isList hsz (by omega) (fun j h1 h2 => by simpa using he j (by simpa using h1) (by simpa using h2)) X.prog X.w _ _ ?_
          rw [tru]
          exact ⟨.bl false, H, I, rfl, fin⟩
  · rename_i d d2 ds z
    obtain ⟨h1, h3⟩ := h
    cases r1 with
    | @tup a vs _ t1 q1 =>
      cases r2 with
      | @tup b ws _ t2 q2 =>
        cases (show v = Value.ref a from rx)
        cases (show u = Value.ref b from ry)
        have t1 := same_t rm.fz t1
        have t2 := same_t rm.fz t2
        rw [← hK] at t1 t2
        obtain ⟨us, c1, p1, _⟩ := I.tuple t1
        obtain ⟨ws', c2, p2, _⟩ := I.tuple t2
        have fin : Q (.bl neg) H := cn F M H _ _ (Same.refl F) rm (.bl _) h3
        cases q1 with
        | cons y1 q1 =>
          cases q1 with
          | cons y2 q1 =>
            cases q2 with
            | cons z1 q2 =>
              cases q2
              cases z1
              cases c1 with
              | cons k1 c1 =>
                cases c1 with
                | cons k2 c1 =>
                  cases c2 with
                  | cons k3 c2 =>
                    cases c2
                    obtain ⟨tk, rfl⟩ := (show ∃ tk, _ = Value.str z tk from k3)
                    obtain ⟨e0, he0⟩ := flK_eq hK I rm (hu := by omega) h1 y1 k1 z tk
                    have hj : ∀ (xs : Array Value) (i : Value) (r : List Value), xs = (i :: r).toArray → SeqAt.EqAt X.A.in1 s i (Value.str z tk) e0 → ∀ j (h1 : j < xs.size) (h2 : j < [Value.str z tk].toArray.size), SeqAt.EqAt X.A.in1 s xs[j] [Value.str z tk].toArray[j] e0 := fun xs i r hx hi j h1 h2 => by
                      subst hx
                      cases j with
                      | zero => exact hi
                      | succ j => exact absurd h2 (by simp)
                    cases neg with
                    | false =>
                      refine SeqAt.RcAt.tuples (e := fun _ => e0) p1 p2 (by omega) (hj _ _ _ rfl he0) X.prog X.w _ _ ?_
                      rw [show ((_ : Bool) && (_ : Nat) == _) = false from by simp]
                      exact ⟨.bl false, H, I, rfl, fin⟩
                    | true =>
                      refine SeqAt.RcNeAt.tuples (e := fun _ => e0) p1 p2 (by omega) (hj _ _ _ rfl he0) X.prog X.w _ _ ?_
                      rw [show (!((_ : Bool) && (_ : Nat) == _)) = true from by simp]
                      exact ⟨.bl true, H, I, rfl, fin⟩
  · rename_i ds es _
    obtain ⟨e1, e2, h3⟩ := h
    subst e1
    cases r1 with
    | @tup a vs _ t1 q1 =>
      cases r2 with
      | @tup b ws _ t2 q2 =>
        cases (show v = Value.ref a from rx)
        cases (show u = Value.ref b from ry)
        have t1 := same_t rm.fz t1
        have t2 := same_t rm.fz t2
        rw [← hK] at t1 t2
        obtain ⟨us, c1, p1, _⟩ := I.tuple t1
        obtain ⟨ws', c2, p2, _⟩ := I.tuple t2
        obtain ⟨hl, he⟩ := eqAt_items (eqAt_same hK I rm.fz 60 X.A.in1 (by show X.A.units + 1 + 60 < cLine; omega)) (ds := ds) e2 q1 q2 c1 c2
        have fin : Q (.bl (!neg)) H := cn F M H _ _ (Same.refl F) rm (.bl _) h3
        have tru : ((List.range us.toArray.size).all fun _ => true) = true := List.all_eq_true.mpr fun _ _ => rfl
        have hsz : (us.toArray.size == ws'.toArray.size) = true := by rw [List.size_toArray, List.size_toArray, hl]; exact beq_self_eq_true _
        have hmin : ((List.range (min us.toArray.size ws'.toArray.size)).all fun _ => true) = true := List.all_eq_true.mpr fun _ _ => rfl
        cases neg with
        | false =>
          refine SeqAt.RcAt.tuples (e := fun _ => true) p1 p2 (by omega) (fun j h1 h2 => by simpa using he j (by simpa using h1) (by simpa using h2)) X.prog X.w _ _ ?_
          first
            | rw [tru, Bool.true_and, hsz]
            | rw [hmin, Bool.true_and, hsz]
          exact ⟨.bl true, H, I, rfl, fin⟩
        | true =>
          refine SeqAt.RcNeAt.tuples (e := fun _ => true) p1 p2 (by omega) (fun j h1 h2 => by simpa using he j (by simpa using h1) (by simpa using h2)) X.prog X.w _ _ ?_
          first
            | rw [tru, Bool.true_and, hsz]
            | rw [hmin, Bool.true_and, hsz]
          exact ⟨.bl false, H, I, rfl, fin⟩
  · cases r1 with
    | @emp a t1 =>
      cases r2 with
      | @emp b t2 =>
        cases neg with
        | false => exact op_eq_dictA (by omega) pins s σ H _ _ v u Q I rx ry ⟨a, b, [], [], rfl, rfl, rm.fz _ _ t1, rm.fz _ _ t2, rfl, (fun p hp => by cases hp), cn F M H _ _ (Same.refl F) rm (.bl _) h⟩
        | true => exact op_ne_dictA (by omega) pins s σ H _ _ v u Q I rx ry ⟨a, b, [], [], rfl, rfl, rm.fz _ _ t1, rm.fz _ _ t2, rfl, (fun p hp => by cases hp), cn F M H _ _ (Same.refl F) rm (.bl _) h⟩
  · rename_i a b
    cases h1 : dicAt M (.loc a) with
    | none => rw [h1] at h; exact h.elim
    | some ks =>
      cases h2 : dicAt M (.loc b) with
      | none => rw [h1, h2] at h; exact h.elim
      | some ls =>
        rw [h1, h2] at h
        cases h3 : dicEq ls ks with
        | none => dsimp only at h; rw [h3] at h; exact h.elim
        | some r =>
          dsimp only at h
          rw [h3] at h
          dsimp only at h
          obtain ⟨a', e1, m1⟩ := dic_in h1
          obtain ⟨b', e2, m2⟩ := dic_in h2
          cases e1
          cases e2
          cases r1
          cases r2
          cases (show v = Value.ref a from rx)
          cases (show u = Value.ref b from ry)
          obtain ⟨_, vk, g1, g2⟩ := rm.mt a _ m1
          obtain ⟨_, vl, j1, j2⟩ := rm.mt b _ m2
          obtain ⟨_, ya, va, ra, da⟩ := (show ObjOk X.prog X.w H s.heap a (.dK vk) from I.hok a _ g1)
          obtain ⟨_, yb, vb, rb, db⟩ := (show ObjOk X.prog X.w H s.heap b (.dK vl) from I.hok b _ j1)
          have hits := hits_D hK hu rm I j2 rb g2 ra h3
          have l1 : va.length = ks.length := by rw [← ra.length]; exact g2.len
          have l2 : vb.length = ls.length := by rw [← rb.length]; exact j2.len
          have fin := cn F M H _ _ (Same.refl F) rm (.bl _) h
          cases neg with
          | false => exact PySem.W.keq_eq (knd := mixKind X.prog X.w) ya yb da db (by omega) (fun _ => hits) ⟨.bl (va.length == vb.length && r), H, I, rfl, by rw [l1, l2]; exact fin⟩
          | true => exact PySem.W.keq_ne (knd := mixKind X.prog X.w) ya yb da db (by omega) (fun _ => hits) ⟨.bl (!(va.length == vb.length && r)), H, I, rfl, by rw [l1, l2]; exact fin⟩
  · exact h.elim
theorem opr_eqF (hK : X.K = G.K) (hu : X.A.units + 65 < cLine) {neg : Bool} : OpR X (compareOp (if neg then .NotEq else .Eq)) (lift2 G (eqF neg)) := by
  refine OpR.or2 fun x y H Q ⟨F, M, dx, dy, q, rm, r1, r2, cn, h⟩ => ?_
  unfold eqF at h
  cases e1 : toPyF M 30 dx with
  | none => rw [e1] at h; exact ⟨_, opr_eqX hK hu, F, M, dx, dy, q, rm, r1, r2, cn, h⟩
  | some d =>
    cases e2 : toPyF M 30 dy with
    | none => rw [e1, e2] at h; exact ⟨_, opr_eqX hK hu, F, M, dx, dy, q, rm, r1, r2, cn, h⟩
    | some e =>
      rw [e1, e2] at h
      obtain ⟨h1, h2, h3⟩ := h
      have z1 := dp_F rm 30 r1 e1
      have z2 := dp_F rm 30 r2 e2
      rw [← hK] at z1 z2
      cases neg with
      | false => exact ⟨_, op_eqD (by omega), d, e, z1, z2, h1, h2, cn F M H _ _ (Same.refl F) rm (.bl _) h3⟩
      | true => exact ⟨_, op_neD (by omega), d, e, z1, z2, h1, h2, cn F M H _ _ (Same.refl F) rm (.bl _) h3⟩
theorem opr_eqP (hK : X.K = G.K) (hu : X.A.units + 65 < cLine) {neg : Bool} : OpR X (compareOp (if neg then .NotEq else .Eq)) (lift2 G (eqP neg)) := by
  refine OpR.or2 fun x y H Q ⟨F, M, dx, dy, q, rm, r1, r2, cn, h⟩ => ?_
  unfold eqP at h
  cases e1 : toPyM M dx with
  | none => rw [e1] at h; exact ⟨_, opr_eqF hK hu, F, M, dx, dy, q, rm, r1, r2, cn, h⟩
  | some d =>
    cases e2 : toPyM M dy with
    | none => rw [e1, e2] at h; exact ⟨_, opr_eqF hK hu, F, M, dx, dy, q, rm, r1, r2, cn, h⟩
    | some e =>
      rw [e1, e2] at h
      obtain ⟨h1, h2, h3⟩ := h
      have z1 := dp_M rm r1 e1
      have z2 := dp_M rm r2 e2
      rw [← hK] at z1 z2
      cases neg with
      | false => exact ⟨_, op_eqD (by omega), d, e, z1, z2, h1, h2, cn F M H _ _ (Same.refl F) rm (.bl _) h3⟩
      | true => exact ⟨_, op_neD (by omega), d, e, z1, z2, h1, h2, cn F M H _ _ (Same.refl F) rm (.bl _) h3⟩
/-- lists of unlike lengths -/
theorem op_unlike (hu : X.A.units < cLine) (neg : Bool) : OpR X (compareOp (if neg then .NotEq else .Eq)) (fun x y H Q => ∃ p r xs ys, x = .ref p ∧ y = .ref r ∧ SqL X.K H p xs ∧ SqL X.K H r ys ∧ xs.length ≠ ys.length ∧ Q (.bl neg) H) := by
  intro pins s σ H x y v u Q I rx ry ⟨p, r, xs, ys, e1, e2, h1, h2, hne, q⟩
  subst e1 e2
  cases rx
  cases ry
  obtain ⟨its, r1, pl, _⟩ := I.list h1
  obtain ⟨its2, r2, pl2, _⟩ := I.list h2
  have hsz : (its.toArray.size != its2.toArray.size) = true := by
    rw [List.size_toArray, List.size_toArray, ← r1.length, ← r2.length]
    simpa using hne
  cases neg with
  | false => exact SeqAt.eq_list_lengthsAt pl.isList pl2.isList hsz hu ⟨.bl false, H, I, rfl, q⟩
  | true => exact SeqAt.RcNeAt.lists_lengths pl.isList pl2.isList hsz hu X.prog X.w _ _ ⟨.bl true, H, I, rfl, q⟩
/-- tuples, of which one alone is empty -/
theorem op_unlikeT (hu : X.A.units < cLine) (neg : Bool) : OpR X (compareOp (if neg then .NotEq else .Eq)) (fun x y H Q => ∃ p r xs ys, x = .ref p ∧ y = .ref r ∧ SqT X.K H p xs ∧ SqT X.K H r ys ∧ ((xs = [] ∧ ys ≠ []) ∨ (xs ≠ [] ∧ ys = [])) ∧ Q (.bl neg) H) := by
  intro pins s σ H x y v u Q I rx ry ⟨p, r, xs, ys, e1, e2, h1, h2, hne, q⟩
  subst e1 e2
  cases rx
  cases ry
  obtain ⟨its, r1, pl, _⟩ := I.tuple h1
  obtain ⟨its2, r2, pl2, _⟩ := I.tuple h2
  have l1 := r1.length
  have l2 := r2.length
  have no : ∀ j, j < its.toArray.size → j < its2.toArray.size → False := fun j a b => by
    rw [List.size_toArray] at a b
    rcases hne with ⟨e, _⟩ | ⟨_, e⟩ <;> subst e <;> simp only [List.length_nil] at l1 l2 <;> omega
  have val : ((List.range (min its.toArray.size its2.toArray.size)).all (fun _ => true) && its.toArray.size == its2.toArray.size) = false := by
    rw [List.size_toArray, List.size_toArray, ← l1, ← l2, Bool.and_eq_false_iff]
    refine .inr (beq_eq_false_iff_ne.mpr ?_)
    rcases hne with ⟨e, e'⟩ | ⟨e', e⟩ <;> subst e
    · exact fun z => e' (List.eq_nil_of_length_eq_zero z.symm)
    · exact fun z => e' (List.eq_nil_of_length_eq_zero z)
  cases neg with
  | false => exact SeqAt.eq_tupleAt (e := fun _ => true) pl pl2 hu (fun j a b => (no j a b).elim) (by rw [val]; exact ⟨.bl false, H, I, rfl, q⟩)
  | true =>
    have h := SeqAt.RcNeAt.tuples (e := fun _ => true) pl pl2 hu (fun j a b => (no j a b).elim)
    rw [val] at h
    exact h X.prog X.w _ _ ⟨.bl true, H, I, rfl, q⟩
theorem opr_eq (hK : X.K = G.K) (hu : X.A.units + 65 < cLine) {neg : Bool} : OpR X (compareOp (if neg then .NotEq else .Eq)) (lift2 G (eqW neg)) := by
  refine OpR.or2 fun x y H Q ⟨F, M, dx, dy, q, rm, r1, r2, cn, h⟩ => ?_
  unfold eqW at h
  split at h
  · rename_i b eb
    have atom : ∀ {u v : V}, scal u v = true → (∀ F M, RelD G F x dx → RelD G F y dy → x = u ∧ y = v) → decide (u = v) = b → ∃ r', OpR X (compareOp (if neg then .NotEq else .Eq)) r' ∧ r' x y H Q := fun {u v} s g e => by
      obtain ⟨e1, e2⟩ := g F M r1 r2
      subst e1 e2
      cases neg with
      | false => exact ⟨_, op_eq, s, cn F M H _ _ (Same.refl F) rm (by rw [e]; exact .bl _) h⟩
      | true => exact ⟨_, op_ne, s, cn F M H _ _ (Same.refl F) rm (by rw [e]; exact .bl _) h⟩
    unfold eqA at eb
    split at eb <;> cases eb <;> cases r1 <;> cases r2 <;> refine atom ?_ (fun F M a b => ⟨rfl, rfl⟩) ?_ <;> first | rfl | simp
  unfold eqL at h
  split at h
  · split at h
    · exact ⟨_, opr_eqP hK hu, F, M, dx, dy, q, rm, r1, r2, cn, h⟩
    · rename_i xs ys e1 e2 hne
      obtain ⟨p, vs, rfl, g1, g2⟩ := rd_L rm r1 e1
      obtain ⟨r, ws, rfl, g3, g4⟩ := rd_L rm r2 e2
      exact ⟨_, op_unlike (by omega) neg, p, r, vs, ws, rfl, rfl, by rw [hK]; exact g1, by rw [hK]; exact g3, by rw [g2.len, g4.len]; exact hne, cn F M H _ _ (Same.refl F) rm (.bl _) h⟩
  · split at h
    · rename_i eu
      unfold eqU at eu
      split at eu
      · obtain ⟨p, vs, rfl, g1, g2⟩ := rd_T rm r1
        obtain ⟨r, ws, rfl, g3, g4⟩ := rd_T rm r2
        cases g2; cases g4
        exact ⟨_, op_unlikeT (by omega) neg, p, r, _, _, rfl, rfl, by rw [hK]; exact g1, by rw [hK]; exact g3, .inl ⟨rfl, by simp⟩, cn F M H _ _ (Same.refl F) rm (.bl _) h⟩
      · obtain ⟨p, vs, rfl, g1, g2⟩ := rd_T rm r1
        obtain ⟨r, ws, rfl, g3, g4⟩ := rd_T rm r2
        cases g2; cases g4
        exact ⟨_, op_unlikeT (by omega) neg, p, r, _, _, rfl, rfl, by rw [hK]; exact g1, by rw [hK]; exact g3, .inr ⟨by simp, rfl⟩, cn F M H _ _ (Same.refl F) rm (.bl _) h⟩
      · cases eu
    · exact ⟨_, opr_eqP hK hu, F, M, dx, dy, q, rm, r1, r2, cn, h⟩
def rInTD (K : PySem.W.Frag) (neg : Bool) : R2 := fun x y H Q => ∃ d ds, Dp K H x d ∧ Dp K H y (.tuple ds) ∧ SeqAt.shaped d = true ∧ SeqAt.shaped (.list ds) = true ∧ Q (.bl (if neg then !ds.any fun z => PyData.eqv z d else ds.any fun z => PyData.eqv z d)) H
theorem op_inTD (hu : X.A.units + 65 < cLine) (neg : Bool) : OpR X (compareOp (if neg then .NotIn else .In)) (rInTD X.K neg) := by
  intro pins s σ H x y v u Q I rx ry h
  obtain ⟨d, ds, hd, he, sd, se, q⟩ := h
  obtain ⟨as, r1⟩ := Dp.reads I d x v hd rx
  obtain ⟨bs, r2⟩ := Dp.reads I (.tuple ds) y u he ry
  cases neg with
  | false => exact SeqAt.in_tuple_reads r2 r1 (SeqAt.canLay_of_shaped se) (SeqAt.canLay_of_shaped sd) (room_in_shaped sd hu) ⟨.bl _, H, I, rfl, q⟩
  | true => exact SeqAt.notIn_tuple_reads r2 r1 (SeqAt.canLay_of_shaped se) (SeqAt.canLay_of_shaped sd) (room_in_shaped sd hu) ⟨.bl _, H, I, rfl, q⟩
theorem dpAll_of (r : RM G F M H) {ds : List D} {vs : List V} {ps : List PyData} (h : RelDs G F vs ds) (e : toPys ds = some ps) : DpAll G.K H vs ps := dp_all r h e
theorem strs_vals : ∀ {zs : List Str} {us : List Value}, Vals (zs.map V.str) us → ∀ y ∈ us, ∃ z t, y = Value.str z t
  | [], _, .nil, y, hy => by cases hy
  | z :: zs, u :: us, .cons k1 c1, y, hy => by
    rcases List.mem_cons.mp hy with rfl | hm
    · exact ⟨z, k1⟩
    · exact strs_vals c1 y hm
/-- a {} at a place, a tuple of texts -/
def InE (X : Cx) (H : Hp) (x y : V) : Prop := ∃ (a b : Addr) (vs : List V) (zs : List Str), x = .ref a ∧ y = .ref b ∧ H a = some (.dK []) ∧ SqT X.K H b vs ∧ vs = zs.map V.str
theorem op_in_emp {X : Cx} (hu : X.A.units + 2 < cLine) (neg : Bool) : OpR X (compareOp (if neg then .NotIn else .In)) (fun x y H Q => InE X H x y ∧ Q (.bl neg) H) := by
  intro pins s σ H x y v u Q I rx ry ⟨⟨a, b, vs, zs, e1, e2, h1, h2, e3⟩, q⟩
  subst e1 e2
  cases (show v = Value.ref a from rx)
  cases (show u = Value.ref b from ry)
  obtain ⟨us, c1, p1, _⟩ := I.tuple h2
  obtain ⟨_, ya, va, ra, da⟩ := (show ObjOk X.prog X.w H s.heap a (.dK []) from I.hok a _ h1)
  obtain ⟨o, es, ep, ho, _, hd, _⟩ := id da
  have hA : X.A.in1.units < cLine := by show X.A.units + 1 < cLine; omega
  have he : ∀ y, y ∈ us.toArray → SeqAt.EqAt X.A.in1 s y (Value.ref a) ((fun _ => false) y) := fun y hy => by
    obtain ⟨z, t, rfl⟩ : ∃ z t, y = Value.str z t := by
      subst e3
      exact strs_vals c1 y (by simpa using hy)
    exact eqAt_str_dict z t ⟨o, es, ep, ho, hd⟩ da.typeIs hA
  have hany : us.toArray.any (fun _ => false) = false := by simp
  cases neg with
  | false => exact SeqAt.in_tupleAt (fun _ => false) p1 he (by rw [hany]; exact ⟨.bl false, H, I, rfl, q⟩)
  | true => exact SeqAt.notIn_tupleAt (fun _ => false) p1 he (by rw [hany]; exact ⟨.bl true, H, I, rfl, q⟩)
theorem strs_relE : ∀ {vs : List V} {ys : List D}, RelDs G F vs ys → allStr ys = true → ∃ zs : List Str, vs = zs.map V.str
  | _, [], .nil, _ => ⟨[], rfl⟩
  | _, .str z :: ys, .cons r q, h => by
    cases r
    obtain ⟨zs, e⟩ := strs_relE q h
    exact ⟨z :: zs, by rw [e]; rfl⟩
theorem RM.in_emp (rm : RM G F M H) (hK : X.K = G.K) {x y : V} {ys : List D} (r1 : RelD G F x .emp) (r2 : RelD G F y (.tup ys)) (h : allStr ys = true) : InE X H x y := by
  cases r1 with
  | @emp a t1 =>
    cases r2 with
    | @tup b ws _ t2 q2 =>
      have t2 := same_t rm.fz t2
      rw [← hK] at t2
      obtain ⟨zs, e⟩ := strs_relE q2 h
      exact ⟨a, b, ws, zs, rfl, rfl, rm.fz _ _ t1, t2, e⟩
theorem opr_inS (hK : X.K = G.K) (hu : X.A.units + 65 < cLine) {neg : Bool} : OpR X (compareOp (if neg then .NotIn else .In)) (lift2 G (inS neg)) := by
  refine OpR.or2 fun x y H Q ⟨F, M, dx, dy, q, rm, r1, r2, cn, h⟩ => ?_
  have seqs : (match toPyM M dx, asS M dy with
    | some d, some ys => match toPys ys with
      | some ds => SeqAt.shaped d = true ∧ SeqAt.shaped (.list ds) = true ∧ q (.bl (if neg then !(ds.any fun z => PyData.eqv z d) else ds.any fun z => PyData.eqv z d)) M
      | none => False
    | _, _ => False) → ∃ r', OpR X (compareOp (if neg then .NotIn else .In)) r' ∧ r' x y H Q := fun h => by
    cases e1 : toPyM M dx with
    | none => rw [e1] at h; exact h.elim
    | some d =>
      cases e2 : asS M dy with
      | none => rw [e1, e2] at h; exact h.elim
      | some ys =>
        rw [e1, e2] at h
        cases e3 : toPys ys with
        | none => dsimp only at h; rw [e3] at h; exact h.elim
        | some ds =>
          dsimp only at h
          rw [e3] at h
          obtain ⟨h1, h2, h3⟩ := h
          have z1 := dp_M rm r1 e1
          obtain ⟨p, vs, rfl, g1, g2⟩ := rd_S rm r2 e2
          have z2 := dp_all rm g2 e3
          have c := cn F M H _ _ (Same.refl F) rm (.bl _) h3
          rw [← hK] at z1 z2 g1
          rcases g1 with g1 | g1
          · cases neg with
            | false => exact ⟨_, op_inD hu, d, ds, z1, .lst g1 z2, h1, h2, c⟩
            | true => exact ⟨_, op_notInD hu, d, ds, z1, .lst g1 z2, h1, h2, c⟩
          · exact ⟨_, op_inTD hu neg, d, ds, z1, .tup g1 z2, h1, h2, c⟩
  cases dx with
  | emp =>
    cases dy with
    | tup ys =>
      obtain ⟨h1, h3⟩ := (show allStr ys = true ∧ q (.bl neg) M from h)
      exact ⟨_, op_in_emp (by omega) neg, rm.in_emp hK r1 r2 h1, cn F M H _ _ (Same.refl F) rm (.bl _) h3⟩
    | _ => exact seqs h
  | str a =>
    cases dy with
    | str b =>
      cases r1; cases r2
      cases neg with
      | false => exact ⟨_, op_in_str, a, b, rfl, rfl, cn F M H _ _ (Same.refl F) rm (.bl _) h⟩
      | true => exact ⟨_, op_notIn_str, a, b, rfl, rfl, cn F M H _ _ (Same.refl F) rm (.bl _) h⟩
    | _ => exact seqs h
  | _ => exact seqs h
theorem keyV {G : Gx} {F : Hp} {v : V} {d : D} {k : Sum Int Str} (r : RelD G F v d) (e : keyD d = some k) : v = kV k := by
  cases r <;> first | (cases e; done) | (cases e; rfl)
theorem op_dIn {X : Cx} (hu : X.A.units + 1 < cLine) (neg : Bool) : OpR X (compareOp (if neg then .NotIn else .In)) (fun y x H Q => ∃ a o, x = .ref a ∧ DGet H a y o ∧ Q (.bl (if neg then !o.isSome else o.isSome)) H) := by
  intro pins s σ H x y v u Q I rx ry h
  obtain ⟨a, o, rfl, g, q⟩ := h
  obtain rfl : u = Value.ref a := ry
  cases neg with
  | false => exact d_in hu I g rx fun s' I' => ⟨.bl o.isSome, H, I', rfl, q⟩
  | true => exact d_notIn hu I g rx fun s' I' => ⟨.bl (!o.isSome), H, I', rfl, q⟩
theorem opr_in (hK : X.K = G.K) (hu : X.A.units + 65 < cLine) {neg : Bool} : OpR X (compareOp (if neg then .NotIn else .In)) (lift2 G (inW neg)) := by
  refine OpR.or2 fun x y H Q ⟨F, M, dx, dy, q, rm, r1, r2, cn, h⟩ => ?_
  unfold inW at h
  cases hd : dicAt M dy with
  | some kvs =>
    obtain ⟨a, rfl, hm⟩ := dic_in hd
    cases r2
    rw [hd] at h
    cases hk : keyD dx with
    | none => rw [hk] at h; exact h.elim
    | some k =>
      rw [hk] at h
      obtain ⟨nf, vks, g1, g2⟩ := rm.mt a _ hm
      refine ⟨_, op_dIn (by omega) neg, a, valV vks k, rfl, ?_, ?_⟩
      · rw [keyV r1 hk]; exact DGet.k g1
      · have e : (valV vks k).isSome = (lookD kvs k).isSome := by
          cases e1 : lookD kvs k with
          | none => rw [g2.lookN e1]; rfl
          | some d =>
            obtain ⟨w, w1, _⟩ := g2.look e1
            rw [w1]; rfl
        rw [e]
        exact cn F M H _ _ (Same.refl F) rm (.bl _) h
  | none =>
    rw [hd] at h
    exact ⟨_, opr_inS hK hu, F, M, dx, dy, q, rm, r1, r2, cn, h⟩
theorem gt_cases {x y : D} {M : Mem} {q : QK} (h : cmpW .Gt x y M q) : (∃ i j, x = .int i ∧ y = .int j ∧ q (.bl (decide (j < i))) M) ∨ (∃ a b, x = .str a ∧ y = .str b ∧ q (.bl (decide (b.cps.toList < a.cps.toList))) M) ∨ (∃ xs ys ns ms, asL M x = some xs ∧ asL M y = some ys ∧ intsOf xs = some ns ∧ intsOf ys = some ms ∧ q (.bl (gtL ns ms)) M) := by
  dsimp only [cmpW] at h
  split at h
  · exact .inl ⟨_, _, rfl, rfl, h⟩
  · exact .inr (.inl ⟨_, _, rfl, rfl, h⟩)
  · split at h
    · rename_i e1 e2
      split at h
      · rename_i e3 e4
        exact .inr (.inr ⟨_, _, _, _, e1, e2, e3, e4, h⟩)
      · exact h.elim
    · exact h.elim
theorem ints_relL : ∀ {vs : List V} {ds : List D} {ns : List Int}, RelDs G F vs ds → intsOf ds = some ns → vs = ns.map V.int
  | _, _, _, .nil, e => by cases e; rfl
  | _, d :: ds, ns, .cons r t, e => by
    cases d with
    | int i =>
      unfold intsOf at e
      cases q : intsOf ds with
      | none => rw [q] at e; cases e
      | some ms =>
        rw [q] at e; cases e
        cases r
        rw [ints_relL t q]; rfl
    | _ => cases e
theorem opr_cmp (hK : X.K = G.K) (hu : X.A.units + 65 < cLine) {op : CmpOp} : OpR X (compareOp op) (lift2 G (cmpW op)) := by
  have hu4 : X.A.units + 64 < cLine := by omega
  cases op with
  | Eq => exact opr_eq hK hu (neg := false)
  | NotEq => exact opr_eq hK hu (neg := true)
  | In => exact opr_in hK hu (neg := false)
  | NotIn => exact opr_in hK hu (neg := true)
  | Lt =>
    refine OpR.or2 fun x y H Q ⟨F, M, dx, dy, q, rm, r1, r2, cn, h⟩ => ?_
    cases dx <;> cases dy <;> try exact (show False from h).elim
    · cases r1; cases r2
      exact ⟨_, op_lt, _, _, rfl, rfl, cn F M H _ _ (Same.refl F) rm (.bl _) h⟩
    · cases r1; cases r2
      exact ⟨_, op_lt_str, _, _, rfl, rfl, cn F M H _ _ (Same.refl F) rm (.bl _) h⟩
  | LtE =>
    refine OpR.or2 fun x y H Q ⟨F, M, dx, dy, q, rm, r1, r2, cn, h⟩ => ?_
    cases dx <;> cases dy <;> try exact (show False from h).elim
    · cases r1; cases r2
      exact ⟨_, op_le, _, _, rfl, rfl, cn F M H _ _ (Same.refl F) rm (.bl _) h⟩
    · cases r1; cases r2
      exact ⟨_, op_le_str, _, _, rfl, rfl, cn F M H _ _ (Same.refl F) rm (.bl _) h⟩
  | Gt =>
    refine OpR.or2 fun x y H Q ⟨F, M, dx, dy, q, rm, r1, r2, cn, h⟩ => ?_
    rcases gt_cases h with ⟨i, j, rfl, rfl, h⟩ | ⟨a, b, rfl, rfl, h⟩ | ⟨xs, ys, ns, ms, e1, e2, e3, e4, h⟩
    · cases r1; cases r2
      exact ⟨_, op_gt, _, _, rfl, rfl, cn F M H _ _ (Same.refl F) rm (.bl _) h⟩
    · cases r1; cases r2
      exact ⟨_, op_gt_str, _, _, rfl, rfl, cn F M H _ _ (Same.refl F) rm (.bl _) h⟩
    · obtain ⟨p, vs, rfl, g1, g2⟩ := rd_L rm r1 e1
      obtain ⟨r, ws, rfl, g3, g4⟩ := rd_L rm r2 e2
      rw [ints_relL g2 e3] at g1
      rw [ints_relL g4 e4] at g3
      exact ⟨_, op_gtL (by omega), p, r, ns, ms, rfl, rfl, by rw [hK]; exact g1, by rw [hK]; exact g3, cn F M H _ _ (Same.refl F) rm (.bl _) h⟩
  | GtE =>
    refine OpR.or2 fun x y H Q ⟨F, M, dx, dy, q, rm, r1, r2, cn, h⟩ => ?_
    cases dx <;> cases dy <;> try exact (show False from h).elim
    · cases r1; cases r2
      exact ⟨_, op_ge, _, _, rfl, rfl, cn F M H _ _ (Same.refl F) rm (.bl _) h⟩
    · cases r1; cases r2
      exact ⟨_, op_ge_str, _, _, rfl, rfl, cn F M H _ _ (Same.refl F) rm (.bl _) h⟩
  | Is =>
    refine OpR.or2 fun x y H Q ⟨F, M, dx, dy, q, rm, r1, r2, cn, h⟩ => ?_
    have c : ∀ {b}, q (.bl b) M → Q (.bl b) H := fun h => cn F M H _ _ (Same.refl F) rm (.bl _) h
    cases dy <;> cases dx <;> try exact (show False from h).elim
    all_goals cases r1; cases r2; first
      | exact ⟨_, op_is_bl, _, _, rfl, rfl, c h⟩
      | exact ⟨_, op_isN, rfl, c h⟩
  | IsNot =>
    refine OpR.or2 fun x y H Q ⟨F, M, dx, dy, q, rm, r1, r2, cn, h⟩ => ?_
    have c : ∀ {b}, q (.bl b) M → Q (.bl b) H := fun h => cn F M H _ _ (Same.refl F) rm (.bl _) h
    cases dy <;> cases dx <;> try exact (show False from h).elim
    all_goals cases r1; cases r2; first
      | exact ⟨_, op_isnot_bl, _, _, rfl, rfl, c h⟩
      | exact ⟨_, op_notN, rfl, c h⟩
theorem eqX_bl {neg : Bool} {q : QK} {x y : D} : eqX neg x y M q → eqX neg x y M fun d M' => (∃ b, d = .bl b) ∧ q d M' := by
  unfold eqX
  split
  · exact fun ⟨a, b, c⟩ => ⟨a, b, ⟨_, rfl⟩, c⟩
  · exact fun ⟨a, c⟩ => ⟨a, ⟨_, rfl⟩, c⟩
  · exact fun ⟨a, b, c⟩ => ⟨a, b, ⟨_, rfl⟩, c⟩
  · exact fun c => ⟨⟨_, rfl⟩, c⟩
  · split
    · split
      · exact fun c => ⟨⟨_, rfl⟩, c⟩
      · exact id
    · exact id
  · exact id
theorem eqF_bl {neg : Bool} {q : QK} {x y : D} : eqF neg x y M q → eqF neg x y M fun d M' => (∃ b, d = .bl b) ∧ q d M' := by
  unfold eqF
  split
  · exact fun ⟨a, b, c⟩ => ⟨a, b, ⟨_, rfl⟩, c⟩
  · exact eqX_bl
theorem eqP_bl {neg : Bool} {q : QK} {x y : D} : eqP neg x y M q → eqP neg x y M fun d M' => (∃ b, d = .bl b) ∧ q d M' := by
  unfold eqP
  split
  · exact fun ⟨a, b, c⟩ => ⟨a, b, ⟨_, rfl⟩, c⟩
  · exact eqF_bl
theorem lift2_bl {op : CmpOp} {q : QK} : ∀ {x y : D}, cmpW op x y M q → cmpW op x y M fun d M' => (∃ b, d = .bl b) ∧ q d M' := by
  intro x y h
  cases op with
  | Eq =>
    revert h
    dsimp only [cmpW, eqW, eqL]
    split
    · exact fun h => ⟨⟨_, rfl⟩, h⟩
    split
    · split
      · exact eqP_bl
      · exact fun h => ⟨⟨_, rfl⟩, h⟩
    · split
      · exact fun h => ⟨⟨_, rfl⟩, h⟩
      · exact eqP_bl
  | NotEq =>
    revert h
    dsimp only [cmpW, eqW, eqL]
    split
    · exact fun h => ⟨⟨_, rfl⟩, h⟩
    split
    · split
      · exact eqP_bl
      · exact fun h => ⟨⟨_, rfl⟩, h⟩
    · split
      · exact fun h => ⟨⟨_, rfl⟩, h⟩
      · exact eqP_bl
  | In =>
    revert h
    dsimp only [cmpW, inW, inS]
    split
    · split
      · exact fun c => ⟨⟨_, rfl⟩, c⟩
      · exact id
    · split
      · exact fun c => ⟨⟨_, rfl⟩, c⟩
      · exact fun ⟨a, c⟩ => ⟨a, ⟨_, rfl⟩, c⟩
      · split
        · split
          · exact fun ⟨a, b, c⟩ => ⟨a, b, ⟨_, rfl⟩, c⟩
          · exact id
        · exact id
  | NotIn =>
    revert h
    dsimp only [cmpW, inW, inS]
    split
    · split
      · exact fun c => ⟨⟨_, rfl⟩, c⟩
      · exact id
    · split
      · exact fun c => ⟨⟨_, rfl⟩, c⟩
      · exact fun ⟨a, c⟩ => ⟨a, ⟨_, rfl⟩, c⟩
      · split
        · split
          · exact fun ⟨a, b, c⟩ => ⟨a, b, ⟨_, rfl⟩, c⟩
          · exact id
        · exact id
  | Gt =>
    revert h
    dsimp only [cmpW]
    split
    · exact fun h => ⟨⟨_, rfl⟩, h⟩
    · exact fun h => ⟨⟨_, rfl⟩, h⟩
    · split
      · split
        · exact fun h => ⟨⟨_, rfl⟩, h⟩
        · exact id
      · exact id
  | _ => cases x <;> cases y <;> first
    | exact (show False from h).elim
    | exact ⟨⟨_, rfl⟩, h⟩
theorem tru_of (rm : RM G F M H) {v : V} {d : D} {q : BK} {Q : Bool → Hp → Prop} (r : RelD G F v d) (cn : CnB G F q Q) (h : truW d M q) : ∃ k, TruV G.K v H k ∧ Q k H := by
  have c : ∀ {b}, q b M → Q b H := fun h => cn F M H _ (Same.refl F) rm h
  have seqs : (match asS M d with
    | some ds => q (!ds.isEmpty) M
    | none => False) → ∃ k, TruV G.K v H k ∧ Q k H := fun h => by
    cases e : asS M d with
    | none => rw [e] at h; exact h.elim
    | some ds =>
      rw [e] at h
      obtain ⟨p, vs, rfl, g1, g2⟩ := rd_S rm r e
      have ei : vs.isEmpty = ds.isEmpty := by cases g2 <;> rfl
      refine ⟨!vs.isEmpty, ?_, by rw [ei]; exact c h⟩
      rcases g1 with g1 | g1
      · exact .inl ⟨vs, g1, rfl⟩
      · exact .inr (.inl ⟨vs, g1, rfl⟩)
  cases d with
  | non => cases r; exact ⟨_, rfl, c h⟩
  | bl b => cases r; exact ⟨_, rfl, c h⟩
  | int i => cases r; exact ⟨_, rfl, c h⟩
  | str x => cases r; exact ⟨_, ⟨h.1, rfl⟩, c h.2⟩
  | emp =>
    cases r with
    | emp h1 => exact ⟨_, .inr (.inr ⟨[], rm.fz _ _ h1, rfl⟩), c h⟩
  | _ => exact seqs h

/-! ### subscripts -/
theorem relds_atI {vs : List V} {ds : List D} {i : Int} {d : D} (h : RelDs G F vs ds) (e : atI ds i = some d) : ∃ v, L2.atI vs i = some v ∧ RelD G F v d := by
  unfold atI at e
  unfold L2.atI
  have : L2.ixN vs.length i = ixN ds.length i := by rw [h.len]; rfl
  rw [this]
  cases q : ixN ds.length i with
  | none => rw [q] at e; cases e
  | some j =>
    rw [q] at e
    exact h.get e
theorem ixr_idx (hK : X.K = G.K) : IxR X (lift2 G idxW) := by
  intro value slice pins s σ H x y v u Q I rx ry ⟨F, M, dx, dy, q, rm, r1, r2, cn, h⟩ hs
  cases dy with
  | int k =>
    cases r2
    have seqs : (match asS M dx with
      | some ds => match atI ds k with
        | some d => q d M
        | none => False
      | none => False) → wpAny (model X.prog X.w) X.A (subscriptTail value slice v u) (EP X pins σ Q) X.xe s := fun h => by
      cases e : asS M dx with
      | none => rw [e] at h; exact h.elim
      | some ds =>
        rw [e] at h
        dsimp only at h
        cases e2 : atI ds k with
        | none => rw [e2] at h; exact h.elim
        | some d =>
          rw [e2] at h
          obtain ⟨p, vs, rfl, g1, g2⟩ := rd_S rm r1 e
          obtain ⟨w, a1, a2⟩ := relds_atI g2 e2
          have c := cn F M H _ _ (Same.refl F) rm a2 h
          rcases g1 with g1 | g1
          · exact ix_list value slice pins s σ H _ _ v u Q I rx ry ⟨p, vs, k, w, rfl, rfl, by rw [hK]; exact g1, a1, c⟩ hs
          · exact ix_tup value slice pins s σ H _ _ v u Q I rx ry ⟨p, vs, k, w, rfl, rfl, by rw [hK]; exact g1, a1, c⟩ hs
    cases dx with
    | str z =>
      cases r1
      obtain ⟨h1, h2⟩ := h
      cases e : atI z.cps.toList k with
      | none => rw [e] at h2; exact h2.elim
      | some c =>
        rw [e] at h2
        exact ix_str value slice pins s σ H _ _ v u Q I rx ry ⟨z, k, c, rfl, rfl, h1, e, cn F M H _ _ (Same.refl F) rm (.str _) h2⟩ hs
    | _ => exact seqs h
  | _ => cases dx <;> exact (show False from h).elim
theorem slN_eq (n d : Nat) (i : Option Int) : slN n d i = HT.sIx n d i := by
  cases i with
  | none => rfl
  | some i =>
    first
      | rfl
      | (unfold slN HT.sIx; rfl)
theorem cut_eq (vs : List V) (lo hi : Option Int) : cutV vs lo hi = cut vs lo hi := by
  unfold cutV cut
  rw [slN_eq, slN_eq]
theorem RelDs.cut {vs : List V} {ds : List D} (h : RelDs G F vs ds) (lo hi : Option Int) : RelDs G F (cut vs lo hi) (cut ds lo hi) := by
  unfold Wp.cut
  rw [h.len]
  exact (h.drop _).take _
def lift3 (G : Gx) (w : D → Option Int → Option Int → Mem → QK → Prop) : V → Option Int → Option Int → Hp → VK → Prop := fun x l u H Q => ∃ F M dx q, RM G F M H ∧ RelD G F x dx ∧ Cn G F q Q ∧ w dx l u M q
theorem cut_whole {α : Type} (xs : List α) (lo hi : Option Int) (h : slN xs.length 0 lo = 0 ∧ slN xs.length xs.length hi = xs.length) : cut xs lo hi = xs := by
  unfold cut
  rw [h.1, h.2]
  simp
theorem SlR.or2 {X : Cx} {r : V → Option Int → Option Int → Hp → VK → Prop} (h : ∀ x l u H Q, r x l u H Q → ∃ r', SlR X r' ∧ r' x l u H Q) : SlR X r := by
  intro pins s σ H x v vl vu lo hi sl Q I rx hs pl pu q
  obtain ⟨r', h1, h2⟩ := h x lo hi H Q q
  exact h1 pins s σ H x v vl vu lo hi sl Q I rx hs pl pu h2
theorem slr_sli (hK : X.K = G.K) {fr : Bool} : SlR X (lift3 G (sliW fr)) := by
  refine SlR.or2 fun x lo hi H Q ⟨F, M, dx, q, rm, r1, cn, h⟩ => ?_
  have lists : (match asL M dx with
    | some ds => newL fr (cut ds lo hi) M q
    | none => False) → ∃ r', SlR X r' ∧ r' x lo hi H Q := fun h => by
    cases e : asL M dx with
    | none => rw [e] at h; exact h.elim
    | some ds =>
      rw [e] at h
      obtain ⟨p, vs, rfl, g1, g2⟩ := rd_L rm r1 e
      obtain ⟨_, k⟩ := newL_ok rm (g2.cut lo hi) cn h
      exact ⟨_, sl_list, p, vs, rfl, by rw [hK]; exact g1, by rw [cut_eq]; exact k⟩
  cases dx with
  | str z =>
    cases r1
    refine ⟨_, sl_str, z, rfl, h.1, ?_⟩
    have e : cutS z lo hi = ⟨(cut z.cps.toList lo hi).toArray⟩ := by
      unfold cutS Wp.cut
      simp only [slN_eq]
      rfl
    rw [e]
    exact cn F M H _ _ (Same.refl F) rm (.str _) h.2
  | tup ds =>
    have hh := r1
    obtain ⟨p, vs, rfl, g1, g2⟩ := rd_T rm r1
    refine ⟨_, sl_tupA, p, vs, rfl, by rw [hK]; exact g1, fun e => ?_, fun _ p hp => ?_⟩
    · rw [← slN_eq, ← slN_eq, g2.len] at e
      have h : q (.tup (cut ds lo hi)) M := h
      rw [cut_whole ds lo hi e] at h
      exact cn F M H _ _ (Same.refl F) rm hh h
    · rw [cut_eq]
      exact newT_ok rm (g2.cut lo hi) cn h hp
  | _ => exact lists h
end
end Wp

/-! WpX2: list(text). -/
namespace Wp
open PySem PySem.Spec PyProof.Rows L2
def signsV (z : Str) : List V := z.cps.toList.map fun c => .str ⟨#[c]⟩
theorem vals_signs (z : Str) : ∀ (cs : List Nat) (n : Nat) (vs : List Value), vs.length = cs.length → (∀ (j : Nat) (v : Value), vs[j]? = some v → ∃ (c : Nat) (u : Tok), cs[j]? = some c ∧ v = Value.str ⟨#[c]⟩ u) → Vals (cs.map fun c => V.str ⟨#[c]⟩) vs
  | [], _, [], _, _ => .nil
  | [], _, _ :: _, h, _ => by cases h
  | _ :: _, _, [], h, _ => by cases h
  | c :: cs, n, v :: vs, h, hv => by
    obtain ⟨c', u, e1, e2⟩ := hv 0 v rfl
    cases e1
    subst e2
    exact .cons ⟨u, rfl⟩ (vals_signs z cs n vs (Nat.succ.inj h) fun j v e => hv (j + 1) v e)
section
variable {X : Cx}
theorem call_listS (hc : X.calm = true) : CallR X (.type "list") (fun xs H Q => ∃ z, xs = [.str z] ∧ z.length ≤ sizeLine ∧ ∀ l, H l = none → Q (.ref l) (upd H l (.lst (signsV z)))) := by
  intro pins s σ H xs us Q I r h
  obtain ⟨z, rfl, hz, q⟩ := h
  obtain ⟨u, rfl, t, rfl⟩ : ∃ u, us = [u] ∧ ∃ t, u = .str z t := by
    cases r with
    | cons a b => cases b; obtain ⟨t, e⟩ := a; exact ⟨_, rfl, t, e⟩
  refine call_list_str (I.ok.hd hc) z t (fun h' tk acc c hk hl hi => ?_) hz
  have hv : Vals (signsV z) acc.toList := by
    refine vals_signs z z.cps.toList 0 acc.toList ?_ fun j v e => ?_
    · rw [Array.length_toList, Array.length_toList]; exact hi.1
    · obtain ⟨c, u, e1, e2⟩ := hi.2 j v (by rw [← Array.getElem?_toList]; exact e)
      exact ⟨c, u, by rw [Array.getElem?_toList]; exact e1, e2⟩
  refine ⟨.ref s.heap.objs.size, _, I.laid (t' := tk) (o := .lst (signsV z)) hk (Nat.le_refl _) ?_, rfl, q _ (I.hok.fresh (Nat.le_refl _))⟩
  exact ⟨by unfold signsV; rw [List.length_map, Array.length_toList]; exact hz, _, c, hv, hl⟩
end
end Wp

/-! WpS3: built-ins and methods by values. -/
namespace Wp
open PySem PySem.Spec PyProof.Rows L2
section
variable {G : Gx} {F F' H : Hp} {M : Mem} {X : Cx}
def liftN (G : Gx) (w : List D → Mem → QK → Prop) : List V → Hp → VK → Prop := fun vs H Q => ∃ F M ds q, RM G F M H ∧ RelDs G F vs ds ∧ Cn G F q Q ∧ w ds M q
theorem CallR.or2 {f : Value} {r : List V → Hp → VK → Prop} (h : ∀ xs H Q, r xs H Q → ∃ r', CallR X f r' ∧ r' xs H Q) : CallR X f r := by
  intro pins s σ H xs us Q I rs q
  obtain ⟨r', h1, h2⟩ := h xs H Q q
  exact h1 pins s σ H xs us Q I rs h2
def biV : Bi → Value
  | .len => .builtin "len" | .int_ => .type "int" | .list_ => .type "list" | .tuple_ => .type "tuple" | .str_ => .type "str" | .ord_ => .builtin "ord" | .abs_ => .builtin "abs"
  | .min_ => .builtin "min" | .max_ => .builtin "max" | .sum_ => .builtin "sum" | .all_ => .builtin "all" | .any_ => .builtin "any" | .sorted_ => .builtin "sorted" | .dict_ => .type "dict"
def biNm : Bi → Str
  | .len => "len" | .int_ => "int" | .list_ => "list" | .tuple_ => "tuple" | .str_ => "str" | .ord_ => "ord" | .abs_ => "abs"
  | .min_ => "min" | .max_ => "max" | .sum_ => "sum" | .all_ => "all" | .any_ => "any" | .sorted_ => "sorted" | .dict_ => "dict"
theorem bi_boot (b : Bi) : bootBuiltins (biNm b) = some (biV b) := by cases b <;> decide +kernel
theorem bi_no (b : Bi) : biNm b ≠ "__name__" ∧ (biNm b == ("__debug__" : Str)) = false := by cases b <;> decide +kernel
theorem relds1 {vs : List V} {d : D} (h : RelDs G F vs [d]) : ∃ v, vs = [v] ∧ RelD G F v d := by
  cases h with
  | cons r t => cases t; exact ⟨_, rfl, r⟩
theorem rel_signs (z : Str) : RelDs G F (signsV z) (signs z) := by
  unfold signsV signs
  induction z.cps.toList with
  | nil => exact .nil
  | cons c cs ih => exact .cons (.str _) ih
theorem nu_min2 (i j : Int) : nuMin2 (.int i) (.int j) = some (.int (min2 i j)) := by
  show some (if decide (j < i) = true then V.int j else V.int i) = _
  unfold min2
  by_cases h : j < i
  · rw [if_pos (decide_eq_true h), if_pos h]
  · rw [if_neg (by rw [decide_eq_false h]; decide), if_neg h]
theorem nu_max2 (i j : Int) : nuMax2 (.int i) (.int j) = some (.int (max2 i j)) := by
  show some (if decide (i < j) = true then V.int j else V.int i) = _
  unfold max2
  by_cases h : i < j
  · rw [if_pos (decide_eq_true h), if_pos h]
  · rw [if_neg (by rw [decide_eq_false h]; decide), if_neg h]
theorem nu_min3 (i j k : Int) : nuMin3 (.int i) (.int j) (.int k) = some (.int (min2 (min2 i j) k)) := by
  unfold nuMin3
  rw [nu_min2]
  exact nu_min2 _ _
theorem nu_max3 (i j k : Int) : nuMax3 (.int i) (.int j) (.int k) = some (.int (max2 (max2 i j) k)) := by
  unfold nuMax3
  rw [nu_max2]
  exact nu_max2 _ _
theorem relds3 {vs : List V} {d e f : D} (h : RelDs G F vs [d, e, f]) : ∃ v w x, vs = [v, w, x] ∧ RelD G F v d ∧ RelD G F w e ∧ RelD G F x f := by
  cases h with
  | cons a b => cases b with
    | cons b c => cases c with
      | cons c d => cases d; exact ⟨_, _, _, rfl, a, b, c⟩
theorem relds2 {vs : List V} {d e : D} (h : RelDs G F vs [d, e]) : ∃ v w, vs = [v, w] ∧ RelD G F v d ∧ RelD G F w e := by
  cases h with
  | cons r t => obtain ⟨w, rfl, r2⟩ := relds1 t; exact ⟨_, _, rfl, r, r2⟩
theorem ints_rel : ∀ {vs : List V} {ds : List D} {ns : List Int}, RelDs G F vs ds → intsOf ds = some ns → vs = ns.map V.int
  | _, _, _, .nil, e => by cases e; rfl
  | _, d :: ds, ns, .cons r t, e => by
    cases d with
    | int i =>
      unfold intsOf at e
      cases q : intsOf ds with
      | none => rw [q] at e; cases e
      | some ms =>
        rw [q] at e; cases e
        cases r
        rw [ints_rel t q]; rfl
    | _ => cases e
theorem bools_rel : ∀ {vs : List V} {ds : List D} {ns : List Bool}, RelDs G F vs ds → bools ds = some ns → vs = ns.map V.bl
  | _, _, _, .nil, e => by cases e; rfl
  | _, d :: ds, ns, .cons r t, e => by
    cases d with
    | bl i =>
      unfold bools at e
      cases q : bools ds with
      | none => rw [q] at e; cases e
      | some ms =>
        rw [q] at e; cases e
        cases r
        rw [bools_rel t q]; rfl
    | _ => cases e
theorem strs_rel : ∀ {vs : List V} {ds : List D} {ns : List Str}, RelDs G F vs ds → strsOf ds = some ns → vs = ns.map V.str
  | _, _, _, .nil, e => by cases e; rfl
  | _, d :: ds, ns, .cons r t, e => by
    cases d with
    | str i =>
      unfold strsOf at e
      cases q : strsOf ds with
      | none => rw [q] at e; cases e
      | some ms =>
        rw [q] at e; cases e
        cases r
        rw [strs_rel t q]; rfl
    | _ => cases e
theorem key_relV {G : Gx} {F : Hp} {v : V} {d : D} {k : Sum Int Str} (r : RelD G F v d) (e : keyD d = some k) : v = kV k := by
  cases r <;> first | (cases e; done) | (cases e; rfl)
theorem prs_rel (rm : RM G F M H) : ∀ {vs : List V} {ds : List D} {kvs : List (Sum Int Str × D)}, RelDs G F vs ds → prsD ds = some kvs → ∃ (ps : List Addr) (vks : List (Key × V)), vs = ps.map V.ref ∧ Paired (fun p kv => SqT G.K H p [kV kv.1, kv.2]) ps vks ∧ KVR G F vks kvs
  | _, [], kvs, r, e => by
    cases r
    cases e
    exact ⟨[], [], rfl, .nil, .nil⟩
  | _, d :: ds, kvs, r, e => by
    cases r with
    | cons r t =>
      unfold prsD at e
      split at e
      · rename_i hq
        cases hq
      · rename_i hq
        injection hq with q1 q2
        subst q1 q2
        split at e
        · rename_i e1 e2
          cases e
          obtain ⟨ps, vks, rfl, h1, h2⟩ := prs_rel rm t e2
          obtain ⟨p, us, rfl, g1, g2⟩ := rd_T rm r
          obtain ⟨u, w, rfl, r1, r2⟩ := relds2 g2
          rw [key_relV r1 e1] at g1
          exact ⟨p :: ps, (_, w) :: vks, rfl, .cons g1 h1, .cons r2 h2⟩
        · cases e
      · cases e
theorem KVR.merges : ∀ {r1 : List (Key × V)} {t1 : List (Sum Int Str × D)} {r : List (Key × V)} {t : List (Sum Int Str × D)}, KVR G F r t → KVR G F r1 t1 → KVR G F (mergeK r r1) (mergeD t t1) := by
  intro r1 t1 r t h h1
  induction h1 generalizing r t with
  | nil => exact h
  | cons a _ ih => exact ih (h.put a)
theorem callr_bi (hK : X.K = G.K) (hc : X.calm = true) (b : Bi) {fr : Bool} : CallR X (biV b) (liftN G (biW b fr)) := by
  refine CallR.or2 fun xs H Q ⟨F, M, ds, q, rm, rs, cn, h⟩ => ?_
  have c : ∀ {v d}, RelD G F v d → q d M → Q v H := fun r h => cn F M H _ _ (Same.refl F) rm r h
  have hlen : ∀ x, RelDs G F xs [x] → lenW x M q → ∃ r', CallR X (biV .len) r' ∧ r' xs H Q := fun x rs h => by
    obtain ⟨v, rfl, r⟩ := relds1 rs
    have seqs : (match asS M x with
      | some ds => q (.int ds.length) M
      | none => False) → ∃ r', CallR X (biV .len) r' ∧ r' [v] H Q := fun h => by
      cases e : asS M x with
      | none => rw [e] at h; exact h.elim
      | some ds =>
        rw [e] at h
        obtain ⟨p, vs, rfl, g1, g2⟩ := rd_S rm r e
        exact ⟨_, call_len_seq, p, vs, rfl, by rw [hK]; exact g1, by rw [g2.len]; exact c (.int _) h⟩
    cases x with
    | str z => cases r; exact ⟨_, call_len_str, z, rfl, h.1, c (.int _) h.2⟩
    | _ => exact seqs h
  have hlist : ∀ x, RelDs G F xs [x] → (match asS M x with
      | some ds => newL fr ds M q
      | none => False) → ∃ r', CallR X (biV .list_) r' ∧ r' xs H Q := fun x rs h => by
    obtain ⟨v, rfl, r⟩ := relds1 rs
    cases e : asS M x with
    | none => rw [e] at h; exact h.elim
    | some ds =>
      rw [e] at h
      obtain ⟨p, vs, rfl, g1, g2⟩ := rd_S rm r e
      exact ⟨_, call_list_of, p, vs, rfl, by rw [hK]; exact g1, (newL_ok rm g2 cn h).2⟩
  have htup : ∀ x, RelDs G F xs [x] → (match asL M x with
      | some ds => q (.tup ds) M
      | none => False) → ∃ r', CallR X (biV .tuple_) r' ∧ r' xs H Q := fun x rs h => by
    obtain ⟨v, rfl, r⟩ := relds1 rs
    cases e : asL M x with
    | none => rw [e] at h; exact h.elim
    | some ds =>
      rw [e] at h
      obtain ⟨p, vs, rfl, g1, g2⟩ := rd_L rm r e
      exact ⟨_, call_tuple_of, p, vs, rfl, .inl ⟨by rw [hK]; exact g1, fun l hl => newT_ok rm g2 cn h hl⟩⟩
  have hmin : ∀ x, RelDs G F xs [x] → (match asL M x with
      | some ds => match intsOf ds with
        | some ns => 0 < ns.length ∧ ∀ m, m ∈ ns → (∀ y, y ∈ ns → m ≤ y) → q (.int m) M
        | none => False
      | none => False) → ∃ r', CallR X (biV .min_) r' ∧ r' xs H Q := fun x rs h => by
    obtain ⟨v, rfl, r⟩ := relds1 rs
    cases e : asL M x with
    | none => rw [e] at h; exact h.elim
    | some ds =>
      rw [e] at h
      dsimp only at h
      cases e2 : intsOf ds with
      | none => rw [e2] at h; exact h.elim
      | some ns =>
        rw [e2] at h
        obtain ⟨p, vs, rfl, g1, g2⟩ := rd_L rm r e
        rw [ints_rel g2 e2] at g1
        exact ⟨_, cr_min hc, p, ns, rfl, by rw [hK]; exact g1, h.1, fun m h1 h2 => c (.int _) (h.2 m h1 h2)⟩
  have hmax : ∀ x, RelDs G F xs [x] → (match asL M x with
      | some ds => match intsOf ds with
        | some ns => 0 < ns.length ∧ ∀ m, m ∈ ns → (∀ y, y ∈ ns → y ≤ m) → q (.int m) M
        | none => False
      | none => False) → ∃ r', CallR X (biV .max_) r' ∧ r' xs H Q := fun x rs h => by
    obtain ⟨v, rfl, r⟩ := relds1 rs
    cases e : asL M x with
    | none => rw [e] at h; exact h.elim
    | some ds =>
      rw [e] at h
      dsimp only at h
      cases e2 : intsOf ds with
      | none => rw [e2] at h; exact h.elim
      | some ns =>
        rw [e2] at h
        obtain ⟨p, vs, rfl, g1, g2⟩ := rd_L rm r e
        rw [ints_rel g2 e2] at g1
        exact ⟨_, cr_max hc, p, ns, rfl, by rw [hK]; exact g1, h.1, fun m h1 h2 => c (.int _) (h.2 m h1 h2)⟩
  have hsum : ∀ x, RelDs G F xs [x] → (match asL M x with
      | some ds => match intsOf ds with
        | some ns => q (.int ns.sum) M
        | none => False
      | none => False) → ∃ r', CallR X (biV .sum_) r' ∧ r' xs H Q := fun x rs h => by
    obtain ⟨v, rfl, r⟩ := relds1 rs
    cases e : asL M x with
    | none => rw [e] at h; exact h.elim
    | some ds =>
      rw [e] at h
      dsimp only at h
      cases e2 : intsOf ds with
      | none => rw [e2] at h; exact h.elim
      | some ns =>
        rw [e2] at h
        obtain ⟨p, vs, rfl, g1, g2⟩ := rd_L rm r e
        rw [ints_rel g2 e2] at g1
        exact ⟨_, cr_sum hc, p, ns, rfl, by rw [hK]; exact g1, c (.int _) h⟩
  have hall : ∀ x, RelDs G F xs [x] → (match asL M x with
      | some ds => match bools ds with
        | some bs => q (.bl (bs.all id)) M
        | none => False
      | none => False) → ∃ r', CallR X (biV .all_) r' ∧ r' xs H Q := fun x rs h => by
    obtain ⟨v, rfl, r⟩ := relds1 rs
    cases e : asL M x with
    | none => rw [e] at h; exact h.elim
    | some ds =>
      rw [e] at h
      dsimp only at h
      cases e2 : bools ds with
      | none => rw [e2] at h; exact h.elim
      | some ns =>
        rw [e2] at h
        obtain ⟨p, vs, rfl, g1, g2⟩ := rd_L rm r e
        rw [bools_rel g2 e2] at g1
        exact ⟨_, cr_all hc, p, ns, rfl, by rw [hK]; exact g1, c (.bl _) h⟩
  have hsort : ∀ x, RelDs G F xs [x] → (match asL M x with
      | some ds => match intsOf ds with
        | some ns => ∀ ns' : List Int, ns'.Perm ns → ns'.Pairwise (· ≤ ·) → newL fr (ns'.map D.int) M q
        | none => False
      | none => False) → ∃ r', CallR X (biV .sorted_) r' ∧ r' xs H Q := fun x rs h => by
    obtain ⟨v, rfl, r⟩ := relds1 rs
    cases e : asL M x with
    | none => rw [e] at h; exact h.elim
    | some ds =>
      rw [e] at h
      dsimp only at h
      cases e2 : intsOf ds with
      | none => rw [e2] at h; exact h.elim
      | some ns =>
        rw [e2] at h
        obtain ⟨p, vs, rfl, g1, g2⟩ := rd_L rm r e
        rw [ints_rel g2 e2] at g1
        exact ⟨_, cr_sortedI, p, ns, rfl, by rw [hK]; exact g1, fun ns' p a b hp => (newL_ok rm (RelDs.ints ns') cn (h ns' a b)).2 p hp⟩
  have hdict : ∀ x, RelDs G F xs [x] → (match asL M x with
      | some ds => match prsD ds with
        | some kvs => ∀ p, M p = none → q (.loc p) (M.upd p (.dic (mergeD [] kvs)))
        | none => False
      | none => False) → ∃ r', CallR X (biV .dict_) r' ∧ r' xs H Q := fun x rs h => by
    obtain ⟨v, rfl, r⟩ := relds1 rs
    cases e : asL M x with
    | none => rw [e] at h; exact h.elim
    | some ds =>
      rw [e] at h
      dsimp only at h
      cases e2 : prsD ds with
      | none => rw [e2] at h; exact h.elim
      | some kvs =>
        rw [e2] at h
        obtain ⟨p, vs, rfl, g1, g2⟩ := rd_L rm r e
        obtain ⟨ps, vks, rfl, h1, h2⟩ := prs_rel rm g2 e2
        refine ⟨_, call_dictP hc, p, ps, vks, rfl, by rw [hK]; exact g1, by rw [hK]; exact h1, fun a ha => ?_⟩
        have nF := rm.freeF ha
        exact cn F _ _ _ _ (Same.refl F) (rm.new (ob := .dic (mergeD [] kvs)) ha ⟨_, upd_same, KVR.merges .nil h2⟩) .loc (h a (rm.freeM ha))
  unfold biW at h
  split at h
  · exact hlen _ rs h
  · obtain ⟨v, rfl, r⟩ := relds1 rs
    cases r
    exact ⟨_, call_int1, .inl ⟨_, rfl, c (.int _) h⟩⟩
  · obtain ⟨v, rfl, r⟩ := relds1 rs
    cases r
    exact ⟨_, call_int1, .inr ⟨_, rfl, c (.int _) h⟩⟩
  · obtain ⟨v, rfl, r⟩ := relds1 rs
    cases r
    obtain ⟨hl, h⟩ := h
    split at h
    · rename_i hn
      exact ⟨_, call_int_str, _, _, rfl, hn, hl, c (.int _) h⟩
    · exact h.elim
  · obtain ⟨v, rfl, r⟩ := relds1 rs
    cases r
    exact ⟨_, call_listS hc, _, rfl, h.1, (newL_ok rm (rel_signs _) cn h.2).2⟩
  · exact hlist _ rs h
  · -- tuple of a tuple
    obtain ⟨v, rfl, r⟩ := relds1 rs
    have hh := r
    obtain ⟨p, vs, rfl, g1, g2⟩ := rd_T rm r
    exact ⟨_, call_tuple_of, p, vs, rfl, .inr ⟨by rw [hK]; exact g1, c hh h⟩⟩
  · exact htup _ rs h
  · obtain ⟨v, rfl, r⟩ := relds1 rs
    cases r
    exact ⟨_, call_str_int, _, rfl, h.1, c (.str _) h.2⟩
  · obtain ⟨v, rfl, r⟩ := relds1 rs
    cases r
    exact ⟨_, call_ord, _, rfl, h.1, c (.int _) h.2⟩
  · obtain ⟨v, rfl, r⟩ := relds1 rs
    cases r
    exact ⟨_, call_abs, _, rfl, c (.int _) h⟩
  · obtain ⟨v, w, rfl, r, r2⟩ := relds2 rs
    cases r; cases r2
    exact ⟨_, call_min2 hc, _, _, rfl, c (.int _) h⟩
  · obtain ⟨v, w, rfl, r, r2⟩ := relds2 rs
    cases r; cases r2
    exact ⟨_, call_max2 hc, _, _, rfl, c (.int _) h⟩
  · obtain ⟨v, w, z, rfl, r, r2, r3⟩ := relds3 rs
    cases r; cases r2; cases r3
    exact ⟨_, call_min3Nu hc, _, _, _, _, rfl, nu_min3 _ _ _, c (.int _) h⟩
  · obtain ⟨v, w, z, rfl, r, r2, r3⟩ := relds3 rs
    cases r; cases r2; cases r3
    exact ⟨_, call_max3Nu hc, _, _, _, _, rfl, nu_max3 _ _ _, c (.int _) h⟩
  · exact hmin _ rs h
  · exact hmax _ rs h
  · exact hsum _ rs h
  · exact hsort _ rs h
  · exact hall _ rs h
  · exact hdict _ rs h
  · exact h.elim

/-! ### isinstance -/
def tyN : Ty → String
  | .int_ => "int" | .bool_ => "bool" | .str_ => "str" | .tuple_ => "tuple" | .list_ => "list" | .dict_ => "dict"
def tyNm : Ty → Str
  | .int_ => "int" | .bool_ => "bool" | .str_ => "str" | .tuple_ => "tuple" | .list_ => "list" | .dict_ => "dict"
theorem ty_boot (t : Ty) : bootBuiltins (tyNm t) = some (.type (tyN t)) := by cases t <;> decide +kernel
theorem ty_no (t : Ty) : tyNm t ≠ "__name__" ∧ (tyNm t == ("__debug__" : Str)) = false := by cases t <;> decide +kernel
theorem isi_all {K : PySem.W.Frag} (hK : K = G.K) (rm : RM G F M H) {t : Ty} {d : D} {v : V} {b : Bool} (r : RelD G F v d) (e : isiB t d M = some b) :
    ∃ n : String, TyX K H v (.type n) ∧ ∀ t b, isiB t d M = some b → PySem.W.kitOne K (.type n) (.type (tyN t)) = some b := by
  subst hK
  cases r with
  | non => exact ⟨_, .base .non, fun t b e => by cases e; exact kit_ty (by cases t <;> decide +kernel)⟩
  | bl x => exact ⟨_, .base (.bl x), fun t b e => by cases e; exact kit_ty (by cases t <;> decide +kernel)⟩
  | int x => exact ⟨_, .base (.int x), fun t b e => by cases e; exact kit_ty (by cases t <;> decide +kernel)⟩
  | str x => exact ⟨_, .base (.str x), fun t b e => by cases e; exact kit_ty (by cases t <;> decide +kernel)⟩
  | tup h1 h2 =>
    have g := same_t rm.fz h1
    refine ⟨"tuple", ?_, fun t b e => by cases e; exact kit_ty (by cases t <;> decide +kernel)⟩
    rcases g with (g | ⟨o, g⟩) | ⟨o, its, n, g, c, _⟩
    · exact .base (.tup g)
    · exact .fTuple g
    · exact .kTuple g c
  | lst h1 h2 => exact ⟨_, .base (.lst (rm.fz _ _ h1)), fun t b e => by cases e; exact kit_ty (by cases t <;> decide +kernel)⟩
  | scr h1 =>
    have g := rm.fz.seq h1
    refine ⟨"list", ?_, fun t b e => by cases e; exact kit_ty (by cases t <;> decide +kernel)⟩
    rcases g with (g | ⟨o, g⟩) | ⟨o, its, n, g, c, _⟩
    · exact .base (.lst g)
    · exact .base (.frz g)
    · exact .kList g c
  | emp h1 => exact ⟨_, .base (.dK (rm.fz _ _ h1)), fun t b e => by cases e; exact kit_ty (by cases t <;> decide +kernel)⟩
  | @loc a =>
    dsimp only [isiB] at e
    cases q : M a with
    | none => rw [q] at e; cases e
    | some ob =>
      rw [q] at e
      cases ob with
      | lst ds =>
        obtain ⟨_, vs, h1, _⟩ := rm.mt a _ q
        exact ⟨_, .base (.lst h1), fun t b e => by dsimp only [isiB] at e; rw [q] at e; cases e; exact kit_ty (by cases t <;> decide +kernel)⟩
      | dic _ =>
        obtain ⟨_, vs, h1, _⟩ := rm.mt a _ q
        exact ⟨_, .base (.dK h1), fun t b e => by dsimp only [isiB] at e; rw [q] at e; cases e; exact kit_ty (by cases t <;> decide +kernel)⟩
      | ins _ _ => cases e
      | obj _ _ => cases e
theorem isi_ok {K : PySem.W.Frag} (hK : K = G.K) (rm : RM G F M H) {t : Ty} {d : D} {v : V} {b : Bool} (r : RelD G F v d) (e : isiB t d M = some b) :
    ∃ n : String, TyX K H v (.type n) ∧ PySem.W.kitOne K (.type n) (.type (tyN t)) = some b := by
  obtain ⟨n, h1, h2⟩ := isi_all hK rm r e
  exact ⟨n, h1, h2 t b e⟩
theorem ist_kit {K : PySem.W.Frag} {n : String} {d : D} (h : ∀ t b, isiB t d M = some b → PySem.W.kitOne K (.type n) (.type (tyN t)) = some b) : ∀ {ts : List Ty} {b : Bool}, istB ts d M = some b → PySem.W.kitAny K (.type n) (ts.map fun t => .type (tyN t)) = some b
  | [], b, e => e
  | t :: ts, b, e => by
    unfold istB at e
    split at e
    · rename_i a c h1 h2
      cases e
      refine kitAny_cons (h t a h1) (fun hb => ?_) fun hb => ?_
      · subst hb
        rw [ist_kit h h2]; rfl
      · subst hb; rfl
    · cases e
theorem ist_ok {K : PySem.W.Frag} (hK : K = G.K) (rm : RM G F M H) {t : Ty} {ts : List Ty} {d : D} {v : V} {b : Bool} (r : RelD G F v d) (e : istB (t :: ts) d M = some b) :
    ∃ n : String, TyX K H v (.type n) ∧ PySem.W.kitAny K (.type n) ((t :: ts).map fun t => .type (tyN t)) = some b := by
  have e2 := e
  unfold istB at e2
  split at e2
  · rename_i a c h1 h2
    obtain ⟨n, h3, h4⟩ := isi_all hK rm r h1
    exact ⟨n, h3, ist_kit h4 e⟩
  · cases e2

/-! ### methods -/
def bmT : Bm → String
  | .append => "list" | .extend => "list" | .index => "list" | .pop => "list" | .reverse_ => "list" | .clear => "list" | .insert => "list"
  | _ => "str"
def bmNm : Bm → Str
  | .append => "append" | .extend => "extend" | .index => "index" | .join => "join" | .pop => "pop" | .reverse_ => "reverse" | .clear => "clear" | .insert => "insert" | .find => "find" | .upper => "upper" | .split => "split" | .partition => "partition"
def liftM (G : Gx) (w : D → List D → Mem → QK → Prop) : V → List V → Hp → VK → Prop := fun v vs H Q => ∃ F M d ds q, RM G F M H ∧ RelD G F v d ∧ RelDs G F vs ds ∧ Cn G F q Q ∧ w d ds M q
theorem rcv_ok {K : PySem.W.Frag} (hK : K = G.K) (rm : RM G F M H) {b : Bm} {d : D} {v : V} (r : RelD G F v d) (h : rcvW b d M) : tyV K (bmT b) v H := by
  subst hK
  have lists : (asL M d).isSome = true → tyV G.K "list" v H := fun h => by
    obtain ⟨ds, e⟩ := Option.isSome_iff_exists.mp h
    obtain ⟨p, vs, rfl, g1, _⟩ := rd_L rm r e
    exact .inl ⟨rfl, vs, g1⟩
  cases b <;> first
    | exact lists h
    | (cases d <;> first | exact (show False from h).elim | (cases r; exact rfl))
/-- a list in the memory and what stands there -/
theorem rd_loc (rm : RM G F M H) {a : Addr} {ds : List D} (q : M a = some (.lst ds)) : ∃ vs, H a = some (.lst vs) ∧ RelDs G F vs ds := (rm.mt a _ q).2
theorem put_ok (rm : RM G F M H) {a : Addr} {ds es : List D} {ws : List V} {q : QK} {Q : VK} {d : D} {v : V} (hq : M a = some (.lst ds)) (rs : RelDs G F ws es) (rd : RelD G F v d) (cn : Cn G F q Q) (h : q d (M.upd a (.lst es))) : Q v (upd H a (.lst ws)) :=
  cn F _ _ _ _ (Same.refl F) (rm.put (ob' := .lst es) hq ⟨ws, upd_same, rs⟩) rd h
theorem first_ok {d : PyData} : ∀ {ps : List PyData} {n j : Nat}, firstOf d ps n = some j → ∃ i z, j = n + i ∧ ps[i]? = some z ∧ PyData.eqv z d = true ∧ ∀ (m : Nat) (z' : PyData), m < i → ps[m]? = some z' → PyData.eqv z' d = false
  | [], _, _, e => by cases e
  | z :: zs, n, j, e => by
    unfold firstOf at e
    by_cases h : PyData.eqv z d = true
    · rw [if_pos h] at e
      cases e
      exact ⟨0, z, rfl, rfl, h, fun m z' hm => absurd hm (Nat.not_lt_zero _)⟩
    · rw [if_neg h] at e
      obtain ⟨i, y, h1, h2, h3, h4⟩ := first_ok e
      refine ⟨i + 1, y, by omega, h2, h3, fun m z' hm hz => ?_⟩
      cases m with
      | zero =>
        have e : z = z' := by simpa using hz
        rw [← e]
        exact Bool.eq_false_iff.mpr h
      | succ m => exact h4 m z' (by omega) hz
end
end Wp

/-! WpS4: when a text is the tree (a check that runs), and that what must hold ahead by the tree is enough for the text: expressions. -/
namespace Wp
open PySem PySem.Spec PyProof.Rows L2

mutual
def eqD : D → D → Bool
  | .non, .non => true
  | .bl a, .bl b => a == b
  | .int a, .int b => decide (a = b)
  | .str a, .str b => decide (a = b)
  | .tup a, .tup b => eqDs a b
  | .lst a, .lst b => eqDs a b
  | _, _ => false
def eqDs : List D → List D → Bool
  | [], [] => true
  | a :: as, b :: bs => eqD a b && eqDs as bs
  | _, _ => false
end
mutual
theorem eqD_eq : ∀ {a b : D}, eqD a b = true → a = b
  | .non, b, h => by cases b <;> first | rfl | cases h
  | .bl x, b, h => by
    cases b with
    | bl y => exact congrArg D.bl (by cases x <;> cases y <;> first | rfl | cases h)
    | _ => cases h
  | .int x, b, h => by
    cases b with
    | int y => exact congrArg D.int (of_decide_eq_true h)
    | _ => cases h
  | .str x, b, h => by
    cases b with
    | str y => exact congrArg D.str (of_decide_eq_true h)
    | _ => cases h
  | .tup x, b, h => by
    cases b with
    | tup y => exact congrArg D.tup (eqDs_eq h)
    | _ => cases h
  | .lst x, b, h => by
    cases b with
    | lst y => exact congrArg D.lst (eqDs_eq h)
    | _ => cases h
  | .scr _, b, h => by cases b <;> cases h
  | .emp, b, h => by cases b <;> cases h
  | .loc _, b, h => by cases b <;> cases h
theorem eqDs_eq : ∀ {a b : List D}, eqDs a b = true → a = b
  | [], b, h => by cases b <;> first | rfl | cases h
  | x :: xs, b, h => by
    cases b with
    | nil => cases h
    | cons y ys =>
      have h : (eqD x y && eqDs xs ys) = true := h
      rw [Bool.and_eq_true] at h
      rw [eqD_eq h.1, eqDs_eq h.2]
end

/-- a law's table: the defs' names by number, how many parameters each has, the module's constants, the names that are built in -/
structure Tb where
  nm : Nat → Option Str
  ar : Nat → Nat
  cs : List (Str × D)
  bn : List Str
  -- classes of exceptions by number; the field that a class's own __init__ writes
  xc : List (Nat × Str) := []
  xr : List (Nat × Str) := []
  -- classes without an own __init__ that are made
  xo : List Nat := []
  -- classes whose __init__ writes at and side
  xb : List Nat := []
  -- methods by number: the class, the name; own classes by number; the names of fields
  me : Nat → Option (Nat × Str) := fun _ => none
  oc : List (Nat × Str) := []
  of : List Str := []
  -- no suite of an except clause
  hot : Bool := true
/-- what may stand in an except suite -/
def Tb.cold (tb : Tb) : Tb := { tb with nm := fun _ => none, bn := tb.bn.filter fun x => x == "isinstance" || x == "ValueError", xr := [], xo := [], xb := [], me := fun _ => none, oc := [], hot := false }

def visB (sc : Scope) (x : Str) : Bool := match sc.names.lookup x with
  | some .local => true
  | some .cell => true
  | some .free => true
  | _ => false
def okB (x : Str) : Bool := !(x == ("__debug__" : Str)) && !(x == ("__classdict__" : Str))
def glB (sc : Scope) (x : Str) : Bool := decide (sc.names.lookup x = some .globalImplicit) && okB x
def bnB (tb : Tb) (sc : Scope) (x : Str) : Bool := glB sc x && tb.bn.any fun y => decide (y = x)
def noStar : Expr → Bool
  | .Starred _ _ => false
  | _ => true
def noSlice : Expr → Bool
  | .Slice _ _ _ _ => false
  | _ => true
def plainT : Expr → Bool
  | .UnaryOp .Not _ _ => false
  | .BoolOp _ _ _ => false
  | .IfExp _ _ _ _ => false
  | .Compare _ _ _ _ => false
  | _ => true
def plainO : Expr → Bool
  | .Call (.Name id _) [] [] _ => !(id == "super")
  | _ => true
/-- a target -/
def locB (sc : Scope) (top : Bool) (x : Str) : Bool := match sc.names.lookup x with
  | some .local => true
  | some .cell => top
  | _ => false
mutual
def chkG (N : List Str) (sc : Scope) (top : Bool) : Tg → Expr → Bool
  | .nm i, x0 => match x0 with
    | .Name x _ => decide (N[i]? = some x) && locB sc top x
    | _ => false
  | .no, x0 => match x0 with
    | .Tuple [] _ _ => true
    | _ => false
  | .co t ts, x0 => match x0 with
    | .Tuple (e :: es) _ _ => chkG N sc top t e && noStar e && chkGs N sc top ts es
    | _ => false
def chkGs (N : List Str) (sc : Scope) (top : Bool) : Tg → List Expr → Bool
  | .no, x0 => match x0 with
    | [] => true
    | _ => false
  | .co t ts, x0 => match x0 with
    | e :: es => chkG N sc top t e && noStar e && chkGs N sc top ts es
    | _ => false
  | .nm _, _ => false
end
def isTupT : Expr → Bool
  | .Tuple _ _ _ => true
  | _ => false
def noSet : Expr → Bool
  | .Set _ _ _ => false
  | _ => true
/-- written keys -/
def keyB : Sum Int Str → Option Expr → Bool
  | .inl i, x0 => match x0 with
    | some (.Constant (.int j) _ _) => decide (i = j)
    | _ => false
  | .inr s, x0 => match x0 with
    | some (.Constant (.str t) _ _) => decide (s = t)
    | _ => false
def chkK : List (Sum Int Str) → List (Option Expr) → Bool
  | [], [] => true
  | k :: ks, e :: es => keyB k e && chkK ks es
  | _, _ => false
def slots : Tg → List Nat
  | .nm i => [i]
  | .no => []
  | .co t ts => slots t ++ slots ts
def ownOf (N : List Str) (own : List Nat) : List (Str × Nat) := own.map fun i => (N.getD i "", i)

/-- a class by its name; 0: ValueError -/
def xnB (tb : Tb) (sc : Scope) (c : Nat) (y : Str) : Bool := (decide (c = 0) && decide (y = "ValueError") && bnB tb sc y) || ((tb.xc.any fun p => decide (p = (c, y))) && glB sc y)
/-- own classes, name by name -/
def chkC (tb : Tb) (sc : Scope) : List Nat → List Expr → Bool
  | [], [] => true
  | c :: cs, .Name y _ :: es => (tb.xc.any fun p => decide (p = (c, y))) && glB sc y && chkC tb sc cs es
  | _, _ => false
def tyNm4 : Ty → Str
  | .int_ => "int" | .bool_ => "bool" | .str_ => "str" | .tuple_ => "tuple" | .list_ => "list" | .dict_ => "dict"
def chkTy (tb : Tb) (sc : Scope) : List Ty → List Expr → Bool
  | [], [] => true
  | t :: ts, .Name y _ :: es => decide (tyNm4 t = y) && bnB tb sc y && chkTy tb sc ts es
  | _, _ => false
def chkFn (tb : Tb) (sc : Scope) : List Nat → List Expr → Bool
  | [], [] => true
  | f :: fs, .Name y _ :: es => decide (tb.nm f = some y) && glB sc y && chkFn tb sc fs es
  | _, _ => false
def fldN (f : Str) : Bool := decide (f = "at") || decide (f = "side")
section
variable (tb : Tb) (N : List Str)
mutual
/-- the text e is the tree -/
def chkE : Ex → Scope → Expr → Bool
  | .var i, sc, x0 => match x0 with
    | .Name x _ => decide (N[i]? = some x) && visB sc x && okB x
    | _ => false
  | .non, _, x0 => match x0 with
    | .Constant .none _ _ => true
    | _ => false
  | .bl b, _, x0 => match x0 with
    | .Constant (.bool c) _ _ => b == c
    | _ => false
  | .int i, _, x0 => match x0 with
    | .Constant (.int j) _ _ => decide (i = j)
    | _ => false
  | .str x, _, x0 => match x0 with
    | .Constant (.str y) _ _ => decide (x = y)
    | _ => false
  | .glob x d, sc, x0 => match x0 with
    | .Name y _ => decide (x = y) && glB sc y && tb.cs.any fun p => decide (p.1 = x) && eqD p.2 d
    | _ => false
  | .bin op _ a b, sc, x0 => match x0 with
    | .BinOp a' op' b' _ => decide (op = op') && chkE a sc a' && chkE b sc b'
    | _ => false
  | .neg a, sc, x0 => match x0 with
    | .UnaryOp .USub a' _ => chkE a sc a'
    | _ => false
  | .not a, sc, x0 => match x0 with
    | .UnaryOp .Not a' _ => chkE a sc a'
    | _ => false
  | .and a b, sc, x0 => match x0 with
    | .BoolOp .And (a' :: b' :: r) pos => chkE a sc a' && match r with
      | [] => chkE b sc b'
      | c' :: r' => chkE b sc (.BoolOp .And (b' :: c' :: r') pos)
    | _ => false
  | .or a b, sc, x0 => match x0 with
    | .BoolOp .Or (a' :: b' :: r) pos => chkE a sc a' && match r with
      | [] => chkE b sc b'
      | c' :: r' => chkE b sc (.BoolOp .Or (b' :: c' :: r') pos)
    | _ => false
  | .cmp op a b, sc, x0 => match x0 with
    | .Compare a' [op'] [b'] _ => decide (op = op') && chkE a sc a' && chkE b sc b' && noSet b'
    | _ => false
  | .ch2 o1 o2 a b c, sc, x0 => match x0 with
    | .Compare a' [p1, p2] [b', c'] _ => decide (o1 = p1) && decide (o2 = p2) && chkE a sc a' && chkE b sc b' && chkE c sc c' && noSet c'
    | _ => false
  | .ch3 o1 o2 o3 a b c d, sc, x0 => match x0 with
    | .Compare a' [p1, p2, p3] [b', c', d'] _ => decide (o1 = p1) && decide (o2 = p2) && decide (o3 = p3) && chkE a sc a' && chkE b sc b' && chkE c sc c' && chkE d sc d' && noSet d'
    | _ => false
  | .ife t a b, sc, x0 => match x0 with
    | .IfExp t' a' b' _ => chkE t sc t' && chkE a sc a' && chkE b sc b'
    | _ => false
  | .tup es, sc, x0 => match x0 with
    | .Tuple es' _ _ => chkA es sc es'
    | _ => false
  | .lst _ es, sc, x0 => match x0 with
    | .List es' _ => chkA es sc es'
    | _ => false
  | .emp, _, x0 => match x0 with
    | .Dict [] [] _ => true
    | _ => false
  | .dct ks es, sc, x0 => match x0 with
    | .Dict [] [] _ => decide (ks.length = 0) && chkA es sc []
    | .Dict keys values _ => chkK ks keys && chkA es sc values && decide (0 < ks.length) && decide (ks.length ≤ 15) && decide (values.length = ks.length)
    | _ => false
  | .dget a i, sc, x0 => match x0 with
    | .Subscript a' i' _ => chkE a sc a' && chkE i sc i' && noSlice i'
    | _ => false
  | .call f es, sc, x0 => match x0 with
    | .Call (.Name x _) (e :: es') [] _ => decide (tb.nm f = some x) && glB sc x && chkA es sc (e :: es')
    | _ => false
  | .cll fs i es, sc, x0 => match x0 with
    | .Call (.Subscript (.List ns _) i' _) (e :: es') [] _ => chkFn tb sc fs ns && decide (fs.length ≤ 20) && decide (0 < fs.length) && chkE i sc i' && noSlice i' && chkA es sc (e :: es')
    | _ => false
  | .bi b _ es, sc, x0 => match x0 with
    | .Call (.Name x _) (e :: es') [] _ => decide (biNm b = x) && bnB tb sc x && chkA es sc (e :: es')
    | _ => false
  | .isi a t, sc, x0 => match x0 with
    | .Call (.Name x _) [a', .Name y _] [] _ => decide (x = "isinstance") && bnB tb sc x && chkE a sc a' && noStar a' && decide (tyNm t = y) && bnB tb sc y
    | _ => false
  | .ist a ts, sc, x0 => match x0 with
    | .Call (.Name x _) [a', .Tuple es _ _] [] _ => decide (x = "isinstance") && bnB tb sc x && chkE a sc a' && noStar a' && chkTy tb sc ts es && decide (ts.length ≤ 20) && decide (0 < ts.length)
    | _ => false
  | .dgt d k, sc, x0 => match x0 with
    | .Call (.Attribute o' m ap) [k'] [] cp => decide (m = "get") && (ap.endLine == cp.line) && chkE d sc o' && plainO o' && chkE k sc k' && noStar k'
    | _ => false
  | .isx a c, sc, x0 => match x0 with
    | .Call (.Name x _) [a', .Name y _] [] _ => decide (x = "isinstance") && bnB tb sc x && chkE a sc a' && noStar a' && xnB tb sc c y
    | _ => false
  | .ixs a cs, sc, x0 => match x0 with
    | .Call (.Name x _) [a', .Tuple es _ _] [] _ => decide (x = "isinstance") && bnB tb sc x && chkE a sc a' && noStar a' && chkC tb sc cs es && decide (cs.length ≤ 20)
    | _ => false
  | .atr a f, sc, x0 => match x0 with
    | .Attribute a' n _ => decide (f = n) && chkE a sc a' && plainO a' && fldN f
    | _ => false
  | .fld a f, sc, x0 => match x0 with
    | .Attribute a' n _ => decide (f = n) && chkE a sc a' && plainO a' && tb.of.any fun g => decide (g = f)
    | _ => false
  | .mth o c m f es, sc, x0 => match x0 with
    | .Call (.Attribute o' m' ap) es' [] cp => decide (m = m') && (ap.endLine == cp.line) && chkE o sc o' && plainO o' && chkA es sc es' && decide (es'.length < 20) && decide (tb.me f = some (c, m))
    | _ => false
  | .mk c f es, sc, x0 => match x0 with
    | .Call (.Name x _) es' [] _ => (tb.oc.any fun p => decide (p = (c, x))) && glB sc x && decide (tb.me f = some (c, ("__init__" : Str))) && chkA es sc es'
    | _ => false
  | .bm b _ o es, sc, x0 => match x0 with
    | .Call (.Attribute o' m ap) es' [] cp => decide (bmNm b = m) && (ap.endLine == cp.line) && chkE o sc o' && plainO o' && chkA es sc es' && decide (es'.length < 20)
    | _ => false
  | .idx a i, sc, x0 => match x0 with
    | .Subscript a' i' _ => chkE a sc a' && chkE i sc i' && noSlice i'
    | _ => false
  | .sli _ a lo hi, sc, x0 => match x0 with
    | .Subscript a' (.Slice lo' hi' none _) _ => chkE a sc a' && chkP lo sc lo' && chkP hi sc hi'
    | _ => false
  | .rev _ a, sc, x0 => match x0 with
    | .Subscript a' (.Slice none none (some (.UnaryOp .USub (.Constant (.int 1) _ _) _)) _) _ => chkE a sc a'
    | _ => false
  | .lrg _ es, sc, x0 => match x0 with
    | .Call (.Name x _) [.Call (.Name y _) (e :: es') [] _] [] _ => decide (x = "list") && bnB tb sc x && decide (y = "range") && bnB tb sc y && chkA es sc (e :: es')
    | _ => false
  | .comp _ own tg iter cond elt, sc, x0 => match x0 with
    | .ListComp elt' [⟨tg', iter', ifs', 0⟩] scope _ => blkC N sc scope (ownOf N own) && chkW iter sc (isTupT tg') iter' && chkG N (relS scope sc) false tg tg' && ((slots tg).all fun i => own.any fun j => i == j) && chkF cond (relS scope sc) ifs' && chkE elt (relS scope sc) elt' && (noSet iter' && tb.hot)
    | _ => false
  | _, _, _ => false
def chkA : Ex → Scope → List Expr → Bool
  | .nil, _, x0 => match x0 with
    | [] => true
    | _ => false
  | .cons e es, sc, x0 => match x0 with
    | e' :: es' => chkE e sc e' && noStar e' && chkA es sc es'
    | _ => false
  | _, _, _ => false
def chkP : Ex → Scope → Option Expr → Bool
  | .nopart, _, x0 => match x0 with
    | none => true
    | _ => false
  | .part e, sc, x0 => match x0 with
    | some e' => chkE e sc e'
    | _ => false
  | _, _, _ => false
def chkF : Ex → Scope → List Expr → Bool
  | .nopart, _, x0 => match x0 with
    | [] => true
    | _ => false
  | .part e, sc, x0 => match x0 with
    | [e'] => chkE e sc e'
    | _ => false
  | _, _, _ => false
/-- what is walked; tp: the target is a written tuple -/
def chkW : Ex → Scope → Bool → Expr → Bool
  | .itl e, sc, _, e' => chkE e sc e'
  | .itt e, sc, _, e' => chkE e sc e'
  | .its e, sc, _, e' => chkE e sc e'
  | .it1 a, sc, _, x0 => match x0 with
    | .Call (.Name x _) [a'] [] _ => decide (x = "range") && bnB tb sc x && chkE a sc a' && noStar a'
    | _ => false
  | .it2 a b, sc, _, x0 => match x0 with
    | .Call (.Name x _) [a', b'] [] _ => decide (x = "range") && bnB tb sc x && chkE a sc a' && noStar a' && chkE b sc b' && noStar b'
    | _ => false
  | .it3 a b c, sc, _, x0 => match x0 with
    | .Call (.Name x _) [a', b', c'] [] _ => decide (x = "range") && bnB tb sc x && chkE a sc a' && noStar a' && chkE b sc b' && noStar b' && chkE c sc c' && noStar c'
    | _ => false
  | .ite e, sc, tp, x0 => match x0 with
    | .Call (.Name x _) [e'] [] _ => tp && decide (x = "enumerate") && bnB tb sc x && chkE e sc e' && noStar e'
    | _ => false
  | .itr e, sc, _, x0 => match x0 with
    | .Call (.Name x _) [e'] [] _ => decide (x = "reversed") && bnB tb sc x && chkE e sc e' && noStar e'
    | _ => false
  | .itz a b, sc, tp, x0 => match x0 with
    | .Call (.Name x _) [a', b'] [] _ => tp && decide (x = "zip") && bnB tb sc x && chkE a sc a' && noStar a' && chkE b sc b' && noStar b'
    | _ => false
  | _, _, _, _ => false
end
end
end Wp

/-! WpM: what is enough for less is enough for what follows from it. -/
namespace Wp
open PySem
section
variable {q q' : QK} (hq : ∀ d M, q d M → q' d M)
include hq
theorem newL_mono {fr : Bool} {ds : List D} {M : Mem} : newL fr ds M q → newL fr ds M q' := by
  cases fr with
  | true => exact fun h => ⟨h.1, hq _ _ h.2⟩
  | false => exact fun h => ⟨h.1, fun p hp => hq _ _ (h.2 p hp)⟩
theorem addW_mono {fr : Bool} {x y : D} {M : Mem} : addW fr x y M q → addW fr x y M q' := by
  unfold addW
  split
  · exact hq _ _
  · exact fun h => ⟨h.1, hq _ _ h.2⟩
  · exact fun h => ⟨h.1, hq _ _ h.2⟩
  · split
    · exact newL_mono hq
    · exact id
theorem mulW_mono {fr : Bool} {x y : D} {M : Mem} : mulW fr x y M q → mulW fr x y M q' := by
  unfold mulW
  split
  · exact fun h => ⟨h.1, hq _ _ h.2⟩
  · exact fun h => ⟨h.1, h.2.1, h.2.2.1, hq _ _ h.2.2.2⟩
  · exact fun h => ⟨h.1, h.2.1, h.2.2.1, hq _ _ h.2.2.2⟩
  · split
    · exact fun h => ⟨h.1, h.2.1, h.2.2.1, newL_mono hq h.2.2.2⟩
    · exact id
  · exact id
theorem binW_mono {op : Operator} {fr : Bool} {x y : D} {M : Mem} : binW op fr x y M q → binW op fr x y M q' := by
  unfold binW
  split
  · exact addW_mono hq
  · exact mulW_mono hq
  · split
    · exact hq _ _
    · exact id
  · split
    · exact fun h => ⟨h.1, hq _ _ h.2⟩
    · exact id
  · split
    · exact fun h => ⟨h.1, h.2.1, hq _ _ h.2.2⟩
    · exact id
  · split
    · exact fun h => ⟨h.1, hq _ _ h.2⟩
    · exact id
  · exact id
theorem negW_mono {x : D} {M : Mem} : negW x M q → negW x M q' := by
  unfold negW
  split
  · exact hq _ _
  · exact id
theorem eqX_mono {neg : Bool} {x y : D} {M : Mem} : eqX neg x y M q → eqX neg x y M q' := by
  unfold eqX
  split
  · exact fun h => ⟨h.1, h.2.1, hq _ _ h.2.2⟩
  · exact fun h => ⟨h.1, hq _ _ h.2⟩
  · exact fun h => ⟨h.1, h.2.1, hq _ _ h.2.2⟩
  · exact hq _ _
  · split
    · split
      · exact hq _ _
      · exact id
    · exact id
  · exact id
theorem eqF_mono {neg : Bool} {x y : D} {M : Mem} : eqF neg x y M q → eqF neg x y M q' := by
  unfold eqF
  split
  · exact fun h => ⟨h.1, h.2.1, hq _ _ h.2.2⟩
  · exact eqX_mono hq
theorem eqP_mono {neg : Bool} {x y : D} {M : Mem} : eqP neg x y M q → eqP neg x y M q' := by
  unfold eqP
  split
  · exact fun h => ⟨h.1, h.2.1, hq _ _ h.2.2⟩
  · exact eqF_mono hq
theorem eqW_mono {neg : Bool} {x y : D} {M : Mem} : eqW neg x y M q → eqW neg x y M q' := by
  unfold eqW
  split
  · exact hq _ _
  unfold eqL
  split
  · split
    · exact eqP_mono hq
    · exact hq _ _
  · split
    · exact hq _ _
    · exact eqP_mono hq
theorem inS_mono {neg : Bool} {x y : D} {M : Mem} : inS neg x y M q → inS neg x y M q' := by
  unfold inS
  split
  · exact hq _ _
  · exact fun h => ⟨h.1, hq _ _ h.2⟩
  · split
    · split
      · exact fun h => ⟨h.1, h.2.1, hq _ _ h.2.2⟩
      · exact id
    · exact id
theorem inW_mono {neg : Bool} {x y : D} {M : Mem} : inW neg x y M q → inW neg x y M q' := by
  unfold inW
  split
  · split
    · exact hq _ _
    · exact id
  · exact inS_mono hq
theorem cmpW_mono {op : CmpOp} {x y : D} {M : Mem} : cmpW op x y M q → cmpW op x y M q' := by
  unfold cmpW
  split
  · exact eqW_mono hq
  · exact eqW_mono hq
  · split <;> first | exact hq _ _ | exact id
  · split <;> first | exact hq _ _ | exact id
  · split
    · exact hq _ _
    · exact hq _ _
    · split
      · split
        · exact hq _ _
        · exact id
      · exact id
  · split <;> first | exact hq _ _ | exact id
  · split <;> first | exact hq _ _ | exact id
  · split <;> first | exact hq _ _ | exact id
  · exact inW_mono hq
  · exact inW_mono hq
theorem idxW_mono {x y : D} {M : Mem} : idxW x y M q → idxW x y M q' := by
  unfold idxW
  split
  · refine fun h => ⟨h.1, ?_⟩
    have h := h.2
    revert h
    split
    · exact hq _ _
    · exact id
  · split
    · split
      · exact hq _ _
      · exact id
    · exact id
  · exact id
theorem sliW_mono {fr : Bool} {x : D} {l u : Option Int} {M : Mem} : sliW fr x l u M q → sliW fr x l u M q' := by
  unfold sliW
  split
  · exact fun h => ⟨h.1, hq _ _ h.2⟩
  · exact hq _ _
  · split
    · exact newL_mono hq
    · exact id
theorem revW_mono {fr : Bool} {x : D} {M : Mem} : revW fr x M q → revW fr x M q' := by
  unfold revW
  split
  · exact hq _ _
  · split
    · exact newL_mono hq
    · exact id
theorem isxW_mono {x : D} {c : Nat} {M : Mem} : isxW x c M q → isxW x c M q' := by
  unfold isxW
  split
  · split
    · exact hq _ _
    · exact id
  · exact id
theorem ixsW_mono {x : D} {cs : List Nat} {M : Mem} : ixsW x cs M q → ixsW x cs M q' := by
  unfold ixsW
  split
  · split
    · exact hq _ _
    · exact id
  · exact id
theorem atrW_mono {x : D} {f : Str} {M : Mem} : atrW x f M q → atrW x f M q' := by
  unfold atrW
  split
  · split
    · split
      · exact hq _ _
      · exact id
    · exact id
  · exact id
theorem fldW_mono {x : D} {f : Str} {M : Mem} : fldW x f M q → fldW x f M q' := by
  unfold fldW
  split
  · split
    · split
      · exact hq _ _
      · exact id
    · exact id
  · exact id
theorem biW_mono {b : Bi} {fr : Bool} {ds : List D} {M : Mem} : biW b fr ds M q → biW b fr ds M q' := by
  unfold biW lenW
  split
  · split
    · exact fun h => ⟨h.1, hq _ _ h.2⟩
    · split
      · exact hq _ _
      · exact id
  · exact hq _ _
  · exact hq _ _
  · refine fun h => ⟨h.1, ?_⟩
    have h := h.2
    revert h
    split
    · exact hq _ _
    · exact id
  · exact fun h => ⟨h.1, newL_mono hq h.2⟩
  · split
    · exact newL_mono hq
    · exact id
  · exact hq _ _
  · split
    · exact hq _ _
    · exact id
  · exact fun h => ⟨h.1, hq _ _ h.2⟩
  · exact fun h => ⟨h.1, hq _ _ h.2⟩
  · exact hq _ _
  · exact hq _ _
  · exact hq _ _
  · exact hq _ _
  · exact hq _ _
  · split
    · split
      · exact fun h => ⟨h.1, fun m h1 h2 => hq _ _ (h.2 m h1 h2)⟩
      · exact id
    · exact id
  · split
    · split
      · exact fun h => ⟨h.1, fun m h1 h2 => hq _ _ (h.2 m h1 h2)⟩
      · exact id
    · exact id
  · split
    · split
      · exact hq _ _
      · exact id
    · exact id
  · split
    · split
      · exact fun h ns' a b => newL_mono hq (h ns' a b)
      · exact id
    · exact id
  · split
    · split
      · exact hq _ _
      · exact id
    · exact id
  · split
    · split
      · exact fun h p hp => hq _ _ (h p hp)
      · exact id
    · exact id
  · exact id
theorem bmW_mono {b : Bm} {fr : Bool} {x : D} {ds : List D} {M : Mem} : bmW b fr x ds M q → bmW b fr x ds M q' := by
  unfold bmW
  split
  · split
    · exact fun h => ⟨h.1, hq _ _ h.2⟩
    · exact id
  · split
    · exact fun h => ⟨h.1, hq _ _ h.2⟩
    · exact id
  · split
    · exact hq _ _
    · exact id
  · split
    · exact hq _ _
    · exact id
  · split
    · exact fun h => ⟨h.1, h.2.1, h.2.2.1, hq _ _ h.2.2.2⟩
    · exact id
  · split
    · refine fun h => ⟨h.1, h.2.1, ?_⟩
      have h := h.2.2
      revert h
      split
      · exact hq _ _
      · exact id
    · exact id
  · split
    · split
      · exact hq _ _
      · exact id
    · exact id
  · split
    · split
      · exact fun h => ⟨h.1, hq _ _ h.2⟩
      · exact id
    · exact id
  · split
    · split
      · refine fun h => ⟨h.1, h.2.1, ?_⟩
        have h := h.2.2
        revert h
        split
        · exact hq _ _
        · exact id
      · exact id
    · exact id
  · exact hq _ _
  · exact fun h => ⟨h.1, hq _ _ h.2⟩
  · exact fun h => ⟨h.1, h.2.1, newL_mono hq h.2.2⟩
  · exact fun h => ⟨h.1, h.2.1, hq _ _ h.2.2⟩
  · exact id
end
theorem truW_mono {q q' : BK} (hq : ∀ c M, q c M → q' c M) {x : D} {M : Mem} : truW x M q → truW x M q' := by
  unfold truW
  split
  · exact hq _ _
  · exact hq _ _
  · exact hq _ _
  · exact fun h => ⟨h.1, hq _ _ h.2⟩
  · exact hq _ _
  · split
    · exact hq _ _
    · exact id
mutual
theorem tgW_mono : ∀ (t : Tg) {d : D} {env : Env} {Q Q' : Env → Prop}, (∀ e, Q e → Q' e) → tgW t d env Q → tgW t d env Q'
  | .nm _, _, _, _, _, hq, h => hq _ h
  | .no, d, env, Q, Q', hq, h => by
    unfold tgW at h ⊢
    split at h
    · exact hq _ h
    · exact hq _ h
    · exact h.elim
  | .co t ts, d, env, Q, Q', hq, h => by
    unfold tgW at h ⊢
    split at h
    · exact tgW_mono t (fun e h => tgsW_mono ts hq h) h
    · exact tgW_mono t (fun e h => tgsW_mono ts hq h) h
    · exact h.elim
theorem tgsW_mono : ∀ (t : Tg) {ds : List D} {env : Env} {Q Q' : Env → Prop}, (∀ e, Q e → Q' e) → tgsW t ds env Q → tgsW t ds env Q'
  | .nm _, ds, _, _, _, _, h => by cases ds <;> exact (show False from h).elim
  | .no, ds, env, Q, Q', hq, h => by
    cases ds with
    | nil => exact hq _ h
    | cons a b => exact (show False from h).elim
  | .co t ts, ds, env, Q, Q', hq, h => by
    cases ds with
    | nil => exact (show False from h).elim
    | cons d ds => exact tgW_mono t (fun e h => tgsW_mono ts hq h) (show tgW t d env (fun e => tgsW ts ds e Q) from h)
end
theorem compW_mono {step step' : D → Env → Mem → (Option D → Mem → Prop) → Prop} (hs : ∀ d e M P P', (∀ o M, P o M → P' o M) → step d e M P → step' d e M P') {still : Mem → Prop} {env : Env} {Q Q' : AK} (hq : ∀ ds M, Q ds M → Q' ds M) :
    ∀ {items acc : List D} {M : Mem}, compW step still env items acc M Q → compW step' still env items acc M Q'
  | [], _, _, h => ⟨h.1, hq _ _ h.2⟩
  | d :: ds, acc, M, h => ⟨h.1, hs _ _ _ _ _ (fun o M1 h => by
      cases o with
      | none => exact compW_mono hs hq h
      | some y => exact ⟨h.1, compW_mono hs hq h.2⟩) h.2⟩
theorem walkL_mono {Q Q' : Wk → Mem → Prop} (hq : ∀ w M, Q w M → Q' w M) {d : D} {M : Mem} : walkL d M Q → walkL d M Q' := by
  unfold walkL
  split
  · exact hq _ _
  · split
    · exact hq _ _
    · exact id
theorem walkT_mono {Q Q' : Wk → Mem → Prop} (hq : ∀ w M, Q w M → Q' w M) {d : D} {M : Mem} : walkT d M Q → walkT d M Q' := by
  unfold walkT
  split
  · exact hq _ _
  · exact id
theorem walkS_mono {Q Q' : Wk → Mem → Prop} (hq : ∀ w M, Q w M → Q' w M) {d : D} {M : Mem} : walkS d M Q → walkS d M Q' := by
  unfold walkS
  split
  · exact hq _ _
  · exact id
theorem walkR_mono {Q Q' : Wk → Mem → Prop} (hq : ∀ w M, Q w M → Q' w M) {ds : List D} {M : Mem} : walkR ds M Q → walkR ds M Q' := by
  unfold walkR
  split
  · exact fun h => ⟨h.1, hq _ _ h.2⟩
  · exact fun h => ⟨h.1, hq _ _ h.2⟩
  · split
    · exact fun h => ⟨h.1, hq _ _ h.2⟩
    · exact fun h => ⟨h.1, hq _ _ h.2⟩
  · exact id
theorem dgetW_mono {q q' : QK} (hq : ∀ d M, q d M → q' d M) {x k : D} {M : Mem} : dgetW x k M q → dgetW x k M q' := by
  unfold dgetW
  split
  · split
    · split
      · exact hq _ _
      · exact id
    · exact id
  · exact id
theorem dgtW_mono {q q' : QK} (hq : ∀ d M, q d M → q' d M) {x k : D} {M : Mem} : dgtW x k M q → dgtW x k M q' := by
  unfold dgtW
  split
  · exact hq _ _
  · exact id
theorem dputW_mono {q q' : Mem → Prop} (hq : ∀ M, q M → q' M) {o k v : D} {M : Mem} : dputW o k v M q → dputW o k v M q' := by
  unfold dputW
  split
  · split
    · exact fun h => ⟨h.1, hq _ h.2⟩
    · exact id
  · exact id
theorem sflW_mono {q q' : Mem → Prop} (hq : ∀ M, q M → q' M) {o v : D} {f : Str} {M : Mem} : sflW o f v M q → sflW o f v M q' := by
  unfold sflW
  split
  · split
    · exact fun h => ⟨h.1, hq _ h.2⟩
    · exact id
  · exact id
theorem zipW_mono {Q Q' : Wk → Mem → Prop} (hq : ∀ w M, Q w M → Q' w M) {x y : D} {M : Mem} : zipW x y M Q → zipW x y M Q' := by
  unfold zipW
  split
  · exact hq _ _
  · split
    · exact hq _ _
    · exact id

/-- a semantics of calls that is monotone -/
def MonR (R R' : Nat → List D → Mem → QK → XQ → Prop) : Prop := ∀ f ds M Q Q' E E', (∀ d M, Q d M → Q' d M) → (∀ z M, E z M → E' z M) → R f ds M Q E → R' f ds M Q' E'
/-- what is wanted of an expression's parts -/
structure MonX (R R' : Nat → List D → Mem → QK → XQ → Prop) (ex : Ex) : Prop where
  E : ∀ {env : Env} {M : Mem} {Q Q' : QK} {E E' : XQ}, (∀ d M, Q d M → Q' d M) → (∀ z M, E z M → E' z M) → wpE R ex env M Q E → wpE R' ex env M Q' E'
  A : ∀ {env : Env} {M : Mem} {Q Q' : AK} {E E' : XQ}, (∀ d M, Q d M → Q' d M) → (∀ z M, E z M → E' z M) → wpA R ex env M Q E → wpA R' ex env M Q' E'
  P : ∀ {env : Env} {M : Mem} {Q Q' : Option Int → Mem → Prop} {E E' : XQ}, (∀ d M, Q d M → Q' d M) → (∀ z M, E z M → E' z M) → wpP R ex env M Q E → wpP R' ex env M Q' E'
  C : ∀ {env : Env} {M : Mem} {Q Q' : BK} {E E' : XQ}, (∀ d M, Q d M → Q' d M) → (∀ z M, E z M → E' z M) → wpC R ex env M Q E → wpC R' ex env M Q' E'
  W : ∀ {env : Env} {M : Mem} {Q Q' : Wk → Mem → Prop} {E E' : XQ}, (∀ d M, Q d M → Q' d M) → (∀ z M, E z M → E' z M) → wpW R ex env M Q E → wpW R' ex env M Q' E'
theorem mon (R R' : Nat → List D → Mem → QK → XQ → Prop) (hR : MonR R R') (ex : Ex) : MonX R R' ex := by
  induction ex with
  | var i =>
    refine ⟨fun hq he h => ?_, fun hq he h => h.elim, fun hq he h => h.elim, fun hq he h => h.elim, fun hq he h => h.elim⟩
    revert h
    dsimp only [wpE]
    split
    · exact hq _ _
    · exact id
  | non => exact ⟨fun hq he h => hq _ _ h, fun hq he h => h.elim, fun hq he h => h.elim, fun hq he h => h.elim, fun hq he h => h.elim⟩
  | bl b => exact ⟨fun hq he h => hq _ _ h, fun hq he h => h.elim, fun hq he h => h.elim, fun hq he h => h.elim, fun hq he h => h.elim⟩
  | int b => exact ⟨fun hq he h => hq _ _ h, fun hq he h => h.elim, fun hq he h => h.elim, fun hq he h => h.elim, fun hq he h => h.elim⟩
  | str b => exact ⟨fun hq he h => hq _ _ h, fun hq he h => h.elim, fun hq he h => h.elim, fun hq he h => h.elim, fun hq he h => h.elim⟩
  | glob b d => exact ⟨fun hq he h => hq _ _ h, fun hq he h => h.elim, fun hq he h => h.elim, fun hq he h => h.elim, fun hq he h => h.elim⟩
  | emp => exact ⟨fun hq he h => hq _ _ h, fun hq he h => h.elim, fun hq he h => h.elim, fun hq he h => h.elim, fun hq he h => h.elim⟩
  | dct ks es h1 => exact ⟨fun hq he h => ⟨h.1, fun p hp => h1.A (fun ds M1 h => ⟨h.1, h.2.1, hq _ _ h.2.2⟩) he (h.2 p hp)⟩, fun hq he h => h.elim, fun hq he h => h.elim, fun hq he h => h.elim, fun hq he h => h.elim⟩
  | dget a i h1 h2 => exact ⟨fun hq he h => h1.E (fun x M1 h => h2.E (fun y M2 h => dgetW_mono hq h) he h) he h, fun hq he h => h.elim, fun hq he h => h.elim, fun hq he h => h.elim, fun hq he h => h.elim⟩
  | bin op fr a b ha hb => exact ⟨fun hq he h => ha.E (fun x M1 h => hb.E (fun y M2 h => binW_mono hq h) he h) he h, fun hq he h => h.elim, fun hq he h => h.elim, fun hq he h => h.elim, fun hq he h => h.elim⟩
  | neg a ha => exact ⟨fun hq he h => ha.E (fun x M1 h => negW_mono hq h) he h, fun hq he h => h.elim, fun hq he h => h.elim, fun hq he h => h.elim, fun hq he h => h.elim⟩
  | not a ha => exact ⟨fun hq he h => ha.E (fun x M1 h => truW_mono (fun c M h => hq _ _ h) h) he h, fun hq he h => h.elim, fun hq he h => h.elim, fun hq he h => h.elim, fun hq he h => h.elim⟩
  | and a b ha hb => exact ⟨fun hq he h => ha.E (fun x M1 h => truW_mono (fun c M h => by
      cases c with
      | true => exact hb.E hq he h
      | false => exact hq _ _ h) h) he h, fun hq he h => h.elim, fun hq he h => h.elim, fun hq he h => h.elim, fun hq he h => h.elim⟩
  | or a b ha hb => exact ⟨fun hq he h => ha.E (fun x M1 h => truW_mono (fun c M h => by
      cases c with
      | false => exact hb.E hq he h
      | true => exact hq _ _ h) h) he h, fun hq he h => h.elim, fun hq he h => h.elim, fun hq he h => h.elim, fun hq he h => h.elim⟩
  | cmp op a b ha hb => exact ⟨fun hq he h => ha.E (fun x M1 h => hb.E (fun y M2 h => cmpW_mono hq h) he h) he h, fun hq he h => h.elim, fun hq he h => h.elim, fun hq he h => h.elim, fun hq he h => h.elim⟩
  | ch2 o1 o2 a b c ha hb hc => exact ⟨fun hq he h => ha.E (fun x M1 h => hb.E (fun y M2 h => cmpW_mono (fun r M3 h => by
      revert h
      split
      · exact hc.E (fun z M4 h => cmpW_mono hq h) he
      · exact hq _ _
      · exact id) h) he h) he h, fun hq he h => h.elim, fun hq he h => h.elim, fun hq he h => h.elim, fun hq he h => h.elim⟩
  | ch3 o1 o2 o3 a b c d ha hb hc hd => exact ⟨fun hq he h => ha.E (fun x M1 h => hb.E (fun y M2 h => cmpW_mono (fun r M3 h => by
      revert h
      split
      · exact hc.E (fun z M4 h => cmpW_mono (fun r M5 h => by
          revert h
          split
          · exact hd.E (fun z M4 h => cmpW_mono hq h) he
          · exact hq _ _
          · exact id) h) he
      · exact hq _ _
      · exact id) h) he h) he h, fun hq he h => h.elim, fun hq he h => h.elim, fun hq he h => h.elim, fun hq he h => h.elim⟩
  | ife t a b ht ha hb => exact ⟨fun hq he h => ht.E (fun x M1 h => truW_mono (fun c M h => by
      cases c with
      | true => exact ha.E hq he h
      | false => exact hb.E hq he h) h) he h, fun hq he h => h.elim, fun hq he h => h.elim, fun hq he h => h.elim, fun hq he h => h.elim⟩
  | tup es hs => exact ⟨fun hq he h => hs.A (fun ds M1 h => ⟨h.1, hq _ _ h.2⟩) he h, fun hq he h => h.elim, fun hq he h => h.elim, fun hq he h => h.elim, fun hq he h => h.elim⟩
  | lst fr es hs => exact ⟨fun hq he h => hs.A (fun ds M1 h => newL_mono hq h) he h, fun hq he h => h.elim, fun hq he h => h.elim, fun hq he h => h.elim, fun hq he h => h.elim⟩
  | nil => exact ⟨fun hq he h => h.elim, fun hq he h => hq _ _ h, fun hq he h => h.elim, fun hq he h => h.elim, fun hq he h => h.elim⟩
  | cons e es h1 h2 => exact ⟨fun hq he h => h.elim, fun hq he h => h1.E (fun x M1 h => h2.A (fun ds M2 h => hq _ _ h) he h) he h, fun hq he h => h.elim, fun hq he h => h.elim, fun hq he h => h.elim⟩
  | call f es hs => exact ⟨fun hq he h => hs.A (fun ds M1 h => hR _ _ _ _ _ _ _ hq he h) he h, fun hq he h => h.elim, fun hq he h => h.elim, fun hq he h => h.elim, fun hq he h => h.elim⟩
  | cll fs i es h1 hs => exact ⟨fun hq he h => h1.E (fun y M1 h => by
      cases y with
      | int k =>
        revert h
        dsimp only
        cases atI fs k with
        | none => exact fun h => h
        | some f => exact fun h => hs.A (fun ds M2 h => hR _ _ _ _ _ _ _ hq he h) he h
      | _ => exact h.elim) he h, fun hq he h => h.elim, fun hq he h => h.elim, fun hq he h => h.elim, fun hq he h => h.elim⟩
  | bi b fr es hs => exact ⟨fun hq he h => hs.A (fun ds M1 h => biW_mono hq h) he h, fun hq he h => h.elim, fun hq he h => h.elim, fun hq he h => h.elim, fun hq he h => h.elim⟩
  | isi a t ha => exact ⟨fun hq he h => ha.E (fun x M1 h => by
      revert h
      split
      · exact hq _ _
      · exact id) he h, fun hq he h => h.elim, fun hq he h => h.elim, fun hq he h => h.elim, fun hq he h => h.elim⟩
  | ist a ts ha => exact ⟨fun hq he h => ha.E (fun x M1 h => by
      revert h
      split
      · exact hq _ _
      · exact id) he h, fun hq he h => h.elim, fun hq he h => h.elim, fun hq he h => h.elim, fun hq he h => h.elim⟩
  | dgt a i h1 h2 => exact ⟨fun hq he h => h1.E (fun x M1 h => ⟨h.1, h2.E (fun y M2 h => dgtW_mono hq h) he h.2⟩) he h, fun hq he h => h.elim, fun hq he h => h.elim, fun hq he h => h.elim, fun hq he h => h.elim⟩
  | itr e h1 => exact ⟨fun hq he h => h.elim, fun hq he h => h.elim, fun hq he h => h.elim, fun hq he h => h.elim, fun hq he h => h1.E (fun x M1 h => by
      revert h
      split
      · exact hq _ _
      · exact id) he h⟩
  | isx a c ha => exact ⟨fun hq he h => ha.E (fun x M1 h => isxW_mono hq h) he h, fun hq he h => h.elim, fun hq he h => h.elim, fun hq he h => h.elim, fun hq he h => h.elim⟩
  | ixs a cs ha => exact ⟨fun hq he h => ha.E (fun x M1 h => ixsW_mono hq h) he h, fun hq he h => h.elim, fun hq he h => h.elim, fun hq he h => h.elim, fun hq he h => h.elim⟩
  | atr a f ha => exact ⟨fun hq he h => ha.E (fun x M1 h => atrW_mono hq h) he h, fun hq he h => h.elim, fun hq he h => h.elim, fun hq he h => h.elim, fun hq he h => h.elim⟩
  | fld a f ha => exact ⟨fun hq he h => ha.E (fun x M1 h => fldW_mono hq h) he h, fun hq he h => h.elim, fun hq he h => h.elim, fun hq he h => h.elim, fun hq he h => h.elim⟩
  | mth o c m f es ho hs => exact ⟨fun hq he h => ho.E (fun x M1 h => ⟨h.1, hs.A (fun ds M2 h => hR _ _ _ _ _ _ _ hq he h) he h.2⟩) he h, fun hq he h => h.elim, fun hq he h => h.elim, fun hq he h => h.elim, fun hq he h => h.elim⟩
  | mk c f es hs => exact ⟨fun hq he h => hs.A (fun ds M1 h p hp => hR _ _ _ _ _ _ _ (fun v M2 h => ⟨h.1, hq _ _ h.2⟩) he (h p hp)) he h, fun hq he h => h.elim, fun hq he h => h.elim, fun hq he h => h.elim, fun hq he h => h.elim⟩
  | bm b fr o es ho hs => exact ⟨fun hq he h => ho.E (fun x M1 h => ⟨h.1, hs.A (fun ds M2 h => bmW_mono hq h) he h.2⟩) he h, fun hq he h => h.elim, fun hq he h => h.elim, fun hq he h => h.elim, fun hq he h => h.elim⟩
  | idx a i ha hi => exact ⟨fun hq he h => ha.E (fun x M1 h => hi.E (fun y M2 h => idxW_mono hq h) he h) he h, fun hq he h => h.elim, fun hq he h => h.elim, fun hq he h => h.elim, fun hq he h => h.elim⟩
  | sli fr a lo hi ha hl hh => exact ⟨fun hq he h => ha.E (fun x M1 h => hl.P (fun l M2 h => hh.P (fun u M3 h => sliW_mono hq h) he h) he h) he h, fun hq he h => h.elim, fun hq he h => h.elim, fun hq he h => h.elim, fun hq he h => h.elim⟩
  | rev fr a ha => exact ⟨fun hq he h => ha.E (fun x M1 h => revW_mono hq h) he h, fun hq he h => h.elim, fun hq he h => h.elim, fun hq he h => h.elim, fun hq he h => h.elim⟩
  | lrg fr es hs => exact ⟨fun hq he h => hs.A (fun ds M1 h => walkR_mono (fun w M2 h => newL_mono hq h) h) he h, fun hq he h => h.elim, fun hq he h => h.elim, fun hq he h => h.elim, fun hq he h => h.elim⟩
  | part e h1 => exact ⟨fun hq he h => h.elim, fun hq he h => h.elim, fun hq he h => h1.E (fun x M1 h => by
      revert h
      split
      · exact hq _ _
      · exact id) he h, fun hq he h => h1.E (fun x M1 h => truW_mono hq h) he h, fun hq he h => h.elim⟩
  | nopart => exact ⟨fun hq he h => h.elim, fun hq he h => h.elim, fun hq he h => hq _ _ h, fun hq he h => hq _ _ h, fun hq he h => h.elim⟩
  | comp fr own tg iter cond elt hi hc he1 => exact ⟨fun hq he h => hi.W (fun w M1 h => compW_mono (fun d e M P P' hp h => tgW_mono tg (fun e' h => hc.C (fun b M1 h => by
      cases b with
      | true => exact he1.E (fun y M2 h => hp _ _ h) (fun _ _ z => z) h
      | false => exact hp _ _ h) (fun _ _ z => z) h) h) (fun ds M2 h => newL_mono hq h) h) he h, fun hq he h => h.elim, fun hq he h => h.elim, fun hq he h => h.elim, fun hq he h => h.elim⟩
  | itl e h1 => exact ⟨fun hq he h => h.elim, fun hq he h => h.elim, fun hq he h => h.elim, fun hq he h => h.elim, fun hq he h => h1.E (fun x M1 h => walkL_mono hq h) he h⟩
  | itt e h1 => exact ⟨fun hq he h => h.elim, fun hq he h => h.elim, fun hq he h => h.elim, fun hq he h => h.elim, fun hq he h => h1.E (fun x M1 h => walkT_mono hq h) he h⟩
  | its e h1 => exact ⟨fun hq he h => h.elim, fun hq he h => h.elim, fun hq he h => h.elim, fun hq he h => h.elim, fun hq he h => h1.E (fun x M1 h => walkS_mono hq h) he h⟩
  | it1 a h1 => exact ⟨fun hq he h => h.elim, fun hq he h => h.elim, fun hq he h => h.elim, fun hq he h => h.elim, fun hq he h => h1.E (fun x M1 h => walkR_mono hq h) he h⟩
  | it2 a b h1 h2 => exact ⟨fun hq he h => h.elim, fun hq he h => h.elim, fun hq he h => h.elim, fun hq he h => h.elim, fun hq he h => h1.E (fun x M1 h => h2.E (fun y M2 h => walkR_mono hq h) he h) he h⟩
  | it3 a b c h1 h2 h3 => exact ⟨fun hq he h => h.elim, fun hq he h => h.elim, fun hq he h => h.elim, fun hq he h => h.elim, fun hq he h => h1.E (fun x M1 h => h2.E (fun y M2 h => h3.E (fun z M3 h => walkR_mono hq h) he h) he h) he h⟩
  | ite e h1 => exact ⟨fun hq he h => h.elim, fun hq he h => h.elim, fun hq he h => h.elim, fun hq he h => h.elim, fun hq he h => h1.E (fun x M1 h => by
      revert h
      unfold enumW
      split
      · exact hq _ _
      · split
        · exact hq _ _
        · exact id) he h⟩
  | itz a b h1 h2 => exact ⟨fun hq he h => h.elim, fun hq he h => h.elim, fun hq he h => h.elim, fun hq he h => h.elim, fun hq he h => h1.E (fun x M1 h => h2.E (fun y M2 h => zipW_mono hq h) he h) he h⟩
end Wp

/-! WpS5: expressions. -/
namespace Wp
open PySem PySem.Spec PyProof.Rows L2

/-! ### readings by trees -/
section
variable (G : Gx) (W : WX)
def liftE (w : Env → Mem → QK → XQ → Prop) : TE := fun σ H Q => ∃ F M env q e, RM G F M H ∧ EnvR G F env σ ∧ Cn G F q Q ∧ CnX G F e (fun c d H => W c d σ H) ∧ w env M q e
def liftT (w : Env → Mem → BK → XQ → Prop) : TT := fun σ H Q => ∃ F M env q e, RM G F M H ∧ EnvR G F env σ ∧ CnB G F q Q ∧ CnX G F e (fun c d H => W c d σ H) ∧ w env M q e
def liftA (w : Env → Mem → AK → XQ → Prop) : TA := fun σ H Q => ∃ F M env q e, RM G F M H ∧ EnvR G F env σ ∧ CnA G F q Q ∧ CnX G F e (fun c d H => W c d σ H) ∧ w env M q e
def CnP (F : Hp) (q : Option Int → Mem → Prop) (Q : Option Int → Hp → Prop) : Prop := ∀ F' M' H' o, Same F F' → RM G F' M' H' → q o M' → Q o H'
def liftP (w : Env → Mem → (Option Int → Mem → Prop) → XQ → Prop) : TO := fun σ H Q => ∃ F M env q e, RM G F M H ∧ EnvR G F env σ ∧ CnP G F q Q ∧ CnX G F e (fun c d H => W c d σ H) ∧ w env M q e
/-- the things that a walk yields, one by one -/
def Real (F : Hp) (J : It) (wk : Wk) : Prop := ∀ P i F' M H, Same F F' → RM (G.hide P) F' M H → wk.still M →
  (∀ d, wk.items[i]? = some d → J.go i H ∧ ∀ x H', J.yld i H x H' → ∃ F2, Same F' F2 ∧ RM (G.hide P) F2 M H' ∧ RelD G F2 x d) ∧ (i = wk.items.length → J.stop i H)
def CnW (F : Hp) (q : Wk → Mem → Prop) (Rr : It → Hp → Prop) : Prop := ∀ F' M' H' wk J, Same F F' → RM G F' M' H' → Real G F' J wk → q wk M' → Rr J H'
def liftW (w : Env → Mem → (Wk → Mem → Prop) → XQ → Prop) : TI := fun σ H Q => ∃ F M env q e, RM G F M H ∧ EnvR G F env σ ∧ CnW G F q Q ∧ CnX G F e (fun c d H => W c d σ H) ∧ w env M q e
end
/-- a def's promise by trees -/
def liftSp (G : Gx) (n : Nat) (r : List D → Mem → QK → XQ → Prop) : Sp := fun vs H Q E => vs.length = n ∧ ∃ P F M ds q e, RM (G.hide P) F M H ∧ RelDs G F vs ds ∧ Cn (G.hide P) F q Q ∧ CnX (G.hide P) F e E ∧ r ds M q e
section
variable {X : Cx} {e : Expr}
theorem PE.imp {t t' : TE} (h : PE X e t) (hi : ∀ σ H Q, t' σ H Q → t σ H Q) : PE X e t' := ⟨fun pins s σ H Q I q => h.run pins s σ H Q I (hi _ _ _ q)⟩
theorem PT.imp {t t' : TT} (h : PT X e t) (hi : ∀ σ H Q, t' σ H Q → t σ H Q) : PT X e t' := ⟨fun pins s σ H Q I q => h.run pins s σ H Q I (hi _ _ _ q)⟩
theorem PA.imp {es : List Expr} {t t' : TA} (h : PA X es t) (hi : ∀ σ H Q, t' σ H Q → t σ H Q) : PA X es t' := ⟨fun pos pins s σ H Q I q => h.run pos pins s σ H Q I (hi _ _ _ q)⟩
theorem PI.imp {tg : Expr} {t t' : TI} (h : PI X tg e t) (hi : ∀ σ H Q, t' σ H Q → t σ H Q) : PI X tg e t' := ⟨fun pins s σ H Q I q => h.run pins s σ H Q I (hi _ _ _ q)⟩
end

/-- the classes of exceptions: what the written part says of them -/
structure XTab (K : PySem.W.Frag) (mg : Str → Option Value) (cl : Nat → Option Addr) (xc : List (Nat × Str)) : Prop where
  nm : ∀ p ∈ xc, ∃ C, mg p.2 = some (.ref C) ∧ cl p.1 = some C
  xc : ∀ c C, cl c = some C → L2.XcC K C
  ve : ∀ c C, cl c = some C → PySem.W.kitOne K (.ref C) (.type "ValueError") = some true
  sub : ∀ c C d D, cl c = some C → cl d = some D → PySem.W.kitOne K (.ref C) (.ref D) = some (subX c d) ∧ PySem.W.exmOne K (.ref C) (.ref D) = some (subX c d)
  na : ∀ c C f, cl c = some C → fldN f = true → PySem.W.findIn K (.ref C) f = some none
/-- __init__(self, v): self.f = v -/
def spI (C : Addr) (f : Str) : Sp := fun vs H Q _ => ∃ (a : Addr) (v : V), vs = [.ref a, v] ∧ H a = some (L2.exo a C none) ∧ ∀ dx, H dx = none → dx ≠ a → Q .non (upd (upd H dx (L2.exd dx [(f, v)])) a (L2.exo a C (some dx)))
/-- an own exception class whose __init__ writes one field -/
structure XMk (P : Program) (w : World) (K : PySem.W.Frag) (mg : Str → Option Value) (base : Heap) (cl : Nat → Option Addr) (c : Nat) (x f : Str) : Prop where
  ex : ∃ (C fI : Addr) (fd : FuncData) (ps : List Str), cl c = some C ∧ mg x = some (.ref C) ∧ PySem.W.keepIn K (.ref C) = true ∧ L2.OexC K C ∧ PySem.W.findIn K (.ref C) "__init__" = some (some (.ref fI)) ∧
    PySem.W.typeIn K (.ref fI) = some (.type "function") ∧ Binds K fd ps [] ∧ FnOk P w K mg base L2.CX0 1 fI fd ps (spI C f)
/-- __init__(self, v, y): self.at = v; self.side = y -/
def spB (C : Addr) : Sp := fun vs H Q _ => ∃ (a : Addr) (v y : V), vs = [.ref a, v, y] ∧ H a = some (L2.exo a C none) ∧ ∀ dx, H dx = none → dx ≠ a → Q .non (upd (upd (upd H dx (L2.exd dx [("at", v)])) a (L2.exo a C (some dx))) dx (L2.exd dx [("side", y), ("at", v)]))
structure XMb (P : Program) (w : World) (K : PySem.W.Frag) (mg : Str → Option Value) (base : Heap) (cl : Nat → Option Addr) (c : Nat) (x : Str) : Prop where
  ex : ∃ (C fI : Addr) (fd : FuncData) (ps : List Str), cl c = some C ∧ mg x = some (.ref C) ∧ PySem.W.keepIn K (.ref C) = true ∧ L2.OexC K C ∧ PySem.W.findIn K (.ref C) "__init__" = some (some (.ref fI)) ∧
    PySem.W.typeIn K (.ref fI) = some (.type "function") ∧ Binds K fd ps [] ∧ Binds K fd ps [.none] ∧ FnOk P w K mg base L2.CX0 1 fI fd ps (spB C)
/-- own classes, their methods -/
structure GoodO (G : Gx) (tb : Tb) (R : Nat → List D → Mem → QK → XQ → Prop) (k : Nat) (P : Program) (w : World) (K : PySem.W.Frag) (mg : Str → Option Value) (base : Heap) : Prop where
  mts : ∀ f c m, tb.me f = some (c, m) → ∃ C ad fd ps, G.co c = some C ∧ Meth K C m ad ∧ Binds K fd ps [] ∧ ps.length = tb.ar f ∧ FnOk P w K mg base (L2.CX P w) k ad fd ps (liftSp G (tb.ar f) (R f))
  hot : ∀ f c m, tb.me f = some (c, m) → tb.hot = true
  len : ∀ f c m ds M q e, tb.me f = some (c, m) → R f ds M q e → ds.length = tb.ar f
  cls : ∀ c C, G.co c = some C → Cls K C ∧ ∀ f ∈ tb.of, NoAttr K C f
  mks : ∀ c x, (c, x) ∈ tb.oc → ∃ C, G.co c = some C ∧ mg x = some (.ref C) ∧ PySem.W.makesIn K C = true ∧ PySem.W.keepIn K (.ref C) = true
  xbs : ∀ c x, c ∈ tb.xb → (c, x) ∈ tb.xc → XMb P w K mg base G.cl c x
/-- an own exception class without an own __init__ -/
structure XOwn (K : PySem.W.Frag) (mg : Str → Option Value) (cl : Nat → Option Addr) (c : Nat) (x : Str) : Prop where
  ex : ∃ C : Addr, cl c = some C ∧ mg x = some (.ref C) ∧ PySem.W.keepIn K (.ref C) = true ∧ PySem.W.excIn K C He.veBase "ValueError.__new__" = true ∧ PySem.W.subIn K (.ref C) (.type "BaseException") = some true ∧ PySem.W.typeIn K (.ref C) = some (.type "type")
/-- what a context must have -/
structure Good (G : Gx) (tb : Tb) (R : Nat → List D → Mem → QK → XQ → Prop) (k : Nat) (W : WX) (X : Cx) : Prop where
  hK : X.K = G.K
  nd : X.N.Nodup
  calm : tb.hot = true → X.calm = true
  room : tb.hot = true → Room (k + 1) X.A
  un : X.A.units + 200 < cLine
  hn : ∀ f x, tb.nm f = some x → tb.hot = true
  hb : ∀ b : Bi, biNm b ∈ tb.bn → tb.hot = true
  tk : Takes X W
  fns : ∀ f x, tb.nm f = some x → ∃ ad fd ps, X.mg x = some (.ref ad) ∧ PySem.W.keepIn X.K (.ref ad) = true ∧ Binds X.K fd ps [] ∧ ps.length = tb.ar f ∧ FnOk X.prog X.w X.K X.mg X.base (L2.CX X.prog X.w) k ad fd ps (liftSp G (tb.ar f) (R f))
  glb : ∀ p ∈ tb.cs, ∃ v u, X.mg p.1 = some u ∧ RelV v u ∧ ∀ F, RelD G F v p.2
  bnn : ∀ x ∈ tb.bn, X.mg x = none
  len : ∀ f x ds M q e, tb.nm f = some x → R f ds M q e → ds.length = tb.ar f
  mon : MonR R R
  k2 : 2 ≤ k
  xt : XTab X.K X.mg G.cl tb.xc
  mkr : ∀ c f x, (c, f) ∈ tb.xr → (c, x) ∈ tb.xc → XMk X.prog X.w X.K X.mg X.base G.cl c x f
  own : ∀ c x, c ∈ tb.xo → (c, x) ∈ tb.xc → XOwn X.K X.mg G.cl c x
  ob : GoodO G tb R k X.prog X.w X.K X.mg X.base
theorem liftSp_hide {G : Gx} {P : Hp} {n : Nat} {r : List D → Mem → QK → XQ → Prop} : liftSp (G.hide P) n r = liftSp G n r := by
  funext vs H Q E
  apply propext
  constructor
  · rintro ⟨hl, P', F, M, ds, q, e, rm, rs, cn, cx, h⟩
    exact ⟨hl, P', F, M, ds, q, e, rm, rs.unhide, cn, cx, h⟩
  · rintro ⟨hl, P', F, M, ds, q, e, rm, rs, cn, cx, h⟩
    exact ⟨hl, P', F, M, ds, q, e, rm, rs.hide P, cn, cx, h⟩
theorem Good.hide {G : Gx} {tb : Tb} {R : Nat → List D → Mem → QK → XQ → Prop} {k : Nat} {W : WX} {X : Cx} (g : Good G tb R k W X) (P : Hp) : Good (G.hide P) tb R k W X :=
  ⟨g.hK, g.nd, g.calm, g.room, g.un, g.hn, g.hb, g.tk, fun f x e => by
    obtain ⟨ad, fd, ps, h1, h2, h3, h4, h5⟩ := g.fns f x e
    exact ⟨ad, fd, ps, h1, h2, h3, h4, by rw [liftSp_hide]; exact h5⟩, fun p hp => by
    obtain ⟨v, u, h1, h2, h3⟩ := g.glb p hp
    exact ⟨v, u, h1, h2, fun F => (h3 F).hide P⟩, g.bnn, g.len, g.mon, g.k2, g.xt, g.mkr, g.own, ⟨fun f c m e => by
    obtain ⟨C, ad, fd, ps, h1, h2, h3, h4, h5⟩ := g.ob.mts f c m e
    exact ⟨C, ad, fd, ps, h1, h2, h3, h4, by rw [liftSp_hide]; exact h5⟩, g.ob.hot, g.ob.len, g.ob.cls, g.ob.mks, g.ob.xbs⟩⟩
theorem Good.blk {G : Gx} {tb : Tb} {R : Nat → List D → Mem → QK → XQ → Prop} {k : Nat} {W : WX} {X : Cx} (g : Good G tb R k W X) {s : Shared} {H : Hp} {scope : Scope} {ce : PySem.Env} {fp : List Addr} :
    Good G tb R k (fun _ _ _ _ => False) (X.blk s H scope ce fp) :=
  ⟨g.hK, g.nd, g.calm, g.room, g.un, g.hn, g.hb, takes0, g.fns, g.glb, g.bnn, g.len, g.mon, g.k2, g.xt, g.mkr, g.own, g.ob⟩

/-! ### side conditions -/
section
variable {X : Cx}
theorem star_ok {e : Expr} {es : List Expr} {env : PySem.Env} (h : noStar e = true) : starEach (e :: es) env = (false, eval e env) :: starEach es env := by
  cases e <;> first | rfl | cases h
theorem plainIx_ok {e : Expr} (h : noSlice e = true) : PlainIx e := by
  cases e <;> first | exact fun _ _ => rfl | cases h
theorem noset_ok {e : Expr} {op : CmpOp} (h : noSet e = true) : behindInMarks op e = false := by
  cases e <;> first | rfl | cases h
theorem fold_ok {e : Expr} {env : PySem.Env} (h : noSet e = true) (x : Value) : foldedSetIterable e env x = pure x := by
  cases e <;> first | rfl | cases h
theorem plainO_ok {e : Expr} {m : Str} {env : PySem.Env} (h : plainO e = true) : attributeBase e m env (eval e env) = eval e env := by
  cases e <;> try rfl
  case Call f es kw p =>
    cases f <;> try rfl
    case Name id p2 =>
      cases es <;> cases kw <;> try rfl
      have h : (!(id == "super")) = true := h
      unfold attributeBase
      have : (id != "super") = true := h
      simp [this]
theorem mem_lastMarks {o1 o2 : CmpOp} {b c : Expr} (h : noSet c = true) : lastMarks [o1, o2] [b, c] = false := noset_ok h
theorem mem_lastMarks3 {o1 o2 o3 : CmpOp} {b c d : Expr} (h : noSet d = true) : lastMarks [o1, o2, o3] [b, c, d] = false := noset_ok h
theorem plainT_ok {e : Expr} {env : PySem.Env} (h : plainT e = true) (whole : Sem Value) : isTrue e env whole = (do let v ← whole; standAt e.pos; holding [v] (truthy v)) := by
  cases e <;> try rfl
  case UnaryOp op a p => cases op <;> first | rfl | cases h
  all_goals cases h
end
end Wp

/-! WpIt: enumerate(tuple). -/
namespace Wp
open PySem PySem.Spec PyProof.Rows L2
/-- the tuple at a, each item in a new pair -/
def IteT (K : PySem.W.Frag) (a : Addr) : It :=
  ⟨fun i H => ∃ (xs : List V) (x : V), SqT K H a xs ∧ xs[i]? = some x, fun i H v H' => ∃ T x, v = .ref T ∧ H T = none ∧ H' = upd H T (.tup [.int (i : Nat), x]) ∧ ∀ xs, SqT K H a xs → xs[i]? = some x, fun i H => ∃ xs : List V, SqT K H a xs ∧ xs.length ≤ i⟩
theorem tup_ne {h : Heap} {a it : Addr} {i : Nat} {items : Array Value} (hit : h.IsTupleIter it a i) (p : h.IsTuple a items) : a ≠ it := by
  rintro rfl
  obtain ⟨o, ho, hc, _⟩ := hit
  obtain ⟨o2, ho2, hc2, _⟩ := p
  rw [ho] at ho2
  cases ho2
  rw [hc] at hc2
  injection hc2 with z
  exact absurd z (by decide)
theorem enum_ne {h : Heap} {a e it : Addr} {i : Int} {old : Value} {items : Array Value} (he : IsEnum h e it i old) (p : h.IsTuple a items) : e ≠ a := by
  rintro rfl
  obtain ⟨o2, ho2, hc2, _⟩ := p
  have he : h.get? e = some _ := he
  rw [he] at ho2
  cases ho2
  injection hc2 with z
  exact absurd z (by decide)
theorem turn_enumT {P : Program} {w : World} {K : PySem.W.Frag} {elts : List Expr} {kk : Nat} {tpos : Pos} (a e it : Addr) :
    Turn P w K (.Tuple elts kk tpos) (IteT K a) [e, it] e (fun i h => (∃ old, IsEnum h e it ((i : Nat) : Int) old) ∧ h.IsTupleIter it a i ∧ e ≠ it) where
  mem := by simp
  obj := fun i h st b hb => by
    obtain ⟨⟨old, he⟩, ⟨o, ho, hc, hd⟩, _⟩ := st
    have e' : b = e ∨ b = it := by simpa using hb
    rcases e' with z | z
    · rw [z]; exact ⟨_, he, fun v q => nomatch q⟩
    · rw [z]; exact ⟨o, ho, fun v q => by rw [hd] at q; cases q⟩
  keep := fun i h h' st k => let ⟨⟨old, he⟩, hi, hne⟩ := st; ⟨⟨old, k e (by simp) _ he⟩, hi.at fun o q => k it (by simp) o q, hne⟩
  item := by
    intro X hP hw hK hc i pins s σ H E I hf st hg
    subst hP hw hK
    obtain ⟨⟨old, he⟩, hit, hne⟩ := st
    obtain ⟨xs, x, hq, hx⟩ := hg
    obtain ⟨its, rv, p, hz⟩ := I.tuple hq
    obtain ⟨u, hu, ru⟩ := rv.get hx
    have hel : e < s.heap.objs.size := Heap.lt_size he
    have hil : it < s.heap.objs.size := by obtain ⟨_, q, _⟩ := hit; exact Heap.lt_size q
    have hai := tup_ne hit p
    have hea := enum_ne he p
    have D := Draws.tuple (prog := X.prog) (w := X.w) (A := X.A.in1) (show X.A.in1.handled = none from I.ok.hd hc) it a hai its.toArray
    have hlt : i < its.toArray.size := by
      have := (List.getElem?_eq_some_iff.mp hu).1
      simpa using this
    refine wpAny_pyNext_enum_itemD D he ⟨hit, p⟩ hlt hne (by simp [hne, hea]) fun x' h' tk hPx ho st' hT hsz hk => ?_
    have ex : x' = u := by
      have q1 : its.toArray[i]? = some x' := hPx
      have q2 : its.toArray[i]? = some u := by simpa using hu
      rw [q1] at q2
      cases q2; rfl
    subst ex
    have hit' := st'.1
    refine ⟨_, rfl, wpAny_letOwnedTupleGo_enum (s := { s with heap := h', toks := tk + 1 }) ho fun h'' he' sb => ?_⟩
    have hT2 : h''.get? s.heap.objs.size = some { cls := .type "tuple", data := .seq #[.int i tk, x'] } := (sb.2 _ (Nat.ne_of_gt hel)).trans hT
    have new : ObjOk X.prog X.w (upd H s.heap.objs.size (.tup [.int (i : Nat), x])) h'' s.heap.objs.size (.tup [.int (i : Nat), x]) :=
      ⟨by show 2 ≤ sizeLine; decide, [.int i tk, x'], .cons ⟨_, rfl⟩ (.cons ru .nil), ⟨_, hT2, rfl, _, rfl⟩⟩
    have I1 : Inv X pins σ (upd H s.heap.objs.size (.tup [.int (i : Nat), x])) { s with heap := h'', toks := tk + 1 } :=
      I.turnedNew (ch := [e, it]) (fun b ob hb q => (sb.2 b (fun z => hb (by simp [z]))).trans (hk b ob (fun z => hb (by simp [z])) (fun z => hb (by simp [z])) q)) hf (Nat.le_refl _) new
    refine ⟨.ref s.heap.objs.size, _, I1, rfl, ⟨_, x, rfl, I.hok.fresh (Nat.le_refl _), rfl, fun ys hy => by rw [I.tuple_inj hy hq]; exact hx⟩, ⟨⟨x', ?_⟩, hit'.at fun o q => (sb.2 it (Ne.symm hne)).trans q, hne⟩, fun b hb => ?_⟩
    · have e1 : ((i + 1 : Nat) : Int) = (i : Int) + 1 := by omega
      rw [e1]; exact he'
    · have hb' : b < s.heap.objs.size := by
        have e' : b = e ∨ b = it := by simpa using hb
        rcases e' with z | z
        · rw [z]; exact hel
        · rw [z]; exact hil
      rw [upd_ne (Nat.ne_of_lt hb')]
      exact (hf b hb).1
  done := by
    intro X hP hw hK hc i pins s σ H E I hf st hg
    subst hP hw hK
    obtain ⟨⟨old, he⟩, hit, hne⟩ := st
    obtain ⟨xs, hq, hx⟩ := hg
    obtain ⟨its, rv, p, hz⟩ := I.tuple hq
    obtain ⟨f0, f1, f2, f3, f4, f5⟩ := hf it (by simp)
    have hl := rv.length
    have hT : s.TypeIs (.ref e) "enumerate" := ⟨_, he, rfl⟩
    unfold pyNext
    refine wpAny_bind (wpAny_attempt (wpAny_callSpecial?_slot (name := Str.ofString "__next__") hT F.slot_enumerate_next
      (wpAny_call_entry F.slot_enumerate_next hT F.entry_enumerate_next ?_ (F.args_enumerate_next_1 _))))
    show wpAny _ _ (field (.ref e) 2 >>= _) _ _ _
    refine wpAny_bind (wpAny_field he rfl (x := .ref it) rfl ?_)
    refine wpAny_bind (wpAny_nextOf_tuple_end (show X.A.in1.in1.handled = none from I.ok.hd hc) hit p (by simp; omega) fun h' z eb hz' => ?_)
    obtain ⟨o, ho, hcl⟩ := hz'
    refine wpAny_bind (wpAny_isInstance (T := "StopIteration") (b := true) ⟨o, ho, hcl⟩ isSubtype_stop ?_)
    exact wpAny_pure ⟨rfl, I.turned (t' := s.toks) (fun b o hb q => eb b o hb q) f0 f1 f3 f4 f5⟩
  self := fun A i s Q E st h => let ⟨⟨_, he⟩, _⟩ := st; wpAny_pyIter_enum he h
open Sem (wp)
set_option maxHeartbeats 1000000 in
theorem meets_enumT (t : Addr) (items : Array Value) :
    Meets (Builtin.«enumerate.__new__» ⟨[.type "enumerate", .ref t], []⟩) (fun _ R s => s.heap.IsTuple t items ∧
      R (.ok (.ret (.ref (s.heap.push { cls := .type "tuple_iterator", data := .fields #[.ref t, .int 0 0] }).objs.size)))
        { s with heap := (s.heap.push { cls := .type "tuple_iterator", data := .fields #[.ref t, .int 0 0] }).push { cls := .type "enumerate", data := .fields #[.none, .bool false, .ref s.heap.objs.size, rawInt 0, .none, .none] } }) :=
  .of_wp fun prog w A R s h => by
    obtain ⟨hp, g, d, tk, os⟩ := s; obtain ⟨h1, h⟩ := h
    have hsub := sub_enumerate
    have q1 : ∀ {A' : Around} {E : Value → Shared → Prop} {Q : Value → Shared → Prop}, Q (.ref hp.objs.size) ⟨hp.push { cls := .type "tuple_iterator", data := .fields #[.ref t, .int 0 0] }, g, d, tk, os⟩ → PySem.wpAny (model prog w) A' (pyIter (.ref t)) Q E ⟨hp, g, d, tk, os⟩ :=
      fun q => wpAny_pyIter_tuple (s := ⟨hp, g, d, tk, os⟩) h1 q
    wp_walk using q1
    refine wpAny_stack_any fun st => wpAny_pure ?_
    split
    · rename_i c _ _ _ _ _
      cases (c == Value.type "enumerate")
      · wp_walk using q1
        exact ⟨_, rfl, h⟩
      · wp_walk using q1
        exact ⟨_, rfl, h⟩
    · wp_walk using q1
      exact ⟨_, rfl, h⟩
theorem call_enumT {prog : Program} {w : World} {A : Around} {E : Value → Shared → Prop} {s : Shared} {t : Addr} {items : Array Value} {Q : Value → Shared → Prop} (hL : s.heap.IsTuple t items)
    (h : ∀ h', IsEnum h' (s.heap.objs.size + 1) s.heap.objs.size 0 .none → h'.IsTupleIter s.heap.objs.size t 0 → h'.objs.size = s.heap.objs.size + 2 →
      (∀ b o, s.heap.get? b = some o → h'.get? b = some o) → Q (.ref (s.heap.objs.size + 1)) { s with heap := h' }) :
    wpAny (model prog w) A (call (.type "enumerate") [.ref t]) Q E s := by
  refine callType_new F.called_enumerate (by decide) (F.typeCall_enumerate_1 _) (F.newCall_enumerate_1 _) (fun obj => F.args_object_init_2 obj _) F.entry_enumerate_new
    (meets_enumT t items) ⟨hL, ?_⟩
  have hz : (s.heap.push { cls := .type "tuple_iterator", data := .fields #[.ref t, .int 0 0] }).objs.size = s.heap.objs.size + 1 := Heap.size_push ..
  show _ ∧ _
  rw [hz]
  have he : IsEnum ((s.heap.push { cls := .type "tuple_iterator", data := .fields #[.ref t, .int 0 0] }).push
      { cls := .type "enumerate", data := .fields #[.none, .bool false, .ref s.heap.objs.size, rawInt 0, .none, .none] }) (s.heap.objs.size + 1) s.heap.objs.size 0 .none := by
    have := Heap.get?_push_size (s.heap.push { cls := .type "tuple_iterator", data := .fields #[.ref t, .int 0 0] })
      (o := { cls := .type "enumerate", data := .fields #[.none, .bool false, .ref s.heap.objs.size, rawInt 0, .none, .none] }) rfl
    rw [hz] at this; exact this
  refine ⟨⟨_, he, rfl⟩, h _ he ⟨_, Heap.get?_push_of_some _ (Heap.get?_push_size _ rfl), rfl, rfl⟩ (by rw [Heap.size_push, hz]) fun b o x => Heap.get?_push_of_some _ (Heap.get?_push_of_some _ x)⟩
def iEnumA (K : PySem.W.Frag) (ta : TA) : TI := fun σ H R => ta σ H fun vs H1 => ∃ a xs, vs = [.ref a] ∧ ((SqL K H1 a xs ∧ R (Ite K a) H1) ∨ (SqT K H1 a xs ∧ R (IteT K a) H1))
theorem pi_enumA {X : Cx} {e : Expr} {ta : TA} {p pos tpos : Pos} {elts : List Expr} {kk : Nat} (hg : Gl X "enumerate") (hm : X.mg "enumerate" = none) (ha : PA X [e] ta) (hs : starEach [e] X.env = [(false, eval e X.env)]) :
    PI X (.Tuple elts kk tpos) (.Call (.Name "enumerate" p) [e] [] pos) (iEnumA X.K ta) := by
  refine ⟨fun pins s σ H R I h => ?_⟩
  refine Call_ (ld_blt I hg hm boot_enumerate (PyProof.Rows.callWith_type1 (thn (ha.run pos pins s σ H _ I h) fun us s1 ⟨vs, H1, I1, r1, q1⟩ => ?_) hs rfl))
  obtain ⟨a, xs, ex, q⟩ := q1
  subst ex
  cases r1 with
  | cons r rr =>
    cases rr
    cases r
    have fresh : ∀ b ∈ [s1.heap.objs.size + 1, s1.heap.objs.size], s1.heap.objs.size ≤ b := fun b hb => by
      have e' : b = s1.heap.objs.size + 1 ∨ b = s1.heap.objs.size := by simpa using hb
      rcases e' with z | z
      · rw [z]; exact Nat.le_add_right _ _
      · rw [z]; exact Nat.le_refl _
    rcases q with ⟨hq, q⟩ | ⟨hq, q⟩
    · obtain ⟨its, rv, p', hz⟩ := I1.list hq
      refine call_enumerate_list p'.isList fun h' he hit hsz hk => wpAny_pyIter_enum he ?_
      have I2 : Inv X pins σ H1 { s1 with heap := h' } := I1.kept (t' := s1.toks) hk
      exact ⟨s1.heap.objs.size + 1, [s1.heap.objs.size + 1, s1.heap.objs.size], _, _, H1, rfl, I2, turn_enum a (s1.heap.objs.size + 1) s1.heap.objs.size, ⟨⟨.none, he⟩, hit, Nat.succ_ne_self _⟩, fun b hb => I1.fpOk (fresh b hb) (I1.hok.fresh (fresh b hb)), q⟩
    · obtain ⟨its, rv, p', hz⟩ := I1.tuple hq
      refine call_enumT p' fun h' he hit hsz hk => wpAny_pyIter_enum he ?_
      have I2 : Inv X pins σ H1 { s1 with heap := h' } := I1.kept (t' := s1.toks) hk
      exact ⟨s1.heap.objs.size + 1, [s1.heap.objs.size + 1, s1.heap.objs.size], _, _, H1, rfl, I2, turn_enumT a (s1.heap.objs.size + 1) s1.heap.objs.size, ⟨⟨.none, he⟩, hit, Nat.succ_ne_self _⟩, fun b hb => I1.fpOk (fresh b hb) (I1.hok.fresh (fresh b hb)), q⟩
end Wp

/-! WpS6: that the tree is enough for the text: expressions. -/
namespace Wp
open PySem PySem.Spec PyProof.Rows L2

theorem vis_of {sc : Scope} {x : Str} (h : visB sc x = true) : Vis sc x := by
  unfold visB at h
  unfold Vis
  split at h
  · exact .inl (by assumption)
  · exact .inr (.inl (by assumption))
  · exact .inr (.inr (by assumption))
  · cases h
theorem ok_of {x : Str} (h : okB x = true) : (x == ("__debug__" : Str)) = false ∧ (x == ("__classdict__" : Str)) = false := by
  unfold okB at h
  rw [Bool.and_eq_true] at h
  exact ⟨by simpa using h.1, by simpa using h.2⟩
theorem gl_of {X : Cx} {sc : Scope} {x : Str} (hs : X.env.scope = sc) (h : glB sc x = true) : Gl X x ∧ (x == ("__debug__" : Str)) = false := by
  unfold glB at h
  rw [Bool.and_eq_true] at h
  refine ⟨?_, (ok_of h.2).1⟩
  show X.env.scope.names.lookup x = _
  rw [hs]
  exact of_decide_eq_true h.1
theorem bn_of {G : Gx} {tb : Tb} {R : Nat → List D → Mem → QK → XQ → Prop} {k : Nat} {W : WX} {X : Cx} {sc : Scope} {x : Str} (g : Good G tb R k W X) (hs : X.env.scope = sc) (h : bnB tb sc x = true) : Gl X x ∧ (x == ("__debug__" : Str)) = false ∧ X.mg x = none := by
  unfold bnB at h
  rw [Bool.and_eq_true] at h
  obtain ⟨h1, h2⟩ := gl_of hs h.1
  refine ⟨h1, h2, g.bnn x ?_⟩
  obtain ⟨y, hy, e⟩ := List.any_eq_true.mp h.2
  rw [← of_decide_eq_true e]
  exact hy

/-! ### values put together -/
section
variable {G : Gx} {W : WX} {X : Cx}
/-- a value wanted by trees is wanted -/
theorem cn_here {F H : Hp} {M : Mem} {q : QK} {Q : VK} {v : V} {d : D} (rm : RM G F M H) (cn : Cn G F q Q) (r : RelD G F v d) (h : q d M) : Q v H := cn F M H v d (Same.refl F) rm r h
theorem enter {w : Env → Mem → QK → XQ → Prop} {F H : Hp} {M : Mem} {env : Env} {σ : L2.St} {q : QK} {e : XQ} {Q : VK} (rm : RM G F M H) (er : EnvR G F env σ) (cx : CnX G F e fun c d H => W c d σ H) (h : w env M q e)
    (k : ∀ F' M' H' v d, Same F F' → RM G F' M' H' → EnvR G F' env σ → CnX G F' e (fun c d H => W c d σ H) → RelD G F' v d → q d M' → Q v H') : liftE G W w σ H Q :=
  ⟨F, M, env, q, e, rm, er, fun F' M' H' v d s rm' r hq => k F' M' H' v d s rm' (er.mono s) (cx.mono s) r hq, cx, h⟩
theorem enterA {w : Env → Mem → AK → XQ → Prop} {F H : Hp} {M : Mem} {env : Env} {σ : L2.St} {q : AK} {e : XQ} {Q : List V → Hp → Prop} (rm : RM G F M H) (er : EnvR G F env σ) (cx : CnX G F e fun c d H => W c d σ H) (h : w env M q e)
    (k : ∀ F' M' H' v d, Same F F' → RM G F' M' H' → EnvR G F' env σ → CnX G F' e (fun c d H => W c d σ H) → RelDs G F' v d → q d M' → Q v H') : liftA G W w σ H Q :=
  ⟨F, M, env, q, e, rm, er, fun F' M' H' v d s rm' r hq => k F' M' H' v d s rm' (er.mono s) (cx.mono s) r hq, cx, h⟩
theorem enterP {w : Env → Mem → (Option Int → Mem → Prop) → XQ → Prop} {F H : Hp} {M : Mem} {env : Env} {σ : L2.St} {q : Option Int → Mem → Prop} {e : XQ} {Q : Option Int → Hp → Prop} (rm : RM G F M H) (er : EnvR G F env σ) (cx : CnX G F e fun c d H => W c d σ H) (h : w env M q e)
    (k : ∀ F' M' H' o, Same F F' → RM G F' M' H' → EnvR G F' env σ → CnX G F' e (fun c d H => W c d σ H) → q o M' → Q o H') : liftP G W w σ H Q :=
  ⟨F, M, env, q, e, rm, er, fun F' M' H' o s rm' hq => k F' M' H' o s rm' (er.mono s) (cx.mono s) hq, cx, h⟩
end

/-! ### truth is one -/
theorem tru_det {M : Mem} {x : D} {P : BK} (h : truW x M P) : ∃ c, P c M ∧ ∀ Q : BK, (Q c M → truW x M Q) ∧ (truW x M Q → Q c M) := by
  have seqs : (match asS M x with
    | some ds => P (!ds.isEmpty) M
    | none => False) → ∃ c, P c M ∧ ∀ Q : BK, (Q c M → (match asS M x with
    | some ds => Q (!ds.isEmpty) M
    | none => False)) ∧ ((match asS M x with
    | some ds => Q (!ds.isEmpty) M
    | none => False) → Q c M) := fun h => by
    cases e : asS M x with
    | none => rw [e] at h; exact h.elim
    | some ds => rw [e] at h; exact ⟨_, h, fun Q => ⟨fun q => q, fun q => q⟩⟩
  cases x with
  | non => exact ⟨_, h, fun Q => ⟨fun q => q, fun q => q⟩⟩
  | bl b => exact ⟨_, h, fun Q => ⟨fun q => q, fun q => q⟩⟩
  | int i => exact ⟨_, h, fun Q => ⟨fun q => q, fun q => q⟩⟩
  | emp => exact ⟨_, h, fun Q => ⟨fun q => q, fun q => q⟩⟩
  | str y => exact ⟨_, h.2, fun Q => ⟨fun q => ⟨h.1, q⟩, fun q => q.2⟩⟩
  | _ => exact seqs h

/-! ### a walk's things -/
section
variable {G : Gx} {F H : Hp} {M : Mem}
/-- where a list that is read stands -/
theorem still_of {v : V} {d : D} {ds : List D} (rm : RM G F M H) (r : RelD G F v d) (e : asL M d = some ds) : ∃ a vs, v = .ref a ∧ SqL G.K H a vs ∧ RelDs G F vs ds ∧ stillAt d ds M ∧ ∀ P F' M H, Same F F' → RM (G.hide P) F' M H → stillAt d ds M → ∃ ws, SqL G.K H a ws ∧ RelDs G F' ws ds := by
  cases r with
  | lst h1 h2 =>
    cases e
    exact ⟨_, _, rfl, .of (rm.fz _ _ h1), h2, trivial, fun P F' M H s rm' _ => ⟨_, .of (rm'.fz _ _ (s _ _ h1)), h2.mono s⟩⟩
  | scr h1 =>
    cases e
    exact ⟨_, _, rfl, rm.fz.seq h1, RelDs.ints _, trivial, fun P F' M H s rm' _ => ⟨_, rm'.fz.seq (s.seq h1), RelDs.ints _⟩⟩
  | @loc a =>
    dsimp only [asL] at e
    cases q : M a with
    | none => rw [q] at e; cases e
    | some ob =>
      rw [q] at e
      cases ob with
      | lst ds' =>
        cases e
        obtain ⟨_, vs, h1, h2⟩ := rm.mt a _ q
        refine ⟨a, vs, rfl, .of h1, h2, q, fun P F' M H s rm' st => ?_⟩
        obtain ⟨_, ws, g1, g2⟩ := rm'.mt a _ (show M a = some (.lst ds) from st)
        exact ⟨ws, .of g1, g2.unhide⟩
      | dic _ => cases e
      | ins _ _ => cases e
      | obj _ _ => cases e
  | _ => cases e
theorem real_L {a : Addr} {d : D} {ds : List D} (hst : ∀ P F' M H, Same F F' → RM (G.hide P) F' M H → stillAt d ds M → ∃ ws, SqL G.K H a ws ∧ RelDs G F' ws ds) : Real G F (Itl G.K a) ⟨ds, stillAt d ds⟩ := by
  intro P i F' M H s rm st
  obtain ⟨ws, hs, rs⟩ := hst P F' M H s rm st
  refine ⟨fun e he => ?_, fun hi => ⟨ws, hs, by rw [rs.len]; exact Nat.le_of_eq hi.symm⟩⟩
  obtain ⟨v, hv, r⟩ := rs.get he
  refine ⟨⟨ws, v, hs, hv⟩, fun x H' y => ?_⟩
  obtain ⟨e1, y⟩ := y
  subst e1
  have e2 := y ws hs
  rw [hv] at e2
  cases e2
  exact ⟨F', Same.refl _, rm, r⟩
theorem real_rev {a : Addr} {d : D} {ds : List D} (hst : ∀ P F' M H, Same F F' → RM (G.hide P) F' M H → stillAt d ds M → ∃ ws, SqL G.K H a ws ∧ RelDs G F' ws ds) : Real G F (Itv G.K a ds.length) ⟨ds.reverse, stillAt d ds⟩ := by
  intro P i F' M H s rm st
  obtain ⟨ws, hs, rs⟩ := hst P F' M H s rm st
  refine ⟨fun e he => ?_, fun hi => ?_⟩
  · have he : ds.reverse[i]? = some e := he
    have hi : i < ds.length := by
      have := (List.getElem?_eq_some_iff.mp he).1
      rw [List.length_reverse] at this
      exact this
    rw [List.getElem?_reverse hi] at he
    obtain ⟨v, hv, r⟩ := rs.get he
    refine ⟨⟨hi, ws, v, hs, hv⟩, fun x H' y => ?_⟩
    obtain ⟨e1, y⟩ := y
    subst e1
    have e2 := y ws hs
    rw [hv] at e2
    cases e2
    exact ⟨F', Same.refl _, rm, r⟩
  · have hi : i = ds.reverse.length := hi
    rw [List.length_reverse] at hi
    exact Nat.le_of_eq hi.symm
theorem real_T {a : Addr} {ds : List D} {vs : List V} (h : SqT G.K F a vs) (rs : RelDs G F vs ds) : Real G F (Itt G.K a) ⟨ds, fun _ => True⟩ := by
  intro P i F' M H s rm _
  have hs := same_t rm.fz (same_t s h)
  refine ⟨fun e he => ?_, fun hi => ⟨vs, hs, by rw [rs.len]; exact Nat.le_of_eq hi.symm⟩⟩
  obtain ⟨v, hv, r⟩ := (rs.mono s).get he
  refine ⟨⟨vs, v, hs, hv⟩, fun x H' y => ?_⟩
  obtain ⟨e1, y⟩ := y
  subst e1
  have e2 := y vs hs
  rw [hv] at e2
  cases e2
  exact ⟨F', Same.refl _, rm, r⟩
theorem real_S {z : Str} : Real G F (Its z) ⟨signs z, fun _ => True⟩ := by
  intro P i F' M H s rm _
  have hlen : (signs z).length = z.cps.size := by unfold signs; rw [List.length_map, Array.length_toList]
  refine ⟨fun d he => ?_, fun hi => by show z.cps.size ≤ i; rw [hi, ← hlen]; exact Nat.le_refl _⟩
  unfold signs at he
  rw [List.getElem?_map] at he
  cases q : z.cps.toList[i]? with
  | none => rw [q] at he; cases he
  | some c =>
    rw [q] at he
    cases he
    have hi : i < z.cps.size := by
      have := (List.getElem?_eq_some_iff.mp q).1
      rwa [Array.length_toList] at this
    refine ⟨hi, fun x H' y => ?_⟩
    obtain ⟨e1, c', hc, e2⟩ := y
    subst e1 e2
    rw [Array.getElem?_toList] at q
    rw [q] at hc
    cases hc
    exact ⟨F', Same.refl _, rm, .str _⟩
theorem real_rng {lo : Int} {n : Nat} : Real G F (Itr lo n) ⟨rng lo n, fun _ => True⟩ := by
  intro P i F' M H s rm _
  have hlen : (rng lo n).length = n := by unfold rng; rw [List.length_map, List.length_range]
  refine ⟨fun d he => ?_, fun hi => by show n ≤ i; rw [hi, hlen]; exact Nat.le_refl _⟩
  have hi : i < n := by
    have := (List.getElem?_eq_some_iff.mp he).1
    rwa [hlen] at this
  refine ⟨hi, fun x H' y => ?_⟩
  obtain ⟨e1, e2⟩ := y
  subst e1 e2
  unfold rng at he
  rw [List.getElem?_map, List.getElem?_range hi] at he
  cases he
  exact ⟨F', Same.refl _, rm, .int _⟩
theorem real_rngC {lo c : Int} {n : Nat} : Real G F (Itc lo c n) ⟨rngC lo c n, fun _ => True⟩ := by
  intro P i F' M H s rm _
  have hlen : (rngC lo c n).length = n := by unfold rngC; rw [List.length_map, List.length_range]
  refine ⟨fun d he => ?_, fun hi => by show n ≤ i; rw [hi, hlen]; exact Nat.le_refl _⟩
  have hi : i < n := by
    have := (List.getElem?_eq_some_iff.mp he).1
    rwa [hlen] at this
  refine ⟨hi, fun x H' y => ?_⟩
  obtain ⟨e1, e2⟩ := y
  subst e1 e2
  unfold rngC at he
  rw [List.getElem?_map, List.getElem?_range hi] at he
  cases he
  exact ⟨F', Same.refl _, rm, .int _⟩
theorem enum_get : ∀ {n i : Nat} {ds : List D} {d : D}, (enumD n ds)[i]? = some d → ∃ e, ds[i]? = some e ∧ d = .tup [.int ((n + i : Nat)), e]
  | _, _, [], _, h => by simp [enumD] at h
  | n, 0, e :: ds, d, h => by
    simp [enumD] at h
    exact ⟨e, rfl, by rw [← h]; simp⟩
  | n, i + 1, e :: ds, d, h => by
    have h : (enumD (n + 1) ds)[i]? = some d := by simpa [enumD] using h
    obtain ⟨e', h1, h2⟩ := enum_get h
    exact ⟨e', h1, by rw [h2]; congr 4; omega⟩
theorem enum_len : ∀ (n : Nat) (ds : List D), (enumD n ds).length = ds.length
  | _, [] => rfl
  | n, _ :: ds => congrArg Nat.succ (enum_len (n + 1) ds)
theorem real_enum {a : Addr} {d : D} {ds : List D} (hst : ∀ P F' M H, Same F F' → RM (G.hide P) F' M H → stillAt d ds M → ∃ ws, SqL G.K H a ws ∧ RelDs G F' ws ds) : Real G F (Ite G.K a) ⟨enumD 0 ds, stillAt d ds⟩ := by
  intro P i F' M H s rm st
  obtain ⟨ws, hs, rs⟩ := hst P F' M H s rm st
  refine ⟨fun e he => ?_, fun hi => ⟨ws, hs, by rw [rs.len]; rw [show (Wk.mk (enumD 0 ds) (stillAt d ds)).items = enumD 0 ds from rfl, enum_len] at hi; exact Nat.le_of_eq hi.symm⟩⟩
  obtain ⟨e', h1, h2⟩ := enum_get he
  subst h2
  obtain ⟨v, hv, r⟩ := rs.get h1
  refine ⟨⟨ws, v, hs, hv⟩, fun x H' y => ?_⟩
  obtain ⟨T, x', rfl, hT, rfl, hx⟩ := y
  have e2 := hx ws hs
  rw [hv] at e2
  cases e2
  have s2 := same_upd (o := .tup [.int (i : Nat), v]) (rm.freeF hT)
  refine ⟨upd F' T (.tup [.int (i : Nat), v]), s2, rm.frz hT, .tup (.of upd_same) (.cons ?_ (.cons (r.mono s2) .nil))⟩
  rw [Nat.zero_add]
  exact .int _
theorem real_enumT {a : Addr} {vs : List V} {ds : List D} (h : SqT G.K F a vs) (rs : RelDs G F vs ds) : Real G F (IteT G.K a) ⟨enumD 0 ds, fun _ => True⟩ := by
  intro P i F' M H s rm _
  have hs := same_t rm.fz (same_t s h)
  refine ⟨fun e he => ?_, fun hi => ⟨vs, hs, by rw [rs.len]; rw [show (Wk.mk (enumD 0 ds) (fun _ => True)).items = enumD 0 ds from rfl, enum_len] at hi; exact Nat.le_of_eq hi.symm⟩⟩
  obtain ⟨e', h1, h2⟩ := enum_get he
  subst h2
  obtain ⟨v, hv, r⟩ := (rs.mono s).get h1
  refine ⟨⟨vs, v, hs, hv⟩, fun x H' y => ?_⟩
  obtain ⟨T, x', rfl, hT, rfl, hx⟩ := y
  have e2 := hx vs hs
  rw [hv] at e2
  cases e2
  have s2 := same_upd (o := .tup [.int (i : Nat), v]) (rm.freeF hT)
  refine ⟨upd F' T (.tup [.int (i : Nat), v]), s2, rm.frz hT, .tup (.of upd_same) (.cons ?_ (.cons (r.mono s2) .nil))⟩
  rw [Nat.zero_add]
  exact .int _
theorem enum_inv {x : D} {M : Mem} {Q : Wk → Mem → Prop} (h : enumW x M Q) : (∃ ds, x = .tup ds ∧ Q ⟨enumD 0 ds, fun _ => True⟩ M) ∨ (∃ ds, asL M x = some ds ∧ Q ⟨enumD 0 ds, stillAt x ds⟩ M) := by
  unfold enumW at h
  split at h
  · exact .inl ⟨_, rfl, h⟩
  · split at h
    · exact .inr ⟨_, by assumption, h⟩
    · exact h.elim
theorem zip_get : ∀ {i : Nat} {ds es : List D} {d : D}, (zipD ds es)[i]? = some d → ∃ x y, ds[i]? = some x ∧ es[i]? = some y ∧ d = .tup [x, y]
  | _, [], _, _, h => by simp [zipD] at h
  | _, _ :: _, [], _, h => by simp [zipD] at h
  | 0, x :: ds, y :: es, d, h => by
    simp [zipD] at h
    exact ⟨x, y, rfl, rfl, h.symm⟩
  | i + 1, x :: ds, y :: es, d, h => by
    have h : (zipD ds es)[i]? = some d := by simpa [zipD] using h
    obtain ⟨x', y', h1, h2, h3⟩ := zip_get h
    exact ⟨x', y', h1, h2, h3⟩
theorem zip_len : ∀ (ds es : List D), (zipD ds es).length = min ds.length es.length
  | [], _ => by simp [zipD]
  | _ :: _, [] => by simp [zipD]
  | _ :: ds, _ :: es => by simp [zipD, zip_len ds es, Nat.succ_min_succ]
theorem real_zip {a b : Addr} {d e : D} {ds es : List D} (hst : ∀ P F' M H, Same F F' → RM (G.hide P) F' M H → stillAt d ds M → ∃ ws, SqL G.K H a ws ∧ RelDs G F' ws ds)
    (hst2 : ∀ P F' M H, Same F F' → RM (G.hide P) F' M H → stillAt e es M → ∃ ws, SqL G.K H b ws ∧ RelDs G F' ws es) : Real G F (Itz G.K a b) ⟨zipD ds es, fun M => stillAt d ds M ∧ stillAt e es M⟩ := by
  intro P i F' M H s rm ⟨st1, st2⟩
  obtain ⟨ws, hs, rs⟩ := hst P F' M H s rm st1
  obtain ⟨us, hs2, rs2⟩ := hst2 P F' M H s rm st2
  refine ⟨fun t ht => ?_, fun hi => ⟨ws, us, hs, hs2, ?_⟩⟩
  · obtain ⟨x, y, h1, h2, h3⟩ := zip_get ht
    subst h3
    obtain ⟨v, hv, r⟩ := rs.get h1
    obtain ⟨u, hu, r2⟩ := rs2.get h2
    refine ⟨⟨ws, us, v, u, hs, hs2, hv, hu⟩, fun x H' y => ?_⟩
    obtain ⟨T, x', y', rfl, hT, rfl, hx, hy⟩ := y
    have e2 := hx ws hs
    have e3 := hy us hs2
    rw [hv] at e2
    rw [hu] at e3
    cases e2
    cases e3
    have s2 := same_upd (o := .tup [v, u]) (rm.freeF hT)
    exact ⟨upd F' T (.tup [v, u]), s2, rm.frz hT, .tup (.of upd_same) (.cons (r.mono s2) (.cons (r2.mono s2) .nil))⟩
  · have hi : i = min ds.length es.length := by rw [← zip_len]; exact hi
    rw [rs.len, rs2.len]
    omega
theorem real_zipT {a b : Addr} {vs ws : List V} {ds es : List D} (h : SqT G.K F a vs) (rs : RelDs G F vs ds) (h2 : SqT G.K F b ws) (rs2 : RelDs G F ws es) : Real G F (RZ.ItzT G.K a b) ⟨zipD ds es, fun _ => True⟩ := by
  intro P i F' M H s rm _
  have hs := same_t rm.fz (same_t s h)
  have hs2 := same_t rm.fz (same_t s h2)
  refine ⟨fun t ht => ?_, fun hi => ⟨vs, ws, hs, hs2, ?_⟩⟩
  · obtain ⟨x, y, h1, h2, h3⟩ := zip_get ht
    subst h3
    obtain ⟨v, hv, r⟩ := (rs.mono s).get h1
    obtain ⟨u, hu, r2⟩ := (rs2.mono s).get h2
    refine ⟨⟨vs, ws, v, u, hs, hs2, hv, hu⟩, fun x H' y => ?_⟩
    obtain ⟨T, x', y', rfl, hT, rfl, hx, hy⟩ := y
    have e2 := hx vs hs
    have e3 := hy ws hs2
    rw [hv] at e2
    rw [hu] at e3
    cases e2
    cases e3
    have s2 := same_upd (o := .tup [v, u]) (rm.freeF hT)
    exact ⟨upd F' T (.tup [v, u]), s2, rm.frz hT, .tup (.of upd_same) (.cons (r.mono s2) (.cons (r2.mono s2) .nil))⟩
  · have hi : i = min ds.length es.length := by rw [← zip_len]; exact hi
    rw [rs.len, rs2.len]
    omega
theorem zip_inv {x y : D} {M : Mem} {Q : Wk → Mem → Prop} (h : zipW x y M Q) : (∃ ds es, x = .tup ds ∧ y = .tup es ∧ Q ⟨zipD ds es, fun _ => True⟩ M) ∨ (∃ ds es, asL M x = some ds ∧ asL M y = some es ∧ Q ⟨zipD ds es, fun M => stillAt x ds M ∧ stillAt y es M⟩ M) := by
  unfold zipW at h
  split at h
  · exact .inl ⟨_, _, rfl, rfl, h⟩
  · split at h
    · exact .inr ⟨_, _, by assumption, by assumption, h⟩
    · exact h.elim
end
end Wp

/-! WpS7: targets, comprehensions. -/
namespace Wp
open PySem PySem.Spec PyProof.Rows L2

/-! ### targets -/
def OffT (t : Tg) (σ σ' : L2.St) : Prop := σ'.length = σ.length ∧ ∀ j, j ∉ slots t → σ'[j]? = σ[j]?
def liftG (G : Gx) (t : Tg) : TG := fun v σ H Q => ∃ F M env d Qe, RM G F M H ∧ EnvR G F env σ ∧ RelD G F v d ∧ tgW t d env Qe ∧ ∀ env' σ', EnvR G F env' σ' → OffT t σ σ' → Qe env' → Q σ' H
def liftGs (G : Gx) (t : Tg) : TGs := fun vs σ H Q => ∃ F M env ds Qe, RM G F M H ∧ EnvR G F env σ ∧ RelDs G F vs ds ∧ tgsW t ds env Qe ∧ ∀ env' σ', EnvR G F env' σ' → OffT t σ σ' → Qe env' → Q σ' H
theorem PG.imp {X : Cx} {e : Expr} {t t' : TG} (h : PG X e t) (hi : ∀ v σ H Q, t' v σ H Q → t v σ H Q) : PG X e t' := ⟨fun pins s σ H v u Q I r q => h.run pins s σ H v u Q I r (hi _ _ _ _ q)⟩
theorem PGs.imp {X : Cx} {e : List Expr} {t t' : TGs} (h : PGs X e t) (hi : ∀ v σ H Q, t' v σ H Q → t v σ H Q) : PGs X e t' := ⟨fun pins s σ H v u Q I r q => h.run pins s σ H v u Q I r (hi _ _ _ _ q)⟩
theorem asg_ok {e : Expr} {es : List Expr} {env : PySem.Env} (h : noStar e = true) : assignEach (e :: es) env = (false, assign e env) :: assignEach es env := by
  cases e <;> first | rfl | cases h
theorem asg_len {N : List Str} {sc : Scope} {top : Bool} {env : PySem.Env} : ∀ {t : Tg} {es : List Expr}, chkGs N sc top t es = true → (assignEach es env).length = es.length ∧ (assignEach es env).findIdx? (·.1) = none
  | .no, [], _ => ⟨rfl, rfl⟩
  | .no, _ :: _, h => by cases h
  | .nm _, es, h => by cases h
  | .co t ts, [], h => by cases h
  | .co t ts, e :: es, h => by
    have h : (chkG N sc top t e && noStar e && chkGs N sc top ts es) = true := h
    rw [Bool.and_eq_true, Bool.and_eq_true] at h
    obtain ⟨⟨_, h2⟩, h3⟩ := h
    obtain ⟨i1, i2⟩ := asg_len (env := env) h3
    rw [asg_ok h2]
    refine ⟨congrArg Nat.succ i1, ?_⟩
    rw [List.findIdx?_cons]
    simp [i2]
theorem loc_of {X : Cx} {sc : Scope} {top : Bool} {x : Str} (hs : X.env.scope = sc) (hf : top = true → X.fn = fun _ => true) (h : locB sc top x = true) : Loc X.env.scope x ∧ (X.fn x = true ∨ X.env.scope.names.lookup x = some .local) := by
  unfold locB at h
  split at h
  · rename_i e
    refine ⟨?_, .inr ?_⟩
    · rw [hs]; exact .inl e
    · rw [hs]; exact e
  · rename_i e
    refine ⟨?_, .inl ?_⟩
    · rw [hs]; exact .inr e
    · rw [hf h]
  · cases h
section
variable {G : Gx} {X : Cx} {N : List Str} {sc : Scope} {top : Bool}
theorem off_refl {t : Tg} {σ : L2.St} : OffT t σ σ := ⟨rfl, fun _ _ => rfl⟩
theorem off_trans {t ts : Tg} {σ σ1 σ2 : L2.St} (a : OffT t σ σ1) (b : OffT ts σ1 σ2) : OffT (.co t ts) σ σ2 := by
  refine ⟨b.1.trans a.1, fun j hj => ?_⟩
  have hj : j ∉ slots t ++ slots ts := hj
  rw [List.mem_append, not_or] at hj
  exact (b.2 j hj.2).trans (a.2 j hj.1)
mutual
theorem tg_ex : ∀ (t : Tg) {d : D} {env : Env} {Q : Env → Prop}, tgW t d env Q → ∃ e, Q e
  | .nm i, _, _, _, h => ⟨_, h⟩
  | .no, d, env, Q, h => by
    unfold tgW at h
    split at h
    · exact ⟨_, h⟩
    · exact ⟨_, h⟩
    · exact h.elim
  | .co t ts, d, env, Q, h => by
    unfold tgW at h
    split at h
    · obtain ⟨e, h2⟩ := tg_ex t h
      exact tgs_ex ts h2
    · obtain ⟨e, h2⟩ := tg_ex t h
      exact tgs_ex ts h2
    · exact h.elim
theorem tgs_ex : ∀ (t : Tg) {ds : List D} {env : Env} {Q : Env → Prop}, tgsW t ds env Q → ∃ e, Q e
  | .nm _, ds, _, _, h => by cases ds <;> exact (show False from h).elim
  | .no, ds, env, Q, h => by
    cases ds with
    | nil => exact ⟨_, h⟩
    | cons a b => exact (show False from h).elim
  | .co t ts, ds, env, Q, h => by
    cases ds with
    | nil => exact (show False from h).elim
    | cons d ds =>
      obtain ⟨e, h2⟩ := tg_ex t (show tgW t d env (fun e => tgsW ts ds e Q) from h)
      exact tgs_ex ts h2
end
/-- a tuple is as long as its target -/
theorem tgs_len : ∀ {t : Tg} {es : List Expr} {ds : List D} {env : Env} {Q : Env → Prop}, chkGs N sc top t es = true → tgsW t ds env Q → ds.length = es.length
  | .nm _, _, _, _, _, h, _ => by cases h
  | .no, es, ds, _, _, h, q => by
    cases es with
    | nil => cases ds with
      | nil => rfl
      | cons a b => exact (show False from q).elim
    | cons a b => cases h
  | .co t ts, es, ds, env, Q, h, q => by
    cases es with
    | nil => cases h
    | cons e es =>
      cases ds with
      | nil => exact (show False from q).elim
      | cons d ds =>
        have h : (chkG N sc top t e && noStar e && chkGs N sc top ts es) = true := h
        rw [Bool.and_eq_true, Bool.and_eq_true] at h
        obtain ⟨e', q2⟩ := tg_ex t (show tgW t d env (fun e => tgsW ts ds e Q) from q)
        exact congrArg Nat.succ (tgs_len h.2 q2)
theorem PG.or {X : Cx} {e : Expr} {t t' : TG} (h : PG X e t) (h' : PG X e t') : PG X e (fun v σ H Q => t v σ H Q ∨ t' v σ H Q) :=
  ⟨fun pins s σ H v u Q I r q => q.elim (h.run pins s σ H v u Q I r) (h'.run pins s σ H v u Q I r)⟩
mutual
theorem snd_G (hK : X.K = G.K) (hN : X.N = N) (nd : X.N.Nodup) (hs : X.env.scope = sc) (hc : X.calm = true) (hf : top = true → X.fn = fun _ => true) : ∀ (t : Tg) {e : Expr}, chkG N sc top t e = true → PG X e (liftG G t)
  | .nm i, e, h => by
    unfold chkG at h
    split at h
    · rename_i x p
      rw [Bool.and_eq_true] at h
      obtain ⟨h1, h2⟩ := loc_of hs hf h.2
      refine PG.imp (pg_name nd (by rw [hN]; exact of_decide_eq_true h.1) h1 h2) fun v σ H Q ⟨F, M, env, d, Qe, rm, er, r, q, k⟩ => ?_
      refine k _ _ (er.set r) ⟨List.length_set, fun j hj => ?_⟩ q
      have : i ≠ j := fun z => hj (by subst z; exact List.mem_singleton.mpr rfl)
      exact List.getElem?_set_ne this
    · cases h
  | .no, e, h => by
    unfold chkG at h
    split at h
    · refine PG.imp (PG.or (pg_tup hc pgs_nil rfl rfl) (pg_lst hc pgs_nil rfl rfl)) fun v σ H Q ⟨F, M, env, d, Qe, rm, er, r, q, k⟩ => ?_
      unfold tgW at q
      split at q
      · obtain ⟨p, vs, rfl, g1, g2⟩ := rd_T rm r
        cases g2
        exact .inl ⟨p, [], rfl, by rw [hK]; exact g1, rfl, rfl, k _ _ er off_refl q⟩
      · obtain ⟨p, vs, rfl, g1, g2⟩ := rd_L rm r rfl
        cases g2
        exact .inr ⟨p, [], rfl, by rw [hK]; exact g1, rfl, rfl, k _ _ er off_refl q⟩
      · exact q.elim
    · cases h
  | .co t ts, e, h => by
    unfold chkG at h
    split at h
    · rename_i e es k0 p
      have hh : chkGs N sc top (.co t ts) (e :: es) = true := h
      rw [Bool.and_eq_true, Bool.and_eq_true] at h
      obtain ⟨⟨h1, h2⟩, h3⟩ := h
      obtain ⟨l1, l2⟩ := asg_len (env := X.env) hh
      have gs := pgs_cons (snd_G hK hN nd hs hc hf t h1) (snd_Gs hK hN nd hs hc hf ts h3) (by rw [asg_ok h2]; rfl)
      refine PG.imp (PG.or (pg_tup hc gs l1 l2) (pg_lst hc gs l1 l2)) fun v σ H Q ⟨F, M, env, d, Qe, rm, er, r, q, k⟩ => ?_
      unfold tgW at q
      split at q
      · rename_i d ds
        obtain ⟨p, vs, rfl, g1, g2⟩ := rd_T rm r
        obtain ⟨_, qq⟩ := tg_ex t q
        have hl : vs.length = (e :: es).length := by
          rw [g2.len]
          exact congrArg Nat.succ (tgs_len h3 qq)
        cases g2 with
        | cons a b =>
          refine .inl ⟨p, _, rfl, by rw [hK]; exact g1, hl, _, _, rfl, F, M, env, _, _, rm, er, a, q, fun env' σ' er' o1 q' => ?_⟩
          exact ⟨F, M, env', _, Qe, rm, er', b, q', fun env2 σ2 er2 o2 q2 => k _ _ er2 (off_trans o1 o2) q2⟩
      · rename_i d ds
        obtain ⟨p, vs, rfl, g1, g2⟩ := rd_L rm r rfl
        obtain ⟨_, qq⟩ := tg_ex t q
        have hl : vs.length = (e :: es).length := by
          rw [g2.len]
          exact congrArg Nat.succ (tgs_len h3 qq)
        cases g2 with
        | cons a b =>
          refine .inr ⟨p, _, rfl, by rw [hK]; exact g1, hl, _, _, rfl, F, M, env, _, _, rm, er, a, q, fun env' σ' er' o1 q' => ?_⟩
          exact ⟨F, M, env', _, Qe, rm, er', b, q', fun env2 σ2 er2 o2 q2 => k _ _ er2 (off_trans o1 o2) q2⟩
      · exact q.elim
    · cases h
theorem snd_Gs (hK : X.K = G.K) (hN : X.N = N) (nd : X.N.Nodup) (hs : X.env.scope = sc) (hc : X.calm = true) (hf : top = true → X.fn = fun _ => true) : ∀ (t : Tg) {es : List Expr}, chkGs N sc top t es = true → PGs X es (liftGs G t)
  | .no, es, h => by
    cases es with
    | nil =>
      refine PGs.imp pgs_nil fun v σ H Q ⟨F, M, env, d, Qe, rm, er, r, q, k⟩ => ?_
      cases r with
      | nil => exact ⟨rfl, k _ _ er off_refl q⟩
      | cons a b => exact (show False from q).elim
    | cons a b => cases h
  | .nm _, es, h => by cases h
  | .co t ts, es, h => by
    cases es with
    | nil => cases h
    | cons e es =>
      have h : (chkG N sc top t e && noStar e && chkGs N sc top ts es) = true := h
      rw [Bool.and_eq_true, Bool.and_eq_true] at h
      obtain ⟨⟨h1, h2⟩, h3⟩ := h
      refine PGs.imp (pgs_cons (snd_G hK hN nd hs hc hf t h1) (snd_Gs hK hN nd hs hc hf ts h3) (by rw [asg_ok h2]; rfl)) fun v σ H Q ⟨F, M, env, d, Qe, rm, er, r, q, k⟩ => ?_
      cases r with
      | nil => exact (show False from q).elim
      | cons a b =>
        refine ⟨_, _, rfl, F, M, env, _, _, rm, er, a, q, fun env' σ' er' o1 q' => ?_⟩
        exact ⟨F, M, env', _, Qe, rm, er', b, q', fun env2 σ2 er2 o2 q2 => k _ _ er2 (off_trans o1 o2) q2⟩
end
end
end Wp

/-! WpS8: that the tree is enough for the text: comprehensions, expressions. -/
namespace Wp
open PySem PySem.Spec PyProof.Rows L2
theorem PE.ex {X : Cx} {e : Expr} {ι : Type} {t : ι → TE} (h : ∀ i, PE X e (t i)) : PE X e (fun σ H Q => ∃ i, t i σ H Q) := ⟨fun pins s σ H Q I ⟨i, q⟩ => (h i).run pins s σ H Q I q⟩
theorem PG.ex {X : Cx} {e : Expr} {ι : Type} {t : ι → TG} (h : ∀ i, PG X e (t i)) : PG X e (fun v σ H Q => ∃ i, t i v σ H Q) := ⟨fun pins s σ H v u Q I r ⟨i, q⟩ => (h i).run pins s σ H v u Q I r q⟩
theorem PTs.ex {X : Cx} {e : List Expr} {ι : Type} {t : ι → TT} (h : ∀ i, PTs X e (t i)) : PTs X e (fun σ H Q => ∃ i, t i σ H Q) := ⟨fun pins s σ H Q I ⟨i, q⟩ => (h i).run pins s σ H Q I q⟩
theorem PTs.imp {X : Cx} {e : List Expr} {t t' : TT} (h : PTs X e t) (hi : ∀ σ H Q, t' σ H Q → t σ H Q) : PTs X e t' := ⟨fun pins s σ H Q I q => h.run pins s σ H Q I (hi _ _ _ q)⟩
theorem PW.imp {X : Cx} {e : Expr} {t t' : TT} (h : L2.PW X e t) (hi : ∀ σ H Q, t' σ H Q → t σ H Q) : L2.PW X e t' := ⟨fun wh pins s σ H Q I q => h.run wh pins s σ H Q I (hi _ _ _ q)⟩

/-! ### a hidden thing -/
theorem ins_hide {G : Gx} {P F H H' : Hp} {a : Addr} {c : Nat} {fs : List (Str × D)} (e : H' a = H a) (h : RelOb G F H a (.ins c fs)) : RelOb (G.hide P) F H' a (.ins c fs) := by
  obtain ⟨C, dd, h1, h2, h3⟩ := h
  refine ⟨C, dd, h1, e.trans h2, ?_⟩
  rcases h3 with h3 | ⟨d, fvs, h4, h5, h6⟩
  · exact .inl h3
  · exact .inr ⟨d, fvs, h4, h5, Paired.mapP h6 fun p q z => ⟨z.1, z.2.hide P⟩⟩
theorem obj_hide {G : Gx} {P F H H' : Hp} {a : Addr} {c : Nat} {fs : List (Str × D)} (e : H' a = H a) (h : RelOb G F H a (.obj c fs)) : RelOb (G.hide P) F H' a (.obj c fs) := by
  obtain ⟨C, dx, fvs, h1, h2, h3⟩ := h
  exact ⟨C, dx, fvs, h1, e.trans h2, Paired.mapP h3 fun p q z => ⟨z.1, z.2.hide P⟩⟩
theorem obj_unhide {G : Gx} {P F H : Hp} {a : Addr} {c : Nat} {fs : List (Str × D)} (h : RelOb (G.hide P) F H a (.obj c fs)) : RelOb G F H a (.obj c fs) := obj_hide (G := G.hide P) (P := G.P) rfl h
theorem ins_unhide {G : Gx} {P F H : Hp} {a : Addr} {c : Nat} {fs : List (Str × D)} (h : RelOb (G.hide P) F H a (.ins c fs)) : RelOb G F H a (.ins c fs) := ins_hide (G := G.hide P) (P := G.P) rfl h
section
variable {G : Gx} {F H : Hp} {M : Mem} {P : Hp} {dd : Addr} {o o' : HO}
theorem RM.hid (r : RM G F M H) (hD : H dd = none) : RM (G.hide (upd G.P dd o)) F M (upd H dd o) := by
  have nF := r.freeF hD
  have nM := r.freeM hD
  refine ⟨fun b u e => by rw [upd_ne (ne_of_none e nF)]; exact r.fz b u e, fun a ob e => ?_, fun a u e => ?_⟩
  · obtain ⟨h1, h2⟩ := r.mt a ob e
    have ne : a ≠ dd := fun z => by rw [z, nM] at e; cases e
    refine ⟨h1, ?_⟩
    cases ob with
    | lst ds => obtain ⟨vs, h3, h4⟩ := h2; exact ⟨vs, (upd_ne ne).trans h3, h4.hide _⟩
    | dic ds => obtain ⟨vs, h3, h4⟩ := h2; exact ⟨vs, (upd_ne ne).trans h3, h4.hide _⟩
    | ins _ _ => exact ins_hide (upd_ne ne) h2
    | obj _ _ => exact obj_hide (upd_ne ne) h2
  · have e : upd G.P dd o a = some u := e
    by_cases ha : a = dd
    · subst ha
      rw [upd_same] at e
      cases e
      exact ⟨upd_same, nF, nM⟩
    · rw [upd_ne ha] at e
      rw [upd_ne ha]
      exact r.hd a u e
/-- .. changed -/
theorem RM.rehid (r : RM (G.hide (upd P dd o)) F M H) : RM (G.hide (upd P dd o')) F M (upd H dd o') := by
  obtain ⟨h0, nF, nM⟩ := r.hd dd o upd_same
  refine ⟨fun b u e => by rw [upd_ne (ne_of_none e nF)]; exact r.fz b u e, fun a ob e => ?_, fun a u e => ?_⟩
  · obtain ⟨h1, h2⟩ := r.mt a ob e
    have ne : a ≠ dd := fun z => by rw [z, nM] at e; cases e
    refine ⟨h1, ?_⟩
    cases ob with
    | lst ds => obtain ⟨vs, h3, h4⟩ := h2; exact ⟨vs, (upd_ne ne).trans h3, (h4.unhide).hide _⟩
    | dic ds => obtain ⟨vs, h3, h4⟩ := h2; exact ⟨vs, (upd_ne ne).trans h3, (h4.unhide).hide _⟩
    | ins _ _ => exact ins_hide (upd_ne ne) (ins_unhide h2)
    | obj _ _ => exact obj_hide (upd_ne ne) (obj_unhide h2)
  · have e : upd P dd o' a = some u := e
    by_cases ha : a = dd
    · subst ha
      rw [upd_same] at e
      cases e
      exact ⟨upd_same, nF, nM⟩
    · rw [upd_ne ha] at e
      rw [upd_ne ha]
      exact r.hd a u (by show upd P dd o a = some u; rw [upd_ne ha]; exact e)
/-- .. told: it stays from here on, or may change -/
theorem RM.told {vs : List V} (hP : G.P dd = none) (r : RM (G.hide (upd G.P dd (.lst vs))) F M H) : F dd = none ∧ RM G (upd F dd (.lst vs)) M H := by
  obtain ⟨h0, nF, nM⟩ := r.hd dd _ upd_same
  have s := same_upd (o := .lst vs) nF
  refine ⟨nF, fun b u e => ?_, fun a ob e => ?_, fun a u e => ?_⟩
  · by_cases hb : b = dd
    · subst hb; rw [upd_same] at e; cases e; exact h0
    · rw [upd_ne hb] at e; exact r.fz b u e
  · obtain ⟨h1, h2⟩ := r.mt a ob e
    have ne : a ≠ dd := fun z => by rw [z, nM] at e; cases e
    refine ⟨by rw [upd_ne ne]; exact h1, ?_⟩
    cases ob with
    | lst ds => obtain ⟨vs, h3, h4⟩ := h2; exact ⟨vs, h3, h4.unhide.mono s⟩
    | dic ds => obtain ⟨vs, h3, h4⟩ := h2; exact ⟨vs, h3, h4.unhide.mono s⟩
    | ins _ _ => exact (ins_unhide h2).at s rfl
    | obj _ _ => exact (obj_unhide h2).at s rfl
  · have ne : a ≠ dd := fun z => by rw [z, hP] at e; cases e
    obtain ⟨g1, g2, g3⟩ := r.hd a u (by show upd G.P dd _ a = some u; rw [upd_ne ne]; exact e)
    exact ⟨g1, by rw [upd_ne ne]; exact g2, g3⟩
theorem RM.toldM {vs : List V} {ds : List D} (hP : G.P dd = none) (r : RM (G.hide (upd G.P dd (.lst vs))) F M H) (rs : RelDs G F vs ds) : M dd = none ∧ RM G F (M.upd dd (.lst ds)) H := by
  obtain ⟨h0, nF, nM⟩ := r.hd dd _ upd_same
  refine ⟨nM, r.fz, fun a ob e => ?_, fun a u e => ?_⟩
  · unfold Mem.upd at e
    by_cases ha : a = dd
    · subst ha; rw [if_pos rfl] at e; cases e; exact ⟨nF, vs, h0, rs⟩
    · rw [if_neg ha] at e
      obtain ⟨h1, h2⟩ := r.mt a ob e
      refine ⟨h1, ?_⟩
      cases ob with
      | lst ds => obtain ⟨vs, h3, h4⟩ := h2; exact ⟨vs, h3, h4.unhide⟩
      | dic ds => obtain ⟨vs, h3, h4⟩ := h2; exact ⟨vs, h3, h4.unhide⟩
      | ins _ _ => exact ins_unhide h2
      | obj _ _ => exact obj_unhide h2
  · have ne : a ≠ dd := fun z => by rw [z, hP] at e; cases e
    obtain ⟨g1, g2, g3⟩ := r.hd a u (by show upd G.P dd _ a = some u; rw [upd_ne ne]; exact e)
    refine ⟨g1, g2, ?_⟩
    unfold Mem.upd
    rw [if_neg ne]
    exact g3
end

/-! ### the block's own names -/
theorem wipe_get (σ : L2.St) (j : Nat) : ∀ vs : List Nat, (L2.wipe σ vs)[j]? = if j ∈ vs ∧ j < σ.length then some none else σ[j]?
  | [] => by simp [L2.wipe]
  | v :: vs => by
    show ((L2.wipe σ vs).set v none)[j]? = _
    have ih := wipe_get σ j vs
    have hl := L2.wipe_length σ vs
    by_cases hv : v = j
    · subst hv
      by_cases hlt : v < σ.length
      · rw [List.getElem?_set_self (by rw [hl]; exact hlt), if_pos ⟨List.mem_cons_self, hlt⟩]
      · rw [List.getElem?_eq_none (by rw [List.length_set, hl]; omega), if_neg (fun z => hlt z.2), List.getElem?_eq_none (by omega)]
    · rw [List.getElem?_set_ne hv, ih]
      have : (j ∈ v :: vs) ↔ j ∈ vs := by
        rw [List.mem_cons]
        exact ⟨fun z => z.resolve_left (fun e => hv e.symm), .inr⟩
      simp only [this]
theorem wipe_off {σ σ2 : L2.St} {vs : List Nat} {t : Tg} (h : OffT t (L2.wipe σ vs) σ2) (hs : ∀ i ∈ slots t, i ∈ vs) : L2.wipe σ2 vs = L2.wipe σ vs := by
  have hl : σ2.length = σ.length := h.1.trans (L2.wipe_length σ vs)
  apply List.ext_getElem?
  intro j
  rw [wipe_get, wipe_get, hl]
  by_cases hj : j ∈ vs ∧ j < σ.length
  · rw [if_pos hj, if_pos hj]
  · rw [if_neg hj, if_neg hj]
    by_cases hm : j ∈ slots t
    · have hv := hs j hm
      have hge : ¬ j < σ.length := fun z => hj ⟨hv, z⟩
      rw [List.getElem?_eq_none (by omega), List.getElem?_eq_none (by omega)]
    · rw [h.2 j hm, wipe_get, if_neg hj]

section
variable {G : Gx} {W : WX} {X : Cx}
/-- THE COMPREHENSION: from the walk, the target, the test, the thing made -/
theorem comp_read {fr : Bool} {own : List Nat} {tg : Tg} {wi : Env → Mem → (Wk → Mem → Prop) → XQ → Prop} {wc : Env → Mem → BK → XQ → Prop} {we : Env → Mem → QK → XQ → Prop} (hsl : ∀ i ∈ slots tg, i ∈ own) {σ : L2.St} {H : Hp} {Q : VK}
    (h : liftE G W (fun env M Q E => wi env M (fun w M1 =>
      compW (fun d e M Q => tgW tg d e fun e' => wc e' M (fun b M1 => match b with
        | true => we e' M1 (fun y M2 => Q (some y) M2) fun _ _ => False
        | false => Q none M1) fun _ _ => False) w.still (wipeE env own) w.items [] M1 fun ds M2 => newL fr ds M2 Q) E) σ H Q) :
    tLc (liftW G W wi) (fun v σ H Q => ∃ P : Hp, liftG (G.hide P) tg v σ H Q) (fun σ H Q => ∃ P : Hp, liftT (G.hide P) (fun _ _ _ _ => False) wc σ H Q) (fun σ H Q => ∃ P : Hp, liftE (G.hide P) (fun _ _ _ _ => False) we σ H Q) own σ H Q := by
  obtain ⟨F, M, env, q, e, rm, er, cn, cx, h⟩ := h
  refine ⟨F, M, env, _, e, rm, er, fun F1 M1 H1 wk J s1 rm1 real hq => ?_, cx, h⟩
  intro Dn hDn
  have hPn : G.P Dn = none := by
    cases z : G.P Dn with
    | none => rfl
    | some u =>
      have := (rm1.hd Dn u z).1
      rw [hDn] at this; cases this
  have er1 := (er.mono s1).wipe own
  refine ⟨fun i m H' => m = wk.items.length - i ∧ i ≤ wk.items.length ∧ ∃ F2 M2 acc accV, Same F1 F2 ∧ RM (G.hide (upd G.P Dn (.lst accV))) F2 M2 H' ∧ RelDs G F2 accV acc ∧
    compW (fun d e M Q => tgW tg d e fun e' => wc e' M (fun b M1 => match b with
        | true => we e' M1 (fun y M2 => Q (some y) M2) fun _ _ => False
        | false => Q none M1) fun _ _ => False) wk.still (wipeE env own) (wk.items.drop i) acc M2 (fun ds M2 => newL fr ds M2 q),
    ⟨wk.items.length, rfl, Nat.zero_le _, F1, M1, [], [], Same.refl _, rm1.hid hDn, .nil, hq⟩, ?_⟩
  rintro i m H' ⟨rfl, hi, F2, M2, acc, accV, s2, rm2, rs, cw⟩
  by_cases hlt : i < wk.items.length
  · -- one turn
    rw [List.drop_eq_getElem_cons hlt] at cw
    obtain ⟨st, cw⟩ := cw
    obtain ⟨rl, _⟩ := real (upd G.P Dn (.lst accV)) i F2 M2 H' s2 rm2 st
    obtain ⟨go, yl⟩ := rl wk.items[i] (List.getElem?_eq_getElem hlt)
    refine .inr ⟨go, fun H'' => ∃ F2 M2 acc accV, Same F1 F2 ∧ RM (G.hide (upd G.P Dn (.lst accV))) F2 M2 H'' ∧ RelDs G F2 accV acc ∧
      compW (fun d e M Q => tgW tg d e fun e' => wc e' M (fun b M1 => match b with
        | true => we e' M1 (fun y M2 => Q (some y) M2) fun _ _ => False
        | false => Q none M1) fun _ _ => False) wk.still (wipeE env own) (wk.items.drop (i + 1)) acc M2 (fun ds M2 => newL fr ds M2 q), fun H'' x => ⟨_, by omega, rfl, hlt, x⟩, fun x H3 y => ?_⟩
    obtain ⟨F3, s3, rm3, r3⟩ := yl x H3 y
    have er3 : EnvR (G.hide (upd G.P Dn (.lst accV))) F3 (wipeE env own) (L2.wipe σ own) := ⟨(er1.mono (s2.trans s3)).len, fun i d e => by
      obtain ⟨v, h1, h2⟩ := (er1.mono (s2.trans s3)).at_ i d e
      exact ⟨v, h1, h2.hide _⟩⟩
    refine ⟨upd G.P Dn (.lst accV), F3, M2, _, _, _, rm3, er3, r3.hide _, cw, fun env' σ' er' off cw => ?_⟩
    refine ⟨wipe_off off hsl, upd G.P Dn (.lst accV), F3, M2, env', _, _, rm3, er', fun F4 M4 H4 b s4 rm4 cw => ?_, fun _ _ _ _ _ _ _ _ _ z => z, cw⟩
    cases b with
    | false =>
      rw [if_neg Bool.false_ne_true]
      exact ⟨F4, M4, acc, accV, s2.trans (s3.trans s4), rm4, rs.mono (s3.trans s4), cw⟩
    | true =>
      rw [if_pos rfl]
      refine ⟨upd G.P Dn (.lst accV), F4, M4, env', _, _, rm4, er'.mono s4, fun F5 M5 H5 v d s5 rm5 r5 cw => ?_, fun _ _ _ _ _ _ _ _ _ z => z, cw⟩
      obtain ⟨hz, cw⟩ := cw
      have ss := s3.trans (s4.trans s5)
      refine ⟨accV, (rm5.hd Dn _ upd_same).1, by rw [rs.len]; exact hz, F5, M5, acc ++ [d], accV ++ [v], s2.trans ss, rm5.rehid, (rs.mono ss).app (.cons r5.unhide .nil), cw⟩
  · -- the end
    have e1 : i = wk.items.length := by omega
    subst e1
    rw [List.drop_length] at cw
    obtain ⟨st, cw⟩ := cw
    refine .inl ⟨(real (upd G.P Dn (.lst accV)) _ F2 M2 H' s2 rm2 st).2 rfl, ?_⟩
    obtain ⟨hz, cw⟩ := cw
    cases fr with
    | true =>
      obtain ⟨nF, rm6⟩ := RM.told hPn rm2
      have s6 := same_upd (o := .lst accV) nF
      exact cn _ M2 H' _ _ (s1.trans (s2.trans s6)) rm6 (.lst upd_same (rs.mono s6)) cw
    | false =>
      obtain ⟨nM, rm6⟩ := RM.toldM hPn rm2 rs
      exact cn F2 _ H' _ _ (s1.trans s2) rm6 .loc (cw Dn nM)
end
end Wp

/-! WpS8d: dicts. -/
namespace Wp
open PySem PySem.Spec PyProof.Rows L2
def exLen : Ex → Nat
  | .cons _ es => exLen es + 1
  | _ => 0
section
variable (G : Gx) (W : WX) (R : Nat → List D → Mem → QK → XQ → Prop)
def tCst (k : Sum Int Str) : TE := fun _ H Q => Q (kV k) H
def trsOf : List (Sum Int Str) → Ex → List (TE × TE)
  | k :: ks, .cons e es => (tCst k, liftE G W (wpE R e)) :: trsOf ks es
  | _, _ => []
end
theorem pairs_read {G : Gx} {W : WX} {R : Nat → List D → Mem → QK → XQ → Prop} {env : Env} {σ : L2.St} {e : XQ} (es : Ex) : ∀ {ks : List (Sum Int Str)} {F H : Hp} {M : Mem} {q : AK} {Q : List (V × V) → Hp → Prop}, RM G F M H → EnvR G F env σ → (CnX G F e fun c d H => W c d σ H) → wpA R es env M q e → exLen es = ks.length →
    (∀ F' M' H' vs ds, Same F F' → RM G F' M' H' → RelDs G F' vs ds → q ds M' → Q ((ks.map kV).zip vs) H') → tPairs (trsOf G W R ks es) σ H Q := by
  induction es with
  | nil =>
    intro ks F H M q Q rm er cx h hl k
    have : ks = [] := List.eq_nil_of_length_eq_zero hl.symm
    subst this
    exact k F M H [] [] (Same.refl F) rm .nil h
  | cons x xs _ ih =>
    intro ks F H M q Q rm er cx h hl k
    match ks, hl with
    | k0 :: ks, hl =>
      have hl : exLen xs + 1 = ks.length + 1 := hl
      show liftE G W (wpE R x) σ H fun y H2 => tPairs (trsOf G W R ks xs) σ H2 fun ps H3 => Q ((kV k0, y) :: ps) H3
      exact enter rm er cx h fun F1 M1 H1 v1 d1 s1 rm1 er1 cx1 r1 h => ih (ks := ks) rm1 er1 cx1 h (by omega) fun F2 M2 H2 vs ds s2 rm2 rs h => k F2 M2 H2 (v1 :: vs) (d1 :: ds) (s1.trans s2) rm2 (.cons (r1.mono s2) rs) h
  | _ => exact fun rm er cx h hl k => (show False from h).elim
theorem zip_kV : ∀ (ks : List (Sum Int Str)) (vs : List V), (ks.map kV).zip vs = (ks.zip vs).map fun kv => (kV kv.1, kv.2)
  | [], vs => rfl
  | k :: ks, [] => rfl
  | k :: ks, v :: vs => congrArg ((kV k, v) :: ·) (zip_kV ks vs)
theorem chkK_len : ∀ {ks : List (Sum Int Str)} {keys : List (Option Expr)}, chkK ks keys = true → keys.length = ks.length
  | [], [], _ => rfl
  | k :: ks, e :: es, h => by
    unfold chkK at h
    rw [Bool.and_eq_true] at h
    rw [List.length_cons, List.length_cons, chkK_len h.2]
  | [], _ :: _, h => by cases h
  | _ :: _, [], h => by cases h
theorem keyB_some {k : Sum Int Str} {e : Option Expr} (h : keyB k e = true) : ∃ e', e = some e' := by
  cases e with
  | none => cases k <;> cases h
  | some e => exact ⟨e, rfl⟩
theorem chkK_some : ∀ {ks : List (Sum Int Str)} {keys : List (Option Expr)}, chkK ks keys = true → keys.all (·.isSome) = true
  | [], [], _ => rfl
  | k :: ks, e :: es, h => by
    unfold chkK at h
    rw [Bool.and_eq_true] at h
    obtain ⟨e', rfl⟩ := keyB_some h.1
    rw [List.all_cons, chkK_some h.2]; rfl
  | [], _ :: _, h => by cases h
  | _ :: _, [], h => by cases h
theorem key_pe {X : Cx} {k : Sum Int Str} {e : Expr} (h : keyB k (some e) = true) : PE X e (tCst k) := by
  unfold keyB at h
  split at h
  · split at h
    · rename_i hq
      cases hq
      have e1 := of_decide_eq_true h
      subst e1
      exact PE.imp pe_int fun σ H Q h => h
    · cases h
  · split at h
    · rename_i hq
      cases hq
      have e1 := of_decide_eq_true h
      subst e1
      exact PE.imp pe_str fun σ H Q h => h
    · cases h
theorem dget_inv {x y : D} {M : Mem} {q : QK} (h : dgetW x y M q) : ∃ a kvs k v, x = .loc a ∧ M a = some (.dic kvs) ∧ keyD y = some k ∧ lookD kvs k = some v ∧ q v M := by
  unfold dgetW at h
  split at h
  · split at h
    · split at h
      · exact ⟨_, _, _, _, rfl, by assumption, by assumption, by assumption, h⟩
      · exact h.elim
    · exact h.elim
  · exact h.elim
theorem dput_inv {x y v : D} {M : Mem} {q : Mem → Prop} (h : dputW x y v M q) : ∃ a kvs k, x = .loc a ∧ M a = some (.dic kvs) ∧ keyD y = some k ∧ kvs.length < sizeLine ∧ q (M.upd a (.dic (putD kvs k v))) := by
  unfold dputW at h
  split at h
  · split at h
    · exact ⟨_, _, _, rfl, by assumption, by assumption, h.1, h.2⟩
    · exact h.elim
  · exact h.elim
theorem key_rel {G : Gx} {F : Hp} {v : V} {d : D} {k : Sum Int Str} (r : RelD G F v d) (e : keyD d = some k) : v = kV k := by
  cases r <;> first | (cases e; done) | (cases e; rfl)
theorem nosl_ok {i : Expr} (h : noSlice i = true) : NoSl i := by
  cases i <;> first | exact fun _ _ => rfl | cases h
theorem chkA_len {tb : Tb} {N : List Str} : ∀ {ex : Ex} {sc : Scope} {es : List Expr}, chkA tb N ex sc es = true → exLen ex = es.length := by
  intro ex
  induction ex with
  | nil =>
    intro sc es h
    unfold chkA at h
    split at h
    · rfl
    · cases h
  | cons x xs _ ih =>
    intro sc es h
    unfold chkA at h
    split at h
    · rw [Bool.and_eq_true] at h
      rw [List.length_cons, ← ih h.2]
      rfl
    · cases h
  | _ => intro sc es h; cases h
end Wp

/-! WpX3: t[::-1], t a tuple. -/
namespace Wp
open PySem PySem.Spec PyProof.Rows L2
theorem adjust_rev (n : Nat) : Builtin.Slice.sliceAdjust none none (-1) (n : Int) = ((n : Int) - 1, -1) := by
  unfold Builtin.Slice.sliceAdjust
  simp only [show ((-1 : Int) < 0) from by decide, if_true]
theorem places_rev (n : Nat) : Builtin.Slice.slicePlaces ((n : Int) - 1) (-1) (-1) = n := by
  unfold Builtin.Slice.slicePlaces
  simp only [show ¬ ((-1 : Int) > 0) from by decide, if_false]
  split <;> simp <;> omega
theorem pick_rev (xs : Array Value) : ((List.range xs.size).filterMap fun (m : Nat) => xs[((xs.size : Int) - 1 + (m : Int) * (-1)).toNat]?).toArray = xs.toList.reverse.toArray := by
  have e : (List.range xs.size).filterMap (fun (m : Nat) => xs[((xs.size : Int) - 1 + (m : Int) * (-1)).toNat]?) = xs.toList.reverse := by
    have h : ∀ m, m < xs.size → xs[((xs.size : Int) - 1 + (m : Int) * (-1)).toNat]? = some (xs.toList.reverse[m]?.getD .none) := fun m hm => by
      have : ((xs.size : Int) - 1 + (m : Int) * (-1)).toNat = xs.size - 1 - m := by omega
      have hl : m < xs.toList.length := by rw [Array.length_toList]; exact hm
      rw [this, List.getElem?_reverse hl, Array.length_toList, Array.getElem?_toList, Array.getElem?_eq_getElem (by omega)]
      rfl
    refine List.ext_getElem? fun j => ?_
    have f : (List.range xs.size).filterMap (fun (m : Nat) => xs[((xs.size : Int) - 1 + (m : Int) * (-1)).toNat]?) = (List.range xs.size).map fun m => xs.toList.reverse[m]?.getD .none := by
      have go : ∀ l : List Nat, (∀ m ∈ l, m < xs.size) → l.filterMap (fun (m : Nat) => xs[((xs.size : Int) - 1 + (m : Int) * (-1)).toNat]?) = l.map fun m => xs.toList.reverse[m]?.getD .none := fun l => by
        induction l with
        | nil => exact fun _ => rfl
        | cons a l ih =>
          intro hl
          rw [List.filterMap_cons, h a (hl a (List.mem_cons_self ..)), List.map_cons, ih fun m hm => hl m (List.mem_cons_of_mem _ hm)]
      exact go _ fun m hm => List.mem_range.mp hm
    rw [f, List.getElem?_map]
    by_cases hj : j < xs.size
    · rw [List.getElem?_range hj]
      show some (xs.toList.reverse[j]?.getD .none) = _
      rw [List.getElem?_eq_getElem (by rw [List.length_reverse, Array.length_toList]; exact hj)]
      rfl
    · rw [List.getElem?_eq_none (by rw [List.length_range]; omega), List.getElem?_eq_none (by rw [List.length_reverse, Array.length_toList]; omega)]
      rfl
  rw [e]
section
variable {prog : Program} {w : World} {A : Around} {E : Value → Shared → Prop} {s : Shared}
theorem applied_rev {sl : Addr} {vl vu vs : Value} {n : Nat} {Q : Int × Int × Nat → Shared → Prop} (hs : s.heap.IsSliceOf sl vl vu vs) (pl : IsPart vl none) (pu : IsPart vu none) (ps : IsPart vs (some (-1)))
    (h : Q ((n : Int) - 1, -1, n) s) : wpAny (model prog w) A (Builtin.Slice.sliceApplied (.ref sl) (pure (n : Int))) Q E s := by
  obtain ⟨os, hos, hcs, hds⟩ := id hs
  unfold Builtin.Slice.sliceApplied Builtin.Slice.sliceFields
  refine wpAny_bind (wpAny_bind (wpAny_field hos hds (x := vl) rfl (wpAny_bind (wpAny_field hos hds (x := vu) rfl (wpAny_bind (wpAny_field hos hds (x := vs) rfl (wpAny_pure ?_)))))))
  refine wpAny_bind (HT.slicePart_ ps ?_)
  show wpAny _ _ (if ((-1 : Int) == 0) = true then _ else _) _ _ s
  rw [if_neg (by decide)]
  refine wpAny_bind (HT.slicePart_ pl (wpAny_bind (HT.slicePart_ pu (wpAny_bind (wpAny_pure ?_)))))
  show wpAny _ _ (match Builtin.Slice.sliceAdjust none none (-1) (n : Int) with | (lo, hi) => pure (lo, (-1 : Int), Builtin.Slice.slicePlaces lo hi (-1))) _ _ s
  rw [adjust_rev n]
  show wpAny _ _ (pure ((n : Int) - 1, (-1 : Int), Builtin.Slice.slicePlaces ((n : Int) - 1) (-1) (-1))) _ _ s
  rw [places_rev]
  exact wpAny_pure h
theorem getItem_tuple_rev {t sl : Addr} {items : Array Value} {vl vu vs : Value} {Q : Value → Shared → Prop} (ht : IsTup s.heap t items) (hs : s.heap.IsSliceOf sl vl vu vs) (pl : IsPart vl none) (pu : IsPart vu none) (ps : IsPart vs (some (-1)))
    (h : Q (.ref s.heap.objs.size) { s with heap := s.heap.push { cls := .type "tuple", data := .seq items.toList.reverse.toArray } })
    (hsz : items.size ≤ sizeLine) : wpAny (model prog w) A (getItem (.ref t) (.ref sl)) Q E s := by
  have htake : sizeOk (.seq items.toList.reverse.toArray) := by
    show items.toList.reverse.toArray.size ≤ sizeLine
    rw [List.size_toArray, List.length_reverse, Array.length_toList]
    exact hsz
  obtain ⟨os, hos, hcs, hds⟩ := id hs
  have hTs : s.TypeIs (.ref sl) "slice" := ⟨os, hos, hcs⟩
  unfold getItem
  try with_reducible refine wpAny_holding ?_
  first | refine wpAny_bind (wpAny_pure ?_) | skip
  refine wpAny_bind (wpAny_sequenceKey ht.typeIs (by decide) ?_)
  refine wpAny_bind (wpAny_callSpecial?_slot (name := Str.ofString "__getitem__") ht.typeIs PyProof.Rows.slot_tuple_getitem
    (wpAny_call_entry PyProof.Rows.slot_tuple_getitem ht.typeIs entry_tuple_getitem ?_ (args_tuple_getitem _ _)))
  show wpAny _ _ (Builtin.Tuple.tupleItemsOf (.ref t) >>= _) _ _ s
  refine wpAny_bind (tupleItemsOf_ ht ?_)
  refine wpAny_bind (wpAny_typeOf hTs ?_)
  rw [if_pos (by decide)]
  refine wpAny_bind (applied_rev hs pl pu ps ?_)
  have hno : ¬ ((((items.size : Int) - 1) == 0 && (-1 : Int) == 1 && items.size == items.size) = true) := by
    rw [show ((-1 : Int) == 1) = false from rfl, Bool.and_false, Bool.false_and]
    exact Bool.false_ne_true
  show wpAny _ _ (if (((items.size : Int) - 1) == 0 && (-1 : Int) == 1 && items.size == items.size) = true then _ else _) _ _ s
  rw [if_neg hno, pick_rev]
  first
    | exact wpAny_bind (m := Builtin.Tuple.tupleExact _) (wpAny_newObj_type (wpAny_pure ⟨_, rfl, wpAny_pure h⟩) htake)
    | exact wpAny_bind (m := Builtin.Tuple.tupleExact _) (wpAny_newObj_type (wpAny_bind (wpAny_pure (wpAny_pure ⟨_, rfl, wpAny_pure h⟩))) htake)
    | exact wpAny_bind (wpAny_bind (m := Builtin.Tuple.tupleExact _) (wpAny_newObj_type (wpAny_pure (wpAny_pure ⟨_, rfl, wpAny_pure h⟩)) htake))
    | exact wpAny_bind (wpAny_bind (m := Builtin.Tuple.tupleExact _) (wpAny_newObj_type (wpAny_pure ⟨_, rfl, wpAny_pure h⟩) htake))
end
section
variable {X : Cx}
/-- x[::-1] of a list or a tuple -/
def tRevA (K : PySem.W.Frag) (te : TE) : TE := fun σ H Q => te σ H fun x H1 => (∃ a xs, x = .ref a ∧ SqL K H1 a xs ∧ ∀ p, H1 p = none → Q (.ref p) (upd H1 p (.lst xs.reverse))) ∨ (∃ a xs, x = .ref a ∧ SqT K H1 a xs ∧ ∀ p, H1 p = none → Q (.ref p) (upd H1 p (.tup xs.reverse)))
theorem pe_revA {e : Expr} {te : TE} {k : Nat} {p1 p2 p3 pos : Pos} (he : PE X e te) : PE X (.Subscript e (.Slice none none (some (.UnaryOp .USub (.Constant (.int 1) k p1) p2)) p3) pos) (tRevA X.K te) := by
  refine ⟨fun pins s σ H Q I h => ?_⟩
  refine Subscript_ (thn (he.run pins s σ H _ I h) fun v s1 ⟨x, H1, I1, r1, q1⟩ => ?_)
  have hst : PO X (some (.UnaryOp .USub (.Constant (.int 1) k p1) p2)) (tPart (tUn (rU fun i => .int (-i)) (tC (.int 1)))) := po_some (pe_un un_neg pe_int)
  refine wpAny_Slice (thn (po_none.run pins s1 σ H1 (fun o H2 => o = none ∧ H2 = H1) I1 ⟨rfl, rfl⟩) fun vl s2 ⟨l, H2, I2, pl, el, e2⟩ => ?_)
  subst el e2
  refine thn (po_none.run pins s2 σ H2 (fun o H3 => o = none ∧ H3 = H2) I2 ⟨rfl, rfl⟩) fun vu s3 ⟨u, H3, I3, pu, eu, e3⟩ => ?_
  subst eu e3
  refine thn (hst.run pins s3 σ H3 (fun o H4 => o = some (-1) ∧ H4 = H3) I3 ⟨1, rfl, -1, rfl, rfl, rfl⟩) fun vs s4 ⟨o, H4, I4, ps, eo, e4⟩ => ?_
  subst eo e4
  have I5 : Inv X pins σ H4 { s4 with heap := s4.heap.push { cls := .type "slice", data := .fields #[vl, vu, vs] } } := I4.kept (t' := s4.toks) fun b ob q => Heap.get?_push_of_some _ q
  rcases q1 with ⟨a, xs, ex, hx, q⟩ | ⟨a, xs, ex, hx, q⟩
  · subst ex
    cases r1
    obtain ⟨its, r, ht, hz⟩ := I5.list hx
    have hlen := r.length
    show wpAny (model X.prog X.w) X.A (subscriptTail e (.Slice none none (some (.UnaryOp .USub (.Constant (.int 1) k p1) p2)) p3) (.ref a) (.ref s4.heap.objs.size)) (EP X pins σ Q) X.xe { s4 with heap := s4.heap.push { cls := .type "slice", data := .fields #[vl, vu, vs] } }
    refine tail_any (ops := [.ref a, .ref s4.heap.objs.size]) ht.isList.typeIs (PySem.slot_list_getitem.lookup) ?_ (by with_unfolding_all rfl)
    refine wpAny_getItem_list_slice ht.isList (Heap.IsSliceOf.new _ vl vu vs) pl pu ps (by decide) ?_ (by rw [List.size_toArray]; omega)
    rw [PySem.W.krv_pick]
    refine ⟨.ref _, _, I5.laid (t' := s4.toks) (o := .lst xs.reverse) (fun b ob q => Heap.get?_push_of_some _ q) (Nat.le_refl _) ?_, rfl, q _ (I5.hok.fresh (Nat.le_refl _))⟩
    exact ⟨by rw [List.length_reverse]; exact hz, _, 0, r.reverse, Heap.get?_push_size _ rfl⟩
  · subst ex
    cases r1
    obtain ⟨its, r, ht, hz⟩ := I5.tuple hx
    have hlen := r.length
    show wpAny (model X.prog X.w) X.A (subscriptTail e (.Slice none none (some (.UnaryOp .USub (.Constant (.int 1) k p1) p2)) p3) (.ref a) (.ref s4.heap.objs.size)) (EP X pins σ Q) X.xe { s4 with heap := s4.heap.push { cls := .type "slice", data := .fields #[vl, vu, vs] } }
    refine tail_any (ops := [.ref a, .ref s4.heap.objs.size]) ht.typeIs (PyProof.Rows.slot_tuple_getitem.lookup) ?_ (by with_unfolding_all rfl)
    refine getItem_tuple_rev ht (Heap.IsSliceOf.new _ vl vu vs) pl pu ps ?_ (by rw [List.size_toArray]; omega)
    refine ⟨.ref _, _, I5.laid (t' := s4.toks) (o := .tup xs.reverse) (fun b ob q => Heap.get?_push_of_some _ q) (Nat.le_refl _) ?_, rfl, q _ (I5.hok.fresh (Nat.le_refl _))⟩
    exact ⟨by rw [List.length_reverse]; exact hz, _, r.reverse, IsTup.new _ _⟩
end
end Wp

/-! WpO1: methods and new instances of own classes, where what is raised is wished for at the caller's slots. -/
namespace L2
open PySem PySem.Spec PyProof.Rows
/-- the tree of a method's call -/
theorem meth_tree {o : Expr} {m : Str} {apos pos : Pos} {args : List Expr} {env : Env} (hb : attributeBase o m env (eval o env) = eval o env)
    (hf : methodCallForm (args.length + ([] : List Keyword).length) (backTo pos (starEach args env)) (backToKw pos (keywordEach [] env)) = true) (hl : (apos.endLine == pos.line) = true) :
    eval (.Call (.Attribute o m apos) args [] pos) env = (do
      let ov ← eval o env
      standAt apos.atName
      let (f, first) ← holding [ov] (getMethod ov m (do return (← importBound o env).getD true))
      callWith pos f first (backTo pos (starEach args env)) (backToKw pos (keywordEach [] env))) := by
  have hpos : methodCallPos true o env apos pos = pure pos := by unfold methodCallPos; simp [hl]
  rw [arm_eval_Call, hb]
  refine congrArg _ (funext fun ov => ?_)
  refine congrArg _ (funext fun _ => ?_)
  unfold methodCall
  rw [hf, hpos]
  refine congrArg _ (funext fun p => ?_)
  obtain ⟨f, first⟩ := p
  show (pure pos >>= fun callPos => callWith callPos f first (backTo pos (starEach args env)) (backToKw pos (keywordEach [] env))) = _
  rw [pure_bind]
section
variable {X : Cx} {CX : CXT} {k : Nat} {f C : Addr} {fd : FuncData} {ps : List Str} {sp : Sp} {E : St → XK} {x m : Str} {p pos apos : Pos} {e o : Expr} {es : List Expr} {ta : TE} {t : TA}
/-- o.m(e, ..) -/
def tMethX (C : Addr) (m : Str) (sp : Sp) (E : St → XK) (ta : TE) (t : TA) : TE := fun σ H Q => ta σ H fun x H1 => ∃ a dx fs, x = .ref a ∧ H1 a = some (.ins C dx fs) ∧ fs.lookup m = none ∧ t σ H1 fun vs H2 => sp (x :: vs) H2 Q (E σ)
theorem pe_methX (he : PE X o ta) (c : Cls X.K C) (hm : Meth X.K C m f) (F : FnOk X.prog X.w X.K X.mg X.base CX k f fd ps sp) (hr : Room k X.A) (hb : Binds X.K fd ps []) (hx : ∀ σ, PassesAt CX X σ (E σ)) (ha : PA X (e :: es) t)
    (hbase : attributeBase o m X.env (eval o X.env) = eval o X.env) (hform : methodCallForm ((e :: es).length + ([] : List Keyword).length) (backTo pos (starEach (e :: es) X.env)) (backToKw pos (keywordEach [] X.env)) = true) (hline : (apos.endLine == pos.line) = true)
    (hst : starEach (e :: es) X.env = (false, eval e X.env) :: starEach es X.env) (hpl : (backTo pos (starEach es X.env)).any (·.1) = false) :
    PE X (.Call (.Attribute o m apos) (e :: es) [] pos) (tMethX C m sp E ta t) := by
  refine ⟨fun pins s σ H Q I h => ?_⟩
  refine PySem.W.methodCall_KW (pl := (do return (← importBound o X.env).getD true)) (thn (he.run pins s σ H _ I h) fun u s1 ⟨x, H1, I1, rx, a, dx, fs, ex, ea, l, q⟩ => ?_) (meth_tree hbase hform hline)
  subst ex
  obtain rfl : u = Value.ref a := rx
  refine getmeth_ok I1 ea c hm l ?_
  refine PySem.W.callWith_K (first := [.ref a]) (h₀ := X.base) I.ok.mod.kin hm.kp (thn (ha.run pos pins s1 σ H1 _ I1 q) fun us s2 ⟨vs, H2, I2, r, q2⟩ => ⟨I2.kIn, ?_⟩) hst hpl
  exact run_fnS (us := .ref a :: us) (vs := .ref a :: vs) F hr hb (hx σ) I2 (.cons rfl r) q2
theorem pe_methX0 (he : PE X o ta) (c : Cls X.K C) (hm : Meth X.K C m f) (F : FnOk X.prog X.w X.K X.mg X.base CX k f fd ps sp) (hr : Room k X.A) (hb : Binds X.K fd ps []) (hx : ∀ σ, PassesAt CX X σ (E σ))
    (hbase : attributeBase o m X.env (eval o X.env) = eval o X.env) (hline : (apos.endLine == pos.line) = true) :
    PE X (.Call (.Attribute o m apos) [] [] pos) (tMethX C m sp E ta tNil) := by
  refine ⟨fun pins s σ H Q I h => ?_⟩
  refine PySem.W.methodCall_KW (pl := (do return (← importBound o X.env).getD true)) (thn (he.run pins s σ H _ I h) fun u s1 ⟨x, H1, I1, rx, a, dx, fs, ex, ea, l, q⟩ => ?_) (meth_tree hbase rfl hline)
  subst ex
  obtain rfl : u = Value.ref a := rx
  refine getmeth_ok I1 ea c hm l ?_
  exact PySem.W.callWith_K0 (first := [.ref a]) I1.kIn hm.kp (run_fnS (us := [.ref a]) (vs := [.ref a]) F hr hb (hx σ) I1 (.cons rfl .nil) q)
/-- C(e, ..) -/
def tMakeX (C : Addr) (sp : Sp) (E : St → XK) (t : TA) : TE := fun σ H Q => t σ H fun vs H1 => ∀ x dx, H1 x = none → H1 dx = none → dx ≠ x → sp (.ref x :: vs) (upd (upd H1 dx (.own x)) x (.ins C dx [])) (fun v H2 => v = .non ∧ Q (.ref x) H2) (E σ)
theorem run_makeX {pins : List (Addr × Obj)} {σ : St} {H : Hp} {s : Shared} {Q : VK} {us : List Value} {vs : List V} (M : Mk X.K C f) (F : FnOk X.prog X.w X.K X.mg X.base CX k f fd ps sp) (hr : Room (k + 1) X.A) (hb : Binds X.K fd ps [])
    (hx : PassesAt CX X σ (E σ)) (I : Inv X pins σ H s) (r : Vals vs us)
    (h : ∀ x dx, H x = none → H dx = none → dx ≠ x → sp (.ref x :: vs) (upd (upd H dx (.own x)) x (.ins C dx [])) (fun v H2 => v = .non ∧ Q (.ref x) H2) (E σ)) :
    wpAny (model X.prog X.w) X.A (call (.ref C) us) (EP X pins σ Q) X.xe s := by
  have hq := h (s.heap.objs.size + 1) s.heap.objs.size (I.hok.fresh (Nat.le_succ _)) (I.hok.fresh (Nat.le_refl _)) (Nat.ne_of_lt (Nat.lt_succ_self _))
  have I2 := Inv.made (C := C) I
  have r2 : Vals (V.ref (s.heap.objs.size + 1) :: vs) (Value.ref (s.heap.objs.size + 1) :: us) := .cons rfl r
  have hl : (Value.ref (s.heap.objs.size + 1) :: us).length = ps.length := by
    have e := r2.length
    rw [F.len _ _ _ _ hq] at e
    exact e.symm
  have b := hb _ (Value.ref (s.heap.objs.size + 1) :: us) I2.kIn (by rw [List.append_nil]; exact hl)
  rw [List.append_nil] at b
  refine wpAny_call (make_map (f := f) I.kIn M.makes M.init (beq_iff_eq.mp M.fn) (codeAny_mono (F.run _ X.stack _ _ ⟨Value.ref (s.heap.objs.size + 1) :: us, []⟩ (Value.ref (s.heap.objs.size + 1) :: us) _ _ (E σ) (hr.make C us [])
    (I2.env0.make C us []) b r2 hq) fun r s' hq' => ?_))
  cases r with
  | error e => exact hx pins _ _ e s' I2 hq'
  | ok fl =>
    cases fl with
    | ret u =>
      obtain ⟨v, H', I3, rv, ev, q3⟩ := I2.after hq'
      subst ev
      exact ⟨rv, ⟨V.ref (s.heap.objs.size + 1), H', I3, rfl, q3⟩⟩
    | next => exact False.elim hq'
    | brk => exact False.elim hq'
    | cont => exact False.elim hq'
theorem pe_makeX (M : Mk X.K C f) (F : FnOk X.prog X.w X.K X.mg X.base CX k f fd ps sp) (hr : Room (k + 1) X.A) (hg : Gl X x) (hm : X.mg x = some (.ref C)) (hb : Binds X.K fd ps []) (hx : ∀ σ, PassesAt CX X σ (E σ))
    (ha : PA X (e :: es) t) (hdb : (x == ("__debug__" : Str)) = false) (he : starEach (e :: es) X.env = (false, eval e X.env) :: starEach es X.env) (hpl : (backTo pos (starEach es X.env)).any (·.1) = false) :
    PE X (.Call (.Name x p) (e :: es) [] pos) (tMakeX C sp E t) := by
  refine ⟨fun pins s σ H Q I h => ?_⟩
  refine wpAny_Call_Name_kw (ld_glob I hg hm ?_ hdb)
  refine PySem.W.callWith_K (h₀ := X.base) I.ok.mod.kin M.kp (thn (ha.run pos pins s σ H _ I h) fun us s1 ⟨vs, H1, I1, r, q⟩ => ⟨I1.kIn, ?_⟩) he hpl
  exact run_makeX M F hr hb (hx σ) I1 r q
theorem pe_makeX0 (M : Mk X.K C f) (F : FnOk X.prog X.w X.K X.mg X.base CX k f fd ps sp) (hr : Room (k + 1) X.A) (hg : Gl X x) (hm : X.mg x = some (.ref C)) (hb : Binds X.K fd ps []) (hx : ∀ σ, PassesAt CX X σ (E σ))
    (hdb : (x == ("__debug__" : Str)) = false) : PE X (.Call (.Name x p) [] [] pos) (tMakeX C sp E tNil) := by
  refine ⟨fun pins s σ H Q I h => ?_⟩
  refine wpAny_Call_Name_kw (ld_glob I hg hm ?_ hdb)
  exact PySem.W.callWith_K0 I.kIn M.kp (run_makeX (us := []) M F hr hb (hx σ) I .nil h)
end
end L2

/-! WpS9: that the tree is enough for the text: expressions, all of them. -/
namespace Wp
open PySem PySem.Spec PyProof.Rows L2

/-- a op1 b op2 c op3 d -/
def tChain3 (r r' r'' : R2) (ta tb tc td : TE) : TE := fun σ H Q => ta σ H fun x H1 => tb σ H1 fun y H2 => r x y H2 fun z H3 => ∃ k, z = .bl k ∧
  (if k = true then tc σ H3 fun w' H4 => r' y w' H4 fun z2 H5 => ∃ k2, z2 = .bl k2 ∧ (if k2 = true then td σ H5 fun u H6 => r'' w' u H6 Q else Q (.bl false) H5) else Q (.bl false) H3)
theorem pe_chain3 {X : Cx} {op op' op'' : CmpOp} {r r' r'' : R2} {a b c d : Expr} {ta tb tc td : TE} {pos : Pos} (ho : OpR X (compareOp op) r) (ho' : OpR X (compareOp op') r') (ho'' : OpR X (compareOp op'') r'') (ha : PE X a ta) (hb : PE X b tb) (hc : PE X c tc) (hd : PE X d td)
    (hm : lastMarks [op, op', op''] [b, c, d] = false) : PE X (.Compare a [op, op', op''] [b, c, d] pos) (tChain3 r r' r'' ta tb tc td) := by
  refine ⟨fun pins s σ H Q I h => ?_⟩
  refine Compare_chain (thn (ha.run pins s σ H _ I h) fun v s1 ⟨x, H1, I1, r1, q1⟩ => chain_link (thn (hb.run pins s1 σ H1 _ I1 q1) fun u s2 ⟨y, H2, I2, r2, q2⟩ =>
    thn (ho pins s2 σ H2 x y v u _ I2 r1 r2 q2) fun d s3 ⟨z, H3, I3, r3, k, e, q3⟩ => ?_)) hm
  subst e
  cases r3
  refine wpAny_truthy_bool ?_
  cases k with
  | false => exact ite_ff ⟨.bl false, H3, I3, rfl, q3⟩
  | true =>
    refine ite_tt (chain_link (thn (hc.run pins s3 σ H3 _ I3 q3) fun w' s4 ⟨z', H4, I4, r4, q4⟩ => thn (ho' pins s4 σ H4 y z' u w' _ I4 r2 r4 q4) fun d2 s5 ⟨z2, H5, I5, r5, k2, e2, q5⟩ => ?_))
    subst e2
    cases r5
    refine wpAny_truthy_bool ?_
    cases k2 with
    | false => exact ite_ff ⟨.bl false, H5, I5, rfl, q5⟩
    | true => exact ite_tt (chain_last (thn (hd.run pins s5 σ H5 _ I5 q5) fun w2 s6 ⟨z3, H6, I6, r6, q6⟩ => ho'' pins s6 σ H6 z' z3 w' w2 Q I6 r4 r6 q6))

theorem pt_chain3 {X : Cx} {op op' op'' : CmpOp} {r r' r'' : R2} {a b c d : Expr} {ta tb tc td : TE} {pos : Pos} (ho : OpR X (compareOp op) r) (ho' : OpR X (compareOp op') r') (ho'' : OpR X (compareOp op'') r'') (ha : PE X a ta) (hb : PE X b tb) (hc : PE X c tc) (hd : PE X d td)
    (hm : lastMarks [op, op', op''] [b, c, d] = false) : PT X (.Compare a [op, op', op''] [b, c, d] pos) (tTest (tChain3 r r' r'' ta tb tc td)) := by
  refine ⟨fun pins s σ H Q I h => ?_⟩
  refine isTrue_chain (thn (ha.run pins s σ H _ I h) fun v s1 ⟨x, H1, I1, r1, q1⟩ => test_link (thn (hb.run pins s1 σ H1 _ I1 q1) fun u s2 ⟨y, H2, I2, r2, q2⟩ =>
    thn (ho pins s2 σ H2 x y v u _ I2 r1 r2 q2) fun d s3 ⟨z, H3, I3, r3, k, e, q3⟩ => ?_)) hm
  subst e
  cases r3
  refine wpAny_truthy_bool ?_
  cases k with
  | false =>
    obtain ⟨k', e', q'⟩ := q3
    cases e'
    exact ite_ff ⟨H3, I3, q'⟩
  | true =>
    refine ite_tt (test_link (thn (hc.run pins s3 σ H3 _ I3 q3) fun w' s4 ⟨z', H4, I4, r4, q4⟩ => thn (ho' pins s4 σ H4 y z' u w' _ I4 r2 r4 q4) fun d2 s5 ⟨z2, H5, I5, r5, k2, e2, q5⟩ => ?_))
    subst e2
    cases r5
    refine wpAny_truthy_bool ?_
    cases k2 with
    | false =>
      obtain ⟨k', e', q'⟩ := q5
      cases e'
      exact ite_ff ⟨H5, I5, q'⟩
    | true =>
      refine ite_tt (test_last (thn (hd.run pins s5 σ H5 _ I5 q5) fun w2 s6 ⟨z3, H6, I6, r6, q6⟩ => thn (ho'' pins s6 σ H6 z' z3 w' w2 _ I6 r4 r6 q6) fun d3 s7 ⟨z4, H7, I7, r7, k3, e3, q7⟩ => ?_))
      subst e3
      cases r7
      exact wpAny_truthy_bool ⟨H7, I7, q7⟩
/-- a if c else b, as a test -/
theorem pt_ife {X : Cx} {a b c : Expr} {tc ta tb : TT} {pos : Pos} (hc : PT X c tc) (ha : PT X a ta) (hb : PT X b tb) : PT X (.IfExp c a b pos) (fun σ H Q => tc σ H fun k H1 => if k = true then ta σ H1 Q else tb σ H1 Q) := by
  refine ⟨fun pins s σ H Q I h => ?_⟩
  show wpAny _ _ (do if ← isTrue c X.env (eval c X.env) then isTrue a X.env (eval a X.env) else isTrue b X.env (eval b X.env)) _ _ s
  refine wpAny_bind (thn (hc.run pins s σ H _ I h) fun k s1 ⟨H1, I1, q1⟩ => ?_)
  cases k with
  | true =>
    rw [if_pos rfl] at q1
    rw [if_pos rfl]
    exact ha.run pins s1 σ H1 Q I1 q1
  | false =>
    rw [if_neg Bool.false_ne_true] at q1
    rw [if_neg Bool.false_ne_true]
    exact hb.run pins s1 σ H1 Q I1 q1

def special : Ex → Bool
  | .not _ => true
  | .and _ _ => true
  | .or _ _ => true
  | .ife _ _ _ => true
  | .cmp _ _ _ => true
  | .ch2 _ _ _ _ _ => true
  | .ch3 _ _ _ _ _ _ _ => true
  | _ => false
theorem plain_of {tb : Tb} {N : List Str} {ex : Ex} {sc : Scope} {e : Expr} (h : chkE tb N ex sc e = true) (hx : special ex = false) : plainT e = true := by
  cases ex <;> first
    | (cases hx; done)
    | (cases e <;> first
      | rfl
      | (cases h; done)
      | (rename_i op _ _; cases op <;> first | rfl | (cases h; done)))
/-- the pieces of a written call -/
theorem chkA_cons {tb : Tb} {N : List Str} {ex : Ex} {sc : Scope} {e : Expr} {es : List Expr} (h : chkA tb N ex sc (e :: es) = true) : ∃ x xs, ex = .cons x xs ∧ chkE tb N x sc e = true ∧ noStar e = true ∧ chkA tb N xs sc es = true := by
  cases ex <;> first
    | (cases h; done)
    | skip
  rename_i x xs
  have h : (chkE tb N x sc e && noStar e && chkA tb N xs sc es) = true := h
  rw [Bool.and_eq_true, Bool.and_eq_true] at h
  exact ⟨x, xs, rfl, h.1.1, h.1.2, h.2⟩
theorem chkA_nil {tb : Tb} {N : List Str} {ex : Ex} {sc : Scope} (h : chkA tb N ex sc [] = true) : ex = .nil := by
  cases ex <;> first
    | rfl
    | (cases h; done)
theorem tr_any {tb : Tb} {N : List Str} {env : PySem.Env} {pos : Pos} {sc : Scope} : ∀ {es : List Expr} {ex : Ex}, chkA tb N ex sc es = true → (backTo pos (starEach es env)).any (·.1) = false
  | [], _, _ => rfl
  | a :: b, _, h => by
    obtain ⟨x, xs, rfl, h1, h2, h3⟩ := chkA_cons h
    rw [star_ok h2]
    have ih := tr_any (env := env) (pos := pos) h3
    show (false || (backTo pos (starEach b env)).any (·.1)) = false
    rw [ih]; rfl
theorem tr_all {tb : Tb} {N : List Str} {env : PySem.Env} {pos : Pos} {sc : Scope} : ∀ {es : List Expr} {ex : Ex}, chkA tb N ex sc es = true → (backTo pos (starEach es env)).all (fun x => !x.1) = true
  | [], _, _ => rfl
  | a :: b, _, h => by
    obtain ⟨x, xs, rfl, h1, h2, h3⟩ := chkA_cons h
    rw [star_ok h2]
    have ih := tr_all (env := env) (pos := pos) h3
    show (true && (backTo pos (starEach b env)).all (fun x => !x.1)) = true
    rw [ih]; rfl
theorem tr_head {tb : Tb} {N : List Str} {ex : Ex} {sc : Scope} {e : Expr} {es : List Expr} {env : PySem.Env} {pos : Pos} (h : chkA tb N ex sc (e :: es) = true) :
    starEach (e :: es) env = (false, eval e env) :: starEach es env ∧ (backTo pos (starEach es env)).any (·.1) = false := by
  obtain ⟨x, xs, rfl, h1, h2, h3⟩ := chkA_cons h
  exact ⟨star_ok h2, tr_any h3⟩
theorem env_relS {X : Cx} {s : Shared} {H : Hp} {scope : Scope} {C : Addr} {cl : List (Str × Addr)} {fp : List Addr} {sc : Scope} (hs : X.env.scope = sc) : (X.blk s H scope (compEnvC scope cl C X.env) fp).env.scope = relS scope sc := by
  rw [← hs]; rfl
section
variable {tb : Tb} {R : Nat → List D → Mem → QK → XQ → Prop} {k : Nat} {N : List Str}
theorem bn_mem {tb : Tb} {sc : Scope} {x : Str} (h : bnB tb sc x = true) : x ∈ tb.bn := by
  unfold bnB at h
  rw [Bool.and_eq_true] at h
  obtain ⟨y, hy, e⟩ := List.any_eq_true.mp h.2
  rw [← of_decide_eq_true e]
  exact hy
theorem chkC_ok {G : Gx} {W : WX} {X : Cx} {sc : Scope} (g : Good G tb R k W X) (hs : X.env.scope = sc) : ∀ (cs : List Nat) {es : List Expr}, chkC tb sc cs es = true → ∃ (vs : List V) (us : List Value), PA X es (fun _ H Q => Q vs H) ∧ Paired ClsV vs us ∧ vs.length = cs.length ∧ ∀ c C, G.cl c = some C → PySem.W.kitAny X.K (.ref C) us = some (cs.any fun d => subX c d)
  | [], [], h => ⟨[], [], pa_nil, .nil, rfl, fun c C e => rfl⟩
  | [], _ :: _, h => by cases h
  | c :: cs, [], h => by cases h
  | c :: cs, e :: es, h => by
    unfold chkC at h
    split at h
    · rename_i hq; cases hq
    · rename_i c' cs' y p es' hq1 hq2
      injection hq1 with q1 q2
      injection hq2 with q3 q4
      subst q1 q2 q3 q4
      simp only [Bool.and_eq_true] at h
      obtain ⟨⟨k1, k2⟩, k3⟩ := h
      obtain ⟨q, hq, e2⟩ := List.any_eq_true.mp k1
      have e2 := of_decide_eq_true e2
      subst e2
      obtain ⟨D, m1, m2⟩ := g.xt.nm _ hq
      obtain ⟨j1, j2⟩ := gl_of hs k2
      obtain ⟨vs, us, pa, pu, pl, pk⟩ := chkC_ok g hs cs k3
      refine ⟨.ref D :: vs, .ref D :: us, PA.imp (pa_cons (pe_glob (v := .ref D) j1 m1 rfl j2) pa rfl) fun σ H Q h => h, .cons (.own D) pu, by rw [List.length_cons, List.length_cons, pl], fun d C e => ?_⟩
      refine kitAny_cons (g.xt.sub d C c D e m2).1 (fun hb => ?_) fun hb => ?_
      · rw [pk d C e, List.any_cons, hb, Bool.false_or]
      · rw [List.any_cons, hb, Bool.true_or]
    · cases h
theorem ty4 (t : Ty) : tyNm4 t = tyNm t := by cases t <;> rfl
theorem chkTy_ok {G : Gx} {W : WX} {X : Cx} {sc : Scope} (g : Good G tb R k W X) (hs : X.env.scope = sc) : ∀ (ts : List Ty) {es : List Expr}, chkTy tb sc ts es = true → PA X es (fun _ H Q => Q (ts.map fun t => V.ty (tyN t)) H) ∧ Paired ClsV (ts.map fun t => V.ty (tyN t)) (ts.map fun t => Value.type (tyN t))
  | [], [], h => ⟨pa_nil, .nil⟩
  | [], _ :: _, h => by cases h
  | t :: ts, [], h => by cases h
  | t :: ts, e :: es, h => by
    unfold chkTy at h
    split at h
    · rename_i hq; cases hq
    · rename_i t' ts' y p es' hq1 hq2
      injection hq1 with q1 q2
      injection hq2 with q3 q4
      subst q1 q2 q3 q4
      simp only [Bool.and_eq_true] at h
      obtain ⟨⟨k1, k2⟩, k3⟩ := h
      have e2 := of_decide_eq_true k1
      rw [ty4] at e2
      subst e2
      obtain ⟨j1, j2, j3⟩ := bn_of g hs k2
      obtain ⟨pa, pu⟩ := chkTy_ok g hs ts k3
      have pt : PE X (.Name (tyNm t) p) (tC (.ty (tyN t))) := pe_bltn j1 j3 (ty_boot t) rfl (ty_no t).1 j2
      exact ⟨PA.imp (pa_cons pt pa rfl) fun σ H Q h => h, .cons (.ty _) pu⟩
    · cases h
/-- a def as a value -/
def FnV (G : Gx) (tb : Tb) (R : Nat → List D → Mem → QK → XQ → Prop) (k : Nat) (X : Cx) (v : V) (f : Nat) : Prop :=
  ∃ x ad fd ps, tb.nm f = some x ∧ v = .ref ad ∧ PySem.W.keepIn X.K (.ref ad) = true ∧ Binds X.K fd ps [] ∧ FnOk X.prog X.w X.K X.mg X.base (L2.CX X.prog X.w) k ad fd ps (liftSp G (tb.ar f) (R f))
theorem chkFn_ok {G : Gx} {W : WX} {X : Cx} {sc : Scope} (g : Good G tb R k W X) (hs : X.env.scope = sc) : ∀ (fs : List Nat) {es : List Expr}, chkFn tb sc fs es = true → ∃ vs : List V, PA X es (fun _ H Q => Q vs H) ∧ vs.length = fs.length ∧ ∀ (j f : Nat), fs[j]? = some f → ∃ v, vs[j]? = some v ∧ FnV G tb R k X v f
  | [], [], h => ⟨[], pa_nil, rfl, fun j f e => by simp at e⟩
  | [], _ :: _, h => by cases h
  | t :: ts, [], h => by cases h
  | t :: ts, e :: es, h => by
    unfold chkFn at h
    split at h
    · rename_i hq; cases hq
    · rename_i t' ts' y p es' hq1 hq2
      injection hq1 with q1 q2
      injection hq2 with q3 q4
      subst q1 q2 q3 q4
      simp only [Bool.and_eq_true] at h
      obtain ⟨⟨k1, k2⟩, k3⟩ := h
      have e2 := of_decide_eq_true k1
      obtain ⟨j1, j2⟩ := gl_of hs k2
      obtain ⟨vs, pa, hl, hv⟩ := chkFn_ok g hs ts k3
      obtain ⟨ad, fd, ps, m1, m2, m3, m4, m5⟩ := g.fns t y e2
      have pt : PE X (.Name y p) (tC (.ref ad)) := pe_glob j1 m1 rfl j2
      refine ⟨.ref ad :: vs, PA.imp (pa_cons pt pa rfl) fun σ H Q h => h, congrArg Nat.succ hl, fun j f e => ?_⟩
      cases j with
      | zero =>
        simp at e; subst e
        exact ⟨_, rfl, y, ad, fd, ps, e2, rfl, m2, m3, m5⟩
      | succ j =>
        obtain ⟨v, e3, e4⟩ := hv j f (by simpa using e)
        exact ⟨v, by simpa using e3, e4⟩
    · cases h
theorem atI_map {α β : Type} {xs : List α} {ys : List β} {P : β → α → Prop} (hl : ys.length = xs.length) (h : ∀ (j : Nat) (x : α), xs[j]? = some x → ∃ y, ys[j]? = some y ∧ P y x) {i : Int} {x : α} (e : atI xs i = some x) : ∃ y, atI ys i = some y ∧ P y x := by
  unfold atI at *
  rw [hl]
  cases q : ixN xs.length i with
  | none => rw [q] at e; cases e
  | some j =>
    rw [q] at e
    exact h j x e
/-- f(e, ..), f an expression that gives a def -/
theorem pe_callF {X : Cx} {CX : CXT} {k : Nat} {E : L2.St → XK} {e fe : Expr} {es : List Expr} {tf : TE} {t : TA} {pos : Pos} (hf : PE X fe tf) (hr : Room k X.A) (hx : ∀ σ, L2.PassesAt CX X σ (E σ)) (ha : PA X (e :: es) t)
    (ht : eval (.Call fe (e :: es) [] pos) X.env = (do callWith pos (← eval fe X.env) [] (backTo pos (starEach (e :: es) X.env)) (backToKw pos (keywordEach [] X.env))))
    (he : starEach (e :: es) X.env = (false, eval e X.env) :: starEach es X.env) (hpl : (backTo pos (starEach es X.env)).any (·.1) = false) :
    PE X (.Call fe (e :: es) [] pos) (fun σ H Q => tf σ H fun y H1 => ∃ f fd ps sp, y = V.ref f ∧ PySem.W.keepIn X.K (.ref f) = true ∧ Binds X.K fd ps [] ∧ FnOk X.prog X.w X.K X.mg X.base CX k f fd ps sp ∧ t σ H1 fun vs H2 => sp vs H2 Q (E σ)) := by
  refine ⟨fun pins s σ H Q I h => ?_⟩
  refine Call_ (thn (hf.run pins s σ H _ I h) fun u s1 ⟨y, H1, I1, ry, f, fd, ps, sp, ey, hk, hb, F, q⟩ => ?_) ht
  subst ey
  obtain rfl : u = Value.ref f := ry
  refine PySem.W.callWith_K (h₀ := X.base) I1.ok.mod.kin hk (thn (ha.run pos pins s1 σ H1 _ I1 q) fun us s2 ⟨vs, H2, I2, r, q2⟩ => ⟨I2.kIn, ?_⟩) he hpl
  exact L2.run_fnS F hr hb (hx σ) I2 r q2
/-- a list or a tuple, walked -/
theorem pi_both {X : Cx} {tg l : Expr} {tl : TE} (hl : PE X l tl) : PI X tg l (fun σ H R => tl σ H fun x H1 => ∃ a, x = .ref a ∧ ((∃ xs, SqL X.K H1 a xs) ∧ R (Itl X.K a) H1 ∨ (∃ xs, SqT X.K H1 a xs) ∧ R (Itt X.K a) H1)) := by
  refine ⟨fun pins s σ H R I h => ?_⟩
  refine thn (hl.run pins s σ H _ I h) fun v s1 ⟨x, H1, I1, r1, q1⟩ => ?_
  obtain ⟨a, e, q⟩ := q1
  subst e
  cases r1
  rcases q with ⟨⟨xs, hq⟩, q⟩ | ⟨⟨xs, hq⟩, q⟩
  · obtain ⟨its, rv, p, hz⟩ := I1.list hq
    refine wpAny_pyIter_list p.isList ?_
    refine ⟨s1.heap.objs.size, [s1.heap.objs.size], _, _, H1, rfl, I1.kept (t' := s1.toks) fun b o e => Heap.get?_push_of_some _ e, turn_list a _, ⟨_, Heap.get?_push_size _ rfl, rfl, rfl⟩, fun b hb => ?_, q⟩
    have e : b = s1.heap.objs.size := by simpa using hb
    subst e
    exact I1.fpOk (Nat.le_refl _) (I1.hok.fresh (Nat.le_refl _))
  · obtain ⟨its, rv, p, hz⟩ := I1.tuple hq
    refine wpAny_pyIter_tuple (show s1.heap.IsTuple a its.toArray from p) ?_
    refine ⟨s1.heap.objs.size, [s1.heap.objs.size], _, _, H1, rfl, I1.kept (t' := s1.toks) fun b o e => Heap.get?_push_of_some _ e, turn_tuple a _, ⟨_, Heap.get?_push_size _ rfl, rfl, rfl⟩, fun b hb => ?_, q⟩
    have e : b = s1.heap.objs.size := by simpa using hb
    subst e
    exact I1.fpOk (Nat.le_refl _) (I1.hok.fresh (Nat.le_refl _))
/-- a call of a built-in -/
theorem pe_bi {G : Gx} {W : WX} {X : Cx} {sc : Scope} {b : Bi} {fr : Bool} {x : Str} {e : Expr} {es : List Expr} {p pos : Pos} {t : TA} (g : Good G tb R k W X) (hs : X.env.scope = sc) (hx : biNm b = x) (hb : bnB tb sc x = true) (ha : PA X (e :: es) t)
    (he : starEach (e :: es) X.env = (false, eval e X.env) :: starEach es X.env) (hpl : (backTo pos (starEach es X.env)).any (·.1) = false) : PE X (.Call (.Name x p) (e :: es) [] pos) (tCB (liftN G (biW b fr)) t) := by
  subst hx
  obtain ⟨h1, h2, h3⟩ := bn_of g hs hb
  have hbt := bi_boot b
  have hno := bi_no b
  have hr := callr_bi (G := G) g.hK (g.calm (g.hb b (bn_mem hb))) b (fr := fr)
  cases b <;> first
    | exact pe_callB hr h1 h3 hbt ha hno.1 h2 he hpl
    | exact pe_callTy hr h1 h3 hbt ha hno.1 h2 he hpl

theorem PO.imp {X : Cx} {e : Option Expr} {t t' : TO} (h : PO X e t) (hi : ∀ σ H Q, t' σ H Q → t σ H Q) : PO X e t' := ⟨fun pins s σ H Q I q => h.run pins s σ H Q I (hi _ _ _ q)⟩
/-! ### methods of built-in kinds -/
def bmId : Bm → String
  | .append => "list.append" | .extend => "list.extend" | .index => "list.index" | .join => "str.join" | .pop => "list.pop" | .reverse_ => "list.reverse" | .clear => "list.clear" | .insert => "list.insert" | .find => "str.find" | .upper => "str.upper" | .split => "str.split" | .partition => "str.partition"
theorem MtR.or2 {X : Cx} {id : String} {r : V → List V → Hp → VK → Prop} (h : ∀ x xs H Q, r x xs H Q → ∃ r', MtR X id r' ∧ r' x xs H Q) : MtR X id r := by
  intro pins s σ H x xs v us Q I rx rs q
  obtain ⟨r', h1, h2⟩ := h x xs H Q q
  exact h1 pins s σ H x xs v us Q I rx rs h2
theorem ix_of_nat {n : Nat} {i : Int} (h0 : 0 ≤ i) (h : i.toNat < n) : seqIndex? i n = some i.toNat := by
  obtain ⟨j, rfl⟩ : ∃ j : Nat, i = j := ⟨i.toNat, by omega⟩
  unfold seqIndex?
  have h : j < n := by simpa using h
  have h1 : ¬ (j : Int) < 0 := by omega
  simp [h]
  rw [if_neg h1]
  exact ⟨⟨by omega, by omega⟩, by simp⟩
theorem RelDs.strL {G : Gx} {F : Hp} : ∀ zs : List Str, RelDs G F (zs.map V.str) (zs.map D.str)
  | [] => .nil
  | z :: zs => .cons (.str z) (RelDs.strL zs)
theorem mtr_bm {G : Gx} {X : Cx} (hK : X.K = G.K) (hu : X.A.units + 65 < cLine) (b : Bm) {fr : Bool} : MtR X (bmId b) (liftM G (bmW b fr)) := by
  refine MtR.or2 fun x xs H Q ⟨F, M, d, ds, q, rm, r1, rs, cn, h⟩ => ?_
  unfold bmW at h
  split at h
  · split at h
    · obtain ⟨v, rfl, r⟩ := relds1 rs
      cases r1
      obtain ⟨vs, g1, g2⟩ := rd_loc rm (by assumption)
      exact ⟨_, mt_append, _, vs, v, rfl, rfl, g1, by rw [g2.len]; exact h.1, put_ok rm (by assumption) (g2.app (.cons r .nil)) .non cn h.2⟩
    · exact h.elim
  · split at h
    · obtain ⟨v, rfl, r⟩ := relds1 rs
      cases r1
      obtain ⟨vs, g1, g2⟩ := rd_loc rm (by assumption)
      obtain ⟨p, ws, rfl, g3, g4⟩ := rd_LT rm r (by assumption)
      exact ⟨_, mt_extend, _, p, vs, ws, rfl, rfl, g1, g3, by rw [g2.len, g4.len]; exact h.1, put_ok rm (by assumption) (g2.app g4) .non cn h.2⟩
    · exact h.elim
  · split at h
    · cases rs
      cases r1
      obtain ⟨vs, g1, g2⟩ := rd_loc rm (by assumption)
      exact ⟨_, mt_reverse, _, vs, rfl, rfl, g1, put_ok rm (by assumption) g2.rev .non cn h⟩
    · exact h.elim
  · split at h
    · cases rs
      cases r1
      obtain ⟨vs, g1, g2⟩ := rd_loc rm (by assumption)
      exact ⟨_, mt_clear, _, vs, rfl, rfl, g1, put_ok rm (by assumption) .nil .non cn h⟩
    · exact h.elim
  · split at h
    · obtain ⟨v, w, rfl, r, r2⟩ := relds2 rs
      cases r1
      cases r
      obtain ⟨vs, g1, g2⟩ := rd_loc rm (by assumption)
      obtain ⟨h1, h2, h3, h4⟩ := h
      exact ⟨_, mt_insert, _, vs, _, w, rfl, rfl, g1, by rw [g2.len]; exact h1, h2, h3, put_ok rm (by assumption) (((g2.take _).app (.cons r2 .nil)).app (g2.drop _)) .non cn h4⟩
    · exact h.elim
  · split at h
    · obtain ⟨h1, h2, h3⟩ := h
      split at h3
      · rename_i y hy
        obtain ⟨v, rfl, r⟩ := relds1 rs
        cases r1
        cases r
        obtain ⟨vs, g1, g2⟩ := rd_loc rm (by assumption)
        obtain ⟨w, w1, w2⟩ := g2.get hy
        have hlt := (List.getElem?_eq_some_iff.mp w1).1
        refine ⟨_, mt_popAt, _, vs, _, _, w, rfl, rfl, g1, by omega, h2, ix_of_nat h1 hlt, w1, put_ok rm (by assumption) ?_ w2 cn h3⟩
        rw [List.eraseIdx_eq_take_drop_succ, List.eraseIdx_eq_take_drop_succ]
        exact (g2.take _).app (g2.drop _)
      · exact h3.elim
    · exact h.elim
  · split at h
    · split at h
      · rename_i y hy
        cases rs
        cases r1
        obtain ⟨vs, g1, g2⟩ := rd_loc rm (by assumption)
        obtain ⟨w, w1, w2⟩ := g2.get hy
        refine ⟨_, mt_pop, _, vs, w, rfl, rfl, g1, by rw [g2.len]; exact w1, put_ok rm (by assumption) ?_ w2 cn h⟩
        rw [List.dropLast_eq_take, List.dropLast_eq_take, g2.len]
        exact g2.take _
      · exact h.elim
    · exact h.elim
  · split at h
    · split at h
      · obtain ⟨v, rfl, r⟩ := relds1 rs
        cases r1
        obtain ⟨p, vs, rfl, g1, g2⟩ := rd_S rm r (by assumption)
        rw [strs_rel g2 (by assumption)] at g1
        exact ⟨_, mt_join, _, p, _, rfl, rfl, by rw [hK]; exact g1, h.1, cn_here rm cn (.str _) h.2⟩
      · exact h.elim
    · exact h.elim
  · split at h
    · split at h
      · obtain ⟨h1, h2, h3⟩ := h
        split at h3
        · rename_i j hj
          obtain ⟨v, rfl, r⟩ := relds1 rs
          obtain ⟨p, vs, rfl, g1, g2⟩ := rd_L rm r1 (by assumption)
          obtain ⟨i, z, e1, e2, e3, e4⟩ := first_ok hj
          rw [Nat.zero_add] at e1
          subst e1
          have z1 := dp_M rm r (by assumption)
          have z2 := dp_all rm g2 (by assumption)
          rw [← hK] at z1 z2 g1
          exact ⟨_, mt_indexD hu, p, v, _, _, j, z, rfl, rfl, .lst g1 z2, z1, h1, h2, e2, e3, e4, cn_here rm cn (.int _) h3⟩
        · exact h3.elim
      · exact h.elim
    · exact h.elim
  · obtain ⟨v, rfl, r⟩ := relds1 rs
    cases r1
    cases r
    exact ⟨_, mt_find, _, _, rfl, rfl, cn_here rm cn (.int _) h⟩
  · cases rs
    cases r1
    exact ⟨_, mt_upper, _, rfl, rfl, h.1, cn_here rm cn (.str _) h.2⟩
  · obtain ⟨v, rfl, r⟩ := relds1 rs
    cases r1
    cases r
    refine ⟨_, mt_split, _, _, rfl, rfl, h.1, h.2.1, fun p hp => ?_⟩
    exact (newL_ok rm (RelDs.strL _) cn h.2.2).2 p hp
  · obtain ⟨v, rfl, r⟩ := relds1 rs
    cases r1
    cases r
    exact ⟨_, mt_partition, _, _, rfl, rfl, h.1, h.2.1, fun p hp => newT_ok rm (.cons (.str _) (.cons (.str _) (.cons (.str _) .nil))) cn h.2.2 hp⟩
  · exact h.elim
theorem pe_bmm {G : Gx} {W : WX} {X : Cx} {sc : Scope} {fr : Bool} {o : Expr} {es : List Expr} {ex : Ex} {ap cp : Pos} {wo : Env → Mem → QK → XQ → Prop} (g : Good G tb R k W X) (b : Bm) (ho : PE X o (liftE G W wo)) (hp : plainO o = true) (ha : PA X es (liftA G W (wpA R ex))) (hes : chkA tb N ex sc es = true) (hl : es.length < 20)
    (hline : (ap.endLine == cp.line) = true) : PE X (.Call (.Attribute o (bmNm b) ap) es [] cp) (tBM X.K (bmT b) (liftM G (bmW b fr)) (liftE G W wo) (liftA G W (wpA R ex))) := by
  have hm := mtr_bm (G := G) g.hK (by have := g.un; omega) b (fr := fr)
  have pa : PlainAttrs (bmT b) := by cases b <;> first | exact PySem.F.plainAttrs_list | exact PySem.F.plainAttrs_str
  have sl : Slot (bmT b) (bmNm b) (bmId b) := by
    cases b
    · exact PySem.F.slot_list_append
    · exact PySem.F.slot_list_extend
    · exact PySem.F.slot_list_index
    · exact PySem.F.slot_str_join
    · exact PySem.F.slot_list_pop
    · exact PySem.F.slot_list_reverse
    · exact PySem.F.slot_list_clear
    · exact PySem.F.slot_list_insert
    · exact PySem.F.slot_str_find
    · exact PySem.F.slot_str_upper
    · exact PySem.F.slot_str_split
    · exact PySem.F.slot_str_partition
  have ty : typeOf (.builtin (bmId b)) = pure (.type "method_descriptor") := by
    cases b
    · exact PySem.F.type_list_append
    · exact PySem.F.type_list_extend
    · exact PySem.F.type_list_index
    · exact PySem.F.type_str_join
    · exact PySem.F.type_list_pop
    · exact PySem.F.type_list_reverse
    · exact PySem.F.type_list_clear
    · exact PySem.F.type_list_insert
    · exact PySem.F.type_str_find
    · exact PySem.F.type_str_upper
    · exact PySem.F.type_str_split
    · exact PySem.F.type_str_partition
  cases es with
  | nil =>
    cases chkA_nil hes
    refine PE.imp (pe_bm0 pa sl ty hm ho (plainO_ok hp) hline) fun σ H Q ⟨F, M, env, q, e, rm, er, cn, cx, h⟩ => ?_
    refine ⟨F, M, env, q, e, rm, er, fun F1 M1 H1 v1 d1 s1 rm1 r1 h => ?_, cx, h⟩
    obtain ⟨h1, F2, M2, env2, q2, e2, rm2, er2, cn2, cx2, h2⟩ := cn F1 M1 H1 v1 d1 s1 rm1 r1 h
    exact ⟨h1, cn2 F2 M2 _ _ _ (Same.refl F2) rm2 .nil h2⟩
  | cons e es =>
    obtain ⟨s1, s2⟩ := tr_head (env := X.env) (pos := cp) hes
    refine pe_bm pa sl ty hm ho ha (plainO_ok hp) ?_ hline s1 s2
    rw [tr_all hes]
    show (true && (true && decide ((e :: es).length + 0 + (if ([] : List Keyword).isEmpty then 0 else 1) < 30))) = true
    rw [Bool.true_and, Bool.true_and]
    refine decide_eq_true ?_
    simp only [List.isEmpty_nil, if_true]
    simp only [List.length_cons] at hl ⊢
    omega

theorem tup_of {tg : Expr} (h : isTupT tg = true) : ∃ elts kk tp, tg = .Tuple elts kk tp := by
  cases tg <;> first
    | exact ⟨_, _, _, rfl⟩
    | cases h
theorem small_step {i j c : Int} (h0 : 0 < c) (h1 : c < 1000000) (ha : -(2 ^ 62) ≤ i) (ha' : i < 2 ^ 62) (hb : -(2 ^ 62) ≤ j) (hb' : j < 2 ^ 62) : Builtin.Range.small i j c = true := by
  have e : 0 ≤ Builtin.Range.rangeSize i j c ∧ Builtin.Range.rangeSize i j c ≤ 2 ^ 63 - 1 := by
    unfold Builtin.Range.rangeSize
    rw [if_pos h0]
    split
    · have a := Int.ediv_nonneg (a := j - i - 1) (b := c) (by omega) (by omega)
      have b := Int.ediv_le_self c (show (0 : Int) ≤ j - i - 1 by omega)
      omega
    · omega
  unfold Builtin.Range.small
  generalize Builtin.Range.rangeSize i j c = n at e
  simp only [Builtin.Range.rangeFitsLong, Bool.and_eq_true, Bool.or_eq_true, decide_eq_true_eq, beq_iff_eq, if_pos h0]
  omega
theorem rgC_pos {i j c : Int} (h0 : 0 < c) (h1 : c < 1000000) (b1 : inB i) (b2 : inB j) : L2.RgC i j c (Builtin.Range.rangeSize i j c).toNat := by
  have e : 0 ≤ Builtin.Range.rangeSize i j c := by
    unfold Builtin.Range.rangeSize
    rw [if_pos h0]
    split
    · have a := Int.ediv_nonneg (a := j - i - 1) (b := c) (by omega) (by omega)
      omega
    · omega
  exact ⟨by omega, by omega, small_step h0 h1 b1.1 b1.2 b2.1 b2.2, by omega⟩
theorem walkR3_inv {x y z : D} {M : Mem} {q : Wk → Mem → Prop} (h : walkR [x, y, z] M q) : ∃ (i j c : Int) (n : Nat), x = .int i ∧ y = .int j ∧ z = .int c ∧ L2.RgC i j c n ∧ q ⟨rngC i c n, fun _ => True⟩ M := by
  unfold walkR at h
  split at h
  · rename_i e; cases e
  · rename_i e; cases e
  · rename_i i j c e
    injection e with e1 e2
    injection e2 with e2 e3
    injection e3 with e3 e4
    split at h
    · rename_i hc
      obtain ⟨⟨b1, b2, b3⟩, b4⟩ := h
      exact ⟨i, j, c, _, e1, e2, e3, rgC_pos (of_decide_eq_true hc) b3 b1 b2, b4⟩
    · obtain ⟨⟨b1, b2, b3⟩, b4⟩ := h
      exact ⟨i, j, -1, _, e1, e2, by rw [e3, b3], L2.RgC.neg b1.1 b1.2 b2.1 b2.2, b4⟩
  · exact h.elim
theorem rel_rgc {lo c : Int} : ∀ n : Nat, RelDs G F (rgcV lo c n) (rngC lo c n) := fun n => by
  unfold rgcV rngC
  generalize List.range n = l
  induction l with
  | nil => exact .nil
  | cons a l ih => exact .cons (.int _) ih
theorem rng_rngC {lo : Int} {n : Nat} : rng lo n = rngC lo 1 n := by
  unfold rng rngC
  refine List.map_congr_left fun i _ => ?_
  rw [Int.mul_one]
theorem rgC_one {i j : Int} (b1 : inB i) (b2 : inB j) : L2.RgC i j 1 (j - i).toNat :=
  ⟨by decide, by decide, small_one b1.1 b1.2 b2.1 b2.2, rangeSize_nat i j⟩
theorem lrg_ok {G : Gx} {F : Hp} {M : Mem} {H : Hp} {fr : Bool} {vs : List V} {ds : List D} {q : QK} {Q : VK} (rm : RM G F M H) (rs : RelDs G F vs ds) (cn : Cn G F q Q) (h : walkR ds M fun w M2 => newL fr w.items M2 q) :
    ∃ i j c, Rgs vs i j c ∧ c ≠ 0 ∧ c.natAbs < 1073741824 ∧ ∃ n, L2.RgC i j c n ∧ n ≤ 2 ^ 24 ∧ ∀ p, H p = none → Q (.ref p) (upd H p (.lst (rgcV i c n))) := by
  unfold walkR at h
  split at h
  · rename_i j
    cases rs with
    | cons r t =>
      cases t; cases r
      have g := rgC_one (i := 0) ⟨by decide, by decide⟩ h.1
      rw [Int.sub_zero] at g
      have hl : newL fr (rngC 0 1 j.toNat) M q := by rw [← rng_rngC]; exact h.2
      have k := newL_ok rm (rel_rgc j.toNat) cn hl
      exact ⟨0, j, 1, .inl ⟨rfl, rfl, rfl⟩, g.1, g.2.1, _, g, by have := k.1; rw [rgcV_len] at this; exact this, k.2⟩
  · rename_i i j
    cases rs with
    | cons r t =>
      cases t with
      | cons r' t =>
        cases t; cases r; cases r'
        have g := rgC_one h.1.1 h.1.2
        have hl : newL fr (rngC i 1 (j - i).toNat) M q := by rw [← rng_rngC]; exact h.2
        have k := newL_ok rm (rel_rgc (j - i).toNat) cn hl
        exact ⟨i, j, 1, .inr (.inl ⟨rfl, rfl⟩), g.1, g.2.1, _, g, by have := k.1; rw [rgcV_len] at this; exact this, k.2⟩
  · rename_i i j c
    cases rs with
    | cons r t =>
      cases t with
      | cons r' t =>
        cases t with
        | cons r'' t =>
          cases t; cases r; cases r'; cases r''
          have fin : ∀ n, L2.RgC i j c n → newL fr (rngC i c n) M q → ∃ i' j' c', Rgs [.int i, .int j, .int c] i' j' c' ∧ c' ≠ 0 ∧ c'.natAbs < 1073741824 ∧ ∃ n, L2.RgC i' j' c' n ∧ n ≤ 2 ^ 24 ∧ ∀ p, H p = none → Q (.ref p) (upd H p (.lst (rgcV i' c' n))) := fun n g hl => by
            have k := newL_ok rm (rel_rgc n) cn hl
            exact ⟨i, j, c, .inr (.inr rfl), g.1, g.2.1, _, g, by have := k.1; rw [rgcV_len] at this; exact this, k.2⟩
          split at h
          · rename_i hc
            exact fin _ (rgC_pos (of_decide_eq_true hc) h.1.2.2 h.1.1 h.1.2.1) h.2
          · obtain ⟨⟨b1, b2, b3⟩, b4⟩ := h
            subst b3
            exact fin _ (L2.RgC.neg b1.1 b1.2 b2.1 b2.2) b4
  · exact h.elim
/-- as a value, as a test, in an and, an or -/
structure Snd (R : Nat → List D → Mem → QK → XQ → Prop) (G : Gx) (W : WX) (X : Cx) (ex : Ex) (e : Expr) : Prop where
  E : PE X e (liftE G W (wpE R ex))
  T : PT X e (liftT G W (wpT R ex))
  B : (∃ op es p, e = .BoolOp op es p) → L2.PW X e (liftT G W (wpT R ex))
/-- a test by the value's truth -/
theorem t_plain {G : Gx} {W : WX} {X : Cx} {ex : Ex} {e : Expr} (hK : X.K = G.K) (h : PE X e (liftE G W (wpE R ex))) (hp : plainT e = true) : PT X e (liftT G W (wpT R ex)) := by
  refine PT.imp (pt_truth h (plainT_ok hp)) fun σ H Q ⟨F, M, env, q, e, rm, er, cn, cx, h⟩ => ?_
  refine enter rm er cx h fun F1 M1 H1 v1 d1 s1 rm1 er1 cx1 r1 h => ?_
  obtain ⟨c, t1, t2⟩ := tru_of rm1 r1 (cn.mono s1) h
  exact ⟨c, by rw [hK]; exact t1, t2⟩
theorem Snd.plain {G : Gx} {W : WX} {X : Cx} {ex : Ex} {e : Expr} (hK : X.K = G.K) (hp : plainT e = true) (h : PE X e (liftE G W (wpE R ex))) : Snd R G W X ex e :=
  ⟨h, t_plain hK h hp, fun ⟨_, _, _, z⟩ => by subst z; cases hp⟩

theorem revW_cases {fr : Bool} {x : D} {M : Mem} {Q : QK} (h : revW fr x M Q) : (∃ ds, asL M x = some ds ∧ newL fr ds.reverse M Q) ∨ (∃ ds, x = .tup ds ∧ Q (.tup ds.reverse) M) := by
  unfold revW at h
  split at h
  · exact .inr ⟨_, rfl, h⟩
  · split at h
    · rename_i e
      exact .inl ⟨_, e, h⟩
    · exact h.elim
theorem fvs_none {G : Gx} {F : Hp} {f : Str} : ∀ {fvs : List (Str × V)} {fs : List (Str × D)}, Paired (fun (p : Str × V) (q : Str × D) => p.1 = q.1 ∧ RelD G F p.2 q.2) fvs fs → fs.lookup f = none → fvs.lookup f = none
  | _, _, .nil, _ => rfl
  | (a, v) :: fvs, (b, d) :: fs, .cons h r, e => by
    have e1 : a = b := h.1
    subst e1
    rw [List.lookup_cons] at e ⊢
    cases q : (f == a) with
    | true => rw [q] at e; cases e
    | false => rw [q] at e; exact fvs_none r e
theorem fvs_put {G : Gx} {F : Hp} {f : Str} {v : V} {d : D} (hd : RelD G F v d) : ∀ {fvs : List (Str × V)} {fs : List (Str × D)}, Paired (fun (p : Str × V) (q : Str × D) => p.1 = q.1 ∧ RelD G F p.2 q.2) fvs fs → Paired (fun (p : Str × V) (q : Str × D) => p.1 = q.1 ∧ RelD G F p.2 q.2) (putF f v fvs) (putS f d fs)
  | _, _, .nil => .cons ⟨rfl, hd⟩ .nil
  | (a, w) :: fvs, (b, x) :: fs, .cons h r => by
    have e1 : a = b := h.1
    subst e1
    unfold putF putS
    by_cases q : a = f
    · rw [if_pos q, if_pos q]; exact .cons ⟨rfl, hd⟩ r
    · rw [if_neg q, if_neg q]; exact .cons h (fvs_put hd r)
theorem fvs_len {G : Gx} {F : Hp} : ∀ {fvs : List (Str × V)} {fs : List (Str × D)}, Paired (fun (p : Str × V) (q : Str × D) => p.1 = q.1 ∧ RelD G F p.2 q.2) fvs fs → fvs.length = fs.length
  | _, _, .nil => rfl
  | _ :: _, _ :: _, .cons _ r => congrArg Nat.succ (fvs_len r)
theorem fvs_look {G : Gx} {F : Hp} {f : Str} {d : D} : ∀ {fvs : List (Str × V)} {fs : List (Str × D)}, Paired (fun (p : Str × V) (q : Str × D) => p.1 = q.1 ∧ RelD G F p.2 q.2) fvs fs → fs.lookup f = some d → ∃ v, fvs.lookup f = some v ∧ RelD G F v d
  | _, _, .nil, h => by cases h
  | (a, v) :: fvs, (b, e) :: fs, .cons r t, h => by
    obtain ⟨r1, r2⟩ := r
    have r1 : a = b := r1
    subst r1
    rw [List.lookup_cons] at h ⊢
    cases q : (f == a) with
    | true =>
      rw [q] at h
      cases h
      exact ⟨v, rfl, r2⟩
    | false =>
      rw [q] at h
      exact fvs_look t h
mutual
theorem snd_E : ∀ (ex : Ex) {G : Gx} {W : WX} {X : Cx} {sc : Scope} {e : Expr}, Good G tb R k W X → X.N = N → X.env.scope = sc → chkE tb N ex sc e = true → Snd R G W X ex e
  | .var i, G, W, X, sc, e, g, hN, hs, h => by
    refine .plain g.hK (plain_of h rfl) ?_
    unfold chkE at h; split at h
    · rename_i x p
      rw [Bool.and_eq_true, Bool.and_eq_true] at h
      obtain ⟨o1, o2⟩ := ok_of h.2
      refine PE.imp (pe_var (i := i) (by rw [hN]; exact of_decide_eq_true h.1.1) (by rw [hs]; exact vis_of h.1.2) o1 o2) fun σ H Q ⟨F, M, env, q, e, rm, er, cn, cx, h⟩ => ?_
      dsimp only [wpE] at h
      cases q1 : slv env i with
      | none => rw [q1] at h; exact h.elim
      | some d =>
        rw [q1] at h
        obtain ⟨v, e1, r⟩ := er.at_ i d q1
        exact ⟨v, e1, cn_here rm cn r h⟩
    · cases h
  | .non, G, W, X, sc, e, g, hN, hs, h => by
    refine .plain g.hK (plain_of h rfl) ?_
    unfold chkE at h; split at h
    · exact PE.imp pe_non fun σ H Q ⟨F, M, env, q, e, rm, er, cn, cx, h⟩ => cn_here rm cn .non h
    · cases h
  | .bl b, G, W, X, sc, e, g, hN, hs, h => by
    refine .plain g.hK (plain_of h rfl) ?_
    unfold chkE at h; split at h
    · rename_i c _ _
      have e1 : b = c := eq_of_beq h
      subst e1
      exact PE.imp pe_bl fun σ H Q ⟨F, M, env, q, e, rm, er, cn, cx, h⟩ => cn_here rm cn (.bl _) h
    · cases h
  | .int i, G, W, X, sc, e, g, hN, hs, h => by
    refine .plain g.hK (plain_of h rfl) ?_
    unfold chkE at h; split at h
    · have e1 := of_decide_eq_true h
      subst e1
      exact PE.imp pe_int fun σ H Q ⟨F, M, env, q, e, rm, er, cn, cx, h⟩ => cn_here rm cn (.int _) h
    · cases h
  | .str x, G, W, X, sc, e, g, hN, hs, h => by
    refine .plain g.hK (plain_of h rfl) ?_
    unfold chkE at h; split at h
    · have e1 := of_decide_eq_true h
      subst e1
      exact PE.imp pe_str fun σ H Q ⟨F, M, env, q, e, rm, er, cn, cx, h⟩ => cn_here rm cn (.str _) h
    · cases h
  | .glob x d, G, W, X, sc, e, g, hN, hs, h => by
    refine .plain g.hK (plain_of h rfl) ?_
    unfold chkE at h; split at h
    · rw [Bool.and_eq_true, Bool.and_eq_true] at h
      have e1 := of_decide_eq_true h.1.1
      subst e1
      obtain ⟨g1, g2⟩ := gl_of hs h.1.2
      obtain ⟨p, hp, e2⟩ := List.any_eq_true.mp h.2
      rw [Bool.and_eq_true] at e2
      obtain ⟨v, u, m1, m2, m3⟩ := g.glb p hp
      rw [of_decide_eq_true e2.1] at m1
      refine PE.imp (pe_glob g1 m1 m2 g2) fun σ H Q ⟨F, M, env, q, e, rm, er, cn, cx, h⟩ => ?_
      have r := m3 F
      rw [eqD_eq e2.2] at r
      exact cn_here rm cn r h
    · cases h
  | .bin op fr a b, G, W, X, sc, e, g, hN, hs, h => by
    refine .plain g.hK (plain_of h rfl) ?_
    unfold chkE at h; split at h
    · rw [Bool.and_eq_true, Bool.and_eq_true] at h
      have e1 := of_decide_eq_true h.1.1
      subst e1
      refine PE.imp (pe_op (opr_bin g.hK (fr := fr)) ((snd_E a g hN hs h.1.2).E) ((snd_E b g hN hs h.2).E)) fun σ H Q ⟨F, M, env, q, e, rm, er, cn, cx, h⟩ => ?_
      refine enter rm er cx h fun F1 M1 H1 v1 d1 s1 rm1 er1 cx1 r1 h => enter rm1 er1 cx1 h fun F2 M2 H2 v2 d2 s2 rm2 er2 cx2 r2 h => ?_
      exact ⟨F2, M2, d1, d2, q, rm2, r1.mono s2, r2, cn.mono (s1.trans s2), h⟩
    · cases h
  | .neg a, G, W, X, sc, e, g, hN, hs, h => by
    refine .plain g.hK (plain_of h rfl) ?_
    unfold chkE at h; split at h
    · refine PE.imp (pe_un (unr_neg (G := G)) ((snd_E a g hN hs h).E)) fun σ H Q ⟨F, M, env, q, e, rm, er, cn, cx, h⟩ => ?_
      exact enter rm er cx h fun F1 M1 H1 v1 d1 s1 rm1 er1 cx1 r1 h => ⟨F1, M1, d1, q, rm1, r1, cn.mono s1, h⟩
    · cases h
  | .not a, G, W, X, sc, e, g, hN, hs, h => by
    unfold chkE at h; split at h
    · have A := snd_E a g hN hs h
      refine ⟨?_, ?_, fun ⟨_, _, _, z⟩ => nomatch z⟩
      · refine PE.imp (pe_notT A.E) fun σ H Q ⟨F, M, env, q, e, rm, er, cn, cx, h⟩ => ?_
        refine enter rm er cx h fun F1 M1 H1 v1 d1 s1 rm1 er1 cx1 r1 h => ?_
        obtain ⟨c, t1, t2⟩ := tru_of (Q := fun b H' => Q (.bl (!b)) H') rm1 r1 (fun F2 M2 H2 b s2 rm2 q2 => cn F2 M2 H2 _ _ (s1.trans s2) rm2 (.bl _) q2) h
        exact ⟨c, by rw [g.hK]; exact t1, t2⟩
      · exact PT.imp (pt_not A.T) fun σ H Q ⟨F, M, env, q, e, rm, er, cn, cx, h⟩ => ⟨F, M, env, fun c M => q (!c) M, e, rm, er, fun F1 M1 H1 c s1 rm1 hq => cn F1 M1 H1 _ s1 rm1 hq, cx, h⟩
    · cases h
  | .and a b, G, W, X, sc, e, g, hN, hs, h => by
    unfold chkE at h; split at h
    · rename_i a' b' r pos
      rw [Bool.and_eq_true] at h
      have A := snd_E a g hN hs h.1
      have hb : PE X (.BoolOp .And (b' :: r) pos) (liftE G W (wpE R b)) := by
        cases r with
        | nil => exact pe_one (snd_E b g hN hs h.2).E
        | cons c' r' => exact (snd_E b g hN hs h.2).E
      have hw : L2.PW X (.BoolOp .And (b' :: r) pos) (liftT G W (wpT R b)) := by
        cases r with
        | nil => exact pw_and1 (snd_E b g hN hs h.2).T
        | cons c' r' => exact (snd_E b g hN hs h.2).B ⟨_, _, _, rfl⟩
      have w : L2.PW X (.BoolOp .And (a' :: b' :: r) pos) (liftT G W (wpT R (.and a b))) := by
        refine PW.imp (pw_and A.T hw) fun σ H Q ⟨F, M, env, q, e, rm, er, cn, cx, h⟩ => ?_
        refine ⟨F, M, env, fun c M2 => match c with
          | true => wpT R b env M2 q e
          | false => q false M2, e, rm, er, fun F1 M1 H1 c s1 rm1 hq => ?_, cx, (mon R R g.mon a).E (fun x M1 h => ?_) (fun _ _ h => h) h⟩
        · cases c with
          | true => rw [if_pos rfl]; exact ⟨F1, M1, env, q, e, rm1, er.mono s1, cn.mono s1, cx.mono s1, hq⟩
          | false => rw [if_neg Bool.false_ne_true]; exact cn F1 M1 H1 _ s1 rm1 hq
        · obtain ⟨c, h1, h2⟩ := tru_det h
          refine (h2 _).1 ?_
          cases c with
          | true => exact h1
          | false => exact (h2 _).2 h1
      refine ⟨?_, w.pt, fun _ => w⟩
      · refine PE.imp (pe_andT A.E hb) fun σ H Q ⟨F, M, env, q, e, rm, er, cn, cx, h⟩ => ?_
        refine enter rm er cx h fun F1 M1 H1 v1 d1 s1 rm1 er1 cx1 r1 h => ?_
        obtain ⟨c, t1, t2⟩ := tru_of (Q := fun c H' => if c = true then liftE G W (wpE R b) σ H' Q else Q v1 H') rm1 r1 (fun F2 M2 H2 c s2 rm2 q2 => by
          cases c with
          | true => rw [if_pos rfl]; exact ⟨F2, M2, env, q, e, rm2, er1.mono s2, cn.mono (s1.trans s2), cx1.mono s2, q2⟩
          | false => rw [if_neg Bool.false_ne_true]; exact cn F2 M2 H2 _ _ (s1.trans s2) rm2 (r1.mono s2) q2) h
        exact ⟨c, by rw [g.hK]; exact t1, t2⟩
    · cases h
  | .or a b, G, W, X, sc, e, g, hN, hs, h => by
    unfold chkE at h; split at h
    · rename_i a' b' r pos
      rw [Bool.and_eq_true] at h
      have A := snd_E a g hN hs h.1
      have hb : PE X (.BoolOp .Or (b' :: r) pos) (liftE G W (wpE R b)) := by
        cases r with
        | nil => exact pe_one (snd_E b g hN hs h.2).E
        | cons c' r' => exact (snd_E b g hN hs h.2).E
      have hw : L2.PW X (.BoolOp .Or (b' :: r) pos) (liftT G W (wpT R b)) := by
        cases r with
        | nil => exact pw_or1 (snd_E b g hN hs h.2).T
        | cons c' r' => exact (snd_E b g hN hs h.2).B ⟨_, _, _, rfl⟩
      have w : L2.PW X (.BoolOp .Or (a' :: b' :: r) pos) (liftT G W (wpT R (.or a b))) := by
        refine PW.imp (pw_or A.T hw) fun σ H Q ⟨F, M, env, q, e, rm, er, cn, cx, h⟩ => ?_
        refine ⟨F, M, env, fun c M2 => match c with
          | true => q true M2
          | false => wpT R b env M2 q e, e, rm, er, fun F1 M1 H1 c s1 rm1 hq => ?_, cx, (mon R R g.mon a).E (fun x M1 h => ?_) (fun _ _ h => h) h⟩
        · cases c with
          | true => rw [if_pos rfl]; exact cn F1 M1 H1 _ s1 rm1 hq
          | false => rw [if_neg Bool.false_ne_true]; exact ⟨F1, M1, env, q, e, rm1, er.mono s1, cn.mono s1, cx.mono s1, hq⟩
        · obtain ⟨c, h1, h2⟩ := tru_det h
          refine (h2 _).1 ?_
          cases c with
          | true => exact (h2 _).2 h1
          | false => exact h1
      refine ⟨?_, w.pt, fun _ => w⟩
      · refine PE.imp (pe_orT A.E hb) fun σ H Q ⟨F, M, env, q, e, rm, er, cn, cx, h⟩ => ?_
        refine enter rm er cx h fun F1 M1 H1 v1 d1 s1 rm1 er1 cx1 r1 h => ?_
        obtain ⟨c, t1, t2⟩ := tru_of (Q := fun c H' => if c = true then Q v1 H' else liftE G W (wpE R b) σ H' Q) rm1 r1 (fun F2 M2 H2 c s2 rm2 q2 => by
          cases c with
          | true => rw [if_pos rfl]; exact cn F2 M2 H2 _ _ (s1.trans s2) rm2 (r1.mono s2) q2
          | false => rw [if_neg Bool.false_ne_true]; exact ⟨F2, M2, env, q, e, rm2, er1.mono s2, cn.mono (s1.trans s2), cx1.mono s2, q2⟩) h
        exact ⟨c, by rw [g.hK]; exact t1, t2⟩
    · cases h
  | .cmp op a b, G, W, X, sc, e, g, hN, hs, h => by
    unfold chkE at h; split at h
    · rw [Bool.and_eq_true, Bool.and_eq_true, Bool.and_eq_true] at h
      have e1 := of_decide_eq_true h.1.1.1
      subst e1
      have A := (snd_E a g hN hs h.1.1.2).E
      have B := (snd_E b g hN hs h.1.2).E
      have hu : X.A.units + 65 < cLine := by have := g.un; omega
      refine ⟨?_, ?_, fun ⟨_, _, _, z⟩ => nomatch z⟩
      · refine PE.imp (pe_cmpR (opr_cmp (G := G) g.hK hu) A B (noset_ok h.2)) fun σ H Q ⟨F, M, env, q, e, rm, er, cn, cx, h⟩ => ?_
        refine enter rm er cx h fun F1 M1 H1 v1 d1 s1 rm1 er1 cx1 r1 h => enter rm1 er1 cx1 h fun F2 M2 H2 v2 d2 s2 rm2 er2 cx2 r2 h => ?_
        exact ⟨F2, M2, d1, d2, q, rm2, r1.mono s2, r2, cn.mono (s1.trans s2), h⟩
      · refine PT.imp (pt_cmpR (opr_cmp (G := G) g.hK hu) A B (noset_ok h.2)) fun σ H Q ⟨F, M, env, q, e, rm, er, cn, cx, h⟩ => ?_
        refine enter rm er cx h fun F1 M1 H1 v1 d1 s1 rm1 er1 cx1 r1 h => enter rm1 er1 cx1 h fun F2 M2 H2 v2 d2 s2 rm2 er2 cx2 r2 h => ?_
        refine ⟨F2, M2, d1, d2, _, rm2, r1.mono s2, r2, ?_, lift2_bl h⟩
        rintro F3 M3 H3 v3 d3 s3 rm3 r3 ⟨⟨b, rfl⟩, h⟩
        cases r3
        exact ⟨b, rfl, cn F3 M3 H3 _ (s1.trans (s2.trans s3)) rm3 h⟩
    · cases h
  | .ch2 o1 o2 a b c, G, W, X, sc, e, g, hN, hs, h => by
    unfold chkE at h; split at h
    · simp only [Bool.and_eq_true] at h
      obtain ⟨⟨⟨⟨⟨k1, k2⟩, k3⟩, k4⟩, k5⟩, k6⟩ := h
      have e1 := of_decide_eq_true k1
      have e2 := of_decide_eq_true k2
      subst e1 e2
      have hu : X.A.units + 65 < cLine := by have := g.un; omega
      have A := (snd_E a g hN hs k3).E
      have B := (snd_E b g hN hs k4).E
      have C := (snd_E c g hN hs k5).E
      refine ⟨?_, ?_, fun ⟨_, _, _, z⟩ => nomatch z⟩
      · refine PE.imp (pe_chain (opr_cmp (G := G) g.hK hu) (opr_cmp (G := G) g.hK hu) A B C (mem_lastMarks k6)) fun σ H Q ⟨F, M, env, q, e, rm, er, cn, cx, h⟩ => ?_
        refine enter rm er cx h fun F1 M1 H1 v1 d1 s1 rm1 er1 cx1 r1 h => enter rm1 er1 cx1 h fun F2 M2 H2 v2 d2 s2 rm2 er2 cx2 r2 h => ?_
        refine ⟨F2, M2, d1, d2, _, rm2, r1.mono s2, r2, ?_, lift2_bl h⟩
        rintro F3 M3 H3 v3 d3 s3 rm3 r3 ⟨⟨b, rfl⟩, h⟩
        cases r3
        refine ⟨b, rfl, ?_⟩
        cases b with
        | true =>
          rw [if_pos rfl]
          refine enter rm3 (er2.mono s3) (cx2.mono s3) h fun F4 M4 H4 v4 d4 s4 rm4 er4 cx4 r4 h => ?_
          exact ⟨F4, M4, d2, d4, q, rm4, r2.mono (s3.trans s4), r4, cn.mono (s1.trans (s2.trans (s3.trans s4))), h⟩
        | false =>
          rw [if_neg Bool.false_ne_true]
          exact cn F3 M3 H3 _ _ (s1.trans (s2.trans s3)) rm3 (.bl _) h
      · refine PT.imp (pt_chain (opr_cmp (G := G) g.hK hu) (opr_cmp (G := G) g.hK hu) A B C (mem_lastMarks k6)) fun σ H Q ⟨F, M, env, q, e, rm, er, cn, cx, h⟩ => ?_
        refine enter rm er cx h fun F1 M1 H1 v1 d1 s1 rm1 er1 cx1 r1 h => enter rm1 er1 cx1 h fun F2 M2 H2 v2 d2 s2 rm2 er2 cx2 r2 h => ?_
        refine ⟨F2, M2, d1, d2, _, rm2, r1.mono s2, r2, ?_, lift2_bl h⟩
        rintro F3 M3 H3 v3 d3 s3 rm3 r3 ⟨⟨b, rfl⟩, h⟩
        cases r3
        refine ⟨b, rfl, ?_⟩
        cases b with
        | true =>
          rw [if_pos rfl]
          refine enter rm3 (er2.mono s3) (cx2.mono s3) h fun F4 M4 H4 v4 d4 s4 rm4 er4 cx4 r4 h => ?_
          refine ⟨F4, M4, d2, d4, _, rm4, r2.mono (s3.trans s4), r4, ?_, lift2_bl h⟩
          rintro F5 M5 H5 v5 d5 s5 rm5 r5 ⟨⟨b, rfl⟩, h⟩
          cases r5
          exact ⟨b, rfl, cn F5 M5 H5 _ (s1.trans (s2.trans (s3.trans (s4.trans s5)))) rm5 h⟩
        | false =>
          rw [if_neg Bool.false_ne_true]
          exact ⟨false, rfl, cn F3 M3 H3 _ (s1.trans (s2.trans s3)) rm3 h⟩
    · cases h
  | .ch3 o1 o2 o3 a b c d, G, W, X, sc, e, g, hN, hs, h => by
    unfold chkE at h; split at h
    · simp only [Bool.and_eq_true] at h
      obtain ⟨⟨⟨⟨⟨⟨⟨k1, k2⟩, k3⟩, k4⟩, k5⟩, k6⟩, k7⟩, k8⟩ := h
      have e1 := of_decide_eq_true k1
      have e2 := of_decide_eq_true k2
      have e3 := of_decide_eq_true k3
      subst e1 e2 e3
      have hu : X.A.units + 65 < cLine := by have := g.un; omega
      have A := (snd_E a g hN hs k4).E
      have B := (snd_E b g hN hs k5).E
      have C := (snd_E c g hN hs k6).E
      have D' := (snd_E d g hN hs k7).E
      refine ⟨?_, ?_, fun ⟨_, _, _, z⟩ => nomatch z⟩
      · refine PE.imp (pe_chain3 (opr_cmp (G := G) g.hK hu) (opr_cmp (G := G) g.hK hu) (opr_cmp (G := G) g.hK hu) A B C D' (mem_lastMarks3 k8)) fun σ H Q ⟨F, M, env, q, e, rm, er, cn, cx, h⟩ => ?_
        refine enter rm er cx h fun F1 M1 H1 v1 d1 s1 rm1 er1 cx1 r1 h => enter rm1 er1 cx1 h fun F2 M2 H2 v2 d2 s2 rm2 er2 cx2 r2 h => ?_
        refine ⟨F2, M2, d1, d2, _, rm2, r1.mono s2, r2, ?_, lift2_bl h⟩
        rintro F3 M3 H3 v3 d3 s3 rm3 r3 ⟨⟨b, rfl⟩, h⟩
        cases r3
        refine ⟨b, rfl, ?_⟩
        cases b with
        | true =>
          rw [if_pos rfl]
          refine enter rm3 (er2.mono s3) (cx2.mono s3) h fun F4 M4 H4 v4 d4 s4 rm4 er4 cx4 r4 h => ?_
          refine ⟨F4, M4, d2, d4, _, rm4, r2.mono (s3.trans s4), r4, ?_, lift2_bl h⟩
          rintro F5 M5 H5 v5 d5 s5 rm5 r5 ⟨⟨b, rfl⟩, h⟩
          cases r5
          refine ⟨b, rfl, ?_⟩
          cases b with
          | true =>
            rw [if_pos rfl]
            refine enter rm5 (er4.mono s5) (cx4.mono s5) h fun F6 M6 H6 v6 d6 s6 rm6 er6 cx6 r6 h => ?_
            exact ⟨F6, M6, d4, d6, q, rm6, r4.mono (s5.trans s6), r6, cn.mono (s1.trans (s2.trans (s3.trans (s4.trans (s5.trans s6))))), h⟩
          | false =>
            rw [if_neg Bool.false_ne_true]
            exact cn F5 M5 H5 _ _ (s1.trans (s2.trans (s3.trans (s4.trans s5)))) rm5 (.bl _) h
        | false =>
          rw [if_neg Bool.false_ne_true]
          exact cn F3 M3 H3 _ _ (s1.trans (s2.trans s3)) rm3 (.bl _) h
      · refine PT.imp (pt_chain3 (opr_cmp (G := G) g.hK hu) (opr_cmp (G := G) g.hK hu) (opr_cmp (G := G) g.hK hu) A B C D' (mem_lastMarks3 k8)) fun σ H Q ⟨F, M, env, q, e, rm, er, cn, cx, h⟩ => ?_
        refine enter rm er cx h fun F1 M1 H1 v1 d1 s1 rm1 er1 cx1 r1 h => enter rm1 er1 cx1 h fun F2 M2 H2 v2 d2 s2 rm2 er2 cx2 r2 h => ?_
        refine ⟨F2, M2, d1, d2, _, rm2, r1.mono s2, r2, ?_, lift2_bl h⟩
        rintro F3 M3 H3 v3 d3 s3 rm3 r3 ⟨⟨b, rfl⟩, h⟩
        cases r3
        refine ⟨b, rfl, ?_⟩
        cases b with
        | true =>
          rw [if_pos rfl]
          refine enter rm3 (er2.mono s3) (cx2.mono s3) h fun F4 M4 H4 v4 d4 s4 rm4 er4 cx4 r4 h => ?_
          refine ⟨F4, M4, d2, d4, _, rm4, r2.mono (s3.trans s4), r4, ?_, lift2_bl h⟩
          rintro F5 M5 H5 v5 d5 s5 rm5 r5 ⟨⟨b, rfl⟩, h⟩
          cases r5
          refine ⟨b, rfl, ?_⟩
          cases b with
          | true =>
            rw [if_pos rfl]
            refine enter rm5 (er4.mono s5) (cx4.mono s5) h fun F6 M6 H6 v6 d6 s6 rm6 er6 cx6 r6 h => ?_
            refine ⟨F6, M6, d4, d6, _, rm6, r4.mono (s5.trans s6), r6, ?_, lift2_bl h⟩
            rintro F7 M7 H7 v7 d7 s7 rm7 r7 ⟨⟨b, rfl⟩, h⟩
            cases r7
            exact ⟨b, rfl, cn F7 M7 H7 _ (s1.trans (s2.trans (s3.trans (s4.trans (s5.trans (s6.trans s7)))))) rm7 h⟩
          | false =>
            rw [if_neg Bool.false_ne_true]
            exact ⟨false, rfl, cn F5 M5 H5 _ (s1.trans (s2.trans (s3.trans (s4.trans s5)))) rm5 h⟩
        | false =>
          rw [if_neg Bool.false_ne_true]
          exact ⟨false, rfl, cn F3 M3 H3 _ (s1.trans (s2.trans s3)) rm3 h⟩
    · cases h
  | .ife t a b, G, W, X, sc, e, g, hN, hs, h => by
    unfold chkE at h; split at h
    · rw [Bool.and_eq_true, Bool.and_eq_true] at h
      have TT := snd_E t g hN hs h.1.1
      have A := snd_E a g hN hs h.1.2
      have B := snd_E b g hN hs h.2
      refine ⟨?_, ?_, fun ⟨_, _, _, z⟩ => nomatch z⟩
      · refine PE.imp (pe_ifExp TT.T A.E B.E) fun σ H Q ⟨F, M, env, q, e, rm, er, cn, cx, h⟩ => ?_
        refine ⟨F, M, env, _, e, rm, er, fun F1 M1 H1 c s1 rm1 hq => ?_, cx, h⟩
        cases c with
        | true => rw [if_pos rfl]; exact ⟨F1, M1, env, q, e, rm1, er.mono s1, cn.mono s1, cx.mono s1, hq⟩
        | false => rw [if_neg Bool.false_ne_true]; exact ⟨F1, M1, env, q, e, rm1, er.mono s1, cn.mono s1, cx.mono s1, hq⟩
      · refine PT.imp (pt_ife TT.T A.T B.T) fun σ H Q ⟨F, M, env, q, e, rm, er, cn, cx, h⟩ => ?_
        refine ⟨F, M, env, _, e, rm, er, fun F1 M1 H1 c s1 rm1 hq => ?_, cx, h⟩
        cases c with
        | true => rw [if_pos rfl]; exact ⟨F1, M1, env, q, e, rm1, er.mono s1, cn.mono s1, cx.mono s1, hq⟩
        | false => rw [if_neg Bool.false_ne_true]; exact ⟨F1, M1, env, q, e, rm1, er.mono s1, cn.mono s1, cx.mono s1, hq⟩
    · cases h
  | .tup es, G, W, X, sc, e, g, hN, hs, h => by
    refine .plain g.hK (plain_of h rfl) ?_
    unfold chkE at h; split at h
    · refine PE.imp (pe_tup (snd_A es g hN hs h)) fun σ H Q ⟨F, M, env, q, e, rm, er, cn, cx, h⟩ => ?_
      refine enterA rm er cx h fun F1 M1 H1 vs ds s1 rm1 er1 cx1 rs h => ⟨by rw [rs.len]; exact h.1, fun p hp => newT_ok rm1 rs (cn.mono s1) h.2 hp⟩
    · cases h
  | .lst fr es, G, W, X, sc, e, g, hN, hs, h => by
    refine .plain g.hK (plain_of h rfl) ?_
    unfold chkE at h; split at h
    · refine PE.imp (pe_lst (snd_A es g hN hs h)) fun σ H Q ⟨F, M, env, q, e, rm, er, cn, cx, h⟩ => ?_
      exact enterA rm er cx h fun F1 M1 H1 vs ds s1 rm1 er1 cx1 rs h => newL_ok rm1 rs (cn.mono s1) h
    · cases h
  | .emp, G, W, X, sc, e, g, hN, hs, h => by
    refine .plain g.hK (plain_of h rfl) ?_
    unfold chkE at h; split at h
    · refine PE.imp pe_dnewK fun σ H Q ⟨F, M, env, q, e, rm, er, cn, cx, h⟩ => ?_
      intro d hd
      exact newE_ok rm cn h hd
    · cases h
  | .dct ks es, G, W, X, sc, e, g, hN, hs, h => by
    refine .plain g.hK (plain_of h rfl) ?_
    unfold chkE at h; split at h
    · rw [Bool.and_eq_true] at h
      obtain ⟨k1, k2⟩ := h
      have k1 := of_decide_eq_true k1
      obtain rfl : ks = [] := List.length_eq_zero_iff.mp k1
      obtain rfl : es = .nil := by
        cases es <;> first | rfl | (cases k2; done)
      refine PE.imp pe_dnewK fun σ H Q ⟨F, M, env, q, e, rm, er, cn, cx, h⟩ => ?_
      intro d hd
      have h1 : q (.loc d) ((M.upd d (.dic [])).upd d (.dic [])) := (h.2 d (rm.freeM hd)).2.2
      have e1 : (M.upd d (.dic [])).upd d (.dic []) = M.upd d (.dic []) := funext fun b => by
        by_cases z : b = d
        · subst z; unfold Mem.upd; rw [if_pos rfl, if_pos rfl]
        · unfold Mem.upd; rw [if_neg z]
      rw [e1] at h1
      exact cn F _ _ _ _ (Same.refl F) (rm.new (ob := .dic []) hd ⟨[], upd_same, .nil⟩) .loc h1
    · rename_i keys values pos
      simp only [Bool.and_eq_true] at h
      obtain ⟨⟨⟨⟨k1, k2⟩, k3⟩, k4⟩, k5⟩ := h
      have k3 := of_decide_eq_true k3
      have k4 := of_decide_eq_true k4
      have k5 := of_decide_eq_true k5
      have hl := chkK_len k1
      refine PE.imp (pe_disp (snd_D es g hN hs k1 k2 k5) (chkK_some k1) (hl.trans k5.symm) (by
        intro z
        rw [z, List.length_nil] at hl
        omega) (by rw [hl]; exact k4)) fun σ H Q ⟨F, M, env, q, e, rm, er, cn, cx, h⟩ => ?_
      intro p hp0
      have mp := rm.freeM hp0
      have rm0 : RM G F (M.upd p (.dic [])) (upd H p (.dK [])) := rm.new hp0 ⟨[], upd_same, .nil⟩
      refine pairs_read es rm0 er cx (h.2 p mp) (by rw [chkA_len k2, k5]) ?_
      intro F2 M2 H2 vs ds s2 rm2 rs ⟨h1, h2, h3⟩
      obtain ⟨nf, vks, g1, g2⟩ := rm2.mt p _ h1
      cases g2
      refine ⟨g1, ks.zip vs, zip_kV ks vs, ?_, ?_⟩
      · rw [List.length_zip]
        omega
      · exact cn F2 (M2.upd p (.dic (mergeD [] (ks.zip ds)))) (upd H2 p (.dK (mergeK [] (ks.zip vs)))) _ _ s2 (rm2.put (ob' := .dic (mergeD [] (ks.zip ds))) h1 ⟨_, upd_same, KVR.merge .nil rs⟩) .loc h3
    · cases h
  | .dget a i, G, W, X, sc, e, g, hN, hs, h => by
    refine .plain g.hK (plain_of h rfl) ?_
    unfold chkE at h; split at h
    · rw [Bool.and_eq_true, Bool.and_eq_true] at h
      have hu : X.A.units + 1 < cLine := by have := g.un; omega
      refine PE.imp (pe_dget hu ((snd_E a g hN hs h.1.1).E) ((snd_E i g hN hs h.1.2).E) (nosl_ok h.2)) fun σ H Q ⟨F, M, env, q, e, rm, er, cn, cx, h⟩ => ?_
      refine enter rm er cx h fun F1 M1 H1 v1 d1 s1 rm1 er1 cx1 r1 h => enter rm1 er1 cx1 h fun F2 M2 H2 v2 d2 s2 rm2 er2 cx2 r2 h => ?_
      obtain ⟨a, kvs, k, v, rfl, e1, e2, e3, h⟩ := dget_inv h
      cases r1
      obtain ⟨nf, vks, g1, g2⟩ := rm2.mt a _ e1
      obtain ⟨w, w1, w2⟩ := g2.look e3
      refine ⟨a, w, rfl, ?_, cn F2 M2 H2 _ _ (s1.trans s2) rm2 w2 h⟩
      rw [key_rel r2 e2, ← w1]
      exact DGet.k g1
    · cases h
  | .call f es, G, W, X, sc, e, g, hN, hs, h => by
    refine .plain g.hK (plain_of h rfl) ?_
    unfold chkE at h; split at h
    · rename_i x p e1 es' pos
      rw [Bool.and_eq_true, Bool.and_eq_true] at h
      obtain ⟨g1, g2⟩ := gl_of hs h.1.2
      obtain ⟨ad, fd, ps, m1, m2, m3, m4, m5⟩ := g.fns f x (of_decide_eq_true h.1.1)
      obtain ⟨s1, s2⟩ := tr_head (env := X.env) (pos := pos) h.2
      have nmx := of_decide_eq_true h.1.1
      refine PE.imp (pe_callS (E := WE W) m5 ((g.room (g.hn f x (of_decide_eq_true h.1.1))).mono (Nat.le_succ _)) g1 m1 m2 m3 (passAt g.tk) (snd_A es g hN hs h.2) g2 s1 s2) fun σ H Q ⟨F, M, env, q, e, rm, er, cn, cx, h⟩ => ?_
      exact enterA rm er cx h fun F1 M1 H1 vs ds t1 rm1 er1 cx1 rs h => ⟨by rw [rs.len]; exact g.len f x ds M1 q e nmx h, G.P, F1, M1, ds, q, e, rm1, rs, cn.mono t1, cx1, h⟩
    · cases h
  | .cll fs i es, G, W, X, sc, e, g, hN, hs, h => by
    refine .plain g.hK (plain_of h rfl) ?_
    unfold chkE at h; split at h
    · rename_i ns p1 i' p2 e1 es' pos
      simp only [Bool.and_eq_true] at h
      obtain ⟨⟨⟨⟨⟨k1, k2⟩, k0⟩, k3⟩, k4⟩, k5⟩ := h
      have k2 := of_decide_eq_true k2
      have k0 := of_decide_eq_true k0
      obtain ⟨vs, pa, hl, hv⟩ := chkFn_ok g hs fs k1
      obtain ⟨s1, s2⟩ := tr_head (env := X.env) (pos := pos) k5
      have hot : tb.hot = true := by
        cases fs with
        | nil => cases k0
        | cons f fs =>
          obtain ⟨v, -, x, -, -, -, q, -⟩ := hv 0 f rfl
          exact g.hn f x q
      refine PE.imp (pe_callF (E := WE W) (pe_ix L2.ix_list (pe_lst pa) ((snd_E i g hN hs k3).E) (plainIx_ok k4)) ((g.room hot).mono (Nat.le_succ _)) (passAt g.tk) (snd_A es g hN hs k5) rfl s1 s2) fun σ H Q ⟨F, M, env, q, e, rm, er, cn, cx, h⟩ => ?_
      refine ⟨by rw [hl]; exact Nat.le_trans k2 (by decide), fun p hp => ?_⟩
      have sm := same_upd (o := .lst vs) (rm.freeF hp)
      refine enter (rm.frz hp) (er.mono sm) (cx.mono sm) h fun F1 M1 H1 v1 d1 t1 rm1 er1 cx1 r1 h => ?_
      cases d1 with
      | int j =>
        cases r1
        revert h
        dsimp only
        cases q1 : atI fs j with
        | none => exact fun h => h.elim
        | some f =>
          intro h
          obtain ⟨v, a1, x, ad, fd, ps, b1, rfl, b2, b3, b4⟩ := atI_map hl hv q1
          refine ⟨p, vs, j, _, rfl, rfl, .of (rm1.fz _ _ (t1 _ _ upd_same)), a1, ad, fd, ps, _, rfl, b2, b3, b4, ?_⟩
          exact enterA rm1 er1 cx1 h fun F2 M2 H2 ws ds t2 rm2 er2 cx2 rs h => ⟨by rw [rs.len]; exact g.len f x ds M2 q e b1 h, G.P, F2, M2, ds, q, e, rm2, rs, cn.mono (sm.trans (t1.trans t2)), cx2, h⟩
      | _ => exact h.elim
    · cases h
  | .bi b fr es, G, W, X, sc, e, g, hN, hs, h => by
    refine .plain g.hK (plain_of h rfl) ?_
    unfold chkE at h; split at h
    · rename_i x p e1 es' pos
      rw [Bool.and_eq_true, Bool.and_eq_true] at h
      obtain ⟨s1, s2⟩ := tr_head (env := X.env) (pos := pos) h.2
      refine PE.imp (pe_bi (G := G) (fr := fr) g hs (of_decide_eq_true h.1.1) h.1.2 (snd_A es g hN hs h.2) s1 s2) fun σ H Q ⟨F, M, env, q, e, rm, er, cn, cx, h⟩ => ?_
      exact enterA rm er cx h fun F1 M1 H1 vs ds s1 rm1 er1 cx1 rs h => ⟨F1, M1, ds, q, rm1, rs, cn.mono s1, h⟩
    · cases h
  | .isi a t, G, W, X, sc, e, g, hN, hs, h => by
    refine .plain g.hK (plain_of h rfl) ?_
    unfold chkE at h; split at h
    · rename_i x p a' y p2 pos
      simp only [Bool.and_eq_true] at h
      obtain ⟨⟨⟨⟨⟨k1, k2⟩, k3⟩, k4⟩, k5⟩, k6⟩ := h
      have e1 := of_decide_eq_true k1
      have e2 := of_decide_eq_true k5
      subst e1 e2
      obtain ⟨g1, g2, g3⟩ := bn_of g hs k2
      obtain ⟨j1, j2, j3⟩ := bn_of g hs k6
      have pt : PE X (.Name (tyNm t) p2) (tC (.ty (tyN t))) := pe_bltn j1 j3 (ty_boot t) rfl (ty_no t).1 j2
      refine PE.imp (pe_callB call_isi g1 g3 PyProof.Rows.boot_isinstance (pa_cons ((snd_E a g hN hs k3).E) (pa_cons pt pa_nil rfl) (star_ok k4)) (by decide +kernel) g2 (star_ok k4) rfl) fun σ H Q ⟨F, M, env, q, e, rm, er, cn, cx, h⟩ => ?_
      refine enter rm er cx h fun F1 M1 H1 v1 d1 s1 rm1 er1 cx1 r1 h => ?_
      cases e1 : isiB t d1 M1 with
      | none => rw [e1] at h; exact h.elim
      | some b =>
        rw [e1] at h
        obtain ⟨n, t1, t2⟩ := isi_ok g.hK rm1 r1 e1
        exact ⟨v1, .ty (tyN t), .type n, .type (tyN t), b, rfl, .ty _, t1, t2, cn F1 M1 H1 _ _ s1 rm1 (.bl _) h⟩
    · cases h
  | .itr _, G, W, X, sc, e, g, hN, hs, h => by cases h
  | .ist a ts, G, W, X, sc, e, g, hN, hs, h => by
    refine .plain g.hK (plain_of h rfl) ?_
    unfold chkE at h; split at h
    · rename_i x p a' es p3 p4 pos
      simp only [Bool.and_eq_true] at h
      obtain ⟨⟨⟨⟨⟨⟨k1, k2⟩, k3⟩, k4⟩, k5⟩, k6⟩, k7⟩ := h
      have e1 := of_decide_eq_true k1
      have k6 := of_decide_eq_true k6
      have k7 := of_decide_eq_true k7
      subst e1
      obtain ⟨g1, g2, g3⟩ := bn_of g hs k2
      obtain ⟨pa, pu⟩ := chkTy_ok (G := G) g hs ts k5
      refine PE.imp (pe_callB call_isiT g1 g3 PyProof.Rows.boot_isinstance (pa_cons ((snd_E a g hN hs k3).E) (pa_cons (pe_tup pa) pa_nil rfl) (star_ok k4)) (by decide +kernel) g2 (star_ok k4) rfl) fun σ H Q ⟨F, M, env, q, e, rm, er, cn, cx, h⟩ => ?_
      refine enter rm er cx h fun F1 M1 H1 v1 d1 s1 rm1 er1 cx1 r1 h => ?_
      refine ⟨by rw [List.length_map]; exact Nat.le_trans k6 (by decide), fun tp hp => ?_⟩
      cases e1 : istB ts d1 M1 with
      | none => rw [e1] at h; exact h.elim
      | some b =>
        rw [e1] at h
        have hq9 : q (.bl b) M1 := h
        obtain ⟨t, ts, rfl⟩ : ∃ t ts', ts = t :: ts' := by
          cases ts with
          | nil => exact absurd k7 (Nat.lt_irrefl _)
          | cons t ts => exact ⟨t, ts, rfl⟩
        · obtain ⟨n, t1, t2⟩ := ist_ok g.hK rm1 r1 e1
          have rm2 : RM G (upd F1 tp (.tup ((t :: ts).map fun t => V.ty (tyN t)))) M1 (upd H1 tp (.tup ((t :: ts).map fun t => V.ty (tyN t)))) := rm1.frz hp
          have r2 := r1.mono (same_upd (o := .tup ((t :: ts).map fun t => V.ty (tyN t))) (rm1.freeF hp))
          obtain ⟨n2, u1, u2⟩ := ist_ok g.hK rm2 r2 e1
          exact ⟨v1, tp, _, .type n2, _, b, rfl, upd_same, pu, u1, u2, cn _ M1 _ _ _ (s1.trans (same_upd (rm1.freeF hp))) rm2 (.bl _) hq9⟩
    · cases h
  | .dgt a i, G, W, X, sc, e, g, hN, hs, h => by
    refine .plain g.hK (plain_of h rfl) ?_
    unfold chkE at h; split at h
    · rename_i o' m ap k' cp
      simp only [Bool.and_eq_true] at h
      obtain ⟨⟨⟨⟨⟨k1, k2⟩, k3⟩, k4⟩, k5⟩, k6⟩ := h
      have e1 := of_decide_eq_true k1
      subst e1
      have hu : X.A.units + 1 < cLine := by have := g.un; omega
      have hst := star_ok (env := X.env) (es := []) k6
      refine PE.imp (pe_dget1 hu ((snd_E a g hN hs k3).E) ((snd_E i g hN hs k5).E) ⟨plainO_ok k4, by rw [hst]; rfl, k2, by rw [hst]; rfl⟩) fun σ H Q ⟨F, M, env, q, e, rm, er, cn, cx, h⟩ => ?_
      refine enter rm er cx h fun F1 M1 H1 v1 d1 s1 rm1 er1 cx1 r1 h => ?_
      obtain ⟨h0, h⟩ := h
      obtain ⟨kv0, h0⟩ := Option.isSome_iff_exists.mp h0
      obtain ⟨a, rfl, hm⟩ := dic_in h0
      cases r1
      obtain ⟨nf, vks, g1, g2⟩ := rm1.mt a _ hm
      refine ⟨a, rfl, .inl ⟨_, Rd.of g1⟩, ?_⟩
      refine enter rm1 er1 cx1 h fun F2 M2 H2 v2 d2 s2 rm2 er2 cx2 r2 h => ?_
      unfold dgtW at h
      split at h
      · rename_i kvs k hd hk
        obtain ⟨a', e1, hm2⟩ := dic_in hd
        cases e1
        obtain ⟨nf2, vk2, j1, j2⟩ := rm2.mt a _ hm2
        refine ⟨valV vk2 k, ?_, ?_⟩
        · rw [keyV r2 hk]; exact DGet.k j1
        · cases e2 : lookD kvs k with
          | none =>
            rw [e2] at h
            rw [j2.lookN e2]
            exact cn F2 M2 H2 _ _ (s1.trans s2) rm2 .non h
          | some d =>
            rw [e2] at h
            obtain ⟨w, w1, w2⟩ := j2.look e2
            rw [w1]
            exact cn F2 M2 H2 _ _ (s1.trans s2) rm2 w2 h
      · exact h.elim
    · cases h
  | .isx a c, G, W, X, sc, e, g, hN, hs, h => by
    refine .plain g.hK (plain_of h rfl) ?_
    unfold chkE at h; split at h
    · rename_i x p a' y p2 pos
      simp only [Bool.and_eq_true] at h
      obtain ⟨⟨⟨⟨k1, k2⟩, k3⟩, k4⟩, k5⟩ := h
      have e1 := of_decide_eq_true k1
      subst e1
      obtain ⟨g1, g2, g3⟩ := bn_of g hs k2
      have pt : ∃ cv : V, PE X (.Name y p2) (tC cv) ∧ ∀ k C, G.cl k = some C → ∃ u, L2.ClsV cv u ∧ PySem.W.kitOne X.K (.ref C) u = some (subX k c) := by
        unfold xnB at k5
        rw [Bool.or_eq_true] at k5
        rcases k5 with k5 | k5
        · simp only [Bool.and_eq_true] at k5
          obtain ⟨⟨c1, c2⟩, c3⟩ := k5
          have e1 := of_decide_eq_true c1
          have e2 := of_decide_eq_true c2
          subst e1 e2
          obtain ⟨j1, j2, j3⟩ := bn_of g hs c3
          refine ⟨.ty "ValueError", pe_bltn j1 j3 PyProof.Rows.Boot.«ValueError» rfl (by decide) j2, fun k C hk => ⟨_, .ty _, ?_⟩⟩
          rw [g.xt.ve k C hk]
          unfold subX
          rw [decide_eq_true (show (0 : Nat) ≤ 1 by decide), Bool.or_true]
        · rw [Bool.and_eq_true] at k5
          obtain ⟨q, hq, e2⟩ := List.any_eq_true.mp k5.1
          have e2 := of_decide_eq_true e2
          subst e2
          obtain ⟨D, m1, m2⟩ := g.xt.nm _ hq
          obtain ⟨j1, j2⟩ := gl_of hs k5.2
          exact ⟨.ref D, pe_glob j1 m1 rfl j2, fun k C hk => ⟨_, .own D, (g.xt.sub k C c D hk m2).1⟩⟩
      obtain ⟨cv, pt, ck⟩ := pt
      refine PE.imp (pe_callB L2.call_isX g1 g3 PyProof.Rows.boot_isinstance (pa_cons ((snd_E a g hN hs k3).E) (pa_cons pt pa_nil rfl) (star_ok k4)) (by decide +kernel) g2 (star_ok k4) rfl) fun σ H Q ⟨F, M, env, q, e, rm, er, cn, cx, h⟩ => ?_
      refine enter rm er cx h fun F1 M1 H1 v1 d1 s1 rm1 er1 cx1 r1 h => ?_
      unfold isxW at h
      split at h
      · rename_i p
        split at h
        · rename_i k fs e1
          cases r1
          obtain ⟨nf, C, dd, h1, h2, h3⟩ := rm1.mt p _ e1
          obtain ⟨u, u1, u2⟩ := ck k C h1
          refine ⟨p, C, cv, u, subX k c, rfl, ⟨dd, h2, ?_⟩, by rw [g.hK]; exact (g.hK ▸ g.xt.xc k C h1), u1, u2, cn F1 M1 H1 _ _ s1 rm1 (.bl _) h⟩
          rcases h3 with h3 | ⟨d, fvs, h4, h5, h6⟩
          · exact .inl h3.2
          · exact .inr ⟨d, fvs, h4, rm1.fz _ _ h5⟩
        · exact h.elim
      · exact h.elim
    · cases h
  | .ixs a cs, G, W, X, sc, e, g, hN, hs, h => by
    refine .plain g.hK (plain_of h rfl) ?_
    unfold chkE at h; split at h
    · rename_i x p a' es p3 p4 pos
      simp only [Bool.and_eq_true] at h
      obtain ⟨⟨⟨⟨⟨k1, k2⟩, k3⟩, k4⟩, k5⟩, k6⟩ := h
      have e1 := of_decide_eq_true k1
      have k6 := of_decide_eq_true k6
      subst e1
      obtain ⟨g1, g2, g3⟩ := bn_of g hs k2
      obtain ⟨vs, us, pa, pu, pl, pk⟩ := chkC_ok (G := G) g hs cs k5
      refine PE.imp (pe_callB L2.call_isXT g1 g3 PyProof.Rows.boot_isinstance (pa_cons ((snd_E a g hN hs k3).E) (pa_cons (pe_tup pa) pa_nil rfl) (star_ok k4)) (by decide +kernel) g2 (star_ok k4) rfl) fun σ H Q ⟨F, M, env, q, e, rm, er, cn, cx, h⟩ => ?_
      refine enter rm er cx h fun F1 M1 H1 v1 d1 s1 rm1 er1 cx1 r1 h => ?_
      unfold ixsW at h
      split at h
      · rename_i p
        split at h
        · rename_i k fs e1
          cases r1
          obtain ⟨nf, C, dd, h1, h2, h3⟩ := rm1.mt p _ e1
          refine ⟨by rw [pl]; exact Nat.le_trans k6 (by decide), fun tp ht => ?_⟩
          have nF := rm1.freeF ht
          have s2 := same_upd (o := .tup vs) nF
          refine ⟨p, C, tp, vs, us, _, rfl, upd_same, pu, ⟨dd, by rw [upd_ne (ne_of_none h2 ht)]; exact h2, ?_⟩, by rw [g.hK]; exact (g.hK ▸ g.xt.xc k C h1), pk k C h1, cn (upd F1 tp (.tup vs)) M1 _ _ _ (s1.trans s2) (rm1.frz ht) (.bl _) h⟩
          rcases h3 with h3 | ⟨d, fvs, h4, h5, h6⟩
          · exact .inl h3.2
          · exact .inr ⟨d, fvs, h4, by rw [upd_ne (ne_of_none (rm1.fz _ _ h5) ht)]; exact rm1.fz _ _ h5⟩
        · exact h.elim
      · exact h.elim
    · cases h
  | .atr a f, G, W, X, sc, e, g, hN, hs, h => by
    refine .plain g.hK (plain_of h rfl) ?_
    unfold chkE at h; split at h
    · simp only [Bool.and_eq_true] at h
      obtain ⟨⟨⟨k1, k2⟩, k3⟩, k4⟩ := h
      have e1 := of_decide_eq_true k1
      subst e1
      refine PE.imp (L2.pe_atr ((snd_E a g hN hs k2).E) (plainO_ok k3)) fun σ H Q ⟨F, M, env, q, e, rm, er, cn, cx, h⟩ => ?_
      refine enter rm er cx h fun F1 M1 H1 v1 d1 s1 rm1 er1 cx1 r1 h => ?_
      unfold atrW at h
      split at h
      · rename_i p
        split at h
        · rename_i k fs e1
          split at h
          · rename_i d e2
            cases r1
            obtain ⟨nf, C, dd, h1, h2, h3⟩ := rm1.mt p _ e1
            rcases h3 with h3 | ⟨dx, fvs, h4, h5, h6⟩
            · rw [h3.1] at e2
              cases e2
            · obtain ⟨v, v1, v2⟩ := fvs_look h6 e2
              subst h4
              exact ⟨p, C, dx, fvs, v, rfl, h2, rm1.fz _ _ h5, g.xt.xc k C h1, g.xt.na k C f h1 k4, v1, cn F1 M1 H1 _ _ s1 rm1 v2 h⟩
          · exact h.elim
        · exact h.elim
      · exact h.elim
    · cases h
  | .fld a f, G, W, X, sc, e, g, hN, hs, h => by
    refine .plain g.hK (plain_of h rfl) ?_
    unfold chkE at h; split at h
    · simp only [Bool.and_eq_true] at h
      obtain ⟨⟨⟨k1, k2⟩, k3⟩, k4⟩ := h
      have e1 := of_decide_eq_true k1
      subst e1
      obtain ⟨g1, g2, e4⟩ := List.any_eq_true.mp k4
      have e4 := of_decide_eq_true e4
      subst e4
      refine PE.imp (pe_fld ((snd_E a g hN hs k2).E) (plainO_ok k3)) fun σ H Q ⟨F, M, env, q, e, rm, er, cn, cx, h⟩ => ?_
      refine enter rm er cx h fun F1 M1 H1 v1 d1 s1 rm1 er1 cx1 r1 h => ?_
      unfold fldW at h
      split at h
      · rename_i p
        split at h
        · rename_i k fs e1
          split at h
          · rename_i d e2
            cases r1
            obtain ⟨nf, C, dx, fvs, h1, h2, h3⟩ := rm1.mt p _ e1
            obtain ⟨v, v1, v2⟩ := fvs_look h3 e2
            obtain ⟨c1, c2⟩ := g.ob.cls k C h1
            exact ⟨p, C, dx, fvs, v, rfl, h2, c1, c2 _ g2, v1, cn F1 M1 H1 _ _ s1 rm1 v2 h⟩
          · exact h.elim
        · exact h.elim
      · exact h.elim
    · cases h
  | .mth o c m f es, G, W, X, sc, e, g, hN, hs, h => by
    refine .plain g.hK (plain_of h rfl) ?_
    unfold chkE at h; split at h
    · rename_i o' m' ap es' cp
      simp only [Bool.and_eq_true] at h
      obtain ⟨⟨⟨⟨⟨⟨k1, k2⟩, k3⟩, k4⟩, k5⟩, k6⟩, k7⟩ := h
      have e1 := of_decide_eq_true k1
      subst e1
      have nmx := of_decide_eq_true k7
      obtain ⟨C, ad, fd, ps, m1, m2, m3, m4, m5⟩ := g.ob.mts f c m nmx
      obtain ⟨c1, c2⟩ := g.ob.cls c C m1
      have hr := (g.room (g.ob.hot f c m nmx)).mono (Nat.le_succ _)
      have rd : ∀ {F1 M1 H1 v1 d1}, RM G F1 M1 H1 → RelD G F1 v1 d1 → mthW d1 c m M1 → ∃ a dx fs, v1 = .ref a ∧ H1 a = some (.ins C dx fs) ∧ fs.lookup m = none := fun {F1 M1 H1 v1 d1} rm1 r1 h => by
        unfold mthW at h
        split at h
        · rename_i p
          split at h
          · rename_i k fs e1
            obtain ⟨rfl, h⟩ := h
            cases r1
            obtain ⟨nf, C', dx, fvs, h1, h2, h3⟩ := rm1.mt p _ e1
            rw [m1] at h1
            cases h1
            exact ⟨p, dx, fvs, rfl, h2, fvs_none h3 h⟩
          · exact h.elim
        · exact h.elim
      cases es' with
      | nil =>
        cases chkA_nil k5
        refine PE.imp (L2.pe_methX0 (E := WE W) (snd_E o g hN hs k3).E c1 m2 m5 hr m3 (passAt g.tk) (plainO_ok k4) k2) fun σ H Q ⟨F, M, env, q, e, rm, er, cn, cx, h⟩ => ?_
        refine enter rm er cx h fun F1 M1 H1 v1 d1 s1 rm1 er1 cx1 r1 h => ?_
        obtain ⟨a, dx, fs, z1, z2, z3⟩ := rd rm1 r1 h.1
        exact ⟨a, dx, fs, z1, z2, z3, by rw [show ([v1] : List V).length = [d1].length from rfl]; exact g.ob.len f c m [d1] M1 q e nmx h.2, G.P, F1, M1, [d1], q, e, rm1, .cons r1 .nil, cn.mono s1, cx1, h.2⟩
      | cons e0 es' =>
        obtain ⟨s1, s2⟩ := tr_head (env := X.env) (pos := cp) k5
        refine PE.imp (L2.pe_methX (E := WE W) (snd_E o g hN hs k3).E c1 m2 m5 hr m3 (passAt g.tk) (snd_A es g hN hs k5) (plainO_ok k4) ?_ k2 s1 s2) fun σ H Q ⟨F, M, env, q, e, rm, er, cn, cx, h⟩ => ?_
        · unfold methodCallForm
          rw [tr_all k5]
          show (true && (true && decide ((e0 :: es').length + 0 + (if ([] : List Keyword).isEmpty then 0 else 1) < 30))) = true
          rw [Bool.true_and, Bool.true_and]
          refine decide_eq_true ?_
          have hl := of_decide_eq_true k6
          simp only [List.isEmpty_nil, if_true]
          simp only [List.length_cons] at hl ⊢
          omega
        · refine enter rm er cx h fun F1 M1 H1 v1 d1 s1 rm1 er1 cx1 r1 h => ?_
          obtain ⟨a, dx, fs, z1, z2, z3⟩ := rd rm1 r1 h.1
          refine ⟨a, dx, fs, z1, z2, z3, ?_⟩
          refine enterA rm1 er1 cx1 h.2 fun F2 M2 H2 vs ds s2 rm2 er2 cx2 rs h => ?_
          have rs2 : RelDs G F2 (v1 :: vs) (d1 :: ds) := .cons (r1.mono s2) rs
          exact ⟨by rw [rs2.len]; exact g.ob.len f c m _ M2 q e nmx h, G.P, F2, M2, _, q, e, rm2, rs2, cn.mono (s1.trans s2), cx2, h⟩
    · cases h
  | .mk c f es, G, W, X, sc, e, g, hN, hs, h => by
    refine .plain g.hK (plain_of h rfl) ?_
    unfold chkE at h; split at h
    · rename_i x p es' pos
      simp only [Bool.and_eq_true] at h
      obtain ⟨⟨⟨k1, k2⟩, k3⟩, k4⟩ := h
      obtain ⟨j1, j2⟩ := gl_of hs k2
      have nmx := of_decide_eq_true k3
      have hx : (c, x) ∈ tb.oc := by
        obtain ⟨p, hp, e⟩ := List.any_eq_true.mp k1
        rw [← of_decide_eq_true e]
        exact hp
      obtain ⟨C, ad, fd, ps, m1, m2, m3, m4, m5⟩ := g.ob.mts f c "__init__" nmx
      obtain ⟨C', n1, n2, n3, n4⟩ := g.ob.mks c x hx
      rw [m1] at n1
      cases n1
      have mk : Mk X.K C ad := ⟨n3, m2.at_, m2.fn, n4⟩
      have hr := g.room (g.ob.hot f c _ nmx)
      have fin : ∀ {F1 M1 H1 vs ds q Q e} {σ : L2.St}, RM G F1 M1 H1 → RelDs G F1 vs ds → Cn G F1 q Q → CnX G F1 e (fun c d H => W c d σ H) → (∀ p, M1 p = none → R f (.loc p :: ds) (M1.upd p (.obj c [])) (fun v M2 => v = .non ∧ q (.loc p) M2) e) →
          ∀ x dx, H1 x = none → H1 dx = none → dx ≠ x → liftSp G (tb.ar f) (R f) (.ref x :: vs) (upd (upd H1 dx (.own x)) x (.ins C dx [])) (fun v H2 => v = .non ∧ Q (.ref x) H2) (WE W σ) := fun {F1 M1 H1 vs ds q Q e σ} rm1 rs cn cx h x dx hx hdx ne => by
        have rm2 := rm1.junk (o := .own x) hdx
        have hx2 : upd H1 dx (.own x) x = none := by rw [upd_ne (Ne.symm ne)]; exact hx
        have rm3 : RM G F1 (M1.upd x (.obj c [])) (upd (upd H1 dx (.own x)) x (.ins C dx [])) := rm2.new (ob := .obj c []) hx2 ⟨C, dx, [], m1, upd_same, .nil⟩
        have h := h x (rm1.freeM hx)
        have rs2 : RelDs G F1 (.ref x :: vs) (.loc x :: ds) := .cons .loc rs
        refine ⟨by rw [rs2.len]; exact g.ob.len f c _ _ _ _ _ nmx h, G.P, F1, _, _, _, _, rm3, rs2, fun F2 M2 H2 v d s2 rm' r' hq => ?_, cx, h⟩
        obtain ⟨rfl, hq⟩ := hq
        cases r'
        exact ⟨rfl, cn F2 M2 H2 _ _ s2 rm' .loc hq⟩
      cases es' with
      | nil =>
        cases chkA_nil k4
        refine PE.imp (L2.pe_makeX0 (E := WE W) mk m5 hr j1 n2 m3 (passAt g.tk) j2) fun σ H Q ⟨F, M, env, q, e, rm, er, cn, cx, h⟩ => ?_
        exact fin rm .nil cn cx h
      | cons e0 es' =>
        obtain ⟨s1, s2⟩ := tr_head (env := X.env) (pos := pos) k4
        refine PE.imp (L2.pe_makeX (E := WE W) mk m5 hr j1 n2 m3 (passAt g.tk) (snd_A es g hN hs k4) j2 s1 s2) fun σ H Q ⟨F, M, env, q, e, rm, er, cn, cx, h⟩ => ?_
        exact enterA rm er cx h fun F1 M1 H1 vs ds t1 rm1 er1 cx1 rs h => fin rm1 rs (cn.mono t1) cx1 h
    · cases h
  | .bm b fr o es, G, W, X, sc, e, g, hN, hs, h => by
    refine .plain g.hK (plain_of h rfl) ?_
    unfold chkE at h; split at h
    · rename_i o' m ap es' cp
      simp only [Bool.and_eq_true] at h
      obtain ⟨⟨⟨⟨⟨k1, k2⟩, k3⟩, k4⟩, k5⟩, k6⟩ := h
      have e1 := of_decide_eq_true k1
      subst e1
      refine PE.imp (pe_bmm (G := G) (fr := fr) g b (snd_E o g hN hs k3).E k4 (snd_A es g hN hs k5) k5 (of_decide_eq_true k6) k2) fun σ H Q ⟨F, M, env, q, e, rm, er, cn, cx, h⟩ => ?_
      refine enter rm er cx h fun F1 M1 H1 v1 d1 s1 rm1 er1 cx1 r1 h => ⟨rcv_ok g.hK rm1 r1 h.1, ?_⟩
      exact enterA rm1 er1 cx1 h.2 fun F2 M2 H2 vs ds s2 rm2 er2 cx2 rs h => ⟨F2, M2, d1, ds, q, rm2, r1.mono s2, rs, cn.mono (s1.trans s2), h⟩
    · cases h
  | .idx a i, G, W, X, sc, e, g, hN, hs, h => by
    refine .plain g.hK (plain_of h rfl) ?_
    unfold chkE at h; split at h
    · rw [Bool.and_eq_true, Bool.and_eq_true] at h
      refine PE.imp (pe_ix (ixr_idx (G := G) g.hK) ((snd_E a g hN hs h.1.1).E) ((snd_E i g hN hs h.1.2).E) (plainIx_ok h.2)) fun σ H Q ⟨F, M, env, q, e, rm, er, cn, cx, h⟩ => ?_
      refine enter rm er cx h fun F1 M1 H1 v1 d1 s1 rm1 er1 cx1 r1 h => enter rm1 er1 cx1 h fun F2 M2 H2 v2 d2 s2 rm2 er2 cx2 r2 h => ?_
      exact ⟨F2, M2, d1, d2, q, rm2, r1.mono s2, r2, cn.mono (s1.trans s2), h⟩
    · cases h
  | .sli fr a lo hi, G, W, X, sc, e, g, hN, hs, h => by
    refine .plain g.hK (plain_of h rfl) ?_
    unfold chkE at h; split at h
    · rw [Bool.and_eq_true, Bool.and_eq_true] at h
      refine PE.imp (pe_slice (slr_sli (G := G) g.hK (fr := fr)) ((snd_E a g hN hs h.1.1).E) (snd_P lo g hN hs h.1.2) (snd_P hi g hN hs h.2)) fun σ H Q ⟨F, M, env, q, e, rm, er, cn, cx, h⟩ => ?_
      refine enter rm er cx h fun F1 M1 H1 v1 d1 s1 rm1 er1 cx1 r1 h => enterP rm1 er1 cx1 h fun F2 M2 H2 l s2 rm2 er2 cx2 h => enterP rm2 er2 cx2 h fun F3 M3 H3 u s3 rm3 er3 cx3 h => ?_
      exact ⟨F3, M3, d1, q, rm3, r1.mono (s2.trans s3), cn.mono (s1.trans (s2.trans s3)), h⟩
    · cases h
  | .rev fr a, G, W, X, sc, e, g, hN, hs, h => by
    refine .plain g.hK (plain_of h rfl) ?_
    unfold chkE at h; split at h
    · refine PE.imp (pe_revA ((snd_E a g hN hs h).E)) fun σ H Q ⟨F, M, env, q, e, rm, er, cn, cx, h⟩ => ?_
      refine enter rm er cx h fun F1 M1 H1 v1 d1 s1 rm1 er1 cx1 r1 h => ?_
      rcases revW_cases h with ⟨ds, e1, h⟩ | ⟨ds, e1, h⟩
      · obtain ⟨p, vs, rfl, g1, g2⟩ := rd_L rm1 r1 e1
        exact Or.inl ⟨p, vs, rfl, by rw [g.hK]; exact g1, (newL_ok rm1 g2.rev (cn.mono s1) h).2⟩
      · subst e1
        obtain ⟨p, vs, rfl, g1, g2⟩ := rd_T rm1 r1
        exact Or.inr ⟨p, vs, rfl, by rw [g.hK]; exact g1, fun p hp => newT_ok rm1 g2.rev (cn.mono s1) h hp⟩
    · cases h
  | .lrg fr es, G, W, X, sc, e, g, hN, hs, h => by
    refine .plain g.hK (plain_of h rfl) ?_
    unfold chkE at h; split at h
    · rename_i x p y p2 e1 es' pos2 pos
      simp only [Bool.and_eq_true] at h
      obtain ⟨⟨⟨⟨k1, k2⟩, k3⟩, k4⟩, k5⟩ := h
      have q1 := of_decide_eq_true k1
      have q2 := of_decide_eq_true k3
      subst q1 q2
      obtain ⟨g1, g2, g3⟩ := bn_of g hs k2
      obtain ⟨j1, j2, j3⟩ := bn_of g hs k4
      obtain ⟨s1, s2⟩ := tr_head (env := X.env) (pos := pos2) k5
      refine PE.imp (pe_lrg (g.calm (g.hb .list_ (bn_mem k2))) g1 g3 j1 j3 (snd_A es g hN hs k5) s1 s2) fun σ H Q ⟨F, M, env, q, e, rm, er, cn, cx, h⟩ => ?_
      exact enterA rm er cx h fun F1 M1 H1 vs ds t1 rm1 er1 cx1 rs h => lrg_ok rm1 rs (cn.mono t1) h
    · cases h
  | .comp fr own tg iter cond elt, G, W, X, sc, e, g, hN, hs, h => by
    refine .plain g.hK (plain_of h rfl) ?_
    unfold chkE at h; split at h
    · rename_i elt' tg' iter' ifs' scope pos
      simp only [Bool.and_eq_true] at h
      obtain ⟨⟨⟨⟨⟨⟨k1, k2⟩, k3⟩, k4⟩, k5⟩, k6⟩, k7⟩ := h
      have own_eq : (ownOf N own).map (·.2) = own := by
        unfold ownOf
        rw [List.map_map]
        exact (List.map_congr_left fun a _ => rfl).trans (List.map_id own)
      have hsl : ∀ i ∈ slots tg, i ∈ own := fun i hi => by
        obtain ⟨j, hj, e⟩ := List.any_eq_true.mp (List.all_eq_true.mp k4 i hi)
        rw [eq_of_beq e]
        exact hj
      have hblk := blkOk_by k1
      rw [← hN, ← hs] at hblk
      rw [← hN] at own_eq
      have P := pe_lc (g := fun v σ H Q => ∃ P : Hp, liftG (G.hide P) tg v σ H Q) (tt := fun σ H Q => ∃ P : Hp, liftT (G.hide P) (fun _ _ _ _ => False) (wpC R cond) σ H Q) (te := fun σ H Q => ∃ P : Hp, liftE (G.hide P) (fun _ _ _ _ => False) (wpE R elt) σ H Q)
        (pos := pos) (g.calm k7.2) g.nd (snd_W iter g hN hs k2) hblk
        (fun s H C cl fp => PG.ex fun P => snd_G (G := G.hide P) (X := X.blk s H scope (compEnvC scope cl C X.env) fp) (sc := relS scope sc) (top := false) g.hK hN g.nd (env_relS hs) (g.calm k7.2) (fun z => by cases z) tg k3)
        (fun s H C cl fp => PTs.ex fun P => snd_F cond ((g.hide P).blk) hN (env_relS hs) k5)
        (fun s H C cl fp => PE.ex fun P => (snd_E elt ((g.hide P).blk) hN (env_relS hs) k6).E) (fold_ok k7.1)
      rw [own_eq] at P
      exact PE.imp P fun σ H Q q => comp_read hsl q
    · cases h
  | .nil, G, W, X, sc, e, g, hN, hs, h => by cases h
  | .cons _ _, G, W, X, sc, e, g, hN, hs, h => by cases h
  | .part _, G, W, X, sc, e, g, hN, hs, h => by cases h
  | .nopart, G, W, X, sc, e, g, hN, hs, h => by cases h
  | .itl _, G, W, X, sc, e, g, hN, hs, h => by cases h
  | .itt _, G, W, X, sc, e, g, hN, hs, h => by cases h
  | .its _, G, W, X, sc, e, g, hN, hs, h => by cases h
  | .it1 _, G, W, X, sc, e, g, hN, hs, h => by cases h
  | .it2 _ _, G, W, X, sc, e, g, hN, hs, h => by cases h
  | .it3 _ _ _, G, W, X, sc, e, g, hN, hs, h => by cases h
  | .ite _, G, W, X, sc, e, g, hN, hs, h => by cases h
  | .itz _ _, G, W, X, sc, e, g, hN, hs, h => by cases h
theorem snd_A : ∀ (ex : Ex) {G : Gx} {W : WX} {X : Cx} {sc : Scope} {es : List Expr}, Good G tb R k W X → X.N = N → X.env.scope = sc → chkA tb N ex sc es = true → PA X es (liftA G W (wpA R ex))
  | .nil, G, W, X, sc, es, g, hN, hs, h => by
    unfold chkA at h; split at h
    · exact PA.imp pa_nil fun σ H Q ⟨F, M, env, q, e, rm, er, cn, cx, h⟩ => cn F M H _ _ (Same.refl F) rm .nil h
    · cases h
  | .cons x xs, G, W, X, sc, es, g, hN, hs, h => by
    unfold chkA at h; split at h
    · rw [Bool.and_eq_true, Bool.and_eq_true] at h
      refine PA.imp (pa_cons (snd_E x g hN hs h.1.1).E (snd_A xs g hN hs h.2) (star_ok h.1.2)) fun σ H Q ⟨F, M, env, q, e, rm, er, cn, cx, h⟩ => ?_
      refine enter rm er cx h fun F1 M1 H1 v1 d1 s1 rm1 er1 cx1 r1 h => enterA rm1 er1 cx1 h fun F2 M2 H2 vs ds s2 rm2 er2 cx2 rs h => ?_
      exact cn F2 M2 H2 _ _ (s1.trans s2) rm2 (.cons (r1.mono s2) rs) h
    · cases h
  | .var _, G, W, X, sc, es, g, hN, hs, h => by cases h
  | .non, G, W, X, sc, es, g, hN, hs, h => by cases h
  | .bl _, G, W, X, sc, es, g, hN, hs, h => by cases h
  | .int _, G, W, X, sc, es, g, hN, hs, h => by cases h
  | .str _, G, W, X, sc, es, g, hN, hs, h => by cases h
  | .glob _ _, G, W, X, sc, es, g, hN, hs, h => by cases h
  | .bin _ _ _ _, G, W, X, sc, es, g, hN, hs, h => by cases h
  | .neg _, G, W, X, sc, es, g, hN, hs, h => by cases h
  | .not _, G, W, X, sc, es, g, hN, hs, h => by cases h
  | .and _ _, G, W, X, sc, es, g, hN, hs, h => by cases h
  | .or _ _, G, W, X, sc, es, g, hN, hs, h => by cases h
  | .cmp _ _ _, G, W, X, sc, es, g, hN, hs, h => by cases h
  | .ch2 _ _ _ _ _, G, W, X, sc, es, g, hN, hs, h => by cases h
  | .ch3 _ _ _ _ _ _ _, G, W, X, sc, es, g, hN, hs, h => by cases h
  | .ife _ _ _, G, W, X, sc, es, g, hN, hs, h => by cases h
  | .tup _, G, W, X, sc, es, g, hN, hs, h => by cases h
  | .lst _ _, G, W, X, sc, es, g, hN, hs, h => by cases h
  | .emp, G, W, X, sc, es, g, hN, hs, h => by cases h
  | .dct _ _, G, W, X, sc, es, g, hN, hs, h => by cases h
  | .dget _ _, G, W, X, sc, es, g, hN, hs, h => by cases h
  | .call _ _, G, W, X, sc, es, g, hN, hs, h => by cases h
  | .cll _ _ _, G, W, X, sc, es, g, hN, hs, h => by cases h
  | .bi _ _ _, G, W, X, sc, es, g, hN, hs, h => by cases h
  | .isi _ _, G, W, X, sc, es, g, hN, hs, h => by cases h
  | .ist _ _, G, W, X, sc, es, g, hN, hs, h => by cases h
  | .dgt _ _, G, W, X, sc, es, g, hN, hs, h => by cases h
  | .itr _, G, W, X, sc, es, g, hN, hs, h => by cases h
  | .isx _ _, G, W, X, sc, es, g, hN, hs, h => by cases h
  | .ixs _ _, G, W, X, sc, es, g, hN, hs, h => by cases h
  | .atr _ _, G, W, X, sc, es, g, hN, hs, h => by cases h
  | .bm _ _ _ _, G, W, X, sc, es, g, hN, hs, h => by cases h
  | .fld _ _, G, W, X, sc, es, g, hN, hs, h => by cases h
  | .mth _ _ _ _ _, G, W, X, sc, es, g, hN, hs, h => by cases h
  | .mk _ _ _, G, W, X, sc, es, g, hN, hs, h => by cases h
  | .idx _ _, G, W, X, sc, es, g, hN, hs, h => by cases h
  | .sli _ _ _ _, G, W, X, sc, es, g, hN, hs, h => by cases h
  | .rev _ _, G, W, X, sc, es, g, hN, hs, h => by cases h
  | .lrg _ _, G, W, X, sc, es, g, hN, hs, h => by cases h
  | .comp _ _ _ _ _ _, G, W, X, sc, es, g, hN, hs, h => by cases h
  | .part _, G, W, X, sc, es, g, hN, hs, h => by cases h
  | .nopart, G, W, X, sc, es, g, hN, hs, h => by cases h
  | .itl _, G, W, X, sc, es, g, hN, hs, h => by cases h
  | .itt _, G, W, X, sc, es, g, hN, hs, h => by cases h
  | .its _, G, W, X, sc, es, g, hN, hs, h => by cases h
  | .it1 _, G, W, X, sc, es, g, hN, hs, h => by cases h
  | .it2 _ _, G, W, X, sc, es, g, hN, hs, h => by cases h
  | .it3 _ _ _, G, W, X, sc, es, g, hN, hs, h => by cases h
  | .ite _, G, W, X, sc, es, g, hN, hs, h => by cases h
  | .itz _ _, G, W, X, sc, es, g, hN, hs, h => by cases h
theorem snd_D : ∀ (ex : Ex) {G : Gx} {W : WX} {X : Cx} {sc : Scope} {ks : List (Sum Int Str)} {keys : List (Option Expr)} {es : List Expr} {pos : Pos}, Good G tb R k W X → X.N = N → X.env.scope = sc → chkK ks keys = true → chkA tb N ex sc es = true → es.length = ks.length → PPs X pos keys es (trsOf G W R ks ex)
  | .nil, G, W, X, sc, ks, keys, es, pos, g, hN, hs, hk, h, hl => by
    unfold chkA at h; split at h
    · have : ks = [] := List.eq_nil_of_length_eq_zero hl.symm
      subst this
      have h2 := chkK_len hk
      have : keys = [] := List.eq_nil_of_length_eq_zero h2
      subst this
      exact pps_nil
    · cases h
  | .cons x xs, G, W, X, sc, ks, keys, es, pos, g, hN, hs, hk, h, hl => by
    unfold chkA at h; split at h
    · rename_i e' es'
      rw [Bool.and_eq_true, Bool.and_eq_true] at h
      match ks, keys, hk, hl with
      | k0 :: ks, e0 :: keys, hk, hl =>
        unfold chkK at hk
        rw [Bool.and_eq_true] at hk
        obtain ⟨e1, rfl⟩ := keyB_some hk.1
        exact pps_cons (key_pe hk.1) (snd_E x g hN hs h.1.1).E (snd_D xs g hN hs hk.2 h.2 (by simpa using hl))
      | [], _, _, hl => cases hl
      | _ :: _, [], hk, _ => cases hk
    · cases h
  | .var _, G, W, X, sc, ks, keys, es, pos, g, hN, hs, hk, h, hl => by cases h
  | .non, G, W, X, sc, ks, keys, es, pos, g, hN, hs, hk, h, hl => by cases h
  | .bl _, G, W, X, sc, ks, keys, es, pos, g, hN, hs, hk, h, hl => by cases h
  | .int _, G, W, X, sc, ks, keys, es, pos, g, hN, hs, hk, h, hl => by cases h
  | .str _, G, W, X, sc, ks, keys, es, pos, g, hN, hs, hk, h, hl => by cases h
  | .glob _ _, G, W, X, sc, ks, keys, es, pos, g, hN, hs, hk, h, hl => by cases h
  | .bin _ _ _ _, G, W, X, sc, ks, keys, es, pos, g, hN, hs, hk, h, hl => by cases h
  | .neg _, G, W, X, sc, ks, keys, es, pos, g, hN, hs, hk, h, hl => by cases h
  | .not _, G, W, X, sc, ks, keys, es, pos, g, hN, hs, hk, h, hl => by cases h
  | .and _ _, G, W, X, sc, ks, keys, es, pos, g, hN, hs, hk, h, hl => by cases h
  | .or _ _, G, W, X, sc, ks, keys, es, pos, g, hN, hs, hk, h, hl => by cases h
  | .cmp _ _ _, G, W, X, sc, ks, keys, es, pos, g, hN, hs, hk, h, hl => by cases h
  | .ch2 _ _ _ _ _, G, W, X, sc, ks, keys, es, pos, g, hN, hs, hk, h, hl => by cases h
  | .ch3 _ _ _ _ _ _ _, G, W, X, sc, ks, keys, es, pos, g, hN, hs, hk, h, hl => by cases h
  | .ife _ _ _, G, W, X, sc, ks, keys, es, pos, g, hN, hs, hk, h, hl => by cases h
  | .tup _, G, W, X, sc, ks, keys, es, pos, g, hN, hs, hk, h, hl => by cases h
  | .lst _ _, G, W, X, sc, ks, keys, es, pos, g, hN, hs, hk, h, hl => by cases h
  | .emp, G, W, X, sc, ks, keys, es, pos, g, hN, hs, hk, h, hl => by cases h
  | .dct _ _, G, W, X, sc, ks, keys, es, pos, g, hN, hs, hk, h, hl => by cases h
  | .dget _ _, G, W, X, sc, ks, keys, es, pos, g, hN, hs, hk, h, hl => by cases h
  | .call _ _, G, W, X, sc, ks, keys, es, pos, g, hN, hs, hk, h, hl => by cases h
  | .cll _ _ _, G, W, X, sc, ks, keys, es, pos, g, hN, hs, hk, h, hl => by cases h
  | .bi _ _ _, G, W, X, sc, ks, keys, es, pos, g, hN, hs, hk, h, hl => by cases h
  | .isi _ _, G, W, X, sc, ks, keys, es, pos, g, hN, hs, hk, h, hl => by cases h
  | .ist _ _, G, W, X, sc, ks, keys, es, pos, g, hN, hs, hk, h, hl => by cases h
  | .dgt _ _, G, W, X, sc, ks, keys, es, pos, g, hN, hs, hk, h, hl => by cases h
  | .itr _, G, W, X, sc, ks, keys, es, pos, g, hN, hs, hk, h, hl => by cases h
  | .isx _ _, G, W, X, sc, ks, keys, es, pos, g, hN, hs, hk, h, hl => by cases h
  | .ixs _ _, G, W, X, sc, ks, keys, es, pos, g, hN, hs, hk, h, hl => by cases h
  | .atr _ _, G, W, X, sc, ks, keys, es, pos, g, hN, hs, hk, h, hl => by cases h
  | .bm _ _ _ _, G, W, X, sc, ks, keys, es, pos, g, hN, hs, hk, h, hl => by cases h
  | .fld _ _, G, W, X, sc, ks, keys, es, pos, g, hN, hs, hk, h, hl => by cases h
  | .mth _ _ _ _ _, G, W, X, sc, ks, keys, es, pos, g, hN, hs, hk, h, hl => by cases h
  | .mk _ _ _, G, W, X, sc, ks, keys, es, pos, g, hN, hs, hk, h, hl => by cases h
  | .idx _ _, G, W, X, sc, ks, keys, es, pos, g, hN, hs, hk, h, hl => by cases h
  | .sli _ _ _ _, G, W, X, sc, ks, keys, es, pos, g, hN, hs, hk, h, hl => by cases h
  | .rev _ _, G, W, X, sc, ks, keys, es, pos, g, hN, hs, hk, h, hl => by cases h
  | .lrg _ _, G, W, X, sc, ks, keys, es, pos, g, hN, hs, hk, h, hl => by cases h
  | .comp _ _ _ _ _ _, G, W, X, sc, ks, keys, es, pos, g, hN, hs, hk, h, hl => by cases h
  | .part _, G, W, X, sc, ks, keys, es, pos, g, hN, hs, hk, h, hl => by cases h
  | .nopart, G, W, X, sc, ks, keys, es, pos, g, hN, hs, hk, h, hl => by cases h
  | .itl _, G, W, X, sc, ks, keys, es, pos, g, hN, hs, hk, h, hl => by cases h
  | .itt _, G, W, X, sc, ks, keys, es, pos, g, hN, hs, hk, h, hl => by cases h
  | .its _, G, W, X, sc, ks, keys, es, pos, g, hN, hs, hk, h, hl => by cases h
  | .it1 _, G, W, X, sc, ks, keys, es, pos, g, hN, hs, hk, h, hl => by cases h
  | .it2 _ _, G, W, X, sc, ks, keys, es, pos, g, hN, hs, hk, h, hl => by cases h
  | .it3 _ _ _, G, W, X, sc, ks, keys, es, pos, g, hN, hs, hk, h, hl => by cases h
  | .ite _, G, W, X, sc, ks, keys, es, pos, g, hN, hs, hk, h, hl => by cases h
  | .itz _ _, G, W, X, sc, ks, keys, es, pos, g, hN, hs, hk, h, hl => by cases h
theorem snd_P : ∀ (ex : Ex) {G : Gx} {W : WX} {X : Cx} {sc : Scope} {e : Option Expr}, Good G tb R k W X → X.N = N → X.env.scope = sc → chkP tb N ex sc e = true → PO X e (liftP G W (wpP R ex))
  | .nopart, G, W, X, sc, e, g, hN, hs, h => by
    unfold chkP at h; split at h
    · exact PO.imp po_none fun σ H Q ⟨F, M, env, q, e, rm, er, cn, cx, h⟩ => cn F M H _ (Same.refl F) rm h
    · cases h
  | .part x, G, W, X, sc, e, g, hN, hs, h => by
    unfold chkP at h; split at h
    · refine PO.imp (po_some (snd_E x g hN hs h).E) fun σ H Q ⟨F, M, env, q, e, rm, er, cn, cx, h⟩ => ?_
      refine enter rm er cx h fun F1 M1 H1 v1 d1 s1 rm1 er1 cx1 r1 h => ?_
      cases r1 <;> try exact (show False from h).elim
      exact ⟨_, rfl, cn F1 M1 H1 _ s1 rm1 h⟩
    · cases h
  | .var _, G, W, X, sc, e, g, hN, hs, h => by cases h
  | .non, G, W, X, sc, e, g, hN, hs, h => by cases h
  | .bl _, G, W, X, sc, e, g, hN, hs, h => by cases h
  | .int _, G, W, X, sc, e, g, hN, hs, h => by cases h
  | .str _, G, W, X, sc, e, g, hN, hs, h => by cases h
  | .glob _ _, G, W, X, sc, e, g, hN, hs, h => by cases h
  | .bin _ _ _ _, G, W, X, sc, e, g, hN, hs, h => by cases h
  | .neg _, G, W, X, sc, e, g, hN, hs, h => by cases h
  | .not _, G, W, X, sc, e, g, hN, hs, h => by cases h
  | .and _ _, G, W, X, sc, e, g, hN, hs, h => by cases h
  | .or _ _, G, W, X, sc, e, g, hN, hs, h => by cases h
  | .cmp _ _ _, G, W, X, sc, e, g, hN, hs, h => by cases h
  | .ch2 _ _ _ _ _, G, W, X, sc, e, g, hN, hs, h => by cases h
  | .ch3 _ _ _ _ _ _ _, G, W, X, sc, e, g, hN, hs, h => by cases h
  | .ife _ _ _, G, W, X, sc, e, g, hN, hs, h => by cases h
  | .tup _, G, W, X, sc, e, g, hN, hs, h => by cases h
  | .lst _ _, G, W, X, sc, e, g, hN, hs, h => by cases h
  | .emp, G, W, X, sc, e, g, hN, hs, h => by cases h
  | .dct _ _, G, W, X, sc, e, g, hN, hs, h => by cases h
  | .dget _ _, G, W, X, sc, e, g, hN, hs, h => by cases h
  | .nil, G, W, X, sc, e, g, hN, hs, h => by cases h
  | .cons _ _, G, W, X, sc, e, g, hN, hs, h => by cases h
  | .call _ _, G, W, X, sc, e, g, hN, hs, h => by cases h
  | .cll _ _ _, G, W, X, sc, e, g, hN, hs, h => by cases h
  | .bi _ _ _, G, W, X, sc, e, g, hN, hs, h => by cases h
  | .isi _ _, G, W, X, sc, e, g, hN, hs, h => by cases h
  | .ist _ _, G, W, X, sc, e, g, hN, hs, h => by cases h
  | .dgt _ _, G, W, X, sc, e, g, hN, hs, h => by cases h
  | .itr _, G, W, X, sc, e, g, hN, hs, h => by cases h
  | .isx _ _, G, W, X, sc, e, g, hN, hs, h => by cases h
  | .ixs _ _, G, W, X, sc, e, g, hN, hs, h => by cases h
  | .atr _ _, G, W, X, sc, e, g, hN, hs, h => by cases h
  | .bm _ _ _ _, G, W, X, sc, e, g, hN, hs, h => by cases h
  | .fld _ _, G, W, X, sc, e, g, hN, hs, h => by cases h
  | .mth _ _ _ _ _, G, W, X, sc, e, g, hN, hs, h => by cases h
  | .mk _ _ _, G, W, X, sc, e, g, hN, hs, h => by cases h
  | .idx _ _, G, W, X, sc, e, g, hN, hs, h => by cases h
  | .sli _ _ _ _, G, W, X, sc, e, g, hN, hs, h => by cases h
  | .rev _ _, G, W, X, sc, e, g, hN, hs, h => by cases h
  | .lrg _ _, G, W, X, sc, e, g, hN, hs, h => by cases h
  | .comp _ _ _ _ _ _, G, W, X, sc, e, g, hN, hs, h => by cases h
  | .itl _, G, W, X, sc, e, g, hN, hs, h => by cases h
  | .itt _, G, W, X, sc, e, g, hN, hs, h => by cases h
  | .its _, G, W, X, sc, e, g, hN, hs, h => by cases h
  | .it1 _, G, W, X, sc, e, g, hN, hs, h => by cases h
  | .it2 _ _, G, W, X, sc, e, g, hN, hs, h => by cases h
  | .it3 _ _ _, G, W, X, sc, e, g, hN, hs, h => by cases h
  | .ite _, G, W, X, sc, e, g, hN, hs, h => by cases h
  | .itz _ _, G, W, X, sc, e, g, hN, hs, h => by cases h
theorem snd_F : ∀ (ex : Ex) {G : Gx} {W : WX} {X : Cx} {sc : Scope} {es : List Expr}, Good G tb R k W X → X.N = N → X.env.scope = sc → chkF tb N ex sc es = true → PTs X es (liftT G W (wpC R ex))
  | .nopart, G, W, X, sc, es, g, hN, hs, h => by
    unfold chkF at h; split at h
    · exact PTs.imp pts_nil fun σ H Q ⟨F, M, env, q, e, rm, er, cn, cx, h⟩ => cn F M H _ (Same.refl F) rm h
    · cases h
  | .part x, G, W, X, sc, es, g, hN, hs, h => by
    unfold chkF at h; split at h
    · exact PTs.imp (pts_one (snd_E x g hN hs h).T) fun σ H Q h => h
    · cases h
  | .var _, G, W, X, sc, es, g, hN, hs, h => by cases h
  | .non, G, W, X, sc, es, g, hN, hs, h => by cases h
  | .bl _, G, W, X, sc, es, g, hN, hs, h => by cases h
  | .int _, G, W, X, sc, es, g, hN, hs, h => by cases h
  | .str _, G, W, X, sc, es, g, hN, hs, h => by cases h
  | .glob _ _, G, W, X, sc, es, g, hN, hs, h => by cases h
  | .bin _ _ _ _, G, W, X, sc, es, g, hN, hs, h => by cases h
  | .neg _, G, W, X, sc, es, g, hN, hs, h => by cases h
  | .not _, G, W, X, sc, es, g, hN, hs, h => by cases h
  | .and _ _, G, W, X, sc, es, g, hN, hs, h => by cases h
  | .or _ _, G, W, X, sc, es, g, hN, hs, h => by cases h
  | .cmp _ _ _, G, W, X, sc, es, g, hN, hs, h => by cases h
  | .ch2 _ _ _ _ _, G, W, X, sc, es, g, hN, hs, h => by cases h
  | .ch3 _ _ _ _ _ _ _, G, W, X, sc, es, g, hN, hs, h => by cases h
  | .ife _ _ _, G, W, X, sc, es, g, hN, hs, h => by cases h
  | .tup _, G, W, X, sc, es, g, hN, hs, h => by cases h
  | .lst _ _, G, W, X, sc, es, g, hN, hs, h => by cases h
  | .emp, G, W, X, sc, es, g, hN, hs, h => by cases h
  | .dct _ _, G, W, X, sc, es, g, hN, hs, h => by cases h
  | .dget _ _, G, W, X, sc, es, g, hN, hs, h => by cases h
  | .nil, G, W, X, sc, es, g, hN, hs, h => by cases h
  | .cons _ _, G, W, X, sc, es, g, hN, hs, h => by cases h
  | .call _ _, G, W, X, sc, es, g, hN, hs, h => by cases h
  | .cll _ _ _, G, W, X, sc, es, g, hN, hs, h => by cases h
  | .bi _ _ _, G, W, X, sc, es, g, hN, hs, h => by cases h
  | .isi _ _, G, W, X, sc, es, g, hN, hs, h => by cases h
  | .ist _ _, G, W, X, sc, es, g, hN, hs, h => by cases h
  | .dgt _ _, G, W, X, sc, es, g, hN, hs, h => by cases h
  | .itr _, G, W, X, sc, es, g, hN, hs, h => by cases h
  | .isx _ _, G, W, X, sc, es, g, hN, hs, h => by cases h
  | .ixs _ _, G, W, X, sc, es, g, hN, hs, h => by cases h
  | .atr _ _, G, W, X, sc, es, g, hN, hs, h => by cases h
  | .bm _ _ _ _, G, W, X, sc, es, g, hN, hs, h => by cases h
  | .fld _ _, G, W, X, sc, es, g, hN, hs, h => by cases h
  | .mth _ _ _ _ _, G, W, X, sc, es, g, hN, hs, h => by cases h
  | .mk _ _ _, G, W, X, sc, es, g, hN, hs, h => by cases h
  | .idx _ _, G, W, X, sc, es, g, hN, hs, h => by cases h
  | .sli _ _ _ _, G, W, X, sc, es, g, hN, hs, h => by cases h
  | .rev _ _, G, W, X, sc, es, g, hN, hs, h => by cases h
  | .lrg _ _, G, W, X, sc, es, g, hN, hs, h => by cases h
  | .comp _ _ _ _ _ _, G, W, X, sc, es, g, hN, hs, h => by cases h
  | .itl _, G, W, X, sc, es, g, hN, hs, h => by cases h
  | .itt _, G, W, X, sc, es, g, hN, hs, h => by cases h
  | .its _, G, W, X, sc, es, g, hN, hs, h => by cases h
  | .it1 _, G, W, X, sc, es, g, hN, hs, h => by cases h
  | .it2 _ _, G, W, X, sc, es, g, hN, hs, h => by cases h
  | .it3 _ _ _, G, W, X, sc, es, g, hN, hs, h => by cases h
  | .ite _, G, W, X, sc, es, g, hN, hs, h => by cases h
  | .itz _ _, G, W, X, sc, es, g, hN, hs, h => by cases h
theorem snd_W : ∀ (ex : Ex) {G : Gx} {W : WX} {X : Cx} {sc : Scope} {tg e : Expr}, Good G tb R k W X → X.N = N → X.env.scope = sc → chkW tb N ex sc (isTupT tg) e = true → PI X tg e (liftW G W (wpW R ex))
  | .itl x, G, W, X, sc, tg, e, g, hN, hs, h => by
    have A := (snd_E x g hN hs h).E
    refine PI.imp (pi_both A) fun σ H Q ⟨F, M, env, q, e, rm, er, cn, cx, h⟩ => ?_
    refine enter rm er cx h fun F1 M1 H1 v1 d1 s1 rm1 er1 cx1 r1 h => ?_
    have lists : (match asL M1 d1 with
      | some ds => q ⟨ds, stillAt d1 ds⟩ M1
      | none => False) → ∃ a, v1 = .ref a ∧ ((∃ xs, SqL X.K H1 a xs) ∧ Q (Itl X.K a) H1 ∨ (∃ xs, SqT X.K H1 a xs) ∧ Q (Itt X.K a) H1) := fun h => by
      cases e1 : asL M1 d1 with
      | none => rw [e1] at h; exact h.elim
      | some ds =>
        rw [e1] at h
        obtain ⟨a, vs, rfl, g1, g2, st, hst⟩ := still_of rm1 r1 e1
        rw [g.hK]
        exact ⟨a, rfl, .inl ⟨⟨vs, g1⟩, cn F1 M1 H1 _ _ s1 rm1 (real_L hst) h⟩⟩
    cases d1
    case tup ds =>
      cases r1
      rename_i a vs h1 h2
      rw [g.hK]
      exact ⟨a, rfl, .inr ⟨⟨vs, same_t rm1.fz h1⟩, cn F1 M1 H1 _ _ s1 rm1 (real_T h1 h2) h⟩⟩
    all_goals exact lists h
  | .itt x, G, W, X, sc, tg, e, g, hN, hs, h => by
    have A := (snd_E x g hN hs h).E
    refine PI.imp (pi_tup A) fun σ H Q ⟨F, M, env, q, e, rm, er, cn, cx, h⟩ => ?_
    refine enter rm er cx h fun F1 M1 H1 v1 d1 s1 rm1 er1 cx1 r1 h => ?_
    cases r1 <;> try exact (show False from h).elim
    rename_i a vs ds h1 h2
    rw [g.hK]
    exact ⟨a, rfl, ⟨vs, same_t rm1.fz h1⟩, cn F1 M1 H1 _ _ s1 rm1 (real_T h1 h2) h⟩
  | .its x, G, W, X, sc, tg, e, g, hN, hs, h => by
    have A := (snd_E x g hN hs h).E
    refine PI.imp (pi_str A) fun σ H Q ⟨F, M, env, q, e, rm, er, cn, cx, h⟩ => ?_
    refine enter rm er cx h fun F1 M1 H1 v1 d1 s1 rm1 er1 cx1 r1 h => ?_
    cases r1 <;> try exact (show False from h).elim
    exact ⟨_, rfl, cn F1 M1 H1 _ _ s1 rm1 real_S h⟩
  | .it1 a, G, W, X, sc, tg, e, g, hN, hs, h => by
    unfold chkW at h; split at h
    · rename_i x p a' pos
      simp only [Bool.and_eq_true] at h
      obtain ⟨⟨⟨k1, k2⟩, k3⟩, k4⟩ := h
      have e1 := of_decide_eq_true k1
      subst e1
      obtain ⟨g1, g2, g3⟩ := bn_of g hs k2
      have A := (snd_E a g hN hs k3).E
      refine PI.imp (pi_range1 g1 g3 (pa_cons A pa_nil (star_ok k4)) (star_ok k4)) fun σ H Q ⟨F, M, env, q, e, rm, er, cn, cx, h⟩ => ?_
      refine enter rm er cx h fun F1 M1 H1 v1 d1 s1 rm1 er1 cx1 r1 h => ?_
      cases r1 <;> try exact (show False from h).elim
      exact ⟨_, rfl, h.1.1, h.1.2, cn F1 M1 H1 _ _ s1 rm1 real_rng h.2⟩
    · cases h
  | .it2 a b, G, W, X, sc, tg, e, g, hN, hs, h => by
    unfold chkW at h; split at h
    · rename_i x p a' b' pos
      simp only [Bool.and_eq_true] at h
      obtain ⟨⟨⟨⟨⟨k1, k2⟩, k3⟩, k4⟩, k5⟩, k6⟩ := h
      have e1 := of_decide_eq_true k1
      subst e1
      obtain ⟨g1, g2, g3⟩ := bn_of g hs k2
      have A := (snd_E a g hN hs k3).E
      have B := (snd_E b g hN hs k5).E
      refine PI.imp (pi_range2 g1 g3 (pa_cons A (pa_cons B pa_nil (star_ok k6)) (star_ok k4)) (by rw [star_ok k4, star_ok k6]; rfl) (star_ok k6)) fun σ H Q ⟨F, M, env, q, e, rm, er, cn, cx, h⟩ => ?_
      refine enter rm er cx h fun F1 M1 H1 v1 d1 s1 rm1 er1 cx1 r1 h => enter rm1 er1 cx1 h fun F2 M2 H2 v2 d2 s2 rm2 er2 cx2 r2 h => ?_
      cases r1 <;> cases r2 <;> try exact (show False from h).elim
      exact ⟨_, _, rfl, ⟨h.1.1.1, h.1.1.2, h.1.2.1, h.1.2.2⟩, cn F2 M2 H2 _ _ (s1.trans s2) rm2 real_rng h.2⟩
    · cases h
  | .it3 a b c, G, W, X, sc, tg, e, g, hN, hs, h => by
    unfold chkW at h; split at h
    · rename_i x p a' b' c' pos
      simp only [Bool.and_eq_true] at h
      obtain ⟨⟨⟨⟨⟨⟨⟨k1, k2⟩, k3⟩, k4⟩, k5⟩, k6⟩, k7⟩, k8⟩ := h
      have e1 := of_decide_eq_true k1
      subst e1
      obtain ⟨g1, g2, g3⟩ := bn_of g hs k2
      have A := (snd_E a g hN hs k3).E
      have B := (snd_E b g hN hs k5).E
      have C := (snd_E c g hN hs k7).E
      refine PI.imp (pi_range3 g1 g3 (pa_cons A (pa_cons B (pa_cons C pa_nil (star_ok k8)) (star_ok k6)) (star_ok k4)) (star_ok k4) (by rw [star_ok k6, star_ok k8]; rfl)) fun σ H Q ⟨F, M, env, q, e, rm, er, cn, cx, h⟩ => ?_
      refine enter rm er cx h fun F1 M1 H1 v1 d1 s1 rm1 er1 cx1 r1 h => enter rm1 er1 cx1 h fun F2 M2 H2 v2 d2 s2 rm2 er2 cx2 r2 h => enter rm2 er2 cx2 h fun F3 M3 H3 v3 d3 s3 rm3 er3 cx3 r3 h => ?_
      obtain ⟨i, j, c, n, rfl, rfl, rfl, b1, h⟩ := walkR3_inv h
      cases r1; cases r2; cases r3
      exact ⟨_, _, _, _, rfl, b1, cn F3 M3 H3 _ _ (s1.trans (s2.trans s3)) rm3 real_rngC h⟩
    · cases h
  | .ite x, G, W, X, sc, tg, e, g, hN, hs, h => by
    unfold chkW at h; split at h
    · rename_i xn p e' pos
      simp only [Bool.and_eq_true] at h
      obtain ⟨⟨⟨⟨k0, k1⟩, k2⟩, k3⟩, k4⟩ := h
      obtain ⟨elts, kk, tp, rfl⟩ := tup_of k0
      have e1 := of_decide_eq_true k1
      subst e1
      obtain ⟨g1, g2, g3⟩ := bn_of g hs k2
      have A := (snd_E x g hN hs k3).E
      refine PI.imp (pi_enumA g1 g3 (pa_cons A pa_nil (star_ok k4)) (star_ok k4)) fun σ H Q ⟨F, M, env, q, e, rm, er, cn, cx, h⟩ => ?_
      refine enter rm er cx h fun F1 M1 H1 v1 d1 s1 rm1 er1 cx1 r1 h => ?_
      rw [g.hK]
      rcases enum_inv h with ⟨ds, rfl, h⟩ | ⟨ds, e1, h⟩
      · cases r1 with
        | tup h1 h2 => exact ⟨_, _, rfl, .inr ⟨same_t rm1.fz h1, cn F1 M1 H1 _ _ s1 rm1 (real_enumT h1 h2) h⟩⟩
      · obtain ⟨a, vs, rfl, g1, g2, st, hst⟩ := still_of rm1 r1 e1
        exact ⟨a, vs, rfl, .inl ⟨g1, cn F1 M1 H1 _ _ s1 rm1 (real_enum hst) h⟩⟩
    · cases h
  | .itr x, G, W, X, sc, tg, e, g, hN, hs, h => by
    unfold chkW at h; split at h
    · rename_i xn p e' pos
      simp only [Bool.and_eq_true] at h
      obtain ⟨⟨⟨k1, k2⟩, k3⟩, k4⟩ := h
      have e1 := of_decide_eq_true k1
      subst e1
      obtain ⟨g1, g2, g3⟩ := bn_of g hs k2
      have A := (snd_E x g hN hs k3).E
      refine PI.imp (pi_reversed g1 g3 (pa_cons A pa_nil (star_ok k4)) (star_ok k4)) fun σ H Q ⟨F, M, env, q, e, rm, er, cn, cx, h⟩ => ?_
      refine enter rm er cx h fun F1 M1 H1 v1 d1 s1 rm1 er1 cx1 r1 h => ?_
      cases e1 : asL M1 d1 with
      | none => rw [e1] at h; exact h.elim
      | some ds =>
        rw [e1] at h
        obtain ⟨a, vs, rfl, g1, g2, st, hst⟩ := still_of rm1 r1 e1
        rw [g.hK]
        exact ⟨a, vs, rfl, g1, cn F1 M1 H1 _ _ s1 rm1 (by rw [g2.len]; exact real_rev hst) h⟩
    · cases h
  | .itz a b, G, W, X, sc, tg, e, g, hN, hs, h => by
    unfold chkW at h; split at h
    · rename_i x p a' b' pos
      simp only [Bool.and_eq_true] at h
      obtain ⟨⟨⟨⟨⟨⟨k0, k1⟩, k2⟩, k3⟩, k4⟩, k5⟩, k6⟩ := h
      obtain ⟨elts, kk, tp, rfl⟩ := tup_of k0
      have e1 := of_decide_eq_true k1
      subst e1
      obtain ⟨g1, g2, g3⟩ := bn_of g hs k2
      have A := (snd_E a g hN hs k3).E
      have B := (snd_E b g hN hs k5).E
      refine PI.imp (RZ.pi_zipA g1 g3 (pa_cons A (pa_cons B pa_nil (star_ok k6)) (star_ok k4)) (star_ok k4) (by rw [star_ok k6]; rfl)) fun σ H Q ⟨F, M, env, q, e, rm, er, cn, cx, h⟩ => ?_
      refine enter rm er cx h fun F1 M1 H1 v1 d1 s1 rm1 er1 cx1 r1 h => enter rm1 er1 cx1 h fun F2 M2 H2 v2 d2 s2 rm2 er2 cx2 r2 h => ?_
      rw [g.hK]
      rcases zip_inv h with ⟨ds, es, rfl, rfl, h⟩ | ⟨ds, es, e1, e2, h⟩
      · have r1' := r1.mono s2
        cases r1' with
        | tup h1 h2 =>
          cases r2 with
          | tup j1 j2 => exact ⟨_, _, _, _, rfl, .inr ⟨same_t rm2.fz h1, same_t rm2.fz j1, cn F2 M2 H2 _ _ (s1.trans s2) rm2 (real_zipT h1 h2 j1 j2) h⟩⟩
      · obtain ⟨a, vs, rfl, g1, g2, st, hst⟩ := still_of rm2 (r1.mono s2) e1
        obtain ⟨b, ws, rfl, j1, j2, st2, hst2⟩ := still_of rm2 r2 e2
        exact ⟨a, b, vs, ws, rfl, .inl ⟨g1, j1, cn F2 M2 H2 _ _ (s1.trans s2) rm2 (real_zip hst hst2) h⟩⟩
    · cases h
  | .var _, G, W, X, sc, tg, e, g, hN, hs, h => by cases h
  | .non, G, W, X, sc, tg, e, g, hN, hs, h => by cases h
  | .bl _, G, W, X, sc, tg, e, g, hN, hs, h => by cases h
  | .int _, G, W, X, sc, tg, e, g, hN, hs, h => by cases h
  | .str _, G, W, X, sc, tg, e, g, hN, hs, h => by cases h
  | .glob _ _, G, W, X, sc, tg, e, g, hN, hs, h => by cases h
  | .bin _ _ _ _, G, W, X, sc, tg, e, g, hN, hs, h => by cases h
  | .neg _, G, W, X, sc, tg, e, g, hN, hs, h => by cases h
  | .not _, G, W, X, sc, tg, e, g, hN, hs, h => by cases h
  | .and _ _, G, W, X, sc, tg, e, g, hN, hs, h => by cases h
  | .or _ _, G, W, X, sc, tg, e, g, hN, hs, h => by cases h
  | .cmp _ _ _, G, W, X, sc, tg, e, g, hN, hs, h => by cases h
  | .ch2 _ _ _ _ _, G, W, X, sc, tg, e, g, hN, hs, h => by cases h
  | .ch3 _ _ _ _ _ _ _, G, W, X, sc, tg, e, g, hN, hs, h => by cases h
  | .ife _ _ _, G, W, X, sc, tg, e, g, hN, hs, h => by cases h
  | .tup _, G, W, X, sc, tg, e, g, hN, hs, h => by cases h
  | .lst _ _, G, W, X, sc, tg, e, g, hN, hs, h => by cases h
  | .emp, G, W, X, sc, tg, e, g, hN, hs, h => by cases h
  | .dct _ _, G, W, X, sc, tg, e, g, hN, hs, h => by cases h
  | .dget _ _, G, W, X, sc, tg, e, g, hN, hs, h => by cases h
  | .nil, G, W, X, sc, tg, e, g, hN, hs, h => by cases h
  | .cons _ _, G, W, X, sc, tg, e, g, hN, hs, h => by cases h
  | .call _ _, G, W, X, sc, tg, e, g, hN, hs, h => by cases h
  | .cll _ _ _, G, W, X, sc, tg, e, g, hN, hs, h => by cases h
  | .bi _ _ _, G, W, X, sc, tg, e, g, hN, hs, h => by cases h
  | .isi _ _, G, W, X, sc, tg, e, g, hN, hs, h => by cases h
  | .ist _ _, G, W, X, sc, tg, e, g, hN, hs, h => by cases h
  | .dgt _ _, G, W, X, sc, tg, e, g, hN, hs, h => by cases h
  | .isx _ _, G, W, X, sc, tg, e, g, hN, hs, h => by cases h
  | .ixs _ _, G, W, X, sc, tg, e, g, hN, hs, h => by cases h
  | .atr _ _, G, W, X, sc, tg, e, g, hN, hs, h => by cases h
  | .bm _ _ _ _, G, W, X, sc, tg, e, g, hN, hs, h => by cases h
  | .fld _ _, G, W, X, sc, tg, e, g, hN, hs, h => by cases h
  | .mth _ _ _ _ _, G, W, X, sc, tg, e, g, hN, hs, h => by cases h
  | .mk _ _ _, G, W, X, sc, tg, e, g, hN, hs, h => by cases h
  | .idx _ _, G, W, X, sc, tg, e, g, hN, hs, h => by cases h
  | .sli _ _ _ _, G, W, X, sc, tg, e, g, hN, hs, h => by cases h
  | .rev _ _, G, W, X, sc, tg, e, g, hN, hs, h => by cases h
  | .lrg _ _, G, W, X, sc, tg, e, g, hN, hs, h => by cases h
  | .part _, G, W, X, sc, tg, e, g, hN, hs, h => by cases h
  | .nopart, G, W, X, sc, tg, e, g, hN, hs, h => by cases h
  | .comp _ _ _ _ _ _, G, W, X, sc, tg, e, g, hN, hs, h => by cases h
end
end
end Wp

/-! WpM2: the same of statements and defs. -/
namespace Wp
open PySem
structure EndsLe (N N' : Ends) : Prop where
  nx : ∀ e M, N.nx e M → N'.nx e M
  rt : ∀ d M, N.rt d M → N'.rt d M
  bk : ∀ e M, N.bk e M → N'.bk e M
  ct : ∀ e M, N.ct e M → N'.ct e M
  ex : ∀ z e M, N.ex z e M → N'.ex z e M
theorem putW_mono {q q' : Mem → Prop} (hq : ∀ M, q M → q' M) {o i v : D} {M : Mem} : putW o i v M q → putW o i v M q' := by
  unfold putW
  split
  · split
    · split
      · exact hq _
      · exact id
    · exact id
  · exact id
theorem augW_mono {q q' : QK} (hq : ∀ d M, q d M → q' d M) {op : Operator} {x y : D} {M : Mem} : augW op x y M q → augW op x y M q' := by
  unfold augW
  split
  · exact hq _ _
  · exact hq _ _
  · exact id
theorem eachW_mono {body body' : Ends → Env → Mem → Prop} (hb : ∀ N N' e M, EndsLe N N' → body N e M → body' N' e M) {tg : Tg} {still : Mem → Prop} {N N' : Ends} (hN : EndsLe N N') :
    ∀ {items : List D} {env : Env} {M : Mem}, eachW body tg still N items env M → eachW body' tg still N' items env M
  | [], _, _, h => ⟨h.1, hN.nx _ _ h.2⟩
  | d :: ds, env, M, h => ⟨h.1, tgW_mono tg (fun e h => by
      refine hb _ _ _ _ ?_ h
      exact ⟨fun e M h => eachW_mono hb hN h, hN.rt, fun e M h => hN.nx e M h, fun e M h => eachW_mono hb hN h, hN.ex⟩) h.2⟩
theorem loopW_mono {test test' : Env → Mem → BK → Prop} {body body' : Ends → Env → Mem → Prop} (ht : ∀ e M q q', (∀ c M, q c M → q' c M) → test e M q → test' e M q') (hb : ∀ N N' e M, EndsLe N N' → body N e M → body' N' e M) {N N' : Ends} (hN : EndsLe N N') :
    ∀ {n : Nat} {env : Env} {M : Mem}, loopW test body N n env M → loopW test' body' N' n env M
  | 0, _, _, h => h.elim
  | n + 1, env, M, h => ht _ _ _ _ (fun c M1 h => by
      cases c with
      | true =>
        refine hb _ _ _ _ ?_ h
        exact ⟨fun e M h => loopW_mono ht hb hN h, hN.rt, fun e M h => hN.nx e M h, fun e M h => loopW_mono ht hb hN h, hN.ex⟩
      | false => exact hN.nx _ _ h) h
theorem tsW_mono {R R' : Nat → List D → Mem → QK → XQ → Prop} (hR : MonR R R') : ∀ (ts : List Ts) {ds : List D} {env : Env} {M : Mem} {Q Q' : Env → Mem → Prop} {E E' : Exn → Env → Mem → Prop}, (∀ e M, Q e M → Q' e M) → (∀ z e M, E z e M → E' z e M) → tsW R ts ds env M Q E → tsW R' ts ds env M Q' E'
  | [], [], env, M, Q, Q', E, E', hq, he, h => hq _ _ h
  | [], _ :: _, env, M, Q, Q', E, E', hq, he, h => h.elim
  | .nm i :: ts, [], env, M, Q, Q', E, E', hq, he, h => h.elim
  | .sb o i :: ts, [], env, M, Q, Q', E, E', hq, he, h => h.elim
  | .db o i :: ts, [], env, M, Q, Q', E, E', hq, he, h => h.elim
  | .nm i :: ts, d :: ds, env, M, Q, Q', E, E', hq, he, h => tsW_mono hR ts (ds := ds) hq he h
  | .sb o i :: ts, d :: ds, env, M, Q, Q', E, E', hq, he, h => (mon R R' hR o).E (fun a M2 h => (mon R R' hR i).E (fun k M3 h => putW_mono (fun M4 h => tsW_mono hR ts hq he h) h) (fun z M1 h => he _ _ _ h) h) (fun z M1 h => he _ _ _ h) h
  | .db o i :: ts, d :: ds, env, M, Q, Q', E, E', hq, he, h => (mon R R' hR o).E (fun a M2 h => (mon R R' hR i).E (fun k M3 h => dputW_mono (fun M4 h => tsW_mono hR ts hq he h) h) (fun z M1 h => he _ _ _ h) h) (fun z M1 h => he _ _ _ h) h
theorem clW_mono {t t' : Ends → Env → Mem → Prop} (ht : ∀ N N' e M, EndsLe N N' → t N e M → t' N' e M) {i : Option Nat} {N N' : Ends} (hN : EndsLe N N') {z : Exn} {env : Env} {M : Mem} : clW t i N z env M → clW t' i N' z env M := by
  unfold clW
  split
  · intro h p hp
    refine ht _ _ _ _ ?_ (h p hp)
    exact ⟨fun e M h => hN.nx _ _ h, hN.rt, fun e M h => hN.bk _ _ h, fun e M h => hN.ct _ _ h, fun _ _ _ h => h⟩
  · intro h
    refine ht _ _ _ _ ?_ h
    exact ⟨hN.nx, hN.rt, hN.bk, hN.ct, fun _ _ _ h => h⟩
theorem monS {R R' : Nat → List D → Mem → QK → XQ → Prop} (hR : MonR R R') (s : Sx) : ∀ {N N' : Ends} {env : Env} {M : Mem}, EndsLe N N' → wpS R s N env M → wpS R' s N' env M := by
  induction s with
  | nil => exact fun hN h => hN.nx _ _ h
  | seq s t hs ht =>
    intro N N' env M hN h
    refine hs ?_ h
    exact ⟨fun e M h => ht hN h, hN.rt, hN.bk, hN.ct, hN.ex⟩
  | asg tg e => exact fun hN h => (mon R R' hR e).E (fun x M1 h => tgW_mono tg (fun e' h => hN.nx _ _ h) h) (fun z M1 h => hN.ex _ _ _ h) h
  | sub o i e => exact fun hN h => (mon R R' hR e).E (fun x M1 h => (mon R R' hR o).E (fun a M2 h => (mon R R' hR i).E (fun k M3 h => putW_mono (fun M4 h => hN.nx _ _ h) h) (fun z M1 h => hN.ex _ _ _ h) h) (fun z M1 h => hN.ex _ _ _ h) h) (fun z M1 h => hN.ex _ _ _ h) h
  | dput o i e => exact fun hN h => (mon R R' hR e).E (fun x M1 h => (mon R R' hR o).E (fun a M2 h => (mon R R' hR i).E (fun k M3 h => dputW_mono (fun M4 h => hN.nx _ _ h) h) (fun z M1 h => hN.ex _ _ _ h) h) (fun z M1 h => hN.ex _ _ _ h) h) (fun z M1 h => hN.ex _ _ _ h) h
  | aug i op e =>
    intro N N' env M hN h
    revert h
    dsimp only [wpS]
    split
    · exact (mon R R' hR e).E (fun y M1 h => augW_mono (fun z M2 h => hN.nx _ _ h) h) (fun z M1 h => hN.ex _ _ _ h)
    · exact id
  | drop e => exact fun hN h => (mon R R' hR e).E (fun x M1 h => hN.nx _ _ h) (fun z M1 h => hN.ex _ _ _ h) h
  | ret e => exact fun hN h => (mon R R' hR e).E (fun x M1 h => hN.rt _ _ h) (fun z M1 h => hN.ex _ _ _ h) h
  | ife c s t hs ht => exact fun hN h => (mon R R' hR c).E (fun x M1 h => truW_mono (fun b M2 h => by
      cases b with
      | true => exact hs hN h
      | false => exact ht hN h) h) (fun z M1 h => hN.ex _ _ _ h) h
  | loop c s hs =>
    rintro N N' env M hN ⟨n, h⟩
    refine ⟨n, loopW_mono ?_ ?_ hN h⟩
    · exact fun e M q q' hq h => (mon R R' hR c).E (fun x M1 h => truW_mono hq h) (fun z M1 h => hN.ex _ _ _ h) h
    · exact fun N N' e M hN h => hs hN h
  | each tg w s hs =>
    intro N N' env M hN h
    refine (mon R R' hR w).W (fun w M1 h => ?_) (fun z M1 h => hN.ex _ _ _ h) h
    refine eachW_mono ?_ hN h
    exact fun N N' e M hN h => hs hN h
  | pass => exact fun hN h => hN.nx _ _ h
  | brk => exact fun hN h => hN.bk _ _ h
  | cnt => exact fun hN h => hN.ct _ _ h
  | never => exact fun hN h => h.elim
  | rse c f a => exact fun hN h => (mon R R' hR a).E (fun x M1 h => hN.ex _ _ _ h) (fun z M1 h => hN.ex _ _ _ h) h
  | rsp c a => exact fun hN h => (mon R R' hR a).E (fun x M1 h => hN.ex _ _ _ h) (fun z M1 h => hN.ex _ _ _ h) h
  | tri c i s t hs ht =>
    intro N N' env M hN h
    dsimp only [wpS] at h ⊢
    refine hs ?_ h
    refine ⟨hN.nx, hN.rt, hN.bk, hN.ct, fun z e M h => ?_⟩
    dsimp only at h ⊢
    revert h
    split
    · intro h p hp
      refine ht ?_ (h p hp)
      exact ⟨fun e M h => hN.nx _ _ h, hN.rt, fun e M h => hN.bk _ _ h, fun e M h => hN.ct _ _ h, fun _ _ _ h => h⟩
    · exact hN.ex _ _ _
  | trn c s t hs ht =>
    intro N N' env M hN h
    dsimp only [wpS] at h ⊢
    refine hs ?_ h
    refine ⟨hN.nx, hN.rt, hN.bk, hN.ct, fun z e M h => ?_⟩
    dsimp only at h ⊢
    revert h
    split
    · intro h
      refine ht ?_ h
      exact ⟨hN.nx, hN.rt, hN.bk, hN.ct, fun _ _ _ h => h⟩
    · exact hN.ex _ _ _
  | sfl o f e => exact fun hN h => (mon R R' hR e).E (fun x M1 h => (mon R R' hR o).E (fun a M2 h => sflW_mono (fun M3 h => hN.nx _ _ h) h) (fun z M1 h => hN.ex _ _ _ h) h) (fun z M1 h => hN.ex _ _ _ h) h
  | fau o f op e => exact fun hN h => (mon R R' hR o).E (fun a M1 h => fldW_mono (fun x M2 h => (mon R R' hR e).E (fun y M3 h => augW_mono (fun z M4 h => ⟨h.1, sflW_mono (fun M5 h => hN.nx _ _ h) h.2⟩) h) (fun z M1 h => hN.ex _ _ _ h) h) h) (fun z M1 h => hN.ex _ _ _ h) h
  | dau o i op e => exact fun hN h => (mon R R' hR o).E (fun a M1 h => (mon R R' hR i).E (fun k M2 h => dgetW_mono (fun x M3 h => (mon R R' hR e).E (fun y M4 h => augW_mono (fun z M5 h => dputW_mono (fun M6 h => hN.nx _ _ h) h) h) (fun z M1 h => hN.ex _ _ _ h) h) h) (fun z M1 h => hN.ex _ _ _ h) h) (fun z M1 h => hN.ex _ _ _ h) h
  | asu ts e => exact fun hN h => (mon R R' hR e).E (fun x M1 h => by
      revert h
      split
      · exact fun h => ⟨h.1, tsW_mono hR ts hN.nx hN.ex h.2⟩
      · exact id) (fun z M1 h => hN.ex _ _ _ h) h
  | rsb c es => exact fun hN h => (mon R R' hR es).A (fun ds M1 h => by
      revert h
      split
      · exact hN.ex _ _ _
      · exact hN.ex _ _ _
      · exact id) (fun z M1 h => hN.ex _ _ _ h) h
  | tr2 c i t d j u s ht hu hs =>
    intro N N' env M hN h
    dsimp only [wpS] at h ⊢
    refine hs ?_ h
    refine ⟨hN.nx, hN.rt, hN.bk, hN.ct, fun z e M h => ?_⟩
    dsimp only at h ⊢
    revert h
    split
    · exact clW_mono (t := wpS R t) (t' := wpS R' t) (fun N N' e M hN h => ht hN h) hN
    · split
      · exact clW_mono (t := wpS R u) (t' := wpS R' u) (fun N N' e M hN h => hu hN h) hN
      · exact hN.ex _ _ _
  | frz i =>
    intro N N' env M hN h
    revert h
    dsimp only [wpS]
    split
    · split
      · exact hN.nx _ _
      · exact id
    · exact id
theorem frz_mono {q q' : QK} (hq : ∀ d M, q d M → q' d M) {d : D} {M : Mem} (h : Frz d M q) : Frz d M q' := by
  revert q'
  induction h with
  | done h => exact fun hq => .done (hq _ _ h)
  | step e _ ih => exact fun hq => .step e (ih hq)
theorem run_mono (T : Nat → Option Fn) : ∀ k k', k ≤ k' → MonR (run T k) (run T k')
  | 0, _, _ => fun f ds M Q Q' E E' hq he h => h.elim
  | k + 1, 0, h => absurd h (by omega)
  | k + 1, k' + 1, hk => fun f ds M Q Q' E E' hq he h => by
    revert h
    dsimp only [run]
    split
    · intro h
      refine ⟨h.1, monS (run_mono T k k' (by omega)) _ ?_ h.2⟩
      exact ⟨fun _ M h => frz_mono hq h, fun d M h => frz_mono hq h, fun _ _ h => h, fun _ _ h => h, fun z _ M h => he z M h⟩
    · exact id
end Wp

/-! WpS10: statements, defs, the whole table. -/
namespace Wp
open PySem PySem.Spec PyProof.Rows L2

/-! ### the check -/
def isComp : Expr → Bool
  | .ListComp _ _ _ _ => true
  | .SetComp _ _ _ _ => true
  | .DictComp _ _ _ _ _ => true
  | _ => false
/-- a comprehension whose list goes to a name at once -/
def swB (sc : Scope) (y : Str) (py : Pos) : Expr → Bool
  | .ListComp _ _ scope pos => decide (sc.names.lookup y = some .local) && (py.line == pos.line) && !(scope.names.any fun (n, k) => n == y && (k == .local || k == .cell))
  | _ => false
def cellB (sc : Scope) (y : Str) : Bool := decide (sc.names.lookup y = some .cell)
def noSwapT : Expr → Expr → Bool
  | .Tuple _ _ _, e => !isTupT e
  | .List _ _, _ => false
  | _, _ => true
section
variable (tb : Tb) (N : List Str) (sc : Scope)
/-! an except suite -/
mutual
def chkV : Sx → Stmt → Bool
  | .sfl o f e, x0 => match x0 with
    | .Assign [.Attribute o' n _] e' _ => decide (f = n) && chkE tb N o sc o' && chkE tb N e sc e' && tb.of.any fun g => decide (g = f)
    | _ => false
  | .asg (.nm j) e, x0 => match x0 with
    | .Assign [.Name y _] e' _ => chkE tb N e sc e' && decide (N[j]? = some y) && locB sc true y && !isComp e'
    | _ => false
  | .ife c s t, x0 => match x0 with
    | .If c' a b _ => chkE tb N c sc c' && chkU s a && chkU t b
    | _ => false
  | .ret e, x0 => match x0 with
    | .Return (some e') _ => chkE tb N e sc e'
    | _ => false
  | .pass, x0 => match x0 with
    | .Pass _ => true
    | _ => false
  | _, _ => false
def chkU : Sx → List Stmt → Bool
  | .nil, x0 => match x0 with
    | [] => true
    | _ => false
  | .seq s t, x0 => match x0 with
    | st :: r => chkV s st && chkU t r
    | _ => false
  | _, _ => false
end
/-- targets side by side -/
def chkT : List Ts → List Expr → Bool
  | [], [] => true
  | .nm i :: ts, .Name x _ :: es => decide (N[i]? = some x) && locB sc true x && chkT ts es
  | .sb o i :: ts, .Subscript o' i' _ :: es => chkE tb N o sc o' && chkE tb N i sc i' && noSlice i' && chkT ts es
  | .db o i :: ts, .Subscript o' i' _ :: es => chkE tb N o sc o' && chkE tb N i sc i' && noSlice i' && chkT ts es
  | _, _ => false
/-- an except clause -/
def chkH (c : Nat) (i : Option Nat) (t : Sx) : ExceptHandler → Bool
  | .ExceptHandler (some (.Name x _)) n (b :: suite) _ => (tb.xc.any fun p => decide (p = (c, x))) && glB sc x && (match i, n with
    | some i, some n => decide (N[i]? = some n) && decide (sc.names.lookup n = some .local)
    | none, none => true
    | _, _ => false) && chkU tb.cold N sc t (b :: suite)
  | _ => false
mutual
def chkS : Sx → Stmt → Bool
  | .sfl o f e, x0 => match x0 with
    | .Assign [.Attribute o' n _] e' _ => decide (f = n) && chkE tb N o sc o' && chkE tb N e sc e' && tb.of.any fun g => decide (g = f)
    | _ => false
  | .fau o f op e, x0 => match x0 with
    | .AugAssign (.Attribute o' n _) op' e' _ => decide (op = op') && decide (f = n) && chkE tb N o sc o' && chkE tb N e sc e' && (op == .Add || op == .Sub) && tb.of.any fun g => decide (g = f)
    | _ => false
  | .dau o i op e, x0 => match x0 with
    | .AugAssign (.Subscript o' i' _) op' e' _ => decide (op = op') && chkE tb N o sc o' && chkE tb N i sc i' && noSlice i' && chkE tb N e sc e' && (op == .Add || op == .Sub)
    | _ => false
  | .asu ts e, x0 => match x0 with
    | .Assign [.Tuple tgs _ _] e' _ => chkT tb N sc ts tgs && chkE tb N e sc e' && !isTupT e'
    | _ => false
  | .rsb c es, x0 => match x0 with
    | .Raise (some (.Call (.Name x _) (a' :: es') [] _)) none _ => (tb.xc.any fun p => decide (p = (c, x))) && (tb.xb.any fun n => decide (n = c)) && glB sc x && chkA tb N es sc (a' :: es') && decide (es'.length ≤ 1)
    | _ => false
  | .tr2 c i t d j u s, x0 => match x0 with
    | .Try body [h1, h2] [] [] _ => chkL s body && chkH tb N sc c i t h1 && chkH tb N sc d j u h2
    | _ => false
  | .asg tg e, x0 => match x0 with
    | .Assign [tg'] e' _ => chkE tb N e sc e' && chkG N sc true tg tg' && noSwapT tg' e' && (match tg' with
      | .Name y py => swB sc y py e' || (!isComp e' || cellB sc y)
      | .Tuple _ _ _ => true
      | _ => false)
    | _ => false
  | .sub o i e, x0 => match x0 with
    | .Assign [.Subscript o' i' _] e' _ => chkE tb N o sc o' && chkE tb N i sc i' && noSlice i' && chkE tb N e sc e'
    | _ => false
  | .dput o i e, x0 => match x0 with
    | .Assign [.Subscript o' i' _] e' _ => chkE tb N o sc o' && chkE tb N i sc i' && noSlice i' && chkE tb N e sc e'
    | _ => false
  | .aug i op e, x0 => match x0 with
    | .AugAssign (.Name x _) op' e' _ => decide (op = op') && decide (N[i]? = some x) && locB sc true x && chkE tb N e sc e' && (op == .Add || op == .Sub)
    | _ => false
  | .drop e, x0 => match x0 with
    | .Expr e' _ => chkE tb N e sc e' && !isComp e'
    | _ => false
  | .ret e, x0 => match x0 with
    | .Return (some e') _ => chkE tb N e sc e'
    | _ => false
  | .ife c s t, x0 => match x0 with
    | .If c' a b _ => chkE tb N c sc c' && chkL s a && chkL t b
    | _ => false
  | .loop c s, x0 => match x0 with
    | .While c' a [] _ => chkE tb N c sc c' && chkL s a
    | _ => false
  | .each tg w s, x0 => match x0 with
    | .For tg' w' a [] _ => chkW tb N w sc (isTupT tg') w' && chkG N sc true tg tg' && chkL s a && noSet w'
    | _ => false
  | .pass, x0 => match x0 with
    | .Pass _ => true
    | _ => false
  | .brk, x0 => match x0 with
    | .Break _ => true
    | _ => false
  | .cnt, x0 => match x0 with
    | .Continue _ => true
    | _ => false
  | .never, _ => true
  | .rse c f a, x0 => match x0 with
    | .Raise (some (.Call (.Name x _) [a'] [] _)) none _ => (tb.xc.any fun p => decide (p = (c, x))) && (tb.xr.any fun p => decide (p = (c, f))) && glB sc x && chkE tb N a sc a' && noStar a'
    | _ => false
  | .rsp c a, x0 => match x0 with
    | .Raise (some (.Call (.Name x _) [a'] [] _)) none _ => (tb.xc.any fun p => decide (p = (c, x))) && (tb.xo.any fun n => decide (n = c)) && glB sc x && chkE tb N a sc a' && noStar a'
    | _ => false
  | .tri c i s t, x0 => match x0 with
    | .Try body [.ExceptHandler (some (.Name x _)) (some n) (b :: suite) _] [] [] _ => (tb.xc.any fun p => decide (p = (c, x))) && glB sc x && decide (N[i]? = some n) && decide (sc.names.lookup n = some .local) && chkL s body && chkU tb.cold N sc t (b :: suite)
    | _ => false
  | .trn c s t, x0 => match x0 with
    | .Try body [.ExceptHandler (some (.Name x _)) none (b :: suite) _] [] [] _ => (tb.xc.any fun p => decide (p = (c, x))) && glB sc x && chkL s body && chkU tb.cold N sc t (b :: suite)
    | _ => false
  | _, _ => false
def chkL : Sx → List Stmt → Bool
  | .nil, x0 => match x0 with
    | [] => true
    | _ => false
  | .seq s t, x0 => match s with
    | .frz _ => chkL t x0
    | s => match x0 with
      | st :: r => chkS s st && chkL t r
      | _ => false
  | _, _ => false
end
end

/-! ### readings -/
section
variable (G : Gx) (W : WX)
structure EndsR (F : Hp) (N : Wp.Ends) (D : L2.Ends) : Prop where
  nx : ∀ F' M' H' env' σ', Same F F' → RM G F' M' H' → EnvR G F' env' σ' → N.nx env' M' → D.nx σ' H'
  rt : ∀ F' M' H' v d, Same F F' → RM G F' M' H' → RelD G F' v d → N.rt d M' → D.rt v H'
  bk : ∀ F' M' H' env' σ', Same F F' → RM G F' M' H' → EnvR G F' env' σ' → N.bk env' M' → D.bk σ' H'
  ct : ∀ F' M' H' env' σ', Same F F' → RM G F' M' H' → EnvR G F' env' σ' → N.ct env' M' → D.ct σ' H'
  ex : ∀ F' M' H' env' σ' z c dd, Same F F' → RM G F' M' H' → EnvR G F' env' σ' → RelX G F' H' z c dd → N.ex z env' M' → W c dd σ' H'
def liftS (w : Wp.Ends → Env → Mem → Prop) : TS := fun D σ H => ∃ F M env N, RM G F M H ∧ EnvR G F env σ ∧ EndsR G W F N D ∧ w N env M
end
section
variable {G : Gx} {W : WX} {X : Cx}
theorem EndsR.mono {F F' : Hp} {N : Wp.Ends} {D : L2.Ends} (s : Same F F') (h : EndsR G W F N D) : EndsR G W F' N D :=
  ⟨fun F2 M H e σ s2 => h.nx F2 M H e σ (s.trans s2), fun F2 M H v d s2 => h.rt F2 M H v d (s.trans s2), fun F2 M H e σ s2 => h.bk F2 M H e σ (s.trans s2), fun F2 M H e σ s2 => h.ct F2 M H e σ (s.trans s2), fun F2 M H e σ z c dd s2 => h.ex F2 M H e σ z c dd (s.trans s2)⟩
theorem EndsR.cx {F : Hp} {N : Wp.Ends} {D : L2.Ends} {env : Env} {σ : L2.St} (h : EndsR G W F N D) (er : EnvR G F env σ) : CnX G F (fun z M => N.ex z env M) (fun c d H => W c d σ H) :=
  fun F' M' H' z c dd s rm rx q => h.ex F' M' H' env σ z c dd s rm (er.mono s) rx q
theorem PS.imp {st : Stmt} {t t' : TS} (h : PS X st t) (hi : ∀ D σ H, t' D σ H → t D σ H) : PS X st t' := ⟨fun pins s σ H D I q => h.run pins s σ H D I (hi _ _ _ q)⟩
theorem PSs.imp {st : List Stmt} {t t' : TS} (h : PSs X st t) (hi : ∀ D σ H, t' D σ H → t D σ H) : PSs X st t' := ⟨fun pins s σ H D I q => h.run pins s σ H D I (hi _ _ _ q)⟩
theorem nosw {e : Expr} {tg : Option Expr} {l : Nat} {env : PySem.Env} (h : isComp e = false) : swapsWith e tg l env = pure false := by
  cases e <;> first | rfl | cases h
theorem noswC {e : Expr} {y : Str} {py : Pos} {l : Nat} {env : PySem.Env} (h : env.kindOf y = some .cell) : swapsWith e (some (.Name y py)) l env = pure false := by
  have h2 : (env.kindOf y == some .local) = false := by rw [h]; rfl
  unfold swapsWith
  cases e <;> simp only [h2, Bool.and_false, Bool.false_and] <;> rfl
theorem noswT {e : Expr} {es : List Expr} {k : Nat} {p : Pos} {l : Nat} {env : PySem.Env} : swapsWithSole [.Tuple es k p] e l env = pure false := by
  cases e <;> rfl
theorem noswS {o i e : Expr} {p : Pos} {l : Nat} {env : PySem.Env} : swapsWithSole [.Subscript o i p] e l env = pure false := by
  cases e <;> rfl
theorem noswap {tg e : Expr} {env : PySem.Env} (h : noSwapT tg e = true) : swappedStores [tg] e env = pure none := by
  cases tg <;> cases e <;> first | rfl | cases h
theorem set_ok {o i : Expr} {p : Pos} (h : noSlice i = true) : ∀ v, assign (.Subscript o i p) X.env v = (do
      let ov ← holding [v] (eval o X.env)
      let iv ← holding [v, ov] (eval i X.env)
      standAt p
      holding [v, ov, iv] (setItem ov iv v)
      release [v, ov, iv] []) := by
  intro v
  cases i <;> first | rfl | cases h
end
end Wp

/-! WpE2: several except clauses, each with a name or without one. -/
namespace L2
open PySem PySem.Spec PyProof.Rows
/-- what a clause wishes of an exception of the body -/
def wCl (i : Option Nat) (ts : TS) (D : Ends) (cls : Value) (d : Option Addr) (σ : St) (H : Hp) : Prop :=
  match i with
  | some i => ∀ a, H a = none → ts { nx := fun σ' H' => D.nx (σ'.set i none) H', rt := D.rt, bk := fun σ' H' => D.bk (σ'.set i none) H', ct := fun σ' H' => D.ct (σ'.set i none) H' } (σ.set i (some (.ref a))) (upd H a (ExH cls d a))
  | none => ts D σ H
/-- .. all of them, one after the other -/
def wHds (K : PySem.W.Frag) (Wout : WX) (D : Ends) : List (Value × Option Nat × TS) → WX
  | [] => Wout
  | (c, i, ts) :: r => fun cls d σ H => ∃ b, PySem.W.exmOne K cls c = some b ∧ (b = true → wCl i ts D cls d σ H) ∧ (b = false → wHds K Wout D r cls d σ H)
inductive HdO (X : Cx) : List ExceptHandler → List (Value × Option Nat × TS) → Prop
  | nil : HdO X [] []
  | nmd {x n : Str} {c : Value} {i : Nat} {ts : TS} {b₀ : Stmt} {suite : List Stmt} {np pos' : Pos} {hds : List ExceptHandler} {l : List (Value × Option Nat × TS)} (hc : Names X x c) (hi : X.N[i]? = some n) (hln : X.env.kindOf n = some .local)
      (hsu : ∀ (a : Addr) (pn : List (Addr × Obj)), PSs (X.suite a pn) (b₀ :: suite) ts) (r : HdO X hds l) : HdO X (.ExceptHandler (some (.Name x np)) (some n) (b₀ :: suite) pos' :: hds) ((c, some i, ts) :: l)
  | bare {x : Str} {c : Value} {ts : TS} {b₀ : Stmt} {suite : List Stmt} {np pos' : Pos} {hds : List ExceptHandler} {l : List (Value × Option Nat × TS)} (hc : Names X x c)
      (hsu : ∀ (a : Addr) (pn : List (Addr × Obj)), PSs (X.suite a pn) (b₀ :: suite) ts) (r : HdO X hds l) : HdO X (.ExceptHandler (some (.Name x np)) none (b₀ :: suite) pos' :: hds) ((c, none, ts) :: l)
section
variable {X : Cx} {body : List Stmt} {h₀ : ExceptHandler} {hds : List ExceptHandler} {l : List (Value × Option Nat × TS)} {pos : Pos} {tb : WX → TS} {Wout : WX}
theorem ps_try_hds (hex : X.ex = []) (hs : X.stack = X.env :: X.outer) (hf : X.env.frame = some X.env.locals) (hN : X.N.Nodup) (tk : Takes X Wout)
    (hb : ∀ (W : WX) (pn : List (Addr × Obj)) (xe : Value → Shared → Prop), Takes (X.tr pn xe) W → PassesOwn (model X.prog X.w) X.A X.env xe → PSs (X.tr pn xe) body (tb W))
    (hh : HdO X (h₀ :: hds) l) : PS X (.Try body (h₀ :: hds) [] [] pos) (fun D σ H => tb (wHds X.K Wout D l) D σ H) := by
  refine ⟨fun pins s σ H D I h => ?_⟩
  have ok := I.ok
  have hfr : X.A.frames = some (X.env :: X.outer) := by rw [ok.frames, hs]
  refine wpAny_Try_except ?_
  refine wpAny_mono ((hb (wHds X.K Wout D l) (X.pn ++ pins) (fun e s₁ => wpAny (model X.prog X.w) X.A (noteFrame e X.env) (fun _ s₂ => wpAny (model X.prog X.w) X.A (setFlight e none) (fun _ s₃ =>
    wpAny (model X.prog X.w) X.A (handleBy e X.env (h₀ :: hds)) (SP X pins D) X.xe s₃) X.xe s₂) X.xe s₁) (fun u s' xx => ?_) PassesOwn.looking).run [] s σ H D (I.toTry _) h) (fun f s1 hsp => ?_) (fun e s1 he => he)
  · obtain ⟨a, B, sI, pins', σ', H', cls, d, rfl, J', nb, up, sky, na, os, ag, w⟩ := xx
    have J : Inv X pins σ' H' sI := J'.ofTry ok
    have sky' : Sky B (X.env :: X.outer) a (Zc cls d) X.env.locals s'.heap := by rw [← hs]; exact sky
    show wpAny (model X.prog X.w) X.A (noteFrame (.ref a) X.env) _ _ _
    refine Sky.land Zc.steady hfr hf sky' fun h3 fl3 up3 => ?_
    have J3 : Inv X pins σ' H' { s' with heap := h3 } := J.landed nb fl3.1 (up.trans up3) os ag
    obtain ⟨oe3, vs3, he3, hz3, hd3⟩ := fl3.there
    have nfr : a ∉ frs (X.env :: X.outer) := fun hm => by
      obtain ⟨_, o', e', hnf⟩ := fl3.2.2.1.mem hm
      rw [he3] at e'; cases e'
      exact hnf _ hd3
    have nL : a ≠ X.env.locals := fun z => nfr (List.mem_filterMap.mpr ⟨X.env, List.mem_cons_self, by rw [hf, z]⟩)
    have nI : sI.heap.get? a = none := by
      cases q : sI.heap.get? a with
      | none => rfl
      | some o =>
        have z := nb a o q (by rw [hs]; exact nfr)
        rw [fl3.2.1] at z
        cases z
    have n0 : X.s_0.heap.get? a = none := by
      cases q : X.s_0.heap.get? a with
      | none => rfl
      | some o =>
        obtain ⟨o', z⟩ := J.base.there a o q (by rw [hex]; exact fun z => nomatch z)
        rw [nI] at z
        cases z
    have npn : ∀ p ∈ X.pn ++ pins, p.1 ≠ a := fun p hp z => by
      have q := (J.pin p hp).1
      rw [z, nI] at q
      cases q
    have S3 := J3.suite0 a
    have LT : PySem.W.Looks (model X.prog X.w) h3 (typeOf (.ref a)) cls := fun A Q E s k q => wpAny_typeOf_ref (k _ _ he3) (by rw [hz3.1]; exact q)
    have go : ∀ {hds' : List ExceptHandler} {l' : List (Value × Option Nat × TS)}, HdO X hds' l' → wHds X.K Wout D l' cls d σ' H' →
        wpAny (model X.prog X.w) X.A (handleBy (.ref a) X.env hds') (SP X pins D) X.xe { s' with heap := h3 } := by
      intro hds' l' hk
      induction hk with
      | nil =>
        intro w
        refine wpAny_handleBy_nil ?_
        obtain ⟨k1, k2, k3, oe, vs, T, oT, ts', he, hz, hd, h1, hr⟩ := id fl3
        unfold PySem.passOn
        refine wpAny_bind (wpAny_field he hd h1 ?_)
        rw [if_neg (show ¬ ((Value.ref T == Value.none) = true) from by simp)]
        have fin : wpAny (model X.prog X.w) X.A (setFlight (.ref a) X.env.frame) (fun _ s4 => wpAny (model X.prog X.w) X.A (throw (.ref a) : Sem Flow) (SP X pins D) X.xe s4) X.xe { s' with heap := h3 } := by
          rw [hf]
          refine HandSPX.setFlight_upZ fl3 fun h4 hh4 up4 => wpAny_throw (tk _ _ ?_)
          exact ⟨a, B, sI, pins, σ', H', cls, d, rfl, J, nb, (up.trans up3).trans up4, .inr (.inr (by rw [hs]; exact hh4)), na, os, ag, w⟩
        first
          | exact wpAny_bind (wpAny_pure (wpAny_bind fin))
          | exact wpAny_bind fin
      | @nmd x n c i ts b₀ suite np pos' hds2 l2 hc hi hln hsu r ih =>
        intro w
        obtain ⟨b, hb1, hyes, hno⟩ := w
        refine wpAny_handleBy_cons (codeAny_handlers_test ?_) (by intro q; cases q)
        have LM := PySem.W.exm_one (M := model X.prog X.w) (J3.kIn) LT hb1
        have test : ∀ {Q : Value → Shared → Prop} {E : Value → Shared → Prop}, Q c { s' with heap := h3 } → wpAny (model X.prog X.w) (X.A.mark (some (.ref a))) (eval (.Name x np) X.env) Q E { s' with heap := h3 } := fun {Q E} q => by
          obtain ⟨hg, hdbg, hm | ⟨hm, hv, hnn⟩⟩ := hc
          · exact ld_glob (X := X.suite a (X.pn ++ pins)) S3 hg hm q hdbg
          · exact ld_blt (X := X.suite a (X.pn ++ pins)) S3 hg hm hv q hnn hdbg
        refine test (LM.here ?_)
        have hloc : Loc X.env.scope n := .inl hln
        cases b with
        | true =>
          refine codeAny_handlers_suite_as ?_
          refine HandSPX.lands_againZ fl3 fun h4 fl4 up4 => ?_
          have J4 : Inv X pins σ' H' { s' with heap := h4 } := J.landed nb fl4.1 ((up.trans up3).trans up4) os ag
          obtain ⟨oe4, vs4, he4, hz4, hd4⟩ := fl4.there
          have J5 : Inv X pins σ' (upd H' a (ExH cls d a)) { s' with heap := h4 } := J4.track na n0 he4 hd4 nL npn (exH_ok he4 hz4 hd4)
          have S5 := J5.suite0 a
          refine store_ok (X := X.suite a (X.pn ++ pins)) (v := .ref a) S5 hN hi hloc rfl (fun s5 S5 => ?_) (.inr hln)
          refine wpAny_mono ((hsu a (X.pn ++ pins)).run [] s5 _ _ _ S5 (hyes rfl a na)) (fun f s6 hsp => ?_) (fun _ _ z => False.elim z)
          have end_ : ∀ {σ6 : St} {H6 : Hp} {Q : Shared → Prop}, Inv (X.suite a (X.pn ++ pins)) [] σ6 H6 s6 → (∀ s7, Inv X pins (σ6.set i none) H6 s7 → Q s7) →
              wpAny (model X.prog X.w) X.A (do bindName X.env n .none; unbindBehindTheSuite X.env n pos') (fun _ s7 => Q s7) X.xe s6 := fun {σ6 H6 Q} S6 hq => gone_ok (S6.unsuite0 ok) hN hi hln hq
          cases f with
          | next =>
            obtain ⟨σ6, H6, S6, q6⟩ := hsp
            exact end_ S6 fun s7 J7 => ⟨_, _, J7, q6⟩
          | brk =>
            obtain ⟨σ6, H6, S6, q6⟩ := hsp
            exact end_ S6 fun s7 J7 => ⟨_, _, J7, q6⟩
          | cont =>
            obtain ⟨σ6, H6, S6, q6⟩ := hsp
            exact end_ S6 fun s7 J7 => ⟨_, _, J7, q6⟩
          | ret u =>
            obtain ⟨v6, σ6, H6, S6, r6, q6⟩ := hsp
            exact end_ S6 fun s7 J7 => ⟨_, _, _, J7, r6, q6⟩
        | false =>
          show wpAny _ X.A (handleBy (.ref a) X.env hds2) _ _ _
          exact ih (hno rfl)
      | @bare x c ts b₀ suite np pos' hds2 l2 hc hsu r ih =>
        intro w
        obtain ⟨b, hb1, hyes, hno⟩ := w
        refine wpAny_handleBy_cons (codeAny_handlers_test ?_) (by intro q; cases q)
        have LM := PySem.W.exm_one (M := model X.prog X.w) (J3.kIn) LT hb1
        have test : ∀ {Q : Value → Shared → Prop} {E : Value → Shared → Prop}, Q c { s' with heap := h3 } → wpAny (model X.prog X.w) (X.A.mark (some (.ref a))) (eval (.Name x np) X.env) Q E { s' with heap := h3 } := fun {Q E} q => by
          obtain ⟨hg, hdbg, hm | ⟨hm, hv, hnn⟩⟩ := hc
          · exact ld_glob (X := X.suite a (X.pn ++ pins)) S3 hg hm q hdbg
          · exact ld_blt (X := X.suite a (X.pn ++ pins)) S3 hg hm hv q hnn hdbg
        refine test (LM.here ?_)
        cases b with
        | true =>
          refine codeAny_handlers_suite ?_
          refine HandSPX.lands_againZ fl3 fun h4 fl4 up4 => ?_
          have J4 : Inv X pins σ' H' { s' with heap := h4 } := J.landed nb fl4.1 ((up.trans up3).trans up4) os ag
          have S4 := J4.suite0 a
          refine wpAny_mono ((hsu a (X.pn ++ pins)).run [] _ _ H' _ S4 (hyes rfl)) (fun f s6 hsp => ?_) (fun _ _ z => False.elim z)
          cases f with
          | next =>
            obtain ⟨σ6, H6, S6, q6⟩ := hsp
            exact ⟨_, _, S6.unsuite0 ok, q6⟩
          | brk =>
            obtain ⟨σ6, H6, S6, q6⟩ := hsp
            exact ⟨_, _, S6.unsuite0 ok, q6⟩
          | cont =>
            obtain ⟨σ6, H6, S6, q6⟩ := hsp
            exact ⟨_, _, S6.unsuite0 ok, q6⟩
          | ret u =>
            obtain ⟨v6, σ6, H6, S6, r6, q6⟩ := hsp
            exact ⟨_, _, _, S6.unsuite0 ok, r6, q6⟩
        | false =>
          show wpAny _ X.A (handleBy (.ref a) X.env hds2) _ _ _
          exact ih (hno rfl)
    exact go hh w
  · cases f with
    | next =>
      obtain ⟨σ', H', J', q⟩ := hsp
      exact wpAny_execs_nil ⟨σ', H', J'.ofTry ok, q⟩
    | brk =>
      obtain ⟨σ', H', J', q⟩ := hsp
      exact ⟨σ', H', J'.ofTry ok, q⟩
    | cont =>
      obtain ⟨σ', H', J', q⟩ := hsp
      exact ⟨σ', H', J'.ofTry ok, q⟩
    | ret u =>
      obtain ⟨v, σ', H', J', r, q⟩ := hsp
      exact ⟨v, σ', H', J'.ofTry ok, r, q⟩
end
end L2

/-! WpS11: statements, defs, the whole table: that the tree is enough for the text. -/
namespace Wp
open PySem PySem.Spec PyProof.Rows L2
theorem set_of {G : Gx} : PSet X (fun o i v H Q => ∃ F M a k x q, RM G F M H ∧ RelD G F o a ∧ RelD G F i k ∧ RelD G F v x ∧ putW a k x M q ∧ ∀ M' H', RM G F M' H' → q M' → Q H') := by
  intro pins s σ H o i v ov iv u Q I ro ri rv ⟨F, M, a, k, x, q, rm, r1, r2, r3, h, cn⟩
  unfold putW at h
  split at h
  · split at h
    · split at h
      · rename_i p k _ xs e1 _ j e2
        cases r1
        cases r2
        obtain ⟨vs, g1, g2⟩ := rd_loc rm e1
        refine set_list pins s σ H _ _ v ov iv u Q I ro ri rv ⟨p, vs, k, j, rfl, rfl, g1, by rw [g2.len]; exact e2, ?_⟩
        exact cn _ _ (rm.put (ob' := .lst (xs.set j x)) e1 ⟨_, upd_same, g2.set j r3⟩) h
      · exact h.elim
    · exact h.elim
  · exact h.elim
theorem ip_of {G : Gx} {X : Cx} {op : Operator} (ho : (op == .Add || op == .Sub) = true) : PIp X op (fun x y H Q => ∃ F M a b q, RM G F M H ∧ RelD G F x a ∧ RelD G F y b ∧ Cn G F q Q ∧ augW op a b M q) := by
  intro pins s σ H x y v u Q I r1 r2 ⟨F, M, a, b, q, rm, d1, d2, cn, h⟩
  unfold augW at h
  split at h
  · cases d1; cases d2
    exact ip_add pins s σ H _ _ v u Q I r1 r2 ⟨_, _, rfl, rfl, cn_here rm cn (.int _) h⟩
  · cases d1; cases d2
    exact ip_sub pins s σ H _ _ v u Q I r1 r2 ⟨_, _, rfl, rfl, cn_here rm cn (.int _) h⟩
  · exact h.elim
section
variable {tb : Tb} {R : Nat → List D → Mem → QK → XQ → Prop} {k : Nat} {N : List Str} {G : Gx} {W : WX} {X : Cx} {sc : Scope}
/-- a loop over things -/
theorem for_read {tg : Tg} {ww : Env → Mem → (Wk → Mem → Prop) → XQ → Prop} {ws : Wp.Ends → Env → Mem → Prop} {D : L2.Ends} {σ : L2.St} {H : Hp}
    (h : liftS G W (fun N env M => ww env M (fun w M1 => eachW ws tg w.still N w.items env M1) fun z M1 => N.ex z env M1) D σ H) : tFor (liftW G W ww) (liftG G tg) (liftS G W ws) D σ H := by
  obtain ⟨F, M, env, N, rm, er, en, h⟩ := h
  refine ⟨F, M, env, _, _, rm, er, fun F1 M1 H1 wk J s1 rm1 real hq => ?_, en.cx er, h⟩
  refine ⟨fun i m σ H => m = wk.items.length - i ∧ i ≤ wk.items.length ∧ ∃ F2 M2 env2, Same F1 F2 ∧ RM G F2 M2 H ∧ EnvR G F2 env2 σ ∧ eachW ws tg wk.still N (wk.items.drop i) env2 M2,
    ⟨wk.items.length, rfl, Nat.zero_le _, F1, M1, env, Same.refl _, rm1, er.mono s1, hq⟩, ?_⟩
  rintro i m σ H ⟨rfl, hi, F2, M2, env2, s2, rm2, er2, cw⟩
  by_cases hlt : i < wk.items.length
  · rw [List.drop_eq_getElem_cons hlt] at cw
    obtain ⟨st, cw⟩ := cw
    obtain ⟨rl, _⟩ := real G.P i F2 M2 H s2 rm2 st
    obtain ⟨go, yl⟩ := rl wk.items[i] (List.getElem?_eq_getElem hlt)
    refine .inr ⟨go, fun σ' H' => ∃ F2 M2 env2, Same F1 F2 ∧ RM G F2 M2 H' ∧ EnvR G F2 env2 σ' ∧ eachW ws tg wk.still N (wk.items.drop (i + 1)) env2 M2, fun σ' H' x => ⟨_, by omega, rfl, hlt, x⟩, fun x H3 y => ?_⟩
    obtain ⟨F3, s3, rm3, r3⟩ := yl x H3 y
    refine ⟨F3, M2, env2, _, _, rm3, er2.mono s3, r3, cw, fun env' σ' er' off cw => ?_⟩
    have en3 := en.mono (s1.trans (s2.trans s3))
    have ss := s2.trans s3
    refine ⟨F3, M2, env', _, rm3, er', ?_, cw⟩
    exact ⟨fun F4 M4 H4 e4 σ4 s4 rm4 er4 q => ⟨F4, M4, e4, ss.trans s4, rm4, er4, q⟩, en3.rt, en3.nx, fun F4 M4 H4 e4 σ4 s4 rm4 er4 q => ⟨F4, M4, e4, ss.trans s4, rm4, er4, q⟩, en3.ex⟩
  · have e1 : i = wk.items.length := by omega
    subst e1
    rw [List.drop_length] at cw
    obtain ⟨st, cw⟩ := cw
    exact .inl ⟨(real G.P _ F2 M2 H s2 rm2 st).2 rfl, en.nx F2 M2 H env2 σ (s1.trans s2) rm2 er2 cw⟩
theorem while_read {wt : Env → Mem → BK → XQ → Prop} {ws : Wp.Ends → Env → Mem → Prop} {D : L2.Ends} {σ : L2.St} {H : Hp}
    (h : liftS G W (fun N env M => ∃ n, loopW (fun e M Q => wt e M Q fun z M1 => N.ex z e M1) ws N n env M) D σ H) : tWhile (liftT G W wt) (liftS G W ws) D σ H := by
  obtain ⟨F, M, env, N, rm, er, en, n, h⟩ := h
  refine ⟨fun m σ H => ∃ F2 M2 env2, Same F F2 ∧ RM G F2 M2 H ∧ EnvR G F2 env2 σ ∧ loopW (fun e M Q => wt e M Q fun z M1 => N.ex z e M1) ws N m env2 M2, ⟨n, F, M, env, Same.refl _, rm, er, h⟩, ?_⟩
  rintro m σ H ⟨F2, M2, env2, s2, rm2, er2, cw⟩
  cases m with
  | zero => exact cw.elim
  | succ m =>
    refine ⟨F2, M2, env2, _, _, rm2, er2, fun F3 M3 H3 c s3 rm3 cw => ?_, (en.mono s2).cx er2, cw⟩
    have en3 := en.mono (s2.trans s3)
    cases c with
    | true =>
      show if true = true then _ else _
      rw [if_pos rfl]
      refine ⟨fun σ' H' => ∃ F2 M2 env2, Same F F2 ∧ RM G F2 M2 H' ∧ EnvR G F2 env2 σ' ∧ loopW (fun e M Q => wt e M Q fun z M1 => N.ex z e M1) ws N m env2 M2, fun σ' H' x => ⟨m, Nat.lt_succ_self _, x⟩, ?_⟩
      have ss := s2.trans s3
      refine ⟨F3, M3, env2, _, rm3, er2.mono s3, ?_, cw⟩
      exact ⟨fun F4 M4 H4 e4 σ4 s4 rm4 er4 q => ⟨F4, M4, e4, ss.trans s4, rm4, er4, q⟩, en3.rt, en3.nx, fun F4 M4 H4 e4 σ4 s4 rm4 er4 q => ⟨F4, M4, e4, ss.trans s4, rm4, er4, q⟩, en3.ex⟩
    | false =>
      show if false = true then _ else _
      rw [if_neg Bool.false_ne_true]
      exact en3.nx F3 M3 H3 env2 σ (Same.refl _) rm3 (er2.mono s3) cw
/-- a store to a target -/
theorem tg_read {F H : Hp} {M : Mem} {tg : Tg} {d : D} {v : V} {env : Env} {σ : L2.St} {N : Wp.Ends} {D : L2.Ends} (rm : RM G F M H) (er : EnvR G F env σ) (en : EndsR G W F N D) (r : RelD G F v d) (h : tgW tg d env fun e' => N.nx e' M) : liftG G tg v σ H D.nx :=
  ⟨F, M, env, d, _, rm, er, r, h, fun env' σ' er' _ q => en.nx F M H env' σ' (Same.refl _) rm er' q⟩
/-- a comprehension's list that goes to a name at once -/
theorem set_comp {e : Ex} {tg : Tg} {e' : Expr} {y : Str} {py pos : Pos} (g : Good G tb R k W X) (hN : X.N = N) (hs : X.env.scope = sc) (k1 : chkE tb N e sc e' = true) (hsw : swB sc y py e' = true) (k2 : chkG N sc true tg (.Name y py) = true) :
    PS X (.Assign [.Name y py] e' pos) (tAsg (liftE G W (wpE R e)) (liftG G tg)) := by
  refine ⟨fun pins s σ H D I q => ?_⟩
  have hk := I.ok.kind
  revert q
  cases tg with
  | no => cases k2
  | co _ _ => cases k2
  | nm i =>
    intro q
    have k2 : (decide (N[i]? = some y) && locB sc true y) = true := k2
    rw [Bool.and_eq_true] at k2
    unfold swB at hsw
    split at hsw
    · rename_i elt' gens scope p2
      simp only [Bool.and_eq_true] at hsw
      obtain ⟨⟨w1, w2⟩, w3⟩ := hsw
      have w1 : X.env.scope.names.lookup y = some .local := by rw [hs]; exact of_decide_eq_true w1
      cases e <;> first
        | (cases k1; done)
        | skip
      rename_i fr own tg iter cond elt
      unfold chkE at k1
      split at k1
      · rename_i hq
        injection hq with q1 q2 q3 q4
        subst q1 q2 q3 q4
        rename_i tg' iter' ifs' _
        simp only [Bool.and_eq_true] at k1
        obtain ⟨⟨⟨⟨⟨⟨k1, k3⟩, k4⟩, k5⟩, k6⟩, k7⟩, k8⟩ := k1
        have own_eq : (ownOf N own).map (·.2) = own := by
          unfold ownOf
          rw [List.map_map]
          exact (List.map_congr_left fun a _ => rfl).trans (List.map_id own)
        have hsl : ∀ i ∈ slots tg, i ∈ own := fun i hi => by
          obtain ⟨j, hj, e⟩ := List.any_eq_true.mp (List.all_eq_true.mp k5 i hi)
          rw [eq_of_beq e]
          exact hj
        have hblk := blkOk_by k1
        rw [← hN, ← hs] at hblk
        rw [← hN] at own_eq
        have P := ps_setLc (i := i) (spos := pos) (py := py) (g := fun v σ H Q => ∃ P : Hp, liftG (G.hide P) tg v σ H Q) (tt := fun σ H Q => ∃ P : Hp, liftT (G.hide P) (fun _ _ _ _ => False) (wpC R cond) σ H Q) (te := fun σ H Q => ∃ P : Hp, liftE (G.hide P) (fun _ _ _ _ => False) (wpE R elt) σ H Q)
          (pos := p2) (g.calm k8.2) g.nd (by rw [hN]; exact of_decide_eq_true k2.1) w1 (sw_true hk w1 w2 (by simpa using w3)) (snd_W iter g hN hs k3) hblk
          (fun s H C cl fp => PG.ex fun P => snd_G (G := G.hide P) (X := X.blk s H scope (compEnvC scope cl C X.env) fp) (sc := relS scope sc) (top := false) g.hK hN g.nd (env_relS hs) (g.calm k8.2) (fun z => by cases z) tg k4)
          (fun s H C cl fp => PTs.ex fun P => snd_F cond ((g.hide P).blk) hN (env_relS hs) k6)
          (fun s H C cl fp => PE.ex fun P => (snd_E elt ((g.hide P).blk) hN (env_relS hs) k7).E) (fold_ok k8.1)
        rw [own_eq] at P
        refine P.run pins s σ H D I (comp_read (fr := fr) hsl ?_)
        obtain ⟨F, M, env, q2, e, rm, er, cn, cx, h⟩ := q
        refine ⟨F, M, env, q2, e, rm, er, fun F1 M1 H1 v d s1 rm1 r1 hq => ?_, cx, h⟩
        obtain ⟨F2, M2, env2, d2, Qe, rm2, er2, r2, q3, k⟩ := cn F1 M1 H1 v d s1 rm1 r1 hq
        refine k _ _ (er2.set r2) ⟨List.length_set, fun j hj => ?_⟩ q3
        have : i ≠ j := fun z => hj (by subst z; exact List.mem_singleton.mpr rfl)
        exact List.getElem?_set_ne this
      · cases k1
    · cases hsw
/-- a def's own frame -/
structure FrOk (X : Cx) : Prop where
  ex : X.ex = []
  st : X.stack = X.env :: X.outer
  fr : X.env.frame = some X.env.locals
theorem any_mem {l : List (Nat × Str)} {q : Nat × Str} (h : (l.any fun p => decide (p = q)) = true) : q ∈ l := by
  obtain ⟨p, hp, e⟩ := List.any_eq_true.mp h
  rw [← of_decide_eq_true e]
  exact hp
theorem EnvR.wipe1 {G : Gx} {F : Hp} {env : Env} {σ : L2.St} (i : Nat) (h : EnvR G F env σ) : EnvR G F (env.set i none) (σ.set i none) := EnvR.wipe h [i]
theorem raise_heap {H : Hp} {a dx : Addr} {o1 o2 o3 o4 : HO} (n1 : H dx = none) (na : H a = none) (ne : dx ≠ a) : upd (L2.del (upd (upd (upd H a o1) dx o2) a o3) a) dx o4 = upd H dx o4 := by
  funext b
  by_cases h1 : b = dx
  · rw [h1, upd_same, upd_same]
  · rw [upd_ne h1, upd_ne h1]
    by_cases h2 : b = a
    · rw [h2, L2.del_same, na]
    · rw [L2.del_ne h2, upd_ne h2, upd_ne h1, upd_ne h2]
/-- in an except suite -/
theorem Good.cold {X : Cx} (g : Good G tb R k W X) (a : Addr) (pn : List (Addr × Obj)) : Good G tb.cold R k (fun _ _ _ _ => False) (X.suite a pn) :=
  ⟨g.hK, g.nd, fun z => (by cases z), fun z => (by cases z), g.un, fun f x e => (by cases e), fun b h => (by
    obtain ⟨_, h⟩ := List.mem_filter.mp h
    have q : (biNm b == "isinstance" || biNm b == "ValueError") = false := by cases b <;> decide +kernel
    rw [q] at h
    cases h), takes0, fun f x e => (by cases e), g.glb, fun x h => g.bnn x (List.mem_filter.mp h).1, fun f x ds M q e h => (by cases h), g.mon, g.k2, g.xt, fun c f x h => (by cases h), fun c x h => (by cases h), ⟨fun f c m e => (by cases e), fun f c m e => (by cases e), fun f c m ds M q e h => (by cases h), g.ob.cls, fun c x h => (by cases h), fun c x h => (by cases h)⟩⟩
theorem noswA {e o : Expr} {f : Str} {p : Pos} {l : Nat} {env : PySem.Env} : swapsWith e (some (.Attribute o f p)) l env = pure false := by
  cases e <;> rfl
theorem noswD {e o i : Expr} {p : Pos} {l : Nat} {env : PySem.Env} : swapsWith e (some (.Subscript o i p)) l env = pure false := by
  cases e <;> rfl
theorem of_mem {f : Str} (h : (tb.of.any fun g => decide (g = f)) = true) : f ∈ tb.of := by
  obtain ⟨g, hg, e⟩ := List.any_eq_true.mp h
  rw [← of_decide_eq_true e]
  exact hg
theorem put_fld {G : Gx} {W : WX} {X : Cx} (g : Good G tb R k W X) {F H : Hp} {M : Mem} {v y : V} {x d : D} {f : Str} {q : Mem → Prop} (hf : f ∈ tb.of) (rm : RM G F M H) (r : RelD G F v x) (ry : RelD G F y d) (h : sflW x f d M q) :
    ∃ a C dx fs, v = .ref a ∧ H a = some (.ins C dx fs) ∧ Cls X.K C ∧ NoAttr X.K C f ∧ fs.length < 1000 ∧ (∃ c, clsW x M = some c ∧ G.co c = some C) ∧ ∃ M', RM G F M' (upd H a (.ins C dx (putF f y fs))) ∧ q M' := by
  unfold sflW at h
  split at h
  · rename_i p
    split at h
    · rename_i c fs e1
      obtain ⟨hl, h⟩ := h
      cases r
      obtain ⟨nf, C, dx, fvs, h1, h2, h3⟩ := rm.mt p _ e1
      obtain ⟨c1, c2⟩ := g.ob.cls c C h1
      exact ⟨p, C, dx, fvs, rfl, h2, c1, c2 f hf, by rw [fvs_len h3]; exact hl, ⟨c, by dsimp only [clsW]; rw [e1], h1⟩, _, rm.put (ob' := .obj c (putS f d fs)) e1 ⟨C, dx, _, h1, upd_same, fvs_put ry h3⟩, h⟩
    · exact h.elim
  · exact h.elim
theorem sfl_read {G : Gx} {W W' : WX} {X : Cx} (g : Good G tb R k W' X) {o e : Ex} {f : Str} {D : L2.Ends} {σ : L2.St} {H : Hp} (k4 : (tb.of.any fun g => decide (g = f)) = true) (q : liftS G W (wpS R (.sfl o f e)) D σ H) : sFld X.K (liftE G W (wpE R o)) (liftE G W (wpE R e)) f D σ H := by
  obtain ⟨F, M, env, N, rm, er, en, h⟩ := q
  refine enter rm er (en.cx er) h fun F1 M1 H1 v1 d1 s1 rm1 er1 cx1 r1 h => enter rm1 er1 cx1 h fun F2 M2 H2 v2 d2 s2 rm2 er2 cx2 r2 h => ?_
  obtain ⟨a, C, dx, fs, z1, z2, z3, z4, z5, _, M', rm', h⟩ := put_fld g (of_mem k4) rm2 r2 (r1.mono s2) h
  exact ⟨a, C, dx, fs, z1, z2, z3, z4, z5, en.nx F2 M' _ env σ (s1.trans s2) rm' er2 h⟩
theorem inop_of {G : Gx} {X : Cx} {op : Operator} (ho : (op == .Add || op == .Sub) = true) : InOp X op (fun x y H Q => ∃ F M a b q, RM G F M H ∧ RelD G F x a ∧ RelD G F y b ∧ Cn G F q Q ∧ augW op a b M q) := by
  intro pins s σ H x y u v Q I r1 r2 ⟨F, M, a, b, q, rm, d1, d2, cn, h⟩
  unfold augW at h
  split at h
  · cases d1; cases d2
    exact in_add pins s σ H _ _ u v Q I r1 r2 ⟨_, _, rfl, rfl, cn_here rm cn (.int _) h⟩
  · cases d1; cases d2
    exact in_sub pins s σ H _ _ u v Q I r1 r2 ⟨_, _, rfl, rfl, cn_here rm cn (.int _) h⟩
  · exact h.elim
theorem set_dic {X : Cx} (hu : X.A.units + 1 < cLine) : PSet X (fun o i v H Q => ∃ a H', o = .ref a ∧ DPut H a i v H' ∧ Q H') := by
  intro pins s σ H o i v ov iv u Q I ro ri rv ⟨a, H', e, g, q⟩
  subst e
  obtain rfl : ov = Value.ref a := ro
  exact d_setItem hu I g ri rv fun s6 I6 => ⟨H', I6, q⟩
/-- targets side by side -/
def liftTs (G : Gx) (W : WX) (R : Nat → List D → Mem → QK → XQ → Prop) (ts : List Ts) : TGs := fun vs σ H Q => ∃ (F : Hp) (M : Mem) (env : Env) (ds : List Wp.D) (nx : Env → Mem → Prop) (ex : Exn → Env → Mem → Prop), RM G F M H ∧ EnvR G F env σ ∧ RelDs G F vs ds ∧ tsW R ts ds env M nx ex ∧
  (∀ F' M' H' env' σ', Same F F' → RM G F' M' H' → EnvR G F' env' σ' → nx env' M' → Q σ' H') ∧ (∀ F' M' H' env' σ' z c dd, Same F F' → RM G F' M' H' → EnvR G F' env' σ' → RelX G F' H' z c dd → ex z env' M' → W c dd σ' H')
theorem ts_len : ∀ {ts : List Ts} {tgs : List Expr}, chkT tb N sc ts tgs = true → ∀ env : PySem.Env, (assignEach tgs env).length = tgs.length ∧ (assignEach tgs env).findIdx? (·.1) = none
  | [], [], _, env => ⟨rfl, rfl⟩
  | [], _ :: _, h, env => by cases h
  | .nm i :: ts, [], h, env => by cases h
  | .sb o i :: ts, [], h, env => by cases h
  | .db o i :: ts, [], h, env => by cases h
  | t :: ts, e :: es, h, env => by
    have key : noStar e = true ∧ chkT tb N sc ts es = true := by
      cases t <;> cases e <;> first
        | (cases h; done)
        | (unfold chkT at h
           simp only [Bool.and_eq_true] at h
           exact ⟨rfl, h.2⟩)
    obtain ⟨a, b⟩ := ts_len key.2 env
    rw [asg_ok key.1, List.length_cons, List.findIdx?_cons, a]
    simp [b]
theorem ts_num : ∀ {ts : List Ts} {tgs : List Expr}, chkT tb N sc ts tgs = true → ts.length = tgs.length
  | [], [], _ => rfl
  | [], _ :: _, h => by cases h
  | .nm i :: ts, [], h => by cases h
  | .sb o i :: ts, [], h => by cases h
  | .db o i :: ts, [], h => by cases h
  | t :: ts, e :: es, h => by
    have key : chkT tb N sc ts es = true := by
      cases t <;> cases e <;> first
        | (cases h; done)
        | (unfold chkT at h
           simp only [Bool.and_eq_true] at h
           exact h.2)
    rw [List.length_cons, List.length_cons, ts_num key]
theorem snd_Ts {G : Gx} {W : WX} {X : Cx} (g : Good G tb R k W X) (hN : X.N = N) (hs : X.env.scope = sc) (hf : X.fn = fun _ => true) : ∀ {ts : List Ts} {tgs : List Expr}, chkT tb N sc ts tgs = true → PGs X tgs (liftTs G W R ts)
  | [], [], _ => by
    refine PGs.imp pgs_nil fun vs σ H Q ⟨F, M, env, ds, nx, ex, rm, er, rs, h, hnx, hex⟩ => ?_
    cases rs with
    | nil => exact ⟨rfl, hnx F M H env σ (Same.refl F) rm er h⟩
    | cons _ _ => exact h.elim
  | [], _ :: _, h => by cases h
  | .nm i :: ts, [], h => by cases h
  | .sb o i :: ts, [], h => by cases h
  | .db o i :: ts, [], h => by cases h
  | .nm i :: ts, e :: es, h => by
    unfold chkT at h
    split at h
    · rename_i h0; cases h0
    · rename_i i' ts' x p es' h0 h1
      injection h0 with h01 h02
      injection h01 with h01
      injection h1 with h11 h12
      subst h01 h02 h11 h12
      simp only [Bool.and_eq_true] at h
      obtain ⟨⟨k1, k2⟩, k3⟩ := h
      obtain ⟨l1, l2⟩ := loc_of hs (fun _ => hf) k2
      refine PGs.imp (pgs_cons (pg_name (i := i) g.nd (by rw [hN]; exact of_decide_eq_true k1) l1 l2) (snd_Ts g hN hs hf k3) (by rw [asg_ok rfl]; rfl)) fun vs σ H Q ⟨F, M, env, ds, nx, ex, rm, er, rs, h, hnx, hex⟩ => ?_
      cases rs with
      | nil => exact h.elim
      | cons r rs => exact ⟨_, _, rfl, F, M, _, _, nx, ex, rm, er.set r, rs, h, hnx, hex⟩
    · rename_i h0 _; cases h0
    · rename_i h0 _; cases h0
    · cases h
  | .sb o i :: ts, e :: es, h => by
    unfold chkT at h
    split at h
    · rename_i h0; cases h0
    · rename_i h0 _; cases h0
    · rename_i o1 i1 ts' o' i' p es' h0 h1
      injection h0 with h01 h02
      injection h01 with h01 h03
      injection h1 with h11 h12
      subst h01 h02 h03 h11 h12
      simp only [Bool.and_eq_true] at h
      obtain ⟨⟨⟨k1, k2⟩, k3⟩, k4⟩ := h
      refine PGs.imp (pgs_cons (pg_sub ((snd_E o g hN hs k1).E) ((snd_E i g hN hs k2).E) (set_of (G := G)) (set_ok k3)) (snd_Ts g hN hs hf k4) (by rw [asg_ok rfl]; rfl)) fun vs σ H Q ⟨F, M, env, ds, nx, ex, rm, er, rs, h, hnx, hex⟩ => ?_
      cases rs with
      | nil => exact h.elim
      | cons r rs =>
        refine ⟨_, _, rfl, ?_⟩
        have cx : CnX G F (fun z M => ex z env M) (fun c d H => W c d σ H) := fun F' M' H' z c dd s rm' rx q => hex F' M' H' env σ z c dd s rm' (er.mono s) rx q
        refine enter rm er cx h fun F1 M1 H1 v1 d1 s1 rm1 er1 cx1 r1 h => enter rm1 er1 cx1 h fun F2 M2 H2 v2 d2 s2 rm2 er2 cx2 r2 h => ?_
        have ss := s1.trans s2
        exact ⟨F2, M2, d1, d2, _, _, rm2, r1.mono s2, r2, r.mono ss, h, fun M' H' rm' q => ⟨F2, M', env, _, nx, ex, rm', er2, rs.mono ss, q, fun F3 M3 H3 e3 σ3 s3 => hnx F3 M3 H3 e3 σ3 (ss.trans s3), fun F3 M3 H3 e3 σ3 z c dd s3 => hex F3 M3 H3 e3 σ3 z c dd (ss.trans s3)⟩⟩
    · rename_i h0 _; cases h0
    · cases h
  | .db o i :: ts, e :: es, h => by
    unfold chkT at h
    split at h
    · rename_i h0; cases h0
    · rename_i h0 _; cases h0
    · rename_i h0 _; cases h0
    · rename_i o1 i1 ts' o' i' p es' h0 h1
      injection h0 with h01 h02
      injection h01 with h01 h03
      injection h1 with h11 h12
      subst h01 h02 h03 h11 h12
      simp only [Bool.and_eq_true] at h
      obtain ⟨⟨⟨k1, k2⟩, k3⟩, k4⟩ := h
      have hu : X.A.units + 1 < cLine := by have := g.un; omega
      refine PGs.imp (pgs_cons (pg_sub ((snd_E o g hN hs k1).E) ((snd_E i g hN hs k2).E) (set_dic hu) (set_ok k3)) (snd_Ts g hN hs hf k4) (by rw [asg_ok rfl]; rfl)) fun vs σ H Q ⟨F, M, env, ds, nx, ex, rm, er, rs, h, hnx, hex⟩ => ?_
      cases rs with
      | nil => exact h.elim
      | @cons v0 _ d0 _ r rs =>
        refine ⟨_, _, rfl, ?_⟩
        have cx : CnX G F (fun z M => ex z env M) (fun c d H => W c d σ H) := fun F' M' H' z c dd s rm' rx q => hex F' M' H' env σ z c dd s rm' (er.mono s) rx q
        refine enter rm er cx h fun F1 M1 H1 v1 d1 s1 rm1 er1 cx1 r1 h => enter rm1 er1 cx1 h fun F2 M2 H2 v2 d2 s2 rm2 er2 cx2 r2 h => ?_
        have ss := s1.trans s2
        obtain ⟨a, kvs, k, rfl, e1, e2, hl, h⟩ := dput_inv h
        cases r1
        obtain ⟨nf, vks, g1, g2⟩ := rm2.mt a _ e1
        refine ⟨a, _, rfl, by rw [key_rel r2 e2]; exact DPut.k g1 (by rw [g2.len]; exact hl), ?_⟩
        exact ⟨F2, _, env, _, nx, ex, rm2.put (ob' := .dic (putD kvs k d0)) (o := .dK (putK vks k v0)) e1 ⟨_, upd_same, g2.put (r.mono ss)⟩, er2, rs.mono ss, h, fun F3 M3 H3 e3 σ3 s3 => hnx F3 M3 H3 e3 σ3 (ss.trans s3), fun F3 M3 H3 e3 σ3 z c dd s3 => hex F3 M3 H3 e3 σ3 z c dd (ss.trans s3)⟩
    · cases h
theorem aug_ok {i : Expr} (h : noSlice i = true) : ∀ ov iv new, augStore i ov iv new = (do holding [new, ov, iv] (setItem ov iv new); release [new, ov, iv] []; pure .next) := by
  intro ov iv new
  cases i <;> first | rfl | cases h
theorem raise_heap2 {H : Hp} {a dx : Addr} {o1 o2 o3 o4 o5 : HO} (na : H a = none) (ne : dx ≠ a) : upd (L2.del (upd (upd (upd (upd H a o1) dx o2) a o3) dx o4) a) dx o5 = upd H dx o5 := by
  funext b
  by_cases h1 : b = dx
  · rw [h1, upd_same, upd_same]
  · rw [upd_ne h1, upd_ne h1]
    by_cases h2 : b = a
    · rw [h2, L2.del_same, na]
    · rw [L2.del_ne h2, upd_ne h1, upd_ne h2, upd_ne h1, upd_ne h2]
/-! an except suite -/
mutual
theorem snd_V {W : WX} {X : Cx} (g : Good G tb.cold R k W X) (hN : X.N = N) (hs : X.env.scope = sc) (hf : X.fn = fun _ => true) : ∀ (t : Sx) {st : Stmt}, chkV tb.cold N sc t st = true → PS X st (liftS G W (wpS R t))
  | .asg (.nm j) e, st, h => by
    unfold chkV at h; split at h
    · rename_i y py e' pos
      simp only [Bool.and_eq_true] at h
      obtain ⟨⟨⟨k1, k2⟩, k3⟩, k4⟩ := h
      obtain ⟨l1, l2⟩ := loc_of hs (fun _ => hf) k3
      have hsf : swapsWith e' (some (.Name y py)) pos.line X.env = pure false := nosw (by simpa using k4)
      refine PS.imp (ps_asg ((snd_E e g hN hs k1).E) (pg_name (i := j) g.nd (by rw [hN]; exact of_decide_eq_true k2) l1 l2) hsf (noswap rfl) rfl) fun D σ H ⟨F, M, env, N, rm, er, en, h⟩ => ?_
      refine enter rm er (en.cx er) h fun F1 M1 H1 v1 d1 s1 rm1 er1 cx1 r1 h => ?_
      exact en.nx F1 M1 H1 (setV env j d1) _ s1 rm1 (er1.set r1) h
    · cases h
  | .ife c s t, st, h => by
    unfold chkV at h; split at h
    · rw [Bool.and_eq_true, Bool.and_eq_true] at h
      refine PS.imp (ps_if (snd_E c g hN hs h.1.1).T (snd_U g hN hs hf s h.1.2) (snd_U g hN hs hf t h.2)) fun D σ H ⟨F, M, env, N, rm, er, en, h⟩ => ?_
      refine ⟨F, M, env, _, _, rm, er, fun F1 M1 H1 b s1 rm1 q => ?_, en.cx er, h⟩
      cases b with
      | true => rw [if_pos rfl]; exact ⟨F1, M1, env, N, rm1, er.mono s1, en.mono s1, q⟩
      | false => rw [if_neg Bool.false_ne_true]; exact ⟨F1, M1, env, N, rm1, er.mono s1, en.mono s1, q⟩
    · cases h
  | .ret e, st, h => by
    unfold chkV at h; split at h
    · have A := (snd_E e g hN hs h).E
      refine PS.imp (ps_ret A) fun D σ H ⟨F, M, env, N, rm, er, en, h⟩ => ?_
      exact enter rm er (en.cx er) h fun F1 M1 H1 v1 d1 s1 rm1 er1 cx1 r1 h => en.rt F1 M1 H1 v1 d1 s1 rm1 r1 h
    · cases h
  | .sfl o f e, st, h => by
    unfold chkV at h; split at h
    · simp only [Bool.and_eq_true] at h
      obtain ⟨⟨⟨k1, k2⟩, k3⟩, k4⟩ := h
      have e1 := of_decide_eq_true k1
      subst e1
      exact PS.imp (ps_fld ((snd_E o g hN hs k2).E) ((snd_E e g hN hs k3).E) noswA) fun D σ H q => sfl_read g k4 q
    · cases h
  | .pass, st, h => by
    unfold chkV at h; split at h
    · exact PS.imp ps_pass fun D σ H ⟨F, M, env, N, rm, er, en, h⟩ => en.nx F M H env σ (Same.refl _) rm er h
    · cases h
  | .asg .no _, st, h => by cases h
  | .asg (.co _ _) _, st, h => by cases h
  | .nil, st, h => by cases h
  | .seq _ _, st, h => by cases h
  | .sub _ _ _, st, h => by cases h
  | .dput _ _ _, st, h => by cases h
  | .aug _ _ _, st, h => by cases h
  | .drop _, st, h => by cases h
  | .loop _ _, st, h => by cases h
  | .each _ _ _, st, h => by cases h
  | .brk, st, h => by cases h
  | .cnt, st, h => by cases h
  | .never, st, h => by cases h
  | .frz _, st, h => by cases h
  | .rse _ _ _, st, h => by cases h
  | .rsp _ _, st, h => by cases h
  | .tri _ _ _ _, st, h => by cases h
  | .trn _ _ _, st, h => by cases h
  | .fau _ _ _ _, st, h => by cases h
  | .dau _ _ _ _, st, h => by cases h
  | .asu _ _, st, h => by cases h
  | .rsb _ _, st, h => by cases h
  | .tr2 _ _ _ _ _ _ _, st, h => by cases h
theorem snd_U {W : WX} {X : Cx} (g : Good G tb.cold R k W X) (hN : X.N = N) (hs : X.env.scope = sc) (hf : X.fn = fun _ => true) : ∀ (t : Sx) {sts : List Stmt}, chkU tb.cold N sc t sts = true → PSs X sts (liftS G W (wpS R t))
  | .nil, sts, h => by
    unfold chkU at h; split at h
    · exact PSs.imp pss_nil fun D σ H ⟨F, M, env, N, rm, er, en, h⟩ => en.nx F M H env σ (Same.refl _) rm er h
    · cases h
  | .seq s t, sts, h => by
    unfold chkU at h; split at h
    · rw [Bool.and_eq_true] at h
      refine PSs.imp (pss_cons (snd_V g hN hs hf s h.1) (snd_U g hN hs hf t h.2)) fun D σ H ⟨F, M, env, N, rm, er, en, h⟩ => ?_
      refine ⟨F, M, env, _, rm, er, ?_, h⟩
      exact ⟨fun F1 M1 H1 e1 σ1 s1 rm1 er1 q => ⟨F1, M1, e1, N, rm1, er1, en.mono s1, q⟩, en.rt, en.bk, en.ct, en.ex⟩
    · cases h
  | .asg _ _, sts, h => by cases h
  | .sub _ _ _, sts, h => by cases h
  | .dput _ _ _, sts, h => by cases h
  | .aug _ _ _, sts, h => by cases h
  | .drop _, sts, h => by cases h
  | .ret _, sts, h => by cases h
  | .ife _ _ _, sts, h => by cases h
  | .loop _ _, sts, h => by cases h
  | .each _ _ _, sts, h => by cases h
  | .pass, sts, h => by cases h
  | .brk, sts, h => by cases h
  | .cnt, sts, h => by cases h
  | .never, sts, h => by cases h
  | .frz _, sts, h => by cases h
  | .rse _ _ _, sts, h => by cases h
  | .rsp _ _, sts, h => by cases h
  | .tri _ _ _ _, sts, h => by cases h
  | .trn _ _ _, sts, h => by cases h
  | .sfl _ _ _, sts, h => by cases h
  | .fau _ _ _ _, sts, h => by cases h
  | .dau _ _ _ _, sts, h => by cases h
  | .asu _ _, sts, h => by cases h
  | .rsb _ _, sts, h => by cases h
  | .tr2 _ _ _ _ _ _ _, sts, h => by cases h
end
theorem hd_ok {G : Gx} {W : WX} {X : Cx} (g : Good G tb R k W X) (hN : X.N = N) (hs : X.env.scope = sc) (hf : X.fn = fun _ => true) {c : Nat} {i : Option Nat} {t : Sx} {h : ExceptHandler} (hk : chkH tb N sc c i t h = true) :
    ∃ C, G.cl c = some C ∧ ∀ {hds : List ExceptHandler} {l : List (Value × Option Nat × TS)}, L2.HdO X hds l → L2.HdO X (h :: hds) ((.ref C, i, liftS G (fun _ _ _ _ => False) (wpS R t)) :: l) := by
  unfold chkH at hk
  split at hk
  · simp only [Bool.and_eq_true] at hk
    obtain ⟨⟨⟨k1, k2⟩, k3⟩, k4⟩ := hk
    obtain ⟨D0, m1, m2⟩ := g.xt.nm _ (any_mem k1)
    obtain ⟨j1, j2⟩ := gl_of hs k2
    refine ⟨D0, m2, fun {hds l} r => ?_⟩
    split at k3
    · rename_i i n
      rw [Bool.and_eq_true] at k3
      have hln : X.env.kindOf n = some .local := by
        show X.env.scope.names.lookup n = _
        rw [hs]
        exact of_decide_eq_true k3.2
      exact .nmd ⟨j1, j2, .inl m1⟩ (by rw [hN]; exact of_decide_eq_true k3.1) hln (fun a pn => snd_U (g.cold a pn) hN hs hf t k4) r
    · exact .bare ⟨j1, j2, .inl m1⟩ (fun a pn => snd_U (g.cold a pn) hN hs hf t k4) r
    · cases k3
  · cases hk
theorem cl_read {G : Gx} {W : WX} {F H : Hp} {M : Mem} {env : Env} {σ : L2.St} {N : Wp.Ends} {D : L2.Ends} {t : Sx} {i : Option Nat} {z : Exn} {cls : Value} {dd : Option Addr} (rm : RM G F M H) (er : EnvR G F env σ) (en : EndsR G W F N D) (rx : RelX G F H z cls dd) (q : clW (wpS R t) i N z env M) :
    L2.wCl i (liftS G (fun _ _ _ _ => False) (wpS R t)) D cls dd σ H := by
  obtain ⟨C, x1, rfl, x2⟩ := rx
  cases i with
  | some i =>
    intro a ha
    have nF := rm.freeF ha
    have hob : RelOb G F (upd H a (L2.ExH (.ref C) dd a)) a (.ins z.c z.fs) := ⟨C, dd, x1, upd_same, x2⟩
    refine ⟨F, M.upd a (.ins z.c z.fs), setV env i (.loc a), _, rm.new ha hob, er.set .loc, ?_, q a (rm.freeM ha)⟩
    exact ⟨fun F2 M2 H2 e2 σ2 s2 rm2 er2 q => en.nx F2 M2 H2 _ _ s2 rm2 (er2.wipe1 i) q, en.rt, fun F2 M2 H2 e2 σ2 s2 rm2 er2 q => en.bk F2 M2 H2 _ _ s2 rm2 (er2.wipe1 i) q, fun F2 M2 H2 e2 σ2 s2 rm2 er2 q => en.ct F2 M2 H2 _ _ s2 rm2 (er2.wipe1 i) q, fun F2 M2 H2 e2 σ2 z c dd s2 rm2 er2 rx q => q.elim⟩
  | none =>
    exact ⟨F, M, env, ⟨N.nx, N.rt, N.bk, N.ct, fun _ _ _ => False⟩, rm, er, ⟨en.nx, en.rt, en.bk, en.ct, fun F2 M2 H2 e2 σ2 z c dd s2 rm2 er2 rx q => q.elim⟩, q⟩
mutual
theorem snd_S (hot : tb.hot = true) : ∀ (s : Sx) {W : WX} {X : Cx}, Good G tb R k W X → X.N = N → X.env.scope = sc → X.fn = (fun _ => true) → PassesOwn (model X.prog X.w) X.A X.env X.xe → FrOk X → ∀ {st : Stmt}, chkS tb N sc s st = true → PS X st (liftS G W (wpS R s))
  | .asg tg e, W, X, g, hN, hs, hf, po, fo, st, h => by
    unfold chkS at h; split at h
    · rename_i tg' e' pos
      simp only [Bool.and_eq_true] at h
      obtain ⟨⟨⟨k1, k2⟩, k3⟩, k4⟩ := h
      have A := (snd_E e g hN hs k1).E
      have B := snd_G (G := G) g.hK hN g.nd hs (g.calm hot) (fun _ => hf) tg k2
      have read : ∀ D σ H, liftS G W (wpS R (.asg tg e)) D σ H → tAsg (liftE G W (wpE R e)) (liftG G tg) D σ H := fun D σ H ⟨F, M, env, N, rm, er, en, h⟩ =>
        enter rm er (en.cx er) h fun F1 M1 H1 v1 d1 s1 rm1 er1 cx1 r1 h => tg_read rm1 er1 (en.mono s1) r1 h
      split at k4
      · rename_i y py
        by_cases hsw : swB sc y py e' = true
        · -- a comprehension's list that goes to the name at once
          exact PS.imp (set_comp g hN hs k1 hsw k2) read
        · have hsf : swapsWith e' (some (.Name y py)) pos.line X.env = pure false := by
            rw [Bool.eq_false_iff.mpr hsw, Bool.false_or, Bool.or_eq_true] at k4
            rcases k4 with k4 | k4
            · exact nosw (by simpa using k4)
            · refine noswC ?_
              show X.env.scope.names.lookup y = _
              rw [hs]
              exact of_decide_eq_true k4
          exact PS.imp (ps_asg A B hsf (noswap k3) rfl) read
      · exact PS.imp (ps_asg A B noswT (noswap k3) rfl) read
      · cases k4
    · cases h
  | .sub o i e, W, X, g, hN, hs, hf, po, fo, st, h => by
    unfold chkS at h; split at h
    · simp only [Bool.and_eq_true] at h
      obtain ⟨⟨⟨k1, k2⟩, k3⟩, k4⟩ := h
      have A := (snd_E o g hN hs k1).E
      have B := (snd_E i g hN hs k2).E
      have C := (snd_E e g hN hs k4).E
      refine PS.imp (ps_asg C (pg_sub A B (set_of (G := G)) (set_ok k3)) noswS (noswap rfl) rfl) fun D σ H ⟨F, M, env, N, rm, er, en, h⟩ => ?_
      refine enter rm er (en.cx er) h fun F1 M1 H1 v1 d1 s1 rm1 er1 cx1 r1 h => enter rm1 er1 cx1 h fun F2 M2 H2 v2 d2 s2 rm2 er2 cx2 r2 h => enter rm2 er2 cx2 h fun F3 M3 H3 v3 d3 s3 rm3 er3 cx3 r3 h => ?_
      exact ⟨F3, M3, d2, d3, d1, _, rm3, r2.mono s3, r3, r1.mono (s2.trans s3), h, fun M' H' rm' q => en.nx F3 M' H' env σ (s1.trans (s2.trans s3)) rm' er3 q⟩
    · cases h
  | .dput o i e, W, X, g, hN, hs, hf, po, fo, st, h => by
    unfold chkS at h; split at h
    · simp only [Bool.and_eq_true] at h
      obtain ⟨⟨⟨k1, k2⟩, k3⟩, k4⟩ := h
      have A := (snd_E o g hN hs k1).E
      have B := (snd_E i g hN hs k2).E
      have C := (snd_E e g hN hs k4).E
      have hu : X.A.units + 1 < cLine := by have := g.un; omega
      refine PS.imp (ps_dput hu A B C noswD) fun D σ H ⟨F, M, env, N, rm, er, en, h⟩ => ?_
      refine enter rm er (en.cx er) h fun F1 M1 H1 v1 d1 s1 rm1 er1 cx1 r1 h => enter rm1 er1 cx1 h fun F2 M2 H2 v2 d2 s2 rm2 er2 cx2 r2 h => enter rm2 er2 cx2 h fun F3 M3 H3 v3 d3 s3 rm3 er3 cx3 r3 h => ?_
      obtain ⟨a, kvs, k, rfl, e1, e2, hl, h⟩ := dput_inv h
      cases r2
      obtain ⟨nf, vks, g1, g2⟩ := rm3.mt a _ e1
      refine ⟨a, _, rfl, ?_, en.nx F3 _ _ env σ (s1.trans (s2.trans s3)) (rm3.put (ob' := .dic (putD kvs k d1)) (o := .dK (putK vks k v1)) e1 ⟨_, upd_same, g2.put (r1.mono (s2.trans s3))⟩) er3 h⟩
      rw [key_rel r3 e2]
      exact DPut.k g1 (by rw [g2.len]; exact hl)
    · cases h
  | .aug i op e, W, X, g, hN, hs, hf, po, fo, st, h => by
    unfold chkS at h; split at h
    · simp only [Bool.and_eq_true] at h
      obtain ⟨⟨⟨⟨k1, k2⟩, k3⟩, k4⟩, k5⟩ := h
      have e1 := of_decide_eq_true k1
      subst e1
      obtain ⟨l1, l2⟩ := loc_of hs (fun _ => hf) k3
      have A := (snd_E e g hN hs k4).E
      refine PS.imp (ps_aug g.nd (by rw [hN]; exact of_decide_eq_true k2) l1 A (ip_of (G := G) k5) l2) fun D σ H ⟨F, M, env, N, rm, er, en, h⟩ => ?_
      dsimp only [wpS] at h
      cases q1 : slv env i with
      | none => rw [q1] at h; exact h.elim
      | some d =>
        rw [q1] at h
        obtain ⟨v, e1, r⟩ := er.at_ i d q1
        refine ⟨v, e1, enter rm er (en.cx er) h fun F1 M1 H1 v1 d1 s1 rm1 er1 cx1 r1 h => ?_⟩
        exact ⟨F1, M1, d, d1, _, rm1, r.mono s1, r1, fun F2 M2 H2 v2 d2 s2 rm2 r2 q => en.nx F2 M2 H2 _ _ (s1.trans s2) rm2 ((er1.mono s2).set r2) q, h⟩
    · cases h
  | .drop e, W, X, g, hN, hs, hf, po, fo, st, h => by
    unfold chkS at h; split at h
    · rw [Bool.and_eq_true] at h
      refine PS.imp (ps_expr (snd_E e g hN hs h.1).E (nosw (by simpa using h.2))) fun D σ H ⟨F, M, env, N, rm, er, en, h⟩ => ?_
      exact enter rm er (en.cx er) h fun F1 M1 H1 v1 d1 s1 rm1 er1 cx1 r1 h => en.nx F1 M1 H1 env σ s1 rm1 er1 h
    · cases h
  | .ret e, W, X, g, hN, hs, hf, po, fo, st, h => by
    unfold chkS at h; split at h
    · refine PS.imp (ps_ret (snd_E e g hN hs h).E) fun D σ H ⟨F, M, env, N, rm, er, en, h⟩ => ?_
      exact enter rm er (en.cx er) h fun F1 M1 H1 v1 d1 s1 rm1 er1 cx1 r1 h => en.rt F1 M1 H1 v1 d1 s1 rm1 r1 h
    · cases h
  | .ife c s t, W, X, g, hN, hs, hf, po, fo, st, h => by
    unfold chkS at h; split at h
    · rw [Bool.and_eq_true, Bool.and_eq_true] at h
      refine PS.imp (ps_if (snd_E c g hN hs h.1.1).T (snd_L hot s g hN hs hf po fo h.1.2) (snd_L hot t g hN hs hf po fo h.2)) fun D σ H ⟨F, M, env, N, rm, er, en, h⟩ => ?_
      refine ⟨F, M, env, _, _, rm, er, fun F1 M1 H1 b s1 rm1 q => ?_, en.cx er, h⟩
      cases b with
      | true => rw [if_pos rfl]; exact ⟨F1, M1, env, N, rm1, er.mono s1, en.mono s1, q⟩
      | false => rw [if_neg Bool.false_ne_true]; exact ⟨F1, M1, env, N, rm1, er.mono s1, en.mono s1, q⟩
    · cases h
  | .loop c s, W, X, g, hN, hs, hf, po, fo, st, h => by
    unfold chkS at h; split at h
    · rw [Bool.and_eq_true] at h
      exact PS.imp (ps_while po (snd_E c g hN hs h.1).T (snd_L hot s g hN hs hf po fo h.2)) fun D σ H q => while_read q
    · cases h
  | .each tg w s, W, X, g, hN, hs, hf, po, fo, st, h => by
    unfold chkS at h; split at h
    · simp only [Bool.and_eq_true] at h
      obtain ⟨⟨⟨k1, k2⟩, k3⟩, k4⟩ := h
      exact PS.imp (ps_for po (g.calm hot) (snd_W w g hN hs k1) (snd_G (G := G) g.hK hN g.nd hs (g.calm hot) (fun _ => hf) tg k2) (snd_L hot s g hN hs hf po fo k3) (fold_ok k4)) fun D σ H q => for_read q
    · cases h
  | .pass, W, X, g, hN, hs, hf, po, fo, st, h => by
    unfold chkS at h; split at h
    · exact PS.imp ps_pass fun D σ H ⟨F, M, env, N, rm, er, en, h⟩ => en.nx F M H env σ (Same.refl _) rm er h
    · cases h
  | .brk, W, X, g, hN, hs, hf, po, fo, st, h => by
    unfold chkS at h; split at h
    · exact PS.imp ps_break fun D σ H ⟨F, M, env, N, rm, er, en, h⟩ => en.bk F M H env σ (Same.refl _) rm er h
    · cases h
  | .cnt, W, X, g, hN, hs, hf, po, fo, st, h => by
    unfold chkS at h; split at h
    · exact PS.imp ps_continue fun D σ H ⟨F, M, env, N, rm, er, en, h⟩ => en.ct F M H env σ (Same.refl _) rm er h
    · cases h
  | .never, W, X, g, hN, hs, hf, po, fo, st, h => PS.imp ps_never fun D σ H ⟨F, M, env, N, rm, er, en, h⟩ => h
  | .rse c f a, W, X, g, hN, hs, hf, po, fo, st, h => by
    unfold chkS at h; split at h
    · rename_i x p1 a' p2 p3
      simp only [Bool.and_eq_true] at h
      obtain ⟨⟨⟨⟨k1, k2⟩, k3⟩, k4⟩, k5⟩ := h
      have hc := any_mem k1
      have hr := any_mem k2
      obtain ⟨C, fI, fd, ps, c1, c2, c3, c4, c5, c6, c7, c8⟩ := (g.mkr c f x hr hc).ex
      obtain ⟨j1, j2⟩ := gl_of hs k3
      have P := L2.pmk_oex (CX := L2.CX0) (k := 1) (ds := []) (dvs := []) (p := p1) (pos := p2) c4 c5 c6 c8 ((g.room hot).mono (Nat.le_succ_of_le g.k2)) c7 .nil L2.pass0 j1 c2 (pa_cons ((snd_E a g hN hs k4).E) pa_nil (star_ok k5)) j2 (star_ok k5) rfl
      refine PS.imp (ps_raise (g.calm hot) g.tk P) fun D σ H ⟨F, M, env, N, rm, er, en, h⟩ => ?_
      refine enter rm er (en.cx er) h fun F1 M1 H1 v1 d1 s1 rm1 er1 cx1 r1 h => ?_
      refine ⟨(by decide : 1 ≤ 1000), fun p hp => ⟨p, v1, rfl, upd_same, fun dx n1 n2 => ⟨rfl, dx, [(f, v1)], upd_same, ?_, ?_, ?_⟩⟩⟩
      · rw [upd_ne n2, upd_same]
      · rw [upd_ne n2] at n1
        exact n1
      · rw [upd_ne n2] at n1
        rw [raise_heap n1 hp n2]
        refine en.ex (upd F1 dx (.xd [(f, v1)])) M1 _ env σ ⟨c, [(f, d1)]⟩ (.ref C) (some dx) (s1.trans (same_upd (rm1.freeF n1))) (rm1.frz n1) (er1.mono (same_upd (rm1.freeF n1))) ⟨C, c1, rfl, .inr ⟨dx, _, rfl, upd_same, .cons ⟨rfl, r1.mono (same_upd (rm1.freeF n1))⟩ .nil⟩⟩ h
    · cases h
  | .rsp c a, W, X, g, hN, hs, hf, po, fo, st, h => by
    unfold chkS at h; split at h
    · rename_i x p1 a' p2 p3
      simp only [Bool.and_eq_true] at h
      obtain ⟨⟨⟨⟨k1, k2⟩, k3⟩, k4⟩, k5⟩ := h
      have hc := any_mem k1
      have hr : c ∈ tb.xo := by
        obtain ⟨p, hp, e⟩ := List.any_eq_true.mp k2
        rw [← of_decide_eq_true e]
        exact hp
      obtain ⟨C, c1, c2, c3, c4, c5, c6⟩ := (g.own c x hr hc).ex
      obtain ⟨j1, j2⟩ := gl_of hs k3
      refine PS.imp (ps_raise (g.calm hot) g.tk (SkE.pmk_own1 PySem.F.excBase_ValueError c4 c2 c3 (raises_own c5 c6) j1 ((snd_E a g hN hs k4).E) (star_ok k5) j2)) fun D σ H ⟨F, M, env, N, rm, er, en, h⟩ => ?_
      refine enter rm er (en.cx er) h fun F1 M1 H1 v1 d1 s1 rm1 er1 cx1 r1 h => ?_
      exact en.ex F1 M1 H1 env σ ⟨c, []⟩ (.ref C) none s1 rm1 er1 ⟨C, c1, rfl, .inl ⟨rfl, rfl⟩⟩ h
    · cases h
  | .tri c i s t, W, X, g, hN, hs, hf, po, fo, st, h => by
    unfold chkS at h; split at h
    · rename_i body x np n b suite pos' pos
      simp only [Bool.and_eq_true] at h
      obtain ⟨⟨⟨⟨⟨k1, k2⟩, k3⟩, k4⟩, k5⟩, k6⟩ := h
      obtain ⟨D0, m1, m2⟩ := g.xt.nm _ (any_mem k1)
      obtain ⟨j1, j2⟩ := gl_of hs k2
      have hln : X.env.kindOf n = some .local := by
        show X.env.scope.names.lookup n = _
        rw [hs]
        exact of_decide_eq_true k4
      refine PS.imp (L2.ps_try_own (i := i) (tb := fun W => liftS G W (wpS R s)) (ts := liftS G (fun _ _ _ _ => False) (wpS R t)) fo.ex fo.st fo.fr g.nd (by rw [hN]; exact of_decide_eq_true k3) hln ⟨j1, j2, .inl m1⟩ g.tk
        (fun W' pn xe tk' po' => snd_L hot s (W := W') (X := X.tr pn xe) ⟨g.hK, g.nd, g.calm, g.room, g.un, g.hn, g.hb, tk', g.fns, g.glb, g.bnn, g.len, g.mon, g.k2, g.xt, g.mkr, g.own, g.ob⟩ hN hs hf po' ⟨fo.ex, fo.st, fo.fr⟩ k5)
        (fun a pn => PSs.imp (snd_U (g.cold a pn) hN hs hf t k6) fun D σ H ⟨F, M, env, N, rm, er, en, h⟩ => ⟨F, M, env, N, rm, er, en, h⟩)) fun D σ H ⟨F, M, env, N, rm, er, en, h⟩ => ?_
      refine ⟨F, M, env, _, rm, er, ?_, h⟩
      refine ⟨en.nx, en.rt, en.bk, en.ct, fun F1 M1 H1 env1 σ1 z cls dd s1 rm1 er1 rx q => ?_⟩
      obtain ⟨C, x1, rfl, x2⟩ := rx
      refine ⟨subX z.c c, (g.xt.sub z.c C c D0 x1 m2).2, fun hb a ha => ?_, fun hb => ?_⟩
      · dsimp only at q
        rw [hb] at q
        have nF := rm1.freeF ha
        have hob : RelOb G F1 (upd H1 a (L2.ExH (.ref C) dd a)) a (.ins z.c z.fs) := ⟨C, dd, x1, upd_same, x2⟩
        refine ⟨F1, M1.upd a (.ins z.c z.fs), setV env1 i (.loc a), _, rm1.new ha hob, er1.set .loc, ?_, q a (rm1.freeM ha)⟩
        have en1 := en.mono s1
        exact ⟨fun F2 M2 H2 e2 σ2 s2 rm2 er2 q => en1.nx F2 M2 H2 _ _ s2 rm2 (er2.wipe1 i) q, en1.rt, fun F2 M2 H2 e2 σ2 s2 rm2 er2 q => en1.bk F2 M2 H2 _ _ s2 rm2 (er2.wipe1 i) q, fun F2 M2 H2 e2 σ2 s2 rm2 er2 q => en1.ct F2 M2 H2 _ _ s2 rm2 (er2.wipe1 i) q, fun F2 M2 H2 e2 σ2 z c dd s2 rm2 er2 rx q => q.elim⟩
      · dsimp only at q
        rw [hb] at q
        exact en.ex F1 M1 H1 env1 σ1 z _ dd s1 rm1 er1 ⟨C, x1, rfl, x2⟩ q
    · cases h
  | .trn c s t, W, X, g, hN, hs, hf, po, fo, st, h => by
    unfold chkS at h; split at h
    · rename_i body x np b suite pos' pos
      simp only [Bool.and_eq_true] at h
      obtain ⟨⟨⟨k1, k2⟩, k5⟩, k6⟩ := h
      obtain ⟨D0, m1, m2⟩ := g.xt.nm _ (any_mem k1)
      obtain ⟨j1, j2⟩ := gl_of hs k2
      refine PS.imp (L2.ps_try_only (tb := fun W => liftS G W (wpS R s)) (ts := fun _ _ _ => liftS G (fun _ _ _ _ => False) (wpS R t)) fo.st fo.fr ⟨j1, j2, .inl m1⟩ g.tk
        (fun W' pn xe tk' po' => snd_L hot s (W := W') (X := X.tr pn xe) ⟨g.hK, g.nd, g.calm, g.room, g.un, g.hn, g.hb, tk', g.fns, g.glb, g.bnn, g.len, g.mon, g.k2, g.xt, g.mkr, g.own, g.ob⟩ hN hs hf po' ⟨fo.ex, fo.st, fo.fr⟩ k5)
        (fun a oe cls d pn _ _ => snd_U (g.cold a ((a, oe) :: pn)) hN hs hf t k6)) fun D σ H ⟨F, M, env, N, rm, er, en, h⟩ => ?_
      refine ⟨F, M, env, _, rm, er, ?_, h⟩
      refine ⟨en.nx, en.rt, en.bk, en.ct, fun F1 M1 H1 env1 σ1 z cls dd s1 rm1 er1 rx q => ?_⟩
      obtain ⟨C, x1, rfl, x2⟩ := rx
      refine ⟨subX z.c c, (g.xt.sub z.c C c D0 x1 m2).2, fun hb a ha => ?_, fun hb => ?_⟩
      · dsimp only at q
        rw [hb] at q
        have en1 := en.mono s1
        exact ⟨F1, M1, env1, ⟨N.nx, N.rt, N.bk, N.ct, fun _ _ _ => False⟩, rm1, er1, ⟨en1.nx, en1.rt, en1.bk, en1.ct, fun F2 M2 H2 e2 σ2 z c dd s2 rm2 er2 rx q => q.elim⟩, q⟩
      · dsimp only at q
        rw [hb] at q
        exact en.ex F1 M1 H1 env1 σ1 z _ dd s1 rm1 er1 ⟨C, x1, rfl, x2⟩ q
    · cases h
  | .sfl o f e, W, X, g, hN, hs, hf, po, fo, st, h => by
    unfold chkS at h; split at h
    · simp only [Bool.and_eq_true] at h
      obtain ⟨⟨⟨k1, k2⟩, k3⟩, k4⟩ := h
      have e1 := of_decide_eq_true k1
      subst e1
      exact PS.imp (ps_fld ((snd_E o g hN hs k2).E) ((snd_E e g hN hs k3).E) noswA) fun D σ H q => sfl_read g k4 q
    · cases h
  | .fau o f op e, W, X, g, hN, hs, hf, po, fo, st, h => by
    unfold chkS at h; split at h
    · simp only [Bool.and_eq_true] at h
      obtain ⟨⟨⟨⟨⟨k1, k2⟩, k3⟩, k4⟩, k5⟩, k6⟩ := h
      have e1 := of_decide_eq_true k1
      have e2 := of_decide_eq_true k2
      subst e1 e2
      refine PS.imp (ps_fldaug ((snd_E o g hN hs k3).E) ((snd_E e g hN hs k4).E) (inop_of (G := G) k5)) fun D σ H ⟨F, M, env, N, rm, er, en, h⟩ => ?_
      refine enter rm er (en.cx er) h fun F1 M1 H1 v1 d1 s1 rm1 er1 cx1 r1 h => ?_
      unfold fldW at h
      split at h
      · rename_i p
        split at h
        · rename_i c fs q1
          split at h
          · rename_i d q2
            cases r1
            obtain ⟨nf, C, dx, fvs, h1, h2, h3⟩ := rm1.mt p _ q1
            obtain ⟨v, w1, w2⟩ := fvs_look h3 q2
            obtain ⟨c1, c2⟩ := g.ob.cls c C h1
            refine ⟨p, C, dx, fvs, v, rfl, h2, c1, c2 f (of_mem k6), w1, ?_⟩
            refine enter rm1 er1 cx1 h fun F2 M2 H2 v2 d2 s2 rm2 er2 cx2 r2 h => ?_
            refine ⟨F2, M2, d, d2, _, rm2, w2.mono s2, r2, fun F3 M3 H3 v3 d3 s3 rm3 r3 h => ?_, h⟩
            obtain ⟨hc, h⟩ := h
            obtain ⟨a, C', dx', fs', z1, z2, z3, z4, z5, ⟨c3, y1, y2⟩, M', rm', h⟩ := put_fld g (of_mem k6) rm3 (.loc (a := p)) r3 h
            cases z1
            have hC : C' = C := by
              have z : clsW (.loc p) M1 = some c := by dsimp only [clsW]; rw [q1]
              rw [y1, z] at hc
              cases hc
              rw [h1] at y2
              cases y2
              rfl
            subst hC
            exact ⟨dx', fs', z2, z5, en.nx F3 M' _ env σ (s1.trans (s2.trans s3)) rm' (er2.mono s3) h⟩
          · exact h.elim
        · exact h.elim
      · exact h.elim
    · cases h
  | .dau o i op e, W, X, g, hN, hs, hf, po, fo, st, h => by
    unfold chkS at h; split at h
    · simp only [Bool.and_eq_true] at h
      obtain ⟨⟨⟨⟨⟨k1, k2⟩, k3⟩, k4⟩, k5⟩, k6⟩ := h
      have e1 := of_decide_eq_true k1
      subst e1
      have hu : X.A.units + 1 < cLine := by have := g.un; omega
      refine PS.imp (ps_daug hu ((snd_E o g hN hs k2).E) ((snd_E i g hN hs k3).E) ((snd_E e g hN hs k5).E) (inop_of (G := G) k6) (aug_ok k4)) fun D σ H ⟨F, M, env, N, rm, er, en, h⟩ => ?_
      refine enter rm er (en.cx er) h fun F1 M1 H1 v1 d1 s1 rm1 er1 cx1 r1 h => enter rm1 er1 cx1 h fun F2 M2 H2 v2 d2 s2 rm2 er2 cx2 r2 h => ?_
      obtain ⟨a, kvs, k, v, rfl, q1, q2, q3, h⟩ := dget_inv h
      cases r1
      obtain ⟨nf, vks, g1, g2⟩ := rm2.mt a _ q1
      obtain ⟨w, w1, w2⟩ := g2.look q3
      refine ⟨a, w, rfl, by rw [key_rel r2 q2, ← w1]; exact DGet.k g1, ?_⟩
      refine enter rm2 er2 cx2 h fun F3 M3 H3 v3 d3 s3 rm3 er3 cx3 r3 h => ?_
      refine ⟨F3, M3, v, d3, _, rm3, w2.mono s3, r3, fun F4 M4 H4 v4 d4 s4 rm4 r4 h => ?_, h⟩
      obtain ⟨a', kvs', k', z1, e1, e2, hl, h⟩ := dput_inv h
      cases z1
      rw [q2] at e2
      cases e2
      obtain ⟨nf', vks', g1', g2'⟩ := rm4.mt a _ e1
      refine ⟨_, by rw [key_rel r2 q2]; exact DPut.k g1' (by rw [g2'.len]; exact hl), ?_⟩
      exact en.nx F4 _ _ env σ (s1.trans (s2.trans (s3.trans s4))) (rm4.put (ob' := .dic (putD kvs' k d4)) (o := .dK (putK vks' k v4)) e1 ⟨_, upd_same, g2'.put r4⟩) (er3.mono s4) h
    · cases h
  | .asu ts e, W, X, g, hN, hs, hf, po, fo, st, h => by
    unfold chkS at h; split at h
    · rename_i tgs kk tp e' pos
      simp only [Bool.and_eq_true] at h
      obtain ⟨⟨k1, k2⟩, k3⟩ := h
      obtain ⟨l1, l2⟩ := ts_len k1 X.env
      refine PS.imp (ps_asg ((snd_E e g hN hs k2).E) (pg_tup (g.calm hot) (snd_Ts g hN hs hf k1) l1 l2) noswT (noswap (by unfold noSwapT; exact k3)) rfl) fun D σ H ⟨F, M, env, N, rm, er, en, h⟩ => ?_
      refine enter rm er (en.cx er) h fun F1 M1 H1 v1 d1 s1 rm1 er1 cx1 r1 h => ?_
      revert h
      split
      · rename_i ds
        intro h
        obtain ⟨p, vs, rfl, g1, g2⟩ := rd_T rm1 r1
        have hl : vs.length = tgs.length := by rw [g2.len, ← ts_num k1]; exact h.1.symm
        refine ⟨p, vs, rfl, by rw [g.hK]; exact g1, hl, F1, M1, env, ds, N.nx, N.ex, rm1, er1, g2, h.2, fun F2 M2 H2 e2 σ2 s2 => en.nx F2 M2 H2 e2 σ2 (s1.trans s2), fun F2 M2 H2 e2 σ2 z c dd s2 => en.ex F2 M2 H2 e2 σ2 z c dd (s1.trans s2)⟩
      · exact fun h => h.elim
    · cases h
  | .rsb c es, W, X, g, hN, hs, hf, po, fo, st, h => by
    unfold chkS at h; split at h
    · rename_i x p1 a' es' p2 p3
      simp only [Bool.and_eq_true] at h
      obtain ⟨⟨⟨⟨k1, k2⟩, k3⟩, k4⟩, k5⟩ := h
      have hc := any_mem k1
      have hr : c ∈ tb.xb := by
        obtain ⟨p, hp, e⟩ := List.any_eq_true.mp k2
        rw [← of_decide_eq_true e]
        exact hp
      obtain ⟨C, fI, fd, ps, c1, c2, c3, c4, c5, c6, c7, c8, c9⟩ := (g.ob.xbs c x hr hc).ex
      obtain ⟨j1, j2⟩ := gl_of hs k3
      obtain ⟨t1, t2⟩ := tr_head (env := X.env) (pos := p2) k4
      have room : Room (1 + 1) X.A := (g.room hot).mono (Nat.le_succ_of_le g.k2)
      have fin : ∀ {F : Hp} {M : Mem} {env : Env} {N : Wp.Ends} {σ : L2.St} {D : L2.Ends} {F1 : Hp} {M1 : Mem} {H1 : Hp} {v1 y1 : V} {d1 e1 : Wp.D}, EndsR G W F N D → Same F F1 → RM G F1 M1 H1 → EnvR G F1 env σ → RelD G F1 v1 d1 → RelD G F1 y1 e1 → N.ex ⟨c, [("side", e1), ("at", d1)]⟩ env M1 →
          ∀ p, H1 p = none → spB C [.ref p, v1, y1] (upd H1 p (L2.exo p C none)) (fun v H2 => v = .non ∧ ∃ (d : Addr) (fs : List (Str × V)), H2 p = some (L2.exo p C (some d)) ∧ H2 d = some (L2.exd d fs) ∧ H1 d = none ∧ W (.ref C) (some d) σ (upd (L2.del H2 p) d (.xd fs))) (fun _ _ _ => False) := fun {F M env N σ D F1 M1 H1 v1 y1 d1 e1} en s1 rm1 er1 r1 r2 h p hp => by
        refine ⟨p, v1, y1, rfl, upd_same, fun dx n1 n2 => ⟨rfl, dx, [("side", y1), ("at", v1)], ?_, upd_same, ?_, ?_⟩⟩
        · rw [upd_ne (Ne.symm n2), upd_same]
        · rw [upd_ne n2] at n1
          exact n1
        · rw [upd_ne n2] at n1
          rw [raise_heap2 hp n2]
          have s2 := same_upd (o := .xd [(("side" : Str), y1), (("at" : Str), v1)]) (rm1.freeF n1)
          exact en.ex _ M1 _ env σ ⟨c, [("side", e1), ("at", d1)]⟩ (.ref C) (some dx) (s1.trans s2) (rm1.frz n1) (er1.mono s2) ⟨C, c1, rfl, .inr ⟨dx, _, rfl, upd_same, .cons ⟨rfl, r2.mono s2⟩ (.cons ⟨rfl, r1.mono s2⟩ .nil)⟩⟩ h
      obtain ⟨x1, xs, rfl, w1, w2, w3⟩ := chkA_cons k4
      cases es' with
      | nil =>
        cases chkA_nil w3
        have P := L2.pmk_oex (CX := L2.CX0) (k := 1) (ds := [.none]) (dvs := [.non]) (p := p1) (pos := p2) c4 c5 c6 c9 room c8 (.cons rfl .nil) L2.pass0 j1 c2 (snd_A (.cons x1 .nil) g hN hs k4) j2 t1 t2
        refine PS.imp (ps_raise (g.calm hot) g.tk P) fun D σ H ⟨F, M, env, N, rm, er, en, h⟩ => ?_
        have h' : wpA R (.cons x1 .nil) env M (fun ds M1 => ∃ d, ds = [d] ∧ N.ex ⟨c, [("side", .non), ("at", d)]⟩ env M1) (fun z M => N.ex z env M) := (mon R R g.mon x1).E (fun d M1 h => ⟨d, rfl, h⟩) (fun _ _ h => h) h
        refine enterA rm er (en.cx er) h' fun F1 M1 H1 vs ds s1 rm1 er1 cx1 rs ⟨d, ed, h⟩ => ?_
        subst ed
        obtain ⟨v, rfl, r⟩ := relds1 rs
        exact ⟨(by decide : 1 ≤ 1000), fin (M := M) en s1 rm1 er1 r .non h⟩
      | cons b' es' =>
        obtain ⟨x2, xs2, rfl, u1, u2, u3⟩ := chkA_cons w3
        cases es' with
        | cons _ _ => exact absurd (of_decide_eq_true k5) (by simp)
        | nil =>
          cases chkA_nil u3
          have P := L2.pmk_oex (CX := L2.CX0) (k := 1) (ds := []) (dvs := []) (p := p1) (pos := p2) c4 c5 c6 c9 room c7 .nil L2.pass0 j1 c2 (snd_A (.cons x1 (.cons x2 .nil)) g hN hs k4) j2 t1 t2
          refine PS.imp (ps_raise (g.calm hot) g.tk P) fun D σ H ⟨F, M, env, N, rm, er, en, h⟩ => ?_
          have h' : wpA R (.cons x1 (.cons x2 .nil)) env M (fun ds M1 => ∃ d e, ds = [d, e] ∧ N.ex ⟨c, [("side", e), ("at", d)]⟩ env M1) (fun z M => N.ex z env M) :=
            (mon R R g.mon x1).E (fun d M1 h => (mon R R g.mon x2).E (fun e M2 h => ⟨d, e, rfl, h⟩) (fun _ _ h => h) h) (fun _ _ h => h) h
          refine enterA rm er (en.cx er) h' fun F1 M1 H1 vs ds s1 rm1 er1 cx1 rs ⟨d, e, ed, h⟩ => ?_
          subst ed
          obtain ⟨v, w, rfl, r, r2⟩ := relds2 rs
          exact ⟨(by decide : 2 ≤ 1000), fin (M := M) en s1 rm1 er1 r r2 h⟩
    · cases h
  | .tr2 c i t d j u s, W, X, g, hN, hs, hf, po, fo, st, h => by
    unfold chkS at h; split at h
    · rename_i body h1 h2 pos
      simp only [Bool.and_eq_true] at h
      obtain ⟨⟨k1, k2⟩, k3⟩ := h
      obtain ⟨C1, m1, n1⟩ := hd_ok g hN hs hf k2
      obtain ⟨C2, m2, n2⟩ := hd_ok g hN hs hf k3
      refine PS.imp (L2.ps_try_hds (tb := fun W => liftS G W (wpS R s)) fo.ex fo.st fo.fr g.nd g.tk
        (fun W' pn xe tk' po' => snd_L hot s (W := W') (X := X.tr pn xe) ⟨g.hK, g.nd, g.calm, g.room, g.un, g.hn, g.hb, tk', g.fns, g.glb, g.bnn, g.len, g.mon, g.k2, g.xt, g.mkr, g.own, g.ob⟩ hN hs hf po' ⟨fo.ex, fo.st, fo.fr⟩ k1)
        (n1 (n2 .nil))) fun D σ H ⟨F, M, env, N, rm, er, en, h⟩ => ?_
      refine ⟨F, M, env, _, rm, er, ?_, h⟩
      refine ⟨en.nx, en.rt, en.bk, en.ct, fun F1 M1 H1 env1 σ1 z cls dd s1 rm1 er1 rx q => ?_⟩
      have rx0 := rx
      obtain ⟨C, x1, rfl, x2⟩ := rx
      refine ⟨subX z.c c, (g.xt.sub z.c C c C1 x1 m1).2, fun hb => ?_, fun hb => ⟨subX z.c d, (g.xt.sub z.c C d C2 x1 m2).2, fun hb2 => ?_, fun hb2 => ?_⟩⟩
      · dsimp only at q
        rw [hb] at q
        exact cl_read (R := R) rm1 er1 (en.mono s1) rx0 q
      · dsimp only at q
        rw [hb] at q
        dsimp only at q
        rw [hb2] at q
        exact cl_read (R := R) rm1 er1 (en.mono s1) rx0 q
      · dsimp only at q
        rw [hb] at q
        dsimp only at q
        rw [hb2] at q
        exact en.ex F1 M1 H1 env1 σ1 z _ dd s1 rm1 er1 rx0 q
    · cases h
  | .nil, W, X, g, hN, hs, hf, po, fo, st, h => by cases h
  | .seq _ _, W, X, g, hN, hs, hf, po, fo, st, h => by cases h
  | .frz _, W, X, g, hN, hs, hf, po, fo, st, h => by cases h
theorem snd_L (hot : tb.hot = true) : ∀ (s : Sx) {W : WX} {X : Cx}, Good G tb R k W X → X.N = N → X.env.scope = sc → X.fn = (fun _ => true) → PassesOwn (model X.prog X.w) X.A X.env X.xe → FrOk X → ∀ {sts : List Stmt}, chkL tb N sc s sts = true → PSs X sts (liftS G W (wpS R s))
  | .nil, W, X, g, hN, hs, hf, po, fo, sts, h => by
    unfold chkL at h; split at h
    · exact PSs.imp pss_nil fun D σ H ⟨F, M, env, N, rm, er, en, h⟩ => en.nx F M H env σ (Same.refl _) rm er h
    · cases h
  | .seq s t, W, X, g, hN, hs, hf, po, fo, sts, h => by
    unfold chkL at h
    split at h
    · rename_i i
      refine PSs.imp (snd_L hot t g hN hs hf po fo h) fun D σ H ⟨F, M, env, N, rm, er, en, h⟩ => ?_
      dsimp only [wpS] at h
      split at h
      · rename_i a e1
        split at h
        · rename_i ds e2
          obtain ⟨vs, f1, f2, f3, f4⟩ := rm.freeze e2
          have s1 := same_upd (o := .lst vs) f1
          refine ⟨_, _, _, N, f4, ?_, en.mono s1, h⟩
          obtain ⟨v, v1, v2⟩ := er.at_ i _ e1
          cases v2
          refine ⟨by unfold setV; rw [List.length_set]; exact er.len, fun j d hj => ?_⟩
          unfold setV at hj
          rw [vals_set] at hj
          by_cases hc : i = j ∧ i < env.length
          · rw [if_pos hc] at hj
            cases hj
            rw [← hc.1]
            exact ⟨_, v1, .lst upd_same (f3.mono s1)⟩
          · rw [if_neg hc] at hj
            obtain ⟨w, w1, w2⟩ := er.at_ j d hj
            exact ⟨w, w1, w2.mono s1⟩
        · exact h.elim
      · exact h.elim
    · split at h
      · rw [Bool.and_eq_true] at h
        refine PSs.imp (pss_cons (snd_S hot _ g hN hs hf po fo h.1) (snd_L hot t g hN hs hf po fo h.2)) fun D σ H ⟨F, M, env, N, rm, er, en, h⟩ => ?_
        refine ⟨F, M, env, _, rm, er, ?_, h⟩
        exact ⟨fun F1 M1 H1 e1 σ1 s1 rm1 er1 q => ⟨F1, M1, e1, N, rm1, er1, en.mono s1, q⟩, en.rt, en.bk, en.ct, en.ex⟩
      · cases h
  | .asg _ _, W, X, g, hN, hs, hf, po, fo, sts, h => by cases h
  | .sub _ _ _, W, X, g, hN, hs, hf, po, fo, sts, h => by cases h
  | .dput _ _ _, W, X, g, hN, hs, hf, po, fo, sts, h => by cases h
  | .aug _ _ _, W, X, g, hN, hs, hf, po, fo, sts, h => by cases h
  | .drop _, W, X, g, hN, hs, hf, po, fo, sts, h => by cases h
  | .ret _, W, X, g, hN, hs, hf, po, fo, sts, h => by cases h
  | .ife _ _ _, W, X, g, hN, hs, hf, po, fo, sts, h => by cases h
  | .loop _ _, W, X, g, hN, hs, hf, po, fo, sts, h => by cases h
  | .each _ _ _, W, X, g, hN, hs, hf, po, fo, sts, h => by cases h
  | .pass, W, X, g, hN, hs, hf, po, fo, sts, h => by cases h
  | .brk, W, X, g, hN, hs, hf, po, fo, sts, h => by cases h
  | .cnt, W, X, g, hN, hs, hf, po, fo, sts, h => by cases h
  | .never, W, X, g, hN, hs, hf, po, fo, sts, h => by cases h
  | .frz _, W, X, g, hN, hs, hf, po, fo, sts, h => by cases h
  | .rse _ _ _, W, X, g, hN, hs, hf, po, fo, sts, h => by cases h
  | .rsp _ _, W, X, g, hN, hs, hf, po, fo, sts, h => by cases h
  | .tri _ _ _ _, W, X, g, hN, hs, hf, po, fo, sts, h => by cases h
  | .trn _ _ _, W, X, g, hN, hs, hf, po, fo, sts, h => by cases h
  | .sfl _ _ _, W, X, g, hN, hs, hf, po, fo, sts, h => by cases h
  | .fau _ _ _ _, W, X, g, hN, hs, hf, po, fo, sts, h => by cases h
  | .dau _ _ _ _, W, X, g, hN, hs, hf, po, fo, sts, h => by cases h
  | .asu _ _, W, X, g, hN, hs, hf, po, fo, sts, h => by cases h
  | .rsb _ _, W, X, g, hN, hs, hf, po, fo, sts, h => by cases h
  | .tr2 _ _ _ _ _ _ _, W, X, g, hN, hs, hf, po, fo, sts, h => by cases h
end
end
end Wp

/-! WpS12: the defs of a table keep what the trees tell. -/
namespace Wp
open PySem PySem.Spec PyProof.Rows L2
mutual
theorem rep_ok {G : Gx} {F : Hp} {a : Addr} {vs : List V} {ds : List D} (nF : F a = none) (rs : RelDs G F vs ds) : ∀ {d : D} {v : V}, RelD G F v d → RelD G (upd F a (.lst vs)) v (repD a ds d)
  | .non, _, h => by cases h; exact .non
  | .bl b, _, h => by cases h; exact .bl b
  | .int b, _, h => by cases h; exact .int b
  | .str b, _, h => by cases h; exact .str b
  | .tup xs, _, h => by
    cases h with
    | tup h1 h2 => exact .tup (same_t (same_upd nF) h1) (reps_ok nF rs h2)
  | .lst xs, _, h => by
    cases h with
    | lst h1 h2 => exact .lst (same_upd nF _ _ h1) (reps_ok nF rs h2)
  | .scr ns, _, h => by
    cases h with
    | scr h1 => exact .scr ((same_upd nF).seq h1)
  | .emp, _, h => by
    cases h with
    | emp h1 => exact .emp (same_upd nF _ _ h1)
  | .loc b, _, h => by
    cases h
    unfold repD
    by_cases e : b = a
    · rw [if_pos e, e]
      exact .lst upd_same (rs.mono (same_upd nF))
    · rw [if_neg e]
      exact .loc
theorem reps_ok {G : Gx} {F : Hp} {a : Addr} {vs : List V} {ds : List D} (nF : F a = none) (rs : RelDs G F vs ds) : ∀ {xs : List D} {us : List V}, RelDs G F us xs → RelDs G (upd F a (.lst vs)) us (repDs a ds xs)
  | [], _, h => by cases h; exact .nil
  | x :: xs, _, h => by
    cases h with
    | cons h1 h2 => exact .cons (rep_ok nF rs h1) (reps_ok nF rs h2)
end
theorem frz_ok {G : Gx} {q : QK} {Q : VK} {v : V} {H : Hp} {d : D} {M : Mem} (h : Frz d M q) : ∀ {F : Hp}, RM G F M H → RelD G F v d → Cn G F q Q → Q v H := by
  induction h with
  | done h => exact fun rm r cn => cn_here rm cn r h
  | step e _ ih =>
    intro F rm r cn
    obtain ⟨vs, nF, h1, h2, rm2⟩ := rm.freeze e
    have s := same_upd (o := .lst vs) nF
    exact ih rm2 (rep_ok nF h2 r) (cn.mono s)

/-- a def of the text that is in the table -/
structure DefOk (K : PySem.W.Frag) (mg : Str → Option Value) (tb : Tb) (T : Nat → Option Fn) (f : Nat) (x : Str) : Prop where
  ex : ∃ (fn : Fn) (ad : Addr) (fd : FuncData) (N ps : List Str) (params : Arguments) (body : List Stmt) (scope : Scope) (nm ql : Str), T f = some fn ∧ mg x = some (.ref ad) ∧ FunD K nm ql params body scope [] [] ad fd ∧ Binds K fd ps [] ∧ FnScope N ps scope ∧
    ps.length = tb.ar f ∧ fn.np = tb.ar f ∧ N.length = fn.ns ∧ chkL tb N scope fn.body body = true
/-- __init__(self, v): self.f = v -/
def iniB (N : List Str) (sc : Scope) (f : Str) : List Stmt → Bool
  | [.Assign [.Attribute (.Name s _) g _] (.Name v _) _] => decide (g = f) && decide (N[0]? = some s) && decide (N[1]? = some v) && visB sc s && visB sc v && okB s && okB v
  | _ => false
structure IniOk (K : PySem.W.Frag) (mg : Str → Option Value) (cl : Nat → Option Addr) (c : Nat) (x f : Str) : Prop where
  ex : ∃ (C fI : Addr) (fd : FuncData) (N ps : List Str) (params : Arguments) (body : List Stmt) (scope : Scope) (nm ql : Str), cl c = some C ∧ mg x = some (.ref C) ∧ PySem.W.keepIn K (.ref C) = true ∧ L2.OexC K C ∧ PySem.W.findIn K (.ref C) "__init__" = some (some (.ref fI)) ∧
    PySem.W.typeIn K (.ref fI) = some (.type "function") ∧ FunD K nm ql params body scope [] [] fI fd ∧ Binds K fd ps [] ∧ FnScope N ps scope ∧ ps.length = 2 ∧ PySem.W.findIn K (.ref C) f = some none ∧ iniB N scope f body = true
theorem ini_ok {P : Program} {w : World} {K : PySem.W.Frag} {mg : Str → Option Value} {base : Heap} {cl : Nat → Option Addr} {c : Nat} {x f : Str} (h : IniOk K mg cl c x f) : XMk P w K mg base cl c x f := by
  obtain ⟨C, fI, fd, N, ps, params, body, scope, nm, ql, h1, h2, h3, h4, h5, h6, FD, hb, S, hp, hno, hc⟩ := h.ex
  refine ⟨C, fI, fd, ps, h1, h2, h3, h4, h5, h6, hb, FD.ok S (fun vs H Q E ⟨a, v, e, _⟩ => by rw [e, hp]; rfl) fun cdv A outer s H vs Q E hr ⟨a, v, e, ha, k⟩ => ?_⟩
  unfold iniB at hc
  split at hc
  · rename_i sn p1 g p2 vn p3 pos
    simp only [Bool.and_eq_true] at hc
    obtain ⟨⟨⟨⟨⟨⟨c1, c2⟩, c3⟩, c4⟩, c5⟩, c6⟩, c7⟩ := hc
    have e1 := of_decide_eq_true c1
    subst e1 e
    obtain ⟨o1, o2⟩ := ok_of c6
    obtain ⟨o3, o4⟩ := ok_of c7
    refine ⟨_, pss_cons (L2.ps_ost (pe_var (i := 0) (of_decide_eq_true c2) (vis_of c4) o1 o2) (pe_var (i := 1) (of_decide_eq_true c3) (vis_of c5) o3 o4) rfl) pss_nil, ?_⟩
    refine ⟨v, rfl, .ref a, rfl, a, C, rfl, h4, hno, .inl ⟨ha, fun dx n1 n2 => ?_⟩⟩
    exact k dx n1 n2
  · cases hc
/-- __init__(self, v, y): self.at = v; self.side = y -/
def iniBB (N : List Str) (sc : Scope) : List Stmt → Bool
  | [.Assign [.Attribute (.Name s _) g _] (.Name v _) _, .Assign [.Attribute (.Name s2 _) g2 _] (.Name y _) _] => decide (g = "at") && decide (g2 = "side") && decide (N[0]? = some s) && decide (N[0]? = some s2) && decide (N[1]? = some v) && decide (N[2]? = some y) && visB sc s && visB sc v && visB sc s2 && visB sc y && okB s && okB v && okB s2 && okB y
  | _ => false
structure IniB (K : PySem.W.Frag) (mg : Str → Option Value) (cl : Nat → Option Addr) (c : Nat) (x : Str) : Prop where
  ex : ∃ (C fI : Addr) (fd : FuncData) (N ps : List Str) (params : Arguments) (body : List Stmt) (scope : Scope) (nm ql : Str) (dvs : List V), cl c = some C ∧ mg x = some (.ref C) ∧ PySem.W.keepIn K (.ref C) = true ∧ L2.OexC K C ∧ PySem.W.findIn K (.ref C) "__init__" = some (some (.ref fI)) ∧
    PySem.W.typeIn K (.ref fI) = some (.type "function") ∧ FunD K nm ql params body scope dvs [] fI fd ∧ Binds K fd ps [] ∧ Binds K fd ps [.none] ∧ FnScope N ps scope ∧ ps.length = 3 ∧ PySem.W.findIn K (.ref C) "at" = some none ∧ PySem.W.findIn K (.ref C) "side" = some none ∧ iniBB N scope body = true
theorem inib_ok {P : Program} {w : World} {K : PySem.W.Frag} {mg : Str → Option Value} {base : Heap} {cl : Nat → Option Addr} {c : Nat} {x : Str} (h : IniB K mg cl c x) : XMb P w K mg base cl c x := by
  obtain ⟨C, fI, fd, N, ps, params, body, scope, nm, ql, dvs, h1, h2, h3, h4, h5, h6, FD, hb, hb2, S, hp, hn1, hn2, hc⟩ := h.ex
  refine ⟨C, fI, fd, ps, h1, h2, h3, h4, h5, h6, hb, hb2, FD.ok S (fun vs H Q E ⟨a, v, y, e, _⟩ => by rw [e, hp]; rfl) fun cdv A outer s H vs Q E hr ⟨a, v, y, e, ha, k⟩ => ?_⟩
  unfold iniBB at hc
  split at hc
  · rename_i sn p1 g p2 vn p3 pos sn2 p4 g2 p5 yn p6 pos2
    simp only [Bool.and_eq_true] at hc
    obtain ⟨⟨⟨⟨⟨⟨⟨⟨⟨⟨⟨⟨⟨c1, c2⟩, c3⟩, c4⟩, c5⟩, c6⟩, c7⟩, c8⟩, c9⟩, d1⟩, d2⟩, d3⟩, d4⟩, d5⟩ := hc
    have e1 := of_decide_eq_true c1
    have e2 := of_decide_eq_true c2
    subst e1 e2 e
    obtain ⟨o1, o2⟩ := ok_of d2
    obtain ⟨o3, o4⟩ := ok_of d3
    obtain ⟨o5, o6⟩ := ok_of d4
    obtain ⟨o7, o8⟩ := ok_of d5
    refine ⟨_, pss_cons (L2.ps_ost (pe_var (i := 0) (of_decide_eq_true c3) (vis_of c7) o1 o2) (pe_var (i := 1) (of_decide_eq_true c5) (vis_of c8) o3 o4) rfl)
      (pss_cons (L2.ps_ost (pe_var (i := 0) (of_decide_eq_true c4) (vis_of c9) o5 o6) (pe_var (i := 2) (of_decide_eq_true c6) (vis_of d1) o7 o8) rfl) pss_nil), ?_⟩
    refine ⟨v, rfl, .ref a, rfl, a, C, rfl, h4, hn1, .inl ⟨ha, fun dx n1 n2 => ?_⟩⟩
    refine ⟨y, rfl, .ref a, rfl, a, C, rfl, h4, hn2, .inr ⟨dx, [("at", v)], upd_same, by rw [upd_ne n2, upd_same], Nat.le_of_ble_eq_true rfl, ?_⟩⟩
    exact k dx n1 n2
  · cases hc
/-- a method of the text that is in the table -/
structure MethOk (K : PySem.W.Frag) (co : Nat → Option Addr) (tb : Tb) (T : Nat → Option Fn) (f c : Nat) (m : Str) : Prop where
  ex : ∃ (fn : Fn) (C ad : Addr) (fd : FuncData) (N ps : List Str) (params : Arguments) (body : List Stmt) (scope : Scope) (nm ql : Str), T f = some fn ∧ co c = some C ∧ Meth K C m ad ∧ FunD K nm ql params body scope [] [] ad fd ∧ Binds K fd ps [] ∧ FnScope N ps scope ∧
    ps.length = tb.ar f ∧ fn.np = tb.ar f ∧ N.length = fn.ns ∧ chkL tb N scope fn.body body = true
/-- the table and the text -/
structure Prg (K : PySem.W.Frag) (mg : Str → Option Value) (tb : Tb) (T : Nat → Option Fn) (cl co : Nat → Option Addr) : Prop where
  defs : ∀ f x, tb.nm f = some x → DefOk K mg tb T f x
  cons : ∀ p ∈ tb.cs, ∃ v u, mg p.1 = some u ∧ RelV v u ∧ ∀ (G : Gx) (F : Hp), G.K = K → RelD G F v p.2
  blts : ∀ x ∈ tb.bn, mg x = none
  xt : XTab K mg cl tb.xc
  mkr : ∀ c f x, (c, f) ∈ tb.xr → (c, x) ∈ tb.xc → IniOk K mg cl c x f
  own : ∀ c x, c ∈ tb.xo → (c, x) ∈ tb.xc → XOwn K mg cl c x
  hot : tb.hot = true
  mts : ∀ f c m, tb.me f = some (c, m) → MethOk K co tb T f c m
  cls : ∀ c C, co c = some C → Cls K C ∧ ∀ f ∈ tb.of, NoAttr K C f
  mks : ∀ c x, (c, x) ∈ tb.oc → ∃ C, co c = some C ∧ mg x = some (.ref C) ∧ PySem.W.makesIn K C = true ∧ PySem.W.keepIn K (.ref C) = true
  xbs : ∀ c x, c ∈ tb.xb → (c, x) ∈ tb.xc → IniB K mg cl c x
theorem xt_no {K : PySem.W.Frag} {mg : Str → Option Value} : XTab K mg (fun _ => none) [] :=
  ⟨fun p hp => (by cases hp), fun c C h => (by cases h), fun c C h => (by cases h), fun c C d D h => (by cases h), fun c C f h => (by cases h)⟩

theorem start_rel {G : Gx} {F : Hp} {vs : List V} {ds : List D} (rs : RelDs G F vs ds) (N : List Str) (fn : Fn) (hn : N.length = fn.ns) (hp : ds.length = fn.np) : EnvR G F (Wp.start fn ds) (L2.start N vs) := by
  have hl := rs.len
  refine ⟨?_, fun i d e => ?_⟩
  · unfold Wp.start L2.start
    rw [List.length_append, List.length_append, List.length_map, List.length_map, List.length_replicate, List.length_replicate, hl, hn, hp]
  · unfold Wp.start slv at e
    by_cases hi : i < ds.length
    · rw [List.getElem?_append_left (by rw [List.length_map]; exact hi), List.getElem?_map] at e
      cases q : ds[i]? with
      | none => rw [q] at e; cases e
      | some d' =>
        rw [q] at e
        cases e
        obtain ⟨v, h1, h2⟩ := rs.get q
        refine ⟨v, ?_, h2⟩
        unfold L2.start
        rw [List.getElem?_append_left (by rw [List.length_map, hl]; exact hi), List.getElem?_map, h1]
        rfl
    · rw [List.getElem?_append_right (by rw [List.length_map]; omega), List.getElem?_replicate] at e
      split at e <;> cases e

abbrev FnAt (P : Program) (w : World) (K : PySem.W.Frag) (mg : Str → Option Value) (base : Heap) (tb : Tb) (T : Nat → Option Fn) (cl co : Nat → Option Addr) (k : Nat) : Prop :=
  (∀ (f : Nat) (x : Str), tb.nm f = some x → ∃ ad fd ps, mg x = some (.ref ad) ∧ PySem.W.keepIn K (.ref ad) = true ∧ Binds K fd ps [] ∧ ps.length = tb.ar f ∧ FnOk P w K mg base (L2.CX P w) (2 * k + 2) ad fd ps (liftSp ⟨K, cl, co, fun _ => none⟩ (tb.ar f) (run T k f))) ∧
  (∀ (f c : Nat) (m : Str), tb.me f = some (c, m) → ∃ C ad fd ps, co c = some C ∧ Meth K C m ad ∧ Binds K fd ps [] ∧ ps.length = tb.ar f ∧ FnOk P w K mg base (L2.CX P w) (2 * k + 2) ad fd ps (liftSp ⟨K, cl, co, fun _ => none⟩ (tb.ar f) (run T k f)))
/-- one level up -/
theorem run_step {P : Program} {w : World} {K : PySem.W.Frag} {mg : Str → Option Value} {base : Heap} {tb : Tb} {T : Nat → Option Fn} {cl co : Nat → Option Addr} (Pr : Prg K mg tb T cl co) {k f : Nat} {x y : Str}
    (ih : FnAt P w K mg base tb T cl co k)
    {fn : Fn} {ad : Addr} {fd : FuncData} {N ps : List Str} {params : Arguments} {body : List Stmt} {scope : Scope} (hT : T f = some fn) (FD : FunD K x y params body scope [] [] ad fd) (S : FnScope N ps scope)
    (h1 : ps.length = tb.ar f) (h2 : fn.np = tb.ar f) (h3 : N.length = fn.ns) (hc : chkL tb N scope fn.body body = true) :
    FnOk P w K mg base (L2.CX P w) (2 * (k + 1) + 2) ad fd ps (liftSp ⟨K, cl, co, fun _ => none⟩ (tb.ar f) (run T (k + 1) f)) := by
  refine FD.ok (k := 2 * k + 3) S (fun vs H Q E h => by rw [h1]; exact h.1) fun cdv A outer s H vs Q E hr h => ?_
  obtain ⟨hl, Ph, F, M, ds, q, e, rm, rs, cn, cx, h⟩ := h
  dsimp only [run] at h
  rw [hT] at h
  obtain ⟨hlen, h⟩ := h
  have g : Good ((⟨K, cl, co, fun _ => none⟩ : Gx).hide Ph) tb (run T k) (2 * k + 2) (fun cls d _ H => E cls d H) (cxOf (L2.CX P w) P w K mg base N y scope ad cdv A outer s H E) :=
    Good.hide (G := ⟨K, cl, co, fun _ => none⟩) ⟨rfl, S.nd, fun _ => rfl, fun _ => hr, Nat.lt_of_le_of_lt (Nat.add_le_add_right (Nat.le_add_right _ (16 * (2 * k + 3))) 200) hr.un, fun _ _ _ => Pr.hot, fun _ _ => Pr.hot, takes_of rfl rfl rfl rfl, fun f' x' hx' => ih.1 f' x' hx', fun p hp => by
      obtain ⟨v, u, c1, c2, c3⟩ := Pr.cons p hp
      exact ⟨v, u, c1, c2, fun F => c3 _ F rfl⟩, Pr.blts, fun f' x' ds' M' q' e' hx' hr' => by
        obtain ⟨fn', _, _, _, _, _, _, _, _, _, hT', _, _, _, _, _, h2', _, _⟩ := (Pr.defs f' x' hx').ex
        cases k with
        | zero => exact hr'.elim
        | succ k =>
          dsimp only [run] at hr'
          rw [hT'] at hr'
          exact hr'.1.trans h2', run_mono T k k (Nat.le_refl _), by omega, Pr.xt, fun c f x h1 h2 => ini_ok (Pr.mkr c f x h1 h2), Pr.own, ⟨fun f' c' m' hx' => ih.2 f' c' m' hx', fun _ _ _ _ => Pr.hot, fun f' c' m' ds' M' q' e' hx' hr' => by
        obtain ⟨fn', _, _, _, _, _, _, _, _, _, _, hT', _, _, _, _, _, _, h2', _, _⟩ := (Pr.mts f' c' m' hx').ex
        cases k with
        | zero => exact hr'.elim
        | succ k =>
          dsimp only [run] at hr'
          rw [hT'] at hr'
          exact hr'.1.trans h2', Pr.cls, Pr.mks, fun c x h1 h2 => inib_ok (Pr.xbs c x h1 h2)⟩⟩ Ph
  refine ⟨_, snd_L Pr.hot fn.body g rfl rfl rfl (passes_of rfl) ⟨rfl, rfl, rfl⟩ hc, ?_⟩
  refine ⟨F, M, Wp.start fn ds, _, rm, start_rel (rs.hide Ph) N fn h3 hlen, ?_, h⟩
  exact ⟨fun F' M' H' env' σ' s' rm' er' q' => frz_ok q' rm' .non (cn.mono s'), fun F' M' H' v d s' rm' r' q' => frz_ok q' rm' r' (cn.mono s'), fun F' M' H' env' σ' s' rm' er' q' => q'.elim, fun F' M' H' env' σ' s' rm' er' q' => q'.elim, fun F' M' H' env' σ' z c dd s' rm' er' rx q' => cx F' M' H' z c dd s' rm' rx q'⟩
/-- THE TABLE: every def, every method keeps, at every level, what the trees tell -/
theorem run_all {P : Program} {w : World} {K : PySem.W.Frag} {mg : Str → Option Value} {base : Heap} {tb : Tb} {T : Nat → Option Fn} {cl co : Nat → Option Addr} (Pr : Prg K mg tb T cl co) : ∀ (k : Nat), FnAt P w K mg base tb T cl co k
  | 0 => by
    refine ⟨fun f x hx => ?_, fun f c m hx => ?_⟩
    · obtain ⟨fn, ad, fd, N, ps, params, body, scope, nm, ql, hT, hm, FD, hb, S, h1, h2, h3, hc⟩ := (Pr.defs f x hx).ex
      refine ⟨ad, fd, ps, hm, FD.kp, hb, h1, ⟨fun vs H Q E h => by rw [h1]; exact h.1, fun A outer s H args us vs Q E hr he hbt hv h => ?_⟩⟩
      obtain ⟨_, _, _, _, _, _, _, _, _, _, _, h⟩ := h
      exact h.elim
    · obtain ⟨fn, C, ad, fd, N, ps, params, body, scope, nm, ql, hT, hm, hM, FD, hb, S, h1, h2, h3, hc⟩ := (Pr.mts f c m hx).ex
      refine ⟨C, ad, fd, ps, hm, hM, hb, h1, ⟨fun vs H Q E h => by rw [h1]; exact h.1, fun A outer s H args us vs Q E hr he hbt hv h => ?_⟩⟩
      obtain ⟨_, _, _, _, _, _, _, _, _, _, _, h⟩ := h
      exact h.elim
  | k + 1 => by
    refine ⟨fun f x hx => ?_, fun f c m hx => ?_⟩
    · obtain ⟨fn, ad, fd, N, ps, params, body, scope, nm, ql, hT, hm, FD, hb, S, h1, h2, h3, hc⟩ := (Pr.defs f x hx).ex
      exact ⟨ad, fd, ps, hm, FD.kp, hb, h1, run_step Pr (run_all Pr k) hT FD S h1 h2 h3 hc⟩
    · obtain ⟨fn, C, ad, fd, N, ps, params, body, scope, nm, ql, hT, hm, hM, FD, hb, S, h1, h2, h3, hc⟩ := (Pr.mts f c m hx).ex
      exact ⟨C, ad, fd, ps, hm, hM, hb, h1, run_step Pr (run_all Pr k) hT FD S h1 h2 h3 hc⟩
theorem run_ok {P : Program} {w : World} {K : PySem.W.Frag} {mg : Str → Option Value} {base : Heap} {tb : Tb} {T : Nat → Option Fn} {cl co : Nat → Option Addr} (Pr : Prg K mg tb T cl co) (k f : Nat) (x : Str) (hx : tb.nm f = some x) :
    ∃ ad fd ps, mg x = some (.ref ad) ∧ PySem.W.keepIn K (.ref ad) = true ∧ Binds K fd ps [] ∧ ps.length = tb.ar f ∧ FnOk P w K mg base (L2.CX P w) (2 * k + 2) ad fd ps (liftSp ⟨K, cl, co, fun _ => none⟩ (tb.ar f) (run T k f)) := (run_all Pr k).1 f x hx
end Wp

/-! WpEnd: from the table to a law's end. -/
namespace Wp
open PySem PySem.Spec PyProof.Rows L2
/-- a law: F gives the written part, the function object, the promise over every base; the exceptions' reading may know the world -/
theorem walk_ofW {l : PySem.W.OpenLaw} {n k : Nat} {q : Program} {loose : List Str} {XP : (Str → Option Value) → Heap → Prop} {YP : World → Heap → Prop} {d : DefRec} {CXw : World → CXT} {x : Str}
    (hn : l.most = some n) (hn2 : n ≤ sizeLine) (hdf : d.params.defaults = []) (hr : Room k callerA)
    (F : ∀ (w : World) (mg : Str → Option Value) (fa : Addr) (h : Heap), YP w h → h.Ns mainGlobals mg → mg d.name = some (.ref fa) →
      ∃ (K : PySem.W.Frag) (fd : FuncData) (sp : Sp), K.In h ∧ (∀ (s : Shared) (u : Value), BindsTo s fd ⟨[u], []⟩ [(x, u)]) ∧
        (∀ (H : Hp) (a : Addr) (ns : List Int), ns.length ≤ n → (∀ z ∈ ns, Builtin.Int.intBits z ≤ 1048576) → Only H → SqL K H a (ns.map V.int) → sp [.ref a] H (fun v _ => v = .bl true) fun _ _ _ => False) ∧
        ∀ base : Heap, K.In base → base.Ns mainGlobals mg → FnOk l.prog w K mg base (CXw w) k fa fd [x] sp)
    (hCX : ∀ (w : World) (H : Hp) (s : Shared) (e : Value) (s' : Shared), CXw w [] H s (fun _ _ _ => False) e s' → False) :
    PySem.W.WalkO q loose XP YP l.row.toRowW d [] (fun f vs => PySem.call f vs) := by
  refine Att.attach_callB hn hdf fun w s₀ s₁ mg mb fa o pm cd doc a vs ns G Y ho hd hcd hmg hobj hints hlen hbits hg => ?_
  obtain ⟨K, fd, sp, KX, hb, hsp, hF⟩ := F w mg fa _ Y G.T.g hmg
  exact law_call KX G.T.g G.T.b G.T.builtins G.T.nolimit hg hobj hints (Nat.le_trans hlen hn2) hr hF hb (fun H hO hS => hsp H a ns hlen hbits hO hS) fun H e s' => hCX w H s₁ e s'

theorem rm_start (K : PySem.W.Frag) (cl co : Nat → Option Addr) (P H : Hp) (hP : ∀ a, P a = none) : RM (⟨K, cl, co, P⟩ : Gx) H (fun _ => none) H :=
  ⟨fun _ _ e => e, (fun _ _ e => by cases e), (fun a o e => by dsimp only at e; rw [hP a] at e; cases e)⟩

theorem law_end {P : Program} {w : World} {K : PySem.W.Frag} {mg : Str → Option Value} {tb : Tb} {T : Nat → Option Fn} {h : Heap} {f k : Nat} {x : Str} {cl co : Nat → Option Addr} (Pr : Prg K mg tb T cl co) (KX : K.In h)
    {fn : Fn} {ad : Addr} {fd : FuncData} {N : List Str} {params : Arguments} {body : List Stmt} {scope : Scope} (hT : T f = some fn) (FD : FunD K "law" "law" params body scope [] [] ad fd)
    (hb : ∀ (s : Shared) (us : List Value), us.length = 1 → BindsTo s fd ⟨us, []⟩ ([x].zip us)) (S : FnScope N [x] scope)
    (h1 : 1 = tb.ar f) (h2 : fn.np = tb.ar f) (h3 : N.length = fn.ns) (hc : chkL tb N scope fn.body body = true)
    (L : ∀ ns : List Int, ns.length ≤ 63 → (∀ z ∈ ns, Builtin.Int.intBits z ≤ 1048576) → run T (k + 1) f [.scr ns] (fun _ => none) (fun d _ => d = .bl true) (fun _ _ => False)) :
    ∃ (K : PySem.W.Frag) (fd : FuncData) (sp : Sp), K.In h ∧ (∀ (s : Shared) (u : Value), BindsTo s fd ⟨[u], []⟩ [(x, u)]) ∧
        (∀ (H : Hp) (a : Addr) (ns : List Int), ns.length ≤ 63 → (∀ z ∈ ns, Builtin.Int.intBits z ≤ 1048576) → Only H → SqL K H a (ns.map V.int) → sp [.ref a] H (fun v _ => v = .bl true) fun _ _ _ => False) ∧
        ∀ base : Heap, K.In base → base.Ns mainGlobals mg → FnOk P w K mg base (L2.CX P w) (2 * (k + 1) + 2) ad fd [x] sp := by
  refine ⟨K, fd, liftSp ⟨K, cl, co, fun _ => none⟩ (tb.ar f) (run T (k + 1) f), KX, fun s u => hb s [u] rfl, fun H a ns hn hbits hO hS => ?_, fun base hK hN => run_step Pr (run_all Pr k) hT FD S h1 h2 h3 hc⟩
  refine ⟨h1, fun _ => none, H, fun _ => none, [.scr ns], _, _, rm_start _ _ _ _ _ (fun a => rfl), .cons (.scr hS) .nil, ?_, ?_, L ns hn hbits⟩
  · intro F' M' H' v d s rm r q
    subst q
    cases r
    rfl
  · exact fun F' M' H' z c dd s rm rx q => q.elim
end Wp

/-! WpTup: tuples of the module's top: what is looked at once the top has run. -/
namespace Wp
open PySem PySem.Spec PyProof.Rows L2
/-- a tuple of ints and texts that stands at a name -/
def atB : Sum Int Str → Value → Bool
  | .inl i, .int j _ => decide (i = j)
  | .inr x, .str y _ => decide (x = y)
  | _, _ => false
def itsB : List (Sum Int Str) → List Value → Bool
  | [], [] => true
  | k :: ks, v :: vs => atB k v && itsB ks vs
  | _, _ => false
def tupB (K : PySem.W.Frag) (u : Str × List (Sum Int Str)) : Bool := match K.lookup (He.ga K u.1) with
  | some ⟨.type c, _, .seq its _, _⟩ => decide (c = "tuple") && decide (its.size ≤ 100) && itsB u.2 its.toList
  | _ => false
def keyVs : Sum Int Str → D
  | .inl i => .int i
  | .inr x => .str x
theorem atB_ok {k : Sum Int Str} {u : Value} (h : atB k u = true) : RelV (kV k) u := by
  unfold atB at h
  split at h
  · have e := of_decide_eq_true h
    subst e
    exact ⟨_, rfl⟩
  · have e := of_decide_eq_true h
    subst e
    exact ⟨_, rfl⟩
  · cases h
theorem itsB_ok : ∀ {ks : List (Sum Int Str)} {us : List Value}, itsB ks us = true → Vals (ks.map kV) us
  | [], [], _ => .nil
  | k :: ks, u :: us, h => by
    unfold itsB at h
    rw [Bool.and_eq_true] at h
    exact .cons (atB_ok h.1) (itsB_ok h.2)
  | [], _ :: _, h => by cases h
  | _ :: _, [], h => by cases h
theorem keys_rel {G : Gx} {F : Hp} : ∀ (ks : List (Sum Int Str)), RelDs G F (ks.map kV) (ks.map keyVs)
  | [] => .nil
  | .inl i :: ks => .cons (.int i) (keys_rel ks)
  | .inr x :: ks => .cons (.str x) (keys_rel ks)
theorem tupB_ok {K : PySem.W.Frag} {u : Str × List (Sum Int Str)} (h : tupB K u = true) {G : Gx} {F : Hp} (hK : G.K = K) : RelD G F (.ref (He.ga K u.1)) (.tup (u.2.map keyVs)) := by
  subst hK
  unfold tupB at h
  split at h
  · rename_i c dd its n sl e
    rw [Bool.and_eq_true, Bool.and_eq_true] at h
    have hc := of_decide_eq_true h.1.1
    subst hc
    refine .tup (.inr ⟨_, its, n, e, rfl, rfl, Nat.le_trans (of_decide_eq_true h.1.2) (by decide), itsB_ok h.2⟩) (keys_rel u.2)
  · cases h
/-! ### the hook -/
abbrev AlU : Type := He.AlD × Bool
def obsU (fa : List He.Fa) (fn : List He.DefD) (us : List (Str × List (Sum Int Str))) (K : PySem.W.Frag) : AlU := (He.obsD fa fn K, us.all fun u => tupB K u)
def SaysU (fa : List He.Fa) (fn : List He.DefD) (us : List (Str × List (Sum Int Str))) (K : PySem.W.Frag) : Prop := obsU fa fn us K = (He.valD fn, true)
def obsUG (n : Nat) (fa : List He.Fa) (fn : List He.DefD) (us : List (Str × List (Sum Int Str))) (g : Addr → Option Obj) : AlU := obsU fa fn us (He.frG g (He.asD g n))
def hookU (n : Nat) (fa : List He.Fa) (fn : List He.DefD) (us : List (Str × List (Sum Int Str))) : PySem.W.Hook where
  α := AlU
  obs := fun s => obsUG n fa fn us s.heap.get?
  val := fun _ => (He.valD fn, true)
  says := fun _ h => ∃ K : PySem.W.Frag, K.In h ∧ SaysU fa fn us K
  of := fun _ _ e => ⟨_, He.frG_in, e⟩
  keeps := fun _ _ _ ⟨K, hK, c⟩ k => ⟨K, PySem.W.Frag.In.keeps hK k, c⟩
theorem obsUG_eq {n : Nat} {fa : List He.Fa} {fn : List He.DefD} {us : List (Str × List (Sum Int Str))} {g : Addr → Option Obj} {s : Shared} (h : ∀ a, g a = s.heap.get? a) : obsUG n fa fn us g = (hookU n fa fn us).obs s := by
  have e : g = s.heap.get? := funext h
  rw [e] <;> rfl
theorem SaysU.d {fa : List He.Fa} {fn : List He.DefD} {us : List (Str × List (Sum Int Str))} {K : PySem.W.Frag} (c : SaysU fa fn us K) : He.SaysD fa fn K := congrArg (fun z : AlU => z.1) c
theorem SaysU.tup {fa : List He.Fa} {fn : List He.DefD} {us : List (Str × List (Sum Int Str))} {K : PySem.W.Frag} (c : SaysU fa fn us K) (i : Nat) {u : Str × List (Sum Int Str)} (h : us[i]? = some u := by rfl) : tupB K u = true := by
  have c1 : (us.all fun u => tupB K u) = true := congrArg (fun z : AlU => z.2) c
  exact List.all_eq_true.mp c1 u (List.mem_of_getElem? h)
end Wp

/-! WpExc: the classes of exceptions: what is looked at once the top has run. -/
namespace Wp
open PySem PySem.Spec PyProof.Rows L2
def clOf (K : PySem.W.Frag) (xc : List (Nat × Str)) (c : Nat) : Option Addr := (xc.lookup c).map (He.ga K)
def x1B (K : PySem.W.Frag) (xc : List (Nat × Str)) (p : Nat × Str) : Bool :=
  decide (xc.lookup p.1 = some p.2) && (He.eqO (PySem.W.nsIn K mainGlobals p.2) (some (some (.ref (He.ga K p.2)))) && (xcB K (He.ga K p.2) && (decide (PySem.W.kitOne K (.ref (He.ga K p.2)) (.type "ValueError") = some true) &&
  (decide (PySem.W.findIn K (.ref (He.ga K p.2)) "at" = some none) && (decide (PySem.W.findIn K (.ref (He.ga K p.2)) "side" = some none) &&
  xc.all fun q => decide (PySem.W.kitOne K (.ref (He.ga K p.2)) (.ref (He.ga K q.2)) = some (subX p.1 q.1)) && decide (PySem.W.exmOne K (.ref (He.ga K p.2)) (.ref (He.ga K q.2)) = some (subX p.1 q.1)))))))
def oexB (K : PySem.W.Frag) (C : Addr) : Bool := match K.lookup C with
  | some ⟨.type "type", _, .cls cd, sl⟩ => (match cd.mro, sl.toList with
    | .ref C' :: bm, [_, _, _, _, some (.builtin n), _] => C' == C && n == "ValueError.__new__" && !cd.hasDel && cd.hasDict && PySem.HandSPX.refsVE bm
    | _, _ => false)
  | _ => false
theorem oexB_ok {K : PySem.W.Frag} {C : Addr} (q : oexB K C = true) : ∃ nm q N bs bm sn sub ab col dd k0 k1 k2 k3 k5, K.lookup C = some (excClassObj nm q C N bs bm true sn sub ab col dd k0 k1 k2 k3 k5 "ValueError.__new__") ∧ PySem.HandSPX.refsVE bm = true := by
  unfold oexB at q
  split at q
  · rename_i dd cd sl ho
    split at q
    · rename_i C' bm k0 k1 k2 k3 n k5 hm hs
      simp only [Bool.and_eq_true, beq_iff_eq, Bool.not_eq_true'] at q
      obtain ⟨⟨⟨⟨rfl, rfl⟩, hdel⟩, hdc⟩, ht⟩ := q
      obtain ⟨nm, bs, mro, ns, qn, hd, sn, sub, ab, col, del⟩ := cd
      dsimp only at hm hdel hdc
      subst hm hdel hdc
      have hsl : sl = #[k0, k1, k2, k3, some (.builtin "ValueError.__new__"), k5] := by
        obtain ⟨l⟩ := sl
        simp only at hs
        rw [hs]
      subst hsl
      exact ⟨nm, qn, ns, bs, bm, sn, sub, ab, col, dd, k0, k1, k2, k3, k5, ho, ht⟩
    · cases q
  · cases q
def mkB (K : PySem.W.Frag) (p : Str × Str) : Bool :=
  PySem.W.keepIn K (.ref (He.ga K p.1)) && (oexB K (He.ga K p.1) && (He.eqO (PySem.W.findIn K (.ref (He.ga K p.1)) "__setattr__") (some (some (.builtin "object.__setattr__"))) &&
  (decide (PySem.W.subIn K (.ref (He.ga K p.1)) (.type "BaseException") = some true) && (decide (PySem.W.typeIn K (.ref (He.ga K p.1)) = some (.type "type")) &&
  (He.eqO (PySem.W.findIn K (.ref (He.ga K p.1)) "__init__") (some (some (.ref (He.ma K (He.ga K p.1) "__init__")))) && decide (PySem.W.typeIn K (.ref (He.ma K (He.ga K p.1) "__init__")) = some (.type "function")))))))
section
variable {K : PySem.W.Frag} {h : Heap} {mg : Str → Option Value} {xc : List (Nat × Str)}
theorem look_mem {c : Nat} {x : Str} : ∀ {l : List (Nat × Str)}, l.lookup c = some x → (c, x) ∈ l
  | [], h => by cases h
  | (a, y) :: l, h => by
    rw [List.lookup_cons] at h
    cases q : (c == a) with
    | true =>
      rw [q] at h
      cases h
      rw [eq_of_beq q]
      exact List.mem_cons_self ..
    | false =>
      rw [q] at h
      exact List.mem_cons_of_mem _ (look_mem h)
theorem clOf_inv {c : Nat} {C : Addr} (e : clOf K xc c = some C) : ∃ x, (c, x) ∈ xc ∧ C = He.ga K x := by
  unfold clOf at e
  cases q : xc.lookup c with
  | none => rw [q] at e; cases e
  | some x =>
    rw [q] at e
    exact ⟨x, look_mem q, (Option.some.inj e).symm⟩
theorem xt_of (X : K.In h) (G : h.Ns mainGlobals mg) (c : (xc.all fun p => x1B K xc p) = true) : XTab K mg (clOf K xc) xc := by
  have all : ∀ p ∈ xc, x1B K xc p = true := fun p hp => List.all_eq_true.mp c p hp
  refine ⟨fun p hp => ?_, fun c C e => ?_, fun c C e => ?_, fun c C d D e e' => ?_, fun c C f e hf => ?_⟩
  · obtain ⟨c1, c2⟩ := He.ba (all p hp)
    obtain ⟨c2, c3⟩ := He.ba c2
    refine ⟨He.ga K p.2, PySem.W.mg_of X G (He.eqO_ok c2), ?_⟩
    unfold clOf
    rw [of_decide_eq_true c1]
    rfl
  · obtain ⟨x, hx, rfl⟩ := clOf_inv e
    obtain ⟨c1, c2⟩ := He.ba (all _ hx)
    obtain ⟨c2, c3⟩ := He.ba c2
    exact xcB_ok (He.ba c3).1
  · obtain ⟨x, hx, rfl⟩ := clOf_inv e
    obtain ⟨c1, c2⟩ := He.ba (all _ hx)
    obtain ⟨c2, c3⟩ := He.ba c2
    obtain ⟨c3, c4⟩ := He.ba c3
    exact of_decide_eq_true (He.ba c4).1
  · obtain ⟨x, hx, rfl⟩ := clOf_inv e
    obtain ⟨y, hy, rfl⟩ := clOf_inv e'
    obtain ⟨c1, c2⟩ := He.ba (all _ hx)
    obtain ⟨c2, c3⟩ := He.ba c2
    obtain ⟨c3, c4⟩ := He.ba c3
    obtain ⟨c4, c5⟩ := He.ba c4
    obtain ⟨c5, c6⟩ := He.ba c5
    obtain ⟨c6, c7⟩ := He.ba c6
    obtain ⟨d1, d2⟩ := He.ba (List.all_eq_true.mp c7 _ hy)
    exact ⟨of_decide_eq_true d1, of_decide_eq_true d2⟩
  · obtain ⟨x, hx, rfl⟩ := clOf_inv e
    obtain ⟨c1, c2⟩ := He.ba (all _ hx)
    obtain ⟨c2, c3⟩ := He.ba c2
    obtain ⟨c3, c4⟩ := He.ba c3
    obtain ⟨c4, c5⟩ := He.ba c4
    obtain ⟨c5, c6⟩ := He.ba c5
    obtain ⟨c6, c7⟩ := He.ba c6
    unfold fldN at hf
    rw [Bool.or_eq_true] at hf
    rcases hf with hf | hf
    · rw [of_decide_eq_true hf]
      exact of_decide_eq_true c5
    · rw [of_decide_eq_true hf]
      exact of_decide_eq_true c6
theorem ini_of (X : K.In h) (G : h.Ns mainGlobals mg) (cx : (xc.all fun p => x1B K xc p) = true) {c : Nat} {x f : Str} (hx : (c, x) ∈ xc) (m : mkB K (x, f) = true) (hf : fldN f = true) {nm ql : Str} {params : Arguments} {body : List Stmt} {scope : Scope} {fd : FuncData} {N ps : List Str}
    (F : FunD K nm ql params body scope [] [] (He.fAd K (x, some "__init__")) fd) (hb : Binds K fd ps []) (S : FnScope N ps scope) (hp : ps.length = 2) (hi : iniB N scope f body = true) : IniOk K mg (clOf K xc) c x f := by
  have T := xt_of X G cx
  obtain ⟨C, m1, m2⟩ := T.nm _ hx
  obtain ⟨y, hy, e⟩ := clOf_inv m2
  have c1 := (He.ba (List.all_eq_true.mp cx _ hx)).1
  have c2 := (He.ba (List.all_eq_true.mp cx _ hy)).1
  have e3 : x = y := by
    have a := of_decide_eq_true c1
    have b := of_decide_eq_true c2
    dsimp only at a b
    rw [a] at b
    exact Option.some.inj b
  subst e3
  subst e
  obtain ⟨k1, k2⟩ := He.ba m
  obtain ⟨k2, k3⟩ := He.ba k2
  obtain ⟨k3, k4⟩ := He.ba k3
  obtain ⟨k4, k5⟩ := He.ba k4
  obtain ⟨k5, k6⟩ := He.ba k5
  obtain ⟨k6, k7⟩ := He.ba k6
  exact ⟨He.ga K x, He.ma K (He.ga K x) "__init__", fd, N, ps, params, body, scope, nm, ql, m2, m1, k1, ⟨oexB_ok k2, He.eqO_ok k3, of_decide_eq_true k4, of_decide_eq_true k5, k1⟩, He.eqO_ok k6, of_decide_eq_true k7, F, hb, S, hp, T.na _ _ _ m2 hf, hi⟩
/-- C's own __init__ with at and side, side None at first -/
theorem inib_of (X : K.In h) (G : h.Ns mainGlobals mg) (cx : (xc.all fun p => x1B K xc p) = true) {c : Nat} {x f : Str} (hx : (c, x) ∈ xc) (m : mkB K (x, f) = true) {nm ql : Str} {params : Arguments} {body : List Stmt} {scope : Scope} {fd : FuncData} {N ps : List Str} {dvs : List V}
    (F : FunD K nm ql params body scope dvs [] (He.fAd K (x, some "__init__")) fd) (hb : ∃ ds, Vals [] ds ∧ Binds K fd ps ds) (hb2 : ∃ ds, Vals [.non] ds ∧ Binds K fd ps ds) (S : FnScope N ps scope) (hp : ps.length = 3) (hi : iniBB N scope body = true) : IniB K mg (clOf K xc) c x := by
  have T := xt_of X G cx
  obtain ⟨C, m1, m2⟩ := T.nm _ hx
  obtain ⟨y, hy, e⟩ := clOf_inv m2
  have c1 := (He.ba (List.all_eq_true.mp cx _ hx)).1
  have c2 := (He.ba (List.all_eq_true.mp cx _ hy)).1
  have e3 : x = y := by
    have a := of_decide_eq_true c1
    have b := of_decide_eq_true c2
    dsimp only at a b
    rw [a] at b
    exact Option.some.inj b
  subst e3
  subst e
  obtain ⟨k1, k2⟩ := He.ba m
  obtain ⟨k2, k3⟩ := He.ba k2
  obtain ⟨k3, k4⟩ := He.ba k3
  obtain ⟨k4, k5⟩ := He.ba k4
  obtain ⟨k5, k6⟩ := He.ba k5
  obtain ⟨k6, k7⟩ := He.ba k6
  obtain ⟨d1, z1, b1⟩ := hb
  obtain ⟨d2, z2, b2⟩ := hb2
  cases z1
  have e4 : d2 = [.none] := by
    cases z2 with
    | cons r t => cases t; cases r; rfl
  subst e4
  exact ⟨He.ga K x, He.ma K (He.ga K x) "__init__", fd, N, ps, params, body, scope, nm, ql, dvs, m2, m1, k1, ⟨oexB_ok k2, He.eqO_ok k3, of_decide_eq_true k4, of_decide_eq_true k5, k1⟩, He.eqO_ok k6, of_decide_eq_true k7, F, b1, b2, S, hp, T.na _ _ _ m2 rfl, T.na _ _ _ m2 rfl, hi⟩
end
/-! ### own classes -/
def ownFa (oc : List (Nat × Str)) (fs : List Str) : List He.Fa := oc.flatMap fun p => [.glo p.2, .cls p.2, .mkr p.2] ++ fs.map fun f => .noat p.2 f
section
variable {K : PySem.W.Frag} {h : Heap} {mg : Str → Option Value} {fa : List He.Fa} {fn : List He.DefD} {oc : List (Nat × Str)} {fs : List Str}
theorem fact_mem (c : He.SaysD fa fn K) {f : He.Fa} (h : f ∈ fa) : f.ok K = true :=
  List.all_eq_true.mp (He.ba (show ((fa.all fun f => f.ok K) && fn.all fun d => d.ok K) = true from congrArg (fun z : He.AlD => z.1) c)).1 f h
theorem own_cls (c : He.SaysD fa fn K) (hfa : ∀ x ∈ ownFa oc fs, x ∈ fa) (k : Nat) (C : Addr) (e : clOf K oc k = some C) : Cls K C ∧ ∀ f ∈ fs, NoAttr K C f := by
  obtain ⟨x, hx, rfl⟩ := clOf_inv e
  refine ⟨He.cls_ok (fact_mem c (hfa _ (List.mem_flatMap.mpr ⟨_, hx, ?_⟩))), fun f hf => He.noat_ok (fact_mem c (hfa _ (List.mem_flatMap.mpr ⟨_, hx, ?_⟩)))⟩
  · exact List.mem_append_left _ (List.mem_cons_of_mem _ (List.mem_cons_self ..))
  · exact List.mem_append_right _ (List.mem_map.mpr ⟨f, hf, rfl⟩)
theorem own_mks (X : K.In h) (G : h.Ns mainGlobals mg) (c : He.SaysD fa fn K) (hfa : ∀ x ∈ ownFa oc fs, x ∈ fa) (hl : ∀ p ∈ oc, oc.lookup p.1 = some p.2) (k : Nat) (x : Str) (hx : (k, x) ∈ oc) :
    ∃ C, clOf K oc k = some C ∧ mg x = some (.ref C) ∧ PySem.W.makesIn K C = true ∧ PySem.W.keepIn K (.ref C) = true := by
  have M := He.mkr_ok (K := K) (x := x) (fact_mem c (hfa _ (List.mem_flatMap.mpr ⟨_, hx, List.mem_append_left _ (List.mem_cons_of_mem _ (List.mem_cons_of_mem _ (List.mem_cons_self ..)))⟩)))
  have g := He.glo_ok (K := K) (x := x) X G (fact_mem c (hfa _ (List.mem_flatMap.mpr ⟨_, hx, List.mem_append_left _ (List.mem_cons_self ..)⟩)))
  refine ⟨He.ga K x, ?_, g, M.makes, M.kp⟩
  unfold clOf
  rw [hl _ hx]
  rfl
end
/-! ### the hook -/
def obsX (fa : List He.Fa) (fn : List He.DefD) (us : List (Str × List (Sum Int Str))) (xc : List (Nat × Str)) (xm : List (Str × Str)) (K : PySem.W.Frag) : AlU := (He.obsD fa fn K, (us.all fun u => tupB K u) && ((xc.all fun p => x1B K xc p) && xm.all fun p => mkB K p))
def SaysX (fa : List He.Fa) (fn : List He.DefD) (us : List (Str × List (Sum Int Str))) (xc : List (Nat × Str)) (xm : List (Str × Str)) (K : PySem.W.Frag) : Prop := obsX fa fn us xc xm K = (He.valD fn, true)
def obsXG (n : Nat) (fa : List He.Fa) (fn : List He.DefD) (us : List (Str × List (Sum Int Str))) (xc : List (Nat × Str)) (xm : List (Str × Str)) (g : Addr → Option Obj) : AlU := obsX fa fn us xc xm (He.frG g (He.asD g n))
def hookX (n : Nat) (fa : List He.Fa) (fn : List He.DefD) (us : List (Str × List (Sum Int Str))) (xc : List (Nat × Str)) (xm : List (Str × Str)) : PySem.W.Hook where
  α := AlU
  obs := fun s => obsXG n fa fn us xc xm s.heap.get?
  val := fun _ => (He.valD fn, true)
  says := fun _ h => ∃ K : PySem.W.Frag, K.In h ∧ SaysX fa fn us xc xm K
  of := fun _ _ e => ⟨_, He.frG_in, e⟩
  keeps := fun _ _ _ ⟨K, hK, c⟩ k => ⟨K, PySem.W.Frag.In.keeps hK k, c⟩
theorem obsXG_eq {n : Nat} {fa : List He.Fa} {fn : List He.DefD} {us : List (Str × List (Sum Int Str))} {xc : List (Nat × Str)} {xm : List (Str × Str)} {g : Addr → Option Obj} {s : Shared} (h : ∀ a, g a = s.heap.get? a) : obsXG n fa fn us xc xm g = (hookX n fa fn us xc xm).obs s := by
  have e : g = s.heap.get? := funext h
  rw [e] <;> rfl
section
variable {fa : List He.Fa} {fn : List He.DefD} {us : List (Str × List (Sum Int Str))} {xc : List (Nat × Str)} {xm : List (Str × Str)} {K : PySem.W.Frag}
theorem SaysX.d (c : SaysX fa fn us xc xm K) : He.SaysD fa fn K := congrArg (fun z : AlU => z.1) c
theorem SaysX.b (c : SaysX fa fn us xc xm K) : ((us.all fun u => tupB K u) && ((xc.all fun p => x1B K xc p) && xm.all fun p => mkB K p)) = true := congrArg (fun z : AlU => z.2) c
theorem SaysX.tup (c : SaysX fa fn us xc xm K) (i : Nat) {u : Str × List (Sum Int Str)} (h : us[i]? = some u := by rfl) : tupB K u = true :=
  List.all_eq_true.mp (He.ba c.b).1 u (List.mem_of_getElem? h)
theorem SaysX.xs (c : SaysX fa fn us xc xm K) : (xc.all fun p => x1B K xc p) = true := (He.ba (He.ba c.b).2).1
theorem SaysX.mk (c : SaysX fa fn us xc xm K) (i : Nat) {u : Str × Str} (h : xm[i]? = some u := by rfl) : mkB K u = true :=
  List.all_eq_true.mp (He.ba (He.ba c.b).2).2 u (List.mem_of_getElem? h)
end
end Wp

namespace Wp
open PySem
abbrev f_is_whole : Nat := 0
abbrev f_is_most : Nat := 1
abbrev f_are_bounds : Nat := 2
abbrev f_within : Nat := 3
abbrev f_is_shape : Nat := 4
abbrev f_is_name : Nat := 5
abbrev f_is_number_of : Nat := 6
abbrev f_is_word : Nat := 7
abbrev f_is_state : Nat := 8
abbrev f_is_grammar : Nat := 9
abbrev f_law_cell : Nat := 10
abbrev f_law_state : Nat := 11
abbrev f_law_take : Nat := 12
abbrev f_law_shape : Nat := 13
abbrev f_law_names : Nat := 14
abbrev f_law_grammar : Nat := 15
abbrev f_law_odd_shape : Nat := 16
abbrev f_law_odd_word : Nat := 17
abbrev f_law_odd_state : Nat := 18
abbrev f_law : Nat := 19
/- thing=0 -/
def b_is_whole : Fn := ⟨1, 1,
    (.seq (.ret (.and (.isi (.var 0) .int_) (.not (.isi (.var 0) .bool_))))
    .nil)⟩
/- thing=0 -/
def b_is_most : Fn := ⟨1, 1,
    (.seq (.ret (.and (.call f_is_whole (.cons (.var 0) .nil)) (.ch2 .LtE .LtE (.int 0) (.var 0) (.glob "MOST" (.int (250))))))
    .nil)⟩
/- low=0 high=1 -/
def b_are_bounds : Fn := ⟨2, 2,
    (.seq (.ret (.and (.call f_is_whole (.cons (.var 0) .nil)) (.and (.call f_is_whole (.cons (.var 1) .nil)) (.and (.cmp .Lt (.bin .Sub true (.int 0) (.glob "GREATEST" (.int (1000000000000000000)))) (.var 0)) (.and (.cmp .LtE (.var 0) (.var 1)) (.cmp .Lt (.var 1) (.glob "GREATEST" (.int (1000000000000000000)))))))))
    .nil)⟩
/- thing=0 kind=1 -/
def b_within : Fn := ⟨1, 2,
    (.seq (.ife (.or (.not (.isi (.var 0) .tuple_)) (.or (.cmp .Eq (.var 0) (.tup .nil)) (.not (.isi (.idx (.var 0) (.int 0)) .str_)))) (.seq (.ret .non)
    .nil) .nil)
    (.seq (.asg (.nm 1) (.idx (.var 0) (.int 0)))
    (.seq (.ife (.and (.cmp .Eq (.var 1) (.str "nothing")) (.cmp .Eq (.bi .len true (.cons (.var 0) .nil)) (.int 1))) (.seq (.ret (.tup .nil))
    .nil) .nil)
    (.seq (.ife (.and (.cmp .Eq (.var 1) (.str "number")) (.and (.cmp .Eq (.bi .len true (.cons (.var 0) .nil)) (.int 3)) (.call f_are_bounds (.cons (.idx (.var 0) (.int 1)) (.cons (.idx (.var 0) (.int 2)) .nil))))) (.seq (.ret (.tup .nil))
    .nil) .nil)
    (.seq (.ife (.and (.cmp .Eq (.var 1) (.str "text")) (.and (.cmp .Eq (.bi .len true (.cons (.var 0) .nil)) (.int 2)) (.call f_is_most (.cons (.idx (.var 0) (.int 1)) .nil)))) (.seq (.ret (.tup .nil))
    .nil) .nil)
    (.seq (.ife (.and (.cmp .Eq (.var 1) (.str "list")) (.and (.cmp .Eq (.bi .len true (.cons (.var 0) .nil)) (.int 3)) (.call f_is_most (.cons (.idx (.var 0) (.int 2)) .nil)))) (.seq (.ret (.sli true (.var 0) (.part (.int 1)) (.part (.int 2))))
    .nil) .nil)
    (.seq (.ife (.and (.cmp .Eq (.var 1) (.str "pair")) (.cmp .Eq (.bi .len true (.cons (.var 0) .nil)) (.int 3))) (.seq (.ret (.sli true (.var 0) (.part (.int 1)) .nopart))
    .nil) .nil)
    (.seq (.ife (.and (.cmp .Eq (.var 1) (.str "choice")) (.and (.cmp .Eq (.bi .len true (.cons (.var 0) .nil)) (.int 2)) (.and (.isi (.idx (.var 0) (.int 1)) .tuple_) (.ch2 .LtE .LtE (.int 1) (.bi .len true (.cons (.idx (.var 0) (.int 1)) .nil)) (.glob "MOST_CHOICES" (.int (9))))))) (.seq (.ret (.idx (.var 0) (.int 1)))
    .nil) .nil)
    (.seq (.ret .non)
    .nil)))))))))⟩
/- thing=0 row=1 at=2 parts=3 part=4 one=5 depth=6 -/
def b_is_shape : Fn := ⟨1, 7,
    (.seq (.asg (.nm 1) (.lst false (.cons (.tup (.cons (.var 0) (.cons (.int 1) .nil))) .nil)))
    (.seq (.asg (.nm 2) (.int 0))
    (.seq (.loop (.cmp .Lt (.var 2) (.bi .len true (.cons (.var 1) .nil))) (.seq (.asg (.co (.nm 5) (.co (.nm 6) .no)) (.idx (.var 1) (.var 2)))
    (.seq (.asg (.nm 3) (.call f_within (.cons (.var 5) .nil)))
    (.seq (.ife (.or (.cmp .Is (.var 3) .non) (.or (.cmp .Gt (.var 6) (.glob "DEEPEST" (.int (6)))) (.cmp .Gt (.bi .len true (.cons (.var 1) .nil)) (.glob "MOST_SHAPES" (.int (60)))))) (.seq (.ret (.bl false))
    .nil) .nil)
    (.seq (.each (.nm 4) (.itt (.var 3)) (.seq (.drop (.bm .append true (.var 1) (.cons (.tup (.cons (.var 4) (.cons (.bin .Add true (.var 6) (.int 1)) .nil))) .nil)))
    .nil))
    (.seq (.aug 2 .Add (.int 1))
    .nil))))))
    (.seq (.ret (.bl true))
    .nil))))⟩
/- thing=0 letter=1 -/
def b_is_name : Fn := ⟨1, 2,
    (.seq (.ife (.or (.not (.isi (.var 0) .str_)) (.not (.ch2 .LtE .LtE (.int 1) (.bi .len true (.cons (.var 0) .nil)) (.glob "LONGEST" (.int (8)))))) (.seq (.ret (.bl false))
    .nil) .nil)
    (.seq (.ret (.cmp .Eq (.comp true [1] (.nm 1) (.its (.var 0)) (.part (.cmp .NotIn (.var 1) (.glob "LETTERS" (.str "abcdefghijklmnopqrstuvwxyz")))) (.var 1)) (.lst true .nil)))
    .nil))⟩
/- thing=0 many=1 -/
def b_is_number_of : Fn := ⟨2, 2,
    (.seq (.ret (.and (.isi (.var 0) .int_) (.and (.not (.isi (.var 0) .bool_)) (.ch2 .LtE .Lt (.int 0) (.var 0) (.var 1)))))
    .nil)⟩
/- thing=0 many=1 -/
def b_is_word : Fn := ⟨2, 2,
    (.seq (.ife (.or (.not (.isi (.var 0) .tuple_)) (.cmp .NotEq (.bi .len true (.cons (.var 0) .nil)) (.int 3))) (.seq (.ret (.bl false))
    .nil) .nil)
    (.seq (.ret (.and (.call f_is_name (.cons (.idx (.var 0) (.int 0)) .nil)) (.and (.call f_is_shape (.cons (.idx (.var 0) (.int 1)) .nil)) (.call f_is_number_of (.cons (.idx (.var 0) (.int 2)) (.cons (.var 1) .nil))))))
    .nil))⟩
/- thing=0 many=1 words=2 place=3 word=4 other=5 -/
def b_is_state : Fn := ⟨2, 6,
    (.seq (.ife (.cmp .Eq (.var 0) (.glob "END" (.tup [(.str "end")]))) (.seq (.ret (.bl true))
    .nil) .nil)
    (.seq (.ife (.or (.not (.isi (.var 0) .tuple_)) (.or (.cmp .NotEq (.bi .len true (.cons (.var 0) .nil)) (.int 2)) (.cmp .NotIn (.idx (.var 0) (.int 0)) (.tup (.cons (.str "left") (.cons (.str "right") .nil)))))) (.seq (.ret (.bl false))
    .nil) .nil)
    (.seq (.asg (.nm 2) (.idx (.var 0) (.int 1)))
    (.seq (.ife (.or (.not (.isi (.var 2) .list_)) (.not (.ch2 .LtE .LtE (.int 1) (.bi .len true (.cons (.var 2) .nil)) (.glob "MOST_WORDS" (.int (9)))))) (.seq (.ret (.bl false))
    .nil) .nil)
    (.seq (.each (.co (.nm 3) (.co (.nm 4) .no)) (.ite (.var 2)) (.seq (.ife (.or (.not (.call f_is_word (.cons (.var 4) (.cons (.var 1) .nil)))) (.cmp .In (.idx (.var 4) (.int 0)) (.comp true [5] (.nm 5) (.itl (.sli true (.var 2) .nopart (.part (.var 3)))) .nopart (.idx (.var 5) (.int 0))))) (.seq (.ret (.bl false))
    .nil) .nil)
    .nil))
    (.seq (.ret (.bl true))
    .nil))))))⟩
/- thing=0 state=1 -/
def b_is_grammar : Fn := ⟨1, 2,
    (.seq (.ife (.or (.not (.isi (.var 0) .list_)) (.not (.ch2 .LtE .LtE (.int 1) (.bi .len true (.cons (.var 0) .nil)) (.glob "MOST_STATES" (.int (30)))))) (.seq (.ret (.bl false))
    .nil) .nil)
    (.seq (.each (.nm 1) (.itl (.var 0)) (.seq (.ife (.not (.call f_is_state (.cons (.var 1) (.cons (.bi .len true (.cons (.var 0) .nil)) .nil)))) (.seq (.ret (.bl false))
    .nil) .nil)
    .nil))
    (.seq (.ret (.bl true))
    .nil)))⟩
/- script=0 k=1 -/
def b_law_cell : Fn := ⟨2, 2,
    (.seq (.ife (.cmp .Lt (.var 1) (.bi .len true (.cons (.var 0) .nil))) (.seq (.ret (.idx (.var 0) (.var 1)))
    .nil) .nil)
    (.seq (.ret (.bin .Add true (.bin .Add true (.bin .Mult true (.bin .Mult true (.int 5) (.var 1)) (.var 1)) (.bin .Mult true (.int 9) (.var 1))) (.int 7)))
    .nil))⟩
/- script=0 k=1 -/
def b_law_state : Fn := ⟨2, 2,
    (.seq (.ret (.dct [.inr "rest", .inr "mixed", .inr "turn"] (.cons (.call f_law_cell (.cons (.var 0) (.cons (.var 1) .nil))) (.cons (.cmp .Eq (.bin .Mod true (.call f_law_cell (.cons (.var 0) (.cons (.int 0) .nil))) (.int 2)) (.int 1)) (.cons (.var 1) .nil)))))
    .nil)⟩
/- state=0 many=1 stir=2 found=3 -/
def b_law_take : Fn := ⟨2, 4,
    (.seq (.ife (.not (.dget (.var 0) (.str "mixed"))) (.seq (.asg (.nm 3) (.bin .Mod true (.dget (.var 0) (.str "rest")) (.var 1)))
    (.seq (.dput (.var 0) (.str "rest") (.bin .FloorDiv true (.dget (.var 0) (.str "rest")) (.var 1)))
    (.seq (.ret (.var 3))
    .nil))) .nil)
    (.seq (.dput (.var 0) (.str "turn") (.bin .Add true (.dget (.var 0) (.str "turn")) (.int 1)))
    (.seq (.asg (.nm 2) (.bin .Mod true (.bin .Add true (.bin .Mod true (.dget (.var 0) (.str "rest")) (.int 2147483579)) (.bin .Mult true (.int 70001) (.dget (.var 0) (.str "turn")))) (.int 2147483579)))
    (.seq (.asg (.nm 2) (.bin .Mod true (.bin .Mult true (.var 2) (.var 2)) (.int 2147483563)))
    (.seq (.dput (.var 0) (.str "rest") (.bin .Mod true (.bin .Add true (.bin .Mult true (.var 2) (.int 50021)) (.int 7)) (.int 2147483579)))
    (.seq (.ret (.bin .Mod true (.bin .FloorDiv true (.dget (.var 0) (.str "rest")) (.int 5)) (.var 1)))
    .nil))))))⟩
/- state=0 deep=1 kind=2 low=3 k=4 -/
def b_law_shape : Fn := ⟨2, 5,
    (.seq (.asg (.nm 2) (.call f_law_take (.cons (.var 0) (.cons (.int 8) .nil))))
    (.seq (.ife (.cmp .Eq (.var 2) (.int 2)) (.seq (.ret (.tup (.cons (.str "nothing") .nil)))
    .nil) .nil)
    (.seq (.ife (.cmp .Eq (.var 2) (.int 3)) (.seq (.ret (.tup (.cons (.str "text") (.cons (.idx (.lst true (.cons (.int 0) (.cons (.int 3) (.cons (.int 7) (.cons (.int 250) .nil))))) (.call f_law_take (.cons (.var 0) (.cons (.int 4) .nil)))) .nil))))
    .nil) .nil)
    (.seq (.ife (.or (.cmp .Eq (.var 1) (.int 0)) (.cmp .Lt (.var 2) (.int 2))) (.seq (.asg (.nm 3) (.bin .Sub true (.call f_law_take (.cons (.var 0) (.cons (.int 601) .nil))) (.int 300)))
    (.seq (.ret (.tup (.cons (.str "number") (.cons (.var 3) (.cons (.bin .Add true (.var 3) (.idx (.lst true (.cons (.int 0) (.cons (.int 9) (.cons (.int 300) (.cons (.bin .Pow true (.int 10) (.int 6)) .nil))))) (.call f_law_take (.cons (.var 0) (.cons (.int 4) .nil))))) .nil)))))
    .nil)) .nil)
    (.seq (.ife (.cmp .Eq (.var 2) (.int 4)) (.seq (.ret (.tup (.cons (.str "list") (.cons (.call f_law_shape (.cons (.var 0) (.cons (.bin .Sub true (.var 1) (.int 1)) .nil))) (.cons (.idx (.lst true (.cons (.int 0) (.cons (.int 2) (.cons (.int 5) (.cons (.int 250) .nil))))) (.call f_law_take (.cons (.var 0) (.cons (.int 4) .nil)))) .nil)))))
    .nil) .nil)
    (.seq (.ife (.cmp .Eq (.var 2) (.int 5)) (.seq (.ret (.tup (.cons (.str "pair") (.cons (.call f_law_shape (.cons (.var 0) (.cons (.bin .Sub true (.var 1) (.int 1)) .nil))) (.cons (.call f_law_shape (.cons (.var 0) (.cons (.bin .Sub true (.var 1) (.int 1)) .nil))) .nil)))))
    .nil) .nil)
    (.seq (.ret (.tup (.cons (.str "choice") (.cons (.bi .tuple_ true (.cons (.comp true [4] (.nm 4) (.it1 (.bin .Add true (.int 1) (.call f_law_take (.cons (.var 0) (.cons (.int 3) .nil))))) .nopart (.call f_law_shape (.cons (.var 0) (.cons (.bin .Sub true (.var 1) (.int 1)) .nil)))) .nil)) .nil))))
    .nil)))))))⟩
/- many=0 off=1 some=2 k=3 -/
def b_law_names : Fn := ⟨2, 4,
    (.seq (.asg (.nm 2) (.lst true (.cons (.str "a") (.cons (.str "ab") (.cons (.str "b") (.cons (.str "hello") (.cons (.str "end") (.cons (.str "left") (.cons (.str "right") (.cons (.str "aa") (.cons (.str "zzzzzzzz") (.cons (.str "number") (.cons (.str "list") (.cons (.str "nothing") .nil))))))))))))))
    (.seq (.ret (.comp true [3] (.nm 3) (.it1 (.var 0)) .nopart (.idx (.var 2) (.bin .Mod true (.bin .Add true (.var 1) (.bin .Mult true (.int 5) (.var 3))) (.int 12)))))
    .nil))⟩
/- script=0 first=1 most=2 shape=3 many=4 found=5 k=6 state=7 side=8 count=9 names=10 words=11 name=12 -/
def b_law_grammar : Fn := ⟨3, 13,
    (.seq (.asg (.nm 3) (.bin .FloorDiv true (.call f_law_cell (.cons (.var 0) (.cons (.int 0) .nil))) (.int 2)))
    (.seq (.asg (.nm 4) (.bin .Add true (.int 1) (.bin .Mod true (.var 3) (.var 2))))
    (.seq (.asg (.nm 5) (.lst false .nil))
    (.seq (.each (.nm 6) (.it1 (.var 4)) (.seq (.asg (.nm 7) (.call f_law_state (.cons (.var 0) (.cons (.bin .Add true (.var 1) (.var 6)) .nil))))
    (.seq (.ife (.cmp .Eq (.call f_law_take (.cons (.var 7) (.cons (.int 4) .nil))) (.int 0)) (.seq (.drop (.bm .append true (.var 5) (.cons (.tup (.cons (.str "end") .nil)) .nil)))
    .nil) (.seq (.asg (.nm 8) (.idx (.lst true (.cons (.str "left") (.cons (.str "right") .nil))) (.call f_law_take (.cons (.var 7) (.cons (.int 2) .nil)))))
    (.seq (.asg (.nm 9) (.idx (.lst true (.cons (.int 1) (.cons (.int 2) (.cons (.int 3) (.cons (.int 9) .nil))))) (.call f_law_take (.cons (.var 7) (.cons (.int 4) .nil)))))
    (.seq (.asg (.nm 10) (.call f_law_names (.cons (.var 9) (.cons (.call f_law_take (.cons (.var 7) (.cons (.int 12) .nil))) .nil))))
    (.seq (.asg (.nm 11) (.comp true [12] (.nm 12) (.itl (.var 10)) .nopart (.tup (.cons (.var 12) (.cons (.call f_law_shape (.cons (.var 7) (.cons (.int 2) .nil))) (.cons (.call f_law_take (.cons (.var 7) (.cons (.var 4) .nil))) .nil))))))
    (.seq (.drop (.bm .append true (.var 5) (.cons (.tup (.cons (.var 8) (.cons (.var 11) .nil))) .nil)))
    .nil))))))
    .nil)))
    (.seq (.ife (.and (.cmp .Eq (.idx (.var 5) (.int 0)) (.tup (.cons (.str "end") .nil))) (.cmp .Gt (.bin .Mod true (.bin .FloorDiv true (.var 3) (.var 2)) (.int 4)) (.int 0))) (.seq (.sub (.var 5) (.int 0) (.tup (.cons (.str "right") (.cons (.lst true (.cons (.tup (.cons (.str "go") (.cons (.tup (.cons (.str "number") (.cons (.int 0) (.cons (.int 1) .nil)))) (.cons (.bin .Sub true (.var 4) (.int 1)) .nil)))) (.cons (.tup (.cons (.str "on") (.cons (.tup (.cons (.str "nothing") .nil)) (.cons (.int 0) .nil)))) .nil))) .nil))))
    .nil) .nil)
    (.seq (.ret (.var 5))
    .nil))))))⟩
/- kind=0 deep=1 k=2 wide=3 some=4 -/
def b_law_odd_shape : Fn := ⟨1, 5,
    (.seq (.asg (.nm 1) (.tup (.cons (.str "nothing") .nil)))
    (.seq (.each (.nm 2) (.it1 (.int 6)) (.seq (.asg (.nm 1) (.tup (.cons (.str "list") (.cons (.var 1) (.cons (.int 1) .nil)))))
    .nil))
    (.seq (.asg (.nm 3) (.tup (.cons (.str "choice") (.cons (.bin .Mult true (.tup (.cons (.tup (.cons (.str "nothing") .nil)) .nil)) (.int 9)) .nil))))
    (.seq (.asg (.nm 3) (.tup (.cons (.str "choice") (.cons (.bin .Mult true (.tup (.cons (.var 3) .nil)) (.int 6)) .nil))))
    (.seq (.asg (.nm 4) (.lst true (.cons (.tup (.cons (.str "number") (.cons (.int 2) (.cons (.int 1) .nil)))) (.cons (.tup (.cons (.str "number") (.cons (.int 1) .nil))) (.cons (.tup (.cons (.str "text") (.cons (.int 251) .nil))) (.cons (.tup (.cons (.str "text") (.cons (.neg (.int 1)) .nil))) (.cons (.tup (.cons (.str "list") (.cons (.tup (.cons (.str "nothing") .nil)) (.cons (.bl true) .nil)))) (.cons .non .nil))))))))
    (.seq (.asg (.nm 4) (.bin .Add true (.var 4) (.lst true (.cons (.tup (.cons (.str "choice") (.cons (.lst true (.cons (.tup (.cons (.str "nothing") .nil)) .nil)) .nil))) (.cons (.tup (.cons (.str "pair") (.cons (.tup (.cons (.str "nothing") .nil)) (.cons .non .nil)))) (.cons (.str "nothing") (.cons (.tup (.cons (.str "nothing") (.cons (.int 1) .nil))) (.cons (.var 1) (.cons (.var 3) .nil)))))))))
    (.seq (.asg (.nm 4) (.bin .Add true (.var 4) (.lst true (.cons (.tup (.cons (.str "number") (.cons (.int 0) (.cons (.bin .Pow true (.int 10) (.int 18)) .nil)))) (.cons (.tup (.cons (.str "number") (.cons .non (.cons (.int 1) .nil)))) (.cons (.tup (.cons (.str "choice") (.cons (.bin .Mult true (.tup (.cons (.tup (.cons (.str "nothing") .nil)) .nil)) (.int 10)) .nil))) (.cons (.lst true (.cons (.str "nothing") .nil)) .nil)))))))
    (.seq (.asg (.nm 4) (.bin .Add true (.var 4) (.lst true (.cons (.tup (.cons (.str "End") .nil)) (.cons (.tup (.cons (.str "choice") (.cons (.tup .nil) .nil))) .nil)))))
    (.seq (.ret (.idx (.var 4) (.bin .Mod true (.var 0) (.bi .len true (.cons (.var 4) .nil)))))
    .nil)))))))))⟩
/- word=0 kind=1 many=2 some=3 name=4 shape=5 then=6 -/
def b_law_odd_word : Fn := ⟨3, 7,
    (.seq (.asg (.co (.nm 4) (.co (.nm 5) (.co (.nm 6) .no))) (.var 0))
    (.seq (.asg (.nm 3) (.lst true (.cons (.tup (.cons (.var 4) (.cons (.var 5) .nil))) (.cons (.lst true (.cons (.var 4) (.cons (.var 5) (.cons (.var 6) .nil)))) (.cons (.tup (.cons (.bm .upper true (.var 4) .nil) (.cons (.var 5) (.cons (.var 6) .nil)))) (.cons (.tup (.cons (.str "") (.cons (.var 5) (.cons (.var 6) .nil)))) (.cons (.tup (.cons (.int 7) (.cons (.var 5) (.cons (.var 6) .nil)))) .nil)))))))
    (.seq (.asg (.nm 3) (.bin .Add true (.var 3) (.lst true (.cons (.tup (.cons (.str "abcdefghi") (.cons (.var 5) (.cons (.var 6) .nil)))) (.cons (.tup (.cons (.str "a b") (.cons (.var 5) (.cons (.var 6) .nil)))) (.cons (.tup (.cons (.str "a1") (.cons (.var 5) (.cons (.var 6) .nil)))) (.cons (.tup (.cons (.var 4) (.cons (.var 5) (.cons (.neg (.int 1)) .nil)))) (.cons .non .nil))))))))
    (.seq (.asg (.nm 3) (.bin .Add true (.var 3) (.lst true (.cons (.tup (.cons (.var 4) (.cons (.var 5) (.cons (.var 2) .nil)))) (.cons (.tup (.cons (.var 4) (.cons (.var 5) (.cons (.bl true) .nil)))) (.cons (.tup (.cons (.var 4) (.cons (.var 5) (.cons .non .nil)))) (.cons (.tup (.cons (.var 4) (.cons (.var 5) (.cons (.bi .str_ true (.cons (.var 6) .nil)) .nil)))) .nil)))))))
    (.seq (.asg (.nm 3) (.bin .Add true (.var 3) (.lst true (.cons (.tup (.cons (.var 4) (.cons (.var 5) (.cons (.var 6) (.cons (.var 6) .nil))))) (.cons (.tup (.cons .non (.cons (.var 5) (.cons (.var 6) .nil)))) (.cons (.tup (.cons (.var 4) (.cons (.var 6) (.cons (.var 5) .nil)))) (.cons (.tup (.cons (.lst true (.cons (.str "a") .nil)) (.cons (.var 5) (.cons (.var 6) .nil)))) .nil)))))))
    (.seq (.asg (.nm 3) (.bin .Add true (.var 3) (.lst true (.cons (.tup (.cons (.var 4) (.cons (.call f_law_odd_shape (.cons (.bin .FloorDiv true (.var 1) (.int 22)) .nil)) (.cons (.var 6) .nil)))) (.cons (.var 4) (.cons (.tup (.cons (.var 4) (.cons (.var 5) (.cons (.lst true .nil) .nil)))) (.cons (.tup (.cons (.var 4) (.cons (.var 5) (.cons .emp .nil)))) .nil)))))))
    (.seq (.ret (.idx (.var 3) (.bin .Mod true (.var 1) (.bi .len true (.cons (.var 3) .nil)))))
    .nil)))))))⟩
/- state=0 kind=1 many=2 at=3 odd=4 some=5 long=6 side=7 words=8 letter=9 -/
def b_law_odd_state : Fn := ⟨3, 10,
    (.seq (.asg (.co (.nm 7) (.co (.nm 8) .no)) (.var 0))
    (.seq (.asg (.nm 3) (.bin .Mod true (.var 1) (.bi .len true (.cons (.var 8) .nil))))
    (.seq (.asg (.nm 4) (.call f_law_odd_word (.cons (.idx (.var 8) (.var 3)) (.cons (.bin .FloorDiv true (.var 1) (.int 9)) (.cons (.var 2) .nil)))))
    (.seq (.asg (.nm 5) (.lst true (.cons (.tup (.cons (.var 7) (.cons (.bin .Add true (.bin .Add true (.sli true (.var 8) .nopart (.part (.var 3))) (.lst true (.cons (.var 4) .nil))) (.sli true (.var 8) (.part (.bin .Add true (.var 3) (.int 1))) .nopart)) .nil))) (.cons (.tup (.cons (.var 7) (.cons (.bin .Add true (.bin .Add true (.sli true (.var 8) .nopart (.part (.var 3))) (.lst true (.cons (.var 4) .nil))) (.sli true (.var 8) (.part (.bin .Add true (.var 3) (.int 1))) .nopart)) .nil))) .nil))))
    (.seq (.asg (.nm 5) (.bin .Add true (.var 5) (.lst true (.cons (.tup (.cons (.str "middle") (.cons (.var 8) .nil))) (.cons (.tup (.cons (.var 7) .nil)) (.cons (.tup (.cons (.var 7) (.cons (.bi .tuple_ true (.cons (.var 8) .nil)) .nil))) (.cons (.tup (.cons (.var 7) (.cons (.lst true .nil) .nil))) (.cons (.tup (.cons (.bl true) (.cons (.var 8) .nil))) (.cons (.tup (.cons (.var 7) (.cons .non .nil))) (.cons .non .nil))))))))))
    (.seq (.asg (.nm 5) (.bin .Add true (.var 5) (.lst true (.cons (.lst true (.cons (.var 7) (.cons (.var 8) .nil))) (.cons (.tup (.cons (.var 7) (.cons (.var 8) (.cons (.var 8) .nil)))) (.cons (.tup (.cons (.str "end") (.cons (.var 8) .nil))) (.cons (.tup (.cons (.str "end") (.cons (.str "end") .nil))) (.cons (.lst true (.cons (.str "end") .nil)) (.cons (.str "end") .nil)))))))))
    (.seq (.asg (.nm 6) (.comp true [9] (.nm 9) (.its (.str "abcdefghij")) .nopart (.tup (.cons (.bin .Add true (.str "name") (.var 9)) (.cons (.tup (.cons (.str "nothing") .nil)) (.cons (.int 0) .nil))))))
    (.seq (.asg (.nm 5) (.bin .Add true (.var 5) (.lst true (.cons (.tup (.cons (.var 7) (.cons (.var 6) .nil))) (.cons (.tup (.cons (.var 7) (.cons (.bin .Add true (.sli true (.var 8) .nopart (.part (.int 8))) (.lst true (.cons (.idx (.var 8) (.int 0)) .nil))) .nil))) (.cons (.tup (.cons (.var 7) (.cons .emp .nil))) (.cons (.tup (.cons (.str "Left") (.cons (.var 8) .nil))) (.cons (.tup .nil) .nil))))))))
    (.seq (.ret (.idx (.bin .Add true (.var 5) (.lst true (.cons (.tup (.cons (.lst true (.cons (.str "left") .nil)) (.cons (.var 8) .nil))) (.cons (.tup (.cons .emp (.cons (.var 8) .nil))) (.cons (.tup (.cons (.tup (.cons (.var 7) .nil)) (.cons (.var 8) .nil))) .nil))))) (.bin .Mod true (.bin .FloorDiv true (.var 1) (.int 7)) (.int 23))))
    .nil)))))))))⟩
/- script=0 g=1 k=2 deep=3 many=4 thing=5 cell=6 at=7 state=8 bad=9 told=10 -/
def b_law : Fn := ⟨1, 11,
    (.seq (.asg (.nm 1) (.call f_law_grammar (.cons (.var 0) (.cons (.int 2) (.cons (.int 12) .nil)))))
    (.seq (.ife (.or (.cmp .Is (.call f_is_grammar (.cons (.var 1) .nil)) (.bl false)) (.or (.not (.isi (.call f_is_grammar (.cons (.var 1) .nil)) .bool_)) (.cmp .NotEq (.var 1) (.call f_law_grammar (.cons (.var 0) (.cons (.int 2) (.cons (.int 12) .nil))))))) (.seq (.ret (.bl false))
    .nil) .nil)
    (.seq (.each (.nm 2) (.it2 (.int 14) (.bi .max_ true (.cons (.int 18) (.cons (.bi .min_ true (.cons (.int 63) (.cons (.bi .len true (.cons (.var 0) .nil)) .nil))) .nil)))) (.seq (.asg (.nm 6) (.call f_law_cell (.cons (.var 0) (.cons (.var 2) .nil))))
    (.seq (.asg (.nm 7) (.bin .Mod true (.var 6) (.bi .len true (.cons (.var 1) .nil))))
    (.seq (.asg (.nm 8) (.idx (.var 1) (.var 7)))
    (.seq (.ife (.cmp .Eq (.var 8) (.tup (.cons (.str "end") .nil))) (.seq (.asg (.nm 8) (.tup (.cons (.str "left") (.cons (.lst true (.cons (.tup (.cons (.str "ab") (.cons (.tup (.cons (.str "nothing") .nil)) (.cons (.int 0) .nil)))) (.cons (.tup (.cons (.str "b") (.cons (.tup (.cons (.str "text") (.cons (.int 3) .nil))) (.cons (.var 7) .nil)))) .nil))) .nil))))
    .nil) .nil)
    (.seq (.asg (.nm 9) (.bi .list_ false (.cons (.var 1) .nil)))
    (.seq (.sub (.var 9) (.var 7) (.call f_law_odd_state (.cons (.var 8) (.cons (.bin .Mod true (.bin .FloorDiv true (.var 6) (.int 30)) (.bin .Pow true (.int 10) (.int 40))) (.cons (.bi .len true (.cons (.var 1) .nil)) .nil)))))
    (.seq (.asg (.nm 10) (.call f_is_grammar (.cons (.var 9) .nil)))
    (.seq (.ife (.or (.var 10) (.not (.isi (.var 10) .bool_))) (.seq (.ret (.bl false))
    .nil) .nil)
    .nil)))))))))
    (.seq (.asg (.nm 3) (.tup (.cons (.str "nothing") .nil)))
    (.seq (.each (.nm 2) (.it1 (.int 5)) (.seq (.asg (.nm 3) (.tup (.cons (.str "pair") (.cons (.tup (.cons (.str "number") (.cons (.bin .Sub true (.int 1) (.bin .Pow true (.int 10) (.int 18))) (.cons (.bin .Sub true (.bin .Pow true (.int 10) (.int 18)) (.int 1)) .nil)))) (.cons (.var 3) .nil)))))
    .nil))
    (.seq (.ife (.not (.call f_is_grammar (.cons (.comp true [2] (.nm 2) (.it1 (.int 30)) .nopart (.tup (.cons (.idx (.lst true (.cons (.str "left") (.cons (.str "right") .nil))) (.bin .Mod true (.var 2) (.int 2))) (.cons (.lst true (.cons (.tup (.cons (.str "abcdefgh") (.cons (.var 3) (.cons (.bin .Mod true (.bin .Add true (.var 2) (.int 1)) (.int 30)) .nil)))) .nil)) .nil)))) .nil))) (.seq (.ret (.bl false))
    .nil) .nil)
    (.seq (.each (.nm 4) (.it1 (.int 33)) (.seq (.asg (.nm 10) (.call f_is_grammar (.cons (.bin .Mult true (.lst true (.cons (.tup (.cons (.str "end") .nil)) .nil)) (.var 4)) .nil)))
    (.seq (.ife (.or (.not (.isi (.var 10) .bool_)) (.cmp .NotEq (.var 10) (.ch2 .Lt .Lt (.int 0) (.var 4) (.int 31)))) (.seq (.ret (.bl false))
    .nil) .nil)
    .nil)))
    (.seq (.each (.nm 5) (.itl (.lst true (.cons .non (.cons (.bl true) (.cons (.int 0) (.cons (.str "end") (.cons (.tup (.cons (.str "end") .nil)) (.cons (.tup (.cons (.tup (.cons (.str "end") .nil)) .nil)) (.cons .emp (.cons (.lst true (.cons .non .nil)) (.cons (.lst true (.cons (.var 1) .nil)) (.cons (.bi .tuple_ true (.cons (.var 1) .nil)) (.cons (.lst true (.cons (.tup (.cons (.str "end") .nil)) (.cons (.lst true (.cons (.str "end") .nil)) .nil))) (.cons (.lst true (.cons (.tup .nil) .nil)) .nil)))))))))))))) (.seq (.asg (.nm 10) (.call f_is_grammar (.cons (.var 5) .nil)))
    (.seq (.ife (.or (.var 10) (.not (.isi (.var 10) .bool_))) (.seq (.ret (.bl false))
    .nil) .nil)
    .nil)))
    (.seq (.ret (.bl true))
    .nil)))))))))⟩
def tab : Nat → Option Fn
  | 0 => some b_is_whole
  | 1 => some b_is_most
  | 2 => some b_are_bounds
  | 3 => some b_within
  | 4 => some b_is_shape
  | 5 => some b_is_name
  | 6 => some b_is_number_of
  | 7 => some b_is_word
  | 8 => some b_is_state
  | 9 => some b_is_grammar
  | 10 => some b_law_cell
  | 11 => some b_law_state
  | 12 => some b_law_take
  | 13 => some b_law_shape
  | 14 => some b_law_names
  | 15 => some b_law_grammar
  | 16 => some b_law_odd_shape
  | 17 => some b_law_odd_word
  | 18 => some b_law_odd_state
  | 19 => some b_law
  | _ => none
end Wp

/-! WpL: rules for trees: calls, loops, comprehensions, plain data. -/
namespace Wp
open PySem
theorem mon_run (T : Nat → Option Fn) (k : Nat) : MonR (run T k) (run T k) := run_mono T k k (Nat.le_refl _)
/-- a call: from what is known of it -/
theorem run_use {T : Nat → Option Fn} {n k f : Nat} {ds : List D} {M : Mem} {P Q : QK} {E : XQ} (h : run T n f ds M P fun _ _ => False) (hk : n ≤ k) (hq : ∀ d M', P d M' → Q d M') : run T k f ds M Q E :=
  run_mono T n k hk f ds M P Q _ E hq (fun _ _ z => z.elim) h
/-- a call that gives a thing and leaves the memory -/
theorem run_is {T : Nat → Option Fn} {n k f : Nat} {ds : List D} {M : Mem} {v : D} {Q : QK} {E : XQ} (h : run T n f ds M (fun d M' => d = v ∧ M' = M) fun _ _ => False) (hk : n ≤ k) (hq : Q v M) : run T k f ds M Q E :=
  run_use h hk fun d M' z => by rw [z.1, z.2]; exact hq
/-- a def's body -/
theorem run_in {T : Nat → Option Fn} {k f : Nat} {fn : Fn} {ds : List D} {M : Mem} {Q : QK} {E : XQ} (hT : T f = some fn) (hl : ds.length = fn.np)
    (h : wpS (run T k) fn.body ⟨fun _ M1 => Frz .non M1 Q, fun x M1 => Frz x M1 Q, fun _ _ => False, fun _ _ => False, fun z _ M1 => E z M1⟩ (start fn ds) M) : run T (k + 1) f ds M Q E := by
  unfold run
  rw [hT]
  exact ⟨hl, h⟩

/-! ### loops -/
theorem each_inv {T : Nat → Option Fn} {k : Nat} {s : Sx} {tg : Tg} {still : Mem → Prop} {N : Ends} (I : List D → Env → Mem → Prop)
    (hs : ∀ d ds env M, I (d :: ds) env M → still M ∧ tgW tg d env fun e => wpS (run T k) s { N with nx := I ds, ct := I ds, bk := N.nx } e M)
    (he : ∀ env M, I [] env M → still M ∧ N.nx env M) : ∀ (ds : List D) (env : Env) (M : Mem), I ds env M → eachW (wpS (run T k) s) tg still N ds env M
  | [], env, M, h => he env M h
  | d :: ds, env, M, h => by
    obtain ⟨h1, h2⟩ := hs d ds env M h
    refine ⟨h1, tgW_mono tg (fun e q => monS (mon_run T k) s (N := { N with nx := I ds, ct := I ds, bk := N.nx }) ⟨fun e M q => ?_, fun _ _ q => q, fun _ _ q => q, fun e M q => ?_, fun _ _ _ q => q⟩ q) h2⟩
    · exact each_inv I hs he ds e M q
    · exact each_inv I hs he ds e M q
/-- a while loop: n turns are enough -/
theorem loop_inv {T : Nat → Option Fn} {k : Nat} {s : Sx} {test : Env → Mem → BK → Prop} {N : Ends} (ht : ∀ e M q q', (∀ c M, q c M → q' c M) → test e M q → test e M q') (I : Nat → Env → Mem → Prop)
    (hs : ∀ n env M, I n env M → test env M fun c M1 => match c with
      | true => ∃ m, m < n ∧ wpS (run T k) s { N with nx := I m, ct := I m, bk := N.nx } env M1
      | false => N.nx env M1) : ∀ (n j : Nat) (env : Env) (M : Mem), I j env M → j < n → loopW test (wpS (run T k) s) N n env M
  | 0, j, env, M, h, hj => absurd hj (Nat.not_lt_zero _)
  | n + 1, j, env, M, h, hj => by
    unfold loopW
    refine ht _ _ _ _ (fun c M1 q => ?_) (hs j env M h)
    cases c with
    | false => exact q
    | true =>
      obtain ⟨m, hm, q⟩ := q
      exact monS (mon_run T k) s (N := { N with nx := I m, ct := I m, bk := N.nx }) ⟨fun e M q => loop_inv ht I hs n m e M q (by omega), fun _ _ q => q, fun _ _ q => q, fun e M q => loop_inv ht I hs n m e M q (by omega), fun _ _ _ q => q⟩ q

/-! ### comprehensions -/
abbrev stepC (R : Nat → List D → Mem → QK → XQ → Prop) (tg : Tg) (cond elt : Ex) : D → Env → Mem → (Option D → Mem → Prop) → Prop := fun d e M Q => tgW tg d e fun e' => wpC R cond e' M (fun b M1 => match b with
        | true => wpE R elt e' M1 (fun y M2 => Q (some y) M2) fun _ _ => False
        | false => Q none M1) fun _ _ => False
theorem stepC_mono {T : Nat → Option Fn} {k : Nat} {tg : Tg} {cond elt : Ex} (d : D) (e : Env) (M : Mem) (P P' : Option D → Mem → Prop) (hp : ∀ o M, P o M → P' o M) (h : stepC (run T k) tg cond elt d e M P) : stepC (run T k) tg cond elt d e M P' :=
  tgW_mono tg (fun e' h => (mon _ _ (mon_run T k) cond).C (fun b M1 h => by
    cases b with
    | true => exact (mon _ _ (mon_run T k) elt).E (fun y M2 h => hp _ _ h) (fun _ _ z => z) h
    | false => exact hp _ _ h) (fun _ _ z => z) h) h
theorem comp_inv {T : Nat → Option Fn} {k : Nat} {tg : Tg} {cond elt : Ex} {still : Mem → Prop} {env : Env} {Q : AK} (I : List D → List D → Mem → Prop)
    (hs : ∀ d ds acc M, I (d :: ds) acc M → still M ∧ stepC (run T k) tg cond elt d env M fun o M1 => match o with
      | some y => acc.length < sizeLine ∧ I ds (acc ++ [y]) M1
      | none => I ds acc M1)
    (he : ∀ acc M, I [] acc M → still M ∧ Q acc M) : ∀ (ds acc : List D) (M : Mem), I ds acc M → compW (stepC (run T k) tg cond elt) still env ds acc M Q
  | [], acc, M, h => he acc M h
  | d :: ds, acc, M, h => by
    obtain ⟨h1, h2⟩ := hs d ds acc M h
    refine ⟨h1, stepC_mono d env M _ _ (fun o M1 q => ?_) h2⟩
    cases o with
    | some y => exact ⟨q.1, comp_inv I hs he ds _ M1 q.2⟩
    | none => exact comp_inv I hs he ds _ M1 q
/-- .. that leaves the memory -/
theorem comp_is {step : D → Env → Mem → (Option D → Mem → Prop) → Prop} {still : Mem → Prop} {env : Env} {M : Mem} {Q : AK} (f : D → Option D) (hst : still M) : ∀ (ds acc : List D),
    (∀ d ∈ ds, ∀ P : Option D → Mem → Prop, P (f d) M → step d env M P) → acc.length + ds.length ≤ sizeLine → Q (acc ++ ds.filterMap f) M → compW step still env ds acc M Q
  | [], acc, _, _, q => ⟨hst, by rw [List.filterMap_nil, List.append_nil] at q; exact q⟩
  | d :: ds, acc, hs, hl, q => by
    rw [List.length_cons] at hl
    refine ⟨hst, hs d (List.mem_cons_self ..) _ ?_⟩
    rw [List.filterMap_cons] at q
    cases e : f d with
    | none =>
      rw [e] at q
      exact comp_is f hst ds acc (fun d hd => hs d (List.mem_cons_of_mem _ hd)) (by omega) q
    | some y =>
      rw [e] at q
      exact ⟨by omega, comp_is f hst ds (acc ++ [y]) (fun d hd => hs d (List.mem_cons_of_mem _ hd)) (by rw [List.length_append, List.length_cons, List.length_nil]; omega) (by rw [List.append_assoc]; exact q)⟩

/-! ### memory -/
theorem Mem.upd_same {M : Mem} {a : Addr} {o : Ob} : M.upd a o a = some o := if_pos rfl
theorem Mem.upd_ne {M : Mem} {a b : Addr} {o : Ob} (h : b ≠ a) : M.upd a o b = M b := if_neg h
theorem Mem.del_ne {M : Mem} {a b : Addr} (h : b ≠ a) : M.del a b = M b := if_neg h
theorem Mem.upd_del {M : Mem} {a : Addr} {o : Ob} (h : M a = none) : (M.upd a o).del a = M := funext fun b => by
  by_cases e : b = a
  · subst e; unfold Mem.del; rw [if_pos rfl, h]
  · rw [Mem.del_ne e, Mem.upd_ne e]
theorem Mem.upd_upd {M : Mem} {a : Addr} {o o' : Ob} : (M.upd a o).upd a o' = M.upd a o' := funext fun b => by
  by_cases e : b = a
  · subst e; rw [Mem.upd_same, Mem.upd_same]
  · rw [Mem.upd_ne e, Mem.upd_ne e, Mem.upd_ne e]
theorem Mem.fresh_ne {M : Mem} {a p : Addr} {o : Ob} (h : M a = some o) (hp : M p = none) : a ≠ p := fun e => by rw [e, hp] at h; cases h

/-! ### lists set beside [] -/
theorem eq_nil {l : List D} {M : Mem} {Q : QK} (h : Q (.bl l.isEmpty) M) : eqW false (.lst l) (.lst []) M Q := by
  unfold eqW
  rw [show eqA (.lst l) (.lst []) = none from rfl]
  dsimp only
  unfold eqL
  cases l with
  | nil =>
    refine ⟨by decide, by decide, ?_⟩
    exact h
  | cons a b =>
    exact h
theorem ne_nil {l : List D} {M : Mem} {Q : QK} (h : Q (.bl (!l.isEmpty)) M) : eqW true (.lst l) (.lst []) M Q := by
  unfold eqW
  rw [show eqA (.lst l) (.lst []) = none from rfl]
  dsimp only
  unfold eqL
  cases l with
  | nil =>
    refine ⟨by decide, by decide, ?_⟩
    exact h
  | cons a b =>
    exact h
end Wp
namespace Wp
open PySem
theorem bl_no {b : Bool} (h1 : D.bl b = .bl true → False) (h2 : D.bl b = .bl false → False) : False := by
  cases b
  · exact h2 rfl
  · exact h1 rfl
theorem bl_is {b c : Bool} (h : D.bl b = .bl c) : b = c := by
  cases h; rfl
end Wp
namespace Wp
open PySem
theorem asS_loc {M : Mem} {a : Addr} {ds : List D} (h : M a = some (.lst ds)) : asS M (.loc a) = some ds := by
  show (match M a with
    | some (.lst ds) => some ds
    | _ => none) = _
  rw [h]
theorem asL_loc {M : Mem} {a : Addr} {ds : List D} (h : M a = some (.lst ds)) : asL M (.loc a) = some ds := asS_loc h
theorem asLT_loc {M : Mem} {a : Addr} {ds : List D} (h : M a = some (.lst ds)) : asLT M (.loc a) = some ds := by
  show (match M a with
    | some (.lst ds) => some ds
    | _ => none) = _
  rw [h]
theorem ixN_in {n : Nat} {i : Int} (h0 : 0 ≤ i) (h1 : i < n) : ixN n i = some i.toNat := by
  unfold ixN
  rw [if_pos h0, if_pos h1]
theorem atI_in {α : Type} {xs : List α} {i : Int} (h0 : 0 ≤ i) (h1 : i < xs.length) : ∃ x, xs[i.toNat]? = some x ∧ atI xs i = some x := by
  have h : i.toNat < xs.length := by omega
  refine ⟨xs[i.toNat], List.getElem?_eq_getElem h, ?_⟩
  unfold atI
  rw [ixN_in h0 h1]
  exact List.getElem?_eq_getElem h
theorem put_loc {M : Mem} {a : Addr} {xs ys : List D} {k : Int} {v : D} {Q : Mem → Prop} (h : M a = some (.lst xs)) (h0 : 0 ≤ k) (h1 : k < xs.length) (e : xs.set k.toNat v = ys) (q : Q (M.upd a (.lst ys))) : putW (.loc a) (.int k) v M Q := by
  subst e
  show (match M a with
    | some (.lst xs) => match ixN xs.length k with
      | some j => Q (M.upd a (.lst (xs.set j v)))
      | none => False
    | _ => False)
  rw [h]
  show (match ixN xs.length k with
      | some j => Q (M.upd a (.lst (xs.set j v)))
      | none => False)
  rw [ixN_in h0 h1]
  exact q
end Wp
namespace Wp
open PySem
theorem log2_small {n : Nat} (h : n < 2 ^ 200) : n.log2 < 200 := by
  by_cases e : n = 0
  · rw [e]; decide
  · exact (Nat.log2_lt e).mpr h
theorem mul_ok {i j : Int} (h1 : i.natAbs < 2 ^ 200) (h2 : j.natAbs < 2 ^ 200) : mulOk i j := by
  have a := log2_small h1
  have b := log2_small h2
  unfold mulOk
  omega
end Wp
namespace Wp
open PySem
theorem eq_loc_nil {a : Addr} {l : List D} {M : Mem} {Q : QK} (e : M a = some (.lst l)) (h : Q (.bl l.isEmpty) M) : eqW false (.loc a) (.lst []) M Q := by
  unfold eqW
  rw [show eqA (.loc a) (.lst []) = none from rfl]
  dsimp only
  unfold eqL
  rw [asL_loc e]
  cases l with
  | nil =>
    show eqP _ _ _ _ _
    unfold eqP toPyM toPy1
    dsimp only
    rw [e]
    exact ⟨by decide, by decide, h⟩
  | cons x xs => exact h
theorem ne_loc_nil {a : Addr} {l : List D} {M : Mem} {Q : QK} (e : M a = some (.lst l)) (h : Q (.bl (!l.isEmpty)) M) : eqW true (.loc a) (.lst []) M Q := by
  unfold eqW
  rw [show eqA (.loc a) (.lst []) = none from rfl]
  dsimp only
  unfold eqL
  rw [asL_loc e]
  cases l with
  | nil =>
    show eqP _ _ _ _ _
    unfold eqP toPyM toPy1
    dsimp only
    rw [e]
    exact ⟨by decide, by decide, h⟩
  | cons x xs => exact h
theorem cut_len {α : Type} (xs : List α) (lo hi : Option Int) : (cut xs lo hi).length ≤ xs.length := by
  unfold cut
  rw [List.length_take, List.length_drop]
  omega
theorem cut_map {α β : Type} (f : α → β) (xs : List α) (lo hi : Option Int) : cut (xs.map f) lo hi = (cut xs lo hi).map f := by
  unfold cut
  rw [List.map_take, List.map_drop, List.length_map]
end Wp
namespace Wp
open PySem
/-- a length that is written out -/
theorem lok {n : Nat} (h : Nat.ble n sizeLine = true) : n ≤ sizeLine := Nat.le_of_ble_eq_true h
end Wp
namespace Wp
open PySem
theorem atI_mem {α : Type} {xs : List α} {i : Int} (h0 : 0 ≤ i) (h1 : i < xs.length) : ∃ x, x ∈ xs ∧ atI xs i = some x := by
  obtain ⟨x, e1, e2⟩ := atI_in h0 h1
  exact ⟨x, List.mem_of_getElem? e1, e2⟩
end Wp
namespace Wp
theorem all_nil {α : Type} {P : α → Prop} : ∀ x ∈ ([] : List α), P x := fun x h => by cases h
theorem all_cons {α : Type} {P : α → Prop} {a : α} {l : List α} (h : P a) (t : ∀ x ∈ l, P x) : ∀ x ∈ a :: l, P x := fun x hx => by
  cases hx with
  | head => exact h
  | tail _ hx => exact t x hx
theorem all_app {α : Type} {P : α → Prop} {k l : List α} (h : ∀ x ∈ k, P x) (t : ∀ x ∈ l, P x) : ∀ x ∈ k ++ l, P x := fun x hx => by
  rcases List.mem_append.mp hx with hx | hx
  · exact h x hx
  · exact t x hx
end Wp
namespace Wp
open PySem
def bmL : Bm → Bool
  | .append => true
  | .extend => true
  | .index => true
  | .pop => true
  | .reverse_ => true
  | .clear => true
  | .insert => true
  | _ => false
theorem rcv_loc {b : Bm} {M : Mem} {a : Addr} {ds : List D} (hb : bmL b = true) (h : M a = some (.lst ds)) : rcvW b (.loc a) M := by
  unfold rcvW
  cases b <;> first | (cases hb; done) | (show (asL M (.loc a)).isSome = true; rw [asL_loc h]; rfl)
theorem append_loc {fr : Bool} {M : Mem} {a : Addr} {xs : List D} {y : D} {Q : QK} (h : M a = some (.lst xs)) (hl : xs.length < sizeLine) (q : Q .non (M.upd a (.lst (xs ++ [y])))) : bmW .append fr (.loc a) [y] M Q := by
  show (match M a with
    | some (.lst xs) => xs.length < sizeLine ∧ Q .non (M.upd a (.lst (xs ++ [y])))
    | _ => False)
  rw [h]
  exact ⟨hl, q⟩
theorem newL_fz {ds : List D} {M : Mem} {Q : QK} (hl : ds.length ≤ sizeLine) (q : Q (.lst ds) M) : newL true ds M Q := ⟨hl, q⟩
theorem newL_at {ds : List D} {M : Mem} {Q : QK} (hl : ds.length ≤ sizeLine) (q : ∀ p, M p = none → Q (.loc p) (M.upd p (.lst ds))) : newL false ds M Q := ⟨hl, q⟩
end Wp

/-! PwShapes: shapes and what fits them, plain. -/
namespace Wp
open PySem
inductive Sh where
  | nothing | number (lo hi : Int) | text (m : Int) | list (s : Sh) (m : Int) | pair (a b : Sh) | choice (ss : List Sh)
mutual
def Sh.d : Sh → D
  | .nothing => .tup [.str "nothing"]
  | .number lo hi => .tup [.str "number", .int lo, .int hi]
  | .text m => .tup [.str "text", .int m]
  | .list s m => .tup [.str "list", s.d, .int m]
  | .pair a b => .tup [.str "pair", a.d, b.d]
  | .choice ss => .tup [.str "choice", .tup (Sh.ds ss)]
def Sh.ds : List Sh → List D
  | [] => []
  | s :: ss => s.d :: Sh.ds ss
end
mutual
/-- how deep calls go -/
def Sh.lev : Sh → Nat
  | .nothing => 1
  | .number _ _ => 2
  | .text _ => 2
  | .list s _ => s.lev + 2
  | .pair a b => a.lev + b.lev + 2
  | .choice ss => Sh.levs ss + 2
def Sh.levs : List Sh → Nat
  | [] => 0
  | s :: ss => s.lev + Sh.levs ss
end
theorem Sh.ds_len : ∀ ss, (Sh.ds ss).length = ss.length
  | [] => rfl
  | s :: ss => congrArg Nat.succ (Sh.ds_len ss)
mutual
/-- a tree without places, of fitting sizes -/
def okD : D → Bool
  | .non => true
  | .bl _ => true
  | .int _ => true
  | .str z => decide (z.length ≤ sizeLine)
  | .tup ds => decide (ds.length ≤ sizeLine) && okDs ds
  | .lst ds => decide (ds.length ≤ sizeLine) && okDs ds
  | .scr ns => decide (ns.length ≤ sizeLine)
  | .emp => true
  | .loc _ => false
def okDs : List D → Bool
  | [] => true
  | d :: ds => okD d && okDs ds
end
theorem okDs_of : ∀ {ds : List D}, okDs ds = true → ∀ d ∈ ds, okD d = true
  | [], _, d, hd => by cases hd
  | x :: ds, h, d, hd => by
    unfold okDs at h
    rw [Bool.and_eq_true] at h
    cases hd with
    | head => exact h.1
    | tail _ hd => exact okDs_of h.2 d hd
theorem okDs_iff : ∀ {ds : List D}, (∀ d ∈ ds, okD d = true) → okDs ds = true
  | [], _ => rfl
  | x :: ds, h => by
    unfold okDs
    rw [Bool.and_eq_true]
    exact ⟨h x (List.mem_cons_self ..), okDs_iff fun d hd => h d (List.mem_cons_of_mem _ hd)⟩
def isW : D → Bool
  | .int _ => true
  | _ => false
def okSign (c : Nat) : Bool := decide (32 ≤ c) && decide (c ≤ 126) && decide (c ≠ 37)
def textB (m : Int) : D → Bool
  | .str z => decide ((z.length : Int) ≤ m) && z.cps.toList.all okSign
  | _ => false
/-- the things in a list -/
def itemsB : D → Option (List D)
  | .lst ds => some ds
  | .scr ns => some (ns.map .int)
  | _ => none
mutual
def fitsB : Sh → D → Bool
  | .nothing, t => match t with
    | .non => true
    | _ => false
  | .number lo hi, t => match t with
    | .int i => decide (lo ≤ i) && decide (i ≤ hi)
    | _ => false
  | .text m, t => textB m t
  | .list s m, t => match itemsB t with
    | some ds => decide ((ds.length : Int) ≤ m) && ds.all (fitsB s)
    | none => false
  | .pair a b, t => match t with
    | .tup [x, y] => fitsB a x && fitsB b y
    | _ => false
  | .choice ss, t => match t with
    | .tup [.str z, .int i, x] => decide (z = "of") && (decide (0 ≤ i) && fitsN ss i.toNat x)
    | _ => false
def fitsN : List Sh → Nat → D → Bool
  | [], _, _ => false
  | s :: _, 0, t => fitsB s t
  | _ :: ss, n + 1, t => fitsN ss n t
end
end Wp
namespace Wp
open PySem
mutual
theorem repD_ok {a : Addr} {xs : List D} : ∀ {d : D}, okD d = true → repD a xs d = d
  | .non, _ => rfl
  | .bl _, _ => rfl
  | .int _, _ => rfl
  | .str _, _ => rfl
  | .tup ds, h => by
    unfold okD at h
    rw [Bool.and_eq_true] at h
    exact congrArg D.tup (repDs_ok h.2)
  | .lst ds, h => by
    unfold okD at h
    rw [Bool.and_eq_true] at h
    exact congrArg D.lst (repDs_ok h.2)
  | .scr _, _ => rfl
  | .emp, _ => rfl
  | .loc _, h => by cases h
theorem repDs_ok {a : Addr} {xs : List D} : ∀ {ds : List D}, okDs ds = true → repDs a xs ds = ds
  | [], _ => rfl
  | d :: ds, h => by
    unfold okDs at h
    rw [Bool.and_eq_true] at h
    show repD a xs d :: repDs a xs ds = _
    rw [repD_ok h.1, repDs_ok h.2]
end
theorem repD_loc {a : Addr} {xs : List D} : repD a xs (.loc a) = .lst xs := if_pos rfl
/-- at a return: a list in the memory that the value does not hold is let go -/
theorem frz_drop {a : Addr} {xs : List D} {d : D} {M : Mem} {Q : QK} (h : M a = some (.lst xs)) (hd : okD d = true) (q : Frz d (M.del a) Q) : Frz d M Q :=
  .step h (by rw [repD_ok hd]; exact q)
theorem okD_lst {ds : List D} (h : ds.length ≤ sizeLine) (h2 : ∀ d ∈ ds, okD d = true) : okD (.lst ds) = true := by
  unfold okD
  rw [Bool.and_eq_true]
  exact ⟨decide_eq_true h, okDs_iff h2⟩
theorem okD_tp {ds : List D} (h : ds.length ≤ sizeLine) (h2 : ∀ d ∈ ds, okD d = true) : okD (.tup ds) = true := by
  unfold okD
  rw [Bool.and_eq_true]
  exact ⟨decide_eq_true h, okDs_iff h2⟩
end Wp

/-! PwText: texts, plain. -/
namespace Wp
open PySem
/-- all signs are such as a text may hold -/
def okT (z : Str) : Bool := z.cps.toList.all okSign
theorem app_cps (a b : Str) : (a ++ b).cps.toList = a.cps.toList ++ b.cps.toList := by
  show (a.cps ++ b.cps).toList = _
  rw [Array.toList_append]
theorem app_len (a b : Str) : (a ++ b).length = a.length + b.length := Array.size_append
theorem okT_app (a b : Str) : okT (a ++ b) = (okT a && okT b) := by
  unfold okT
  rw [app_cps, List.all_append]
theorem rep_len (z : Str) (n : Nat) : (repS z n).length = z.length * n := by
  show (List.replicate n z.cps.toList).flatten.toArray.size = _
  rw [List.size_toArray, PyProof.Rows.lm_len_rep_flat, Array.length_toList, Nat.mul_comm]
  rfl
theorem okT_rep (z : Str) (h : okT z = true) (n : Nat) : okT (repS z n) = true := by
  show ((List.replicate n z.cps.toList).flatten).all okSign = true
  rw [List.all_eq_true]
  intro x hx
  obtain ⟨l, hl, hx⟩ := List.mem_flatten.mp hx
  rw [(List.mem_replicate.mp hl).2] at hx
  exact List.all_eq_true.mp h x hx
theorem okT_rep_not (z : Str) (h : okT z = false) {n : Nat} (hn : 0 < n) : okT (repS z n) = false := by
  show ((List.replicate n z.cps.toList).flatten).all okSign = false
  match n, hn with
  | n + 1, _ =>
    rw [List.replicate_succ, List.flatten_cons, List.all_append]
    rw [show z.cps.toList.all okSign = false from h]
    rfl
theorem cut_mem {α : Type} {xs : List α} {lo hi : Option Int} {x : α} (h : x ∈ cut xs lo hi) : x ∈ xs := by
  unfold cut at h
  exact List.mem_of_mem_drop (List.mem_of_mem_take h)
theorem cut_to {α : Type} (xs : List α) {i : Int} (h : 0 ≤ i) : cut xs none (some i) = xs.take i.toNat := by
  unfold cut slN
  simp only [Nat.sub_zero, List.drop_zero]
  rw [if_neg (by omega)]
  by_cases e : i.toNat ≤ xs.length
  · rw [Nat.min_eq_left e]
  · rw [Nat.min_eq_right (by omega), List.take_of_length_le (by omega), List.take_of_length_le (by omega)]
theorem fits_text_good {z : Str} {m : Int} (h1 : (z.length : Int) ≤ m) (h2 : okT z = true) : fitsB (.text m) (.str z) = true := by
  show (decide ((z.length : Int) ≤ m) && okT z) = true
  rw [decide_eq_true h1, h2]; rfl
theorem fits_text_long {z : Str} {m : Int} (h1 : m < (z.length : Int)) : fitsB (.text m) (.str z) = false := by
  show (decide ((z.length : Int) ≤ m) && okT z) = false
  rw [decide_eq_false (by omega)]; rfl
theorem fits_text_odd {z : Str} {m : Int} (h2 : okT z = false) : fitsB (.text m) (.str z) = false := by
  show (decide ((z.length : Int) ≤ m) && okT z) = false
  rw [h2, Bool.and_false]
end Wp

/-! PfShape: is_most, are_bounds, within. -/
namespace Wp
open PySem
def isMostB : D → Bool
  | .int i => decide (0 ≤ i) && decide (i ≤ 250)
  | _ => false
def boundsB : D → D → Bool
  | .int a, .int b => decide (-1000000000000000000 < a) && (decide (a ≤ b) && decide (b < 1000000000000000000))
  | _, _ => false
def choiceB : D → Option (List D)
  | .tup ds => if decide (1 ≤ ds.length) && decide (ds.length ≤ 9) then some ds else none
  | _ => none
/-- the shapes within, if it may be a shape -/
def partsN (z : Str) : List D → Option (List D)
  | [] => if z = "nothing" then some [] else none
  | [a] => if z = "text" then (if isMostB a then some [] else none) else if z = "choice" then choiceB a else none
  | [a, b] => if z = "number" then (if boundsB a b then some [] else none) else if z = "list" then (if isMostB b then some [a] else none) else if z = "pair" then some [a, b] else none
  | _ => none
def partsB : D → Option (List D)
  | .tup (.str z :: ds) => partsN z ds
  | _ => none
def optT : Option (List D) → D
  | some ps => .tup ps
  | none => .non
theorem w_is_whole {d : D} {M : Mem} (hm : okD d = true) : run tab 1 f_is_whole [d] M (fun v M' => v = .bl (isW d) ∧ M' = M) fun _ _ => False := by
  refine run_in rfl rfl ?_
  cases d
  case loc a => cases hm
  all_goals
    conv => whnf
    exact .done ⟨rfl, rfl⟩
theorem r_is_most {d : D} {M : Mem} (hm : okD d = true) (k : Nat) (hk : 2 ≤ k) : run tab k f_is_most [d] M (fun v M' => v = .bl (isMostB d) ∧ M' = M) fun _ _ => False := by
  obtain ⟨k, rfl⟩ : ∃ j, k = j + 1 := ⟨k - 1, by omega⟩
  refine run_in rfl rfl ?_
  conv => whnf
  refine run_is (w_is_whole hm) (by omega) ?_
  cases d
  case loc a => cases hm
  case int i =>
    conv => whnf
    split
    · rename_i h1
      have h1 := bl_is h1
      conv => whnf
      refine .done ⟨?_, rfl⟩
      show _ = D.bl (decide (0 ≤ i) && decide (i ≤ 250))
      rw [h1]; rfl
    · rename_i h1
      have h1 := bl_is h1
      conv => whnf
      refine .done ⟨?_, rfl⟩
      show _ = D.bl (decide (0 ≤ i) && decide (i ≤ 250))
      rw [h1]; rfl
    · rename_i h1 h2
      exact (bl_no h1 h2).elim
  all_goals
    conv => whnf
    exact .done ⟨rfl, rfl⟩
theorem r_are_bounds {a b : D} {M : Mem} (ha : okD a = true) (hb : okD b = true) (k : Nat) (hk : 2 ≤ k) : run tab k f_are_bounds [a, b] M (fun v M' => v = .bl (boundsB a b) ∧ M' = M) fun _ _ => False := by
  obtain ⟨k, rfl⟩ : ∃ j, k = j + 1 := ⟨k - 1, by omega⟩
  refine run_in rfl rfl ?_
  conv => whnf
  refine run_is (w_is_whole ha) (by omega) ?_
  cases a
  case loc a => cases ha
  case int i =>
    conv => whnf
    refine run_is (w_is_whole hb) (by omega) ?_
    cases b
    case loc a => cases hb
    case int j =>
      conv => whnf
      split
      · rename_i h1
        have h1 : decide (-1000000000000000000 < i) = true := h1
        conv => whnf
        split
        · rename_i h2
          have h2 : decide (i ≤ j) = true := by
            cases q : decide (i ≤ j) with
            | true => rfl
            | false => exact absurd h2 (by first | (rw [q]; decide) | (intro h; rw [q] at h; cases h))
          conv => whnf
          refine .done ⟨?_, rfl⟩
          show _ = D.bl (decide (-1000000000000000000 < i) && (decide (i ≤ j) && decide (j < 1000000000000000000)))
          rw [h1, h2]; rfl
        · rename_i h2
          have h2 : decide (i ≤ j) = false := by
            cases q : decide (i ≤ j) with
            | false => rfl
            | true => exact absurd h2 (by first | (rw [q]; decide) | (intro h; rw [q] at h; cases h))
          conv => whnf
          refine .done ⟨?_, rfl⟩
          show _ = D.bl (decide (-1000000000000000000 < i) && (decide (i ≤ j) && decide (j < 1000000000000000000)))
          rw [h1, h2]; rfl
      · rename_i h1
        have h1 : decide (-1000000000000000000 < i) = false := h1
        conv => whnf
        refine .done ⟨?_, rfl⟩
        show D.bl (decide (-1000000000000000000 < i)) = D.bl (decide (-1000000000000000000 < i) && (decide (i ≤ j) && decide (j < 1000000000000000000)))
        rw [h1]; rfl
    all_goals
      conv => whnf
      exact .done ⟨rfl, rfl⟩
  all_goals
    conv => whnf
    exact .done ⟨rfl, rfl⟩
theorem atI_head {α : Type} {x : α} {xs : List α} : atI (x :: xs) 0 = some x := by
  unfold atI
  rw [ixN_in (by decide) (by rw [List.length_cons]; omega)]
  rfl
set_option maxHeartbeats 0 in
theorem r_within {t : D} {M : Mem} (ht : okD t = true) (k : Nat) (hk : 3 ≤ k) : run tab k f_within [t] M (fun v M' => v = optT (partsB t) ∧ M' = M) fun _ _ => False := by
  obtain ⟨k, rfl⟩ : ∃ j, k = j + 1 := ⟨k - 1, by omega⟩
  refine run_in rfl rfl ?_
  cases t
  case loc a => cases ht
  case tup ds =>
    have hds := ht
    unfold okD at hds
    rw [Bool.and_eq_true] at hds
    have hok := okDs_of hds.2
    conv => whnf
    refine ⟨lok rfl, ?_⟩
    match ds, hok with
    | [], _ =>
      conv => whnf
      refine ⟨by decide, by decide, ?_⟩
      conv => whnf
      exact .done ⟨rfl, rfl⟩
    | x :: rest, hok =>
      cases x
      case loc a => cases hok (.loc a) (by simp)
      case str z =>
        by_cases e1 : z = "nothing"
        · subst e1
          match rest, hok with
          | [], _ =>
            conv => whnf
            refine ⟨lok rfl, ?_⟩
            conv => whnf
            exact .done ⟨rfl, rfl⟩
          | [a], _ =>
            conv => whnf
            exact .done ⟨rfl, rfl⟩
          | [a, b], _ =>
            conv => whnf
            exact .done ⟨rfl, rfl⟩
          | a :: b :: c :: r, _ =>
            conv => whnf
            rw [atI_head]
            conv => whnf
            rw [atI_head]
            conv => whnf
            exact .done ⟨rfl, rfl⟩
        by_cases e2 : z = "number"
        · subst e2
          match rest, hok with
          | [], _ =>
            conv => whnf
            exact .done ⟨rfl, rfl⟩
          | [a], _ =>
            conv => whnf
            exact .done ⟨rfl, rfl⟩
          | [a, b], hok =>
            conv => whnf
            refine run_is (r_are_bounds (hok a (by simp)) (hok b (by simp)) k (by omega)) (Nat.le_refl _) ?_
            cases q : boundsB a b
            · conv => whnf
              refine .done ⟨?_, rfl⟩
              show _ = optT (if boundsB a b then some [] else none)
              rw [q]; rfl
            · conv => whnf
              refine ⟨lok rfl, ?_⟩
              conv => whnf
              refine .done ⟨?_, rfl⟩
              show _ = optT (if boundsB a b then some [] else none)
              rw [q]; rfl
          | a :: b :: c :: r, _ =>
            conv => whnf
            rw [atI_head]
            conv => whnf
            rw [atI_head]
            conv => whnf
            exact .done ⟨rfl, rfl⟩
        by_cases e3 : z = "text"
        · subst e3
          match rest, hok with
          | [], _ =>
            conv => whnf
            exact .done ⟨rfl, rfl⟩
          | [a], hok =>
            conv => whnf
            refine run_is (r_is_most (hok a (by simp)) k (by omega)) (Nat.le_refl _) ?_
            cases q : isMostB a
            · conv => whnf
              refine .done ⟨?_, rfl⟩
              show _ = optT (if isMostB a then some [] else none)
              rw [q]; rfl
            · conv => whnf
              refine ⟨lok rfl, ?_⟩
              conv => whnf
              refine .done ⟨?_, rfl⟩
              show _ = optT (if isMostB a then some [] else none)
              rw [q]; rfl
          | [a, b], _ =>
            conv => whnf
            exact .done ⟨rfl, rfl⟩
          | a :: b :: c :: r, _ =>
            conv => whnf
            rw [atI_head]
            conv => whnf
            rw [atI_head]
            conv => whnf
            exact .done ⟨rfl, rfl⟩
        by_cases e4 : z = "list"
        · subst e4
          match rest, hok with
          | [], _ =>
            conv => whnf
            exact .done ⟨rfl, rfl⟩
          | [a], hok =>
            conv => whnf
            exact .done ⟨rfl, rfl⟩
          | [a, b], hok =>
            conv => whnf
            refine run_is (r_is_most (hok b (by simp)) k (by omega)) (Nat.le_refl _) ?_
            cases q : isMostB b
            · conv => whnf
              refine .done ⟨?_, rfl⟩
              show _ = optT (if isMostB b then some [a] else none)
              rw [q]; rfl
            · conv => whnf
              refine .done ⟨?_, rfl⟩
              show _ = optT (if isMostB b then some [a] else none)
              rw [q]; rfl
          | a :: b :: c :: r, _ =>
            conv => whnf
            rw [atI_head]
            conv => whnf
            rw [atI_head]
            conv => whnf
            exact .done ⟨rfl, rfl⟩
        by_cases e5 : z = "pair"
        · subst e5
          match rest, hok with
          | [], _ =>
            conv => whnf
            exact .done ⟨rfl, rfl⟩
          | [a], hok =>
            conv => whnf
            exact .done ⟨rfl, rfl⟩
          | [a, b], _ =>
            conv => whnf
            exact .done ⟨rfl, rfl⟩
          | a :: b :: c :: r, _ =>
            conv => whnf
            rw [atI_head]
            conv => whnf
            rw [atI_head]
            conv => whnf
            exact .done ⟨rfl, rfl⟩
        by_cases e6 : z = "choice"
        · subst e6
          match rest, hok with
          | [], _ =>
            conv => whnf
            exact .done ⟨rfl, rfl⟩
          | [a], hok =>
            have ha := hok a (by simp)
            cases a
            case loc a => cases ha
            case tup as =>
              conv => whnf
              split
              · rename_i h1
                have h1 : decide (1 ≤ as.length) = true := decide_eq_true (by have := of_decide_eq_true (bl_is h1); omega)
                conv => whnf
                split
                · rename_i h2
                  have h2 : decide (as.length ≤ 9) = true := by
                    cases q : decide ((as.length : Int) ≤ 9) with
                    | true => exact decide_eq_true (by have := of_decide_eq_true q; omega)
                    | false => exact absurd h2 (by first | (rw [q]; decide) | (intro h; rw [q] at h; cases h))
                  conv => whnf
                  refine .done ⟨?_, rfl⟩
                  show _ = optT (if decide (1 ≤ as.length) && decide (as.length ≤ 9) then some as else none)
                  rw [h1, h2]; rfl
                · rename_i h2
                  have h2 : decide (as.length ≤ 9) = false := by
                    cases q : decide ((as.length : Int) ≤ 9) with
                    | false => exact decide_eq_false (by have := of_decide_eq_false q; omega)
                    | true => exact absurd h2 (by first | (rw [q]; decide) | (intro h; rw [q] at h; cases h))
                  conv => whnf
                  refine .done ⟨?_, rfl⟩
                  show _ = optT (if decide (1 ≤ as.length) && decide (as.length ≤ 9) then some as else none)
                  rw [h1, h2]; rfl
              · rename_i h1
                have h1 : decide (1 ≤ as.length) = false := decide_eq_false (by have := of_decide_eq_false (bl_is h1); omega)
                conv => whnf
                refine .done ⟨?_, rfl⟩
                show _ = optT (if decide (1 ≤ as.length) && decide (as.length ≤ 9) then some as else none)
                rw [h1]; rfl
              · rename_i h1 h2
                exact (bl_no h1 h2).elim
            all_goals
              conv => whnf
              exact .done ⟨rfl, rfl⟩
          | [a, b], _ =>
            conv => whnf
            exact .done ⟨rfl, rfl⟩
          | a :: b :: c :: r, _ =>
            conv => whnf
            rw [atI_head]
            conv => whnf
            rw [atI_head]
            conv => whnf
            exact .done ⟨rfl, rfl⟩
        have goal : partsB (.tup (.str z :: rest)) = none := by
          show partsN z rest = none
          unfold partsN
          match rest with
          | [] => exact if_neg e1
          | [a] => dsimp only; rw [if_neg e3, if_neg e6]
          | [a, b] => dsimp only; rw [if_neg e2, if_neg e4, if_neg e5]
          | a :: b :: c :: r => rfl
        rw [goal]
        conv => whnf
        rw [atI_head]
        conv => whnf
        rw [atI_head]
        conv => whnf
        rw [decide_eq_false e1]
        conv => whnf
        rw [decide_eq_false e2]
        conv => whnf
        rw [decide_eq_false e3]
        conv => whnf
        rw [decide_eq_false e4]
        conv => whnf
        rw [decide_eq_false e5]
        conv => whnf
        rw [decide_eq_false e6]
        conv => whnf
        exact .done ⟨rfl, rfl⟩
      all_goals
        conv => whnf
        rw [atI_head]
        conv => whnf
        exact .done ⟨rfl, rfl⟩
  all_goals
    conv => whnf
    exact .done ⟨rfl, rfl⟩
end Wp

/-! PfIs: is_shape. -/
namespace Wp
open PySem
def oadd : Option Nat → Option Nat → Option Nat
  | some a, some b => some (a + b)
  | _, _ => none
theorem oadd_assoc (a b c : Option Nat) : oadd (oadd a b) c = oadd a (oadd b c) := by
  cases a <;> cases b <;> cases c <;> first | rfl | exact congrArg some (Nat.add_assoc _ _ _)
theorem oadd_comm (a b : Option Nat) : oadd a b = oadd b a := by
  cases a <;> cases b <;> first | rfl | exact congrArg some (Nat.add_comm _ _)
theorem oadd_zero (a : Option Nat) : oadd (some 0) a = a := by
  cases a <;> first | rfl | exact congrArg some (Nat.zero_add _)
/-- a sum, where each is there -/
def szs {α : Type} (f : α → Option Nat) : List α → Option Nat
  | [] => some 0
  | x :: xs => oadd (f x) (szs f xs)
theorem szs_cons {α : Type} {f : α → Option Nat} {x : α} {xs : List α} : szs f (x :: xs) = oadd (f x) (szs f xs) := rfl
/-- how many shapes a thing has, none deeper than so -/
def sz : Nat → D → Option Nat
  | 0, _ => none
  | k + 1, x => match partsB x with
    | none => none
    | some ps => oadd (some 1) (szs (sz k) ps)
theorem sz_none {k : Nat} {x : D} (h : partsB x = none) : sz k x = none := by
  cases k with
  | zero => rfl
  | succ k => unfold sz; rw [h]
theorem sz_some {k : Nat} {x : D} {ps : List D} (h : partsB x = some ps) : sz (k + 1) x = oadd (some 1) (szs (sz k) ps) := by
  rw [sz.eq_2, h]
def fin (n : Nat) : Option Nat → Bool
  | some c => decide (n + c ≤ 60)
  | none => false
def isSh (t : D) : Bool := fin 0 (sz 6 t)
theorem szs_app {α : Type} {f : α → Option Nat} : ∀ {xs ys : List α}, szs f (xs ++ ys) = oadd (szs f xs) (szs f ys)
  | [], ys => by
    rw [List.nil_append]
    exact (oadd_zero _).symm
  | x :: xs, ys => by
    rw [List.cons_append, szs_cons, szs_cons, szs_app, oadd_assoc]
theorem szs_map {α β : Type} {f : β → Option Nat} (g : α → β) : ∀ {xs : List α}, szs f (xs.map g) = szs (fun x => f (g x)) xs
  | [] => rfl
  | x :: xs => by
    rw [List.map_cons, szs_cons, szs_cons, szs_map g]
theorem oadd_some : ∀ {a b : Option Nat} {c : Nat}, oadd a b = some c → ∃ x y, a = some x ∧ b = some y ∧ c = x + y
  | some x, some y, c, h => ⟨x, y, rfl, rfl, by
    injection h with h
    exact h.symm⟩
  | none, some y, c, h => by cases h
  | none, none, c, h => by cases h
  | some x, none, c, h => by cases h
theorem sz_pos : ∀ {k : Nat} {x : D} {c : Nat}, sz k x = some c → 1 ≤ c
  | 0, x, c, h => by cases h
  | k + 1, x, c, h => by
    cases e : partsB x with
    | none => rw [sz_none e] at h; cases h
    | some ps =>
      rw [sz_some e] at h
      obtain ⟨a, b, h1, h2, rfl⟩ := oadd_some h
      cases h1
      omega
theorem szs_ge {α : Type} {f : α → Option Nat} (hf : ∀ x c, f x = some c → 1 ≤ c) : ∀ {xs : List α} {c : Nat}, szs f xs = some c → xs.length ≤ c
  | [], c, h => Nat.zero_le _
  | x :: xs, c, h => by
    rw [szs_cons] at h
    obtain ⟨a, b, h1, h2, rfl⟩ := oadd_some h
    have := szs_ge hf h2
    have := hf x a h1
    rw [List.length_cons]; omega
theorem partsN_mem {z : Str} {ds ps : List D} (h : partsN z ds = some ps) : (ps = [] ∨ ps = ds ∨ (∃ a b, ds = [a, b] ∧ ps = [a]) ∨ ∃ as, ds = [.tup as] ∧ ps = as) := by
  unfold partsN at h
  split at h
  · split at h <;> first | (cases h; exact .inl rfl) | cases h
  · split at h
    · split at h <;> first | (cases h; exact .inl rfl) | cases h
    · split at h
      · unfold choiceB at h
        split at h
        · split at h
          · cases h; exact .inr (.inr (.inr ⟨_, rfl, rfl⟩))
          · cases h
        · cases h
      · cases h
  · split at h
    · split at h <;> first | (cases h; exact .inl rfl) | cases h
    · split at h
      · split at h
        · cases h; exact .inr (.inr (.inl ⟨_, _, rfl, rfl⟩))
        · cases h
      · split at h
        · cases h; exact .inr (.inl rfl)
        · cases h
  · cases h
theorem parts_len {x : D} {ps : List D} (h : partsB x = some ps) : ps.length ≤ 9 := by
  unfold partsB at h
  split at h
  · unfold partsN at h
    split at h
    · split at h <;> first | (cases h; exact Nat.zero_le _) | cases h
    · split at h
      · split at h <;> first | (cases h; exact Nat.zero_le _) | cases h
      · split at h
        · unfold choiceB at h
          split at h
          · split at h
            · rename_i h1
              cases h
              rw [Bool.and_eq_true] at h1
              exact of_decide_eq_true h1.2
            · cases h
          · cases h
        · cases h
    · split at h
      · split at h <;> first | (cases h; exact Nat.zero_le _) | cases h
      · split at h
        · split at h
          · cases h; exact (by decide : 1 ≤ 9)
          · cases h
        · split at h
          · cases h; exact (by decide : 2 ≤ 9)
          · cases h
    · cases h
  · cases h
/-- what holds of a thing's parts holds of the parts -/
theorem parts_all {P : D → Prop} (hP : ∀ ds, P (.tup ds) → ∀ d ∈ ds, P d) {x : D} {ps : List D} (hx : P x) (h : partsB x = some ps) : ∀ p ∈ ps, P p := by
  unfold partsB at h
  split at h
  · rename_i z ds
    have hd : ∀ d ∈ ds, P d := fun d hd => hP _ hx d (List.mem_cons_of_mem _ hd)
    rcases partsN_mem h with rfl | rfl | ⟨a, b, rfl, rfl⟩ | ⟨as, rfl, rfl⟩
    · intro p hp; cases hp
    · exact hd
    · intro p hp
      rw [List.mem_singleton] at hp
      subst hp
      exact hd p (List.mem_cons_self ..)
    · exact hP _ (hd _ (List.mem_singleton.mpr rfl))
  · cases h
theorem okD_tupH {ds : List D} (h : okD (.tup ds) = true) : ∀ d ∈ ds, okD d = true := by
  unfold okD at h
  rw [Bool.and_eq_true] at h
  exact okDs_of h.2
/-- what is yet to be looked at -/
def todoS (l : List (D × Nat)) : Option Nat := szs (fun p => sz (7 - p.2) p.1) l
def rowOf (l : List (D × Nat)) : List D := l.map fun p => .tup [p.1, .int (p.2 : Nat)]
theorem atI_mid {α : Type} {xs ys : List α} {y : α} : atI (xs ++ y :: ys) ((xs.length : Nat) : Int) = some y := by
  unfold atI
  rw [ixN_in (by omega) (by rw [List.length_append, List.length_cons]; omega)]
  show (xs ++ y :: ys)[((xs.length : Nat) : Int).toNat]? = some y
  rw [Int.toNat_natCast, List.getElem?_append_right (Nat.le_refl _), Nat.sub_self]
  rfl
theorem fin_next {n : Nat} {a b : Option Nat} : fin n (oadd (oadd (some 1) a) b) = fin (n + 1) (oadd b a) := by
  cases a <;> cases b <;> first | rfl | skip
  rename_i x y
  show decide (n + (1 + x + y) ≤ 60) = decide (n + 1 + (y + x) ≤ 60)
  congr 1
  exact propext (by omega)
theorem fin_no {n : Nat} {a : Option Nat} : fin n (oadd none a) = false := by cases a <;> rfl
theorem fin_step {n : Nat} {x : D} {d : Nat} {rest : List (D × Nat)} {ps : List D} (hp : partsB x = some ps) (hd : d ≤ 6) : fin n (todoS ((x, d) :: rest)) = fin (n + 1) (todoS (rest ++ ps.map fun p => (p, d + 1))) := by
  obtain ⟨k, hk⟩ : ∃ k, 7 - d = k + 1 := ⟨6 - d, by omega⟩
  have hk2 : 7 - (d + 1) = k := by omega
  unfold todoS
  rw [szs_app, szs_map, szs_cons]
  dsimp only
  rw [hk, hk2, sz_some hp, fin_next]
theorem fin_none {n : Nat} {x : D} {d : Nat} {rest : List (D × Nat)} (hp : partsB x = none) : fin n (todoS ((x, d) :: rest)) = false := by
  unfold todoS
  rw [szs_cons]
  dsimp only
  rw [sz_none hp]
  exact fin_no
theorem fin_deep {n : Nat} {x : D} {d : Nat} {rest : List (D × Nat)} (hd : 6 < d) : fin n (todoS ((x, d) :: rest)) = false := by
  unfold todoS
  rw [szs_cons]
  dsimp only
  rw [show 7 - d = 0 by omega]
  exact fin_no
theorem fin_long {n : Nat} {l : List (D × Nat)} (h : 60 < n + l.length) : fin n (todoS l) = false := by
  cases e : todoS l with
  | none => rfl
  | some c =>
    have := szs_ge (fun x c h => sz_pos h) e
    exact decide_eq_false (by omega)
set_option maxHeartbeats 0 in
theorem r_is_shape {t : D} {M : Mem} (ht : okD t = true) (k : Nat) (hk : 4 ≤ k) : run tab k f_is_shape [t] M (fun v M' => v = .bl (isSh t) ∧ M' = M) fun _ _ => False := by
  obtain ⟨k, rfl⟩ : ∃ j, k = j + 1 := ⟨k - 1, by omega⟩
  refine run_in rfl rfl ?_
  conv => whnf
  refine ⟨lok rfl, ?_⟩
  conv => whnf
  refine ⟨lok rfl, fun p hp => ?_⟩
  conv => whnf
  refine ⟨62, loop_inv ?_ (fun j env M' => ∃ (done todo : List (D × Nat)) (e3 e4 e5 e6 : Option D), env = [some t, some (.loc p), some (.int (done.length : Nat)), e3, e4, e5, e6] ∧ M' = M.upd p (.lst (rowOf (done ++ todo))) ∧ (∀ q ∈ todo, okD q.1 = true) ∧ isSh t = fin done.length (todoS todo) ∧ done.length ≤ 60 ∧ (done.length + todo.length ≤ 60 ∨ todo ≠ []) ∧ j = 61 - done.length) ?_ _ 61 _ _ ?_ (by omega)⟩
  · intro e M q q' hq h
    exact (mon _ _ (mon_run tab k) _).E (fun d M1 h => truW_mono (fun b M2 h => hq b M2 h) h) (fun _ _ h => h) h
  · rintro j env M' ⟨done, todo, e3, e4, e5, e6, rfl, rfl, hok, hres, hat, hne, rfl⟩
    have hrl : (rowOf (done ++ todo)).length = done.length + todo.length := by unfold rowOf; rw [List.length_map, List.length_append]
    conv => whnf
    rw [asS_loc Mem.upd_same]
    conv => whnf
    cases todo with
    | nil =>
      rw [decide_eq_false (by rw [hrl, List.length_nil]; omega)]
      conv => whnf
      refine frz_drop Mem.upd_same rfl ?_
      rw [Mem.upd_del hp]
      refine .done ⟨?_, rfl⟩
      rw [hres]
      show _ = D.bl (decide (done.length + 0 ≤ 60))
      have h60 : done.length + 0 ≤ 60 := by
        rcases hne with h | h
        · exact h
        · exact absurd rfl h
      rw [decide_eq_true h60]
    | cons y rest =>
      obtain ⟨x, d⟩ := y
      rw [decide_eq_true (by rw [hrl, List.length_cons]; omega)]
      have hx : okD x = true := hok (x, d) (List.mem_cons_self ..)
      refine ⟨61 - (done.length + 1), by omega, ?_⟩
      conv => whnf
      rw [asS_loc Mem.upd_same]
      conv => whnf
      have eat : atI (rowOf (done ++ (x, d) :: rest)) ((done.length : Nat) : Int) = some (.tup [x, .int (d : Nat)]) := by
        unfold rowOf
        rw [List.map_append, List.map_cons, show done.length = (done.map fun p : D × Nat => D.tup [p.1, .int (p.2 : Nat)]).length by rw [List.length_map]]
        exact atI_mid
      rw [eat]
      conv => whnf
      refine run_is (r_within hx k (by omega)) (Nat.le_refl _) ?_
      cases hp1 : partsB x with
      | none =>
        conv => whnf
        refine frz_drop Mem.upd_same rfl ?_
        rw [Mem.upd_del hp]
        refine .done ⟨?_, rfl⟩
        rw [hres, fin_none hp1]
      | some ps =>
        have hps := parts_len hp1
        conv => whnf
        split
        · rename_i h1
          conv => whnf
          rw [h1]
          conv => whnf
          refine frz_drop Mem.upd_same rfl ?_
          rw [Mem.upd_del hp]
          refine .done ⟨?_, rfl⟩
          rw [hres, fin_deep (by have := of_decide_eq_true h1; omega)]
        · rename_i h1
          have hd6 : d ≤ 6 := by have := of_decide_eq_false h1; omega
          conv => whnf
          rw [asS_loc Mem.upd_same]
          conv => whnf
          split
          · rename_i h2
            conv => whnf
            refine frz_drop Mem.upd_same rfl ?_
            rw [Mem.upd_del hp]
            refine .done ⟨?_, rfl⟩
            rw [hres, fin_long (by have := of_decide_eq_true h2; rw [hrl] at this; omega)]
          · rename_i h2
            have hr60 : done.length + (rest.length + 1) ≤ 60 := by have := of_decide_eq_false h2; rw [hrl, List.length_cons] at this; omega
            conv => whnf
            refine each_inv (fun rem env M' => ∃ (gone : List D) (e4 : Option D), ps = gone ++ rem ∧ env = [some t, some (.loc p), some (.int (done.length : Nat)), some (.tup ps), e4, some x, some (.int (d : Nat))] ∧ M' = M.upd p (.lst (rowOf (done ++ (x, d) :: rest ++ gone.map fun p => (p, d + 1))))) ?_ ?_ _ _ _ ⟨[], e4, rfl, rfl, by rw [List.map_nil, List.append_nil]⟩
            · rintro q rem env M' ⟨gone, e4, hg, rfl, rfl⟩
              refine ⟨trivial, ?_⟩
              conv => whnf
              refine ⟨rcv_loc (by decide) Mem.upd_same, ?_⟩
              conv => whnf
              refine ⟨lok rfl, ?_⟩
              conv => whnf
              rw [Mem.upd_same]
              have hgl : gone.length < 10 := by
                have := congrArg List.length hg
                rw [List.length_append] at this
                omega
              refine ⟨?_, ?_⟩
              · unfold rowOf
                rw [List.length_map, List.length_append, List.length_append, List.length_map, List.length_cons]
                have : 100 < sizeLine := by decide
                omega
              rw [Mem.upd_upd]
              refine ⟨gone ++ [q], some q, by rw [hg, List.append_assoc]; rfl, rfl, ?_⟩
              unfold rowOf
              simp only [List.map_append, List.map_cons, List.map_nil, List.append_assoc, List.cons_append, List.nil_append]
              rfl
            · rintro env M' ⟨gone, e4', hg, rfl, rfl⟩
              rw [List.append_nil] at hg
              subst hg
              refine ⟨trivial, ?_⟩
              conv => whnf
              refine ⟨done ++ [(x, d)], rest ++ ps.map fun p => (p, d + 1), some (.tup ps), e4', some x, some (.int (d : Nat)), ?_, ?_, ?_, ?_, ?_, ?_, ?_⟩
              · rw [List.length_append]; rfl
              · simp only [List.append_assoc, List.cons_append, List.nil_append]
              · intro q hq
                rcases List.mem_append.mp hq with h | h
                · exact hok q (List.mem_cons_of_mem _ h)
                · obtain ⟨y, hy, rfl⟩ := List.mem_map.mp h
                  exact parts_all (P := fun d => okD d = true) (fun _ h => okD_tupH h) hx hp1 y hy
              · rw [hres, fin_step hp1 hd6, List.length_append]; rfl
              · rw [List.length_append, List.length_cons, List.length_nil]; omega
              · rw [List.length_append, List.length_cons, List.length_nil, List.length_append, List.length_map]
                cases ps with
                | nil => left; rw [List.length_nil]; omega
                | cons a b => right; simp
              · rw [List.length_append, List.length_cons, List.length_nil]
  · refine ⟨[], [(t, 1)], _, _, _, _, rfl, rfl, ?_, ?_, Nat.zero_le _, .inl (Nat.le_of_ble_eq_true rfl), rfl⟩
    · exact all_cons ht all_nil
    · show fin 0 (sz 6 t) = fin 0 (oadd (sz 6 t) (some 0))
      rw [oadd_comm, oadd_zero]
end Wp

/-! PwSm: plain values of fitting sizes, set beside themselves. -/
namespace Wp
open PySem
mutual
/-- values: of fitting sizes, plain -/
def smV : D → Bool
  | .non => true
  | .bl _ => true
  | .int i => decide (i.natAbs < 10000000000000000000000000000000000000000)
  | .str z => decide (z.length ≤ 1000) && PyData.strOk z
  | .tup ds => decide (ds.length ≤ 1000) && smVs ds
  | .lst ds => decide (ds.length ≤ 1000) && smVs ds
  | _ => false
def smVs : List D → Bool
  | [] => true
  | d :: ds => smV d && smVs ds
end
theorem smVs_of : ∀ {ds : List D}, smVs ds = true → ∀ d ∈ ds, smV d = true
  | [], _, d, hd => by cases hd
  | x :: ds, h, d, hd => by
    unfold smVs at h
    rw [Bool.and_eq_true] at h
    cases hd with
    | head => exact h.1
    | tail _ hd => exact smVs_of h.2 d hd
theorem smVs_iff : ∀ {ds : List D}, (∀ d ∈ ds, smV d = true) → smVs ds = true
  | [], _ => rfl
  | x :: ds, h => by
    unfold smVs
    rw [Bool.and_eq_true]
    exact ⟨h x (List.mem_cons_self ..), smVs_iff fun d hd => h d (List.mem_cons_of_mem _ hd)⟩
theorem smV_tp {ds : List D} (h : ds.length ≤ 1000) (h2 : ∀ d ∈ ds, smV d = true) : smV (.tup ds) = true := by
  unfold smV
  rw [Bool.and_eq_true]
  exact ⟨decide_eq_true h, smVs_iff h2⟩
theorem smV_ls {ds : List D} (h : ds.length ≤ 1000) (h2 : ∀ d ∈ ds, smV d = true) : smV (.lst ds) = true := by
  unfold smV
  rw [Bool.and_eq_true]
  exact ⟨decide_eq_true h, smVs_iff h2⟩
theorem smV_tupH {ds : List D} (h : smV (.tup ds) = true) : ds.length ≤ 1000 ∧ ∀ d ∈ ds, smV d = true := by
  unfold smV at h
  rw [Bool.and_eq_true] at h
  exact ⟨of_decide_eq_true h.1, smVs_of h.2⟩
theorem smV_lstH {ds : List D} (h : smV (.lst ds) = true) : ds.length ≤ 1000 ∧ ∀ d ∈ ds, smV d = true := by
  unfold smV at h
  rw [Bool.and_eq_true] at h
  exact ⟨of_decide_eq_true h.1, smVs_of h.2⟩
mutual
theorem smV_ok : ∀ {d : D}, smV d = true → okD d = true
  | .non, _ => rfl
  | .bl _, _ => rfl
  | .int _, _ => rfl
  | .str z, h => by
    have h : (decide (z.length ≤ 1000) && PyData.strOk z) = true := h
    rw [Bool.and_eq_true] at h
    exact decide_eq_true (Nat.le_trans (of_decide_eq_true h.1) (by decide))
  | .tup ds, h => by
    unfold smV at h
    rw [Bool.and_eq_true] at h
    unfold okD
    rw [decide_eq_true (Nat.le_trans (of_decide_eq_true h.1) (by decide)), smVs_ok h.2]; rfl
  | .lst ds, h => by
    unfold smV at h
    rw [Bool.and_eq_true] at h
    unfold okD
    rw [decide_eq_true (Nat.le_trans (of_decide_eq_true h.1) (by decide)), smVs_ok h.2]; rfl
theorem smVs_ok : ∀ {ds : List D}, smVs ds = true → okDs ds = true
  | [], _ => rfl
  | d :: ds, h => by
    unfold smVs at h
    rw [Bool.and_eq_true] at h
    unfold okDs
    rw [smV_ok h.1, smVs_ok h.2]; rfl
end
mutual
/-- how deep -/
def dep : D → Nat
  | .tup ds => deps ds + 1
  | .lst ds => deps ds + 1
  | _ => 0
def deps : List D → Nat
  | [] => 0
  | d :: ds => max (dep d) (deps ds)
end
theorem deps_le : ∀ {ds : List D} {n : Nat}, (∀ d ∈ ds, dep d ≤ n) → deps ds ≤ n
  | [], n, _ => Nat.zero_le _
  | d :: ds, n, h => by
    unfold deps
    have := h d (List.mem_cons_self ..)
    have := deps_le (ds := ds) fun x hx => h x (List.mem_cons_of_mem _ hx)
    omega
theorem deps_mem : ∀ {ds : List D}, ∀ d ∈ ds, dep d ≤ deps ds
  | x :: ds, d, hd => by
    unfold deps
    rcases List.mem_cons.mp hd with rfl | hd
    · omega
    · have := deps_mem d hd
      omega
mutual
theorem toPy_sm : ∀ {v : D}, smV v = true → ∃ p, toPy v = some p ∧ p.canLay0 = true ∧ p.depth ≤ dep v ∧ PyData.eqv p p = true
  | .non, _ => ⟨.none, rfl, by decide, by decide, by decide⟩
  | .bl b, _ => ⟨.bool b, rfl, by cases b <;> decide, by cases b <;> decide, by cases b <;> decide⟩
  | .int i, _ => ⟨.int i, rfl, rfl, by unfold PyData.depth; exact Nat.zero_le _, by show (i == i) = true; exact beq_self_eq_true i⟩
  | .str z, h => ⟨.str z, rfl, by
      have h : (decide (z.length ≤ 1000) && PyData.strOk z) = true := h
      rw [Bool.and_eq_true] at h
      exact h.2, by unfold PyData.depth; exact Nat.zero_le _, by show (z == z) = true; exact beq_self_eq_true z⟩
  | .tup ds, h => by
    obtain ⟨ps, e, c, d, q⟩ := toPys_sm (smV_tupH h).2
    refine ⟨.tuple ps, by unfold toPy; rw [e]; rfl, by unfold PyData.canLay0; exact c, ?_, by unfold PyData.eqv; exact q⟩
    unfold PyData.depth dep
    omega
  | .lst ds, h => by
    obtain ⟨ps, e, c, d, q⟩ := toPys_sm (smV_lstH h).2
    refine ⟨.list ps, by unfold toPy; rw [e]; rfl, by unfold PyData.canLay0; exact c, ?_, by unfold PyData.eqv; exact q⟩
    unfold PyData.depth dep
    omega
theorem toPys_sm : ∀ {ds : List D}, (∀ d ∈ ds, smV d = true) → ∃ ps, toPys ds = some ps ∧ PyData.canLayAll0 ps = true ∧ PyData.depthAll ps ≤ deps ds ∧ PyData.eqvAll ps ps = true
  | [], _ => ⟨[], rfl, by decide, by decide, by decide⟩
  | d :: ds, h => by
    obtain ⟨p, e, c, dd, q⟩ := toPy_sm (h d (List.mem_cons_self ..))
    obtain ⟨ps, e2, c2, dd2, q2⟩ := toPys_sm (ds := ds) fun x hx => h x (List.mem_cons_of_mem _ hx)
    refine ⟨p :: ps, by unfold toPys; rw [e, e2], by unfold PyData.canLayAll0; rw [c, c2]; rfl, ?_, by unfold PyData.eqvAll; rw [q, q2]; rfl⟩
    unfold PyData.depthAll deps
    omega
end
theorem toPy1_sm {M : Mem} {v : D} (h : smV v = true) : toPy1 M v = toPy v := by
  cases v <;> first
    | rfl
    | (unfold smV at h; cases h)
theorem toPys1_sm {M : Mem} : ∀ {ds : List D}, (∀ d ∈ ds, smV d = true) → toPys1 M ds = toPys ds
  | [], _ => rfl
  | d :: ds, h => by
    unfold toPys1 toPys
    rw [toPy1_sm (h d (List.mem_cons_self ..)), toPys1_sm fun x hx => h x (List.mem_cons_of_mem _ hx)]
theorem toPyM_sm {M : Mem} {v : D} (h : smV v = true) : toPyM M v = toPy v := by
  cases v with
  | tup ds =>
    show (toPys1 M ds).map PyData.tuple = (toPys ds).map PyData.tuple
    rw [toPys1_sm (smV_tupH h).2]
  | _ => exact toPy1_sm (M := M) h
theorem eqP_self {v : D} (h : smV v = true) (hd : dep v ≤ 60) {neg : Bool} {M : Mem} {Q : QK} (q : Q (.bl (!neg)) M) : eqP neg v v M Q := by
  obtain ⟨p, e, c, d, r⟩ := toPy_sm h
  have e2 : toPyM M v = some p := by rw [toPyM_sm h]; exact e
  unfold eqP
  rw [e2]
  refine ⟨?_, ?_, ?_⟩
  · show (p.canLay0 && decide (p.depth ≤ 64)) = true
    rw [c, decide_eq_true (by omega)]; rfl
  · show (p.canLay0 && decide (p.depth ≤ 64)) = true
    rw [c, decide_eq_true (by omega)]; rfl
  · rw [r]
    cases neg <;> exact q
theorem eq_self {v : D} (h : smV v = true) (hd : dep v ≤ 60) {neg : Bool} {M : Mem} {Q : QK} (q : Q (.bl (!neg)) M) : eqW neg v v M Q := by
  cases v
  case non => cases neg <;> exact q
  case bl b =>
    show Q (.bl (if neg then !(decide (b = b)) else decide (b = b))) M
    rw [decide_eq_true rfl]
    cases neg <;> exact q
  case int b =>
    show Q (.bl (if neg then !(decide (b = b)) else decide (b = b))) M
    rw [decide_eq_true rfl]
    cases neg <;> exact q
  case str b =>
    show Q (.bl (if neg then !(decide (b = b)) else decide (b = b))) M
    rw [decide_eq_true rfl]
    cases neg <;> exact q
  case tup ds =>
    show (match eqU (.tup ds) (.tup ds) with
      | true => Q (.bl neg) M
      | false => eqP neg (.tup ds) (.tup ds) M Q)
    rw [show eqU (.tup ds) (.tup ds) = false from by cases ds <;> rfl]
    exact eqP_self h hd q
  case lst ds =>
    show (if ds.length = ds.length then eqP neg (.lst ds) (.lst ds) M Q else Q (.bl neg) M)
    rw [if_pos rfl]
    exact eqP_self h hd q
  all_goals cases h
theorem eqA_self {v : D} (h : smV v = true) : eqA v v = some true ∨ eqA v v = none := by
  cases v
  case non => exact .inl rfl
  case bl b => exact .inl (congrArg some (decide_eq_true rfl))
  case int b => exact .inl (congrArg some (decide_eq_true rfl))
  case str b => exact .inl (congrArg some (decide_eq_true rfl))
  case tup ds => exact .inr rfl
  case lst ds => exact .inr rfl
  all_goals cases h
theorem eqL_self {v : D} (h : smV v = true) (hd : dep v ≤ 60) {neg : Bool} {M : Mem} {Q : QK} (q : Q (.bl (!neg)) M) : eqL neg v v M Q := by
  cases v
  case tup ds =>
    show (match eqU (.tup ds) (.tup ds) with
      | true => Q (.bl neg) M
      | false => eqP neg (.tup ds) (.tup ds) M Q)
    rw [show eqU (.tup ds) (.tup ds) = false from by cases ds <;> rfl]
    exact eqP_self h hd q
  case lst ds =>
    show (if ds.length = ds.length then eqP neg (.lst ds) (.lst ds) M Q else Q (.bl neg) M)
    rw [if_pos rfl]
    exact eqP_self h hd q
  case non => exact eqP_self h hd q
  case bl => exact eqP_self h hd q
  case int => exact eqP_self h hd q
  case str => exact eqP_self h hd q
  all_goals cases h
/-- where a value is set beside itself -/
theorem selfM {v : D} {A : Bool → Prop} {G : Prop} (e : eqA v v = some true ∨ eqA v v = none) (hG : A true → G) (hA : A true) : (match eqA v v with
  | some b => A b
  | none => G) := by
  rcases e with e | e
  · rw [e]; exact hA
  · rw [e]; exact hG hA
end Wp

/-! PfCell: cells, the state that is drawn from, shapes. -/
namespace Wp
open PySem
theorem rng_len {lo : Int} {n : Nat} : (rng lo n).length = n := by
  unfold rng
  rw [List.length_map, List.length_range]
theorem rng_int {lo : Int} {n : Nat} : ∀ x ∈ rng lo n, ∃ i : Nat, x = D.int (lo + (i : Nat)) ∧ i < n := by
  intro x hx
  unfold rng at hx
  obtain ⟨i, hi, rfl⟩ := List.mem_map.mp hx
  exact ⟨i, rfl, List.mem_range.mp hi⟩
/-- a cell of the script, or one by its number -/
def cellF (ns : List Int) (k : Nat) : Int := match ns[k]? with
  | some c => c
  | none => 5 * (k : Int) * (k : Int) + 9 * (k : Int) + 7
theorem r_cell {ns : List Int} {k : Nat} {ki : Int} (hki : ki = (k : Int)) (hk : k < 1000) {M : Mem} (l : Nat) (hl : 1 ≤ l) : run tab l f_law_cell [.scr ns, .int ki] M (fun v M' => v = .int (cellF ns k) ∧ M' = M) fun _ _ => False := by
  obtain ⟨l, rfl⟩ : ∃ j, l = j + 1 := ⟨l - 1, by omega⟩
  subst hki
  refine run_in rfl rfl ?_
  conv => whnf
  by_cases h : k < ns.length
  · rw [decide_eq_true (show (k : Int) < ((ns.map D.int).length : Int) by rw [List.length_map]; omega)]
    conv => whnf
    have e : atI (ns.map D.int) (k : Int) = some (.int ns[k]) := by
      unfold atI
      rw [ixN_in (by omega) (by rw [List.length_map]; omega)]
      show (ns.map D.int)[((k : Nat) : Int).toNat]? = _
      rw [Int.toNat_natCast, List.getElem?_map, List.getElem?_eq_getElem h]; rfl
    rw [e]
    refine .done ⟨?_, rfl⟩
    unfold cellF
    rw [List.getElem?_eq_getElem h]
  · rw [decide_eq_false (show ¬ (k : Int) < ((ns.map D.int).length : Int) by rw [List.length_map]; omega)]
    conv => whnf
    refine ⟨mul_ok (by decide) (by omega), ?_⟩
    refine ⟨mul_ok (by omega) (by omega), ?_⟩
    refine ⟨mul_ok (by decide) (by omega), ?_⟩
    conv => whnf
    refine .done ⟨?_, rfl⟩
    unfold cellF
    rw [List.getElem?_eq_none (by omega)]
/-- what is drawn from -/
structure Cs where
  r : Int
  m : Bool
  t : Int
def Cs.kvs (s : Cs) : List (Sum Int Str × D) := [(.inr "rest", .int s.r), (.inr "mixed", .bl s.m), (.inr "turn", .int s.t)]
def stF (ns : List Int) (k : Nat) : Cs := ⟨cellF ns k, decide (cellF ns 0 % 2 = 1), (k : Int)⟩
theorem r_state {ns : List Int} {k : Nat} {ki : Int} (hki : ki = (k : Int)) (hk : k < 1000) {M : Mem} (l : Nat) (hl : 2 ≤ l) : run tab l f_law_state [.scr ns, .int ki] M (fun v M' => ∃ p, v = .loc p ∧ M p = none ∧ M' = M.upd p (.dic (stF ns k).kvs)) fun _ _ => False := by
  obtain ⟨l, rfl⟩ : ∃ j, l = j + 1 := ⟨l - 1, by omega⟩
  refine run_in rfl rfl ?_
  conv => whnf
  refine ⟨by decide, fun p hp => ?_⟩
  conv => whnf
  refine run_is (r_cell hki hk l (by omega)) (Nat.le_refl _) ?_
  conv => whnf
  refine run_is (r_cell (k := 0) rfl (by omega) l (by omega)) (Nat.le_refl _) ?_
  conv => whnf
  refine ⟨by decide, ?_⟩
  conv => whnf
  refine ⟨Mem.upd_same, rfl, ?_⟩
  rw [Mem.upd_upd]
  conv => whnf
  refine .done ⟨p, rfl, hp, ?_⟩
  subst hki
  rfl
def tk (s : Cs) (many : Int) : Int × Cs := match s.m with
  | false => (s.r % many, ⟨s.r / many, false, s.t⟩)
  | true => (((s.r % 2147483579 + 70001 * (s.t + 1)) % 2147483579 * ((s.r % 2147483579 + 70001 * (s.t + 1)) % 2147483579) % 2147483563 * 50021 + 7) % 2147483579 / 5 % many, ⟨((s.r % 2147483579 + 70001 * (s.t + 1)) % 2147483579 * ((s.r % 2147483579 + 70001 * (s.t + 1)) % 2147483579) % 2147483563 * 50021 + 7) % 2147483579, true, s.t + 1⟩)
theorem tk_rng {s : Cs} {many : Int} (h : 0 < many) : 0 ≤ (tk s many).1 ∧ (tk s many).1 < many := by
  unfold tk
  cases s.m
  · exact ⟨Int.emod_nonneg _ (by omega), Int.emod_lt_of_pos _ h⟩
  · exact ⟨Int.emod_nonneg _ (by omega), Int.emod_lt_of_pos _ h⟩
theorem tk_t {s : Cs} {many : Int} (h : 0 ≤ s.t) : 0 ≤ (tk s many).2.t ∧ (tk s many).2.t ≤ s.t + 1 := by
  unfold tk
  cases s.m
  · exact ⟨h, by show s.t ≤ s.t + 1; omega⟩
  · exact ⟨by show 0 ≤ s.t + 1; omega, Int.le_refl _⟩
set_option maxHeartbeats 0 in
theorem use_take {p : Addr} {s : Cs} {many : Int} {M : Mem} {l : Nat} {Q : QK} {E : XQ} (hp : M p = some (.dic s.kvs)) (h0 : 0 < many) (hm : many.natAbs.log2 < 9000) (t0 : 0 ≤ s.t) (t1 : s.t < 1000000) (hl : 1 ≤ l)
    (h : Q (.int (tk s many).1) (M.upd p (.dic (tk s many).2.kvs))) : run tab l f_law_take [.loc p, .int many] M Q E := by
  obtain ⟨l, rfl⟩ : ∃ j, l = j + 1 := ⟨l - 1, by omega⟩
  obtain ⟨r, m, t⟩ := s
  have t0 : 0 ≤ t := t0
  have t1 : t < 1000000 := t1
  refine run_in rfl rfl ?_
  conv => whnf
  rw [hp]
  cases m
  · conv => whnf
    rw [hp]
    conv => whnf
    refine ⟨h0, ?_⟩
    conv => whnf
    rw [hp]
    conv => whnf
    refine ⟨h0, hm, ?_⟩
    conv => whnf
    rw [hp]
    refine ⟨lok rfl, ?_⟩
    conv => whnf
    exact .done h
  · conv => whnf
    rw [hp]
    conv => whnf
    rw [hp]
    refine ⟨lok rfl, ?_⟩
    have e1 : (M.upd p (.dic [(.inr "rest", .int r), (.inr "mixed", .bl true), (.inr "turn", .int (t + 1))])) p = some (.dic [(.inr "rest", .int r), (.inr "mixed", .bl true), (.inr "turn", .int (t + 1))]) := Mem.upd_same
    have h : Q (.int (tk ⟨r, true, t⟩ many).1) ((M.upd p (.dic [(.inr "rest", .int r), (.inr "mixed", .bl true), (.inr "turn", .int (t + 1))])).upd p (.dic (tk ⟨r, true, t⟩ many).2.kvs)) := by rw [Mem.upd_upd]; exact h
    show wpS _ _ _ _ (M.upd p (.dic [(.inr "rest", .int r), (.inr "mixed", .bl true), (.inr "turn", .int (t + 1))]))
    generalize M.upd p (.dic [(.inr "rest", .int r), (.inr "mixed", .bl true), (.inr "turn", .int (t + 1))]) = M1 at e1 h
    conv => whnf
    rw [e1]
    conv => whnf
    refine ⟨by decide, ?_⟩
    conv => whnf
    rw [e1]
    refine ⟨mul_ok (by decide) (by omega), ?_⟩
    refine ⟨by decide, ?_⟩
    conv => whnf
    have a0 : 0 ≤ (r % 2147483579 + 70001 * (t + 1)) % 2147483579 := Int.emod_nonneg _ (by decide)
    have a1 : (r % 2147483579 + 70001 * (t + 1)) % 2147483579 < 2147483579 := Int.emod_lt_of_pos _ (by decide)
    refine ⟨mul_ok (by omega) (by omega), ?_⟩
    refine ⟨by decide, ?_⟩
    conv => whnf
    have b0 : 0 ≤ (r % 2147483579 + 70001 * (t + 1)) % 2147483579 * ((r % 2147483579 + 70001 * (t + 1)) % 2147483579) % 2147483563 := Int.emod_nonneg _ (by decide)
    have b1 : (r % 2147483579 + 70001 * (t + 1)) % 2147483579 * ((r % 2147483579 + 70001 * (t + 1)) % 2147483579) % 2147483563 < 2147483563 := Int.emod_lt_of_pos _ (by decide)
    refine ⟨mul_ok (by omega) (by decide), ?_⟩
    refine ⟨by decide, ?_⟩
    conv => whnf
    rw [e1]
    refine ⟨lok rfl, ?_⟩
    conv => whnf
    rw [Mem.upd_same]
    conv => whnf
    refine ⟨by decide, by decide, ?_⟩
    refine ⟨h0, ?_⟩
    conv => whnf
    exact .done h
end Wp

/-! PfCellSh: shapes drawn, exactly. -/
namespace Wp
open PySem
def pk4 (a b c d : Int) (i : Int) : Int := if i = 0 then a else if i = 1 then b else if i = 2 then c else d
theorem pk4_at {a b c d i : Int} (h0 : 0 ≤ i) (h1 : i < 4) : atI [D.int a, D.int b, D.int c, D.int d] i = some (.int (pk4 a b c d i)) := by
  rcases (show i = 0 ∨ i = 1 ∨ i = 2 ∨ i = 3 by omega) with rfl | rfl | rfl | rfl <;> rfl
theorem pk4_in {a b c d i lo hi : Int} (ha : lo ≤ a ∧ a ≤ hi) (hb : lo ≤ b ∧ b ≤ hi) (hc : lo ≤ c ∧ c ≤ hi) (hd : lo ≤ d ∧ d ≤ hi) : lo ≤ pk4 a b c d i ∧ pk4 a b c d i ≤ hi := by
  unfold pk4
  split
  · exact ha
  · split
    · exact hb
    · split
      · exact hc
      · exact hd
/-- things drawn one by one -/
def many1 (f : Cs → D × Cs) : Nat → Cs → List D × Cs
  | 0, s => ([], s)
  | n + 1, s => let r := many1 f n s; ((r.1 ++ [(f r.2).1]), (f r.2).2)
theorem many1_len (f : Cs → D × Cs) : ∀ (n : Nat) (s : Cs), (many1 f n s).1.length = n
  | 0, s => rfl
  | n + 1, s => by
    show ((many1 f n s).1 ++ [_]).length = _
    rw [List.length_append, many1_len f n s]; rfl
def shL (s : Cs) : D × Cs :=
  let w := tk s 601
  let u := tk w.2 4
  (.tup [.str "number", .int (w.1 - 300), .int (w.1 - 300 + pk4 0 9 300 1000000 u.1)], u.2)
def shT (s : Cs) : D × Cs :=
  let w := tk s 4
  (.tup [.str "text", .int (pk4 0 3 7 250 w.1)], w.2)
def shF : Nat → Cs → D × Cs
  | 0, s =>
    let k := tk s 8
    if k.1 = 2 then (.tup [.str "nothing"], k.2) else if k.1 = 3 then shT k.2 else shL k.2
  | d + 1, s =>
    let k := tk s 8
    if k.1 = 2 then (.tup [.str "nothing"], k.2) else if k.1 = 3 then shT k.2 else if k.1 < 2 then shL k.2
    else if k.1 = 4 then
      let w := shF d k.2
      let u := tk w.2 4
      (.tup [.str "list", w.1, .int (pk4 0 2 5 250 u.1)], u.2)
    else if k.1 = 5 then
      let w := shF d k.2
      let u := shF d w.2
      (.tup [.str "pair", w.1, u.1], u.2)
    else
      let w := tk k.2 3
      let u := many1 (shF d) (1 + w.1).toNat w.2
      (.tup [.str "choice", .tup u.1], u.2)
/-- draws at most -/
def cs : Nat → Int
  | 0 => 4
  | d + 1 => 3 * cs d + 4
theorem cs_pos : ∀ d, 4 ≤ cs d
  | 0 => by decide
  | d + 1 => by have := cs_pos d; show 4 ≤ 3 * cs d + 4; omega
/-- a thing drawn: what is known of it -/
structure Dwn (d : Nat) (c : Int) (s : Cs) (r : D × Cs) : Prop where
  t0 : 0 ≤ r.2.t
  t1 : r.2.t ≤ s.t + c
  sm : smV r.1 = true
  de : dep r.1 ≤ d
abbrev ShapeAt (d : Nat) : Prop := ∀ (p : Addr) (s : Cs) (di : Int) (M : Mem) (l : Nat), di = (d : Int) → M p = some (.dic s.kvs) → 0 ≤ s.t → s.t + cs d < 1000000 → d + 2 ≤ l →
  run tab l f_law_shape [.loc p, .int di] M (fun v M' => v = (shF d s).1 ∧ M' = M.upd p (.dic (shF d s).2.kvs) ∧ Dwn (2 * d + 1) (cs d) s (shF d s)) fun _ _ => False
theorem smI {i : Int} (h : -10000000000 < i) (h2 : i < 10000000000) : smV (.int i) = true := decide_eq_true (by omega)
theorem smT (ds : List D) (h : ds.length ≤ 1000) (h2 : ∀ x ∈ ds, smV x = true) : smV (.tup ds) = true := smV_tp h h2
theorem dep_tup {ds : List D} {n : Nat} (h : ∀ x ∈ ds, dep x ≤ n) : dep (.tup ds) ≤ n + 1 := by
  show deps ds + 1 ≤ n + 1
  have := deps_le h
  omega
theorem shL_ok {s : Cs} {n : Nat} (h : 0 ≤ s.t) : 0 ≤ (shL s).2.t ∧ (shL s).2.t ≤ s.t + 2 ∧ smV (shL s).1 = true ∧ dep (shL s).1 ≤ n + 1 := by
  have a := tk_t (many := 601) h
  have b := tk_t (s := (tk s 601).2) (many := 4) a.1
  have c := tk_rng (s := s) (many := 601) (by decide)
  have d := pk4_in (a := 0) (b := 9) (c := 300) (d := 1000000) (i := (tk (tk s 601).2 4).1) (lo := 0) (hi := 1000000) (by decide) (by decide) (by decide) (by decide)
  refine ⟨b.1, by show (tk (tk s 601).2 4).2.t ≤ _; omega, smT _ (by show 3 ≤ 1000; decide) (all_cons (by decide +kernel) (all_cons (smI (by omega) (by omega)) (all_cons (smI (by omega) (by omega)) all_nil))), dep_tup (all_cons (Nat.zero_le _) (all_cons (Nat.zero_le _) (all_cons (Nat.zero_le _) all_nil)))⟩
theorem shT_ok {s : Cs} {n : Nat} (h : 0 ≤ s.t) : 0 ≤ (shT s).2.t ∧ (shT s).2.t ≤ s.t + 1 ∧ smV (shT s).1 = true ∧ dep (shT s).1 ≤ n + 1 := by
  have a := tk_t (many := 4) h
  have d := pk4_in (a := 0) (b := 3) (c := 7) (d := 250) (i := (tk s 4).1) (lo := 0) (hi := 250) (by decide) (by decide) (by decide) (by decide)
  exact ⟨a.1, a.2, smT _ (by show 2 ≤ 1000; decide) (all_cons (by decide +kernel) (all_cons (smI (by omega) (by omega)) all_nil)), dep_tup (all_cons (Nat.zero_le _) (all_cons (Nat.zero_le _) all_nil))⟩
theorem shN_ok {s : Cs} {n : Nat} : smV (.tup [.str "nothing"]) = true ∧ dep (.tup [.str "nothing"]) ≤ n + 1 :=
  ⟨by decide +kernel, dep_tup (all_cons (Nat.zero_le _) all_nil)⟩
set_option maxHeartbeats 0 in
/-- the leaves: common to all depths -/
theorem run_shL {p : Addr} {s : Cs} {M : Mem} {l : Nat} {N : Ends} {e0 e1 e2 e3 e4 : Option D} (hp : M p = some (.dic s.kvs)) (t0 : 0 ≤ s.t) (t1 : s.t + 2 < 1000000) (hl : 1 ≤ l) (he : e0 = some (.loc p))
    (hN : N.rt (shL s).1 (M.upd p (.dic (shL s).2.kvs))) :
    wpS (run tab l) (.seq (.asg (.nm 3) (.bin .Sub true (.call f_law_take (.cons (.var 0) (.cons (.int 601) .nil))) (.int 300)))
    (.seq (.ret (.tup (.cons (.str "number") (.cons (.var 3) (.cons (.bin .Add true (.var 3) (.idx (.lst true (.cons (.int 0) (.cons (.int 9) (.cons (.int 300) (.cons (.bin .Pow true (.int 10) (.int 6)) .nil))))) (.call f_law_take (.cons (.var 0) (.cons (.int 4) .nil))))) .nil)))))
    .nil)) N [e0, e1, e2, e3, e4] M := by
  subst he
  have a := tk_t (many := 601) t0
  conv => whnf
  refine use_take hp (by decide) (by decide) t0 (by omega) hl ?_
  conv => whnf
  refine ⟨by decide, ?_⟩
  refine ⟨lok rfl, ?_⟩
  conv => whnf
  refine use_take Mem.upd_same (by decide) (by decide) a.1 (by omega) hl ?_
  rw [Mem.upd_upd]
  have r := tk_rng (s := (tk s 601).2) (many := 4) (by decide)
  conv => whnf
  rw [show atI [D.int 0, D.int 9, D.int 300, D.int (10 ^ Int.toNat 6)] (tk (tk s 601).2 4).1 = some (.int (pk4 0 9 300 1000000 (tk (tk s 601).2 4).1)) from pk4_at r.1 r.2]
  refine ⟨lok rfl, ?_⟩
  conv => whnf
  exact hN
set_option maxHeartbeats 0 in
theorem r_shape : ∀ d : Nat, ShapeAt d
  | 0, p, s, di, M, l, hdi, hp, t0, t1, hl => by
    obtain ⟨l, rfl⟩ : ∃ j, l = j + 1 := ⟨l - 1, by omega⟩
    have c0 : cs 0 = 4 := rfl
    rw [c0] at t1
    have a := tk_t (many := 8) t0
    have r := tk_rng (s := s) (many := 8) (by decide)
    have ef : shF 0 s = if (tk s 8).1 = 2 then (.tup [.str "nothing"], (tk s 8).2) else if (tk s 8).1 = 3 then shT (tk s 8).2 else shL (tk s 8).2 := rfl
    refine run_in rfl rfl ?_
    conv => whnf
    refine use_take hp (by decide) (by decide) t0 (by omega) (by omega) ?_
    conv => whnf
    by_cases k2 : (tk s 8).1 = 2
    · rw [decide_eq_true k2]
      rw [if_pos k2] at ef
      conv => whnf
      refine ⟨lok rfl, ?_⟩
      conv => whnf
      refine .done ?_
      rw [ef]
      exact ⟨rfl, rfl, a.1, by rw [c0]; show (tk s 8).2.t ≤ _; omega, (shN_ok (s := s) (n := 0)).1, (shN_ok (s := s) (n := 0)).2⟩
    rw [decide_eq_false k2]
    rw [if_neg k2] at ef
    conv => whnf
    by_cases k3 : (tk s 8).1 = 3
    · rw [decide_eq_true k3]
      rw [if_pos k3] at ef
      conv => whnf
      refine ⟨lok rfl, ?_⟩
      conv => whnf
      refine use_take Mem.upd_same (by decide) (by decide) a.1 (by omega) (by omega) ?_
      rw [Mem.upd_upd]
      have r4 := tk_rng (s := (tk s 8).2) (many := 4) (by decide)
      conv => whnf
      rw [pk4_at r4.1 r4.2]
      refine ⟨lok rfl, ?_⟩
      conv => whnf
      refine .done ?_
      rw [ef]
      have q := shT_ok (s := (tk s 8).2) (n := 0) a.1
      exact ⟨rfl, rfl, q.1, by rw [c0]; omega, q.2.2.1, q.2.2.2⟩
    rw [decide_eq_false k3]
    rw [if_neg k3] at ef
    conv => whnf
    rw [decide_eq_true (show di = 0 by omega)]
    refine run_shL (l := l) (s := (tk s 8).2) Mem.upd_same a.1 (by omega) (by omega) rfl ?_
    rw [Mem.upd_upd]
    refine .done ?_
    rw [ef]
    have q := shL_ok (s := (tk s 8).2) (n := 0) a.1
    exact ⟨rfl, rfl, q.1, by rw [c0]; omega, q.2.2.1, q.2.2.2⟩
  | d + 1, p, s, di, M, l, hdi, hp, t0, t1, hl => by
    obtain ⟨l, rfl⟩ : ∃ j, l = j + 1 := ⟨l - 1, by omega⟩
    have c0 : cs (d + 1) = 3 * cs d + 4 := rfl
    have cp := cs_pos d
    rw [c0] at t1
    have a := tk_t (many := 8) t0
    have r := tk_rng (s := s) (many := 8) (by decide)
    have ef : shF (d + 1) s = if (tk s 8).1 = 2 then (.tup [.str "nothing"], (tk s 8).2) else if (tk s 8).1 = 3 then shT (tk s 8).2 else if (tk s 8).1 < 2 then shL (tk s 8).2
      else if (tk s 8).1 = 4 then (.tup [.str "list", (shF d (tk s 8).2).1, .int (pk4 0 2 5 250 (tk (shF d (tk s 8).2).2 4).1)], (tk (shF d (tk s 8).2).2 4).2)
      else if (tk s 8).1 = 5 then (.tup [.str "pair", (shF d (tk s 8).2).1, (shF d (shF d (tk s 8).2).2).1], (shF d (shF d (tk s 8).2).2).2)
      else (.tup [.str "choice", .tup (many1 (shF d) (1 + (tk (tk s 8).2 3).1).toNat (tk (tk s 8).2 3).2).1], (many1 (shF d) (1 + (tk (tk s 8).2 3).1).toNat (tk (tk s 8).2 3).2).2) := rfl
    refine run_in rfl rfl ?_
    conv => whnf
    refine use_take hp (by decide) (by decide) t0 (by omega) (by omega) ?_
    conv => whnf
    by_cases k2 : (tk s 8).1 = 2
    · rw [decide_eq_true k2]
      rw [if_pos k2] at ef
      conv => whnf
      refine ⟨lok rfl, ?_⟩
      conv => whnf
      refine .done ?_
      rw [ef]
      exact ⟨rfl, rfl, a.1, by rw [c0]; show (tk s 8).2.t ≤ _; omega, (shN_ok (s := s) (n := 2 * (d + 1))).1, (shN_ok (s := s) (n := 2 * (d + 1))).2⟩
    rw [decide_eq_false k2]
    rw [if_neg k2] at ef
    conv => whnf
    by_cases k3 : (tk s 8).1 = 3
    · rw [decide_eq_true k3]
      rw [if_pos k3] at ef
      conv => whnf
      refine ⟨lok rfl, ?_⟩
      conv => whnf
      refine use_take Mem.upd_same (by decide) (by decide) a.1 (by omega) (by omega) ?_
      rw [Mem.upd_upd]
      have r4 := tk_rng (s := (tk s 8).2) (many := 4) (by decide)
      conv => whnf
      rw [pk4_at r4.1 r4.2]
      refine ⟨lok rfl, ?_⟩
      conv => whnf
      refine .done ?_
      rw [ef]
      have q := shT_ok (s := (tk s 8).2) (n := 2 * (d + 1)) a.1
      exact ⟨rfl, rfl, q.1, by rw [c0]; omega, q.2.2.1, q.2.2.2⟩
    rw [decide_eq_false k3]
    rw [if_neg k3] at ef
    conv => whnf
    rw [decide_eq_false (show ¬ di = 0 by omega)]
    conv => whnf
    by_cases kl : (tk s 8).1 < 2
    · rw [decide_eq_true kl]
      rw [if_pos kl] at ef
      refine run_shL (l := l) (s := (tk s 8).2) Mem.upd_same a.1 (by omega) (by omega) rfl ?_
      rw [Mem.upd_upd]
      refine .done ?_
      rw [ef]
      have q := shL_ok (s := (tk s 8).2) (n := 2 * (d + 1)) a.1
      exact ⟨rfl, rfl, q.1, by rw [c0]; omega, q.2.2.1, q.2.2.2⟩
    rw [decide_eq_false kl]
    rw [if_neg kl] at ef
    conv => whnf
    by_cases k4 : (tk s 8).1 = 4
    · rw [decide_eq_true k4]
      rw [if_pos k4] at ef
      conv => whnf
      refine run_use (r_shape d p (tk s 8).2 (di - 1) _ l (by omega) Mem.upd_same a.1 (by omega) (by omega)) (Nat.le_refl _) fun v M1 h => ?_
      obtain ⟨rfl, rfl, w⟩ := h
      rw [Mem.upd_upd]
      have w0 := w.t0
      have w1 := w.t1
      refine ⟨lok rfl, ?_⟩
      conv => whnf
      refine use_take Mem.upd_same (by decide) (by decide) w.t0 (by omega) (by omega) ?_
      rw [Mem.upd_upd]
      have r4 := tk_rng (s := (shF d (tk s 8).2).2) (many := 4) (by decide)
      have b := tk_t (s := (shF d (tk s 8).2).2) (many := 4) w.t0
      conv => whnf
      rw [pk4_at r4.1 r4.2]
      refine ⟨lok rfl, ?_⟩
      conv => whnf
      refine .done ?_
      rw [ef]
      have pin := pk4_in (a := 0) (b := 2) (c := 5) (d := 250) (i := (tk (shF d (tk s 8).2).2 4).1) (lo := 0) (hi := 250) (by decide) (by decide) (by decide) (by decide)
      refine ⟨rfl, rfl, b.1, by rw [c0]; show (tk (shF d (tk s 8).2).2 4).2.t ≤ _; omega, smT _ (by show 3 ≤ 1000; decide) (all_cons (by decide +kernel) (all_cons w.sm (all_cons (smI (by omega) (by omega)) all_nil))), ?_⟩
      refine Nat.le_trans (dep_tup (n := 2 * d + 1) (all_cons (Nat.zero_le _) (all_cons w.de (all_cons (Nat.zero_le _) all_nil)))) (by omega)
    rw [decide_eq_false k4]
    rw [if_neg k4] at ef
    conv => whnf
    by_cases k5 : (tk s 8).1 = 5
    · rw [decide_eq_true k5]
      rw [if_pos k5] at ef
      conv => whnf
      refine run_use (r_shape d p (tk s 8).2 (di - 1) _ l (by omega) Mem.upd_same a.1 (by omega) (by omega)) (Nat.le_refl _) fun v M1 h => ?_
      obtain ⟨rfl, rfl, w⟩ := h
      rw [Mem.upd_upd]
      have w0 := w.t0
      have w1 := w.t1
      conv => whnf
      refine run_use (r_shape d p (shF d (tk s 8).2).2 (di - 1) _ l (by omega) Mem.upd_same w.t0 (by omega) (by omega)) (Nat.le_refl _) fun v M1 h => ?_
      obtain ⟨rfl, rfl, u⟩ := h
      rw [Mem.upd_upd]
      have u1 := u.t1
      refine ⟨lok rfl, ?_⟩
      conv => whnf
      refine .done ?_
      rw [ef]
      refine ⟨rfl, rfl, u.t0, by rw [c0]; show (shF d (shF d (tk s 8).2).2).2.t ≤ _; omega, smT _ (by show 3 ≤ 1000; decide) (all_cons (by decide +kernel) (all_cons w.sm (all_cons u.sm all_nil))), ?_⟩
      refine Nat.le_trans (dep_tup (n := 2 * d + 1) (all_cons (Nat.zero_le _) (all_cons w.de (all_cons u.de all_nil)))) (by omega)
    rw [decide_eq_false k5]
    rw [if_neg k5] at ef
    conv => whnf
    refine use_take Mem.upd_same (by decide) (by decide) a.1 (by omega) (by omega) ?_
    rw [Mem.upd_upd]
    have r3 := tk_rng (s := (tk s 8).2) (many := 3) (by decide)
    have b := tk_t (s := (tk s 8).2) (many := 3) a.1
    conv => whnf
    refine ⟨⟨by omega, by omega⟩, ?_⟩
    have h2000 : 2000 ≤ sizeLine := by decide
    refine comp_inv (fun ds acc M' => ∃ n : Nat, acc = (many1 (shF d) n (tk (tk s 8).2 3).2).1 ∧ M' = M.upd p (.dic (many1 (shF d) n (tk (tk s 8).2 3).2).2.kvs) ∧ ds.length + n = (1 + (tk (tk s 8).2 3).1).toNat ∧ (∀ x ∈ acc, smV x = true ∧ dep x ≤ 2 * d + 1) ∧ 0 ≤ (many1 (shF d) n (tk (tk s 8).2 3).2).2.t ∧ (many1 (shF d) n (tk (tk s 8).2 3).2).2.t ≤ (tk (tk s 8).2 3).2.t + cs d * n) ?_ ?_ _ _ _ ⟨0, rfl, rfl, by rw [rng_len]; rfl, all_nil, b.1, by show (tk (tk s 8).2 3).2.t ≤ _ + cs d * ((0 : Nat) : Int); omega⟩
    · rintro x ds acc M' ⟨n, rfl, rfl, hlen, hall, n0, n1⟩
      rw [List.length_cons] at hlen
      have hcn : cs d * (n : Int) ≤ cs d * 2 := Int.mul_le_mul_of_nonneg_left (by omega) (by omega)
      refine ⟨trivial, ?_⟩
      conv => whnf
      refine run_use (r_shape d p _ (di - 1) _ l (by omega) Mem.upd_same n0 (by omega) (by omega)) (Nat.le_refl _) fun v M1 h => ?_
      obtain ⟨rfl, rfl, w⟩ := h
      have w1 := w.t1
      refine ⟨by rw [many1_len]; omega, n + 1, rfl, by rw [Mem.upd_upd]; rfl, by omega, all_app hall (all_cons ⟨w.sm, w.de⟩ all_nil), w.t0, ?_⟩
      show (shF d _).2.t ≤ _
      have : cs d * ((n + 1 : Nat) : Int) = cs d * (n : Int) + cs d := by
        rw [Int.natCast_add, Int.mul_add]
        show _ + cs d * 1 = _
        rw [Int.mul_one]
      rw [this]
      omega
    · rintro acc M' ⟨n, rfl, rfl, hlen, hall, n0, n1⟩
      rw [List.length_nil, Nat.zero_add] at hlen
      have hcn : cs d * (n : Int) ≤ cs d * 3 := Int.mul_le_mul_of_nonneg_left (by omega) (by omega)
      refine ⟨trivial, ?_⟩
      refine newL_fz (by rw [many1_len]; omega) ?_
      conv => whnf
      refine ⟨lok rfl, ?_⟩
      conv => whnf
      refine .done ?_
      rw [ef, ← hlen]
      refine ⟨rfl, rfl, n0, by rw [c0]; show (many1 (shF d) n (tk (tk s 8).2 3).2).2.t ≤ _; omega, smT _ (by show 2 ≤ 1000; decide) (all_cons (by decide +kernel) (all_cons (smV_tp (by rw [many1_len]; omega) fun x h => (hall x h).1) all_nil)), ?_⟩
      refine Nat.le_trans (dep_tup (n := 2 * d + 2) (all_cons (Nat.zero_le _) (all_cons (dep_tup fun x h => (hall x h).2) all_nil))) (by omega)
end Wp

/-! PfGram: grammars drawn, exactly. -/
namespace Wp
open PySem
def nm12 : List Str := ["a", "ab", "b", "hello", "end", "left", "right", "aa", "zzzzzzzz", "number", "list", "nothing"]
def nmAt (i : Int) : Str := (nm12[(i % 12).toNat]?).getD ""
def namesF (many : Nat) (off : Int) : List Str := (List.range many).map fun (k : Nat) => nmAt (off + 5 * (k : Int))
theorem nm12_at (i : Int) : atI (nm12.map D.str) (i % 12) = some (.str (nmAt i)) := by
  have h0 := Int.emod_nonneg i (by decide : (12 : Int) ≠ 0)
  have h1 := Int.emod_lt_of_pos i (by decide : (0 : Int) < 12)
  unfold nmAt
  generalize i % 12 = j at h0 h1
  rcases (show j = 0 ∨ j = 1 ∨ j = 2 ∨ j = 3 ∨ j = 4 ∨ j = 5 ∨ j = 6 ∨ j = 7 ∨ j = 8 ∨ j = 9 ∨ j = 10 ∨ j = 11 by omega) with rfl | rfl | rfl | rfl | rfl | rfl | rfl | rfl | rfl | rfl | rfl | rfl <;> rfl
theorem nm12_sm : ∀ i : Nat, i < 12 → smV (.str ((nm12[i]?).getD "")) = true := by decide +kernel
theorem nmAt_sm (i : Int) : smV (.str (nmAt i)) = true := by
  have h0 := Int.emod_nonneg i (by decide : (12 : Int) ≠ 0)
  have h1 := Int.emod_lt_of_pos i (by decide : (0 : Int) < 12)
  exact nm12_sm _ (by omega)
theorem rng_map {n : Nat} (f : Int → D) : ((rng 0 n).filterMap fun d => match d with
    | .int k => some (f k)
    | _ => none) = (List.range n).map fun (k : Nat) => f (k : Int) := by
  unfold rng
  rw [List.filterMap_map]
  show List.filterMap (fun (i : Nat) => some (f (0 + (i : Int)))) (List.range n) = _
  have go : ∀ l : List Nat, List.filterMap (fun (i : Nat) => some (f (0 + (i : Int)))) l = l.map fun (k : Nat) => f (k : Int) := by
    intro l
    induction l with
    | nil => rfl
    | cons a l ih =>
      rw [List.filterMap_cons, List.map_cons]
      show f (0 + (a : Int)) :: _ = _
      rw [ih, Int.zero_add]
  exact go _
set_option maxHeartbeats 0 in
theorem r_names {many : Nat} {mi off : Int} (hmi : mi = (many : Int)) (hm : many ≤ 9) {M : Mem} (l : Nat) (hl : 1 ≤ l) : run tab l f_law_names [.int mi, .int off] M (fun v M' => v = .lst ((namesF many off).map D.str) ∧ M' = M) fun _ _ => False := by
  obtain ⟨l, rfl⟩ : ∃ j, l = j + 1 := ⟨l - 1, by omega⟩
  have h2000 : 2000 ≤ sizeLine := by decide
  refine run_in rfl rfl ?_
  conv => whnf
  refine ⟨lok rfl, ?_⟩
  conv => whnf
  refine ⟨⟨by omega, by omega⟩, ?_⟩
  refine comp_is (fun d => match d with
    | .int k => some (.str (nmAt (off + 5 * k)))
    | _ => none) trivial _ _ (fun d hd P h => ?_) ?_ ?_
  · obtain ⟨i, rfl, hi⟩ := rng_int d hd
    conv => whnf
    refine ⟨mul_ok (by decide) (by omega), ?_⟩
    refine ⟨by decide, ?_⟩
    conv => whnf
    rw [show ∀ j : Int, atI [D.str "a", D.str "ab", D.str "b", D.str "hello", D.str "end", D.str "left", D.str "right", D.str "aa", D.str "zzzzzzzz", D.str "number", D.str "list", D.str "nothing"] (j % 12) = some (.str (nmAt j)) from nm12_at]
    exact h
  · show 0 + (rng 0 mi.toNat).length ≤ _
    rw [rng_len]; omega
  · rw [show mi.toNat = many by omega]
    show newL true ((rng 0 many).filterMap fun d => match d with
      | .int k => some (D.str (nmAt (off + 5 * k)))
      | _ => none) M _
    rw [rng_map (fun k => D.str (nmAt (off + 5 * k)))]
    refine newL_fz (by rw [List.length_map, List.length_range]; omega) ?_
    conv => whnf
    refine .done ⟨?_, rfl⟩
    unfold namesF
    rw [List.map_map]
    rfl
abbrev Wd := Str × D × Int
abbrev GS := Option (Str × List Wd)
def wD (w : Wd) : D := .tup [.str w.1, w.2.1, .int w.2.2]
def gD : GS → D
  | none => .tup [.str "end"]
  | some (sd, ws) => .tup [.str sd, .lst (ws.map wD)]
def wordsF (many : Int) : List Str → Cs → List Wd × Cs
  | [], s => ([], s)
  | x :: xs, s =>
    let h := shF 2 s
    let t := tk h.2 many
    let r := wordsF many xs t.2
    ((x, h.1, t.1) :: r.1, r.2)
def stateF (ns : List Int) (k : Nat) (many : Int) : GS :=
  let a := tk (stF ns k) 4
  if a.1 = 0 then none
  else
    let b := tk a.2 2
    let c := tk b.2 4
    let d := tk c.2 12
    some (if b.1 = 0 then "left" else "right", (wordsF many (namesF (pk4 1 2 3 9 c.1).toNat d.1) d.2).1)
/-- words as they should be -/
def WdOk (many : Int) (w : Wd) : Prop := smV (.str w.1) = true ∧ smV w.2.1 = true ∧ dep w.2.1 ≤ 5 ∧ 0 ≤ w.2.2 ∧ w.2.2 < many
theorem wordsF_app (many : Int) : ∀ (xs : List Str) (x : Str) (s : Cs), wordsF many (xs ++ [x]) s = ((wordsF many xs s).1 ++ [(x, (shF 2 (wordsF many xs s).2).1, (tk (shF 2 (wordsF many xs s).2).2 many).1)], (tk (shF 2 (wordsF many xs s).2).2 many).2)
  | [], x, s => rfl
  | y :: xs, x, s => by
    show (let h := shF 2 s
      let t := tk h.2 many
      let r := wordsF many (xs ++ [x]) t.2
      ((y, h.1, t.1) :: r.1, r.2)) = _
    dsimp only
    rw [wordsF_app many xs x]
    rfl
set_option maxHeartbeats 0 in
theorem comp_words {p : Addr} {s : Cs} {many : Int} {M : Mem} {l : Nat} {xs : List Str} (hp : M p = some (.dic s.kvs)) (hm : 0 < many) (hm2 : many < 1000) (t0 : 0 ≤ s.t) (t1 : s.t ≤ 100000) (hl : 6 ≤ l) (hx : xs.length ≤ 9) (hsm : ∀ x ∈ xs, smV (.str x) = true) {env : Env} (e13 : env.length = 13) (e7 : slv env 7 = some (.loc p)) (e4 : slv env 4 = some (.int many)) {Q : AK}
    (hQ : (∀ w ∈ (wordsF many xs s).1, WdOk many w) → (wordsF many xs s).1.length = xs.length → Q ((wordsF many xs s).1.map wD) (M.upd p (.dic (wordsF many xs s).2.kvs))) :
    compW (stepC (run tab l) (.nm 12) .nopart (.tup (.cons (.var 12) (.cons (.call f_law_shape (.cons (.var 7) (.cons (.int 2) .nil))) (.cons (.call f_law_take (.cons (.var 7) (.cons (.var 4) .nil))) .nil))))) (fun _ => True) env (xs.map D.str) [] M Q := by
  have h2000 : 2000 ≤ sizeLine := by decide
  have c2 : cs 2 = 52 := rfl
  refine comp_inv (fun ds acc M' => ∃ gone rem : List Str, xs = gone ++ rem ∧ ds = rem.map D.str ∧ acc = (wordsF many gone s).1.map wD ∧ (wordsF many gone s).1.length = gone.length ∧ (∀ w ∈ (wordsF many gone s).1, WdOk many w) ∧ M' = M.upd p (.dic (wordsF many gone s).2.kvs) ∧ 0 ≤ (wordsF many gone s).2.t ∧ (wordsF many gone s).2.t ≤ s.t + 60 * (gone.length : Int)) ?_ ?_ _ _ _ ⟨[], xs, rfl, rfl, rfl, rfl, all_nil, ?_, t0, by show s.t ≤ s.t + 60 * ((0 : Nat) : Int); omega⟩
  · rintro d ds acc M' ⟨gone, rem, hg, hd, rfl, hwl, hw, rfl, g0, g1⟩
    match rem, hd with
    | x :: rem, hd =>
      rw [List.map_cons] at hd
      injection hd with hd1 hd2
      subst hd1
      have hgl : gone.length + 1 ≤ 9 := by
        have := congrArg List.length hg
        rw [List.length_append, List.length_cons] at this
        omega
      have hxs : smV (.str x) = true := hsm x (by rw [hg]; exact List.mem_append_right _ (List.mem_cons_self ..))
      obtain ⟨e0, e1, e2, e3, e4', e5, e6, e7', e8, e9, e10, e11, e12, rfl⟩ : ∃ e0 e1 e2 e3 e4 e5 e6 e7 e8 e9 e10 e11 e12, env = [e0, e1, e2, e3, e4, e5, e6, e7, e8, e9, e10, e11, e12] := by
        match env, e13 with
        | [a, b, c, d, e, f, g, h, i, j, k, l, m], _ => exact ⟨a, b, c, d, e, f, g, h, i, j, k, l, m, rfl⟩
      cases e7
      cases e4
      refine ⟨trivial, ?_⟩
      conv => whnf
      refine run_use (r_shape 2 p (wordsF many gone s).2 2 _ l rfl Mem.upd_same g0 (by omega) (by omega)) (Nat.le_refl _) fun v M1 h => ?_
      obtain ⟨rfl, rfl, w⟩ := h
      rw [Mem.upd_upd]
      have w0 := w.t0
      have w1 := w.t1
      conv => whnf
      refine use_take Mem.upd_same hm (Nat.lt_trans (log2_small (by omega)) (by decide)) w.t0 (by omega) (by omega) ?_
      rw [Mem.upd_upd]
      have b := tk_t (s := (shF 2 (wordsF many gone s).2).2) (many := many) w.t0
      have r := tk_rng (s := (shF 2 (wordsF many gone s).2).2) (many := many) hm
      refine ⟨lok rfl, ?_⟩
      refine ⟨by rw [List.length_map, hwl]; omega, gone ++ [x], rem, by rw [hg, List.append_assoc]; rfl, hd2, ?_, ?_, ?_, ?_, ?_, ?_⟩
      · rw [wordsF_app, List.map_append]
        rfl
      · rw [wordsF_app, List.length_append, List.length_append, hwl]; rfl
      · rw [wordsF_app]
        exact all_app hw (all_cons ⟨hxs, w.sm, w.de, r.1, r.2⟩ all_nil)
      · rw [wordsF_app]
      · rw [wordsF_app]; exact b.1
      · rw [wordsF_app, List.length_append, List.length_cons, List.length_nil]
        show (tk _ many).2.t ≤ _
        omega
  · rintro acc M' ⟨gone, rem, hg, hd, rfl, hwl, hw, rfl, g0, g1⟩
    match rem, hd with
    | [], hd =>
      rw [List.append_nil] at hg
      subst hg
      exact ⟨trivial, hQ hw hwl⟩
  · funext a
    by_cases e : a = p
    · subst e; rw [Mem.upd_same]; exact hp
    · rw [Mem.upd_ne e]
end Wp

/-! PfGram2: _law_grammar. -/
namespace Wp
open PySem
def GOk (many : Int) (g : GS) : Prop := match g with
  | none => True
  | some (sd, ws) => smV (.str sd) = true ∧ ws.length ≤ 9 ∧ ∀ w ∈ ws, WdOk many w
theorem wD_sm {many : Int} {w : Wd} (h : WdOk many w) (hm : many < 1000) : smV (wD w) = true ∧ dep (wD w) ≤ 6 :=
  ⟨smV_tp (by show 3 ≤ 1000; decide) (all_cons h.1 (all_cons h.2.1 (all_cons (decide_eq_true (by have := h.2.2.2; omega)) all_nil))), dep_tup (all_cons (Nat.zero_le _) (all_cons h.2.2.1 (all_cons (Nat.zero_le _) all_nil)))⟩
theorem dep_lst {ds : List D} {n : Nat} (h : ∀ x ∈ ds, dep x ≤ n) : dep (.lst ds) ≤ n + 1 := by
  show deps ds + 1 ≤ n + 1
  have := deps_le h
  omega
theorem gD_sm {many : Int} {g : GS} (h : GOk many g) (hm : many < 1000) : smV (gD g) = true ∧ dep (gD g) ≤ 8 := by
  cases g with
  | none => exact ⟨by decide +kernel, by decide⟩
  | some g =>
    obtain ⟨sd, ws⟩ := g
    obtain ⟨h1, h2, h3⟩ := h
    have a : ∀ x ∈ ws.map wD, smV x = true ∧ dep x ≤ 6 := fun x hx => by
      obtain ⟨w, hw, rfl⟩ := List.mem_map.mp hx
      exact wD_sm (h3 w hw) hm
    exact ⟨smV_tp (by show 2 ≤ 1000; decide) (all_cons h1 (all_cons (smV_ls (by rw [List.length_map]; omega) fun x hx => (a x hx).1) all_nil)), dep_tup (all_cons (Nat.zero_le _) (all_cons (dep_lst fun x hx => (a x hx).2) all_nil))⟩
/-- a state set beside ("end",) -/
theorem gs_data {many : Int} {g : GS} (h : GOk many g) (hm : many < 1000) (M : Mem) : ∃ q, toPyM M (gD g) = some q ∧ SeqAt.shaped q = true ∧ PyData.eqv q (.tuple [.str "end"]) = g.isNone := by
  cases g with
  | none => exact ⟨.tuple [.str "end"], rfl, by decide +kernel, by decide +kernel⟩
  | some g =>
    obtain ⟨sd, ws⟩ := g
    have hs := gD_sm h hm
    obtain ⟨q, e, c, d, r⟩ := toPy_sm hs.1
    have e2 : toPyM M (gD (some (sd, ws))) = some q := e
    refine ⟨q, e2, ?_, ?_⟩
    · show (q.canLay0 && decide (q.depth ≤ 64)) = true
      rw [c, decide_eq_true (by omega)]; rfl
    · have e3 : (toPys [.str sd, .lst (ws.map wD)]).map PyData.tuple = some q := e
      cases z : toPys [D.str sd, D.lst (ws.map wD)] with
      | none => rw [z] at e3; cases e3
      | some ps =>
        rw [z] at e3
        cases e3
        match ps, z with
        | [], z => exact absurd z (by
            intro z
            unfold toPys at z
            split at z
            · cases z
            · cases z)
        | [a], z => exact absurd z (by
            intro z
            unfold toPys at z
            split at z
            · rename_i h1 h2
              injection z with z
              injection z with z1 z2
              subst z2
              unfold toPys at h2
              split at h2
              · cases h2
              · cases h2
            · cases z)
        | a :: b :: r, z =>
          show PyData.eqv (.tuple (a :: b :: r)) (.tuple [.str "end"]) = false
          unfold PyData.eqv PyData.eqvAll
          have : PyData.eqvAll (b :: r) [] = false := by unfold PyData.eqvAll; rfl
          rw [this, Bool.and_false]
theorem gs_eq {many : Int} {g : GS} (h : GOk many g) (hm : many < 1000) {neg : Bool} {M : Mem} {Q : QK} (hQ : Q (.bl (if neg then !g.isNone else g.isNone)) M) : eqW neg (gD g) (.tup [.str "end"]) M Q := by
  obtain ⟨q, e1, e2, e3⟩ := gs_data h hm M
  have : eqW neg (gD g) (.tup [.str "end"]) M Q = eqP neg (gD g) (.tup [.str "end"]) M Q := by
    cases g with
    | none => rfl
    | some g => rfl
  rw [this]
  unfold eqP
  rw [e1]
  refine ⟨e2, by decide +kernel, ?_⟩
  rw [e3]
  exact hQ
def goS (many : Int) : GS := some ("right", [("go", .tup [.str "number", .int 0, .int 1], many - 1), ("on", .tup [.str "nothing"], 0)])
theorem goS_ok {many : Int} (h : 0 < many) : GOk many (goS many) := ⟨by decide +kernel, by show 2 ≤ 9; decide, all_cons ⟨(by decide +kernel : smV (.str "go") = true), (by decide +kernel : smV (.tup [.str "number", .int 0, .int 1]) = true), (by decide : dep (.tup [.str "number", .int 0, .int 1]) ≤ 5), by show 0 ≤ many - 1; omega, by show many - 1 < many; omega⟩ (all_cons ⟨by decide +kernel, by decide +kernel, by decide, by show (0 : Int) ≤ 0; omega, by show 0 < many; omega⟩ all_nil)⟩
def gramF (ns : List Int) (first most : Nat) : List GS :=
  let sh := cellF ns 0 / 2
  let many := 1 + sh % (most : Int)
  let g := (List.range many.toNat).map fun j => stateF ns (first + j) many
  match g with
  | none :: r => if sh / (most : Int) % 4 > 0 then goS many :: r else g
  | g => g
theorem wordsF_ok {many : Int} (hm : 0 < many) : ∀ (xs : List Str) (s : Cs), (wordsF many xs s).1.length = xs.length
  | [], s => rfl
  | x :: xs, s => congrArg Nat.succ (wordsF_ok hm xs _)
set_option maxHeartbeats 0 in
theorem r_grammar {ns : List Int} {first most : Nat} {fi mi : Int} (hfi : fi = (first : Int)) (hmi : mi = (most : Int)) (hf : first ≤ 100) (hm0 : 1 ≤ most) (hm1 : most ≤ 30) {M : Mem} (l : Nat) (hl : 8 ≤ l) :
    run tab l f_law_grammar [.scr ns, .int fi, .int mi] M (fun v M' => v = .lst ((gramF ns first most).map gD) ∧ (1 + cellF ns 0 / 2 % (most : Int)).toNat = (gramF ns first most).length ∧ ∀ g ∈ gramF ns first most, GOk (1 + cellF ns 0 / 2 % (most : Int)) g) fun _ _ => False := by
  obtain ⟨l, rfl⟩ : ∃ j, l = j + 1 := ⟨l - 1, by omega⟩
  have h2000 : 2000 ≤ sizeLine := by decide
  subst hfi hmi
  refine run_in rfl rfl ?_
  conv => whnf
  refine run_is (r_cell (k := 0) rfl (by omega) l (by omega)) (Nat.le_refl _) ?_
  conv => whnf
  refine ⟨by decide, by decide, ?_⟩
  conv => whnf
  refine ⟨by omega, ?_⟩
  conv => whnf
  refine ⟨lok rfl, fun q hq => ?_⟩
  conv => whnf
  have p0 := Int.emod_nonneg (cellF ns 0 / 2) (show (most : Int) ≠ 0 by omega)
  have p1 := Int.emod_lt_of_pos (cellF ns 0 / 2) (show (0 : Int) < (most : Int) by omega)
  have hg : gramF ns first most = match (List.range (1 + cellF ns 0 / 2 % (most : Int)).toNat).map fun j => stateF ns (first + j) (1 + cellF ns 0 / 2 % (most : Int)) with
    | none :: r => if cellF ns 0 / 2 / (most : Int) % 4 > 0 then goS (1 + cellF ns 0 / 2 % (most : Int)) :: r else (List.range (1 + cellF ns 0 / 2 % (most : Int)).toNat).map fun j => stateF ns (first + j) (1 + cellF ns 0 / 2 % (most : Int))
    | g => g := rfl
  generalize hmn : 1 + cellF ns 0 / 2 % (most : Int) = many at hg p0 p1 ⊢
  have hmp : 0 < many := by omega
  have hml : many ≤ 30 := by omega
  refine ⟨⟨by omega, by omega⟩, ?_⟩
  refine each_inv (fun rem env M' => ∃ (j : Nat) (e6 e7 e8 e9 e10 e11 e12 : Option D), env = [some (.scr ns), some (.int (first : Nat)), some (.int (most : Nat)), some (.int (cellF ns 0 / 2)), some (.int many), some (.loc q), e6, e7, e8, e9, e10, e11, e12] ∧ rem = rng (j : Int) (many.toNat - j) ∧ j ≤ many.toNat ∧ M' q = some (.lst (((List.range j).map fun i => stateF ns (first + i) many).map gD)) ∧ ∀ i < j, GOk many (stateF ns (first + i) many)) ?_ ?_ _ _ _ ⟨0, none, none, none, none, none, none, none, rfl, rfl, Nat.zero_le _, Mem.upd_same, fun i hi => absurd hi (Nat.not_lt_zero _)⟩
  · rintro x rem env M1 ⟨j, e6, e7, e8, e9, e10, e11, e12, rfl, hr, hj, hmq, hok⟩
    by_cases hje : j = many.toNat
    · rw [hje, Nat.sub_self] at hr
      cases hr
    obtain ⟨w, hw⟩ : ∃ w, many.toNat - j = w + 1 := ⟨many.toNat - j - 1, by omega⟩
    have hr2 : x = .int (j : Int) ∧ rem = rng ((j + 1 : Nat) : Int) (many.toNat - (j + 1)) := by
      rw [hw] at hr
      unfold rng at hr ⊢
      rw [List.range_succ_eq_map, List.map_cons, List.map_map] at hr
      injection hr with h1 h2
      refine ⟨by rw [h1]; show D.int _ = D.int _; congr 1, ?_⟩
      rw [h2, show many.toNat - (j + 1) = w by omega]
      refine List.map_congr_left fun i _ => ?_
      show D.int _ = D.int _
      congr 1
      show (j : Int) + ((i + 1 : Nat) : Int) = ((j + 1 : Nat) : Int) + (i : Int)
      omega
    obtain ⟨rfl, rfl⟩ := hr2
    refine ⟨trivial, ?_⟩
    conv => whnf
    refine run_use (r_state (k := first + j) (by omega) (by omega) l (by omega)) (Nat.le_refl _) fun v M2 h => ?_
    obtain ⟨p, rfl, hp, rfl⟩ := h
    have pq : q ≠ p := Mem.fresh_ne hmq hp
    have t0 : (0 : Int) ≤ (stF ns (first + j)).t := by show (0 : Int) ≤ ((first + j : Nat) : Int); omega
    have t1 : (stF ns (first + j)).t ≤ 1000 := by show ((first + j : Nat) : Int) ≤ 1000; omega
    have a1 := tk_t (s := stF ns (first + j)) (many := 4) t0
    conv => whnf
    refine use_take Mem.upd_same (by decide) (by decide) t0 (by omega) (by omega) ?_
    rw [Mem.upd_upd]
    conv => whnf
    have es : stateF ns (first + j) many = if (tk (stF ns (first + j)) 4).1 = 0 then none else some ((if (tk (tk (stF ns (first + j)) 4).2 2).1 = 0 then ("left" : Str) else "right"), (wordsF many (namesF (pk4 1 2 3 9 (tk (tk (tk (stF ns (first + j)) 4).2 2).2 4).1).toNat (tk (tk (tk (tk (stF ns (first + j)) 4).2 2).2 4).2 12).1) (tk (tk (tk (tk (stF ns (first + j)) 4).2 2).2 4).2 12).2).1) := rfl
    have hrow : ∀ (g : GS), stateF ns (first + j) many = g → ((List.range j).map fun i => stateF ns (first + i) many).map gD ++ [gD g] = ((List.range (j + 1)).map fun i => stateF ns (first + i) many).map gD := fun g hg => by
      rw [List.range_succ, List.map_append, List.map_append]
      show _ = _ ++ [gD (stateF ns (first + j) many)]
      rw [hg]
    have hlen : (((List.range j).map fun i => stateF ns (first + i) many).map gD).length < sizeLine := by
      rw [List.length_map, List.length_map, List.length_range]; omega
    have hok2 : ∀ (g : GS), stateF ns (first + j) many = g → GOk many g → ∀ i < j + 1, GOk many (stateF ns (first + i) many) := fun g hg ho i hi => by
      by_cases e : i = j
      · rw [e, hg]; exact ho
      · exact hok i (by omega)
    by_cases k0 : (tk (stF ns (first + j)) 4).1 = 0
    · rw [decide_eq_true k0]
      rw [if_pos k0] at es
      conv => whnf
      have m1 : (M1.upd p (.dic (tk (stF ns (first + j)) 4).2.kvs)) q = some (.lst (((List.range j).map fun i => stateF ns (first + i) many).map gD)) := by rw [Mem.upd_ne pq]; exact hmq
      refine ⟨rcv_loc (by decide) m1, ?_⟩
      conv => whnf
      refine ⟨lok rfl, ?_⟩
      conv => whnf
      rw [m1]
      refine ⟨hlen, ?_⟩
      refine ⟨j + 1, _, _, _, _, _, _, _, rfl, rfl, by omega, ?_, hok2 none es trivial⟩
      rw [Mem.upd_same]
      exact congrArg (fun z => some (Ob.lst z)) (hrow none es)
    · rw [decide_eq_false k0]
      rw [if_neg k0] at es
      conv => whnf
      refine ⟨lok rfl, ?_⟩
      conv => whnf
      refine use_take Mem.upd_same (by decide) (by decide) a1.1 (by omega) (by omega) ?_
      rw [Mem.upd_upd]
      have a2 := tk_t (s := (tk (stF ns (first + j)) 4).2) (many := 2) a1.1
      have r2 := tk_rng (s := (tk (stF ns (first + j)) 4).2) (many := 2) (by decide)
      conv => whnf
      rw [show atI [D.str "left", D.str "right"] (tk (tk (stF ns (first + j)) 4).2 2).1 = some (.str (if (tk (tk (stF ns (first + j)) 4).2 2).1 = 0 then "left" else "right")) from by
        rcases (show (tk (tk (stF ns (first + j)) 4).2 2).1 = 0 ∨ (tk (tk (stF ns (first + j)) 4).2 2).1 = 1 by omega) with z | z
        · rw [z]; rfl
        · rw [z]; rfl]
      conv => whnf
      refine ⟨lok rfl, ?_⟩
      conv => whnf
      refine use_take Mem.upd_same (by decide) (by decide) a2.1 (by omega) (by omega) ?_
      rw [Mem.upd_upd]
      have a3 := tk_t (s := (tk (tk (stF ns (first + j)) 4).2 2).2) (many := 4) a2.1
      have r3 := tk_rng (s := (tk (tk (stF ns (first + j)) 4).2 2).2) (many := 4) (by decide)
      conv => whnf
      rw [pk4_at r3.1 r3.2]
      conv => whnf
      refine use_take Mem.upd_same (by decide) (by decide) a3.1 (by omega) (by omega) ?_
      rw [Mem.upd_upd]
      have a4 := tk_t (s := (tk (tk (tk (stF ns (first + j)) 4).2 2).2 4).2) (many := 12) a3.1
      have pin := pk4_in (a := 1) (b := 2) (c := 3) (d := 9) (i := (tk (tk (tk (stF ns (first + j)) 4).2 2).2 4).1) (lo := 1) (hi := 9) (by decide) (by decide) (by decide) (by decide)
      refine run_is (r_names (many := (pk4 1 2 3 9 (tk (tk (tk (stF ns (first + j)) 4).2 2).2 4).1).toNat) (by omega) (by omega) l (by omega)) (Nat.le_refl _) ?_
      conv => whnf
      have hnl : (namesF (pk4 1 2 3 9 (tk (tk (tk (stF ns (first + j)) 4).2 2).2 4).1).toNat (tk (tk (tk (tk (stF ns (first + j)) 4).2 2).2 4).2 12).1).length ≤ 9 := by
        unfold namesF
        rw [List.length_map, List.length_range]; omega
      refine comp_words (s := (tk (tk (tk (tk (stF ns (first + j)) 4).2 2).2 4).2 12).2) Mem.upd_same hmp (by omega) a4.1 (by omega) (by omega) hnl (fun x hx => by
        unfold namesF at hx
        obtain ⟨i, _, rfl⟩ := List.mem_map.mp hx
        exact nmAt_sm _) rfl rfl rfl fun hw hwl => ?_
      rw [Mem.upd_upd]
      refine newL_fz (by rw [List.length_map]; omega) ?_
      conv => whnf
      have m1 : (M1.upd p (.dic (wordsF many (namesF (pk4 1 2 3 9 (tk (tk (tk (stF ns (first + j)) 4).2 2).2 4).1).toNat (tk (tk (tk (tk (stF ns (first + j)) 4).2 2).2 4).2 12).1) (tk (tk (tk (tk (stF ns (first + j)) 4).2 2).2 4).2 12).2).2.kvs)) q = some (.lst (((List.range j).map fun i => stateF ns (first + i) many).map gD)) := by rw [Mem.upd_ne pq]; exact hmq
      refine ⟨rcv_loc (by decide) m1, ?_⟩
      conv => whnf
      refine ⟨lok rfl, ?_⟩
      conv => whnf
      rw [m1]
      refine ⟨hlen, ?_⟩
      refine ⟨j + 1, _, _, _, _, _, _, _, rfl, rfl, by omega, ?_, hok2 _ es ⟨?_, by omega, hw⟩⟩
      · rw [Mem.upd_same]
        exact congrArg (fun z => some (Ob.lst z)) (hrow _ es)
      · split
        · decide +kernel
        · decide +kernel
  · rintro env M1 ⟨j, e6, e7, e8, e9, e10, e11, e12, rfl, hr, hj, hmq, hok⟩
    have hje : j = many.toNat := by
      have := congrArg List.length hr
      unfold rng at this
      rw [List.length_map, List.length_range, List.length_nil] at this
      omega
    subst hje
    have hall : ∀ g ∈ (List.range many.toNat).map fun i => stateF ns (first + i) many, GOk many g := fun g hgm => by
      obtain ⟨i, hi, rfl⟩ := List.mem_map.mp hgm
      exact hok i (List.mem_range.mp hi)
    have hgl : ((List.range many.toNat).map fun i => stateF ns (first + i) many).length = many.toNat := by rw [List.length_map, List.length_range]
    generalize ((List.range many.toNat).map fun i => stateF ns (first + i) many) = gs at hg hmq hall hgl
    match gs, hgl with
    | [], hgl => rw [List.length_nil] at hgl; omega
    | g0 :: gr, hgl =>
      have hg0 := hall g0 (List.mem_cons_self ..)
      refine ⟨trivial, ?_⟩
      conv => whnf
      rw [asS_loc hmq]
      conv => whnf
      rw [show atI (List.map gD (g0 :: gr)) 0 = some (gD g0) from by
        unfold atI
        rw [ixN_in (by decide) (by rw [List.length_map, List.length_cons]; omega)]
        rfl]
      conv => whnf
      refine ⟨lok rfl, ?_⟩
      obtain ⟨gq, e1, e2, e3⟩ := gs_data hg0 (by omega) M1
      cases g0 with
      | some g0 =>
        conv => whnf
        rw [e1]
        refine ⟨e2, by decide +kernel, ?_⟩
        rw [e3]
        conv => whnf
        refine .step hmq (by rw [repD_loc]; exact .done ⟨by rw [hg], by rw [hg]; exact hgl.symm, by rw [hg]; exact hall⟩)
      | none =>
        conv => whnf
        refine ⟨by decide +kernel, by decide +kernel, ?_⟩
        conv => whnf
        refine ⟨by omega, ?_⟩
        refine ⟨Nat.lt_trans (log2_small (by omega)) (by decide), ?_⟩
        conv => whnf
        refine ⟨by decide, ?_⟩
        conv => whnf
        by_cases hs : cellF ns 0 / 2 / (most : Int) % 4 > 0
        · rw [decide_eq_true hs]
          have hg : gramF ns first most = goS many :: gr := hg.trans (if_pos hs)
          conv => whnf
          refine ⟨lok rfl, ?_⟩
          conv => whnf
          refine ⟨lok rfl, ?_⟩
          conv => whnf
          refine ⟨lok rfl, ?_⟩
          conv => whnf
          refine ⟨lok rfl, ?_⟩
          conv => whnf
          refine ⟨lok rfl, ?_⟩
          conv => whnf
          refine ⟨lok rfl, ?_⟩
          conv => whnf
          rw [hmq]
          conv => whnf
          rw [show ixN (List.map gD (none :: gr)).length 0 = some 0 from by
            rw [ixN_in (by decide) (by rw [List.length_map, List.length_cons]; omega)]
            rfl]
          conv => whnf
          refine .step Mem.upd_same (by rw [repD_loc]; exact .done ⟨by rw [hg]; rfl, by rw [hg]; exact hgl.symm, by
            rw [hg]
            exact all_cons (goS_ok hmp) fun g hg => hall g (List.mem_cons_of_mem _ hg)⟩)
        · rw [decide_eq_false hs]
          have hg : gramF ns first most = none :: gr := hg.trans (if_neg hs)
          conv => whnf
          refine .step hmq (by rw [repD_loc]; exact .done ⟨by rw [hg], by rw [hg]; exact hgl.symm, by rw [hg]; exact hall⟩)
end Wp

/-! PwPl: plain data (no truths) set beside one another: alike just where they are the same. -/
namespace Wp
open PySem
mutual
def plV : D → Bool
  | .non => true
  | .int _ => true
  | .str z => PyData.strOk z
  | .tup ds => plVs ds
  | .lst ds => plVs ds
  | _ => false
def plVs : List D → Bool
  | [] => true
  | d :: ds => plV d && plVs ds
end
theorem plVs_of : ∀ {ds : List D}, plVs ds = true → ∀ d ∈ ds, plV d = true
  | [], _, d, hd => by cases hd
  | x :: ds, h, d, hd => by
    unfold plVs at h
    rw [Bool.and_eq_true] at h
    cases hd with
    | head => exact h.1
    | tail _ hd => exact plVs_of h.2 d hd
theorem plVs_iff : ∀ {ds : List D}, (∀ d ∈ ds, plV d = true) → plVs ds = true
  | [], _ => by unfold plVs; rfl
  | x :: ds, h => by
    unfold plVs
    rw [Bool.and_eq_true]
    exact ⟨h x (List.mem_cons_self ..), plVs_iff fun d hd => h d (List.mem_cons_of_mem _ hd)⟩
theorem plV_ls {ds : List D} (h : ∀ d ∈ ds, plV d = true) : plV (.lst ds) = true := by unfold plV; exact plVs_iff h
theorem plV_tp {ds : List D} (h : ∀ d ∈ ds, plV d = true) : plV (.tup ds) = true := by unfold plV; exact plVs_iff h
theorem plV_ints (bs : List Int) : plV (.lst (bs.map D.int)) = true := plV_ls fun d hd => by
  obtain ⟨b, _, rfl⟩ := List.mem_map.mp hd
  unfold plV; rfl
mutual
theorem toPy_pl : ∀ {v : D}, plV v = true → ∃ p, toPy v = some p ∧ p.canLay0 = true ∧ p.depth ≤ dep v
  | .non, _ => ⟨.none, rfl, by decide, by decide⟩
  | .int i, _ => ⟨.int i, rfl, rfl, by unfold PyData.depth; exact Nat.zero_le _⟩
  | .str z, h => ⟨.str z, rfl, by unfold plV at h; exact h, by unfold PyData.depth; exact Nat.zero_le _⟩
  | .tup ds, h => by
    unfold plV at h
    obtain ⟨ps, e, c, d⟩ := toPys_pl (plVs_of h)
    refine ⟨.tuple ps, by unfold toPy; rw [e]; rfl, by unfold PyData.canLay0; exact c, ?_⟩
    unfold PyData.depth dep
    omega
  | .lst ds, h => by
    unfold plV at h
    obtain ⟨ps, e, c, d⟩ := toPys_pl (plVs_of h)
    refine ⟨.list ps, by unfold toPy; rw [e]; rfl, by unfold PyData.canLay0; exact c, ?_⟩
    unfold PyData.depth dep
    omega
  | .bl _, h => by unfold plV at h; cases h
  | .scr _, h => by unfold plV at h; cases h
  | .emp, h => by unfold plV at h; cases h
  | .loc _, h => by unfold plV at h; cases h
theorem toPys_pl : ∀ {ds : List D}, (∀ d ∈ ds, plV d = true) → ∃ ps, toPys ds = some ps ∧ PyData.canLayAll0 ps = true ∧ PyData.depthAll ps ≤ deps ds
  | [], _ => ⟨[], rfl, by decide, by decide⟩
  | d :: ds, h => by
    obtain ⟨p, e, c, dd⟩ := toPy_pl (h d (List.mem_cons_self ..))
    obtain ⟨ps, e2, c2, dd2⟩ := toPys_pl (ds := ds) fun x hx => h x (List.mem_cons_of_mem _ hx)
    refine ⟨p :: ps, by unfold toPys; rw [e, e2], by unfold PyData.canLayAll0; rw [c, c2]; rfl, ?_⟩
    unfold PyData.depthAll deps
    omega
end
theorem toPys_consH {d : D} {ds : List D} {ps : List PyData} (h : toPys (d :: ds) = some ps) : ∃ p qs, toPy d = some p ∧ toPys ds = some qs ∧ ps = p :: qs := by
  unfold toPys at h
  split at h
  · rename_i p qs e1 e2
    cases h
    exact ⟨p, qs, e1, e2, rfl⟩
  · cases h
mutual
theorem eqv_pl : ∀ {v w : D} {p q : PyData}, plV v = true → plV w = true → toPy v = some p → toPy w = some q → (PyData.eqv p q = true ↔ v = w)
  | .non, w, p, q, hv, hw, ev, ew => by
    cases ev
    cases w
    case non => cases ew; exact ⟨fun _ => rfl, fun _ => by unfold PyData.eqv; rfl⟩
    case int => cases ew; exact ⟨fun h => (by unfold PyData.eqv at h; cases h), fun h => (by cases h)⟩
    case str => cases ew; exact ⟨fun h => (by unfold PyData.eqv at h; cases h), fun h => (by cases h)⟩
    case tup ds =>
      obtain ⟨ps, e, _⟩ := toPys_pl (plVs_of (by unfold plV at hw; exact hw) : ∀ d ∈ ds, plV d = true)
      unfold toPy at ew; rw [e] at ew; cases ew
      exact ⟨fun h => (by unfold PyData.eqv at h; cases h), fun h => (by cases h)⟩
    case lst ds =>
      obtain ⟨ps, e, _⟩ := toPys_pl (plVs_of (by unfold plV at hw; exact hw) : ∀ d ∈ ds, plV d = true)
      unfold toPy at ew; rw [e] at ew; cases ew
      exact ⟨fun h => (by unfold PyData.eqv at h; cases h), fun h => (by cases h)⟩
    all_goals (unfold plV at hw; cases hw)
  | .int i, w, p, q, hv, hw, ev, ew => by
    cases ev
    cases w
    case non => cases ew; exact ⟨fun h => (by unfold PyData.eqv at h; cases h), fun h => (by cases h)⟩
    case int j =>
      cases ew
      refine ⟨fun h => ?_, fun h => ?_⟩
      · unfold PyData.eqv at h
        rw [eq_of_beq h]
      · cases h
        unfold PyData.eqv
        exact beq_self_eq_true i
    case str => cases ew; exact ⟨fun h => (by unfold PyData.eqv at h; cases h), fun h => (by cases h)⟩
    case tup ds =>
      obtain ⟨ps, e, _⟩ := toPys_pl (plVs_of (by unfold plV at hw; exact hw) : ∀ d ∈ ds, plV d = true)
      unfold toPy at ew; rw [e] at ew; cases ew
      exact ⟨fun h => (by unfold PyData.eqv at h; cases h), fun h => (by cases h)⟩
    case lst ds =>
      obtain ⟨ps, e, _⟩ := toPys_pl (plVs_of (by unfold plV at hw; exact hw) : ∀ d ∈ ds, plV d = true)
      unfold toPy at ew; rw [e] at ew; cases ew
      exact ⟨fun h => (by unfold PyData.eqv at h; cases h), fun h => (by cases h)⟩
    all_goals (unfold plV at hw; cases hw)
  | .str z, w, p, q, hv, hw, ev, ew => by
    cases ev
    cases w
    case non => cases ew; exact ⟨fun h => (by unfold PyData.eqv at h; cases h), fun h => (by cases h)⟩
    case int => cases ew; exact ⟨fun h => (by unfold PyData.eqv at h; cases h), fun h => (by cases h)⟩
    case str y =>
      cases ew
      refine ⟨fun h => ?_, fun h => ?_⟩
      · unfold PyData.eqv at h
        rw [eq_of_beq h]
      · cases h
        unfold PyData.eqv
        exact beq_self_eq_true z
    case tup ds =>
      obtain ⟨ps, e, _⟩ := toPys_pl (plVs_of (by unfold plV at hw; exact hw) : ∀ d ∈ ds, plV d = true)
      unfold toPy at ew; rw [e] at ew; cases ew
      exact ⟨fun h => (by unfold PyData.eqv at h; cases h), fun h => (by cases h)⟩
    case lst ds =>
      obtain ⟨ps, e, _⟩ := toPys_pl (plVs_of (by unfold plV at hw; exact hw) : ∀ d ∈ ds, plV d = true)
      unfold toPy at ew; rw [e] at ew; cases ew
      exact ⟨fun h => (by unfold PyData.eqv at h; cases h), fun h => (by cases h)⟩
    all_goals (unfold plV at hw; cases hw)
  | .tup xs, w, p, q, hv, hw, ev, ew => by
    unfold plV at hv
    obtain ⟨ps, e, _⟩ := toPys_pl (plVs_of hv)
    unfold toPy at ev; rw [e] at ev; cases ev
    cases w
    case non => cases ew; exact ⟨fun h => (by unfold PyData.eqv at h; cases h), fun h => (by cases h)⟩
    case int => cases ew; exact ⟨fun h => (by unfold PyData.eqv at h; cases h), fun h => (by cases h)⟩
    case str => cases ew; exact ⟨fun h => (by unfold PyData.eqv at h; cases h), fun h => (by cases h)⟩
    case tup ds =>
      unfold plV at hw
      obtain ⟨qs, e2, _⟩ := toPys_pl (plVs_of hw)
      unfold toPy at ew; rw [e2] at ew; cases ew
      have k := eqvs_pl (plVs_of hv) (plVs_of hw) e e2
      unfold PyData.eqv
      rw [k]
      exact ⟨fun h => by rw [h], fun h => by cases h; rfl⟩
    case lst ds =>
      obtain ⟨ps, e, _⟩ := toPys_pl (plVs_of (by unfold plV at hw; exact hw) : ∀ d ∈ ds, plV d = true)
      unfold toPy at ew; rw [e] at ew; cases ew
      exact ⟨fun h => (by unfold PyData.eqv at h; cases h), fun h => (by cases h)⟩
    all_goals (unfold plV at hw; cases hw)
  | .lst xs, w, p, q, hv, hw, ev, ew => by
    unfold plV at hv
    obtain ⟨ps, e, _⟩ := toPys_pl (plVs_of hv)
    unfold toPy at ev; rw [e] at ev; cases ev
    cases w
    case non => cases ew; exact ⟨fun h => (by unfold PyData.eqv at h; cases h), fun h => (by cases h)⟩
    case int => cases ew; exact ⟨fun h => (by unfold PyData.eqv at h; cases h), fun h => (by cases h)⟩
    case str => cases ew; exact ⟨fun h => (by unfold PyData.eqv at h; cases h), fun h => (by cases h)⟩
    case lst ds =>
      unfold plV at hw
      obtain ⟨qs, e2, _⟩ := toPys_pl (plVs_of hw)
      unfold toPy at ew; rw [e2] at ew; cases ew
      have k := eqvs_pl (plVs_of hv) (plVs_of hw) e e2
      unfold PyData.eqv
      rw [k]
      exact ⟨fun h => by rw [h], fun h => by cases h; rfl⟩
    case tup ds =>
      obtain ⟨ps, e, _⟩ := toPys_pl (plVs_of (by unfold plV at hw; exact hw) : ∀ d ∈ ds, plV d = true)
      unfold toPy at ew; rw [e] at ew; cases ew
      exact ⟨fun h => (by unfold PyData.eqv at h; cases h), fun h => (by cases h)⟩
    all_goals (unfold plV at hw; cases hw)
  | .bl _, _, _, _, h, _, _, _ => by unfold plV at h; cases h
  | .scr _, _, _, _, h, _, _, _ => by unfold plV at h; cases h
  | .emp, _, _, _, h, _, _, _ => by unfold plV at h; cases h
  | .loc _, _, _, _, h, _, _, _ => by unfold plV at h; cases h
theorem eqvs_pl : ∀ {vs ws : List D} {ps qs : List PyData}, (∀ d ∈ vs, plV d = true) → (∀ d ∈ ws, plV d = true) → toPys vs = some ps → toPys ws = some qs → (PyData.eqvAll ps qs = true ↔ vs = ws)
  | [], ws, ps, qs, hv, hw, ev, ew => by
    cases ev
    cases ws with
    | nil => cases ew; exact ⟨fun _ => rfl, fun _ => by unfold PyData.eqvAll; rfl⟩
    | cons w ws =>
      obtain ⟨q, qs, _, _, rfl⟩ := toPys_consH ew
      exact ⟨fun h => (by unfold PyData.eqvAll at h; cases h), fun h => (by cases h)⟩
  | v :: vs, ws, ps, qs, hv, hw, ev, ew => by
    obtain ⟨p, ps, e1, e2, rfl⟩ := toPys_consH ev
    cases ws with
    | nil =>
      cases ew
      exact ⟨fun h => (by unfold PyData.eqvAll at h; cases h), fun h => (by cases h)⟩
    | cons w ws =>
      obtain ⟨q, qs, e3, e4, rfl⟩ := toPys_consH ew
      have a := eqv_pl (hv v (List.mem_cons_self ..)) (hw w (List.mem_cons_self ..)) e1 e3
      have b := eqvs_pl (fun d hd => hv d (List.mem_cons_of_mem _ hd)) (fun d hd => hw d (List.mem_cons_of_mem _ hd)) e2 e4
      unfold PyData.eqvAll
      rw [Bool.and_eq_true, a, b]
      exact ⟨fun h => by rw [h.1, h.2], fun h => by cases h; exact ⟨rfl, rfl⟩⟩
end
theorem toPy1_pl {M : Mem} {v : D} (h : plV v = true) : toPy1 M v = toPy v := by
  cases v <;> first
    | rfl
    | (unfold plV at h; cases h)
theorem toPys1_pl {M : Mem} : ∀ {ds : List D}, (∀ d ∈ ds, plV d = true) → toPys1 M ds = toPys ds
  | [], _ => rfl
  | d :: ds, h => by
    unfold toPys1 toPys
    rw [toPy1_pl (h d (List.mem_cons_self ..)), toPys1_pl fun x hx => h x (List.mem_cons_of_mem _ hx)]
theorem toPyM_pl {M : Mem} {v : D} (h : plV v = true) : toPyM M v = toPy v := by
  cases v with
  | tup ds =>
    have h2 : plVs ds = true := by unfold plV at h; exact h
    show (toPys1 M ds).map PyData.tuple = (toPys ds).map PyData.tuple
    rw [toPys1_pl (plVs_of h2)]
  | _ => exact toPy1_pl (M := M) h
theorem shaped_pl {v : D} {p : PyData} (h : plV v = true) (hd : dep v ≤ 60) (e : toPy v = some p) : SeqAt.shaped p = true := by
  obtain ⟨q, e2, c, d⟩ := toPy_pl h
  rw [e] at e2
  cases e2
  show (p.canLay0 && decide (p.depth ≤ 64)) = true
  rw [c, decide_eq_true (by omega)]; rfl
/-- by values -/
theorem eqP_pl {v w : D} {neg : Bool} {M : Mem} {Q : QK} (hv : plV v = true) (hw : plV w = true) (dv : dep v ≤ 60) (dw : dep w ≤ 60) (h1 : v = w → Q (.bl (!neg)) M) (h2 : v ≠ w → Q (.bl neg) M) : eqP neg v w M Q := by
  obtain ⟨p, ep, _⟩ := toPy_pl hv
  obtain ⟨q, eq, _⟩ := toPy_pl hw
  unfold eqP
  rw [toPyM_pl hv, toPyM_pl hw, ep, eq]
  refine ⟨shaped_pl hv dv ep, shaped_pl hw dw eq, ?_⟩
  have k := eqv_pl hv hw ep eq
  by_cases e : v = w
  · rw [k.mpr e]
    cases neg <;> exact h1 e
  · rw [Bool.eq_false_iff.mpr fun z => e (k.mp z)]
    cases neg <;> exact h2 e
theorem eqL_pl {v w : D} {neg : Bool} {M : Mem} {Q : QK} (hv : plV v = true) (hw : plV w = true) (dv : dep v ≤ 60) (dw : dep w ≤ 60) (h1 : v = w → Q (.bl (!neg)) M) (h2 : v ≠ w → Q (.bl neg) M) : eqL neg v w M Q := by
  unfold eqL
  have P := eqP_pl (neg := neg) (M := M) (Q := Q) hv hw dv dw h1 h2
  cases q1 : asL M v with
  | none =>
    dsimp only
    cases q3 : eqU v w with
    | false => exact P
    | true => exact h2 fun z => by subst z; cases v <;> first | (cases q3; done) | (rename_i ds; cases ds <;> cases q3)
  | some xs =>
    cases q2 : asL M w with
    | none =>
      dsimp only
      cases q3 : eqU v w with
      | false => exact P
      | true => exact h2 fun z => by subst z; cases v <;> first | (cases q3; done) | (rename_i ds; cases ds <;> cases q3)
    | some ys =>
      dsimp only
      by_cases hl : xs.length = ys.length
      · rw [if_pos hl]; exact P
      · rw [if_neg hl]
        refine h2 fun z => hl ?_
        subst z
        rw [q1] at q2
        cases q2
        rfl
theorem eqA_pl {v w : D} (hv : plV v = true) (hw : plV w = true) {A : Bool → Prop} {G : Prop} (hA : v = w → A true) (hB : v ≠ w → A false) (hG : G) : (match eqA v w with
    | some b => A b
    | none => G) := by
  have key : eqA v w = none ∨ (v = w ∧ eqA v w = some true) ∨ (v ≠ w ∧ eqA v w = some false) := by
    cases v <;> cases w <;> first
      | exact .inl rfl
      | exact .inr (.inl ⟨rfl, rfl⟩)
      | exact .inr (.inr ⟨fun z => (by cases z), rfl⟩)
      | (unfold plV at hv; cases hv; done)
      | (unfold plV at hw; cases hw; done)
      | skip
    all_goals
      rename_i a b
      by_cases e : a = b
      · subst e
        exact .inr (.inl ⟨rfl, congrArg some (decide_eq_true rfl)⟩)
      · exact .inr (.inr ⟨fun z => e (by cases z; rfl), congrArg some (decide_eq_false e)⟩)
  rcases key with e | ⟨z, e⟩ | ⟨z, e⟩
  · rw [e]; exact hG
  · rw [e]; exact hA z
  · rw [e]; exact hB z
theorem eqW_pl {v w : D} {neg : Bool} {M : Mem} {Q : QK} (hv : plV v = true) (hw : plV w = true) (dv : dep v ≤ 60) (dw : dep w ≤ 60) (h1 : v = w → Q (.bl (!neg)) M) (h2 : v ≠ w → Q (.bl neg) M) : eqW neg v w M Q := by
  unfold eqW
  refine eqA_pl (A := fun b => Q (.bl (if neg then !b else b)) M) hv hw (fun e => ?_) (fun e => ?_) (eqL_pl hv hw dv dw h1 h2)
  · have := h1 e; cases neg <;> exact this
  · have := h2 e; cases neg <;> exact this
/-- .. as whnf leaves it -/
theorem plM {v w : D} {A : Bool → Prop} {G : Prop} (hv : plV v = true) (hw : plV w = true) (hG : (v = w → A true) → (v ≠ w → A false) → G) (h1 : v = w → A true) (h2 : v ≠ w → A false) : (match eqA v w with
    | some b => A b
    | none => G) := eqA_pl hv hw h1 h2 (hG h1 h2)
theorem cmpEq_pl {v w : D} {M : Mem} {Q : QK} (hv : plV v = true) (hw : plV w = true) (dv : dep v ≤ 60) (dw : dep w ≤ 60) (h1 : v = w → Q (.bl true) M) (h2 : v ≠ w → Q (.bl false) M) : cmpW .Eq v w M Q := eqW_pl (neg := false) hv hw dv dw h1 h2
theorem cmpNe_pl {v w : D} {M : Mem} {Q : QK} (hv : plV v = true) (hw : plV w = true) (dv : dep v ≤ 60) (dw : dep w ≤ 60) (h1 : v = w → Q (.bl false) M) (h2 : v ≠ w → Q (.bl true) M) : cmpW .NotEq v w M Q := eqW_pl (neg := true) hv hw dv dw h1 h2
/-! lists of numbers -/
theorem deps_intsL {ds : List D} (h : ∀ d ∈ ds, ∃ i : Int, d = .int i) : deps ds = 0 := by
  have : deps ds ≤ 0 := deps_le fun d hd => by
    obtain ⟨i, rfl⟩ := h d hd
    exact Nat.le_refl _
  omega
theorem pl_intsL {ds : List D} (h : ∀ d ∈ ds, ∃ i : Int, d = .int i) : plV (.lst ds) = true ∧ dep (.lst ds) = 1 := by
  refine ⟨plV_ls fun d hd => ?_, ?_⟩
  · obtain ⟨i, rfl⟩ := h d hd
    unfold plV; rfl
  · show deps ds + 1 = 1
    rw [deps_intsL h]
theorem is_ints (bs : List Int) : ∀ d ∈ bs.map D.int, ∃ i : Int, d = .int i := fun d hd => by
  obtain ⟨i, _, e⟩ := List.mem_map.mp hd
  exact ⟨i, e.symm⟩
theorem is_cut {ds : List D} {lo hi : Option Int} (h : ∀ d ∈ ds, ∃ i : Int, d = .int i) : ∀ d ∈ cut ds lo hi, ∃ i : Int, d = .int i := fun d hd => h d (cut_mem hd)
theorem ints_inj : ∀ {a b : List Int}, a.map D.int = b.map D.int → a = b
  | [], [], _ => rfl
  | [], _ :: _, h => by cases h
  | _ :: _, [], h => by cases h
  | x :: a, y :: b, h => by
    injection h with h1 h2
    injection h1 with h1
    rw [h1, ints_inj h2]
theorem cmpEq_ints {xs ys : List D} {M : Mem} {Q : QK} (hx : ∀ d ∈ xs, ∃ i : Int, d = .int i) (hy : ∀ d ∈ ys, ∃ i : Int, d = .int i) (h1 : xs = ys → Q (.bl true) M) (h2 : xs ≠ ys → Q (.bl false) M) : cmpW .Eq (.lst xs) (.lst ys) M Q :=
  cmpEq_pl (pl_intsL hx).1 (pl_intsL hy).1 (by rw [(pl_intsL hx).2]; decide) (by rw [(pl_intsL hy).2]; decide) (fun e => h1 (by injection e)) (fun e => h2 fun z => e (by rw [z]))
theorem cmpNe_ints {xs ys : List D} {M : Mem} {Q : QK} (hx : ∀ d ∈ xs, ∃ i : Int, d = .int i) (hy : ∀ d ∈ ys, ∃ i : Int, d = .int i) (h1 : xs = ys → Q (.bl false) M) (h2 : xs ≠ ys → Q (.bl true) M) : cmpW .NotEq (.lst xs) (.lst ys) M Q :=
  cmpNe_pl (pl_intsL hx).1 (pl_intsL hy).1 (by rw [(pl_intsL hx).2]; decide) (by rw [(pl_intsL hy).2]; decide) (fun e => h1 (by injection e)) (fun e => h2 fun z => e (by rw [z]))
/-! ### membership -/
theorem any_pl {v : D} {p : PyData} (hv : plV v = true) (e : toPy v = some p) : ∀ {ws : List D} {qs : List PyData}, (∀ w ∈ ws, plV w = true) → toPys ws = some qs → ((qs.any fun z => PyData.eqv z p) = true ↔ v ∈ ws)
  | [], qs, _, ew => by cases ew; exact ⟨fun h => (by cases h), fun h => (by cases h)⟩
  | w :: ws, qs, hw, ew => by
    obtain ⟨q, qs, e3, e4, rfl⟩ := toPys_consH ew
    have a := eqv_pl (hw w (List.mem_cons_self ..)) hv e3 e
    have b := any_pl hv e (ws := ws) (fun d hd => hw d (List.mem_cons_of_mem _ hd)) e4
    rw [List.any_cons, Bool.or_eq_true, a, b, List.mem_cons]
    exact ⟨fun h => h.imp Eq.symm id, fun h => h.imp Eq.symm id⟩
theorem inW_pl {v y : D} {ws : List D} {neg : Bool} {M : Mem} {Q : QK} (hy : asS M y = some ws) (hs : ∀ a b, v = .str a → y = .str b → False) (hv : plV v = true) (dv : dep v ≤ 60) (hw : ∀ w ∈ ws, plV w = true) (dw : deps ws ≤ 59) (h1 : v ∈ ws → Q (.bl (!neg)) M) (h2 : v ∉ ws → Q (.bl neg) M) : inW neg v y M Q := by
  obtain ⟨p, ep, _⟩ := toPy_pl hv
  obtain ⟨qs, eq, c, d⟩ := toPys_pl hw
  have hd : dicAt M y = none := by
    cases y <;> first | rfl | skip
    rename_i a
    unfold dicAt
    have hy : (match M a with | some (.lst ds) => some ds | _ => none) = some ws := hy
    dsimp only
    split
    · rename_i e; rw [e] at hy; cases hy
    · rfl
  unfold inW
  rw [hd]
  show inS neg v y M Q
  unfold inS
  split
  · exact (hs _ _ rfl rfl).elim
  · cases hv
  · rw [toPyM_pl hv, ep, hy]
    dsimp only
    rw [eq]
    dsimp only
    refine ⟨shaped_pl hv dv ep, ?_, ?_⟩
    · show (PyData.canLay0 (.list qs) && decide (PyData.depth (.list qs) ≤ 64)) = true
      rw [show PyData.canLay0 (.list qs) = PyData.canLayAll0 qs from by unfold PyData.canLay0; rfl, c, show PyData.depth (.list qs) = PyData.depthAll qs + 1 from by unfold PyData.depth; omega, decide_eq_true (by omega)]; rfl
    · have k := any_pl hv ep hw eq
      by_cases e : v ∈ ws
      · rw [k.mpr e]
        cases neg <;> exact h1 e
      · rw [Bool.eq_false_iff.mpr fun z => e (k.mp z)]
        cases neg <;> exact h2 e
end Wp

/-! K13a: is_name, is_number_of, is_word of anything. -/
namespace Wp
open PySem
def lets13 : List Nat := (Str.ofString "abcdefghijklmnopqrstuvwxyz").cps.toList
theorem lit13 : Str.ofString "abcdefghijklmnopqrstuvwxyz" = ⟨lets13.toArray⟩ := (SX.S_tl _).symm
def isNm : D → Bool
  | .str z => decide (1 ≤ z.length) && (decide (z.length ≤ 8) && z.cps.toList.all fun c => decide (c ∈ lets13))
  | _ => false
theorem isNm_str (z : Str) : isNm (.str z) = (decide (1 ≤ z.length) && (decide (z.length ≤ 8) && z.cps.toList.all fun c => decide (c ∈ lets13))) := rfl
theorem szN {n : Nat} (h : n ≤ 100000) : n ≤ sizeLine := Nat.le_trans h (by decide)
def noLet (d : D) : Option D := match d with
  | .str z => match z.cps.toList with
    | [c] => if c ∈ lets13 then none else some d
    | _ => none
  | _ => none
theorem noLet_all : ∀ l : List Nat, (((l.map fun c => D.str ⟨#[c]⟩).filterMap noLet).length = 0) ↔ (l.all fun c => decide (c ∈ lets13)) = true
  | [] => by simp
  | c :: l => by
    rw [List.map_cons, List.filterMap_cons, List.all_cons]
    have e : noLet (.str ⟨#[c]⟩) = if c ∈ lets13 then none else some (.str ⟨#[c]⟩) := rfl
    rw [e]
    by_cases h : c ∈ lets13
    · rw [if_pos h, decide_eq_true h, Bool.true_and]
      exact noLet_all l
    · rw [if_neg h, decide_eq_false h, Bool.false_and]
      simp
theorem r_is_name {d : D} (ht : okD d = true) {k : Nat} {M : Mem} (hk : 1 ≤ k) : run tab k f_is_name [d] M (fun v M' => v = .bl (isNm d) ∧ M' = M) fun _ _ => False := by
  obtain ⟨k, rfl⟩ : ∃ j, k = j + 1 := ⟨k - 1, by omega⟩
  refine run_in rfl rfl ?_
  cases d
  case loc a => cases ht
  case str z =>
    have sz : z.length ≤ sizeLine := of_decide_eq_true ht
    conv => whnf
    refine ⟨sz, ?_⟩
    conv => whnf
    by_cases h1 : 1 ≤ z.length
    · rw [decide_eq_true (show (1 : Int) ≤ (z.length : Int) by omega)]
      conv => whnf
      by_cases h8 : z.length ≤ 8
      · rw [decide_eq_true (show (z.length : Int) ≤ 8 by omega)]
        conv => whnf
        have hs : (signs z).length = z.length := by
          unfold signs
          rw [List.length_map, Array.length_toList]; rfl
        refine comp_is noLet trivial _ _ (fun d hd P hp => ?_) ?_ ?_
        · obtain ⟨c, hc, rfl⟩ := List.mem_map.mp hd
          conv => whnf
          have e := SX.in_one lets13 c
          rw [show Str.ofString "abcdefghijklmnopqrstuvwxyz" = (⟨lets13.toArray⟩ : Str) from lit13]
          have e2 : noLet (.str ⟨#[c]⟩) = if c ∈ lets13 then none else some (.str ⟨#[c]⟩) := rfl
          rw [e2] at hp
          by_cases h : c ∈ lets13
          · rw [decide_eq_true h] at e
            rw [if_pos h] at hp
            rw [e]
            conv => whnf
            exact hp
          · rw [decide_eq_false h] at e
            rw [if_neg h] at hp
            rw [e]
            conv => whnf
            exact hp
        · rw [List.length_nil, hs, Nat.zero_add]
          exact sz
        · have hfl : ((signs z).filterMap noLet).length ≤ 8 := Nat.le_trans (List.length_filterMap_le ..) (by omega)
          rw [List.nil_append]
          have hal := noLet_all z.cps.toList
          have hgo : isNm (.str z) = z.cps.toList.all fun c => decide (c ∈ lets13) := by
            rw [isNm_str, decide_eq_true h1, decide_eq_true h8]; rfl
          change (((signs z).filterMap noLet).length = 0) ↔ _ at hal
          generalize (signs z).filterMap noLet = f at hfl hal ⊢
          refine ⟨szN (by omega), ?_⟩
          conv => whnf
          refine ⟨lok rfl, ?_⟩
          cases f with
          | nil =>
            conv => whnf
            refine ⟨by decide +kernel, by decide +kernel, ?_⟩
            conv => whnf
            exact .done ⟨by rw [hgo, hal.mp rfl]; rfl, rfl⟩
          | cons a f =>
            conv => whnf
            refine .done ⟨?_, rfl⟩
            have hz : (z.cps.toList.all fun c => decide (c ∈ lets13)) = false := Bool.eq_false_iff.mpr fun h => by have := hal.mpr h; cases this
            rw [hgo, hz]
      · rw [decide_eq_false (show ¬ (z.length : Int) ≤ 8 by omega)]
        conv => whnf
        refine .done ⟨?_, rfl⟩
        rw [isNm_str, decide_eq_false h8, Bool.false_and, Bool.and_false]
    · rw [decide_eq_false (show ¬ (1 : Int) ≤ (z.length : Int) by omega)]
      conv => whnf
      refine .done ⟨?_, rfl⟩
      rw [isNm_str, decide_eq_false h1, Bool.false_and]
  all_goals
    conv => whnf
    exact .done ⟨rfl, rfl⟩
def isNo (many : Int) : D → Bool
  | .int i => decide (0 ≤ i) && decide (i < many)
  | _ => false
theorem isNo_int (many i : Int) : isNo many (.int i) = (decide (0 ≤ i) && decide (i < many)) := rfl
theorem r_number_of {d : D} {many : Int} (ht : okD d = true) {k : Nat} {M : Mem} (hk : 1 ≤ k) : run tab k f_is_number_of [d, .int many] M (fun v M' => v = .bl (isNo many d) ∧ M' = M) fun _ _ => False := by
  obtain ⟨k, rfl⟩ : ∃ j, k = j + 1 := ⟨k - 1, by omega⟩
  refine run_in rfl rfl ?_
  cases d
  case loc a => cases ht
  case int i =>
    conv => whnf
    by_cases h0 : 0 ≤ i
    · rw [decide_eq_true h0]
      conv => whnf
      refine .done ⟨?_, rfl⟩
      rw [isNo_int, decide_eq_true h0, Bool.true_and]
    · rw [decide_eq_false h0]
      conv => whnf
      refine .done ⟨?_, rfl⟩
      rw [isNo_int, decide_eq_false h0, Bool.false_and]
  all_goals
    conv => whnf
    exact .done ⟨rfl, rfl⟩
def isWd (many : Int) : D → Bool
  | .tup [a, b, c] => isNm a && (isSh b && isNo many c)
  | _ => false
theorem r_is_word {d : D} {many : Int} (ht : okD d = true) {k : Nat} {M : Mem} (hk : 6 ≤ k) : run tab k f_is_word [d, .int many] M (fun v M' => v = .bl (isWd many d) ∧ M' = M) fun _ _ => False := by
  obtain ⟨k, rfl⟩ : ∃ j, k = j + 1 := ⟨k - 1, by omega⟩
  refine run_in rfl rfl ?_
  cases d
  case loc a => cases ht
  case tup ds =>
    have hd := okD_tupH ht
    match ds, hd with
    | [], _ => conv => whnf
               exact .done ⟨rfl, rfl⟩
    | [_], _ => conv => whnf
                exact .done ⟨rfl, rfl⟩
    | [_, _], _ => conv => whnf
                   exact .done ⟨rfl, rfl⟩
    | [a, b, c], hd =>
      have ha := hd a (by simp)
      have hb := hd b (by simp)
      have hc := hd c (by simp)
      conv => whnf
      refine run_is (r_is_name ha (k := k) (by omega)) (Nat.le_refl _) ?_
      have e : isWd many (.tup [a, b, c]) = (isNm a && (isSh b && isNo many c)) := rfl
      rw [e]
      cases isNm a with
      | false =>
        conv => whnf
        exact .done ⟨rfl, rfl⟩
      | true =>
        conv => whnf
        refine run_is (r_is_shape hb k (by omega)) (Nat.le_refl _) ?_
        cases isSh b with
        | false =>
          conv => whnf
          exact .done ⟨rfl, rfl⟩
        | true =>
          conv => whnf
          refine run_is (r_number_of hc (k := k) (by omega)) (Nat.le_refl _) ?_
          conv => whnf
          exact .done ⟨rfl, rfl⟩
    | a :: b :: c :: e :: r, _ =>
      conv => whnf
      exact .done ⟨rfl, rfl⟩
  all_goals
    conv => whnf
    exact .done ⟨rfl, rfl⟩
end Wp

/-! K13b: is_state, is_grammar of anything. -/
namespace Wp
open PySem
def nmOf : D → Str
  | .tup (.str z :: _) => z
  | _ => ⟨#[]⟩
def wordsB (many : Int) : List Str → List D → Bool
  | _, [] => true
  | seen, w :: ws => isWd many w && (decide (nmOf w ∉ seen) && wordsB many (seen ++ [nmOf w]) ws)
def isLR : D → Bool
  | .str z => decide (z = "left") || decide (z = "right")
  | _ => false
def isEnd : D → Bool
  | .tup [.str z] => decide (z = "end")
  | _ => false
def bodyB (many : Int) : D → Bool
  | .lst ws => decide (1 ≤ ws.length) && (decide (ws.length ≤ 9) && wordsB many [] ws)
  | _ => false
def isSt (many : Int) : D → Bool
  | .tup [a, b] => isLR a && bodyB many b
  | d => isEnd d
/-- what may be asked whether it is a state -/
structure StOk (d : D) : Prop where
  ok : okD d = true
  eqE : ∀ (M : Mem) (Q : QK), Q (.bl (isEnd d)) M → cmpW .Eq d (.tup [.str "end"]) M Q
  inL : ∀ a b, d = .tup [a, b] → ∀ (M : Mem) (Q : QK), Q (.bl (!isLR a)) M → cmpW .NotIn a (.tup [.str "left", .str "right"]) M Q
  ns : ∀ a ns, d ≠ .tup [a, .scr ns]
theorem isNm_pl {z : Str} (h : isNm (.str z) = true) : plV (.str z) = true := by
  rw [isNm_str, Bool.and_eq_true, Bool.and_eq_true] at h
  have h3 := List.all_eq_true.mp h.2.2
  unfold plV
  unfold PyData.strOk
  rw [← Array.all_toList, List.all_eq_true]
  intro c hc
  have := of_decide_eq_true (h3 c hc)
  exact decide_eq_true ((by decide +kernel : ∀ c ∈ lets13, c < 1114112) c this)
theorem isWd_in {many : Int} {d : D} (h : isWd many d = true) : ∃ z b c, d = .tup [.str z, b, c] ∧ isNm (.str z) = true ∧ isSh b = true ∧ isNo many c = true := by
  cases d
  case tup ds =>
    match ds, h with
    | [a, b, c], h =>
      have h : (isNm a && (isSh b && isNo many c)) = true := h
      rw [Bool.and_eq_true, Bool.and_eq_true] at h
      match a, h with
      | .str z, h => exact ⟨z, b, c, rfl, h.1, h.2.1, h.2.2⟩
      | .non, h => exact absurd h.1 Bool.false_ne_true
      | .bl _, h => exact absurd h.1 Bool.false_ne_true
      | .int _, h => exact absurd h.1 Bool.false_ne_true
      | .tup _, h => exact absurd h.1 Bool.false_ne_true
      | .lst _, h => exact absurd h.1 Bool.false_ne_true
      | .scr _, h => exact absurd h.1 Bool.false_ne_true
      | .emp, h => exact absurd h.1 Bool.false_ne_true
      | .loc _, h => exact absurd h.1 Bool.false_ne_true
    | [], h => exact absurd h Bool.false_ne_true
    | [_], h => exact absurd h Bool.false_ne_true
    | [_, _], h => exact absurd h Bool.false_ne_true
    | _ :: _ :: _ :: _ :: _, h => exact absurd h Bool.false_ne_true
  all_goals exact absurd h Bool.false_ne_true
def fstD13 : D → Option D
  | .tup (x :: _) => some x
  | _ => none
theorem fst_nm {many : Int} : ∀ {l : List D}, (∀ w ∈ l, isWd many w = true) → l.filterMap fstD13 = (l.map nmOf).map D.str
  | [], _ => rfl
  | w :: l, h => by
    obtain ⟨z, b, c, rfl, _⟩ := isWd_in (h w (by simp))
    have ih := fst_nm (l := l) fun w hw => h w (List.mem_cons_of_mem _ hw)
    show D.str z :: l.filterMap fstD13 = D.str z :: (l.map nmOf).map D.str
    rw [ih]
theorem strs_plN {many : Int} {l : List D} (h : ∀ w ∈ l, isWd many w = true) : ∀ d ∈ (l.map nmOf).map D.str, plV d = true := by
  intro d hd
  obtain ⟨z, hz, rfl⟩ := List.mem_map.mp hd
  obtain ⟨w, hw, rfl⟩ := List.mem_map.mp hz
  obtain ⟨z, b, c, rfl, hn, _⟩ := isWd_in (h w hw)
  exact isNm_pl hn
theorem cmpIn13 {v y : D} {ws : List D} {M : Mem} {Q : QK} (hy : asS M y = some ws) (hs : ∀ a b, v = .str a → y = .str b → False) (hv : plV v = true) (dv : dep v ≤ 60) (hw : ∀ w ∈ ws, plV w = true) (dw : deps ws ≤ 59) (h1 : v ∈ ws → Q (.bl true) M) (h2 : v ∉ ws → Q (.bl false) M) : cmpW .In v y M Q := inW_pl (neg := false) hy hs hv dv hw dw h1 h2
/-- one word of a state -/
theorem st13 {pre post : List D} {w a0 : D} {many : Int} {k : Nat} {M : Mem} {N : Ends} {e5 : Option D} (hok : ∀ v ∈ pre ++ w :: post, okD v = true) (hl : (pre ++ w :: post).length ≤ 9) (hpre : ∀ v ∈ pre, isWd many v = true) (hk : 6 ≤ k)
    (hn : isWd many w = true → nmOf w ∉ pre.map nmOf → ∀ e5, N.nx [some a0, some (.int many), some (.lst (pre ++ w :: post)), some (.int ((pre.length : Nat) : Int)), some w, e5] M)
    (hf : (isWd many w = true → nmOf w ∈ pre.map nmOf) → N.rt (.bl false) M) :
    wpS (run tab k) (match b_is_state.body with | .seq _ (.seq _ (.seq _ (.seq _ (.seq (.each _ _ t) _)))) => t | s => s) N [some a0, some (.int many), some (.lst (pre ++ w :: post)), some (.int ((pre.length : Nat) : Int)), some w, e5] M := by
  conv => whnf
  refine run_is (r_is_word (hok w (by simp)) hk) (Nat.le_refl _) ?_
  cases hw : isWd many w with
  | false =>
    conv => whnf
    exact hf fun h => absurd (hw.symm.trans h) Bool.false_ne_true
  | true =>
    conv => whnf
    obtain ⟨z, b, c, rfl, hz, _⟩ := isWd_in hw
    conv => whnf
    have hcut : cut (pre ++ D.tup [.str z, b, c] :: post) none (some ((pre.length : Nat) : Int)) = pre := by
      rw [cut_to _ (by omega), Int.toNat_natCast]
      exact List.take_left' rfl
    rw [hcut]
    have hpl : pre.length ≤ 9 := by rw [List.length_append] at hl; omega
    refine ⟨szN (show pre.length ≤ 100000 by omega), ?_⟩
    refine comp_is fstD13 trivial _ _ (fun d hd P hp => ?_) ?_ ?_
    · obtain ⟨z, b, c, rfl, _⟩ := isWd_in (hpre d hd)
      conv => whnf
      exact hp
    · rw [List.length_nil]
      exact szN (show 0 + pre.length ≤ 100000 by omega)
    · rw [List.nil_append, fst_nm hpre]
      refine ⟨szN (by rw [List.length_map, List.length_map]; omega), ?_⟩
      refine cmpIn13 (y := .lst ((pre.map nmOf).map D.str)) (ws := (pre.map nmOf).map D.str) rfl (fun a b _ h => by cases h) (isNm_pl hz) (Nat.zero_le _) (strs_plN hpre) ?_ (fun hm => ?_) (fun hm => ?_)
      · exact Nat.le_trans (deps_le (n := 0) fun x hx => by
          obtain ⟨y, _, rfl⟩ := List.mem_map.mp hx
          exact Nat.le_refl _) (by decide)
      · conv => whnf
        refine hf fun _ => ?_
        obtain ⟨y, hy, e⟩ := List.mem_map.mp hm
        injection e with e
        show z ∈ _
        rw [← e]; exact hy
      · conv => whnf
        exact hn hw (fun h => hm (List.mem_map_of_mem h)) _
theorem wordsB_cons (many : Int) (seen : List Str) (w : D) (ws : List D) : wordsB many seen (w :: ws) = (isWd many w && (decide (nmOf w ∉ seen) && wordsB many (seen ++ [nmOf w]) ws)) := rfl
theorem r_is_state {d : D} {many : Int} (h : StOk d) {k : Nat} {M : Mem} (hk : 8 ≤ k) : run tab k f_is_state [d, .int many] M (fun v M' => v = .bl (isSt many d) ∧ M' = M) fun _ _ => False := by
  obtain ⟨k, rfl⟩ : ∃ j, k = j + 1 := ⟨k - 1, by omega⟩
  refine run_in rfl rfl ?_
  refine (show cmpW .Eq d (.tup [.str "end"]) M (fun x M1 => truW x M1 fun b M1 => match b with
    | true => wpS (run tab k) (.seq (.ret (.bl true)) .nil) ⟨wpS (run tab k) (match b_is_state.body with | .seq _ t => t | s => s) ⟨fun x M1 => Frz .non M1 fun v M' => v = .bl (isSt many d) ∧ M' = M, fun x M1 => Frz x M1 fun v M' => v = .bl (isSt many d) ∧ M' = M, fun _ _ => False, fun _ _ => False, fun _ _ _ => False⟩, fun x M1 => Frz x M1 fun v M' => v = .bl (isSt many d) ∧ M' = M, fun _ _ => False, fun _ _ => False, fun _ _ _ => False⟩ [some d, some (.int many), none, none, none, none] M1
    | false => wpS (run tab k) .nil ⟨wpS (run tab k) (match b_is_state.body with | .seq _ t => t | s => s) ⟨fun x M1 => Frz .non M1 fun v M' => v = .bl (isSt many d) ∧ M' = M, fun x M1 => Frz x M1 fun v M' => v = .bl (isSt many d) ∧ M' = M, fun _ _ => False, fun _ _ => False, fun _ _ _ => False⟩, fun x M1 => Frz x M1 fun v M' => v = .bl (isSt many d) ∧ M' = M, fun _ _ => False, fun _ _ => False, fun _ _ _ => False⟩ [some d, some (.int many), none, none, none, none] M1) from h.eqE _ _ ?_)
  cases he : isEnd d with
  | true =>
    conv => whnf
    refine .done ⟨?_, rfl⟩
    cases d
    case tup ds =>
      match ds, he with
      | [a], he =>
        have e : isSt many (.tup [a]) = isEnd (.tup [a]) := rfl
        rw [e, he]
      | [], he => cases he
      | a :: b :: r, he => cases a <;> cases he
    all_goals cases he
  | false =>
    cases d
    case loc a => cases h.ok
    case tup ds =>
      match ds, he, h with
      | [], he, h =>
        conv => whnf
        exact .done ⟨rfl, rfl⟩
      | [a], he, h =>
        conv => whnf
        refine .done ⟨?_, rfl⟩
        have e : isSt many (.tup [a]) = isEnd (.tup [a]) := rfl
        rw [e, he]
      | a :: b :: c :: r, he, h =>
        conv => whnf
        cases a <;> exact .done ⟨rfl, rfl⟩
      | [a, b], he, h =>
        have ha := okD_tupH h.ok a (by simp)
        have hb := okD_tupH h.ok b (by simp)
        have e : isSt many (.tup [a, b]) = (isLR a && bodyB many b) := rfl
        rw [e]
        conv => whnf
        refine ⟨lok rfl, ?_⟩
        refine h.inL a b rfl _ _ ?_
        cases hl : isLR a with
        | false =>
          conv => whnf
          exact .done ⟨rfl, rfl⟩
        | true =>
          rw [Bool.true_and]
          conv => whnf
          cases b
          case loc a => cases hb
          case scr ns => exact absurd rfl (h.ns a ns)
          case lst ws =>
            have hsz : ws.length ≤ sizeLine := by
              have : (decide (ws.length ≤ sizeLine) && okDs ws) = true := hb
              rw [Bool.and_eq_true] at this
              exact of_decide_eq_true this.1
            have hws : ∀ w ∈ ws, okD w = true := by
              have : (decide (ws.length ≤ sizeLine) && okDs ws) = true := hb
              rw [Bool.and_eq_true] at this
              exact okDs_of this.2
            have eb : bodyB many (.lst ws) = (decide (1 ≤ ws.length) && (decide (ws.length ≤ 9) && wordsB many [] ws)) := rfl
            rw [eb]
            conv => whnf
            by_cases h1 : 1 ≤ ws.length
            · rw [decide_eq_true (show (1 : Int) ≤ (ws.length : Int) by omega)]
              conv => whnf
              by_cases h9 : ws.length ≤ 9
              · rw [decide_eq_true (show (ws.length : Int) ≤ 9 by omega)]
                conv => whnf
                rw [decide_eq_true h1, decide_eq_true h9, Bool.true_and, Bool.true_and]
                refine each_inv (fun rem env M' => M' = M ∧ ∃ (pre post : List D) (e3 e4 e5 : Option D), ws = pre ++ post ∧ rem = enumD pre.length post ∧ env = [some (.tup [a, .lst ws]), some (.int many), some (.lst ws), e3, e4, e5] ∧ (∀ v ∈ pre, isWd many v = true) ∧ wordsB many [] ws = wordsB many (pre.map nmOf) post) ?_ ?_ _ _ _ ⟨rfl, [], ws, none, none, none, rfl, rfl, rfl, (fun v hv => by cases hv), rfl⟩
                · rintro d rem env M' ⟨rfl, pre, post, e3, e4, e5, e, hr, rfl, hp, hB⟩
                  cases post with
                  | nil => cases hr
                  | cons w post =>
                    injection hr with hr1 hr2
                    subst hr1 hr2
                    refine ⟨trivial, ?_⟩
                    subst e
                    rw [wordsB_cons] at hB
                    refine st13 (a0 := .tup [a, .lst (pre ++ w :: post)]) hws h9 hp (by omega) (fun h1 h2 e5 => ?_) (fun hno => ?_)
                    · refine ⟨rfl, pre ++ [w], post, _, _, _, by simp, by rw [List.length_append, List.length_singleton], rfl, fun v hv => ?_, ?_⟩
                      · rcases List.mem_append.mp hv with hv | hv
                        · exact hp v hv
                        · rw [List.mem_singleton.mp hv]; exact h1
                      · rw [hB, h1, decide_eq_true h2, Bool.true_and, Bool.true_and, List.map_append]; rfl
                    · refine .done ⟨?_, rfl⟩
                      rw [hB]
                      cases hw : isWd many w with
                      | false => rfl
                      | true =>
                        rw [decide_eq_false fun z => z (hno hw)]; rfl
                · rintro env M' ⟨rfl, pre, post, e3, e4, e5, e, hr, rfl, hp, hB⟩
                  cases post with
                  | cons w post => cases hr
                  | nil =>
                    refine ⟨trivial, ?_⟩
                    conv => whnf
                    exact .done ⟨by rw [hB]; rfl, rfl⟩
              · rw [decide_eq_false (show ¬ (ws.length : Int) ≤ 9 by omega)]
                conv => whnf
                exact .done ⟨by rw [decide_eq_false h9, Bool.false_and, Bool.and_false], rfl⟩
            · rw [decide_eq_false (show ¬ (1 : Int) ≤ (ws.length : Int) by omega)]
              conv => whnf
              exact .done ⟨by rw [decide_eq_false h1, Bool.false_and], rfl⟩
          all_goals
            conv => whnf
            exact .done ⟨rfl, rfl⟩
    all_goals
      conv => whnf
      exact .done ⟨rfl, rfl⟩
theorem isi13 {M : Mem} {a : Addr} {l : List D} (ha : M a = some (.lst l)) : isiB .list_ (.loc a) M = some true := by
  show (match M a with
    | some (.lst _) => some (decide (Ty.list_ = Ty.list_))
    | some (.dic _) => some (decide (Ty.list_ = Ty.dict_))
    | _ => none) = _
  rw [ha]; rfl
def isGr (ds : List D) : Bool := decide (1 ≤ ds.length) && (decide (ds.length ≤ 30) && ds.all (isSt (ds.length : Int)))
theorem r_is_grammar {x : D} {ds : List D} {k : Nat} {M : Mem} (hx : x = .lst ds ∨ ∃ p, x = .loc p ∧ M p = some (.lst ds)) (h : ∀ d ∈ ds, StOk d) (hk : 9 ≤ k) : run tab k f_is_grammar [x] M (fun v M' => v = .bl (isGr ds) ∧ M' = M) fun _ _ => False := by
  obtain ⟨k, rfl⟩ : ∃ j, k = j + 1 := ⟨k - 1, by omega⟩
  have hL : asL M x = some ds := by
    rcases hx with rfl | ⟨p, rfl, hp⟩
    · rfl
    · exact asL_loc hp
  have hS : asS M x = some ds := by
    rcases hx with rfl | ⟨p, rfl, hp⟩
    · rfl
    · exact asS_loc hp
  have hst : stillAt x ds M := by
    rcases hx with rfl | ⟨p, rfl, hp⟩
    · exact trivial
    · exact hp
  have loop : 1 ≤ ds.length → ds.length ≤ 30 → eachW (wpS (run tab k) (match b_is_grammar.body with | .seq _ (.seq (.each _ _ t) _) => t | s => s)) (Tg.nm 1) (stillAt x ds) ⟨wpS (run tab k) ((Sx.ret (Ex.bl true)).seq Sx.nil) ⟨fun _ M1 => Frz .non M1 (fun v M' => v = .bl (isGr ds) ∧ M' = M), fun x M1 => Frz x M1 (fun v M' => v = .bl (isGr ds) ∧ M' = M), fun _ _ => False, fun _ _ => False, fun z _ M1 => False⟩, fun x M1 => Frz x M1 (fun v M' => v = .bl (isGr ds) ∧ M' = M), fun _ _ => False, fun _ _ => False, fun z _ M1 => False⟩ ds [some x, none] M := by
    intro h1 h30
    have eg : isGr ds = ds.all (isSt (ds.length : Int)) := by
      unfold isGr
      rw [decide_eq_true h1, decide_eq_true h30]; rfl
    rw [eg]
    refine each_inv (fun rem env M' => M' = M ∧ ∃ (pre : List D) (e1 : Option D), ds = pre ++ rem ∧ env = [some x, e1] ∧ ds.all (isSt (ds.length : Int)) = rem.all (isSt (ds.length : Int))) ?_ ?_ _ _ _ ⟨rfl, [], none, rfl, rfl, rfl⟩
    · rintro d rem env M' ⟨rfl, pre, e1, e, rfl, hB⟩
      refine ⟨hst, ?_⟩
      have nx : run tab k f_is_state [d, .int (ds.length : Int)] M' (fun v M1 => v = .bl (isSt (ds.length : Int) d) ∧ M1 = M') fun _ _ => False := r_is_state (h d (by rw [e]; simp)) (by omega)
      rw [List.all_cons] at hB
      rcases hx with rfl | ⟨p, rfl, hp⟩
      · conv => whnf
        refine run_is nx (Nat.le_refl _) ?_
        cases hd : isSt (ds.length : Int) d with
        | false =>
          conv => whnf
          refine .done ⟨?_, rfl⟩
          rw [hB, hd]; rfl
        | true =>
          conv => whnf
          exact ⟨rfl, pre ++ [d], _, by rw [e]; simp, rfl, by rw [hB, hd]; rfl⟩
      · conv => whnf
        rw [asS_loc hp]
        refine run_is nx (Nat.le_refl _) ?_
        cases hd : isSt (ds.length : Int) d with
        | false =>
          conv => whnf
          refine .done ⟨?_, rfl⟩
          rw [hB, hd]; rfl
        | true =>
          conv => whnf
          exact ⟨rfl, pre ++ [d], _, by rw [e]; simp, rfl, by rw [hB, hd]; rfl⟩
    · rintro env M' ⟨rfl, pre, e1, e, rfl, hB⟩
      refine ⟨hst, ?_⟩
      conv => whnf
      exact .done ⟨by rw [hB]; rfl, rfl⟩
  refine run_in rfl rfl ?_
  rcases hx with rfl | ⟨p, rfl, hp⟩
  · conv => whnf
    by_cases h1 : 1 ≤ ds.length
    · rw [decide_eq_true (show (1 : Int) ≤ (ds.length : Int) by omega)]
      conv => whnf
      by_cases h9 : ds.length ≤ 30
      · rw [decide_eq_true (show (ds.length : Int) ≤ 30 by omega)]
        conv => whnf
        exact loop h1 h9
      · rw [decide_eq_false (show ¬ (ds.length : Int) ≤ 30 by omega)]
        conv => whnf
        exact .done ⟨by unfold isGr; rw [decide_eq_false h9, Bool.false_and, Bool.and_false], rfl⟩
    · rw [decide_eq_false (show ¬ (1 : Int) ≤ (ds.length : Int) by omega)]
      conv => whnf
      exact .done ⟨by unfold isGr; rw [decide_eq_false h1, Bool.false_and], rfl⟩
  · conv => whnf
    rw [isi13 hp]
    conv => whnf
    rw [hS]
    conv => whnf
    by_cases h1 : 1 ≤ ds.length
    · rw [decide_eq_true (show (1 : Int) ≤ (ds.length : Int) by omega)]
      conv => whnf
      by_cases h9 : ds.length ≤ 30
      · rw [decide_eq_true (show (ds.length : Int) ≤ 30 by omega)]
        conv => whnf
        rw [hL]
        exact loop h1 h9
      · rw [decide_eq_false (show ¬ (ds.length : Int) ≤ 30 by omega)]
        conv => whnf
        exact .done ⟨by unfold isGr; rw [decide_eq_false h9, Bool.false_and, Bool.and_false], rfl⟩
    · rw [decide_eq_false (show ¬ (1 : Int) ≤ (ds.length : Int) by omega)]
      conv => whnf
      exact .done ⟨by unfold isGr; rw [decide_eq_false h1, Bool.false_and], rfl⟩
end Wp

/-! K13c: drawn grammars are grammars. -/
namespace Wp
open PySem
/-- so many shapes at most -/
def szB : Nat → Nat
  | 0 => 1
  | d + 1 => 3 * szB d + 1
theorem szB_pos : ∀ d, 1 ≤ szB d
  | 0 => Nat.le_refl _
  | d + 1 => by show 1 ≤ 3 * szB d + 1; omega
theorem szs_many {f : Cs → D × Cs} {k b : Nat} (hf : ∀ s, ∃ c, sz k (f s).1 = some c ∧ c ≤ b) : ∀ (n : Nat) (s : Cs), ∃ c, szs (sz k) (many1 f n s).1 = some c ∧ c ≤ n * b
  | 0, s => ⟨0, rfl, Nat.zero_le _⟩
  | n + 1, s => by
    obtain ⟨c, h1, h2⟩ := szs_many hf n s
    obtain ⟨e, h3, h4⟩ := hf (many1 f n s).2
    refine ⟨c + (e + 0), ?_, ?_⟩
    · show szs (sz k) ((many1 f n s).1 ++ [(f (many1 f n s).2).1]) = _
      rw [szs_app, h1, szs_cons, h3]; rfl
    · rw [Nat.succ_mul]; omega
theorem sz_nothing (k : Nat) : sz (k + 1) (.tup [.str "nothing"]) = some 1 := by
  rw [sz_some (ps := []) rfl]; rfl
theorem sz_text {m : Int} (k : Nat) (h0 : 0 ≤ m) (h1 : m ≤ 250) : sz (k + 1) (.tup [.str "text", .int m]) = some 1 := by
  rw [sz_some (ps := []) (by
    show (if (decide (0 ≤ m) && decide (m ≤ 250)) = true then some [] else none) = _
    rw [decide_eq_true h0, decide_eq_true h1]; rfl)]; rfl
theorem sz_number {lo hi : Int} (k : Nat) (h0 : -1000000000000000000 < lo) (h1 : lo ≤ hi) (h2 : hi < 1000000000000000000) : sz (k + 1) (.tup [.str "number", .int lo, .int hi]) = some 1 := by
  rw [sz_some (ps := []) (by
    show (if (decide (-1000000000000000000 < lo) && (decide (lo ≤ hi) && decide (hi < 1000000000000000000))) = true then some [] else none) = _
    rw [decide_eq_true h0, decide_eq_true h1, decide_eq_true h2]; rfl)]; rfl
theorem sz_shL (s : Cs) (k : Nat) : sz (k + 1) (shL s).1 = some 1 := by
  have h := tk_rng (s := s) (many := 601) (by decide)
  have p := pk4_in (a := 0) (b := 9) (c := 300) (d := 1000000) (i := (tk (tk s 601).2 4).1) (lo := 0) (hi := 1000000) (by omega) (by omega) (by omega) (by omega)
  exact sz_number k (by omega) (by omega) (by omega)
theorem sz_shT (s : Cs) (k : Nat) : sz (k + 1) (shT s).1 = some 1 := by
  have p := pk4_in (a := 0) (b := 3) (c := 7) (d := 250) (i := (tk s 4).1) (lo := 0) (hi := 250) (by omega) (by omega) (by omega) (by omega)
  exact sz_text k p.1 p.2
theorem sz_shF : ∀ (d k : Nat) (s : Cs), d + 1 ≤ k → ∃ c, sz k (shF d s).1 = some c ∧ c ≤ szB d
  | 0, k, s, hk => by
    obtain ⟨k, rfl⟩ : ∃ j, k = j + 1 := ⟨k - 1, by omega⟩
    refine ⟨1, ?_, Nat.le_refl _⟩
    unfold shF
    dsimp only
    split
    · exact sz_nothing k
    · split
      · exact sz_shT _ k
      · exact sz_shL _ k
  | d + 1, k, s, hk => by
    obtain ⟨k, rfl⟩ : ∃ j, k = j + 1 := ⟨k - 1, by omega⟩
    have b := szB_pos d
    have hb : szB (d + 1) = 3 * szB d + 1 := rfl
    unfold shF
    dsimp only
    split
    · exact ⟨1, sz_nothing k, by omega⟩
    · split
      · exact ⟨1, sz_shT _ k, by omega⟩
      · split
        · exact ⟨1, sz_shL _ k, by omega⟩
        · split
          · obtain ⟨c, h1, h2⟩ := sz_shF d k (tk s 8).2 (by omega)
            have p := pk4_in (a := 0) (b := 2) (c := 5) (d := 250) (i := (tk (shF d (tk s 8).2).2 4).1) (lo := 0) (hi := 250) (by omega) (by omega) (by omega) (by omega)
            refine ⟨1 + (c + 0), ?_, by omega⟩
            rw [sz_some (ps := [(shF d (tk s 8).2).1]) (by
              show (if (decide (0 ≤ pk4 0 2 5 250 _) && decide (pk4 0 2 5 250 _ ≤ 250)) = true then some [(shF d (tk s 8).2).1] else none) = _
              rw [decide_eq_true p.1, decide_eq_true p.2]; rfl), szs_cons, h1]; rfl
          · split
            · obtain ⟨c, h1, h2⟩ := sz_shF d k (tk s 8).2 (by omega)
              obtain ⟨e, h3, h4⟩ := sz_shF d k (shF d (tk s 8).2).2 (by omega)
              refine ⟨1 + (c + (e + 0)), ?_, by omega⟩
              rw [sz_some (ps := [(shF d (tk s 8).2).1, (shF d (shF d (tk s 8).2).2).1]) rfl, szs_cons, szs_cons, h1, h3]; rfl
            · have t := tk_rng (s := (tk s 8).2) (many := 3) (by decide)
              obtain ⟨c, h1, h2⟩ := szs_many (f := shF d) (k := k) (b := szB d) (fun s => sz_shF d k s (by omega)) (1 + (tk (tk s 8).2 3).1).toNat (tk (tk s 8).2 3).2
              have hl := many1_len (shF d) (1 + (tk (tk s 8).2 3).1).toNat (tk (tk s 8).2 3).2
              have hle : (1 + (tk (tk s 8).2 3).1).toNat ≤ 3 := by omega
              refine ⟨1 + c, ?_, ?_⟩
              · rw [sz_some (ps := (many1 (shF d) (1 + (tk (tk s 8).2 3).1).toNat (tk (tk s 8).2 3).2).1) (by
                  show (if (decide (1 ≤ (many1 (shF d) (1 + (tk (tk s 8).2 3).1).toNat (tk (tk s 8).2 3).2).1.length) && decide ((many1 (shF d) (1 + (tk (tk s 8).2 3).1).toNat (tk (tk s 8).2 3).2).1.length ≤ 9)) = true then some _ else none) = _
                  rw [hl, decide_eq_true (show 1 ≤ (1 + (tk (tk s 8).2 3).1).toNat by omega), decide_eq_true (show (1 + (tk (tk s 8).2 3).1).toNat ≤ 9 by omega)]; rfl), h1]; rfl
              · have : (1 + (tk (tk s 8).2 3).1).toNat * szB d ≤ 3 * szB d := Nat.mul_le_mul_right _ hle
                omega
theorem isSh_shF (s : Cs) : isSh (shF 2 s).1 = true := by
  obtain ⟨c, h1, h2⟩ := sz_shF 2 6 s (by decide)
  have h2 : c ≤ 13 := h2
  unfold isSh
  rw [h1]
  exact decide_eq_true (by omega)
/-- all names of states -/
def nmAll : List Str := nm12 ++ [Str.ofString "go", Str.ofString "on"]
theorem nmAll_nm : ∀ z ∈ nmAll, isNm (.str z) = true := by decide +kernel
theorem nmAt_all (i : Int) : nmAt i ∈ nmAll := by
  have h0 := Int.emod_nonneg i (by decide : (12 : Int) ≠ 0)
  have h1 := Int.emod_lt_of_pos i (by decide : (0 : Int) < 12)
  have : ∀ j : Nat, j < 12 → (nm12[j]?).getD "" ∈ nmAll := by decide +kernel
  exact this _ (by omega)
structure WGood (many : Int) (w : Wd) : Prop where
  nm : w.1 ∈ nmAll
  sh : isSh w.2.1 = true
  ok : WdOk many w
structure SGood (many : Int) (sd : Str) (ws : List Wd) : Prop where
  sd : sd = "left" ∨ sd = "right"
  l1 : 1 ≤ ws.length
  l9 : ws.length ≤ 9
  al : ∀ w ∈ ws, WGood many w
  nd : (ws.map (·.1)).Nodup
def GGood (many : Int) : GS → Prop
  | none => True
  | some (sd, ws) => SGood many sd ws
theorem WGood.isWd {many : Int} {w : Wd} (h : WGood many w) : isWd many (wD w) = true := by
  show (isNm (.str w.1) && (isSh w.2.1 && (decide (0 ≤ w.2.2) && decide (w.2.2 < many)))) = true
  rw [nmAll_nm _ h.nm, h.sh, decide_eq_true h.ok.2.2.2.1, decide_eq_true h.ok.2.2.2.2]; rfl
theorem words_good {many : Int} : ∀ (ws : List Wd) (seen : List Str), (∀ w ∈ ws, WGood many w) → (seen ++ ws.map (·.1)).Nodup → wordsB many seen (ws.map wD) = true
  | [], seen, _, _ => rfl
  | w :: ws, seen, h, nd => by
    rw [List.map_cons, wordsB_cons, (h w (by simp)).isWd]
    have e : nmOf (wD w) = w.1 := rfl
    rw [e]
    have hn : w.1 ∉ seen := fun hm => by
      have := (List.nodup_append.mp nd).2.2 w.1 hm w.1 (by simp)
      exact this rfl
    rw [decide_eq_true hn, words_good ws (seen ++ [w.1]) (fun v hv => h v (List.mem_cons_of_mem _ hv)) (by
      rw [List.map_cons] at nd
      rw [List.append_assoc]; exact nd)]
    rfl
theorem SGood.isSt {many : Int} {sd : Str} {ws : List Wd} (h : SGood many sd ws) : isSt many (gD (some (sd, ws))) = true := by
  show (isLR (.str sd) && (decide (1 ≤ (ws.map wD).length) && (decide ((ws.map wD).length ≤ 9) && wordsB many [] (ws.map wD)))) = true
  rw [words_good ws [] h.al (by rw [List.nil_append]; exact h.nd), List.length_map, decide_eq_true h.l1, decide_eq_true h.l9]
  rcases h.sd with rfl | rfl <;> rfl
theorem GGood.isSt {many : Int} {g : GS} (h : GGood many g) : Wp.isSt many (gD g) = true := by
  cases g with
  | none => rfl
  | some g => exact SGood.isSt h
/-! drawn states -/
theorem names_nd (off : Int) : ∀ n : Nat, n = 1 ∨ n = 2 ∨ n = 3 ∨ n = 9 → (namesF n off).Nodup := by
  intro n hn
  have h0 := Int.emod_nonneg off (by decide : (12 : Int) ≠ 0)
  have h1 := Int.emod_lt_of_pos off (by decide : (0 : Int) < 12)
  have e : namesF n off = namesF n ((((off % 12).toNat : Nat) : Int)) := by
    unfold namesF
    refine List.map_congr_left fun k _ => ?_
    unfold nmAt
    rw [show (off + 5 * (k : Int)) % 12 = ((((off % 12).toNat : Nat) : Int) + 5 * (k : Int)) % 12 by omega]
  rw [e]
  have : ∀ j : Nat, j < 12 → ∀ n ∈ [1, 2, 3, 9], (namesF n ((j : Nat) : Int)).Nodup := by decide +kernel
  exact this _ (by omega) n (by rcases hn with rfl | rfl | rfl | rfl <;> simp)
theorem wordsF_names (many : Int) : ∀ (xs : List Str) (s : Cs), (wordsF many xs s).1.map (·.1) = xs
  | [], s => rfl
  | x :: xs, s => congrArg (x :: ·) (wordsF_names many xs _)
theorem wordsF_sh (many : Int) : ∀ (xs : List Str) (s : Cs), ∀ w ∈ (wordsF many xs s).1, isSh w.2.1 = true ∧ w.1 ∈ xs
  | [], s, w, hw => by cases hw
  | x :: xs, s, w, hw => by
    rcases List.mem_cons.mp hw with rfl | hw
    · exact ⟨isSh_shF s, List.mem_cons_self ..⟩
    · have := wordsF_sh many xs _ w hw
      exact ⟨this.1, List.mem_cons_of_mem _ this.2⟩
theorem stateF_good {ns : List Int} {k : Nat} {many : Int} (h : GOk many (stateF ns k many)) : GGood many (stateF ns k many) := by
  unfold stateF at h ⊢
  dsimp only at h ⊢
  split
  · trivial
  · rename_i hne
    rw [if_neg hne] at h
    obtain ⟨h1, h2, h3⟩ := h
    have c := tk_rng (s := (tk (tk (stF ns k) 4).2 2).2) (many := 4) (by decide)
    have hn : (pk4 1 2 3 9 (tk (tk (tk (stF ns k) 4).2 2).2 4).1).toNat = 1 ∨ (pk4 1 2 3 9 (tk (tk (tk (stF ns k) 4).2 2).2 4).1).toNat = 2 ∨ (pk4 1 2 3 9 (tk (tk (tk (stF ns k) 4).2 2).2 4).1).toNat = 3 ∨ (pk4 1 2 3 9 (tk (tk (tk (stF ns k) 4).2 2).2 4).1).toNat = 9 := by
      unfold pk4
      split
      · exact .inl rfl
      · split
        · exact .inr (.inl rfl)
        · split
          · exact .inr (.inr (.inl rfl))
          · exact .inr (.inr (.inr rfl))
    have hlen := wordsF_ok (many := many)
    refine ⟨?_, ?_, h2, fun w hw => ?_, ?_⟩
    · split
      · exact .inl rfl
      · exact .inr rfl
    · have e := congrArg List.length (wordsF_names many (namesF (pk4 1 2 3 9 (tk (tk (tk (stF ns k) 4).2 2).2 4).1).toNat (tk (tk (tk (tk (stF ns k) 4).2 2).2 4).2 12).1) (tk (tk (tk (tk (stF ns k) 4).2 2).2 4).2 12).2)
      rw [List.length_map] at e
      show 1 ≤ (wordsF many _ _).1.length
      rw [e]
      unfold namesF
      rw [List.length_map, List.length_range]
      omega
    · have z := wordsF_sh many _ _ w hw
      refine ⟨?_, z.1, h3 w hw⟩
      obtain ⟨j, _, e⟩ := List.mem_map.mp z.2
      rw [← e]; exact nmAt_all _
    · show ((wordsF many _ _).1.map (·.1)).Nodup
      rw [wordsF_names]
      exact names_nd _ _ hn
theorem goS_good {many : Int} (h : 0 < many) : GGood many (goS many) := by
  have k := goS_ok h
  have e1 : isSh (.tup [.str "number", .int 0, .int 1]) = true := by decide +kernel
  have e2 : isSh (.tup [.str "nothing"]) = true := by decide +kernel
  have m1 : Str.ofString "go" ∈ nmAll := by decide +kernel
  have m2 : Str.ofString "on" ∈ nmAll := by decide +kernel
  have m3 : [Str.ofString "go", Str.ofString "on"].Nodup := by decide +kernel
  exact ⟨.inr rfl, by show 1 ≤ 2; decide, by show 2 ≤ 9; decide, all_cons ⟨m1, e1, k.2.2 _ (by simp)⟩ (all_cons ⟨m2, e2, k.2.2 _ (by simp)⟩ all_nil), m3⟩
theorem gramF_good {ns : List Int} {first most : Nat} (hm : 1 ≤ most) (h : ∀ g ∈ gramF ns first most, GOk (1 + cellF ns 0 / 2 % (most : Int)) g) : ∀ g ∈ gramF ns first most, GGood (1 + cellF ns 0 / 2 % (most : Int)) g := by
  have p0 := Int.emod_nonneg (cellF ns 0 / 2) (show (most : Int) ≠ 0 by omega)
  intro g hg
  have ho := h g hg
  unfold gramF at hg
  dsimp only at hg
  have base : g ∈ (List.range (1 + cellF ns 0 / 2 % (most : Int)).toNat).map (fun j => stateF ns (first + j) (1 + cellF ns 0 / 2 % (most : Int))) → GGood (1 + cellF ns 0 / 2 % (most : Int)) g := fun hm => by
    obtain ⟨j, _, rfl⟩ := List.mem_map.mp hm
    exact stateF_good ho
  split at hg
  · rename_i r e
    split at hg
    · rcases List.mem_cons.mp hg with rfl | hg
      · exact goS_good (by omega)
      · exact base (by rw [e]; exact List.mem_cons_of_mem _ hg)
    · exact base hg
  · exact base hg
end Wp

/-! K13d: what stands beside ("end",); odd shapes, odd words. -/
namespace Wp
open PySem
theorem eqv_endT {p : PyData} {d : D} (e : toPy d = some p) : PyData.eqv p (.tuple [.str "end"]) = isEnd d := by
  cases d with
  | non => cases e; rfl
  | bl b => cases e; rfl
  | int i => cases e; rfl
  | str z => cases e; rfl
  | scr ns => cases e; rfl
  | emp => cases e
  | loc a => cases e
  | lst ds =>
    have e : (toPys ds).map PyData.list = some p := e
    cases z : toPys ds with
    | none => rw [z] at e; cases e
    | some ps => rw [z] at e; cases e; rfl
  | tup ds =>
    have e : (toPys ds).map PyData.tuple = some p := e
    cases z : toPys ds with
    | none => rw [z] at e; cases e
    | some ps =>
      rw [z] at e
      cases e
      match ds, z with
      | [], z => cases z; rfl
      | [x], z =>
        have z : (match toPy x, some [] with
          | some p, some ps => some (p :: ps)
          | _, _ => none) = some ps := z
        cases y : toPy x with
        | none => rw [y] at z; cases z
        | some q =>
          rw [y] at z
          cases z
          have ev : PyData.eqv (.tuple [q]) (.tuple [.str "end"]) = (PyData.eqv q (.str "end") && true) := by
            rfl
          rw [ev, Bool.and_true]
          cases x with
          | non => cases y; rfl
          | bl b => cases y; rfl
          | int i => cases y; rfl
          | str w =>
            cases y
            show PyData.eqv (.str w) (.str "end") = decide (w = "end")
            unfold PyData.eqv
            by_cases h : w = "end"
            · rw [h]; rfl
            · rw [decide_eq_false h]
              exact beq_eq_false_iff_ne.mpr h
          | scr ns => cases y; rfl
          | emp => cases y
          | loc a => cases y
          | lst ds =>
            have y : (toPys ds).map PyData.list = some q := y
            cases u : toPys ds with
            | none => rw [u] at y; cases y
            | some ps => rw [u] at y; cases y; rfl
          | tup ds =>
            have y : (toPys ds).map PyData.tuple = some q := y
            cases u : toPys ds with
            | none => rw [u] at y; cases y
            | some ps => rw [u] at y; cases y; rfl
      | x :: x2 :: r, z =>
        have hl : ∃ a b c, ps = a :: b :: c := by
          have z : (match toPy x, (match toPy x2, toPys r with
            | some p, some ps => some (p :: ps)
            | _, _ => none) with
            | some p, some ps => some (p :: ps)
            | _, _ => none) = some ps := z
          cases y1 : toPy x with
          | none => rw [y1] at z; cases z
          | some q1 =>
            cases y2 : toPy x2 with
            | none => rw [y1, y2] at z; cases z
            | some q2 =>
              cases y3 : toPys r with
              | none => rw [y1, y2, y3] at z; cases z
              | some q3 => rw [y1, y2, y3] at z; cases z; exact ⟨_, _, _, rfl⟩
        obtain ⟨a, b, c, rfl⟩ := hl
        have e2 : isEnd (.tup (x :: x2 :: r)) = false := by cases x <;> rfl
        rw [e2]
        unfold PyData.eqv PyData.eqvAll
        have : PyData.eqvAll (b :: c) [] = false := by unfold PyData.eqvAll; rfl
        rw [this, Bool.and_false]
theorem sm_end {d : D} (h : smV d = true) (hd : dep d ≤ 60) (M : Mem) (Q : QK) (hQ : Q (.bl (isEnd d)) M) : cmpW .Eq d (.tup [.str "end"]) M Q := by
  obtain ⟨p, e, c, dp, _⟩ := toPy_sm h
  have ee := eqv_endT e
  have P : eqP false d (.tup [.str "end"]) M Q := by
    unfold eqP
    rw [toPyM_sm h, e]
    refine ⟨?_, by decide +kernel, ?_⟩
    · show (p.canLay0 && decide (p.depth ≤ 64)) = true
      rw [c, decide_eq_true (by omega)]; rfl
    · show Q (.bl (PyData.eqv p (.tuple [.str "end"]))) M
      rw [ee]; exact hQ
  cases d with
  | tup ds =>
    match ds, hQ, P with
    | [], hQ, P => exact hQ
    | [x], hQ, P => exact P
    | x :: y :: r, hQ, P => exact P
  | loc a => cases h
  | _ => exact P
theorem eqv_LR {p : PyData} {d : D} (h : smV d = true) (e : toPy d = some p) : (([PyData.str "left", .str "right"] : List PyData).any fun z => PyData.eqv z p) = isLR d := by
  cases d with
  | non => cases e; rfl
  | bl b => cases e; rfl
  | int i => cases e; rfl
  | scr ns => cases e; rfl
  | emp => cases e
  | loc a => cases e
  | str z =>
    cases e
    show (PyData.eqv (.str "left") (.str z) || (PyData.eqv (.str "right") (.str z) || false)) = (decide (z = "left") || decide (z = "right"))
    have k : ∀ w : Str, PyData.eqv (.str w) (.str z) = decide (z = w) := fun w => by
      unfold PyData.eqv
      by_cases h : z = w
      · rw [h, decide_eq_true rfl]; exact beq_self_eq_true _
      · rw [decide_eq_false h]; exact beq_eq_false_iff_ne.mpr fun g => h g.symm
    rw [k, k, Bool.or_false]
  | lst ds =>
    have e : (toPys ds).map PyData.list = some p := e
    cases z : toPys ds with
    | none => rw [z] at e; cases e
    | some ps => rw [z] at e; cases e; rfl
  | tup ds =>
    have e : (toPys ds).map PyData.tuple = some p := e
    cases z : toPys ds with
    | none => rw [z] at e; cases e
    | some ps => rw [z] at e; cases e; rfl
theorem sm_LR {a : D} (h : smV a = true) (hd : dep a ≤ 60) (M : Mem) (Q : QK) (hQ : Q (.bl (!isLR a)) M) : cmpW .NotIn a (.tup [.str "left", .str "right"]) M Q := by
  obtain ⟨p, e, c, dp, _⟩ := toPy_sm h
  have ee := eqv_LR h e
  have P : match toPyM M a, asS M (.tup [.str "left", .str "right"]) with
    | some d, some ys => match toPys ys with
      | some ds => SeqAt.shaped d = true ∧ SeqAt.shaped (.list ds) = true ∧ Q (.bl (if true then !(ds.any fun z => PyData.eqv z d) else ds.any fun z => PyData.eqv z d)) M
      | none => False
    | _, _ => False := by
    rw [toPyM_sm h, e]
    refine ⟨?_, by decide +kernel, ?_⟩
    · show (p.canLay0 && decide (p.depth ≤ 64)) = true
      rw [c, decide_eq_true (by omega)]; rfl
    · show Q (.bl (!([PyData.str "left", .str "right"].any fun z => PyData.eqv z p))) M
      rw [ee]; exact hQ
  cases a with
  | emp => exact ⟨rfl, hQ⟩
  | _ => exact P
theorem emp_LR (M : Mem) (Q : QK) (hQ : Q (.bl true) M) : cmpW .NotIn .emp (.tup [.str "left", .str "right"]) M Q := ⟨rfl, hQ⟩
theorem dep_mem {ds : List D} {d : D} (h : d ∈ ds) : dep d ≤ deps ds := deps_mem d h
theorem sm_stOk {d : D} (h : smV d = true) (hd : dep d ≤ 60) : StOk d where
  ok := smV_ok h
  eqE := sm_end h hd
  inL := fun a b e => by
    subst e
    have z := (smV_tupH h).2 a (by simp)
    have y : dep a ≤ deps [a, b] := deps_mem a (by simp)
    have hd : deps [a, b] + 1 ≤ 60 := hd
    exact sm_LR z (by omega)
  ns := fun a ns e => by
    subst e
    have z := (smV_tupH h).2 (.scr ns) (by simp)
    cases z
theorem optAll_none {α β : Type} {f : α → Option β} : ∀ {l : List α} {x : α}, x ∈ l → f x = none → optAll f l = none
  | y :: l, x, h, e => by
    show (match f y, optAll f l with
      | some p, some ps => some (p :: ps)
      | _, _ => none) = none
    rcases List.mem_cons.mp h with rfl | h
    · rw [e]
    · rw [optAll_none h e]
      cases f y <;> rfl
theorem toPys_none : ∀ {l : List D} {x : D}, x ∈ l → toPy x = none → toPys l = none
  | y :: l, x, h, e => by
    show (match toPy y, toPys l with
      | some p, some ps => some (p :: ps)
      | _, _ => none) = none
    rcases List.mem_cons.mp h with rfl | h
    · rw [e]
    · rw [toPys_none h e]
      cases toPy y <;> rfl
/-- what holds a {} -/
def HasE (d : D) : Prop := toPy d = none ∧ ∀ M n, toPyF M (n + 2) d = none
theorem HasE.emp3 (a b : D) : HasE (.tup [a, b, .emp]) := by
  refine ⟨?_, fun M n => ?_⟩
  · show (toPys [a, b, .emp]).map PyData.tuple = none
    rw [toPys_none (x := .emp) (by simp) rfl]; rfl
  · show (optAll (toPyF M (n + 1)) [a, b, .emp]).map PyData.tuple = none
    rw [optAll_none (x := .emp) (by simp) rfl]; rfl
/-- a pair of something flat and of what holds a {} -/
theorem has_end {a b : D} (h1 : toPyM M (.tup [a, b]) = none) (h2 : toPyF M 30 (.tup [a, b]) = none) (hf : flK a = true) {Q : QK} (hQ : Q (.bl false) M) : cmpW .Eq (.tup [a, b]) (.tup [.str "end"]) M Q := by
  show eqP false (.tup [a, b]) (.tup [.str "end"]) M Q
  unfold eqP
  rw [h1]
  show eqF false (.tup [a, b]) (.tup [.str "end"]) M Q
  unfold eqF
  rw [h2]
  exact ⟨hf, hQ⟩
theorem end_2 (a b : D) : isEnd (.tup [a, b]) = false := by cases a <;> rfl
/-- a side and words of which one holds a {} -/
theorem has_stOk {z : Str} {ws : List D} {x : D} (hz : smV (.str z) = true) (hok : okD (.lst ws) = true) (hx : x ∈ ws) (he : HasE x) : StOk (.tup [.str z, .lst ws]) where
  ok := by
    show (decide (2 ≤ sizeLine) && (okD (.str z) && (okD (.lst ws) && true))) = true
    rw [decide_eq_true (by decide : 2 ≤ sizeLine), smV_ok hz, hok]; rfl
  eqE := fun M Q hQ => by
    rw [end_2] at hQ
    refine has_end ?_ ?_ rfl hQ
    · show (toPys1 M [.str z, .lst ws]).map PyData.tuple = none
      have : toPy1 M (.lst ws) = none := by
        show (toPys ws).map PyData.list = none
        rw [toPys_none hx he.1]; rfl
      show (match toPy1 M (.str z), (match toPy1 M (.lst ws), toPys1 M [] with
        | some p, some ps => some (p :: ps)
        | _, _ => none) with
        | some p, some ps => some (p :: ps)
        | _, _ => none).map PyData.tuple = none
      rw [this]; rfl
    · show (optAll (toPyF M 29) [.str z, .lst ws]).map PyData.tuple = none
      rw [optAll_none (x := .lst ws) (by simp) (by
        show (optAll (toPyF M 28) ws).map PyData.list = none
        rw [optAll_none hx (he.2 M 26)]; rfl)]; rfl
  inL := fun a b e M Q hQ => by
    injection e with e
    injection e with e1 e
    subst e1
    exact sm_LR hz (Nat.zero_le _) M Q hQ
  ns := fun a ns e => by
    injection e with e
    injection e with e1 e
    injection e with e2 e
    cases e2
theorem emp2_stOk {z : Str} (hz : smV (.str z) = true) : StOk (.tup [.str z, .emp]) where
  ok := by
    show (decide (2 ≤ sizeLine) && (okD (.str z) && true)) = true
    rw [decide_eq_true (by decide : 2 ≤ sizeLine), smV_ok hz]; rfl
  eqE := fun M Q hQ => has_end rfl rfl rfl hQ
  inL := fun a b e M Q hQ => by
    injection e with e
    injection e with e1 e
    subst e1
    exact sm_LR hz (Nat.zero_le _) M Q hQ
  ns := fun a ns e => by
    injection e with e
    injection e with e1 e
    injection e with e2 e
    cases e2
theorem emp1_stOk {ws : List D} (hok : okD (.lst ws) = true) : StOk (.tup [.emp, .lst ws]) where
  ok := by
    show (decide (2 ≤ sizeLine) && (okD (.lst ws) && true)) = true
    rw [decide_eq_true (by decide : 2 ≤ sizeLine), hok]; rfl
  eqE := fun M Q hQ => has_end rfl rfl rfl hQ
  inL := fun a b e M Q hQ => by
    injection e with e
    injection e with e1 e
    subst e1
    exact emp_LR M Q hQ
  ns := fun a ns e => by
    injection e with e
    injection e with e1 e
    injection e with e2 e
    cases e2
end Wp

/-! K13e: odd shapes. -/
namespace Wp
open PySem
def restN : Nat → Sx → Sx
  | 0, s => s
  | n + 1, .seq _ t => restN n t
  | _ + 1, s => s
def OddS (v : D) : Prop := smV v = true ∧ dep v ≤ 20 ∧ isSh v = false
section
variable {k : Nat} {M : Mem} {N : Ends} {kind : Int} {e1 e2 e3 : Option D} {L : List D}
theorem os4 (hl : L.length = 16) (hP : ∀ x ∈ L, OddS x) (hq : ∀ v, OddS v → N.rt v M) : wpS (run tab k) (restN 7 b_law_odd_shape.body) N [some (.int kind), e1, e2, e3, some (.lst L)] M := by
  conv => whnf
  refine ⟨lok rfl, ?_⟩
  refine ⟨lok rfl, ?_⟩
  refine ⟨lok rfl, ?_⟩
  refine ⟨lok rfl, ?_⟩
  conv => whnf
  have a1 : OddS (.tup [.str "End"]) := ⟨by decide +kernel, by decide +kernel, by decide +kernel⟩
  have a2 : OddS (.tup [.str "choice", .tup []]) := ⟨by decide +kernel, by decide +kernel, by decide +kernel⟩
  have hP2 := all_app hP (all_cons a1 (all_cons a2 all_nil))
  have hl2 : (L ++ [D.tup [.str "End"], .tup [.str "choice", .tup []]]).length = 18 := by rw [List.length_append, hl]; rfl
  change (L ++ [D.tup [.str "End"], .tup [.str "choice", .tup []]]).length ≤ sizeLine ∧ _
  revert hP2 hl2
  generalize L ++ [D.tup [.str "End"], .tup [.str "choice", .tup []]] = L2
  intro hP2 hl2
  refine ⟨szN (by omega), ?_⟩
  conv => whnf
  rw [hl2]
  refine ⟨by decide, ?_⟩
  conv => whnf
  obtain ⟨v, hv, e⟩ := atI_mem (xs := L2) (i := kind % 18) (by omega) (by omega)
  rw [show kind % ((18 : Nat) : Int) = kind % 18 from rfl, e]
  exact hq v (hP2 v hv)
theorem os3 (hl : L.length = 12) (hP : ∀ x ∈ L, OddS x) (hq : ∀ v, OddS v → N.rt v M) : wpS (run tab k) (restN 6 b_law_odd_shape.body) N [some (.int kind), e1, e2, e3, some (.lst L)] M := by
  conv => whnf
  refine ⟨⟨by decide, by decide, by decide⟩, ?_⟩
  conv => whnf
  refine ⟨lok rfl, ?_⟩
  refine ⟨lok rfl, ?_⟩
  conv => whnf
  refine ⟨lok rfl, ?_⟩
  refine ⟨lok rfl, ?_⟩
  conv => whnf
  refine ⟨by decide, by decide, by decide, ?_⟩
  refine ⟨lok rfl, ?_⟩
  conv => whnf
  refine ⟨lok rfl, ?_⟩
  refine ⟨lok rfl, ?_⟩
  conv => whnf
  refine ⟨szN (show (L ++ _).length ≤ 100000 by rw [List.length_append, hl]; decide), ?_⟩
  have a1 : OddS (.tup [.str "number", .int 0, .int 1000000000000000000]) := ⟨by decide +kernel, by decide +kernel, by decide +kernel⟩
  have a2 : OddS (.tup [.str "number", .non, .int 1]) := ⟨by decide +kernel, by decide +kernel, by decide +kernel⟩
  have a3 : OddS (.tup [.str "choice", .tup (List.replicate 10 (.tup [.str "nothing"]))]) := ⟨by decide +kernel, by decide +kernel, by decide +kernel⟩
  have a4 : OddS (.lst [.str "nothing"]) := ⟨by decide +kernel, by decide +kernel, by decide +kernel⟩
  exact os4 (L := L ++ [.tup [.str "number", .int 0, .int 1000000000000000000], .tup [.str "number", .non, .int 1], .tup [.str "choice", .tup (List.replicate 10 (.tup [.str "nothing"]))], .lst [.str "nothing"]]) (by rw [List.length_append, hl]; rfl) (all_app hP (all_cons a1 (all_cons a2 (all_cons a3 (all_cons a4 all_nil))))) hq
theorem os2 {deep wide : D} (hl : L.length = 6) (hP : ∀ x ∈ L, OddS x) (hd : OddS deep) (hw : OddS wide) (hq : ∀ v, OddS v → N.rt v M) : wpS (run tab k) (restN 5 b_law_odd_shape.body) N [some (.int kind), some deep, e2, some wide, some (.lst L)] M := by
  conv => whnf
  refine ⟨lok rfl, ?_⟩
  refine ⟨lok rfl, ?_⟩
  refine ⟨lok rfl, ?_⟩
  refine ⟨lok rfl, ?_⟩
  refine ⟨lok rfl, ?_⟩
  refine ⟨lok rfl, ?_⟩
  refine ⟨lok rfl, ?_⟩
  conv => whnf
  refine ⟨szN (show (L ++ _).length ≤ 100000 by rw [List.length_append, hl]; show 6 + 6 ≤ 100000; decide), ?_⟩
  have a1 : OddS (.tup [.str "choice", .lst [.tup [.str "nothing"]]]) := ⟨by decide +kernel, by decide +kernel, by decide +kernel⟩
  have a2 : OddS (.tup [.str "pair", .tup [.str "nothing"], .non]) := ⟨by decide +kernel, by decide +kernel, by decide +kernel⟩
  have a3 : OddS (.str "nothing") := ⟨by decide +kernel, by decide +kernel, by decide +kernel⟩
  have a4 : OddS (.tup [.str "nothing", .int 1]) := ⟨by decide +kernel, by decide +kernel, by decide +kernel⟩
  exact os3 (L := L ++ [.tup [.str "choice", .lst [.tup [.str "nothing"]]], .tup [.str "pair", .tup [.str "nothing"], .non], .str "nothing", .tup [.str "nothing", .int 1], deep, wide]) (by rw [List.length_append, hl]; rfl) (all_app hP (all_cons a1 (all_cons a2 (all_cons a3 (all_cons a4 (all_cons hd (all_cons hw all_nil))))))) hq
theorem os1 {deep wide : D} (hd : OddS deep) (hw : OddS wide) (hq : ∀ v, OddS v → N.rt v M) : wpS (run tab k) (restN 4 b_law_odd_shape.body) N [some (.int kind), some deep, e2, some wide, e3] M := by
  conv => whnf
  refine ⟨lok rfl, ?_⟩
  refine ⟨lok rfl, ?_⟩
  refine ⟨lok rfl, ?_⟩
  conv => whnf
  refine ⟨lok rfl, ?_⟩
  refine ⟨lok rfl, ?_⟩
  refine ⟨lok rfl, ?_⟩
  refine ⟨lok rfl, ?_⟩
  conv => whnf
  have a1 : OddS (.tup [.str "number", .int 2, .int 1]) := ⟨by decide +kernel, by decide +kernel, by decide +kernel⟩
  have a2 : OddS (.tup [.str "number", .int 1]) := ⟨by decide +kernel, by decide +kernel, by decide +kernel⟩
  have a3 : OddS (.tup [.str "text", .int 251]) := ⟨by decide +kernel, by decide +kernel, by decide +kernel⟩
  have a4 : OddS (.tup [.str "text", .int (-1)]) := ⟨by decide +kernel, by decide +kernel, by decide +kernel⟩
  have a5 : OddS (.tup [.str "list", .tup [.str "nothing"], .bl true]) := ⟨by decide +kernel, by decide +kernel, by decide +kernel⟩
  have a6 : OddS .non := ⟨by decide +kernel, by decide +kernel, by decide +kernel⟩
  exact os2 (L := [.tup [.str "number", .int 2, .int 1], .tup [.str "number", .int 1], .tup [.str "text", .int 251], .tup [.str "text", .int (-1)], .tup [.str "list", .tup [.str "nothing"], .bl true], .non]) rfl (all_cons a1 (all_cons a2 (all_cons a3 (all_cons a4 (all_cons a5 (all_cons a6 all_nil)))))) hd hw hq
end
def deepN : Nat → D
  | 0 => .tup [.str "nothing"]
  | n + 1 => .tup [.str "list", deepN n, .int 1]
theorem r_odd_shape {kind : Int} {k : Nat} {M : Mem} (hk : 1 ≤ k) : run tab k f_law_odd_shape [.int kind] M (fun v M' => M' = M ∧ OddS v) fun _ _ => False := by
  obtain ⟨k, rfl⟩ : ∃ j, k = j + 1 := ⟨k - 1, by omega⟩
  refine run_in rfl rfl ?_
  conv => whnf
  refine ⟨lok rfl, ?_⟩
  conv => whnf
  refine ⟨⟨by decide, by decide⟩, ?_⟩
  refine each_inv (fun rem env M' => M' = M ∧ ∃ (j : Nat) (e2 : Option D), j ≤ 6 ∧ rem = rng (j : Int) (6 - j) ∧ env = [some (.int kind), some (deepN j), e2, none, none]) ?_ ?_ _ _ _ ⟨rfl, 0, none, by decide, rfl, rfl⟩
  · rintro x rem env M1 ⟨rfl, j, e2, hj, hr, rfl⟩
    by_cases hje : j = 6
    · rw [hje] at hr
      cases hr
    obtain ⟨w, hw⟩ : ∃ w, 6 - j = w + 1 := ⟨6 - j - 1, by omega⟩
    have hr2 : rem = rng ((j + 1 : Nat) : Int) (6 - (j + 1)) := by
      rw [hw] at hr
      unfold rng at hr ⊢
      rw [List.range_succ_eq_map, List.map_cons, List.map_map] at hr
      injection hr with h1 h2
      rw [h2, show 6 - (j + 1) = w by omega]
      refine List.map_congr_left fun i _ => ?_
      show D.int _ = D.int _
      congr 1
      show (j : Int) + ((i + 1 : Nat) : Int) = _
      omega
    refine ⟨trivial, ?_⟩
    conv => whnf
    refine ⟨lok rfl, ?_⟩
    exact ⟨rfl, j + 1, _, by omega, hr2, rfl⟩
  · rintro env M1 ⟨rfl, j, e2, hj, hr, rfl⟩
    refine ⟨trivial, ?_⟩
    have hj6 : j = 6 := by
      rcases Nat.lt_or_ge j 6 with h | h
      · obtain ⟨w, hw⟩ : ∃ w, 6 - j = w + 1 := ⟨6 - j - 1, by omega⟩
        rw [hw] at hr
        unfold rng at hr
        rw [List.range_succ_eq_map] at hr
        cases hr
      · omega
    subst hj6
    have hd : OddS (deepN 6) := ⟨by decide +kernel, by decide +kernel, by decide +kernel⟩
    generalize deepN 6 = deep at hd ⊢
    conv => whnf
    refine ⟨lok rfl, ?_⟩
    refine ⟨lok rfl, ?_⟩
    conv => whnf
    refine ⟨by decide, by decide, by decide, ?_⟩
    refine ⟨lok rfl, ?_⟩
    conv => whnf
    refine ⟨lok rfl, ?_⟩
    conv => whnf
    refine ⟨by decide, by decide, by decide, ?_⟩
    refine ⟨lok rfl, ?_⟩
    have hw : OddS (.tup [.str "choice", .tup (List.replicate 6 (.tup [.str "choice", .tup (List.replicate 9 (.tup [.str "nothing"]))]))]) := ⟨by decide +kernel, by decide +kernel, by decide +kernel⟩
    exact os1 (wide := .tup [.str "choice", .tup (List.replicate 6 (.tup [.str "choice", .tup (List.replicate 9 (.tup [.str "nothing"]))]))]) hd hw fun v hv => .done ⟨rfl, hv⟩
end Wp

/-! K13f: odd words. -/
namespace Wp
open PySem
structure OddW (many : Int) (v : D) : Prop where
  ok : okD v = true
  bad : isWd many v = false
  pl : (smV v = true ∧ dep v ≤ 30) ∨ HasE v
theorem nm_upper : ∀ z ∈ nmAll, isNm (.str (Txt.upper z)) = false ∧ smV (.str (Txt.upper z)) = true := by decide +kernel
theorem nm_len : ∀ z ∈ nmAll, z.length ≤ 8 ∧ smV (.str z) = true := by decide +kernel
theorem str_then : ∀ j : Nat, j < 31 → smV (.str (Str.ofString (toString ((j : Nat) : Int)))) = true := by decide +kernel
theorem oddw_tri {many : Int} {a b c : D} (ha : smV a = true) (hb : smV b = true) (hc : smV c = true) (da : dep a ≤ 25) (db : dep b ≤ 25) (dc : dep c ≤ 25) (h : isNm a = false ∨ isSh b = false ∨ isNo many c = false) : OddW many (.tup [a, b, c]) := by
  have s : smV (.tup [a, b, c]) = true := smV_tp (by show 3 ≤ 1000; decide) (all_cons ha (all_cons hb (all_cons hc all_nil)))
  refine ⟨smV_ok s, ?_, .inl ⟨s, Nat.le_trans (dep_tup (n := 25) (all_cons da (all_cons db (all_cons dc all_nil)))) (by decide)⟩⟩
  show (isNm a && (isSh b && isNo many c)) = false
  rcases h with h | h | h
  · rw [h]; rfl
  · rw [h, Bool.false_and, Bool.and_false]
  · rw [h, Bool.and_false, Bool.and_false]
section
variable {k : Nat} {M : Mem} {N : Ends} {kind many t : Int} {z : Str} {sh : D} {e0 e3 : Option D} {L : List D}
theorem oddw_u {v : D} (ds : List D) (h : v = .tup ds ∨ v = .lst ds) (hl : ds.length ≤ 10) (hs : ∀ d ∈ ds, smV d = true ∧ dep d ≤ 25) (h3 : isWd many v = false) : OddW many v := by
  rcases h with rfl | rfl
  · have s := smV_tp (ds := ds) (by omega) fun d hd => (hs d hd).1
    exact ⟨smV_ok s, h3, .inl ⟨s, Nat.le_trans (dep_tup (n := 25) fun d hd => (hs d hd).2) (by decide)⟩⟩
  · have s := smV_ls (ds := ds) (by omega) fun d hd => (hs d hd).1
    exact ⟨smV_ok s, h3, .inl ⟨s, Nat.le_trans (dep_lst (n := 25) fun d hd => (hs d hd).2) (by decide)⟩⟩
theorem ow6 (hl : L.length = 22) (hP : ∀ x ∈ L, OddW many x) (hq : ∀ v, OddW many v → N.rt v M) {e2 e4 e5 e6 : Option D} : wpS (run tab k) (restN 6 b_law_odd_word.body) N [e0, some (.int kind), e2, some (.lst L), e4, e5, e6] M := by
  conv => whnf
  rw [hl]
  refine ⟨by decide, ?_⟩
  conv => whnf
  obtain ⟨v, hv, e⟩ := atI_mem (xs := L) (i := kind % 22) (by omega) (by omega)
  rw [show kind % ((22 : Nat) : Int) = kind % 22 from rfl, e]
  exact hq v (hP v hv)
theorem szA {L E : List D} {n m : Nat} (h : L.length = n) (h2 : E.length = m) (h3 : n + m ≤ 100000) : (L ++ E).length ≤ sizeLine := szN (by rw [List.length_append, h, h2]; exact h3)
structure WF (many : Int) (z : Str) (sh : D) (t : Int) : Prop where
  nm : isNm (.str z) = true
  up : isNm (.str (Txt.upper z)) = false ∧ smV (.str (Txt.upper z)) = true
  zl : z.length ≤ 8
  zs : smV (.str z) = true
  ss : smV sh = true
  ds : dep sh ≤ 5
  ts : smV (.int t) = true
  t0 : 0 ≤ t
  t1 : t < 31
  ms : smV (.int many) = true
theorem WGood.wf {many : Int} {z : Str} {sh : D} {t : Int} (hw : WGood many (z, sh, t)) (hm : many ≤ 30) : WF many z sh t := by
  have hok : WdOk many (z, sh, t) := hw.ok
  have a : 0 ≤ t := hok.2.2.2.1
  have b : t < many := hok.2.2.2.2
  exact ⟨nmAll_nm _ hw.nm, nm_upper _ hw.nm, (nm_len z hw.nm).1, (nm_len z hw.nm).2, hok.2.1, hok.2.2.1, smI (by omega) (by omega), a, by omega, smI (by omega) (by omega)⟩
theorem ow5 (hk : 1 ≤ k) (w : WF many z sh t) (hl : L.length = 18) (hP : ∀ x ∈ L, OddW many x) (hq : ∀ v, OddW many v → N.rt v M) : wpS (run tab k) (restN 5 b_law_odd_word.body) N [e0, some (.int kind), some (.int many), some (.lst L), some (.str z), some sh, some (.int t)] M := by
  conv => whnf
  refine ⟨by decide, by decide, ?_⟩
  conv => whnf
  refine run_use (r_odd_shape (k := k) hk) (Nat.le_refl _) fun v M1 ⟨e, ho⟩ => ?_
  subst e
  conv => whnf
  refine ⟨lok rfl, ?_⟩
  conv => whnf
  refine ⟨lok rfl, ?_⟩
  conv => whnf
  refine ⟨lok rfl, ?_⟩
  conv => whnf
  refine ⟨lok rfl, ?_⟩
  conv => whnf
  refine ⟨lok rfl, ?_⟩
  conv => whnf
  have hE : HasE (.tup [.str z, sh, .emp]) := HasE.emp3 _ _
  have ke : okD (.tup [.str z, sh, .emp]) = true := by
    show (decide (3 ≤ sizeLine) && (okD (.str z) && (okD sh && true))) = true
    rw [decide_eq_true (by decide : 3 ≤ sizeLine), smV_ok w.zs, smV_ok w.ss]; rfl
  have be : isWd many (.tup [.str z, sh, .emp]) = false := by
    show (isNm (.str z) && (isSh sh && false)) = false
    rw [Bool.and_false, Bool.and_false]
  have hx : ∀ x ∈ [D.tup [.str z, v, .int t], .str z, .tup [.str z, sh, .lst []], .tup [.str z, sh, .emp]], OddW many x :=
    all_cons (oddw_tri w.zs ho.1 w.ts (Nat.zero_le _) (by have := ho.2.1; omega) (Nat.zero_le _) (.inr (.inl ho.2.2)))
      (all_cons ⟨smV_ok w.zs, rfl, .inl ⟨w.zs, Nat.zero_le _⟩⟩
        (all_cons (oddw_tri w.zs w.ss (by decide) (Nat.zero_le _) (by have := w.ds; omega) (by decide) (.inr (.inr rfl)))
          (all_cons ⟨ke, be, .inr hE⟩ all_nil)))
  refine ⟨szA hl rfl (by decide : 18 + 4 ≤ 100000), ?_⟩
  exact ow6 (e0 := e0) (e2 := some (.int many)) (e4 := some (.str z)) (e5 := some sh) (e6 := some (.int t)) (L := L ++ [D.tup [.str z, v, .int t], .str z, .tup [.str z, sh, .lst []], .tup [.str z, sh, .emp]]) (by rw [List.length_append, hl]; rfl) (all_app hP hx) hq
theorem ow4 (hk : 1 ≤ k) (w : WF many z sh t) (hl : L.length = 14) (hP : ∀ x ∈ L, OddW many x) (hq : ∀ v, OddW many v → N.rt v M) : wpS (run tab k) (restN 4 b_law_odd_word.body) N [e0, some (.int kind), some (.int many), some (.lst L), some (.str z), some sh, some (.int t)] M := by
  conv => whnf
  refine ⟨lok rfl, ?_⟩
  refine ⟨lok rfl, ?_⟩
  refine ⟨lok rfl, ?_⟩
  refine ⟨lok rfl, ?_⟩
  refine ⟨lok rfl, ?_⟩
  refine ⟨lok rfl, ?_⟩
  conv => whnf
  refine ⟨szA (m := 4) hl rfl (by decide : 14 + 4 ≤ 100000), ?_⟩
  have n5 := w.ds
  have hx : ∀ x ∈ [D.tup [.str z, sh, .int t, .int t], .tup [.non, sh, .int t], .tup [.str z, .int t, sh], .tup [.lst [.str "a"], sh, .int t]], OddW many x :=
    all_cons (oddw_u _ (.inl rfl) (by show 4 ≤ 10; decide) (all_cons ⟨w.zs, Nat.zero_le _⟩ (all_cons ⟨w.ss, by omega⟩ (all_cons ⟨w.ts, Nat.zero_le _⟩ (all_cons ⟨w.ts, Nat.zero_le _⟩ all_nil)))) rfl)
      (all_cons (oddw_tri (by decide) w.ss w.ts (Nat.zero_le _) (by omega) (Nat.zero_le _) (.inl rfl))
        (all_cons (oddw_tri w.zs w.ts w.ss (Nat.zero_le _) (Nat.zero_le _) (by omega) (.inr (.inl rfl)))
          (all_cons (oddw_tri (by decide +kernel) w.ss w.ts (by decide) (by omega) (Nat.zero_le _) (.inl rfl)) all_nil)))
  exact ow5 hk w (L := L ++ [D.tup [.str z, sh, .int t, .int t], .tup [.non, sh, .int t], .tup [.str z, .int t, sh], .tup [.lst [.str "a"], sh, .int t]]) (by rw [List.length_append, hl]; rfl) (all_app hP hx) hq
theorem ow3 (hk : 1 ≤ k) (w : WF many z sh t) (hl : L.length = 10) (hP : ∀ x ∈ L, OddW many x) (hq : ∀ v, OddW many v → N.rt v M) : wpS (run tab k) (restN 3 b_law_odd_word.body) N [e0, some (.int kind), some (.int many), some (.lst L), some (.str z), some sh, some (.int t)] M := by
  have t0 := w.t0
  have t1 := w.t1
  have n5 := w.ds
  conv => whnf
  refine ⟨lok rfl, ?_⟩
  refine ⟨lok rfl, ?_⟩
  refine ⟨lok rfl, ?_⟩
  conv => whnf
  refine ⟨?_, ?_⟩
  · have : t.natAbs ≤ 30 := by omega
    exact Nat.lt_of_le_of_lt (Nat.log2_le_self _) (by omega)
  refine ⟨lok rfl, ?_⟩
  refine ⟨lok rfl, ?_⟩
  conv => whnf
  refine ⟨szA (m := 4) hl rfl (by decide : 10 + 4 ≤ 100000), ?_⟩
  have hst : smV (.str (Str.ofString (toString t))) = true := by
    have := str_then t.toNat (by omega)
    rw [show ((t.toNat : Nat) : Int) = t by omega] at this
    exact this
  have nn : isNo many (.int many) = false := by
    rw [isNo_int, decide_eq_false (Int.lt_irrefl many), Bool.and_false]
  have hx : ∀ x ∈ [D.tup [.str z, sh, .int many], .tup [.str z, sh, .bl true], .tup [.str z, sh, .non], .tup [.str z, sh, .str (Str.ofString (toString t))]], OddW many x :=
    all_cons (oddw_tri w.zs w.ss w.ms (Nat.zero_le _) (by omega) (Nat.zero_le _) (.inr (.inr nn)))
      (all_cons (oddw_tri w.zs w.ss rfl (Nat.zero_le _) (by omega) (Nat.zero_le _) (.inr (.inr rfl)))
        (all_cons (oddw_tri w.zs w.ss rfl (Nat.zero_le _) (by omega) (Nat.zero_le _) (.inr (.inr rfl)))
          (all_cons (oddw_tri w.zs w.ss hst (Nat.zero_le _) (by omega) (Nat.zero_le _) (.inr (.inr rfl))) all_nil)))
  exact ow4 hk w (L := L ++ [D.tup [.str z, sh, .int many], .tup [.str z, sh, .bl true], .tup [.str z, sh, .non], .tup [.str z, sh, .str (Str.ofString (toString t))]]) (by rw [List.length_append, hl]; rfl) (all_app hP hx) hq
theorem ow2 (hk : 1 ≤ k) (w : WF many z sh t) (hl : L.length = 5) (hP : ∀ x ∈ L, OddW many x) (hq : ∀ v, OddW many v → N.rt v M) : wpS (run tab k) (restN 2 b_law_odd_word.body) N [e0, some (.int kind), some (.int many), some (.lst L), some (.str z), some sh, some (.int t)] M := by
  have n5 := w.ds
  conv => whnf
  refine ⟨lok rfl, ?_⟩
  refine ⟨lok rfl, ?_⟩
  refine ⟨lok rfl, ?_⟩
  conv => whnf
  refine ⟨lok rfl, ?_⟩
  refine ⟨lok rfl, ?_⟩
  conv => whnf
  refine ⟨szA (m := 5) hl rfl (by decide : 5 + 5 ≤ 100000), ?_⟩
  have hx : ∀ x ∈ [D.tup [.str "abcdefghi", sh, .int t], .tup [.str "a b", sh, .int t], .tup [.str "a1", sh, .int t], .tup [.str z, sh, .int (-1)], .non], OddW many x :=
    all_cons (oddw_tri (by decide +kernel) w.ss w.ts (Nat.zero_le _) (by omega) (Nat.zero_le _) (.inl (by decide +kernel)))
      (all_cons (oddw_tri (by decide +kernel) w.ss w.ts (Nat.zero_le _) (by omega) (Nat.zero_le _) (.inl (by decide +kernel)))
        (all_cons (oddw_tri (by decide +kernel) w.ss w.ts (Nat.zero_le _) (by omega) (Nat.zero_le _) (.inl (by decide +kernel)))
          (all_cons (oddw_tri w.zs w.ss (by decide) (Nat.zero_le _) (by omega) (Nat.zero_le _) (.inr (.inr rfl)))
            (all_cons ⟨rfl, rfl, .inl ⟨rfl, Nat.zero_le _⟩⟩ all_nil))))
  exact ow3 hk w (L := L ++ [D.tup [.str "abcdefghi", sh, .int t], .tup [.str "a b", sh, .int t], .tup [.str "a1", sh, .int t], .tup [.str z, sh, .int (-1)], .non]) (by rw [List.length_append, hl]; rfl) (all_app hP hx) hq
end
theorem r_odd_word {kind many t : Int} {z : Str} {sh : D} {k : Nat} {M : Mem} (hk : 2 ≤ k) (w : WF many z sh t) : run tab k f_law_odd_word [.tup [.str z, sh, .int t], .int kind, .int many] M (fun v M' => M' = M ∧ OddW many v) fun _ _ => False := by
  obtain ⟨k, rfl⟩ : ∃ j, k = j + 1 := ⟨k - 1, by omega⟩
  have n5 := w.ds
  have hz : z.length ≤ 5592405 := Nat.le_trans w.zl (by decide)
  refine run_in rfl rfl ?_
  conv => whnf
  refine ⟨lok rfl, ?_⟩
  conv => whnf
  refine ⟨lok rfl, ?_⟩
  conv => whnf
  refine ⟨trivial, ?_⟩
  refine ⟨hz, ?_⟩
  refine ⟨lok rfl, ?_⟩
  refine ⟨lok rfl, ?_⟩
  refine ⟨lok rfl, ?_⟩
  refine ⟨lok rfl, ?_⟩
  have hx : ∀ x ∈ [D.tup [.str z, sh], .lst [.str z, sh, .int t], .tup [.str (Txt.upper z), sh, .int t], .tup [.str "", sh, .int t], .tup [.int 7, sh, .int t]], OddW many x :=
    all_cons (oddw_u _ (.inl rfl) (by show 2 ≤ 10; decide) (all_cons ⟨w.zs, Nat.zero_le _⟩ (all_cons ⟨w.ss, by omega⟩ all_nil)) rfl)
      (all_cons (oddw_u _ (.inr rfl) (by show 3 ≤ 10; decide) (all_cons ⟨w.zs, Nat.zero_le _⟩ (all_cons ⟨w.ss, by omega⟩ (all_cons ⟨w.ts, Nat.zero_le _⟩ all_nil))) rfl)
        (all_cons (oddw_tri w.up.2 w.ss w.ts (Nat.zero_le _) (by omega) (Nat.zero_le _) (.inl w.up.1))
          (all_cons (oddw_tri (by decide +kernel) w.ss w.ts (Nat.zero_le _) (by omega) (Nat.zero_le _) (.inl (by decide +kernel)))
            (all_cons (oddw_tri (by decide +kernel) w.ss w.ts (Nat.zero_le _) (by omega) (Nat.zero_le _) (.inl rfl)) all_nil))))
  exact ow2 (by omega) w (L := [D.tup [.str z, sh], .lst [.str z, sh, .int t], .tup [.str (Txt.upper z), sh, .int t], .tup [.str "", sh, .int t], .tup [.int 7, sh, .int t]]) rfl hx fun v hv => .done ⟨rfl, hv⟩
end Wp

/-! K13g: odd states. -/
namespace Wp
open PySem
theorem wordsB_bad {many : Int} {x : D} (hb : isWd many x = false) : ∀ (l : List D) (seen : List Str), x ∈ l → wordsB many seen l = false
  | y :: l, seen, h => by
    rw [wordsB_cons]
    rcases List.mem_cons.mp h with rfl | h
    · rw [hb, Bool.false_and]
    · rw [wordsB_bad hb l _ h, Bool.and_false, Bool.and_false]
theorem wordsB_dup {many : Int} {w : D} : ∀ (xs : List D) (seen : List Str), nmOf w ∈ seen ++ xs.map nmOf → wordsB many seen (xs ++ [w]) = false
  | [], seen, h => by
    rw [List.map_nil, List.append_nil] at h
    rw [List.nil_append, wordsB_cons, decide_eq_false fun z => z h, Bool.false_and, Bool.and_false]
  | x :: xs, seen, h => by
    rw [List.cons_append, wordsB_cons, wordsB_dup xs (seen ++ [nmOf x]) (by rw [List.append_assoc]; exact h), Bool.and_false, Bool.and_false]
theorem bodyB_lst (many : Int) (ws : List D) : bodyB many (.lst ws) = (decide (1 ≤ ws.length) && (decide (ws.length ≤ 9) && wordsB many [] ws)) := rfl
def OddT (many : Int) (v : D) : Prop := StOk v ∧ isSt many v = false
/-- a state's side and words -/
structure SF (many : Int) (sd : Str) (W : List D) : Prop where
  sd : sd = "left" ∨ sd = "right"
  l1 : 1 ≤ W.length
  l9 : W.length ≤ 9
  al : ∀ w ∈ W, smV w = true ∧ dep w ≤ 6
  wf : ∀ w ∈ W, ∃ z sh t, w = .tup [.str z, sh, .int t] ∧ WF many z sh t
theorem SF.ss {many : Int} {sd : Str} {W : List D} (h : SF many sd W) : smV (.str sd) = true := by
  rcases h.sd with rfl | rfl <;> decide +kernel
theorem SF.ws {many : Int} {sd : Str} {W : List D} (h : SF many sd W) : smV (.lst W) = true ∧ dep (.lst W) ≤ 7 := by
  have := h.l9
  exact ⟨smV_ls (by omega) fun w hw => (h.al w hw).1, dep_lst fun w hw => (h.al w hw).2⟩
theorem SGood.sf {many : Int} {sd : Str} {ws : List Wd} (h : SGood many sd ws) (hm : many ≤ 30) : SF many sd (ws.map wD) where
  sd := h.sd
  l1 := by rw [List.length_map]; exact h.l1
  l9 := by rw [List.length_map]; exact h.l9
  al := fun w hw => by
    obtain ⟨v, hv, rfl⟩ := List.mem_map.mp hw
    exact wD_sm (h.al v hv).ok (by omega)
  wf := fun w hw => by
    obtain ⟨⟨z, sh, t⟩, hv, rfl⟩ := List.mem_map.mp hw
    exact ⟨z, sh, t, rfl, (h.al _ hv).wf hm⟩
theorem odt_sm {many : Int} {v : D} (h : smV v = true) (hd : dep v ≤ 60) (hb : isSt many v = false) : OddT many v := ⟨sm_stOk h hd, hb⟩
theorem odt_t {many : Int} (ds : List D) (hl : ds.length ≤ 10) (hs : ∀ d ∈ ds, smV d = true ∧ dep d ≤ 40) (hb : isSt many (.tup ds) = false) : OddT many (.tup ds) :=
  odt_sm (smV_tp (by omega) fun d hd => (hs d hd).1) (Nat.le_trans (dep_tup (n := 40) fun d hd => (hs d hd).2) (by decide)) hb
theorem odt_l {many : Int} (ds : List D) (hl : ds.length ≤ 10) (hs : ∀ d ∈ ds, smV d = true ∧ dep d ≤ 40) (hb : isSt many (.lst ds) = false) : OddT many (.lst ds) :=
  odt_sm (smV_ls (by omega) fun d hd => (hs d hd).1) (Nat.le_trans (dep_lst (n := 40) fun d hd => (hs d hd).2) (by decide)) hb
theorem isSt_2 (many : Int) (a b : D) : isSt many (.tup [a, b]) = (isLR a && bodyB many b) := rfl
section
variable {k : Nat} {M : Mem} {N : Ends} {kind many : Int} {sd : Str} {W L : List D} {e0 e1 e2 e3 e4 e6 e9 : Option D}
theorem ot8 (hw : SF many sd W) (hl : L.length = 20) (hP : ∀ x ∈ L, OddT many x) (hq : ∀ v, OddT many v → N.rt v M) : wpS (run tab k) (restN 8 b_law_odd_state.body) N [e0, some (.int kind), e2, e3, e4, some (.lst L), e6, some (.str sd), some (.lst W), e9] M := by
  conv => whnf
  refine ⟨lok rfl, ?_⟩
  refine ⟨lok rfl, ?_⟩
  conv => whnf
  refine ⟨lok rfl, ?_⟩
  refine ⟨lok rfl, ?_⟩
  refine ⟨lok rfl, ?_⟩
  refine ⟨lok rfl, ?_⟩
  conv => whnf
  have ss := hw.ss
  have ww := hw.ws
  have hx : ∀ x ∈ [D.tup [.lst [.str "left"], .lst W], .tup [.emp, .lst W], .tup [.tup [.str sd], .lst W]], OddT many x :=
    all_cons (odt_t _ (by show 2 ≤ 10; decide) (all_cons ⟨by decide +kernel, by decide⟩ (all_cons ⟨ww.1, by omega⟩ all_nil)) rfl)
      (all_cons ⟨emp1_stOk (smV_ok ww.1), rfl⟩
        (all_cons (odt_t _ (by show 2 ≤ 10; decide) (all_cons ⟨smV_tp (by show 1 ≤ 1000; decide) (all_cons ss all_nil), by show 1 ≤ 40; decide⟩ (all_cons ⟨ww.1, by omega⟩ all_nil)) rfl) all_nil))
  refine ⟨szA hl rfl (by decide : 20 + 3 ≤ 100000), ?_⟩
  have hP2 := all_app hP hx
  have hl2 : (L ++ [D.tup [.lst [.str "left"], .lst W], .tup [.emp, .lst W], .tup [.tup [.str sd], .lst W]]).length = 23 := by rw [List.length_append, hl]; rfl
  revert hP2 hl2
  generalize hL : L ++ [D.tup [.lst [.str "left"], .lst W], .tup [.emp, .lst W], .tup [.tup [.str sd], .lst W]] = L2
  intro hP2 hl2
  change wpE _ _ _ _ _ _
  conv => whnf
  refine ⟨by decide, by decide, ?_⟩
  refine ⟨by decide, ?_⟩
  conv => whnf
  obtain ⟨v, hv, e⟩ := atI_mem (xs := L2) (i := kind / 7 % 23) (by omega) (by omega)
  rw [e]
  exact hq v (hP2 v hv)
theorem ot7 {long : List D} (hw : SF many sd W) (hlg : long.length = 10 ∧ smV (.lst long) = true ∧ dep (.lst long) ≤ 10) (hl : L.length = 15) (hP : ∀ x ∈ L, OddT many x) (hq : ∀ v, OddT many v → N.rt v M) : wpS (run tab k) (restN 7 b_law_odd_state.body) N [e0, some (.int kind), e2, e3, e4, some (.lst L), some (.lst long), some (.str sd), some (.lst W), e9] M := by
  have ss := hw.ss
  have ww := hw.ws
  have l1 := hw.l1
  have l9 := hw.l9
  conv => whnf
  refine ⟨lok rfl, ?_⟩
  conv => whnf
  have hc8 : cut W none (some 8) = W.take 8 := cut_to _ (by decide)
  rw [hc8]
  have hl8 : (W.take 8).length ≤ 8 := by rw [List.length_take]; omega
  refine ⟨szN (by omega), ?_⟩
  conv => whnf
  obtain ⟨w0, r, rfl⟩ : ∃ w0 r, W = w0 :: r := by
    cases W with
    | nil => exact absurd l1 (by decide)
    | cons w0 r => exact ⟨w0, r, rfl⟩
  rw [atI_head]
  conv => whnf
  refine ⟨lok rfl, ?_⟩
  have hW1 : ((w0 :: r).take 8 ++ [w0]).length ≤ 9 := by rw [List.length_append]; show _ + 1 ≤ 9; omega
  have aW1 : ∀ w ∈ (w0 :: r).take 8 ++ [w0], smV w = true ∧ dep w ≤ 6 := all_app (fun w hm => hw.al w (List.mem_of_mem_take hm)) (all_cons (hw.al w0 (by simp)) all_nil)
  have bW1 : bodyB many (.lst ((w0 :: r).take 8 ++ [w0])) = false := by
    have : wordsB many [] ((w0 :: r).take 8 ++ [w0]) = false := wordsB_dup _ _ (by
      rw [List.nil_append]
      show nmOf w0 ∈ (w0 :: r.take 7).map nmOf
      simp)
    rw [bodyB_lst, this, Bool.and_false, Bool.and_false]
  have hbl : ∀ y, isSt many (.tup [.str sd, y]) = (isLR (.str sd) && bodyB many y) := fun y => rfl
  have a1 : OddT many (.tup [.str sd, .lst long]) := odt_t _ (by show 2 ≤ 10; decide) (all_cons ⟨ss, Nat.zero_le _⟩ (all_cons ⟨hlg.2.1, by omega⟩ all_nil)) (by
    rw [hbl, bodyB_lst, decide_eq_false (show ¬ long.length ≤ 9 by omega), Bool.false_and, Bool.and_false, Bool.and_false])
  have a2 : OddT many (.tup [.str sd, .lst ((w0 :: r).take 8 ++ [w0])]) := odt_t _ (by show 2 ≤ 10; decide) (all_cons ⟨ss, Nat.zero_le _⟩ (all_cons ⟨smV_ls (by omega) fun w hm => (aW1 w hm).1, Nat.le_trans (dep_lst fun w hm => (aW1 w hm).2) (by decide)⟩ all_nil)) (by rw [hbl, bW1, Bool.and_false])
  have a3 : OddT many (.tup [.str sd, .emp]) := ⟨emp2_stOk ss, by rw [hbl]; exact Bool.and_false _⟩
  have a4 : OddT many (.tup [.str "Left", .lst (w0 :: r)]) := odt_t _ (by show 2 ≤ 10; decide) (all_cons ⟨by decide +kernel, Nat.zero_le _⟩ (all_cons ⟨ww.1, by omega⟩ all_nil)) (by
    rw [isSt_2, show isLR (.str "Left") = false from by decide +kernel, Bool.false_and])
  have a5 : OddT many (.tup []) := odt_t _ (by decide) all_nil rfl
  have hx := all_cons a1 (all_cons a2 (all_cons a3 (all_cons a4 (all_cons a5 all_nil))))
  have h20 : (L ++ [D.tup [.str sd, .lst long], .tup [.str sd, .lst ((w0 :: r).take 8 ++ [w0])], .tup [.str sd, .emp], .tup [.str "Left", .lst (w0 :: r)], .tup []]).length = 20 := by rw [List.length_append, hl]; rfl
  have nxt := ot8 (k := k) (M := M) (N := N) (kind := kind) (e0 := e0) (e2 := e2) (e3 := e3) (e4 := e4) (e6 := some (.lst long)) (e9 := e9) hw h20 (all_app hP hx) hq
  revert nxt h20
  generalize hV : (w0 :: r).take 8 ++ [w0] = V at hW1
  intro h20 nxt
  refine ⟨szN (show ((w0 :: r).take 8 ++ [w0]).length ≤ 100000 by rw [hV]; omega), ?_⟩
  conv => whnf
  refine ⟨lok rfl, ?_⟩
  conv => whnf
  refine ⟨lok rfl, ?_⟩
  conv => whnf
  refine ⟨lok rfl, ?_⟩
  refine ⟨lok rfl, ?_⟩
  refine ⟨lok rfl, ?_⟩
  conv => whnf
  refine ⟨szN (show (L ++ _).length ≤ 100000 by rw [List.length_append, hl]; show 15 + 5 ≤ 100000; decide), ?_⟩
  rw [← hV] at nxt
  exact nxt
def letD (d : D) : Option D := match d with
  | .str z => some (.tup [.str (Str.ofString "name" ++ z), .tup [.str "nothing"], .int 0])
  | _ => none
def longL : List D := (signs "abcdefghij").filterMap letD
theorem longL_ok : longL.length = 10 ∧ smV (.lst longL) = true ∧ dep (.lst longL) ≤ 10 := by decide +kernel
theorem ot6 (hw : SF many sd W) (hl : L.length = 15) (hP : ∀ x ∈ L, OddT many x) (hq : ∀ v, OddT many v → N.rt v M) : wpS (run tab k) (restN 6 b_law_odd_state.body) N [e0, some (.int kind), e2, e3, e4, some (.lst L), e6, some (.str sd), some (.lst W), e9] M := by
  have hs : (signs "abcdefghij").length = 10 := by decide +kernel
  have nxt := ot7 (k := k) (M := M) (N := N) (kind := kind) (e0 := e0) (e2 := e2) (e3 := e3) (e4 := e4) (e9 := e9) hw longL_ok hl hP hq
  have h10 := longL_ok.1
  refine comp_is letD trivial _ _ (fun d hd P hp => ?_) ?_ ?_
  · obtain ⟨c, hc, rfl⟩ := List.mem_map.mp hd
    have h4 : (Str.ofString "name").length = 4 := by decide +kernel
    conv => whnf
    refine ⟨by rw [h4]; exact szN (by show 4 + 1 ≤ 100000; decide), ?_⟩
    conv => whnf
    refine ⟨lok rfl, ?_⟩
    conv => whnf
    refine ⟨lok rfl, ?_⟩
    exact hp
  · rw [List.length_nil, hs]; decide
  · rw [List.nil_append]
    change newL true longL M _
    refine ⟨szN (by rw [h10]; decide), ?_⟩
    exact nxt
theorem ot5 (hw : SF many sd W) (hl : L.length = 9) (hP : ∀ x ∈ L, OddT many x) (hq : ∀ v, OddT many v → N.rt v M) : wpS (run tab k) (restN 5 b_law_odd_state.body) N [e0, some (.int kind), e2, e3, e4, some (.lst L), e6, some (.str sd), some (.lst W), e9] M := by
  have ss := hw.ss
  have ww := hw.ws
  have hx : ∀ x ∈ [D.lst [.str sd, .lst W], .tup [.str sd, .lst W, .lst W], .tup [.str "end", .lst W], .tup [.str "end", .str "end"], .lst [.str "end"], .str "end"], OddT many x :=
    all_cons (odt_l _ (by show 2 ≤ 10; decide) (all_cons ⟨ss, Nat.zero_le _⟩ (all_cons ⟨ww.1, by omega⟩ all_nil)) rfl)
      (all_cons (odt_t _ (by show 3 ≤ 10; decide) (all_cons ⟨ss, Nat.zero_le _⟩ (all_cons ⟨ww.1, by omega⟩ (all_cons ⟨ww.1, by omega⟩ all_nil))) rfl)
        (all_cons (odt_t _ (by show 2 ≤ 10; decide) (all_cons ⟨by decide +kernel, Nat.zero_le _⟩ (all_cons ⟨ww.1, by omega⟩ all_nil)) (by rw [isSt_2, show isLR (.str "end") = false from by decide +kernel, Bool.false_and]))
          (all_cons (odt_t _ (by show 2 ≤ 10; decide) (all_cons ⟨by decide +kernel, Nat.zero_le _⟩ (all_cons ⟨by decide +kernel, Nat.zero_le _⟩ all_nil)) (by rw [isSt_2, show isLR (.str "end") = false from by decide +kernel, Bool.false_and]))
            (all_cons (odt_l _ (by show 1 ≤ 10; decide) (all_cons ⟨by decide +kernel, Nat.zero_le _⟩ all_nil) rfl)
              (all_cons (odt_sm (by decide +kernel) (by decide) rfl) all_nil)))))
  conv => whnf
  refine ⟨lok rfl, ?_⟩
  refine ⟨lok rfl, ?_⟩
  refine ⟨lok rfl, ?_⟩
  refine ⟨lok rfl, ?_⟩
  refine ⟨lok rfl, ?_⟩
  conv => whnf
  refine ⟨lok rfl, ?_⟩
  conv => whnf
  refine ⟨szA (m := 6) hl rfl (by decide : 9 + 6 ≤ 100000), ?_⟩
  exact ot6 hw (L := L ++ [D.lst [.str sd, .lst W], .tup [.str sd, .lst W, .lst W], .tup [.str "end", .lst W], .tup [.str "end", .str "end"], .lst [.str "end"], .str "end"]) (by rw [List.length_append, hl]; rfl) (all_app hP hx) hq
theorem ot4 (hw : SF many sd W) (hl : L.length = 2) (hP : ∀ x ∈ L, OddT many x) (hq : ∀ v, OddT many v → N.rt v M) : wpS (run tab k) (restN 4 b_law_odd_state.body) N [e0, some (.int kind), e2, e3, e4, some (.lst L), e6, some (.str sd), some (.lst W), e9] M := by
  have ss := hw.ss
  have ww := hw.ws
  have l9 := hw.l9
  have wt : smV (.tup W) = true := smV_tp (by omega) fun w hm => (hw.al w hm).1
  have dt : dep (.tup W) ≤ 7 := dep_tup fun w hm => (hw.al w hm).2
  have h1 : isSt many (.tup [.str sd]) = false := by
    have e : isSt many (.tup [.str sd]) = isEnd (.tup [.str sd]) := rfl
    rw [e]
    rcases hw.sd with rfl | rfl <;> decide +kernel
  have hx : ∀ x ∈ [D.tup [.str "middle", .lst W], .tup [.str sd], .tup [.str sd, .tup W], .tup [.str sd, .lst []], .tup [.bl true, .lst W], .tup [.str sd, .non], .non], OddT many x :=
    all_cons (odt_t _ (by show 2 ≤ 10; decide) (all_cons ⟨by decide +kernel, Nat.zero_le _⟩ (all_cons ⟨ww.1, by omega⟩ all_nil)) (by rw [isSt_2, show isLR (.str "middle") = false from by decide +kernel, Bool.false_and]))
      (all_cons (odt_t _ (by show 1 ≤ 10; decide) (all_cons ⟨ss, Nat.zero_le _⟩ all_nil) h1)
        (all_cons (odt_t _ (by show 2 ≤ 10; decide) (all_cons ⟨ss, Nat.zero_le _⟩ (all_cons ⟨wt, by omega⟩ all_nil)) (by rw [isSt_2]; exact Bool.and_false _))
          (all_cons (odt_t _ (by show 2 ≤ 10; decide) (all_cons ⟨ss, Nat.zero_le _⟩ (all_cons ⟨by decide, by decide⟩ all_nil)) (by rw [isSt_2]; exact Bool.and_false _))
            (all_cons (odt_t _ (by show 2 ≤ 10; decide) (all_cons ⟨rfl, Nat.zero_le _⟩ (all_cons ⟨ww.1, by omega⟩ all_nil)) rfl)
              (all_cons (odt_t _ (by show 2 ≤ 10; decide) (all_cons ⟨ss, Nat.zero_le _⟩ (all_cons ⟨rfl, Nat.zero_le _⟩ all_nil)) (by rw [isSt_2]; exact Bool.and_false _))
                (all_cons (odt_sm rfl (by decide) rfl) all_nil))))))
  conv => whnf
  repeat' (first | refine ⟨lok rfl, ?_⟩ | ((conv => whnf) <;> refine ⟨lok rfl, ?_⟩))
  conv => whnf
  refine ⟨szA (m := 7) hl rfl (by decide : 2 + 7 ≤ 100000), ?_⟩
  exact ot5 hw (L := L ++ [D.tup [.str "middle", .lst W], .tup [.str sd], .tup [.str sd, .tup W], .tup [.str sd, .lst []], .tup [.bl true, .lst W], .tup [.str sd, .non], .non]) (by rw [List.length_append, hl]; rfl) (all_app hP hx) hq
theorem cut_from13 {α : Type} (xs : List α) {i : Int} (h : 0 ≤ i) : cut xs (some i) none = xs.drop i.toNat := by
  unfold cut slN
  dsimp only
  rw [if_neg (by omega)]
  by_cases e : i.toNat ≤ xs.length
  · rw [Nat.min_eq_left e]
    exact List.take_of_length_le (by rw [List.length_drop]; omega)
  · rw [Nat.min_eq_right (by omega), List.drop_length, List.drop_of_length_le (by omega), List.take_nil]
theorem cut_fromX {α : Type} (xs : List α) (i : Nat) : cut xs (some ((i : Int) + 1)) none = xs.drop (i + 1) := by
  rw [cut_from13 _ (by omega)]; congr 1
theorem ot3 {odd : D} {i : Nat} (hw : SF many sd W) (hi : i < W.length) (ho : OddW many odd) (hq : ∀ v, OddT many v → N.rt v M) : wpS (run tab k) (restN 3 b_law_odd_state.body) N [e0, some (.int kind), e2, some (.int (i : Int)), some odd, e3, e6, some (.str sd), some (.lst W), e9] M := by
  have ss := hw.ss
  have ww := hw.ws
  have l9 := hw.l9
  have c1 : cut W none (some (i : Int)) = W.take i := by rw [cut_to _ (by omega), Int.toNat_natCast]
  have c2 : cut W (some ((i : Int) + 1)) none = W.drop (i + 1) := by rw [cut_fromX]
  have lt : (W.take i).length ≤ 9 := by rw [List.length_take]; omega
  have ld : (W.drop (i + 1)).length ≤ 9 := by rw [List.length_drop]; omega
  have lV : (W.take i ++ [odd] ++ W.drop (i + 1)).length ≤ 19 := by rw [List.length_append, List.length_append]; show _ + 1 + _ ≤ 19; omega
  have mem : odd ∈ W.take i ++ [odd] ++ W.drop (i + 1) := by simp
  have oks : ∀ v ∈ W.take i ++ [odd] ++ W.drop (i + 1), okD v = true := all_app (all_app (fun w hm => smV_ok (hw.al w (List.mem_of_mem_take hm)).1) (all_cons ho.ok all_nil)) (fun w hm => smV_ok (hw.al w (List.mem_of_mem_drop hm)).1)
  have okl : okD (.lst (W.take i ++ [odd] ++ W.drop (i + 1))) = true := by
    show (decide ((W.take i ++ [odd] ++ W.drop (i + 1)).length ≤ sizeLine) && okDs (W.take i ++ [odd] ++ W.drop (i + 1))) = true
    rw [decide_eq_true (szN (by omega)), okDs_iff oks]; rfl
  have hO : OddT many (.tup [.str sd, .lst (W.take i ++ [odd] ++ W.drop (i + 1))]) := by
    refine ⟨?_, ?_⟩
    · rcases ho.pl with ⟨h1, h2⟩ | h
      · have al : ∀ v ∈ W.take i ++ [odd] ++ W.drop (i + 1), smV v = true ∧ dep v ≤ 30 := all_app (all_app (fun w hm => by have := hw.al w (List.mem_of_mem_take hm); exact ⟨this.1, by omega⟩) (all_cons ⟨h1, h2⟩ all_nil)) (fun w hm => by have := hw.al w (List.mem_of_mem_drop hm); exact ⟨this.1, by omega⟩)
        refine sm_stOk (smV_tp (by show 2 ≤ 1000; decide) (all_cons ss (all_cons (smV_ls (by omega) fun v hv => (al v hv).1) all_nil))) ?_
        exact Nat.le_trans (dep_tup (n := 31) (all_cons (Nat.zero_le _) (all_cons (dep_lst fun v hv => (al v hv).2) all_nil))) (by decide)
      · exact has_stOk ss okl mem h
    · rw [isSt_2, bodyB_lst, wordsB_bad ho.bad _ _ mem, Bool.and_false, Bool.and_false, Bool.and_false]
  have nxt := ot4 (k := k) (M := M) (N := N) (kind := kind) (e0 := e0) (e2 := e2) (e3 := some (.int (i : Int))) (e4 := some odd) (e6 := e6) (e9 := e9) hw (L := [.tup [.str sd, .lst (W.take i ++ [odd] ++ W.drop (i + 1))], .tup [.str sd, .lst (W.take i ++ [odd] ++ W.drop (i + 1))]]) rfl (all_cons hO (all_cons hO all_nil)) hq
  have l1 : (W.take i ++ [odd]).length ≤ 10 := by rw [List.length_append]; show _ + 1 ≤ 10; omega
  conv => whnf
  rw [c1]
  refine ⟨szN (by omega), ?_⟩
  conv => whnf
  refine ⟨lok rfl, ?_⟩
  refine ⟨szN (show (W.take i ++ [odd]).length ≤ 100000 by omega), ?_⟩
  conv => whnf
  rw [c2]
  refine ⟨szN (by omega), ?_⟩
  conv => whnf
  refine ⟨szN (show (W.take i ++ [odd] ++ W.drop (i + 1)).length ≤ 100000 by omega), ?_⟩
  conv => whnf
  refine ⟨lok rfl, ?_⟩
  conv => whnf
  rw [c1]
  refine ⟨szN (by omega), ?_⟩
  conv => whnf
  refine ⟨lok rfl, ?_⟩
  refine ⟨szN (show (W.take i ++ [odd]).length ≤ 100000 by omega), ?_⟩
  conv => whnf
  rw [c2]
  refine ⟨szN (by omega), ?_⟩
  conv => whnf
  refine ⟨szN (show (W.take i ++ [odd] ++ W.drop (i + 1)).length ≤ 100000 by omega), ?_⟩
  conv => whnf
  refine ⟨lok rfl, ?_⟩
  refine ⟨lok rfl, ?_⟩
  exact nxt
end
theorem r_odd_state {kind many : Int} {sd : Str} {W : List D} {k : Nat} {M : Mem} (hk : 3 ≤ k) (hw : SF many sd W) : run tab k f_law_odd_state [.tup [.str sd, .lst W], .int kind, .int many] M (fun v M' => M' = M ∧ OddT many v) fun _ _ => False := by
  obtain ⟨k, rfl⟩ : ∃ j, k = j + 1 := ⟨k - 1, by omega⟩
  have l1 := hw.l1
  refine run_in rfl rfl ?_
  conv => whnf
  refine ⟨by omega, ?_⟩
  conv => whnf
  have h0 := Int.emod_nonneg kind (show (W.length : Int) ≠ 0 by omega)
  have h1 := Int.emod_lt_of_pos kind (show (0 : Int) < (W.length : Int) by omega)
  obtain ⟨i, hi⟩ : ∃ i : Nat, kind % (W.length : Int) = (i : Int) := ⟨(kind % (W.length : Int)).toNat, by omega⟩
  rw [hi] at h0 h1 ⊢
  obtain ⟨w, hm, e⟩ := atI_mem (xs := W) (i := (i : Int)) h0 h1
  rw [e]
  obtain ⟨z, sh, t, rfl, wf⟩ := hw.wf w hm
  conv => whnf
  refine ⟨by decide, by decide, ?_⟩
  conv => whnf
  refine run_use (r_odd_word (k := k) (by omega) wf) (Nat.le_refl _) fun odd M1 ⟨e, ho⟩ => ?_
  subst e
  exact ot3 hw (by omega) ho fun v hv => .done ⟨rfl, hv⟩
end Wp

/-! K13h: the law. -/
namespace Wp
open PySem
theorem cmp_selfN13 {v : D} (h : smV v = true) (hd : dep v ≤ 60) {M : Mem} {Q : QK} (q : Q (.bl false) M) : cmpW .NotEq v v M Q := eq_self (neg := true) h hd q
theorem isGr_bad {ds : List D} {v : D} (hm : v ∈ ds) (h : isSt (ds.length : Int) v = false) : isGr ds = false := by
  have : ds.all (isSt (ds.length : Int)) = false := Bool.eq_false_iff.mpr fun z => by
    have := List.all_eq_true.mp z v hm
    rw [h] at this; cases this
  unfold isGr
  rw [this, Bool.and_false, Bool.and_false]
theorem isGr_good {ds : List D} (h1 : 1 ≤ ds.length) (h2 : ds.length ≤ 30) (h : ∀ v ∈ ds, isSt (ds.length : Int) v = true) : isGr ds = true := by
  unfold isGr
  rw [decide_eq_true h1, decide_eq_true h2, List.all_eq_true.mpr h]; rfl
theorem gsm {many : Int} {gs : List GS} (hm : many ≤ 12) (hl : gs.length ≤ 12) (ho : ∀ g ∈ gs, GOk many g) : smV (.lst (gs.map gD)) = true ∧ dep (.lst (gs.map gD)) ≤ 9 ∧ ∀ d ∈ gs.map gD, StOk d := by
  have al : ∀ d ∈ gs.map gD, smV d = true ∧ dep d ≤ 8 := fun d hd => by
    obtain ⟨g, hg, rfl⟩ := List.mem_map.mp hd
    exact gD_sm (ho g hg) (by omega)
  exact ⟨smV_ls (by rw [List.length_map]; omega) fun d hd => (al d hd).1, dep_lst fun d hd => (al d hd).2, fun d hd => sm_stOk (al d hd).1 (by have := (al d hd).2; omega)⟩
def endT : D := .tup [.str "end"]
theorem endT_ok : StOk endT := sm_stOk (by decide +kernel) (by decide)
theorem reps_end (n : Nat) : (List.replicate n [endT]).flatten = List.replicate n endT := by
  induction n with
  | zero => rfl
  | succ n ih => rw [List.replicate_succ, List.flatten_cons, ih, List.replicate_succ]; rfl
/-- what is_grammar says of so many ends -/
theorem isGr_ends (n : Nat) : isGr (List.replicate n endT) = (decide (1 ≤ n) && decide (n ≤ 30)) := by
  unfold isGr
  rw [List.length_replicate]
  have : (List.replicate n endT).all (isSt (n : Int)) = true := List.all_eq_true.mpr fun v hv => by
    rw [(List.mem_replicate.mp hv).2]; rfl
  rw [this, Bool.and_true]
/-- things that are no grammars -/
def NoG (d : D) : Prop := ∀ (k : Nat) (M : Mem), 9 ≤ k → run tab k f_is_grammar [d] M (fun v M' => v = .bl false ∧ M' = M) fun _ _ => False
theorem noG_lst {ds : List D} (h : ∀ d ∈ ds, StOk d) (hb : isGr ds = false) : NoG (.lst ds) := fun k M hk => by
  have := r_is_grammar (M := M) (.inl (rfl : D.lst ds = .lst ds)) h hk
  rw [hb] at this
  exact this
theorem noG_else {d : D} (h : ∀ M, isiB .list_ d M = some false) : NoG d := fun k M hk => by
  obtain ⟨k, rfl⟩ : ∃ j, k = j + 1 := ⟨k - 1, by omega⟩
  refine run_in rfl rfl ?_
  conv => whnf
  rw [h M]
  conv => whnf
  exact .done ⟨rfl, rfl⟩
def deepP : Nat → D
  | 0 => .tup [.str "nothing"]
  | n + 1 => .tup [.str "pair", .tup [.str "number", .int (1 - 10 ^ 18), .int (10 ^ 18 - 1)], deepP n]
/-- a state of the thirty -/
def longS (k : Int) : D := .tup [.str (if k % 2 = 0 then "left" else "right"), .lst [.tup [.str "abcdefgh", deepP 5, .int ((k + 1) % 30)]]]
theorem deepP_ok : smV (deepP 5) = true ∧ dep (deepP 5) ≤ 12 ∧ isSh (deepP 5) = true := by decide +kernel
theorem abc_ok : isNm (.str "abcdefgh") = true ∧ smV (.str "abcdefgh") = true := by decide +kernel
theorem longS_ok (k : Int) : StOk (longS k) ∧ isSt 30 (longS k) = true := by
  have h0 := Int.emod_nonneg (k + 1) (by decide : (30 : Int) ≠ 0)
  have h1 := Int.emod_lt_of_pos (k + 1) (by decide : (0 : Int) < 30)
  have hp := deepP_ok
  have hs : smV (.str (if k % 2 = 0 then "left" else "right")) = true ∧ isLR (.str (if k % 2 = 0 then "left" else "right")) = true := by
    split <;> decide +kernel
  have hw : smV (.tup [.str "abcdefgh", deepP 5, .int ((k + 1) % 30)]) = true ∧ dep (.tup [.str "abcdefgh", deepP 5, .int ((k + 1) % 30)]) ≤ 13 :=
    ⟨smV_tp (by show 3 ≤ 1000; decide) (all_cons abc_ok.2 (all_cons hp.1 (all_cons (smI (by omega) (by omega)) all_nil))), dep_tup (n := 12) (all_cons (Nat.zero_le _) (all_cons hp.2.1 (all_cons (Nat.zero_le _) all_nil)))⟩
  have hl : smV (.lst [.tup [.str "abcdefgh", deepP 5, .int ((k + 1) % 30)]]) = true ∧ dep (.lst [.tup [.str "abcdefgh", deepP 5, .int ((k + 1) % 30)]]) ≤ 14 :=
    ⟨smV_ls (by show 1 ≤ 1000; decide) (all_cons hw.1 all_nil), dep_lst (n := 13) (all_cons hw.2 all_nil)⟩
  refine ⟨sm_stOk (smV_tp (by show 2 ≤ 1000; decide) (all_cons hs.1 (all_cons hl.1 all_nil))) (Nat.le_trans (dep_tup (n := 14) (all_cons (Nat.zero_le _) (all_cons hl.2 all_nil))) (by decide)), ?_⟩
  unfold longS
  rw [isSt_2, hs.2, bodyB_lst, wordsB_cons]
  have e : isWd 30 (.tup [.str "abcdefgh", deepP 5, .int ((k + 1) % 30)]) = (isNm (.str "abcdefgh") && (isSh (deepP 5) && isNo 30 (.int ((k + 1) % 30)))) := rfl
  rw [e, abc_ok.1, hp.2.2, isNo_int, decide_eq_true h0, decide_eq_true h1]
  rfl
def longF (d : D) : Option D := match d with
  | .int k => some (longS k)
  | _ => none
theorem longF_rng : ∃ l, l = (rng 0 30).filterMap longF ∧ l.length = 30 ∧ ∀ d ∈ l, ∃ k, d = longS k := by
  refine ⟨_, rfl, ?_, fun d hd => ?_⟩
  · have : ∀ xs : List D, (∀ x ∈ xs, ∃ k, x = D.int k) → (xs.filterMap longF).length = xs.length := by
      intro xs
      induction xs with
      | nil => intro _; rfl
      | cons x xs ih =>
        intro h
        obtain ⟨k, rfl⟩ := h x (by simp)
        show (longS k :: xs.filterMap longF).length = _
        rw [List.length_cons, List.length_cons, ih fun y hy => h y (List.mem_cons_of_mem _ hy)]
    rw [this _ fun x hx => by
      obtain ⟨i, e, _⟩ := rng_int x hx
      exact ⟨_, e⟩, rng_len]
  · obtain ⟨x, hx, e⟩ := List.mem_filterMap.mp hd
    obtain ⟨i, rfl, _⟩ := rng_int x hx
    injection e with e
    exact ⟨_, e.symm⟩
theorem rng_step {x : D} {rem : List D} {j n : Nat} (h : x :: rem = rng (j : Int) n) : x = .int (j : Int) ∧ 0 < n ∧ rem = rng ((j + 1 : Nat) : Int) (n - 1) := by
  cases n with
  | zero => cases h
  | succ n =>
    unfold rng at h ⊢
    rw [List.range_succ_eq_map, List.map_cons, List.map_map] at h
    injection h with h1 h2
    refine ⟨by rw [h1]; show D.int _ = D.int _; congr 1, Nat.succ_pos _, ?_⟩
    rw [h2]
    refine List.map_congr_left fun i _ => ?_
    show D.int _ = D.int _
    congr 1
    show (j : Int) + ((i + 1 : Nat) : Int) = ((j + 1 : Nat) : Int) + (i : Int)
    omega
theorem rng_end {j n : Nat} (h : [] = rng (j : Int) n) : n = 0 := by
  cases n with
  | zero => rfl
  | succ n =>
    unfold rng at h
    rw [List.range_succ_eq_map] at h
    cases h
/-- the rest of a turn, behind the state -/
theorem turn13 {gs : List GS} {i : Nat} {sd : Str} {W : List D} {ns : List Int} {cell : Int} {k : Nat} {M : Mem} {N : Ends} {e2 e3 e4 e5 e9 e10 : Option D} (hk : 12 ≤ k) (hsm : ∀ d ∈ gs.map gD, StOk d) (hi : i < gs.length) (hl : gs.length ≤ 12) (hw : SF ((gs.length : Nat) : Int) sd W)
    (hq : ∀ M' e9 e10, N.nx [some (.scr ns), some (.lst (gs.map gD)), e2, e3, e4, e5, some (.int cell), some (.int (i : Int)), some (.tup [.str sd, .lst W]), e9, e10] M') :
    wpS (run tab k) (match b_law.body with | .seq _ (.seq _ (.seq (.each _ _ t) _)) => restN 4 t | s => s) N [some (.scr ns), some (.lst (gs.map gD)), e2, e3, e4, e5, some (.int cell), some (.int (i : Int)), some (.tup [.str sd, .lst W]), e9, e10] M := by
  have hlm : (gs.map gD).length = gs.length := List.length_map ..
  conv => whnf
  refine ⟨szN (by omega), fun p hp => ?_⟩
  conv => whnf
  refine ⟨by decide, by decide, ?_⟩
  conv => whnf
  refine ⟨⟨by decide, by decide, by decide⟩, ?_⟩
  refine ⟨by decide, ?_⟩
  conv => whnf
  rw [hlm]
  refine run_use (r_odd_state (k := k) (by omega) hw) (Nat.le_refl _) fun v M1 ⟨e, ho⟩ => ?_
  subst e
  conv => whnf
  rw [Mem.upd_same]
  conv => whnf
  rw [ixN_in (by omega) (by rw [hlm]; omega), Int.toNat_natCast]
  conv => whnf
  have hset : ∀ d ∈ (gs.map gD).set i v, StOk d := fun d hd => by
    rcases List.mem_or_eq_of_mem_set hd with h | rfl
    · exact hsm d h
    · exact ho.1
  have hG : isGr ((gs.map gD).set i v) = false := isGr_bad (v := v) (List.mem_of_getElem? (i := i) (by rw [List.getElem?_set_self (by rw [hlm]; exact hi)])) (by rw [List.length_set, hlm]; exact ho.2)
  have hr := fun (M' : Mem) (hM : M' p = some (.lst ((gs.map gD).set i v))) => r_is_grammar (M := M') (.inr ⟨p, rfl, hM⟩) hset (k := k) (by omega)
  rw [hG] at hr
  refine run_is (hr _ Mem.upd_same) (Nat.le_refl _) ?_
  conv => whnf
  exact hq _ _ _
set_option maxHeartbeats 0 in
theorem r_law13 (ns : List Int) (hn : ns.length ≤ 63) (k : Nat) (hk : 12 ≤ k) : run tab (k + 1) f_law [.scr ns] (fun _ => none) (fun d _ => d = .bl true) fun _ _ => False := by
  refine run_in rfl rfl ?_
  conv => whnf
  have p0 := Int.emod_nonneg (cellF ns 0 / 2) (by decide : (12 : Int) ≠ 0)
  have p1 := Int.emod_lt_of_pos (cellF ns 0 / 2) (by decide : (0 : Int) < 12)
  have hgr := fun (M : Mem) => r_grammar (ns := ns) (first := 2) (most := 12) (fi := 2) (mi := 12) rfl rfl (by decide) (by decide) (by decide) (M := M) k (by omega)
  refine run_use (hgr _) (Nat.le_refl _) fun v M1 ⟨e, hlen, hok⟩ => ?_
  subst e
  have hgood := gramF_good (by decide : 1 ≤ 12) hok
  have hok2 : ∀ (v : D) (M M' : Mem), (v = .lst ((gramF ns 2 12).map gD) ∧ (1 + cellF ns 0 / 2 % ((12 : Nat) : Int)).toNat = (gramF ns 2 12).length ∧ ∀ g ∈ gramF ns 2 12, GOk (1 + cellF ns 0 / 2 % ((12 : Nat) : Int)) g) → v = .lst ((gramF ns 2 12).map gD) := fun v M M' h => h.1
  have hmany : (1 + cellF ns 0 / 2 % ((12 : Nat) : Int)) = ((gramF ns 2 12).length : Int) := by
    show (1 + cellF ns 0 / 2 % 12) = _
    have : (1 + cellF ns 0 / 2 % ((12 : Nat) : Int)).toNat = (1 + cellF ns 0 / 2 % 12).toNat := rfl
    omega
  have hl12 : (gramF ns 2 12).length ≤ 12 := by
    have : (1 + cellF ns 0 / 2 % ((12 : Nat) : Int)).toNat = (1 + cellF ns 0 / 2 % 12).toNat := rfl
    omega
  have hl1 : 1 ≤ (gramF ns 2 12).length := by
    have : (1 + cellF ns 0 / 2 % ((12 : Nat) : Int)).toNat = (1 + cellF ns 0 / 2 % 12).toNat := rfl
    omega
  rw [hmany] at hok hgood
  generalize gramF ns 2 12 = gs at *
  have hsm := gsm (by omega) hl12 hok
  have hG : isGr (gs.map gD) = true := isGr_good (by rw [List.length_map]; exact hl1) (by rw [List.length_map]; omega) fun v hv => by
    obtain ⟨g, hg, rfl⟩ := List.mem_map.mp hv
    rw [List.length_map]
    exact (hgood g hg).isSt
  have hisg := fun (M : Mem) => r_is_grammar (M := M) (.inl (rfl : D.lst (gs.map gD) = .lst (gs.map gD))) hsm.2.2 (k := k) (by omega)
  rw [hG] at hisg
  conv => whnf
  refine run_is (hisg _) (Nat.le_refl _) ?_
  conv => whnf
  refine run_is (hisg _) (Nat.le_refl _) ?_
  conv => whnf
  refine run_use (hgr _) (Nat.le_refl _) fun v M2 ⟨e, _⟩ => ?_
  subst e
  refine cmp_selfN13 hsm.1 (by have := hsm.2.1; omega) ?_
  conv => whnf
  have h63 : ((ns.map D.int).length : Int) ≤ 63 := by rw [List.length_map]; omega
  generalize hmx : (if (if ((ns.map D.int).length : Int) < 63 then ((ns.map D.int).length : Int) else 63) > 18 then (if ((ns.map D.int).length : Int) < 63 then ((ns.map D.int).length : Int) else 63) else 18) = mx
  have hmx1 : 18 ≤ mx ∧ mx ≤ 63 := by
    rw [← hmx]
    split
    · split <;> omega
    · omega
  have hlm : (gs.map gD).length = gs.length := List.length_map ..
  refine ⟨⟨by unfold inB; decide, by unfold inB; omega⟩, ?_⟩
  refine each_inv (fun rem env M' => ∃ (j n : Nat) (e2 e6 e7 e8 e9 e10 : Option D), j + n ≤ 63 ∧ rem = rng (j : Int) n ∧ env = [some (.scr ns), some (.lst (gs.map gD)), e2, none, none, none, e6, e7, e8, e9, e10]) ?_ ?_ _ _ _ ⟨14, (mx - 14).toNat, none, none, none, none, none, none, by omega, rfl, rfl⟩
  · rintro x rem env M3 ⟨j, n, e2, e6, e7, e8, e9, e10, hjn, hr, rfl⟩
    obtain ⟨rfl, hn0, hr⟩ := rng_step hr
    refine ⟨trivial, ?_⟩
    conv => whnf
    refine run_is (r_cell (k := j) rfl (by omega) k (by omega)) (Nat.le_refl _) ?_
    conv => whnf
    rw [hlm]
    refine ⟨by omega, ?_⟩
    conv => whnf
    have h0 := Int.emod_nonneg (cellF ns j) (show (gs.length : Int) ≠ 0 by omega)
    have h1 := Int.emod_lt_of_pos (cellF ns j) (show (0 : Int) < (gs.length : Int) by omega)
    obtain ⟨i, hi⟩ : ∃ i : Nat, cellF ns j % (gs.length : Int) = (i : Int) := ⟨(cellF ns j % (gs.length : Int)).toNat, by omega⟩
    rw [hi] at h0 h1 ⊢
    have hg : ∃ g, atI (gs.map gD) (i : Int) = some (gD g) ∧ g ∈ gs := by
      obtain ⟨w, hm, e⟩ := atI_mem (xs := gs.map gD) (i := (i : Int)) h0 (by rw [hlm]; exact h1)
      obtain ⟨g, hg, rfl⟩ := List.mem_map.mp hm
      exact ⟨g, e, hg⟩
    obtain ⟨g, hge, hgm⟩ := hg
    rw [hge]
    cases g with
    | none =>
      conv => whnf
      refine ⟨lok rfl, ?_⟩
      conv => whnf
      refine ⟨by decide +kernel, by decide +kernel, ?_⟩
      conv => whnf
      refine ⟨lok rfl, ?_⟩
      refine ⟨lok rfl, ?_⟩
      conv => whnf
      refine ⟨lok rfl, ?_⟩
      refine ⟨lok rfl, ?_⟩
      refine ⟨lok rfl, ?_⟩
      refine ⟨lok rfl, ?_⟩
      have hs : SGood ((gs.length : Nat) : Int) "left" [(Str.ofString "ab", .tup [.str "nothing"], 0), (Str.ofString "b", .tup [.str "text", .int 3], (i : Int))] := by
        have m1 : Str.ofString "ab" ∈ nmAll := by decide +kernel
        have m2 : Str.ofString "b" ∈ nmAll := by decide +kernel
        have m3 : [Str.ofString "ab", Str.ofString "b"].Nodup := by decide +kernel
        have s1 : isSh (.tup [.str "nothing"]) = true := by decide +kernel
        have s2 : isSh (.tup [.str "text", .int 3]) = true := by decide +kernel
        exact ⟨.inl rfl, by show 1 ≤ 2; decide, by show 2 ≤ 9; decide, all_cons ⟨m1, s1, by decide +kernel, by decide +kernel, by decide +kernel, by show (0 : Int) ≤ 0; decide, by show (0 : Int) < _; omega⟩ (all_cons ⟨m2, s2, (by decide +kernel : smV (.str "b") = true), (by decide +kernel : smV (.tup [.str "text", .int 3]) = true), (by decide +kernel : dep (.tup [.str "text", .int 3]) ≤ 5), h0, h1⟩ all_nil), m3⟩
      show wpS (run tab k) (match b_law.body with | .seq _ (.seq _ (.seq (.each _ _ t) _)) => restN 4 t | s => s) _ [some (.scr ns), some (.lst (gs.map gD)), some (.int (j : Int)), none, none, none, some (.int (cellF ns j)), some (.int (i : Int)), some (.tup [.str "left", .lst [.tup [.str "ab", .tup [.str "nothing"], .int 0], .tup [.str "b", .tup [.str "text", .int 3], .int (i : Int)]]]), e9, e10] M3
      exact turn13 (by omega) hsm.2.2 (by omega) hl12 (SGood.sf hs (by omega)) fun M' e9 e10 => ⟨j + 1, n - 1, _, _, _, _, _, _, by omega, hr, rfl⟩
    | some g =>
      obtain ⟨sd, ws⟩ := g
      have hs := hgood _ hgm
      have sm := gD_sm (hok _ hgm) (by omega)
      conv => whnf
      refine ⟨lok rfl, ?_⟩
      refine sm_end sm.1 (by omega) _ _ ?_
      rw [show isEnd (gD (some (sd, ws))) = false from rfl]
      show wpS (run tab k) (match b_law.body with | .seq _ (.seq _ (.seq (.each _ _ t) _)) => restN 4 t | s => s) _ [some (.scr ns), some (.lst (gs.map gD)), some (.int (j : Int)), none, none, none, some (.int (cellF ns j)), some (.int (i : Int)), some (gD (some (sd, ws))), e9, e10] M3
      exact turn13 (by omega) hsm.2.2 (by omega) hl12 (SGood.sf hs (by omega)) fun M' e9 e10 => ⟨j + 1, n - 1, _, _, _, _, _, _, by omega, hr, rfl⟩
  · rintro env M3 ⟨j, n, e2, e6, e7, e8, e9, e10, hjn, hr, rfl⟩
    refine ⟨trivial, ?_⟩
    conv => whnf
    refine ⟨lok rfl, ?_⟩
    conv => whnf
    refine ⟨⟨by decide, by decide⟩, ?_⟩
    refine each_inv (fun rem env M' => ∃ (j n : Nat) (e2 : Option D), j + n = 5 ∧ rem = rng (j : Int) n ∧ env = [some (.scr ns), some (.lst (gs.map gD)), e2, some (deepP j), none, none, e6, e7, e8, e9, e10]) ?_ ?_ _ _ _ ⟨0, 5, _, rfl, rfl, rfl⟩
    · rintro x rem env M4 ⟨j, n, e2, hjn, hr, rfl⟩
      obtain ⟨rfl, hn0, hr⟩ := rng_step hr
      refine ⟨trivial, ?_⟩
      conv => whnf
      refine ⟨⟨by decide, by decide, by decide⟩, ?_⟩
      conv => whnf
      refine ⟨⟨by decide, by decide, by decide⟩, ?_⟩
      conv => whnf
      refine ⟨lok rfl, ?_⟩
      refine ⟨lok rfl, ?_⟩
      exact ⟨j + 1, n - 1, _, by omega, hr, rfl⟩
    · rintro env M4 ⟨j, n, e2, hjn, hr, rfl⟩
      have := rng_end hr
      obtain rfl : j = 5 := by omega
      refine ⟨trivial, ?_⟩
      conv => whnf
      refine ⟨⟨by decide, by decide⟩, ?_⟩
      obtain ⟨l30, e30, n30, a30⟩ := longF_rng
      refine comp_is longF trivial _ _ (fun d hd P hp => ?_) ?_ ?_
      · obtain ⟨i, rfl, hi⟩ := rng_int d hd
        generalize hz : (0 + (i : Int)) = z at hp ⊢
        conv => whnf
        refine ⟨lok rfl, ?_⟩
        refine ⟨by decide, ?_⟩
        conv => whnf
        have z0 := Int.emod_nonneg z (by decide : (2 : Int) ≠ 0)
        have z1 := Int.emod_lt_of_pos z (by decide : (0 : Int) < 2)
        have e : atI [D.str "left", D.str "right"] (z % 2) = some (.str (if z % 2 = 0 then "left" else "right")) := by
          rcases (show z % 2 = 0 ∨ z % 2 = 1 by omega) with h | h <;> rw [h] <;> rfl
        rw [e]
        conv => whnf
        refine ⟨by decide, ?_⟩
        refine ⟨lok rfl, ?_⟩
        refine ⟨lok rfl, ?_⟩
        refine ⟨lok rfl, ?_⟩
        exact hp
      · rw [List.length_nil, rng_len]; decide
      · rw [List.nil_append]
        change newL true ((rng 0 30).filterMap longF) M4 _
        rw [← e30]
        refine ⟨szN (by omega), ?_⟩
        have h30 : isGr l30 = true := isGr_good (by omega) (by omega) fun v hv => by
          obtain ⟨z, rfl⟩ := a30 v hv
          rw [n30]; exact (longS_ok z).2
        have hr30 := fun (M : Mem) => r_is_grammar (M := M) (.inl (rfl : D.lst l30 = .lst l30)) (fun d hd => by
          obtain ⟨z, rfl⟩ := a30 d hd
          exact (longS_ok z).1) (k := k) (by omega)
        rw [h30] at hr30
        refine run_is (hr30 _) (Nat.le_refl _) ?_
        conv => whnf
        refine ⟨⟨by decide, by decide⟩, ?_⟩
        refine each_inv (fun rem env M' => ∃ (j n : Nat) (e2 e3 e4 e10 : Option D), j + n = 33 ∧ rem = rng (j : Int) n ∧ env = [some (.scr ns), some (.lst (gs.map gD)), e2, e3, e4, none, e6, e7, e8, e9, e10]) ?_ ?_ _ _ _ ⟨0, 33, _, _, _, _, rfl, rfl, rfl⟩
        · rintro x rem env M5 ⟨j, n, e2, e3, e4, e10, hjn, hr, rfl⟩
          obtain ⟨rfl, hn0, hr⟩ := rng_step hr
          refine ⟨trivial, ?_⟩
          conv => whnf
          refine ⟨lok rfl, ?_⟩
          refine ⟨lok rfl, ?_⟩
          conv => whnf
          refine ⟨by omega, by omega, szN (by show 1 * _ ≤ _; omega), ?_⟩
          change newL true (List.replicate (((j : Nat) : Int).toNat) [endT]).flatten M5 _
          rw [Int.toNat_natCast, reps_end]
          refine ⟨szN (by rw [List.length_replicate]; omega), ?_⟩
          have hre := fun (M : Mem) => r_is_grammar (M := M) (.inl (rfl : D.lst (List.replicate j endT) = .lst (List.replicate j endT))) (fun d hd => by
            rw [(List.mem_replicate.mp hd).2]; exact endT_ok) (k := k) (by omega)
          rw [isGr_ends] at hre
          refine run_is (hre _) (Nat.le_refl _) ?_
          have hval : (decide (1 ≤ j) && decide (j ≤ 30)) = (decide ((0 : Int) < (j : Int)) && decide ((j : Int) < 31)) := by
            rw [show decide (1 ≤ j) = decide ((0 : Int) < (j : Int)) from decide_eq_decide.mpr (by omega), show decide (j ≤ 30) = decide ((j : Int) < 31) from decide_eq_decide.mpr (by omega)]
          rw [hval]
          have fin : ∃ (j_1 n_1 : Nat) (e2_1 e3_1 e4_1 e10_1 : Option D), j_1 + n_1 = 33 ∧ rem = rng (j_1 : Int) n_1 ∧ [some (D.scr ns), some (.lst (gs.map gD)), e2, e3, some (.int (j : Int)), none, e6, e7, e8, e9, some (.bl (decide ((0 : Int) < (j : Int)) && decide ((j : Int) < 31)))] = [some (.scr ns), some (.lst (gs.map gD)), e2_1, e3_1, e4_1, none, e6, e7, e8, e9, e10_1] := ⟨j + 1, n - 1, _, _, _, _, by omega, hr, rfl⟩
          revert fin
          by_cases a : (0 : Int) < (j : Int)
          · rw [decide_eq_true a]
            by_cases b : (j : Int) < 31
            · rw [decide_eq_true b]
              intro fin
              conv => whnf
              rw [decide_eq_true a]
              conv => whnf
              rw [decide_eq_true b]
              exact fin
            · rw [decide_eq_false b]
              intro fin
              conv => whnf
              rw [decide_eq_true a]
              conv => whnf
              rw [decide_eq_false b]
              exact fin
          · rw [decide_eq_false a]
            intro fin
            conv => whnf
            rw [decide_eq_false a]
            exact fin
        · rintro env M5 ⟨j, n, e2, e3, e4, e10, hjn, hr, rfl⟩
          refine ⟨trivial, ?_⟩
          conv => whnf
          refine ⟨lok rfl, ?_⟩
          refine ⟨lok rfl, ?_⟩
          refine ⟨lok rfl, ?_⟩
          conv => whnf
          refine ⟨lok rfl, ?_⟩
          conv => whnf
          refine ⟨lok rfl, ?_⟩
          conv => whnf
          refine ⟨lok rfl, ?_⟩
          refine ⟨lok rfl, ?_⟩
          refine ⟨lok rfl, ?_⟩
          conv => whnf
          refine ⟨lok rfl, ?_⟩
          refine ⟨lok rfl, ?_⟩
          refine ⟨lok rfl, ?_⟩
          have hNo : StOk D.non := sm_stOk rfl (by decide)
          have hall : ∀ d ∈ [D.non, .bl true, .int 0, .str "end", .tup [.str "end"], .tup [.tup [.str "end"]], .emp, .lst [.non], .lst [.lst (gs.map gD)], .tup (gs.map gD), .lst [.tup [.str "end"], .lst [.str "end"]], .lst [.tup []]], NoG d :=
            all_cons (noG_else fun M => rfl) (all_cons (noG_else fun M => rfl) (all_cons (noG_else fun M => rfl) (all_cons (noG_else fun M => rfl) (all_cons (noG_else fun M => rfl) (all_cons (noG_else fun M => rfl) (all_cons (noG_else fun M => rfl)
              (all_cons (noG_lst (all_cons hNo all_nil) rfl)
                (all_cons (noG_lst (all_cons (sm_stOk hsm.1 (by have := hsm.2.1; omega)) all_nil) rfl)
                  (all_cons (noG_else fun M => rfl)
                    (all_cons (noG_lst (all_cons endT_ok (all_cons (sm_stOk (by decide +kernel) (by decide)) all_nil)) (by decide +kernel))
                      (all_cons (noG_lst (all_cons (sm_stOk (by decide +kernel) (by decide)) all_nil) rfl) all_nil)))))))))))
          refine each_inv (fun rem env M' => ∃ (e2 e3 e4 e5 e10 : Option D), (∀ d ∈ rem, NoG d) ∧ env = [some (.scr ns), some (.lst (gs.map gD)), e2, e3, e4, e5, e6, e7, e8, e9, e10]) ?_ ?_ [D.non, .bl true, .int 0, .str "end", .tup [.str "end"], .tup [.tup [.str "end"]], .emp, .lst [.non], .lst [.lst (gs.map gD)], .tup (gs.map gD), .lst [.tup [.str "end"], .lst [.str "end"]], .lst [.tup []]] _ _ ⟨_, _, _, _, _, hall, rfl⟩
          · rintro x rem env M6 ⟨e2, e3, e4, e5, e10, hx, rfl⟩
            refine ⟨trivial, ?_⟩
            have h1 := hx x (by simp)
            have h2 := fun d hd => hx d (List.mem_cons_of_mem x hd)
            conv => whnf
            refine run_is (h1 k _ (by omega)) (Nat.le_refl _) ?_
            conv => whnf
            exact ⟨_, _, _, _, _, h2, rfl⟩
          · rintro env M6 ⟨e2, e3, e4, e5, e10, hx, rfl⟩
            refine ⟨trivial, ?_⟩
            conv => whnf
            exact .done rfl
end Wp

namespace Wp
open PySem
def lawK : Nat := 100
theorem law_holds (ns : List Int) (hn : ns.length ≤ 63) : run tab (lawK + 1) f_law [.scr ns] (fun _ => none) (fun d _ => d = .bl true) fun _ _ => False := r_law13 ns hn _ (by decide)
end Wp

namespace Wp
open PySem PySem.Spec PyProof.Rows L2
def topS (i : Nat) : Stmt := PySem.Challenge.pw_wireparley_k13_what_is_a_grammar.main.body.getD i (.Pass ⟨0, 0, 0, 0⟩)
def tb : Tb where
  nm := fun f => match f with
    | 0 => some "is_whole"
    | 1 => some "is_most"
    | 2 => some "are_bounds"
    | 3 => some "within"
    | 4 => some "is_shape"
    | 5 => some "is_name"
    | 6 => some "is_number_of"
    | 7 => some "is_word"
    | 8 => some "is_state"
    | 9 => some "is_grammar"
    | 10 => some "_law_cell"
    | 11 => some "_law_state"
    | 12 => some "_law_take"
    | 13 => some "_law_shape"
    | 14 => some "_law_names"
    | 15 => some "_law_grammar"
    | 16 => some "_law_odd_shape"
    | 17 => some "_law_odd_word"
    | 18 => some "_law_odd_state"
    | 19 => some "law"
    | _ => none
  ar := fun f => match f with
    | 0 => 1
    | 1 => 1
    | 2 => 2
    | 3 => 1
    | 4 => 1
    | 5 => 1
    | 6 => 2
    | 7 => 2
    | 8 => 2
    | 9 => 1
    | 10 => 2
    | 11 => 2
    | 12 => 2
    | 13 => 2
    | 14 => 2
    | 15 => 3
    | 16 => 1
    | 17 => 3
    | 18 => 3
    | 19 => 1
    | _ => 0
  cs := [("MOST", (.int (250))), ("GREATEST", (.int (1000000000000000000))), ("MOST_CHOICES", (.int (9))), ("MOST_SHAPES", (.int (60))), ("DEEPEST", (.int (6))), ("LETTERS", (.str "abcdefghijklmnopqrstuvwxyz")), ("LONGEST", (.int (8))), ("MOST_WORDS", (.int (9))), ("END", (.tup [(.str "end")])), ("MOST_STATES", (.int (30)))]
  bn := ["isinstance", "bool", "int", "len", "tuple", "str", "enumerate", "list", "range", "max", "min"]
def d_is_whole : He.DefD := ⟨("is_whole", none), "is_whole", "is_whole", defArgs (topS 6), defBody (topS 6), defScope (topS 6), [], []⟩
def n_is_whole : List Str := ["thing"]
theorem c_is_whole : chkL tb n_is_whole (defScope (topS 6)) b_is_whole.body (defBody (topS 6)) = true := by decide +kernel
theorem s_is_whole : FnScope n_is_whole ["thing"] (defScope (topS 6)) := ⟨by rfl, by rfl, by rfl, by decide +kernel, by rfl, by decide +kernel, by decide +kernel⟩
def d_is_most : He.DefD := ⟨("is_most", none), "is_most", "is_most", defArgs (topS 7), defBody (topS 7), defScope (topS 7), [], []⟩
def n_is_most : List Str := ["thing"]
theorem c_is_most : chkL tb n_is_most (defScope (topS 7)) b_is_most.body (defBody (topS 7)) = true := by decide +kernel
theorem s_is_most : FnScope n_is_most ["thing"] (defScope (topS 7)) := ⟨by rfl, by rfl, by rfl, by decide +kernel, by rfl, by decide +kernel, by decide +kernel⟩
def d_are_bounds : He.DefD := ⟨("are_bounds", none), "are_bounds", "are_bounds", defArgs (topS 8), defBody (topS 8), defScope (topS 8), [], []⟩
def n_are_bounds : List Str := ["low", "high"]
theorem c_are_bounds : chkL tb n_are_bounds (defScope (topS 8)) b_are_bounds.body (defBody (topS 8)) = true := by decide +kernel
theorem s_are_bounds : FnScope n_are_bounds ["low", "high"] (defScope (topS 8)) := ⟨by rfl, by rfl, by rfl, by decide +kernel, by rfl, by decide +kernel, by decide +kernel⟩
def d_within : He.DefD := ⟨("within", none), "within", "within", defArgs (topS 9), defBody (topS 9), defScope (topS 9), [], []⟩
def n_within : List Str := ["thing", "kind"]
theorem c_within : chkL tb n_within (defScope (topS 9)) b_within.body (defBody (topS 9)) = true := by decide +kernel
theorem s_within : FnScope n_within ["thing"] (defScope (topS 9)) := ⟨by rfl, by rfl, by rfl, by decide +kernel, by rfl, by decide +kernel, by decide +kernel⟩
def d_is_shape : He.DefD := ⟨("is_shape", none), "is_shape", "is_shape", defArgs (topS 10), defBody (topS 10), defScope (topS 10), [], []⟩
def n_is_shape : List Str := ["thing", "row", "at", "parts", "part", "one", "depth"]
theorem c_is_shape : chkL tb n_is_shape (defScope (topS 10)) b_is_shape.body (defBody (topS 10)) = true := by decide +kernel
theorem s_is_shape : FnScope n_is_shape ["thing"] (defScope (topS 10)) := ⟨by rfl, by rfl, by rfl, by decide +kernel, by rfl, by decide +kernel, by decide +kernel⟩
def d_is_name : He.DefD := ⟨("is_name", none), "is_name", "is_name", defArgs (topS 17), defBody (topS 17), defScope (topS 17), [], []⟩
def n_is_name : List Str := ["thing", "letter"]
theorem c_is_name : chkL tb n_is_name (defScope (topS 17)) b_is_name.body (defBody (topS 17)) = true := by decide +kernel
theorem s_is_name : FnScope n_is_name ["thing"] (defScope (topS 17)) := ⟨by rfl, by rfl, by rfl, by decide +kernel, by rfl, by decide +kernel, by decide +kernel⟩
def d_is_number_of : He.DefD := ⟨("is_number_of", none), "is_number_of", "is_number_of", defArgs (topS 18), defBody (topS 18), defScope (topS 18), [], []⟩
def n_is_number_of : List Str := ["thing", "many"]
theorem c_is_number_of : chkL tb n_is_number_of (defScope (topS 18)) b_is_number_of.body (defBody (topS 18)) = true := by decide +kernel
theorem s_is_number_of : FnScope n_is_number_of ["thing", "many"] (defScope (topS 18)) := ⟨by rfl, by rfl, by rfl, by decide +kernel, by rfl, by decide +kernel, by decide +kernel⟩
def d_is_word : He.DefD := ⟨("is_word", none), "is_word", "is_word", defArgs (topS 19), defBody (topS 19), defScope (topS 19), [], []⟩
def n_is_word : List Str := ["thing", "many"]
theorem c_is_word : chkL tb n_is_word (defScope (topS 19)) b_is_word.body (defBody (topS 19)) = true := by decide +kernel
theorem s_is_word : FnScope n_is_word ["thing", "many"] (defScope (topS 19)) := ⟨by rfl, by rfl, by rfl, by decide +kernel, by rfl, by decide +kernel, by decide +kernel⟩
def d_is_state : He.DefD := ⟨("is_state", none), "is_state", "is_state", defArgs (topS 20), defBody (topS 20), defScope (topS 20), [], []⟩
def n_is_state : List Str := ["thing", "many", "words", "place", "word", "other"]
theorem c_is_state : chkL tb n_is_state (defScope (topS 20)) b_is_state.body (defBody (topS 20)) = true := by decide +kernel
theorem s_is_state : FnScope n_is_state ["thing", "many"] (defScope (topS 20)) := ⟨by rfl, by rfl, by rfl, by decide +kernel, by rfl, by decide +kernel, by decide +kernel⟩
def d_is_grammar : He.DefD := ⟨("is_grammar", none), "is_grammar", "is_grammar", defArgs (topS 21), defBody (topS 21), defScope (topS 21), [], []⟩
def n_is_grammar : List Str := ["thing", "state"]
theorem c_is_grammar : chkL tb n_is_grammar (defScope (topS 21)) b_is_grammar.body (defBody (topS 21)) = true := by decide +kernel
theorem s_is_grammar : FnScope n_is_grammar ["thing"] (defScope (topS 21)) := ⟨by rfl, by rfl, by rfl, by decide +kernel, by rfl, by decide +kernel, by decide +kernel⟩
def d_law_cell : He.DefD := ⟨("_law_cell", none), "_law_cell", "_law_cell", defArgs (topS 23), defBody (topS 23), defScope (topS 23), [], []⟩
def n_law_cell : List Str := ["script", "k"]
theorem c_law_cell : chkL tb n_law_cell (defScope (topS 23)) b_law_cell.body (defBody (topS 23)) = true := by decide +kernel
theorem s_law_cell : FnScope n_law_cell ["script", "k"] (defScope (topS 23)) := ⟨by rfl, by rfl, by rfl, by decide +kernel, by rfl, by decide +kernel, by decide +kernel⟩
def d_law_state : He.DefD := ⟨("_law_state", none), "_law_state", "_law_state", defArgs (topS 24), defBody (topS 24), defScope (topS 24), [], []⟩
def n_law_state : List Str := ["script", "k"]
theorem c_law_state : chkL tb n_law_state (defScope (topS 24)) b_law_state.body (defBody (topS 24)) = true := by decide +kernel
theorem s_law_state : FnScope n_law_state ["script", "k"] (defScope (topS 24)) := ⟨by rfl, by rfl, by rfl, by decide +kernel, by rfl, by decide +kernel, by decide +kernel⟩
def d_law_take : He.DefD := ⟨("_law_take", none), "_law_take", "_law_take", defArgs (topS 25), defBody (topS 25), defScope (topS 25), [], []⟩
def n_law_take : List Str := ["state", "many", "stir", "found"]
theorem c_law_take : chkL tb n_law_take (defScope (topS 25)) b_law_take.body (defBody (topS 25)) = true := by decide +kernel
theorem s_law_take : FnScope n_law_take ["state", "many"] (defScope (topS 25)) := ⟨by rfl, by rfl, by rfl, by decide +kernel, by rfl, by decide +kernel, by decide +kernel⟩
def d_law_shape : He.DefD := ⟨("_law_shape", none), "_law_shape", "_law_shape", defArgs (topS 26), defBody (topS 26), defScope (topS 26), [], []⟩
def n_law_shape : List Str := ["state", "deep", "kind", "low", "k"]
theorem c_law_shape : chkL tb n_law_shape (defScope (topS 26)) b_law_shape.body (defBody (topS 26)) = true := by decide +kernel
theorem s_law_shape : FnScope n_law_shape ["state", "deep"] (defScope (topS 26)) := ⟨by rfl, by rfl, by rfl, by decide +kernel, by rfl, by decide +kernel, by decide +kernel⟩
def d_law_names : He.DefD := ⟨("_law_names", none), "_law_names", "_law_names", defArgs (topS 27), defBody (topS 27), defScope (topS 27), [], []⟩
def n_law_names : List Str := ["many", "off", "some", "k"]
theorem c_law_names : chkL tb n_law_names (defScope (topS 27)) b_law_names.body (defBody (topS 27)) = true := by decide +kernel
theorem s_law_names : FnScope n_law_names ["many", "off"] (defScope (topS 27)) := ⟨by rfl, by rfl, by rfl, by decide +kernel, by rfl, by decide +kernel, by decide +kernel⟩
def d_law_grammar : He.DefD := ⟨("_law_grammar", none), "_law_grammar", "_law_grammar", defArgs (topS 28), defBody (topS 28), defScope (topS 28), [], []⟩
def n_law_grammar : List Str := ["script", "first", "most", "shape", "many", "found", "k", "state", "side", "count", "names", "words", "name"]
theorem c_law_grammar : chkL tb n_law_grammar (defScope (topS 28)) b_law_grammar.body (defBody (topS 28)) = true := by decide +kernel
theorem s_law_grammar : FnScope n_law_grammar ["script", "first", "most"] (defScope (topS 28)) := ⟨by rfl, by rfl, by rfl, by decide +kernel, by rfl, by decide +kernel, by decide +kernel⟩
def d_law_odd_shape : He.DefD := ⟨("_law_odd_shape", none), "_law_odd_shape", "_law_odd_shape", defArgs (topS 29), defBody (topS 29), defScope (topS 29), [], []⟩
def n_law_odd_shape : List Str := ["kind", "deep", "k", "wide", "some"]
theorem c_law_odd_shape : chkL tb n_law_odd_shape (defScope (topS 29)) b_law_odd_shape.body (defBody (topS 29)) = true := by decide +kernel
theorem s_law_odd_shape : FnScope n_law_odd_shape ["kind"] (defScope (topS 29)) := ⟨by rfl, by rfl, by rfl, by decide +kernel, by rfl, by decide +kernel, by decide +kernel⟩
def d_law_odd_word : He.DefD := ⟨("_law_odd_word", none), "_law_odd_word", "_law_odd_word", defArgs (topS 30), defBody (topS 30), defScope (topS 30), [], []⟩
def n_law_odd_word : List Str := ["word", "kind", "many", "some", "name", "shape", "then"]
theorem c_law_odd_word : chkL tb n_law_odd_word (defScope (topS 30)) b_law_odd_word.body (defBody (topS 30)) = true := by decide +kernel
theorem s_law_odd_word : FnScope n_law_odd_word ["word", "kind", "many"] (defScope (topS 30)) := ⟨by rfl, by rfl, by rfl, by decide +kernel, by rfl, by decide +kernel, by decide +kernel⟩
def d_law_odd_state : He.DefD := ⟨("_law_odd_state", none), "_law_odd_state", "_law_odd_state", defArgs (topS 31), defBody (topS 31), defScope (topS 31), [], []⟩
def n_law_odd_state : List Str := ["state", "kind", "many", "at", "odd", "some", "long", "side", "words", "letter"]
theorem c_law_odd_state : chkL tb n_law_odd_state (defScope (topS 31)) b_law_odd_state.body (defBody (topS 31)) = true := by decide +kernel
theorem s_law_odd_state : FnScope n_law_odd_state ["state", "kind", "many"] (defScope (topS 31)) := ⟨by rfl, by rfl, by rfl, by decide +kernel, by rfl, by decide +kernel, by decide +kernel⟩
def d_law : He.DefD := ⟨("law", none), "law", "law", defArgs (topS 32), defBody (topS 32), defScope (topS 32), [], []⟩
def n_law : List Str := ["script", "g", "k", "deep", "many", "thing", "cell", "at", "state", "bad", "told"]
theorem c_law : chkL tb n_law (defScope (topS 32)) b_law.body (defBody (topS 32)) = true := by decide +kernel
theorem s_law : FnScope n_law ["script"] (defScope (topS 32)) := ⟨by rfl, by rfl, by rfl, by decide +kernel, by rfl, by decide +kernel, by decide +kernel⟩
def fa : List He.Fa := [.glo "is_whole", .glo "is_most", .glo "are_bounds", .glo "within", .glo "is_shape", .glo "is_name", .glo "is_number_of", .glo "is_word", .glo "is_state", .glo "is_grammar", .glo "_law_cell", .glo "_law_state", .glo "_law_take", .glo "_law_shape", .glo "_law_names", .glo "_law_grammar", .glo "_law_odd_shape", .glo "_law_odd_word", .glo "_law_odd_state", .glo "law", .free "isinstance", .free "bool", .free "int", .free "len", .free "tuple", .free "str", .free "enumerate", .free "list", .free "range", .free "max", .free "min", .int "MOST" (250), .int "GREATEST" (1000000000000000000), .int "MOST_CHOICES" (9), .int "MOST_SHAPES" (60), .int "DEEPEST" (6), .str "LETTERS" "abcdefghijklmnopqrstuvwxyz", .int "LONGEST" (8), .int "MOST_WORDS" (9), .glo "END", .int "MOST_STATES" (30)]
def us : List (PySem.Str × List (Sum Int PySem.Str)) := [("END", [.inr "end"])]
def fns : List He.DefD := [d_is_whole, d_is_most, d_are_bounds, d_within, d_is_shape, d_is_name, d_is_number_of, d_is_word, d_is_state, d_is_grammar, d_law_cell, d_law_state, d_law_take, d_law_shape, d_law_names, d_law_grammar, d_law_odd_shape, d_law_odd_word, d_law_odd_state, d_law]
set_option maxHeartbeats 0 in
theorem prg {K : PySem.W.Frag} {h : Heap} {mg : Str → Option Value} (X : K.In h) (G : h.Ns mainGlobals mg) (cu : SaysU fa fns us K) : Prg K mg tb tab (fun _ => none) (fun _ => none) := by
  have c := cu.d
  refine ⟨fun f x hx => ?_, fun p hp => ?_, fun x hx => ?_, xt_no, fun c0 f x h1 h2 => ?_, fun c0 x h1 h2 => ?_, rfl, fun f c1 m hx => ?_, ?_, ?_, fun c0 x h1 h2 => ?_⟩
  · match f, hx with
    | 0, hx =>
      cases hx
      obtain ⟨fd, F⟩ := c.def_ 0 (d := d_is_whole) rfl
      exact ⟨b_is_whole, _, fd, n_is_whole, _, _, _, _, _, _, rfl, He.glo_ok X G (c.fact 0 (f := .glo "is_whole") rfl), F, FunD.bindsN (ps := ["thing"]) F (fun _ _ _ _ _ _ us hl => match us, hl with | [_], _ => rfl), s_is_whole, rfl, rfl, rfl, c_is_whole⟩
    | 1, hx =>
      cases hx
      obtain ⟨fd, F⟩ := c.def_ 1 (d := d_is_most) rfl
      exact ⟨b_is_most, _, fd, n_is_most, _, _, _, _, _, _, rfl, He.glo_ok X G (c.fact 1 (f := .glo "is_most") rfl), F, FunD.bindsN (ps := ["thing"]) F (fun _ _ _ _ _ _ us hl => match us, hl with | [_], _ => rfl), s_is_most, rfl, rfl, rfl, c_is_most⟩
    | 2, hx =>
      cases hx
      obtain ⟨fd, F⟩ := c.def_ 2 (d := d_are_bounds) rfl
      exact ⟨b_are_bounds, _, fd, n_are_bounds, _, _, _, _, _, _, rfl, He.glo_ok X G (c.fact 2 (f := .glo "are_bounds") rfl), F, FunD.bindsN (ps := ["low", "high"]) F (fun _ _ _ _ _ _ us hl => match us, hl with | [_, _], _ => rfl), s_are_bounds, rfl, rfl, rfl, c_are_bounds⟩
    | 3, hx =>
      cases hx
      obtain ⟨fd, F⟩ := c.def_ 3 (d := d_within) rfl
      exact ⟨b_within, _, fd, n_within, _, _, _, _, _, _, rfl, He.glo_ok X G (c.fact 3 (f := .glo "within") rfl), F, FunD.bindsN (ps := ["thing"]) F (fun _ _ _ _ _ _ us hl => match us, hl with | [_], _ => rfl), s_within, rfl, rfl, rfl, c_within⟩
    | 4, hx =>
      cases hx
      obtain ⟨fd, F⟩ := c.def_ 4 (d := d_is_shape) rfl
      exact ⟨b_is_shape, _, fd, n_is_shape, _, _, _, _, _, _, rfl, He.glo_ok X G (c.fact 4 (f := .glo "is_shape") rfl), F, FunD.bindsN (ps := ["thing"]) F (fun _ _ _ _ _ _ us hl => match us, hl with | [_], _ => rfl), s_is_shape, rfl, rfl, rfl, c_is_shape⟩
    | 5, hx =>
      cases hx
      obtain ⟨fd, F⟩ := c.def_ 5 (d := d_is_name) rfl
      exact ⟨b_is_name, _, fd, n_is_name, _, _, _, _, _, _, rfl, He.glo_ok X G (c.fact 5 (f := .glo "is_name") rfl), F, FunD.bindsN (ps := ["thing"]) F (fun _ _ _ _ _ _ us hl => match us, hl with | [_], _ => rfl), s_is_name, rfl, rfl, rfl, c_is_name⟩
    | 6, hx =>
      cases hx
      obtain ⟨fd, F⟩ := c.def_ 6 (d := d_is_number_of) rfl
      exact ⟨b_is_number_of, _, fd, n_is_number_of, _, _, _, _, _, _, rfl, He.glo_ok X G (c.fact 6 (f := .glo "is_number_of") rfl), F, FunD.bindsN (ps := ["thing", "many"]) F (fun _ _ _ _ _ _ us hl => match us, hl with | [_, _], _ => rfl), s_is_number_of, rfl, rfl, rfl, c_is_number_of⟩
    | 7, hx =>
      cases hx
      obtain ⟨fd, F⟩ := c.def_ 7 (d := d_is_word) rfl
      exact ⟨b_is_word, _, fd, n_is_word, _, _, _, _, _, _, rfl, He.glo_ok X G (c.fact 7 (f := .glo "is_word") rfl), F, FunD.bindsN (ps := ["thing", "many"]) F (fun _ _ _ _ _ _ us hl => match us, hl with | [_, _], _ => rfl), s_is_word, rfl, rfl, rfl, c_is_word⟩
    | 8, hx =>
      cases hx
      obtain ⟨fd, F⟩ := c.def_ 8 (d := d_is_state) rfl
      exact ⟨b_is_state, _, fd, n_is_state, _, _, _, _, _, _, rfl, He.glo_ok X G (c.fact 8 (f := .glo "is_state") rfl), F, FunD.bindsN (ps := ["thing", "many"]) F (fun _ _ _ _ _ _ us hl => match us, hl with | [_, _], _ => rfl), s_is_state, rfl, rfl, rfl, c_is_state⟩
    | 9, hx =>
      cases hx
      obtain ⟨fd, F⟩ := c.def_ 9 (d := d_is_grammar) rfl
      exact ⟨b_is_grammar, _, fd, n_is_grammar, _, _, _, _, _, _, rfl, He.glo_ok X G (c.fact 9 (f := .glo "is_grammar") rfl), F, FunD.bindsN (ps := ["thing"]) F (fun _ _ _ _ _ _ us hl => match us, hl with | [_], _ => rfl), s_is_grammar, rfl, rfl, rfl, c_is_grammar⟩
    | 10, hx =>
      cases hx
      obtain ⟨fd, F⟩ := c.def_ 10 (d := d_law_cell) rfl
      exact ⟨b_law_cell, _, fd, n_law_cell, _, _, _, _, _, _, rfl, He.glo_ok X G (c.fact 10 (f := .glo "_law_cell") rfl), F, FunD.bindsN (ps := ["script", "k"]) F (fun _ _ _ _ _ _ us hl => match us, hl with | [_, _], _ => rfl), s_law_cell, rfl, rfl, rfl, c_law_cell⟩
    | 11, hx =>
      cases hx
      obtain ⟨fd, F⟩ := c.def_ 11 (d := d_law_state) rfl
      exact ⟨b_law_state, _, fd, n_law_state, _, _, _, _, _, _, rfl, He.glo_ok X G (c.fact 11 (f := .glo "_law_state") rfl), F, FunD.bindsN (ps := ["script", "k"]) F (fun _ _ _ _ _ _ us hl => match us, hl with | [_, _], _ => rfl), s_law_state, rfl, rfl, rfl, c_law_state⟩
    | 12, hx =>
      cases hx
      obtain ⟨fd, F⟩ := c.def_ 12 (d := d_law_take) rfl
      exact ⟨b_law_take, _, fd, n_law_take, _, _, _, _, _, _, rfl, He.glo_ok X G (c.fact 12 (f := .glo "_law_take") rfl), F, FunD.bindsN (ps := ["state", "many"]) F (fun _ _ _ _ _ _ us hl => match us, hl with | [_, _], _ => rfl), s_law_take, rfl, rfl, rfl, c_law_take⟩
    | 13, hx =>
      cases hx
      obtain ⟨fd, F⟩ := c.def_ 13 (d := d_law_shape) rfl
      exact ⟨b_law_shape, _, fd, n_law_shape, _, _, _, _, _, _, rfl, He.glo_ok X G (c.fact 13 (f := .glo "_law_shape") rfl), F, FunD.bindsN (ps := ["state", "deep"]) F (fun _ _ _ _ _ _ us hl => match us, hl with | [_, _], _ => rfl), s_law_shape, rfl, rfl, rfl, c_law_shape⟩
    | 14, hx =>
      cases hx
      obtain ⟨fd, F⟩ := c.def_ 14 (d := d_law_names) rfl
      exact ⟨b_law_names, _, fd, n_law_names, _, _, _, _, _, _, rfl, He.glo_ok X G (c.fact 14 (f := .glo "_law_names") rfl), F, FunD.bindsN (ps := ["many", "off"]) F (fun _ _ _ _ _ _ us hl => match us, hl with | [_, _], _ => rfl), s_law_names, rfl, rfl, rfl, c_law_names⟩
    | 15, hx =>
      cases hx
      obtain ⟨fd, F⟩ := c.def_ 15 (d := d_law_grammar) rfl
      exact ⟨b_law_grammar, _, fd, n_law_grammar, _, _, _, _, _, _, rfl, He.glo_ok X G (c.fact 15 (f := .glo "_law_grammar") rfl), F, FunD.bindsN (ps := ["script", "first", "most"]) F (fun _ _ _ _ _ _ us hl => match us, hl with | [_, _, _], _ => rfl), s_law_grammar, rfl, rfl, rfl, c_law_grammar⟩
    | 16, hx =>
      cases hx
      obtain ⟨fd, F⟩ := c.def_ 16 (d := d_law_odd_shape) rfl
      exact ⟨b_law_odd_shape, _, fd, n_law_odd_shape, _, _, _, _, _, _, rfl, He.glo_ok X G (c.fact 16 (f := .glo "_law_odd_shape") rfl), F, FunD.bindsN (ps := ["kind"]) F (fun _ _ _ _ _ _ us hl => match us, hl with | [_], _ => rfl), s_law_odd_shape, rfl, rfl, rfl, c_law_odd_shape⟩
    | 17, hx =>
      cases hx
      obtain ⟨fd, F⟩ := c.def_ 17 (d := d_law_odd_word) rfl
      exact ⟨b_law_odd_word, _, fd, n_law_odd_word, _, _, _, _, _, _, rfl, He.glo_ok X G (c.fact 17 (f := .glo "_law_odd_word") rfl), F, FunD.bindsN (ps := ["word", "kind", "many"]) F (fun _ _ _ _ _ _ us hl => match us, hl with | [_, _, _], _ => rfl), s_law_odd_word, rfl, rfl, rfl, c_law_odd_word⟩
    | 18, hx =>
      cases hx
      obtain ⟨fd, F⟩ := c.def_ 18 (d := d_law_odd_state) rfl
      exact ⟨b_law_odd_state, _, fd, n_law_odd_state, _, _, _, _, _, _, rfl, He.glo_ok X G (c.fact 18 (f := .glo "_law_odd_state") rfl), F, FunD.bindsN (ps := ["state", "kind", "many"]) F (fun _ _ _ _ _ _ us hl => match us, hl with | [_, _, _], _ => rfl), s_law_odd_state, rfl, rfl, rfl, c_law_odd_state⟩
    | 19, hx =>
      cases hx
      obtain ⟨fd, F⟩ := c.def_ 19 (d := d_law) rfl
      exact ⟨b_law, _, fd, n_law, _, _, _, _, _, _, rfl, He.glo_ok X G (c.fact 19 (f := .glo "law") rfl), F, FunD.bindsN (ps := ["script"]) F (fun _ _ _ _ _ _ us hl => match us, hl with | [_], _ => rfl), s_law, rfl, rfl, rfl, c_law⟩
    | n + 20, hx => cases hx
  · simp only [tb, List.mem_cons, List.not_mem_nil, or_false] at hp
    rcases hp with rfl | rfl | rfl | rfl | rfl | rfl | rfl | rfl | rfl | rfl
    · obtain ⟨t, e⟩ := He.int_ok X G (c.fact 31 (f := .int "MOST" (250)) rfl)
      exact ⟨.int (250), _, e, ⟨t, rfl⟩, fun G F _ => .int _⟩
    · obtain ⟨t, e⟩ := He.int_ok X G (c.fact 32 (f := .int "GREATEST" (1000000000000000000)) rfl)
      exact ⟨.int (1000000000000000000), _, e, ⟨t, rfl⟩, fun G F _ => .int _⟩
    · obtain ⟨t, e⟩ := He.int_ok X G (c.fact 33 (f := .int "MOST_CHOICES" (9)) rfl)
      exact ⟨.int (9), _, e, ⟨t, rfl⟩, fun G F _ => .int _⟩
    · obtain ⟨t, e⟩ := He.int_ok X G (c.fact 34 (f := .int "MOST_SHAPES" (60)) rfl)
      exact ⟨.int (60), _, e, ⟨t, rfl⟩, fun G F _ => .int _⟩
    · obtain ⟨t, e⟩ := He.int_ok X G (c.fact 35 (f := .int "DEEPEST" (6)) rfl)
      exact ⟨.int (6), _, e, ⟨t, rfl⟩, fun G F _ => .int _⟩
    · obtain ⟨t, e⟩ := He.str_ok X G (c.fact 36 (f := .str "LETTERS" "abcdefghijklmnopqrstuvwxyz") rfl)
      exact ⟨.str "abcdefghijklmnopqrstuvwxyz", _, e, ⟨t, rfl⟩, fun G F _ => .str _⟩
    · obtain ⟨t, e⟩ := He.int_ok X G (c.fact 37 (f := .int "LONGEST" (8)) rfl)
      exact ⟨.int (8), _, e, ⟨t, rfl⟩, fun G F _ => .int _⟩
    · obtain ⟨t, e⟩ := He.int_ok X G (c.fact 38 (f := .int "MOST_WORDS" (9)) rfl)
      exact ⟨.int (9), _, e, ⟨t, rfl⟩, fun G F _ => .int _⟩
    · exact ⟨.ref (He.ga K "END"), .ref (He.ga K "END"), He.glo_ok X G (c.fact 39 (f := .glo "END") rfl), rfl, fun G F hK => tupB_ok (cu.tup 0) hK⟩
    · obtain ⟨t, e⟩ := He.int_ok X G (c.fact 40 (f := .int "MOST_STATES" (30)) rfl)
      exact ⟨.int (30), _, e, ⟨t, rfl⟩, fun G F _ => .int _⟩
  · simp only [tb, List.mem_cons, List.not_mem_nil, or_false] at hx
    rcases hx with rfl | rfl | rfl | rfl | rfl | rfl | rfl | rfl | rfl | rfl | rfl
    · exact He.free_ok X G (c.fact 20 (f := .free "isinstance") rfl)
    · exact He.free_ok X G (c.fact 21 (f := .free "bool") rfl)
    · exact He.free_ok X G (c.fact 22 (f := .free "int") rfl)
    · exact He.free_ok X G (c.fact 23 (f := .free "len") rfl)
    · exact He.free_ok X G (c.fact 24 (f := .free "tuple") rfl)
    · exact He.free_ok X G (c.fact 25 (f := .free "str") rfl)
    · exact He.free_ok X G (c.fact 26 (f := .free "enumerate") rfl)
    · exact He.free_ok X G (c.fact 27 (f := .free "list") rfl)
    · exact He.free_ok X G (c.fact 28 (f := .free "range") rfl)
    · exact He.free_ok X G (c.fact 29 (f := .free "max") rfl)
    · exact He.free_ok X G (c.fact 30 (f := .free "min") rfl)
  · cases h1
  · cases h1
  · cases hx
  · exact fun c C h => (by cases h)
  · exact fun c x h => (by cases h)
  · cases h1
def nm0 : List PySem.Str := ["MOST", "GREATEST", "MOST_CHOICES", "DEEPEST", "MOST_SHAPES", "is_whole", "is_most", "are_bounds", "within", "is_shape", "LETTERS", "END", "LONGEST", "MOST_WORDS", "MOST_STATES", "is_name", "is_number_of", "is_word", "is_state", "is_grammar", "_law_cell", "_law_state", "_law_take", "_law_shape", "_law_names", "_law_grammar", "_law_odd_shape", "_law_odd_word", "_law_odd_state"]
def loose : List PySem.Str := nm0
abbrev Rr : PySem.W.OpenRow := PySem.W.OpenLaw.row PySem.Challenge.rw_wireparley_k13_what_is_a_grammar
abbrev hk : PySem.W.Hook := hookU 4 fa fns us
def ob (s : PySem.W.SharedT) : AlU := obsUG 4 fa fns us (HandSHeadRun.getT s)
theorem ob_eq (s : PySem.W.SharedT) : ob s = hk.obs s.abs := obsUG_eq (HandSHeadRun.getT_eq s)
theorem hrun (w : World) : HandSHeadRun.RunEq Rr (PySem.W.view Rr.prog [32]) hk ob 3000 loose w := by
  intro os
  kernel_rfl
end Wp
open PySem PySem.W PySem.Calls PyProof.Rows
set_option maxRecDepth 100000 in
set_option maxHeartbeats 0 in
theorem PySem.Challenge.cw_wireparley_k13_what_is_a_grammar_holds : PySem.Challenge.rw_wireparley_k13_what_is_a_grammar.Holds := by
  w_on; o_law
  refine HandSHeadRun.head_any (r := OpenLaw.row PySem.Challenge.rw_wireparley_k13_what_is_a_grammar) (q := view (OpenLaw.row PySem.Challenge.rw_wireparley_k13_what_is_a_grammar).prog [32]) (H := Wp.hk) (ob := Wp.ob) (M := 3000) (loose := Wp.loose) (d := HandSHeadRun.topDef (OpenLaw.row PySem.Challenge.rw_wireparley_k13_what_is_a_grammar).prog 32) (kwd := []) Wp.ob_eq
    (by kernel_rfl) (fun s => by kernel_rfl) Wp.hrun (by kernel_rfl) (by kernel_rfl) (by kernel_rfl) (by rfl) (by first | assumption | decide +kernel) (by decide +kernel) ⟨rfl, rfl, rfl, rfl, rfl, by decide +kernel⟩ ?hw ?hc
  case hw => w_witness2
  case hc =>
    refine Wp.walk_ofW (l := PySem.Challenge.rw_wireparley_k13_what_is_a_grammar) (n := 63) (k := 2 * (Wp.lawK + 1) + 2) (x := "script") (CXw := L2.CX (PySem.Challenge.rw_wireparley_k13_what_is_a_grammar).prog) rfl (by decide) (by kernel_rfl) ⟨rfl, by decide, by decide⟩ ?F ?X
    case X =>
      intro w H s e s' h
      obtain ⟨_, _, _, _, _, _, _, _, _, _, _, _, z⟩ := h
      exact z
    case F =>
      intro w mg fa h Y G hmg0
      obtain ⟨K, KX, cu⟩ := Y
      have c := cu.d
      have hmg : mg ("law" : PySem.Str) = some (.ref fa) := by
        have e : (HandSHeadRun.topDef (OpenLaw.row PySem.Challenge.rw_wireparley_k13_what_is_a_grammar).prog 32).name = ("law" : PySem.Str) := by kernel_rfl
        rw [← e]
        exact hmg0
      obtain ⟨fd, F⟩ := c.def_ 19 (d := Wp.d_law) rfl
      have e := hmg.symm.trans (He.glo_ok KX G (c.fact 19 (f := .glo "law") rfl))
      cases e
      exact Wp.law_end (f := Wp.f_law) (N := Wp.n_law) (Wp.prg KX G cu) KX rfl F (L2.FunD.bindsA (ps := ["script"]) F fun _ _ _ _ _ _ us hl => match us, hl with | [_], _ => rfl) Wp.s_law rfl rfl rfl Wp.c_law (fun ns h _ => Wp.law_holds ns h)
